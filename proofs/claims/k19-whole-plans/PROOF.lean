import PyProof.Rows.All
import Wide.All
import OpenK.AllK
import Wide.FinOn
import HandS.ForMost
import HandS.ForExc
import HandS.Codes
import HandS.DictComp
import HandS.IsInst
import HandS.Star
import HandS.Defaults
import HandS.RaiseMore
import HandS.FStr
import HandS.StrMore
import HandS.TupAny
import HandS.NoneIn
import HandS.ClsMeth
import HandS.WordsDict
import KE.KStateDown
import KE.KSuper
import HandS.Head0
import HandS.Head1
import HandS.Head2
import HandS.HeadEnd
import HandS.HeadHook1
import HandS.HeadHook2
import HandS.HeadNt
import KE.KUnpackStar
import HandS.OwnEq
import KE.KCallOwn
import PyProof.InstNe
import KE.Datum
import HandS.ExcSuper
import HandS.ExcInit
import KE.KExcSuper
import HandS.Style
import PySem.Challenge.RW_stepsback_k19_whole_plans_and_their_part
set_option Elab.async false
set_option linter.all false
set_option maxRecDepth 100000
/-! The text by places (printed by gen_text.py). -/
namespace SB
open PySem L2
def top (i : Nat) : Stmt := PySem.Challenge.pw_stepsback_k19_whole_plans_and_their_part.main.body.getD i (.Pass ⟨0, 0, 0, 0⟩)
/-- is_name: slots 0 value, 1 sign -/
abbrev s_is_name : Stmt := top 12
abbrev n_is_name : List Str := ["value", "sign"]
theorem sc_is_name : FnScope n_is_name ["value"] (defScope s_is_name) := ⟨rfl, rfl, rfl, by decide +kernel, rfl, by decide +kernel, by decide +kernel⟩
/-- is_sequence: slots 0 value -/
abbrev s_is_sequence : Stmt := top 13
abbrev n_is_sequence : List Str := ["value"]
theorem sc_is_sequence : FnScope n_is_sequence ["value"] (defScope s_is_sequence) := ⟨rfl, rfl, rfl, by decide +kernel, rfl, by decide +kernel, by decide +kernel⟩
/-- are_names: slots 0 value, 1 one -/
abbrev s_are_names : Stmt := top 14
abbrev n_are_names : List Str := ["value", "one"]
theorem sc_are_names : FnScope n_are_names ["value"] (defScope s_are_names) := ⟨rfl, rfl, rfl, by decide +kernel, rfl, by decide +kernel, by decide +kernel⟩
/-- are_unlike_names: slots 0 value, 1 one -/
abbrev s_are_unlike_names : Stmt := top 15
abbrev n_are_unlike_names : List Str := ["value", "one"]
theorem sc_are_unlike_names : FnScope n_are_unlike_names ["value"] (defScope s_are_unlike_names) := ⟨rfl, rfl, rfl, by decide +kernel, rfl, by decide +kernel, by decide +kernel⟩
/-- ascending: slots 0 words, 1 word, 2 one -/
abbrev s_ascending : Stmt := top 16
abbrev n_ascending : List Str := ["words", "word", "one"]
theorem sc_ascending : FnScope n_ascending ["words"] (defScope s_ascending) := ⟨rfl, rfl, rfl, by decide +kernel, rfl, by decide +kernel, by decide +kernel⟩
/-- is_word: slots 0 value, 1 some -/
abbrev s_is_word : Stmt := top 24
abbrev n_is_word : List Str := ["value", "some"]
theorem sc_is_word : FnScope n_is_word ["value", "some"] (defScope s_is_word) := ⟨rfl, rfl, rfl, by decide +kernel, rfl, by decide +kernel, by decide +kernel⟩
/-- is_phase: slots 0 value -/
abbrev s_is_phase : Stmt := top 25
abbrev n_is_phase : List Str := ["value"]
theorem sc_is_phase : FnScope n_is_phase ["value"] (defScope s_is_phase) := ⟨rfl, rfl, rfl, by decide +kernel, rfl, by decide +kernel, by decide +kernel⟩
/-- is_test: slots 0 value, 1 word, 2 name -/
abbrev s_is_test : Stmt := top 26
abbrev n_is_test : List Str := ["value", "word", "name"]
theorem sc_is_test : FnScope n_is_test ["value"] (defScope s_is_test) := ⟨rfl, rfl, rfl, by decide +kernel, rfl, by decide +kernel, by decide +kernel⟩
/-- is_deed: slots 0 value, 1 word, 2 name -/
abbrev s_is_deed : Stmt := top 27
abbrev n_is_deed : List Str := ["value", "word", "name"]
theorem sc_is_deed : FnScope n_is_deed ["value"] (defScope s_is_deed) := ⟨rfl, rfl, rfl, by decide +kernel, rfl, by decide +kernel, by decide +kernel⟩
/-- Row.read: slots 0 cls, 1 text, 2 words, 3 found, 4 e -/
abbrev s_Row_read : Stmt := inClass (top 28) 0
abbrev n_Row_read : List Str := ["cls", "text", "words", "found", "e"]
theorem sc_Row_read : FnScope n_Row_read ["cls", "text"] (defScope s_Row_read) := ⟨rfl, rfl, rfl, by decide +kernel, rfl, by decide +kernel, by decide +kernel⟩
/-- Row.__eq__: slots 0 self, 1 other -/
abbrev s_Row_eq : Stmt := inClass (top 28) 2
abbrev n_Row_eq : List Str := ["self", "other"]
theorem sc_Row_eq : FnScope n_Row_eq ["self", "other"] (defScope s_Row_eq) := ⟨rfl, rfl, rfl, by decide +kernel, rfl, by decide +kernel, by decide +kernel⟩
/-- First.__init__: slots 0 self, 1 place -/
abbrev s_First_init : Stmt := inClass (top 29) 0
abbrev n_First_init : List Str := ["self", "place"]
theorem sc_First_init : FnScope n_First_init ["self", "place"] (defScope s_First_init) := ⟨rfl, rfl, rfl, by decide +kernel, rfl, by decide +kernel, by decide +kernel⟩
/-- First.__str__: slots 0 self -/
abbrev s_First_str : Stmt := inClass (top 29) 1
abbrev n_First_str : List Str := ["self"]
theorem sc_First_str : FnScope n_First_str ["self"] (defScope s_First_str) := ⟨rfl, rfl, rfl, by decide +kernel, rfl, by decide +kernel, by decide +kernel⟩
/-- Mode.__init__: slots 0 self, 1 name, 2 promise, 3 ends -/
abbrev s_Mode_init : Stmt := inClass (top 30) 0
abbrev n_Mode_init : List Str := ["self", "name", "promise", "ends"]
theorem sc_Mode_init : FnScope n_Mode_init ["self", "name", "promise", "ends"] (defScope s_Mode_init) := ⟨rfl, rfl, rfl, by decide +kernel, rfl, by decide +kernel, by decide +kernel⟩
/-- Mode.__str__: slots 0 self, 1 said -/
abbrev s_Mode_str : Stmt := inClass (top 30) 1
abbrev n_Mode_str : List Str := ["self", "said"]
theorem sc_Mode_str : FnScope n_Mode_str ["self"] (defScope s_Mode_str) := ⟨rfl, rfl, rfl, by decide +kernel, rfl, by decide +kernel, by decide +kernel⟩
/-- Turn.__init__: slots 0 self, 1 mode, 2 way, 3 places, 4 then -/
abbrev s_Turn_init : Stmt := inClass (top 31) 0
abbrev n_Turn_init : List Str := ["self", "mode", "way", "places", "then"]
theorem sc_Turn_init : FnScope n_Turn_init ["self", "mode", "way", "places", "then"] (defScope s_Turn_init) := ⟨rfl, rfl, rfl, by decide +kernel, rfl, by decide +kernel, by decide +kernel⟩
/-- Turn.__str__: slots 0 self -/
abbrev s_Turn_str : Stmt := inClass (top 31) 1
abbrev n_Turn_str : List Str := ["self"]
theorem sc_Turn_str : FnScope n_Turn_str ["self"] (defScope s_Turn_str) := ⟨rfl, rfl, rfl, by decide +kernel, rfl, by decide +kernel, by decide +kernel⟩
/-- Lead.__init__: slots 0 self, 1 mode, 2 place, 3 event, 4 then, 5 sends -/
abbrev s_Lead_init : Stmt := inClass (top 32) 0
abbrev n_Lead_init : List Str := ["self", "mode", "place", "event", "then", "sends"]
theorem sc_Lead_init : FnScope n_Lead_init ["self", "mode", "place", "event", "then", "sends"] (defScope s_Lead_init) := ⟨rfl, rfl, rfl, by decide +kernel, rfl, by decide +kernel, by decide +kernel⟩
/-- Lead.__str__: slots 0 self, 1 sent -/
abbrev s_Lead_str : Stmt := inClass (top 32) 1
abbrev n_Lead_str : List Str := ["self", "sent"]
theorem sc_Lead_str : FnScope n_Lead_str ["self"] (defScope s_Lead_str) := ⟨rfl, rfl, rfl, by decide +kernel, rfl, by decide +kernel, by decide +kernel⟩
/-- House.__init__: slots 0 self, 1 event, 2 tests, 3 deeds, 4 test, 5 deed -/
abbrev s_House_init : Stmt := inClass (top 33) 0
abbrev n_House_init : List Str := ["self", "event", "tests", "deeds", "test", "deed"]
theorem sc_House_init : FnScope n_House_init ["self", "event", "tests", "deeds"] (defScope s_House_init) := ⟨rfl, rfl, rfl, by decide +kernel, rfl, by decide +kernel, by decide +kernel⟩
/-- House.__str__: slots 0 self, 1 asked, 2 done -/
abbrev s_House_str : Stmt := inClass (top 33) 1
abbrev n_House_str : List Str := ["self", "asked", "done"]
theorem sc_House_str : FnScope n_House_str ["self"] (defScope s_House_str) := ⟨rfl, rfl, rfl, by decide +kernel, rfl, by decide +kernel, by decide +kernel⟩
/-- parted: slots 0 words, 1 word, 2 at -/
abbrev s_parted : Stmt := top 34
abbrev n_parted : List Str := ["words", "word", "at"]
theorem sc_parted : FnScope n_parted ["words", "word"] (defScope s_parted) := ⟨rfl, rfl, rfl, by decide +kernel, rfl, by decide +kernel, by decide +kernel⟩
/-- joined: slots 0 words, 1 word -/
abbrev s_joined : Stmt := top 35
abbrev n_joined : List Str := ["words", "word"]
theorem sc_joined : FnScope n_joined ["words", "word"] (defScope s_joined) := ⟨rfl, rfl, rfl, by decide +kernel, rfl, by decide +kernel, by decide +kernel⟩
/-- row_in: slots 0 words, 1 head, 2 rest -/
abbrev s_row_in : Stmt := top 36
abbrev n_row_in : List Str := ["words", "head", "rest"]
theorem sc_row_in : FnScope n_row_in ["words"] (defScope s_row_in) := ⟨rfl, rfl, rfl, by decide +kernel, rfl, by decide +kernel, by decide +kernel⟩
/-- lead_in: slots 0 words, 1 mode, 2 place, 3 event, 4 middle, 5 then, 6 more, 7 sends -/
abbrev s_lead_in : Stmt := top 37
abbrev n_lead_in : List Str := ["words", "mode", "place", "event", "middle", "then", "more", "sends"]
theorem sc_lead_in : FnScope n_lead_in ["words"] (defScope s_lead_in) := ⟨rfl, rfl, rfl, by decide +kernel, rfl, by decide +kernel, by decide +kernel⟩
/-- house_in: slots 0 event, 1 words, 2 head, 3 deeds, 4 tests -/
abbrev s_house_in : Stmt := top 38
abbrev n_house_in : List Str := ["event", "words", "head", "deeds", "tests"]
theorem sc_house_in : FnScope n_house_in ["event", "words"] (defScope s_house_in) := ⟨rfl, rfl, rfl, by decide +kernel, rfl, by decide +kernel, by decide +kernel⟩
/-- has_twins: slots 0 names, 1 name -/
abbrev s_has_twins : Stmt := top 57
abbrev n_has_twins : List Str := ["names", "name"]
theorem sc_has_twins : FnScope n_has_twins ["names"] (defScope s_has_twins) := ⟨rfl, rfl, rfl, by decide +kernel, rfl, by decide +kernel, by decide +kernel⟩
/-- is_ring: slots 0 turns, 1 mode, 2 found, 3 turn, 4 many -/
abbrev s_is_ring : Stmt := top 58
abbrev n_is_ring : List Str := ["turns", "mode", "found", "turn", "many"]
theorem sc_is_ring : FnScope n_is_ring ["turns", "mode"] (defScope s_is_ring) := ⟨rfl, rfl, rfl, by decide +kernel, rfl, by decide +kernel, by decide +kernel⟩
/-- fault_of: slots 0 rows, 1 firsts, 2 modes, 3 names, 4 turns, 5 told, 6 row, 7 turn, 8 name -/
abbrev s_fault_of : Stmt := top 59
abbrev n_fault_of : List Str := ["rows", "firsts", "modes", "names", "turns", "told", "row", "turn", "name"]
theorem sc_fault_of : FnScope n_fault_of ["rows"] (defScope s_fault_of) := ⟨rfl, rfl, rfl, by decide +kernel, rfl, by decide +kernel, by decide +kernel⟩
/-- places_in: slots 0 row, 1 place -/
abbrev s_places_in : Stmt := top 60
abbrev n_places_in : List Str := ["row", "place"]
theorem sc_places_in : FnScope n_places_in ["row"] (defScope s_places_in) := ⟨rfl, rfl, rfl, by decide +kernel, rfl, by decide +kernel, by decide +kernel⟩
/-- letters_in: slots 0 row, 1 word -/
abbrev s_letters_in : Stmt := top 61
abbrev n_letters_in : List Str := ["row", "word"]
theorem sc_letters_in : FnScope n_letters_in ["row"] (defScope s_letters_in) := ⟨rfl, rfl, rfl, by decide +kernel, rfl, by decide +kernel, by decide +kernel⟩
/-- names_behind: slots 0 texts, 1 words, 2 some, 3 text, 4 parts -/
abbrev s_names_behind : Stmt := top 62
abbrev n_names_behind : List Str := ["texts", "words", "some", "text", "parts"]
theorem sc_names_behind : FnScope n_names_behind ["texts", "words"] (defScope s_names_behind) := ⟨rfl, rfl, rfl, by decide +kernel, rfl, by decide +kernel, by decide +kernel⟩
/-- phases_in: slots 0 row, 1 name -/
abbrev s_phases_in : Stmt := top 63
abbrev n_phases_in : List Str := ["row", "name"]
theorem sc_phases_in : FnScope n_phases_in ["row"] (defScope s_phases_in) := ⟨rfl, rfl, rfl, by decide +kernel, rfl, by decide +kernel, by decide +kernel⟩
/-- marks_in: slots 0 row -/
abbrev s_marks_in : Stmt := top 64
abbrev n_marks_in : List Str := ["row"]
theorem sc_marks_in : FnScope n_marks_in ["row"] (defScope s_marks_in) := ⟨rfl, rfl, rfl, by decide +kernel, rfl, by decide +kernel, by decide +kernel⟩
/-- heeding_row: slots 0 row, 1 marks, 2 tests, 3 deeds, 4 test, 5 deed -/
abbrev s_heeding_row : Stmt := top 65
abbrev n_heeding_row : List Str := ["row", "marks", "tests", "deeds", "test", "deed"]
theorem sc_heeding_row : FnScope n_heeding_row ["row", "marks"] (defScope s_heeding_row) := ⟨rfl, rfl, rfl, by decide +kernel, rfl, by decide +kernel, by decide +kernel⟩
/-- Plan.__init__: slots 0 self, 1 rows, 2 fault, 3 row, 4 place, 5 phase, 6 mark, 7 letter -/
abbrev s_Plan_init : Stmt := inClass (top 66) 0
abbrev n_Plan_init : List Str := ["self", "rows", "fault", "row", "place", "phase", "mark", "letter"]
theorem sc_Plan_init : FnScope n_Plan_init ["self", "rows"] (defScope s_Plan_init) := ⟨rfl, rfl, rfl, by decide +kernel, rfl, by decide +kernel, by decide +kernel⟩
/-- Plan.read: slots 0 cls, 1 text, 2 rows, 3 at, 4 line, 5 e -/
abbrev s_Plan_read : Stmt := inClass (top 66) 1
abbrev n_Plan_read : List Str := ["cls", "text", "rows", "at", "line", "e"]
theorem sc_Plan_read : FnScope n_Plan_read ["cls", "text"] (defScope s_Plan_read) := ⟨rfl, rfl, rfl, by decide +kernel, rfl, by decide +kernel, by decide +kernel⟩
/-- Plan.need_row: slots 0 self, 1 at -/
abbrev s_Plan_need_row : Stmt := inClass (top 66) 2
abbrev n_Plan_need_row : List Str := ["self", "at"]
theorem sc_Plan_need_row : FnScope n_Plan_need_row ["self", "at"] (defScope s_Plan_need_row) := ⟨rfl, rfl, rfl, by decide +kernel, rfl, by decide +kernel, by decide +kernel⟩
/-- Plan.without: slots 0 self, 1 at -/
abbrev s_Plan_without : Stmt := inClass (top 66) 3
abbrev n_Plan_without : List Str := ["self", "at"]
theorem sc_Plan_without : FnScope n_Plan_without ["self", "at"] (defScope s_Plan_without) := ⟨rfl, rfl, rfl, by decide +kernel, rfl, by decide +kernel, by decide +kernel⟩
/-- Plan.heeding: slots 0 self, 1 marks, 2 rows, 3 row -/
abbrev s_Plan_heeding : Stmt := inClass (top 66) 4
abbrev n_Plan_heeding : List Str := ["self", "marks", "rows", "row"]
theorem sc_Plan_heeding : FnScope n_Plan_heeding ["self", "marks"] (defScope s_Plan_heeding) := ⟨rfl, rfl, rfl, by decide +kernel, rfl, by decide +kernel, by decide +kernel⟩
/-- Plan.__len__: slots 0 self -/
abbrev s_Plan_len : Stmt := inClass (top 66) 6
abbrev n_Plan_len : List Str := ["self"]
theorem sc_Plan_len : FnScope n_Plan_len ["self"] (defScope s_Plan_len) := ⟨rfl, rfl, rfl, by decide +kernel, rfl, by decide +kernel, by decide +kernel⟩
/-- Plan.__eq__: slots 0 self, 1 other -/
abbrev s_Plan_eq : Stmt := inClass (top 66) 10
abbrev n_Plan_eq : List Str := ["self", "other"]
theorem sc_Plan_eq : FnScope n_Plan_eq ["self", "other"] (defScope s_Plan_eq) := ⟨rfl, rfl, rfl, by decide +kernel, rfl, by decide +kernel, by decide +kernel⟩
/-- Plan.__str__: slots 0 self, 1 row -/
abbrev s_Plan_str : Stmt := inClass (top 66) 11
abbrev n_Plan_str : List Str := ["self", "row"]
theorem sc_Plan_str : FnScope n_Plan_str ["self"] (defScope s_Plan_str) := ⟨rfl, rfl, rfl, by decide +kernel, rfl, by decide +kernel, by decide +kernel⟩
/-- _law_deal: slots 0 _law_script, 1 _law_base, 2 _law_cell, 3 _law_cells, 4 _law_mixed_here, 5 _law_great -/
abbrev s_law_deal : Stmt := top 68
abbrev n_law_deal : List Str := ["_law_script", "_law_base", "_law_cell", "_law_cells", "_law_mixed_here", "_law_great"]
theorem sc_law_deal : FnScope n_law_deal ["_law_script", "_law_base"] (defScope s_law_deal) := ⟨rfl, rfl, rfl, by decide +kernel, rfl, by decide +kernel, by decide +kernel⟩
/-- _law_draw: slots 0 _law_deal_here, 1 _law_many, 2 _law_digit, 3 _law_first, 4 _law_second -/
abbrev s_law_draw : Stmt := top 69
abbrev n_law_draw : List Str := ["_law_deal_here", "_law_many", "_law_digit", "_law_first", "_law_second"]
theorem sc_law_draw : FnScope n_law_draw ["_law_deal_here", "_law_many"] (defScope s_law_draw) := ⟨rfl, rfl, rfl, by decide +kernel, rfl, by decide +kernel, by decide +kernel⟩
/-- _law_pick: slots 0 _law_deal_here, 1 _law_some -/
abbrev s_law_pick : Stmt := top 70
abbrev n_law_pick : List Str := ["_law_deal_here", "_law_some"]
theorem sc_law_pick : FnScope n_law_pick ["_law_deal_here", "_law_some"] (defScope s_law_pick) := ⟨rfl, rfl, rfl, by decide +kernel, rfl, by decide +kernel, by decide +kernel⟩
/-- _law_mixed: slots 0 _law_deal_here, 1 _law_some, 2 _law_left, 3 _law_found -/
abbrev s_law_mixed : Stmt := top 71
abbrev n_law_mixed : List Str := ["_law_deal_here", "_law_some", "_law_left", "_law_found"]
theorem sc_law_mixed : FnScope n_law_mixed ["_law_deal_here", "_law_some"] (defScope s_law_mixed) := ⟨rfl, rfl, rfl, by decide +kernel, rfl, by decide +kernel, by decide +kernel⟩
/-- _law_pool: slots 0 _law_some -/
abbrev s_law_pool : Stmt := top 72
abbrev n_law_pool : List Str := ["_law_some"]
theorem sc_law_pool : FnScope n_law_pool [] (defScope s_law_pool) := ⟨rfl, rfl, rfl, by decide +kernel, rfl, by decide +kernel, by decide +kernel⟩
/-- _law_names: slots 0 _law_deal_here, 1 _law_many -/
abbrev s_law_names : Stmt := top 73
abbrev n_law_names : List Str := ["_law_deal_here", "_law_many"]
theorem sc_law_names : FnScope n_law_names ["_law_deal_here", "_law_many"] (defScope s_law_names) := ⟨rfl, rfl, rfl, by decide +kernel, rfl, by decide +kernel, by decide +kernel⟩
/-- _law_test: slots 0 _law_deal_here, 1 _law_names_here, 2 _law_plain -/
abbrev s_law_test : Stmt := top 74
abbrev n_law_test : List Str := ["_law_deal_here", "_law_names_here", "_law_plain"]
theorem sc_law_test : FnScope n_law_test ["_law_deal_here", "_law_names_here"] (defScope s_law_test) := ⟨rfl, rfl, rfl, by decide +kernel, rfl, by decide +kernel, by decide +kernel⟩
/-- _law_deed: slots 0 _law_deal_here, 1 _law_names_here, 2 _law_some -/
abbrev s_law_deed : Stmt := top 75
abbrev n_law_deed : List Str := ["_law_deal_here", "_law_names_here", "_law_some"]
theorem sc_law_deed : FnScope n_law_deed ["_law_deal_here", "_law_names_here"] (defScope s_law_deed) := ⟨rfl, rfl, rfl, by decide +kernel, rfl, by decide +kernel, by decide +kernel⟩
/-- _law_made: slots 0 _law_row -/
abbrev s_law_made : Stmt := top 76
abbrev n_law_made : List Str := ["_law_row"]
theorem sc_law_made : FnScope n_law_made ["_law_row"] (defScope s_law_made) := ⟨rfl, rfl, rfl, by decide +kernel, rfl, by decide +kernel, by decide +kernel⟩
/-- _law_plan: slots 0 _law_deal_here, 1 _law_most, 2 _law_names_here, 3 _law_modes, 4 _law_places, 5 _law_words, 6 _law_rows, 7 _law_promised, 8 _law_mode, 9 _law_promise, 10 _law_ends, 11 _law_place, 12 _law_at, 13 _law_then, 14 _law_way, 15 _law_some, 16 _law_turn -/
abbrev s_law_plan : Stmt := top 77
abbrev n_law_plan : List Str := ["_law_deal_here", "_law_most", "_law_names_here", "_law_modes", "_law_places", "_law_words", "_law_rows", "_law_promised", "_law_mode", "_law_promise", "_law_ends", "_law_place", "_law_at", "_law_then", "_law_way", "_law_some", "_law_turn"]
theorem sc_law_plan : FnScope n_law_plan ["_law_deal_here", "_law_most"] (defScope s_law_plan) := ⟨rfl, rfl, rfl, by decide +kernel, rfl, by decide +kernel, by decide +kernel⟩
/-- _law_few: slots 0 _law_deeds, 1 _law_sends, 2 _law_at, 3 _law_deed_here -/
abbrev s_law_few : Stmt := top 78
abbrev n_law_few : List Str := ["_law_deeds", "_law_sends", "_law_at", "_law_deed_here"]
theorem sc_law_few : FnScope n_law_few ["_law_deeds"] (defScope s_law_few) := ⟨rfl, rfl, rfl, by decide +kernel, rfl, by decide +kernel, by decide +kernel⟩
/-- _law_lead_or_house: slots 0 _law_deal_here, 1 _law_modes, 2 _law_places, 3 _law_words, 4 _law_mode, 5 _law_place, 6 _law_sends, 7 _law_event, 8 _law_then, 9 _law_tests, 10 _law_k -/
abbrev s_law_lead_or_house : Stmt := top 79
abbrev n_law_lead_or_house : List Str := ["_law_deal_here", "_law_modes", "_law_places", "_law_words", "_law_mode", "_law_place", "_law_sends", "_law_event", "_law_then", "_law_tests", "_law_k"]
theorem sc_law_lead_or_house : FnScope n_law_lead_or_house ["_law_deal_here", "_law_modes", "_law_places", "_law_words"] (defScope s_law_lead_or_house) := ⟨rfl, rfl, rfl, by decide +kernel, rfl, by decide +kernel, by decide +kernel⟩
/-- _law_plan_of: slots 0 _law_rows, 1 _law_row -/
abbrev s_law_plan_of : Stmt := top 80
abbrev n_law_plan_of : List Str := ["_law_rows", "_law_row"]
theorem sc_law_plan_of : FnScope n_law_plan_of ["_law_rows"] (defScope s_law_plan_of) := ⟨rfl, rfl, rfl, by decide +kernel, rfl, by decide +kernel, by decide +kernel⟩
/-- _law_less: slots 0 _law_made_here, 1 _law_at, 2 _law_found -/
abbrev s_law_less : Stmt := top 81
abbrev n_law_less : List Str := ["_law_made_here", "_law_at", "_law_found"]
theorem sc_law_less : FnScope n_law_less ["_law_made_here", "_law_at"] (defScope s_law_less) := ⟨rfl, rfl, rfl, by decide +kernel, rfl, by decide +kernel, by decide +kernel⟩
/-- _law_within: slots 0 _law_less_here, 1 _law_made_here, 2 _law_one, 3 _law_other, 4 _law_word -/
abbrev s_law_within : Stmt := top 82
abbrev n_law_within : List Str := ["_law_less_here", "_law_made_here", "_law_one", "_law_other", "_law_word"]
theorem sc_law_within : FnScope n_law_within ["_law_less_here", "_law_made_here"] (defScope s_law_within) := ⟨rfl, rfl, rfl, by decide +kernel, rfl, by decide +kernel, by decide +kernel⟩
/-- law: slots 0 _law_script, 1 _law_deal_here, 2 _law_turn, 3 _law_rows, 4 _law_made_here, 5 _law_at, 6 _law_less_here, 7 _law_some, 8 _law_others, 9 _law_both, 10 _law_head, 11 _law_tail, 12 _law_apart, 13 _law_k, 14 _law_mark, 15 _law_row -/
abbrev s_law : Stmt := top 83
abbrev n_law : List Str := ["_law_script", "_law_deal_here", "_law_turn", "_law_rows", "_law_made_here", "_law_at", "_law_less_here", "_law_some", "_law_others", "_law_both", "_law_head", "_law_tail", "_law_apart", "_law_k", "_law_mark", "_law_row"]
theorem sc_law : FnScope n_law ["_law_script"] (defScope s_law) := ⟨rfl, rfl, rfl, by decide +kernel, rfl, by decide +kernel, by decide +kernel⟩
/-- InvalidPlan.__init__: slots 0 self, 1 word -/
abbrev s_InvalidPlan_init : Stmt := inClass (top 3) 0
end SB

set_option maxHeartbeats 2000000
/-! Ground: heaps that only grow, things that never change, comprehensions over what is read. -/
namespace SB
open PySem PySem.Spec PyProof.Rows L2
open C8 (Cal Mak Met pe_c pe_mk pe_mt pe_mt0 pe_gc InsC call_isC)

/-! ### heaps -/
theorem Sn {H : Hp} {p : Addr} {o : HO} (h : H p = none) : Same H (upd H p o) := fun b u e => by
  rw [upd_ne (ne_of_none e h)]; exact e
/-- what never changes once made -/
def Imm : HO → Prop
  | .tup _ => True
  | .ins _ _ _ => True
  | .own _ => True
  | .frz _ _ => True
  | _ => False
def Im (H H' : Hp) : Prop := ∀ a o, Imm o → H a = some o → H' a = some o
theorem Im.refl (H : Hp) : Im H H := fun _ _ _ e => e
theorem Im.trans {H H1 H2 : Hp} (a : Im H H1) (b : Im H1 H2) : Im H H2 := fun x o i e => b x o i (a x o i e)
theorem im_of {H H' : Hp} (s : Same H H') : Im H H' := fun a o _ e => s a o e
theorem im_upd {H : Hp} {p : Addr} {u o' : HO} (h : H p = some u) (nu : ¬ Imm u) : Im H (upd H p o') := fun a o i e => by
  by_cases z : a = p
  · subst z; rw [h] at e; cases e; exact (nu i).elim
  · rw [upd_ne z]; exact e
theorem im_lst {H : Hp} {p : Addr} {l : List V} {o' : HO} (h : H p = some (.lst l)) : Im H (upd H p o') := im_upd h fun z => z
theorem im_dK {H : Hp} {p : Addr} {l : List (Key × V)} {o' : HO} (h : H p = some (.dK l)) : Im H (upd H p o') := im_upd h fun z => z
theorem im_new {H : Hp} {p : Addr} {o : HO} (h : H p = none) : Im H (upd H p o) := im_of (Sn h)
theorem Im.sqT {K : PySem.W.Frag} {H H' : Hp} {a : Addr} {xs : List V} (s : Im H H') (h : SqT K H a xs) : SqT K H' a xs := by
  rcases h with (h | ⟨o, h⟩) | h
  · exact .inl (.inl (s _ _ trivial h))
  · exact .inl (.inr ⟨o, s _ _ trivial h⟩)
  · exact .inr h
theorem samT {K : PySem.W.Frag} {H H' : Hp} {a : Addr} {xs : List V} (s : Same H H') (h : SqT K H a xs) : SqT K H' a xs := (im_of s).sqT h
/-- a list or a tuple that is read -/
def SqA (K : PySem.W.Frag) (H : Hp) (a : Addr) (xs : List V) : Prop := SqL K H a xs ∨ SqT K H a xs
theorem samA {K : PySem.W.Frag} {H H' : Hp} {a : Addr} {xs : List V} (s : Same H H') (h : SqA K H a xs) : SqA K H' a xs := by
  rcases h with h | h
  · exact .inl (s.seq h)
  · exact .inr (samT s h)
theorem lstA {K : PySem.W.Frag} {H : Hp} {a : Addr} {xs : List V} (h : H a = some (.lst xs)) : SqA K H a xs := .inl (SqL.of h)
theorem tupA {K : PySem.W.Frag} {H : Hp} {a : Addr} {xs : List V} (h : H a = some (.tup xs)) : SqA K H a xs := .inr (SqT.of h)

/-! ### a list or a tuple is walked -/
def SeqR (K : PySem.W.Frag) (R : It → Hp → Prop) : V → Hp → Prop := fun x H1 => ∃ a, x = .ref a ∧ (((∃ xs, SqL K H1 a xs) ∧ R (Itl K a) H1) ∨ ((∃ xs, SqT K H1 a xs) ∧ R (Itt K a) H1))
def iSeq (K : PySem.W.Frag) (tl : TE) : TI := fun σ H R => tl σ H (SeqR K R)
theorem pi_seq {X : Cx} {tg l : Expr} {tl : TE} (hl : PE X l tl) : PI X tg l (iSeq X.K tl) := by
  refine ⟨fun pins s σ H R I h => thn (hl.run pins s σ H _ I h) ?_⟩
  rintro v s1 ⟨x, H1, J, rx, a, rfl, q⟩
  cases rx
  have new : ∀ b ∈ [s1.heap.objs.size], FpOk X pins H1 b := fun b hb => by
    rw [List.mem_singleton.mp hb]
    exact J.fpOk (Nat.le_refl _) (J.hok.fresh (Nat.le_refl _))
  have keep := fun (o : Obj) => J.kept (h' := s1.heap.push o) (t' := s1.toks) fun b u e => Heap.get?_push_of_some _ e
  rcases q with ⟨⟨xs, hq⟩, q⟩ | ⟨⟨xs, hq⟩, q⟩
  · obtain ⟨its, _, p, _⟩ := J.list hq
    exact wpAny_pyIter_list p.isList ⟨_, _, _, _, H1, rfl, keep _, turn_list a _, ⟨_, Heap.get?_push_size _ rfl, rfl, rfl⟩, new, q⟩
  · obtain ⟨its, _, p, _⟩ := J.tuple hq
    exact wpAny_pyIter_tuple (show s1.heap.IsTuple a its.toArray from p) ⟨_, _, _, _, H1, rfl, keep _, turn_tuple a _, ⟨_, Heap.get?_push_size _ rfl, rfl, rfl⟩, new, q⟩

/-! ### list comprehensions -/
abbrev Sg := L2.St
/-- what a comprehension asks of what it walks -/
def LcR (g : TG) (tt : TT) (te : TE) (vs : List Nat) (σ : Sg) (Q : VK) : It → Hp → Prop := fun J H1 => ∀ D, H1 D = none → ∃ W : Nat → Nat → Hp → Prop, (∃ m, W 0 m (upd H1 D (.lst []))) ∧ ∀ i m H, W i m H →
  (J.stop i H ∧ Q (.ref D) H) ∨ (J.go i H ∧ ∃ Nx : Hp → Prop, (∀ H', Nx H' → ∃ m', m' < m ∧ W (i + 1) m' H') ∧ ∀ x H', J.yld i H x H' → g x (wipe σ vs) H' fun σ2 H2 => wipe σ2 vs = wipe σ vs ∧ tt σ2 H2 fun b H3 =>
    if b = true then te σ2 H3 fun y H4 => ∃ acc, H4 D = some (.lst acc) ∧ acc.length < sizeLine ∧ Nx (upd H4 D (.lst (acc ++ [y]))) else Nx H3)
def tLx (wi : TI) (g : TG) (tt : TT) (te : TE) (vs : List Nat) : TE := fun σ H Q => wi σ H (LcR g tt te vs σ Q)
theorem pe_lx {X : Cx} {elt tg iter : Expr} {ifs : List Expr} {scope : Scope} {own : List (Str × Nat)} {pos : Pos} {wi : TI} {g : TG} {tt : TT} {te : TE} (hc : X.calm = true) (hN : X.N.Nodup) (hi : PI X tg iter wi) (ok : BlkOk X.N X.env.scope scope own)
    (hg : ∀ (s : Shared) (H : Hp) (C : Addr) (cl : List (Str × Addr)) (fp : List Addr), PG (X.blk s H scope (compEnvC scope cl C X.env) fp) tg g) (ht : ∀ (s : Shared) (H : Hp) (C : Addr) (cl : List (Str × Addr)) (fp : List Addr), PTs (X.blk s H scope (compEnvC scope cl C X.env) fp) ifs tt)
    (he : ∀ (s : Shared) (H : Hp) (C : Addr) (cl : List (Str × Addr)) (fp : List Addr), PE (X.blk s H scope (compEnvC scope cl C X.env) fp) elt te) (hs : ∀ x, foldedSetIterable iter X.env x = pure x := by intro _; rfl) :
    PE X (.ListComp elt [⟨tg, iter, ifs, 0⟩] scope pos) (tLx wi g tt te (own.map (·.2))) := pe_lc hc hN hi ok hg ht he hs
theorem tLc_eq (wi : TI) (g : TG) (tt : TT) (te : TE) (vs : List Nat) (σ : Sg) (H : Hp) (Q : VK) : tLc wi g tt te vs σ H Q = wi σ H (LcR g tt te vs σ Q) := rfl
/-- one turn: P of what was gathered -/
def LcT (g : TG) (tt : TT) (te : TE) (vs : List Nat) (σ : Sg) (xs : List V) (H1 : Hp) (P : Addr → Nat → List V → Hp → Prop) : Prop := ∀ D i x acc H, H1 D = none → xs[i]? = some x → Same H1 H → H D = some (.lst acc) → P D i acc H →
  ∀ (N : VK) (M : Hp → Prop), (∀ y H', Same H H' → P D (i + 1) (acc ++ [y]) (upd H' D (.lst (acc ++ [y]))) → N y H') → (∀ H', Same H H' → P D (i + 1) acc H' → M H') →
  g x (wipe σ vs) H fun σ2 H2 => wipe σ2 vs = wipe σ vs ∧ tt σ2 H2 fun b H3 => if b = true then te σ2 H3 N else M H3
theorem sameD {H1 H : Hp} {D : Addr} {o : HO} (n : H1 D = none) (s : Same H1 H) : Same H1 (upd H D o) := fun b u e => by
  rw [upd_ne (ne_of_none e n)]; exact s b u e
section
variable {K : PySem.W.Frag} {a : Addr} {xs : List V} {g : TG} {tt : TT} {te : TE} {vs : List Nat} {σ : Sg} {H1 : Hp} {Q : VK}
/-- the same for what is walked, list or tuple -/
theorem lc_any {J : It} (hst : ∀ i H, Same H1 H → xs.length ≤ i → J.stop i H) (hgo : ∀ i H x, Same H1 H → xs[i]? = some x → J.go i H) (hy : ∀ i H x H', Same H1 H → J.yld i H x H' → H' = H ∧ ∀ z, xs[i]? = some z → x = z)
    (sz : xs.length < sizeLine) (P : Addr → Nat → List V → Hp → Prop) (h0 : ∀ D, H1 D = none → P D 0 [] (upd H1 D (.lst []))) (hs : LcT g tt te vs σ xs H1 P)
    (hd : ∀ D acc H, H1 D = none → Same H1 H → H D = some (.lst acc) → acc.length ≤ xs.length → P D xs.length acc H → Q (.ref D) H) : LcR g tt te vs σ Q J H1 := by
  intro D nD
  refine ⟨fun i m H => m = xs.length - i ∧ i ≤ xs.length ∧ Same H1 H ∧ ∃ acc, H D = some (.lst acc) ∧ acc.length ≤ i ∧ P D i acc H, ⟨xs.length, by simp, Nat.zero_le _, Sn nD, [], upd_same, Nat.le_refl _, h0 D nD⟩, ?_⟩
  rintro i m H ⟨rfl, hi, s1, acc, hD, hl, p⟩
  by_cases hlt : i < xs.length
  · have hx : xs[i]? = some xs[i] := List.getElem?_eq_getElem hlt
    refine .inr ⟨hgo i H _ s1 hx, fun H' => Same H1 H' ∧ ∃ acc, H' D = some (.lst acc) ∧ acc.length ≤ i + 1 ∧ P D (i + 1) acc H', ?_, ?_⟩
    · rintro H' ⟨s', acc', h1, h2, h3⟩
      exact ⟨xs.length - (i + 1), by omega, rfl, hlt, s', acc', h1, h2, h3⟩
    · intro x H' y
      obtain ⟨rfl, ex⟩ := hy i H x H' s1 y
      cases ex _ hx
      refine hs D i _ acc H' nD hx s1 hD p _ _ (fun y H4 s4 p4 => ⟨acc, s4 _ _ hD, by omega, sameD nD (s1.trans s4), _, upd_same, ?_, p4⟩) (fun H3 s3 p3 => ⟨s1.trans s3, acc, s3 _ _ hD, by omega, p3⟩)
      rw [List.length_append, List.length_singleton]; omega
  · have e : i = xs.length := by omega
    subst e
    exact .inl ⟨hst _ H s1 (Nat.le_refl _), hd D acc H nD s1 hD hl p⟩
theorem lc_seq (S : SqA K H1 a xs) (sz : xs.length < sizeLine) (P : Addr → Nat → List V → Hp → Prop) (h0 : ∀ D, H1 D = none → P D 0 [] (upd H1 D (.lst []))) (hs : LcT g tt te vs σ xs H1 P)
    (hd : ∀ D acc H, H1 D = none → Same H1 H → H D = some (.lst acc) → acc.length ≤ xs.length → P D xs.length acc H → Q (.ref D) H) : SeqR K (LcR g tt te vs σ Q) (.ref a) H1 := by
  rcases S with S | S
  · refine ⟨a, rfl, .inl ⟨⟨xs, S⟩, lc_any (fun i H s hi => ⟨xs, s.seq S, hi⟩) (fun i H x s hx => ⟨xs, x, s.seq S, hx⟩) (fun i H x H' s y => ⟨y.1, fun z hz => ?_⟩) sz P h0 hs hd⟩⟩
    exact Option.some.inj ((y.2 xs (s.seq S)).symm.trans hz)
  · refine ⟨a, rfl, .inr ⟨⟨xs, S⟩, lc_any (fun i H s hi => ⟨xs, samT s S, hi⟩) (fun i H x s hx => ⟨xs, x, samT s S, hx⟩) (fun i H x H' s y => ⟨y.1, fun z hz => ?_⟩) sz P h0 hs hd⟩⟩
    exact Option.some.inj ((y.2 xs (samT s S)).symm.trans hz)
/-- an element that hangs on the item alone -/
def LcF (g : TG) (tt : TT) (te : TE) (vs : List Nat) (σ : Sg) (xs : List V) (H1 : Hp) (f : V → Option V) : Prop := ∀ D (i : Nat) x acc H, H1 D = none → xs[i]? = some x → Same H1 H → H D = some (.lst acc) →
  ∀ (N : VK) (M : Hp → Prop), (∀ y H', Same H H' → f x = some y → N y H') → (∀ H', Same H H' → f x = none → M H') →
  g x (wipe σ vs) H fun σ2 H2 => wipe σ2 vs = wipe σ vs ∧ tt σ2 H2 fun b H3 => if b = true then te σ2 H3 N else M H3
theorem take_more {α : Type} {l : List α} {i : Nat} {x : α} (h : l[i]? = some x) : l.take (i + 1) = l.take i ++ [x] := by
  rw [List.take_add_one, h]; rfl
theorem lc_anyF {J : It} (hst : ∀ i H, Same H1 H → xs.length ≤ i → J.stop i H) (hgo : ∀ i H x, Same H1 H → xs[i]? = some x → J.go i H) (hy : ∀ i H x H', Same H1 H → J.yld i H x H' → H' = H ∧ ∀ z, xs[i]? = some z → x = z)
    (f : V → Option V) (sz : xs.length < sizeLine) (hs : LcF g tt te vs σ xs H1 f) (hd : ∀ D H, H1 D = none → Same H1 H → H D = some (.lst (xs.filterMap f)) → Q (.ref D) H) : LcR g tt te vs σ Q J H1 := by
  refine lc_any hst hgo hy sz (fun _ i acc _ => acc = (xs.take i).filterMap f) (fun _ _ => rfl) (fun D i x acc H nD hx s1 hD p N M kN kM => ?_) (fun D acc H nD s1 hD hl p => ?_)
  · have p' : acc = (xs.take i).filterMap f := p
    refine hs D i x acc H nD hx s1 hD N M (fun y H' s' e => kN y H' s' ?_) (fun H' s' e => kM H' s' ?_)
    · show acc ++ [y] = (xs.take (i + 1)).filterMap f
      rw [take_more hx, List.filterMap_append, ← p', List.filterMap_cons, e]; rfl
    · show acc = (xs.take (i + 1)).filterMap f
      rw [take_more hx, List.filterMap_append, ← p', List.filterMap_cons, e]; simp
  · have p' : acc = (xs.take xs.length).filterMap f := p
    rw [List.take_length] at p'
    rw [p'] at hD
    exact hd D H nD s1 hD
/-- over a text's signs -/
def sgs (z : Str) : List V := z.cps.toList.map fun c => V.str ⟨#[c]⟩
theorem lc_str {z : Str} (f : V → Option V) (sz : z.length < sizeLine) (hs : LcF g tt te vs σ (sgs z) H1 f) (hd : ∀ D H, H1 D = none → Same H1 H → H D = some (.lst ((sgs z).filterMap f)) → Q (.ref D) H) : LcR g tt te vs σ Q (Its z) H1 := by
  have e : (sgs z).length = z.length := by simp [sgs, Str.length]
  refine lc_anyF (xs := sgs z) (fun i H _ hi => ?_) (fun i H x _ hx => ?_) (fun i H x H' _ y => ?_) f (by rw [e]; exact sz) hs hd
  · rw [e] at hi; exact hi
  · have := (List.getElem?_eq_some_iff.mp hx).1
    rw [e] at this; exact this
  · obtain ⟨eh, c, hc, rfl⟩ := y
    refine ⟨eh, fun u hu => ?_⟩
    unfold sgs at hu
    rw [List.getElem?_map, Array.getElem?_toList, hc] at hu
    exact Option.some.inj hu
theorem lc_fun (f : V → Option V) (S : SqA K H1 a xs) (sz : xs.length < sizeLine) (hs : LcF g tt te vs σ xs H1 f)
    (hd : ∀ D H, H1 D = none → Same H1 H → H D = some (.lst (xs.filterMap f)) → Q (.ref D) H) : SeqR K (LcR g tt te vs σ Q) (.ref a) H1 := by
  rcases S with S | S
  · refine ⟨a, rfl, .inl ⟨⟨xs, S⟩, lc_anyF (fun i H s hi => ⟨xs, s.seq S, hi⟩) (fun i H x s hx => ⟨xs, x, s.seq S, hx⟩) (fun i H x H' s y => ⟨y.1, fun z hz => ?_⟩) f sz hs hd⟩⟩
    exact Option.some.inj ((y.2 xs (s.seq S)).symm.trans hz)
  · refine ⟨a, rfl, .inr ⟨⟨xs, S⟩, lc_anyF (fun i H s hi => ⟨xs, samT s S, hi⟩) (fun i H x s hx => ⟨xs, x, samT s S, hx⟩) (fun i H x H' s y => ⟨y.1, fun z hz => ?_⟩) f sz hs hd⟩⟩
    exact Option.some.inj ((y.2 xs (samT s S)).symm.trans hz)
end

/-! ### rules by what is asked here -/
section
variable {X : Cx}
theorem opImp {f : Value → Value → Sem Value} {r r' : R2} (h : OpR X f r) (i : ∀ x y H Q, r' x y H Q → r x y H Q) : OpR X f r' := fun pins s σ H x y v u Q I rx ry z => h pins s σ H x y v u Q I rx ry (i x y H Q z)
theorem callImp {f : Value} {r r' : List V → Hp → VK → Prop} (h : CallR X f r) (i : ∀ xs H Q, r' xs H Q → r xs H Q) : CallR X f r' := fun pins s σ H xs us Q I rx z => h pins s σ H xs us Q I rx (i xs H Q z)
/-- isinstance(text, str) -/
theorem call_isiS : CallR X (.builtin "isinstance") (fun xs H Q => ∃ z, xs = [.str z, .ty "str"] ∧ Q (.bl true) H) :=
  callImp call_isi fun _ H Q ⟨z, e, q⟩ => ⟨_, _, .type "str", _, true, e, .ty _, .base (.str z), kit_ty (by decide +kernel), q⟩
theorem tyA {K : PySem.W.Frag} {H : Hp} {a : Addr} {xs : List V} (S : SqA K H a xs) : TyX K H (.ref a) (.type "list") ∨ TyX K H (.ref a) (.type "tuple") := by
  rcases S with ((h | ⟨o, h⟩) | ⟨o, its, n, h, hc, _⟩) | ((h | ⟨o, h⟩) | ⟨o, its, n, h, hc, _⟩)
  · exact .inl (.base (.lst h))
  · exact .inl (.base (.frz h))
  · exact .inl (.kList h hc)
  · exact .inr (.base (.tup h))
  · exact .inr (.fTuple h)
  · exact .inr (.kTuple h hc)
/-- isinstance(x, (list, tuple)) -/
theorem call_isiLT : CallR X (.builtin "isinstance") (fun xs H Q => ∃ (a tp : Addr) (ys : List V), xs = [.ref a, .ref tp] ∧ H tp = some (.tup [.ty "list", .ty "tuple"]) ∧ SqA X.K H a ys ∧ Q (.bl true) H) :=
  callImp call_isiT fun _ H Q ⟨a, tp, ys, e, ht, S, q⟩ => by
    rcases tyA S with h | h
    · exact ⟨_, tp, _, _, [.type "list", .type "tuple"], true, e, ht, .cons (.ty _) (.cons (.ty _) .nil), h, kitAny_cons (b := true) (kit_ty (by decide +kernel)) (fun z => nomatch z) (fun _ => rfl), q⟩
    · exact ⟨_, tp, _, _, [.type "list", .type "tuple"], true, e, ht, .cons (.ty _) (.cons (.ty _) .nil), h, kitAny_cons (b := false) (kit_ty (by decide +kernel)) (fun _ => kitAny_cons (b := true) (kit_ty (by decide +kernel)) (fun z => nomatch z) (fun _ => rfl)) (fun z => nomatch z), q⟩
theorem beq_swap {α : Type} [BEq α] [LawfulBEq α] (a b : α) : (a == b) = (b == a) := Bool.eq_iff_iff.mpr ⟨fun h => beq_iff_eq.mpr (beq_iff_eq.mp h).symm, fun h => beq_iff_eq.mpr (beq_iff_eq.mp h).symm⟩
theorem inV_str (z : Str) : ∀ ws : List Str, inV (.str z) (ws.map V.str) = ws.contains z
  | [] => rfl
  | x :: ws => by
    have ih := inV_str z ws
    unfold inV at ih ⊢
    rw [List.map_cons, List.any_cons, ih, List.contains_cons]
    congr 1
    exact beq_swap x z
theorem flat_strs : ∀ ws : List Str, (ws.map V.str).all flatV = true
  | [] => rfl
  | x :: ws => by rw [List.map_cons, List.all_cons, flat_strs ws]; rfl
/-- a text in a list or tuple of texts -/
def rInW (K : PySem.W.Frag) (neg : Bool) : R2 := fun x y H Q => ∃ (z : Str) (p : Addr) (ws : List Str), x = .str z ∧ y = .ref p ∧ SqA K H p (ws.map V.str) ∧ Q (.bl (if neg then !ws.contains z else ws.contains z)) H
theorem op_inW : OpR X (compareOp .In) (rInW X.K false) := opImp op_in_seq fun x y H Q ⟨z, p, ws, ex, ey, S, q⟩ => ⟨p, _, ey, S, by rw [ex]; rfl, flat_strs ws, by rw [ex, inV_str]; exact q⟩
theorem op_niW : OpR X (compareOp .NotIn) (rInW X.K true) := opImp op_notIn_seq fun x y H Q ⟨z, p, ws, ex, ey, S, q⟩ => ⟨p, _, ey, S, by rw [ex]; rfl, flat_strs ws, by rw [ex, inV_str]; exact q⟩
end

/-! ### defs by their names -/
section
variable {P : Program} {w : World} {K : PySem.W.Frag} {mg : Str → Option Value} {base : Heap}
/-- the module's def x: the text's statement st -/
def Glo (K : PySem.W.Frag) (mg : Str → Option Value) (x : Str) (st : Stmt) : Prop := ∃ f fd, mg x = some (.ref f) ∧ Fun K x x st f fd
theorem Glo.cal {x : Str} {st : Stmt} {N ps : List Str} {k : Nat} {sp : Sp} (G : Glo K mg x st) (S : FnScope N ps (defScope st)) (len : ∀ vs H Q E, sp vs H Q E → vs.length = ps.length)
    (hbody : ∀ (f : Addr) (cdv : Value) (A : Around) (outer : List Env) (s : Shared) (H : Hp) (vs : List V) (Q : VK) (E : XK), Room k (A.deeper (envOfC x (defScope st) s.heap.objs.size f cdv)) → sp vs H Q E →
      ∃ t, PSs (cxOf CX0 P w K mg base N x (defScope st) f cdv A outer s H E).nox (defBody st) t ∧ t { nx := fun _ H' => Q .non H', rt := Q } (start N vs) H)
    (b : ∀ (kV doc pm : Value) (an : Option Addr) (cdv ct : Value) (us : List Value), us.length = ps.length → bindArgs (PySem.W.fnOf x x (defArgs st) (defBody st) (defScope st) .none kV doc pm an cdv ct) ⟨us, []⟩ = pure (ps.zip us)) : Cal P w K mg base (k + 1) x sp [] := by
  obtain ⟨f, fd, hm, F⟩ := G
  exact ⟨⟨f, fd, ps, [], F.ok S len (fun cdv A outer s H vs Q E => hbody f cdv A outer s H vs Q E), hm, F.kp, F.binds b, .nil⟩⟩
end
end SB

set_option maxHeartbeats 2000000
/-! What the walks ask of the text's top. -/
namespace SB
open PySem PySem.Spec PyProof.Rows L2
open C8 (Cal Mak Met pe_c pe_mk pe_mt pe_mt0 pe_gc InsC call_isC)
/-- the module's tuple x holds these texts -/
def Gtu (K : PySem.W.Frag) (mg : Str → Option Value) (x : Str) (ws : List Str) : Prop := ∃ b, mg x = some (.ref b) ∧ ∀ H, SqT K H b (ws.map V.str)
def small : Str := "abcdefghijklmnopqrstuvwxyz"
def w_BARRED : List Str := ["and", "any", "do", "if", "none", "not", "same", "send", "then", "time", "to", "wipe", "work"]
def w_PROMISES : List Str := ["made", "gone"]
def w_WAYS : List Str := ["some", "all", "time"]
def w_PLAIN_EVENTS : List Str := ["build", "leave", "work", "wipe"]
def w_PLAIN_TESTS : List Str := ["made", "built"]
def w_PLAIN_DEEDS : List Str := ["make", "take", "grip", "free"]
def w_NAMED_DEEDS : List Str := ["mark", "clear", "send"]
def w_PLACELESS : List Str := ["any", "same"]
def w_EVENTS : List Str := ["build", "leave", "time", "wipe", "work"]
/-- the classes' addresses -/
structure Cs where
  row : Addr
  first : Addr
  mode : Addr
  turn : Addr
  lead : Addr
  house : Addr
  plan : Addr
  ip : Addr
structure Tx (K : PySem.W.Frag) (mg : Str → Option Value) : Prop where
  m_len : mg "len" = none
  m_isinstance : mg "isinstance" = none
  m_str : mg "str" = none
  m_all : mg "all" = none
  m_any : mg "any" = none
  m_list : mg "list" = none
  m_tuple : mg "tuple" = none
  m_sorted : mg "sorted" = none
  m_int : mg "int" = none
  m_enumerate : mg "enumerate" = none
  m_range : mg "range" = none
  m_abs : mg "abs" = none
  k_SMALL : ∃ t, mg "SMALL" = some (.str small t)
  k_BARRED : Gtu K mg "BARRED" w_BARRED
  k_PROMISES : Gtu K mg "PROMISES" w_PROMISES
  k_WAYS : Gtu K mg "WAYS" w_WAYS
  k_PLAIN_EVENTS : Gtu K mg "PLAIN_EVENTS" w_PLAIN_EVENTS
  k_PLAIN_TESTS : Gtu K mg "PLAIN_TESTS" w_PLAIN_TESTS
  k_PLAIN_DEEDS : Gtu K mg "PLAIN_DEEDS" w_PLAIN_DEEDS
  k_NAMED_DEEDS : Gtu K mg "NAMED_DEEDS" w_NAMED_DEEDS
  k_PLACELESS : Gtu K mg "PLACELESS" w_PLACELESS
  k_EVENTS : Gtu K mg "EVENTS" w_EVENTS
  g_is_name : Glo K mg "is_name" s_is_name
  g_is_sequence : Glo K mg "is_sequence" s_is_sequence
  g_are_names : Glo K mg "are_names" s_are_names
  g_are_unlike_names : Glo K mg "are_unlike_names" s_are_unlike_names
  g_ascending : Glo K mg "ascending" s_ascending
  g_is_word : Glo K mg "is_word" s_is_word
  g_is_phase : Glo K mg "is_phase" s_is_phase
  g_is_test : Glo K mg "is_test" s_is_test
  g_is_deed : Glo K mg "is_deed" s_is_deed
  g_parted : Glo K mg "parted" s_parted
  g_joined : Glo K mg "joined" s_joined
  g_row_in : Glo K mg "row_in" s_row_in
  g_lead_in : Glo K mg "lead_in" s_lead_in
  g_house_in : Glo K mg "house_in" s_house_in
  g_has_twins : Glo K mg "has_twins" s_has_twins
  g_is_ring : Glo K mg "is_ring" s_is_ring
  g_fault_of : Glo K mg "fault_of" s_fault_of
  g_places_in : Glo K mg "places_in" s_places_in
  g_letters_in : Glo K mg "letters_in" s_letters_in
  g_names_behind : Glo K mg "names_behind" s_names_behind
  g_phases_in : Glo K mg "phases_in" s_phases_in
  g_marks_in : Glo K mg "marks_in" s_marks_in
  g_heeding_row : Glo K mg "heeding_row" s_heeding_row
  g_law_deal : Glo K mg "_law_deal" s_law_deal
  g_law_draw : Glo K mg "_law_draw" s_law_draw
  g_law_pick : Glo K mg "_law_pick" s_law_pick
  g_law_mixed : Glo K mg "_law_mixed" s_law_mixed
  g_law_pool : Glo K mg "_law_pool" s_law_pool
  g_law_names : Glo K mg "_law_names" s_law_names
  g_law_test : Glo K mg "_law_test" s_law_test
  g_law_deed : Glo K mg "_law_deed" s_law_deed
  g_law_made : Glo K mg "_law_made" s_law_made
  g_law_plan : Glo K mg "_law_plan" s_law_plan
  g_law_few : Glo K mg "_law_few" s_law_few
  g_law_lead_or_house : Glo K mg "_law_lead_or_house" s_law_lead_or_house
  g_law_plan_of : Glo K mg "_law_plan_of" s_law_plan_of
  g_law_less : Glo K mg "_law_less" s_law_less
  g_law_within : Glo K mg "_law_within" s_law_within
  g_law : Glo K mg "law" s_law
end SB

set_option maxHeartbeats 0
/-! What is looked at behind the top, and the top's run. -/
namespace SB
open PySem PySem.Spec PyProof.Rows L2

/-! ### the part of the heap, each address a written number -/
def frN {α : Type} (n : Nat) (k : Nat → α) : α := match n with
  | .zero => k .zero
  | .succ m => k (.succ m)
theorem frN_eq {α : Type} (n : Nat) (k : Nat → α) : frN n k = k n := by cases n <;> rfl
def frL {α : Type} : List Addr → (List Addr → α) → α
  | [], k => k []
  | a :: r, k => frN a fun a => frL r fun r => k (a :: r)
theorem frL_eq {α : Type} : ∀ (l : List Addr) (k : List Addr → α), frL l k = k l
  | [], _ => rfl
  | a :: r, k => by
    show frN a (fun a => frL r fun r => k (a :: r)) = k (a :: r)
    rw [frN_eq, frL_eq r]
def mkK {α : Type} (g : Addr → Option Obj) : List Addr → (PySem.W.Frag → α) → α
  | [], k => k []
  | a :: r, k => match g a with
    | some ⟨c, d, dt, sl⟩ => mkK g r fun K => k ((a, ⟨c, d, dt, sl⟩) :: K)
    | none => mkK g r k
theorem mkK_eq {α : Type} (g : Addr → Option Obj) : ∀ (l : List Addr) (k : PySem.W.Frag → α), mkK g l k = k (He.frG g l)
  | [], _ => rfl
  | a :: r, k => by
    unfold He.frG
    rw [List.filterMap_cons]
    unfold mkK
    cases e : g a with
    | none => exact mkK_eq g r k
    | some o =>
      obtain ⟨c, d, dt, sl⟩ := o
      exact mkK_eq g r fun K => k ((a, ⟨c, d, dt, sl⟩) :: K)
/-- what a namespace holds -/
def heldR (g : Addr → Option Obj) (a : Addr) : List Addr := match g a with
  | some ⟨_, _, .dict es _, _⟩ => es.toList.flatMap fun e => He.refV e.val
  | _ => []
def itemsR (g : Addr → Option Obj) (a : Addr) : List Addr := match g a with
  | some ⟨_, _, .seq its _, _⟩ => its.toList.flatMap He.refV
  | _ => []
/-- a def: its code, its defaults, its cells -/
def funR (g : Addr → Option Obj) (fd : FuncData) : List Addr := He.refV fd.code ++ ((He.refV fd.defaults).flatMap (fun t => t :: itemsR g t) ++ fd.closure.map (·.2))
def restR (g : Addr → Option Obj) (a : Addr) : List Addr := match g a with
  | some ⟨_, _, .func fd, _⟩ => funR g fd
  | some ⟨_, _, .fields vs, _⟩ => vs.toList.flatMap fun v => (He.refV v).flatMap fun f => match g f with
    | some ⟨_, _, .func fd, _⟩ => f :: funR g fd
    | _ => []
  | _ => []
def wanted : List Str := ["Row", "First", "Mode", "Turn", "Lead", "House", "Plan", "InvalidPlan", "StepError"]
def isWanted (g : Addr → Option Obj) (a : Addr) : Bool := match g a with
  | some ⟨_, _, .cls cd, _⟩ => wanted.contains cd.name
  | _ => false
def nsR (g : Addr → Option Obj) (a : Addr) : List Addr := match g a with
  | some ⟨_, _, .cls cd, _⟩ => [cd.ns]
  | _ => []
def isCls (g : Addr → Option Obj) (a : Addr) : Bool := match g a with
  | some ⟨_, _, .cls _, _⟩ => true
  | _ => false
/-- classes first, then their namespaces, what those hold, the rest -/
def addrs (g : Addr → Option Obj) : List Addr :=
  frL (heldR g mainGlobals) fun L => frL (L.filter (isWanted g)) fun C => frL (C.flatMap (nsR g)) fun N => frL (N.flatMap (heldR g)) fun M => frL (L.filter fun a => !isCls g a) fun F =>
    mainGlobals :: cStatics :: (C ++ (N ++ (M ++ (F ++ (M.flatMap (restR g) ++ F.flatMap (restR g))))))
abbrev theP : Program := (PySem.W.OpenLaw.row PySem.Challenge.rw_stepsback_k19_whole_plans_and_their_part).prog
def kFa (f : He.Fa) (K : PySem.W.Frag) : Bool := f.ok K
def tupAt (K : PySem.W.Frag) (a : Addr) (vs : List V) : Bool := match K.lookup a with
  | some ⟨.type n, _, .seq its _, _⟩ => decide (n = "tuple") && (decide (its.size ≤ sizeLine) && He.relAll vs its.toList)
  | _ => false
def kTup (x : Str) (ws : List Str) (K : PySem.W.Frag) : Bool := (He.Fa.glo x).ok K && tupAt K (He.ga K x) (ws.map V.str)
def kKcl (x : Str) (ks : List Str) (K : PySem.W.Frag) : Bool := (He.Fa.cls x).ok K && ks.all fun f => (He.Fa.noat x f).ok K
def kSame (x : Str) (K : PySem.W.Frag) : Bool := He.eqO (PySem.W.findIn K (.ref (He.ga K x)) "__eq__") (some (some (.ref (He.ma K (He.ga K "Row") "__eq__"))))
def kKit (x y : Str) (b : Bool) (K : PySem.W.Frag) : Bool := decide (PySem.W.kitOne K (.ref (He.ga K x)) (.ref (He.ga K y)) = some b)
def kIns (x : Str) (K : PySem.W.Frag) : Bool := (He.Fa.cls x).ok K && (He.eqO (PySem.W.findIn K (.ref (He.ga K x)) "__class__") (some (some (.builtin "object.__class__"))) &&
  (He.eqO (PySem.W.specialIn K (.builtin "object.__class__") "__get__") (some (some (.builtin "getset_descriptor.__get__"))) && (decide (PySem.W.takesIn K (.builtin "object.__class__") = some true) &&
  (decide (PySem.W.mroIn K (He.ga K x) (.type "object") = some true) && decide (PySem.W.kitOne K (.ref (He.ga K x)) (.ref (He.ga K x)) = some true)))))
def kRead (x m : Str) (K : PySem.W.Frag) : Bool := PySem.W.readsIn K (He.ga K x) (.type "type") && (He.eqO (PySem.W.specialIn K (.ref (He.ga K x)) "__getattribute__") (some (some (.builtin "type.__getattribute__"))) &&
  (He5.wrapB K (He.ga K x) "classmethod" "classmethod.__get__" m && PySem.W.fnIn K (He5.wf K (He.ga K x) "classmethod" m)))
def nsA (K : PySem.W.Frag) (C : Addr) : Addr := match K.lookup C with
  | some ⟨_, _, .cls cd, _⟩ => cd.ns
  | _ => 0
def clsB (K : PySem.W.Frag) (C : Addr) (p : List Value → Bool → String → Bool) : Bool := match K.lookup C with
  | some ⟨.type n, _, .cls cd, sl⟩ => (match cd.mro, sl.toList with
    | .ref D :: bm, [_, _, _, _, some (.builtin k), _] => decide (n = "type") && (decide (D = C) && (!cd.hasDel && p bm cd.hasDict k))
    | _, _ => false)
  | _ => false
def kNe (x : Str) (K : PySem.W.Frag) : Bool := clsB K (He.ga K x) (fun bm _ _ => decide (bm = [.type "object"])) && (PySem.W.nsOkIn K (nsA K (He.ga K x)) && (He.eqO (PySem.W.nsIn K (nsA K (He.ga K x)) "__eq__") (some (some (.ref (He.ma K (He.ga K x) "__eq__")))) &&
  (He.eqO (PySem.W.nsIn K (nsA K (He.ga K x)) "__ne__") (some none) && PySem.W.isFn K (.ref (He.ma K (He.ga K x) "__eq__")))))
def ipC (K : PySem.W.Frag) : Addr := He.ga K "InvalidPlan"
def ipI (K : PySem.W.Frag) : Addr := He.ma K (ipC K) "__init__"
def ipCell (K : PySem.W.Frag) : Addr := match K.lookup (ipI K) with
  | some ⟨_, _, .func fd, _⟩ => (match fd.closure with
    | [(_, a)] => a
    | _ => 0)
  | _ => 0
def ipCode (K : PySem.W.Frag) : Addr := match K.lookup (ipI K) with
  | some ⟨_, _, .func fd, _⟩ => (match fd.code with
    | .ref a => a
    | _ => 0)
  | _ => 0
abbrev IpV : Type := Option (Str × Str × Arguments × FuncBody × Scope × Addr × Addr)
def ipObs (K : PySem.W.Frag) : IpV := match K.lookup (ipI K) with
  | some ⟨_, _, .func fd, _⟩ => some (fd.name, fd.qualname, fd.params, fd.body, fd.scope, fd.globals, fd.builtins)
  | _ => none
def ipVal : IpV := some ("__init__", "InvalidPlan.__init__", L2.defArgs s_InvalidPlan_init, .stmts (L2.defBody s_InvalidPlan_init), L2.defScope s_InvalidPlan_init, mainGlobals, builtinsNs)
def noneB : Value → Bool
  | .none => true
  | _ => false
def ipFn (K : PySem.W.Frag) : Bool := match K.lookup (ipI K) with
  | some ⟨_, _, .func fd, _⟩ => noneB fd.defaults && (noneB fd.kwdefaults && ((match fd.closure with
    | [(x, a)] => decide (x = "__class__") && decide (a = ipCell K)
    | _ => false) && (match fd.code with
    | .ref a => decide (a = ipCode K)
    | _ => false)))
  | _ => false
def ipCellB (K : PySem.W.Frag) : Bool := match K.lookup (ipCell K) with
  | some ⟨_, _, .cell (some (.ref a)), _⟩ => decide (a = ipC K)
  | _ => false
def ipFile (K : PySem.W.Frag) : Bool := match K.lookup (ipCode K) with
  | some ⟨_, _, .fields vs, _⟩ => (match (vs[2]? : Option Value) with
    | some (.str z _) => theP.main.file == z
    | _ => false)
  | _ => false
def kIp (K : PySem.W.Frag) : Bool := clsB K (ipC K) (fun bm hd ni => PySem.HandSPX.refsVE bm && (hd && decide (ni = "ValueError.__new__"))) && (He.eqO (PySem.W.findIn K (.ref (ipC K)) "__setattr__") (some (some (.builtin "object.__setattr__"))) &&
  (He.eqO (PySem.W.findIn K (.ref (ipC K)) "word") (some none) && (He.eqO (PySem.W.findIn K (.ref (ipC K)) "__init__") (some (some (.ref (ipI K)))) && (decide (PySem.W.typeIn K (.ref (ipI K)) = some (.type "function")) &&
  (PySem.W.keepIn K (.ref (ipC K)) && (decide (PySem.W.subIn K (.ref (ipC K)) (.type "BaseException") = some true) && (decide (PySem.W.typeIn K (.ref (ipC K)) = some (.type "type")) &&
  (decide (PySem.W.exmOne K (.ref (ipC K)) (.ref (ipC K)) = some true) && (He.eqO (PySem.W.ks_superIn K (ipC K) (ipC K) "__init__") (some (some (.builtin "ValueError.__init__"))) && (decide (PySem.W.subIn K (.ref (ipC K)) (.type "ValueError") = some true) &&
  (He.eqO (PySem.W.nsIn K cStatics "thirdparty.any") (some none) && (decide (PySem.W.mroIn K (ipC K) (.ref (ipC K)) = some true) && (ipFn K && (PySem.W.codeIn K (.ref (ipCode K)) "InvalidPlan.__init__" && (ipCellB K && ipFile K)))))))))))))))
def ckAll0 : List (PySem.W.Frag → Bool) := [kFa (.free "len"),
  kFa (.free "isinstance"),
  kFa (.free "str"),
  kFa (.free "all"),
  kFa (.free "any"),
  kFa (.free "list"),
  kFa (.free "tuple"),
  kFa (.free "sorted"),
  kFa (.free "int"),
  kFa (.free "enumerate"),
  kFa (.free "range"),
  kFa (.free "abs"),
  kFa (.free "super"),
  kFa (.str "SMALL" small),
  kTup "BARRED" w_BARRED,
  kTup "PROMISES" w_PROMISES,
  kTup "WAYS" w_WAYS,
  kTup "PLAIN_EVENTS" w_PLAIN_EVENTS,
  kTup "PLAIN_TESTS" w_PLAIN_TESTS,
  kTup "PLAIN_DEEDS" w_PLAIN_DEEDS]
def ckAll1 : List (PySem.W.Frag → Bool) := [kTup "NAMED_DEEDS" w_NAMED_DEEDS,
  kTup "PLACELESS" w_PLACELESS,
  kTup "EVENTS" w_EVENTS,
  kFa (.glo "is_name"),
  kFa (.glo "is_sequence"),
  kFa (.glo "are_names"),
  kFa (.glo "are_unlike_names"),
  kFa (.glo "ascending"),
  kFa (.glo "is_word"),
  kFa (.glo "is_phase"),
  kFa (.glo "is_test"),
  kFa (.glo "is_deed"),
  kFa (.glo "parted"),
  kFa (.glo "joined"),
  kFa (.glo "row_in"),
  kFa (.glo "lead_in"),
  kFa (.glo "house_in"),
  kFa (.glo "has_twins"),
  kFa (.glo "is_ring"),
  kFa (.glo "fault_of")]
def ckAll2 : List (PySem.W.Frag → Bool) := [kFa (.glo "places_in"),
  kFa (.glo "letters_in"),
  kFa (.glo "names_behind"),
  kFa (.glo "phases_in"),
  kFa (.glo "marks_in"),
  kFa (.glo "heeding_row"),
  kFa (.glo "_law_deal"),
  kFa (.glo "_law_draw"),
  kFa (.glo "_law_pick"),
  kFa (.glo "_law_mixed"),
  kFa (.glo "_law_pool"),
  kFa (.glo "_law_names"),
  kFa (.glo "_law_test"),
  kFa (.glo "_law_deed"),
  kFa (.glo "_law_made"),
  kFa (.glo "_law_plan"),
  kFa (.glo "_law_few"),
  kFa (.glo "_law_lead_or_house"),
  kFa (.glo "_law_plan_of"),
  kFa (.glo "_law_less")]
def ckAll3 : List (PySem.W.Frag → Bool) := [kFa (.glo "_law_within"),
  kFa (.glo "law"),
  kFa (.glo "Row"),
  kFa (.glo "First"),
  kFa (.glo "Mode"),
  kFa (.glo "Turn"),
  kFa (.glo "Lead"),
  kFa (.glo "House"),
  kFa (.glo "Plan"),
  kFa (.glo "InvalidPlan"),
  kKcl "First" [("place" : Str)],
  kKcl "Mode" [("name" : Str), ("promise" : Str), ("ends" : Str)],
  kKcl "Turn" [("mode" : Str), ("way" : Str), ("places" : Str), ("then" : Str)],
  kKcl "Lead" [("mode" : Str), ("place" : Str), ("event" : Str), ("then" : Str), ("sends" : Str)],
  kKcl "House" [("event" : Str), ("tests" : Str), ("deeds" : Str)],
  kKcl "Plan" [("rows" : Str), ("modes" : Str), ("firsts" : Str), ("turns" : Str), ("places" : Str), ("phases" : Str), ("marks" : Str), ("letters" : Str)],
  kFa (.mkr "First"),
  kFa (.mkr "Mode"),
  kFa (.mkr "Turn"),
  kFa (.mkr "Lead")]
def ckAll4 : List (PySem.W.Frag → Bool) := [kFa (.mkr "House"),
  kFa (.mkr "Plan"),
  kFa (.meth "First" "__str__"),
  kFa (.meth "Mode" "__str__"),
  kFa (.meth "Turn" "__str__"),
  kFa (.meth "Lead" "__str__"),
  kFa (.meth "House" "__str__"),
  kFa (.meth "Plan" "__str__"),
  kFa (.meth "Plan" "__len__"),
  kFa (.meth "Plan" "need_row"),
  kFa (.meth "Plan" "heeding"),
  kFa (.meth "Plan" "without"),
  kFa (.meth "Row" "__eq__"),
  kSame "First",
  kSame "Mode",
  kSame "Turn",
  kSame "Lead",
  kSame "House",
  kIns "First",
  kIns "Mode"]
def ckAll5 : List (PySem.W.Frag → Bool) := [kIns "Turn",
  kIns "Lead",
  kIns "House",
  kIns "Plan",
  kKit "First" "Row" true,
  kKit "First" "First" true,
  kKit "First" "Mode" false,
  kKit "First" "Turn" false,
  kKit "First" "Lead" false,
  kKit "First" "House" false,
  kKit "Mode" "Row" true,
  kKit "Mode" "First" false,
  kKit "Mode" "Mode" true,
  kKit "Mode" "Turn" false,
  kKit "Mode" "Lead" false,
  kKit "Mode" "House" false,
  kKit "Turn" "Row" true,
  kKit "Turn" "First" false,
  kKit "Turn" "Mode" false,
  kKit "Turn" "Turn" true]
def ckAll6 : List (PySem.W.Frag → Bool) := [kKit "Turn" "Lead" false,
  kKit "Turn" "House" false,
  kKit "Lead" "Row" true,
  kKit "Lead" "First" false,
  kKit "Lead" "Mode" false,
  kKit "Lead" "Turn" false,
  kKit "Lead" "Lead" true,
  kKit "Lead" "House" false,
  kKit "House" "Row" true,
  kKit "House" "First" false,
  kKit "House" "Mode" false,
  kKit "House" "Turn" false,
  kKit "House" "Lead" false,
  kKit "House" "House" true,
  kRead "Row" "read",
  kRead "Plan" "read",
  kNe "Plan",
  kIp,
  fun _ => true,
  fun K => tupAt K (He.dflAt ("Lead", some "__init__") 0 K) []]
def ckAll : List (PySem.W.Frag → Bool) := ckAll0 ++ (ckAll1 ++ (ckAll2 ++ (ckAll3 ++ (ckAll4 ++ (ckAll5 ++ (ckAll6))))))
def deAll0 : List (He5.DefA) := [⟨fun K => He.ga K "is_name", "is_name", "is_name", L2.defArgs s_is_name, L2.defBody s_is_name, L2.defScope s_is_name, [], []⟩,
  ⟨fun K => He.ga K "is_sequence", "is_sequence", "is_sequence", L2.defArgs s_is_sequence, L2.defBody s_is_sequence, L2.defScope s_is_sequence, [], []⟩,
  ⟨fun K => He.ga K "are_names", "are_names", "are_names", L2.defArgs s_are_names, L2.defBody s_are_names, L2.defScope s_are_names, [], []⟩,
  ⟨fun K => He.ga K "are_unlike_names", "are_unlike_names", "are_unlike_names", L2.defArgs s_are_unlike_names, L2.defBody s_are_unlike_names, L2.defScope s_are_unlike_names, [], []⟩,
  ⟨fun K => He.ga K "ascending", "ascending", "ascending", L2.defArgs s_ascending, L2.defBody s_ascending, L2.defScope s_ascending, [], []⟩,
  ⟨fun K => He.ga K "is_word", "is_word", "is_word", L2.defArgs s_is_word, L2.defBody s_is_word, L2.defScope s_is_word, [], []⟩,
  ⟨fun K => He.ga K "is_phase", "is_phase", "is_phase", L2.defArgs s_is_phase, L2.defBody s_is_phase, L2.defScope s_is_phase, [], []⟩,
  ⟨fun K => He.ga K "is_test", "is_test", "is_test", L2.defArgs s_is_test, L2.defBody s_is_test, L2.defScope s_is_test, [], []⟩,
  ⟨fun K => He.ga K "is_deed", "is_deed", "is_deed", L2.defArgs s_is_deed, L2.defBody s_is_deed, L2.defScope s_is_deed, [], []⟩,
  ⟨fun K => He.ga K "parted", "parted", "parted", L2.defArgs s_parted, L2.defBody s_parted, L2.defScope s_parted, [], []⟩,
  ⟨fun K => He.ga K "joined", "joined", "joined", L2.defArgs s_joined, L2.defBody s_joined, L2.defScope s_joined, [], []⟩,
  ⟨fun K => He.ga K "row_in", "row_in", "row_in", L2.defArgs s_row_in, L2.defBody s_row_in, L2.defScope s_row_in, [], []⟩,
  ⟨fun K => He.ga K "lead_in", "lead_in", "lead_in", L2.defArgs s_lead_in, L2.defBody s_lead_in, L2.defScope s_lead_in, [], []⟩,
  ⟨fun K => He.ga K "house_in", "house_in", "house_in", L2.defArgs s_house_in, L2.defBody s_house_in, L2.defScope s_house_in, [], []⟩,
  ⟨fun K => He.ga K "has_twins", "has_twins", "has_twins", L2.defArgs s_has_twins, L2.defBody s_has_twins, L2.defScope s_has_twins, [], []⟩,
  ⟨fun K => He.ga K "is_ring", "is_ring", "is_ring", L2.defArgs s_is_ring, L2.defBody s_is_ring, L2.defScope s_is_ring, [], []⟩,
  ⟨fun K => He.ga K "fault_of", "fault_of", "fault_of", L2.defArgs s_fault_of, L2.defBody s_fault_of, L2.defScope s_fault_of, [], []⟩,
  ⟨fun K => He.ga K "places_in", "places_in", "places_in", L2.defArgs s_places_in, L2.defBody s_places_in, L2.defScope s_places_in, [], []⟩,
  ⟨fun K => He.ga K "letters_in", "letters_in", "letters_in", L2.defArgs s_letters_in, L2.defBody s_letters_in, L2.defScope s_letters_in, [], []⟩,
  ⟨fun K => He.ga K "names_behind", "names_behind", "names_behind", L2.defArgs s_names_behind, L2.defBody s_names_behind, L2.defScope s_names_behind, [], []⟩]
def deAll1 : List (He5.DefA) := [⟨fun K => He.ga K "phases_in", "phases_in", "phases_in", L2.defArgs s_phases_in, L2.defBody s_phases_in, L2.defScope s_phases_in, [], []⟩,
  ⟨fun K => He.ga K "marks_in", "marks_in", "marks_in", L2.defArgs s_marks_in, L2.defBody s_marks_in, L2.defScope s_marks_in, [], []⟩,
  ⟨fun K => He.ga K "heeding_row", "heeding_row", "heeding_row", L2.defArgs s_heeding_row, L2.defBody s_heeding_row, L2.defScope s_heeding_row, [], []⟩,
  ⟨fun K => He.ga K "_law_deal", "_law_deal", "_law_deal", L2.defArgs s_law_deal, L2.defBody s_law_deal, L2.defScope s_law_deal, [], []⟩,
  ⟨fun K => He.ga K "_law_draw", "_law_draw", "_law_draw", L2.defArgs s_law_draw, L2.defBody s_law_draw, L2.defScope s_law_draw, [], []⟩,
  ⟨fun K => He.ga K "_law_pick", "_law_pick", "_law_pick", L2.defArgs s_law_pick, L2.defBody s_law_pick, L2.defScope s_law_pick, [], []⟩,
  ⟨fun K => He.ga K "_law_mixed", "_law_mixed", "_law_mixed", L2.defArgs s_law_mixed, L2.defBody s_law_mixed, L2.defScope s_law_mixed, [], []⟩,
  ⟨fun K => He.ga K "_law_pool", "_law_pool", "_law_pool", L2.defArgs s_law_pool, L2.defBody s_law_pool, L2.defScope s_law_pool, [], []⟩,
  ⟨fun K => He.ga K "_law_names", "_law_names", "_law_names", L2.defArgs s_law_names, L2.defBody s_law_names, L2.defScope s_law_names, [], []⟩,
  ⟨fun K => He.ga K "_law_test", "_law_test", "_law_test", L2.defArgs s_law_test, L2.defBody s_law_test, L2.defScope s_law_test, [], []⟩,
  ⟨fun K => He.ga K "_law_deed", "_law_deed", "_law_deed", L2.defArgs s_law_deed, L2.defBody s_law_deed, L2.defScope s_law_deed, [], []⟩,
  ⟨fun K => He.ga K "_law_made", "_law_made", "_law_made", L2.defArgs s_law_made, L2.defBody s_law_made, L2.defScope s_law_made, [], []⟩,
  ⟨fun K => He.ga K "_law_plan", "_law_plan", "_law_plan", L2.defArgs s_law_plan, L2.defBody s_law_plan, L2.defScope s_law_plan, [], []⟩,
  ⟨fun K => He.ga K "_law_few", "_law_few", "_law_few", L2.defArgs s_law_few, L2.defBody s_law_few, L2.defScope s_law_few, [], []⟩,
  ⟨fun K => He.ga K "_law_lead_or_house", "_law_lead_or_house", "_law_lead_or_house", L2.defArgs s_law_lead_or_house, L2.defBody s_law_lead_or_house, L2.defScope s_law_lead_or_house, [], []⟩,
  ⟨fun K => He.ga K "_law_plan_of", "_law_plan_of", "_law_plan_of", L2.defArgs s_law_plan_of, L2.defBody s_law_plan_of, L2.defScope s_law_plan_of, [], []⟩,
  ⟨fun K => He.ga K "_law_less", "_law_less", "_law_less", L2.defArgs s_law_less, L2.defBody s_law_less, L2.defScope s_law_less, [], []⟩,
  ⟨fun K => He.ga K "_law_within", "_law_within", "_law_within", L2.defArgs s_law_within, L2.defBody s_law_within, L2.defScope s_law_within, [], []⟩,
  ⟨fun K => He.ga K "law", "law", "law", L2.defArgs s_law, L2.defBody s_law, L2.defScope s_law, [], []⟩,
  ⟨fun K => He.ma K (He.ga K "First") "__init__", "__init__", "First.__init__", L2.defArgs s_First_init, L2.defBody s_First_init, L2.defScope s_First_init, [], []⟩]
def deAll2 : List (He5.DefA) := [⟨fun K => He.ma K (He.ga K "Mode") "__init__", "__init__", "Mode.__init__", L2.defArgs s_Mode_init, L2.defBody s_Mode_init, L2.defScope s_Mode_init, [.non, .adr (He.dflAt ("Mode", some "__init__") 1)], []⟩,
  ⟨fun K => He.ma K (He.ga K "Turn") "__init__", "__init__", "Turn.__init__", L2.defArgs s_Turn_init, L2.defBody s_Turn_init, L2.defScope s_Turn_init, [], []⟩,
  ⟨fun K => He.ma K (He.ga K "Lead") "__init__", "__init__", "Lead.__init__", L2.defArgs s_Lead_init, L2.defBody s_Lead_init, L2.defScope s_Lead_init, [.adr (He.dflAt ("Lead", some "__init__") 0)], []⟩,
  ⟨fun K => He.ma K (He.ga K "House") "__init__", "__init__", "House.__init__", L2.defArgs s_House_init, L2.defBody s_House_init, L2.defScope s_House_init, [.adr (He.dflAt ("House", some "__init__") 0), .adr (He.dflAt ("House", some "__init__") 1)], []⟩,
  ⟨fun K => He.ma K (He.ga K "First") "__str__", "__str__", "First.__str__", L2.defArgs s_First_str, L2.defBody s_First_str, L2.defScope s_First_str, [], []⟩,
  ⟨fun K => He.ma K (He.ga K "Mode") "__str__", "__str__", "Mode.__str__", L2.defArgs s_Mode_str, L2.defBody s_Mode_str, L2.defScope s_Mode_str, [], []⟩,
  ⟨fun K => He.ma K (He.ga K "Turn") "__str__", "__str__", "Turn.__str__", L2.defArgs s_Turn_str, L2.defBody s_Turn_str, L2.defScope s_Turn_str, [], []⟩,
  ⟨fun K => He.ma K (He.ga K "Lead") "__str__", "__str__", "Lead.__str__", L2.defArgs s_Lead_str, L2.defBody s_Lead_str, L2.defScope s_Lead_str, [], []⟩,
  ⟨fun K => He.ma K (He.ga K "House") "__str__", "__str__", "House.__str__", L2.defArgs s_House_str, L2.defBody s_House_str, L2.defScope s_House_str, [], []⟩,
  ⟨fun K => He.ma K (He.ga K "Row") "__eq__", "__eq__", "Row.__eq__", L2.defArgs s_Row_eq, L2.defBody s_Row_eq, L2.defScope s_Row_eq, [], []⟩,
  ⟨fun K => He.ma K (He.ga K "Plan") "__init__", "__init__", "Plan.__init__", L2.defArgs s_Plan_init, L2.defBody s_Plan_init, L2.defScope s_Plan_init, [], []⟩,
  ⟨fun K => He.ma K (He.ga K "Plan") "__str__", "__str__", "Plan.__str__", L2.defArgs s_Plan_str, L2.defBody s_Plan_str, L2.defScope s_Plan_str, [], []⟩,
  ⟨fun K => He.ma K (He.ga K "Plan") "__len__", "__len__", "Plan.__len__", L2.defArgs s_Plan_len, L2.defBody s_Plan_len, L2.defScope s_Plan_len, [], []⟩,
  ⟨fun K => He.ma K (He.ga K "Plan") "__eq__", "__eq__", "Plan.__eq__", L2.defArgs s_Plan_eq, L2.defBody s_Plan_eq, L2.defScope s_Plan_eq, [], []⟩,
  ⟨fun K => He.ma K (He.ga K "Plan") "need_row", "need_row", "Plan.need_row", L2.defArgs s_Plan_need_row, L2.defBody s_Plan_need_row, L2.defScope s_Plan_need_row, [], []⟩,
  ⟨fun K => He.ma K (He.ga K "Plan") "heeding", "heeding", "Plan.heeding", L2.defArgs s_Plan_heeding, L2.defBody s_Plan_heeding, L2.defScope s_Plan_heeding, [], []⟩,
  ⟨fun K => He.ma K (He.ga K "Plan") "without", "without", "Plan.without", L2.defArgs s_Plan_without, L2.defBody s_Plan_without, L2.defScope s_Plan_without, [], []⟩,
  ⟨fun K => He5.wf K (He.ga K "Row") "classmethod" "read", "read", "Row.read", L2.defArgs s_Row_read, L2.defBody s_Row_read, L2.defScope s_Row_read, [], []⟩,
  ⟨fun K => He5.wf K (He.ga K "Plan") "classmethod" "read", "read", "Plan.read", L2.defArgs s_Plan_read, L2.defBody s_Plan_read, L2.defScope s_Plan_read, [], []⟩]
def deAll : List (He5.DefA) := deAll0 ++ (deAll1 ++ (deAll2))
def obL (K : PySem.W.Frag) : List He5.DefA → List He5.FnW
  | [] => []
  | d :: r => He5.fnA K (d.at_ K) :: obL K r
def vaL : List He5.DefA → List He5.FnW
  | [] => []
  | d :: r => d.val :: vaL r
def okL (K : PySem.W.Frag) : List He5.DefA → Bool
  | [] => true
  | d :: r => d.ok K && okL K r
def okC (K : PySem.W.Frag) : List (PySem.W.Frag → Bool) → Bool
  | [] => true
  | f :: r => f K && okC K r
abbrev AlS : Type := (Bool × List He5.FnW) × IpV
def obsS (K : PySem.W.Frag) : AlS := ((okC K ckAll && okL K deAll, obL K deAll), ipObs K)
def valS : AlS := ((true, vaL deAll), ipVal)
structure SaysS (K : PySem.W.Frag) : Prop where
  e : obsS K = valS
def obsAt (g : Addr → Option Obj) : AlS := obsS (He.frG g (addrs g))
def theHk : PySem.W.Hook where
  α := AlS
  obs := fun s => obsAt s.heap.get?
  val := fun _ => valS
  says := fun _ h => ∃ K : PySem.W.Frag, K.In h ∧ SaysS K
  of := fun _ _ e => ⟨_, He.frG_in, ⟨e⟩⟩
  keeps := fun _ _ _ ⟨K, hK, q⟩ k => ⟨K, PySem.W.Frag.In.keeps hK k, q⟩
def theOb (s : PySem.W.SharedT) : AlS := frL (addrs (HandSHeadRun.getT s)) fun l => mkK (HandSHeadRun.getT s) l obsS
theorem theOb_eq (s : PySem.W.SharedT) : theOb s = theHk.obs s.abs := by
  have e : HandSHeadRun.getT s = s.abs.heap.get? := funext (HandSHeadRun.getT_eq s)
  unfold theOb
  rw [frL_eq, mkK_eq, e]
  rfl
def loose0 : List PySem.Str := [PySem.Str.ofString "StepError", PySem.Str.ofString "InvalidRow", PySem.Str.ofString "InvalidPlan", PySem.Str.ofString "InvalidText", PySem.Str.ofString "Refused", PySem.Str.ofString "Mismatch", PySem.Str.ofString "NoRow", PySem.Str.ofString "SMALL", PySem.Str.ofString "BARRED", PySem.Str.ofString "GOALS", PySem.Str.ofString "is_name", PySem.Str.ofString "is_sequence", PySem.Str.ofString "are_names", PySem.Str.ofString "are_unlike_names", PySem.Str.ofString "ascending", PySem.Str.ofString "PROMISES", PySem.Str.ofString "WAYS", PySem.Str.ofString "PLAIN_EVENTS", PySem.Str.ofString "PLAIN_TESTS", PySem.Str.ofString "PLAIN_DEEDS"]
def loose1 : List PySem.Str := [PySem.Str.ofString "NAMED_DEEDS", PySem.Str.ofString "is_word", PySem.Str.ofString "is_phase", PySem.Str.ofString "is_test", PySem.Str.ofString "is_deed", PySem.Str.ofString "Row", PySem.Str.ofString "First", PySem.Str.ofString "Mode", PySem.Str.ofString "Turn", PySem.Str.ofString "Lead", PySem.Str.ofString "House", PySem.Str.ofString "parted", PySem.Str.ofString "joined", PySem.Str.ofString "row_in", PySem.Str.ofString "lead_in", PySem.Str.ofString "house_in", PySem.Str.ofString "LEAST", PySem.Str.ofString "MOST", PySem.Str.ofString "ALWAYS", PySem.Str.ofString "first_standing"]
def loose2 : List PySem.Str := [PySem.Str.ofString "with_one", PySem.Str.ofString "without_one", PySem.Str.ofString "holds", PySem.Str.ofString "behind_deed", PySem.Str.ofString "Single", PySem.Str.ofString "Played", PySem.Str.ofString "Course", PySem.Str.ofString "played_by", PySem.Str.ofString "play", PySem.Str.ofString "PLACELESS", PySem.Str.ofString "EVENTS", PySem.Str.ofString "has_twins", PySem.Str.ofString "is_ring", PySem.Str.ofString "fault_of", PySem.Str.ofString "places_in", PySem.Str.ofString "letters_in", PySem.Str.ofString "names_behind", PySem.Str.ofString "phases_in", PySem.Str.ofString "marks_in", PySem.Str.ofString "heeding_row"]
def loose3 : List PySem.Str := [PySem.Str.ofString "Plan", PySem.Str.ofString "_law_deal", PySem.Str.ofString "_law_draw", PySem.Str.ofString "_law_pick", PySem.Str.ofString "_law_mixed", PySem.Str.ofString "_law_pool", PySem.Str.ofString "_law_names", PySem.Str.ofString "_law_test", PySem.Str.ofString "_law_deed", PySem.Str.ofString "_law_made", PySem.Str.ofString "_law_plan", PySem.Str.ofString "_law_few", PySem.Str.ofString "_law_lead_or_house", PySem.Str.ofString "_law_plan_of", PySem.Str.ofString "_law_less", PySem.Str.ofString "_law_within"]
def loose : List PySem.Str := loose0 ++ loose1 ++ loose2 ++ loose3
abbrev theR : PySem.W.OpenRow := PySem.W.OpenLaw.row PySem.Challenge.rw_stepsback_k19_whole_plans_and_their_part
theorem theRun (w : World) : HandSHeadRun.RunEq theR (PySem.W.view theR.prog [83]) theHk theOb 20000 loose w := by
  intro os
  kernel_rfl
end SB

set_option maxHeartbeats 2000000
/-! Dict comprehensions; the keys that texts leave. -/
namespace SB
open PySem PySem.Spec PyProof.Rows L2
open C8 (Cal Mak Met pe_c pe_mk pe_mt pe_mt0 pe_gc InsC call_isC)

def DcR (g : TG) (tt : TT) (tk tv : TE) (vs : List Nat) (σ : Sg) (Q : VK) : It → Hp → Prop := fun J H1 => ∀ D, H1 D = none → ∃ W : Nat → Nat → Hp → Prop, (∃ m, W 0 m (upd H1 D (.dK []))) ∧ ∀ i m H, W i m H →
  (J.stop i H ∧ Q (.ref D) H) ∨ (J.go i H ∧ ∃ Nx : Hp → Prop, (∀ H', Nx H' → ∃ m', m' < m ∧ W (i + 1) m' H') ∧ ∀ x H', J.yld i H x H' → g x (wipe σ vs) H' fun σ2 H2 => wipe σ2 vs = wipe σ vs ∧ tt σ2 H2 fun b H3 =>
    if b = true then tk σ2 H3 fun y H4 => tv σ2 H4 fun z H5 => ∃ kvs k, y = kV k ∧ H5 D = some (.dK kvs) ∧ kvs.length < sizeLine ∧ Nx (upd H5 D (.dK (putK kvs k z))) else Nx H3)
def tDx (wi : TI) (g : TG) (tt : TT) (tk tv : TE) (vs : List Nat) : TE := fun σ H Q => wi σ H (DcR g tt tk tv vs σ Q)
theorem pe_dx {X : Cx} {kx vx tg iter : Expr} {ifs : List Expr} {scope : Scope} {own : List (Str × Nat)} {pos : Pos} {wi : TI} {g : TG} {tt : TT} {tk tv : TE} (hc : X.calm = true) (hN : X.N.Nodup) (hi : PI X tg iter wi) (ok : BlkOk X.N X.env.scope scope own)
    (hg : ∀ (s : Shared) (H : Hp) (C : Addr) (cl : List (Str × Addr)) (fp : List Addr), PG (X.blk s H scope (compEnvC scope cl C X.env) fp) tg g) (ht : ∀ (s : Shared) (H : Hp) (C : Addr) (cl : List (Str × Addr)) (fp : List Addr), PTs (X.blk s H scope (compEnvC scope cl C X.env) fp) ifs tt)
    (hk : ∀ (s : Shared) (H : Hp) (C : Addr) (cl : List (Str × Addr)) (fp : List Addr), PE (X.blk s H scope (compEnvC scope cl C X.env) fp) kx tk)
    (he : ∀ (s : Shared) (H : Hp) (C : Addr) (cl : List (Str × Addr)) (fp : List Addr), PE (X.blk s H scope (compEnvC scope cl C X.env) fp) vx tv) (hs : ∀ x, foldedSetIterable iter X.env x = pure x := by intro _; rfl) :
    PE X (.DictComp kx vx [⟨tg, iter, ifs, 0⟩] scope pos) (tDx wi g tt tk tv (own.map (·.2))) := pe_dc hc hN hi ok hg ht hk he hs
/-- a made dict is locked: nobody else holds it -/
def tLk (te : TE) : TE := fun σ H Q => te σ H fun x H1 => ∃ d u, x = .ref d ∧ H1 d = some u ∧ Mut (some u) ∧ ∀ od, Q x (upd H1 d (.frz od u))
theorem pe_lk {X : Cx} {e : Expr} {te : TE} (he : PE X e te) : PE X e (tLk te) := ⟨fun pins s σ H Q I h => thn (he.run pins s σ H _ I h) fun v s1 ⟨x, H1, J, rx, d, u, ex, hd, mu, q⟩ =>
  let ⟨od, J2⟩ := J.lock hd mu
  ⟨x, _, J2, rx, q od⟩⟩

/-- one turn: what is put -/
def DcT (g : TG) (tt : TT) (tk tv : TE) (vs : List Nat) (σ : Sg) (xs : List V) (H1 : Hp) (P : Nat → List (Key × V) → Prop) : Prop := ∀ D (i : Nat) x kvs H, H1 D = none → xs[i]? = some x → Same H1 H → H D = some (.dK kvs) → P i kvs →
  ∀ (N : V → V → Hp → Prop) (M : Hp → Prop), (∀ k z H', Same H H' → P (i + 1) (putK kvs k z) → N (kV k) z H') → (∀ H', Same H H' → P (i + 1) kvs → M H') →
  g x (wipe σ vs) H fun σ2 H2 => wipe σ2 vs = wipe σ vs ∧ tt σ2 H2 fun b H3 => if b = true then tk σ2 H3 fun y H4 => tv σ2 H4 fun z H5 => N y z H5 else M H3
theorem putK_le (kvs : List (Key × V)) (k : Key) (v : V) : (putK kvs k v).length ≤ kvs.length + 1 := by
  unfold putK
  split
  · rw [List.length_map]; omega
  · rw [List.length_append]; exact Nat.le_refl _
theorem kV_inj : ∀ {a b : Key}, kV a = kV b → a = b
  | .inl i, .inl j, h => by injection h with e; rw [e]
  | .inr x, .inr y, h => by injection h with e; rw [e]
  | .inl _, .inr _, h => nomatch h
  | .inr _, .inl _, h => nomatch h
section
variable {K : PySem.W.Frag} {a : Addr} {xs : List V} {g : TG} {tt : TT} {tk tv : TE} {vs : List Nat} {σ : Sg} {H1 : Hp} {Q : VK}
theorem dc_any {J : It} (hst : ∀ i H, Same H1 H → xs.length ≤ i → J.stop i H) (hgo : ∀ i H x, Same H1 H → xs[i]? = some x → J.go i H) (hy : ∀ i H x H', Same H1 H → J.yld i H x H' → H' = H ∧ ∀ z, xs[i]? = some z → x = z)
    (sz : xs.length < sizeLine) (P : Nat → List (Key × V) → Prop) (h0 : P 0 []) (hs : DcT g tt tk tv vs σ xs H1 P)
    (hd : ∀ D kvs H, H1 D = none → Same H1 H → H D = some (.dK kvs) → kvs.length ≤ xs.length → P xs.length kvs → Q (.ref D) H) : DcR g tt tk tv vs σ Q J H1 := by
  intro D nD
  refine ⟨fun i m H => m = xs.length - i ∧ i ≤ xs.length ∧ Same H1 H ∧ ∃ kvs, H D = some (.dK kvs) ∧ kvs.length ≤ i ∧ P i kvs, ⟨xs.length, by simp, Nat.zero_le _, Sn nD, [], upd_same, Nat.le_refl _, h0⟩, ?_⟩
  rintro i m H ⟨rfl, hi, s1, kvs, hD, hl, p⟩
  by_cases hlt : i < xs.length
  · have hx : xs[i]? = some xs[i] := List.getElem?_eq_getElem hlt
    refine .inr ⟨hgo i H _ s1 hx, fun H' => Same H1 H' ∧ ∃ kvs, H' D = some (.dK kvs) ∧ kvs.length ≤ i + 1 ∧ P (i + 1) kvs, ?_, ?_⟩
    · rintro H' ⟨s', kvs', h1, h2, h3⟩
      exact ⟨xs.length - (i + 1), by omega, rfl, hlt, s', kvs', h1, h2, h3⟩
    · intro x H' y
      obtain ⟨rfl, ex⟩ := hy i H x H' s1 y
      cases ex _ hx
      refine hs D i _ kvs H' nD hx s1 hD p _ _ (fun k z H5 s5 p5 => ⟨kvs, k, rfl, s5 _ _ hD, by omega, sameD nD (s1.trans s5), _, upd_same, ?_, p5⟩) (fun H3 s3 p3 => ⟨s1.trans s3, kvs, s3 _ _ hD, by omega, p3⟩)
      exact Nat.le_trans (putK_le kvs k z) (by omega)
  · have e : i = xs.length := by omega
    subst e
    exact .inl ⟨hst _ H s1 (Nat.le_refl _), hd D kvs H nD s1 hD hl p⟩
theorem dc_seq (S : SqA K H1 a xs) (sz : xs.length < sizeLine) (P : Nat → List (Key × V) → Prop) (h0 : P 0 []) (hs : DcT g tt tk tv vs σ xs H1 P)
    (hd : ∀ D kvs H, H1 D = none → Same H1 H → H D = some (.dK kvs) → kvs.length ≤ xs.length → P xs.length kvs → Q (.ref D) H) : SeqR K (DcR g tt tk tv vs σ Q) (.ref a) H1 := by
  rcases S with S | S
  · refine ⟨a, rfl, .inl ⟨⟨xs, S⟩, dc_any (fun i H s hi => ⟨xs, s.seq S, hi⟩) (fun i H x s hx => ⟨xs, x, s.seq S, hx⟩) (fun i H x H' s y => ⟨y.1, fun z hz => ?_⟩) sz P h0 hs hd⟩⟩
    exact Option.some.inj ((y.2 xs (s.seq S)).symm.trans hz)
  · refine ⟨a, rfl, .inr ⟨⟨xs, S⟩, dc_any (fun i H s hi => ⟨xs, samT s S, hi⟩) (fun i H x s hx => ⟨xs, x, samT s S, hx⟩) (fun i H x H' s y => ⟨y.1, fun z hz => ?_⟩) sz P h0 hs hd⟩⟩
    exact Option.some.inj ((y.2 xs (samT s S)).symm.trans hz)
end

/-! ### the dict {w: True for w in ws} -/
def setD (ws : List Str) : List (Key × V) := ws.foldl (fun k w => putK k (.inr w) (.bl true)) []
theorem setD_snoc (ws : List Str) (w : Str) : setD (ws ++ [w]) = putK (setD ws) (.inr w) (.bl true) := by
  unfold setD; rw [List.foldl_append]; rfl
/-- its keys -/
def keysD (ws : List Str) : List Str := ws.foldl (fun k w => if k.contains w then k else k ++ [w]) []
theorem keysD_snoc (ws : List Str) (w : Str) : keysD (ws ++ [w]) = if (keysD ws).contains w then keysD ws else keysD ws ++ [w] := by
  unfold keysD; rw [List.foldl_append]; rfl
theorem any_keys (w : Str) : ∀ l : List Str, ((l.map fun x => ((.inr x : Key), V.bl true)).any fun kv => decide (kv.1 = (.inr w : Key))) = l.contains w
  | [] => rfl
  | x :: l => by
    rw [List.map_cons, List.any_cons, any_keys w l, List.contains_cons]
    congr 1
    show decide ((Sum.inr x : Key) = Sum.inr w) = (w == x)
    rw [key_rr, beq_swap w x]
    exact (Bool.beq_eq_decide_eq x w).symm
theorem map_same (w : Str) : ∀ l : List Str, (l.map fun x => ((.inr x : Key), V.bl true)).map (fun kv => if kv.1 = (.inr w : Key) then (kv.1, V.bl true) else kv) = l.map fun x => ((.inr x : Key), V.bl true)
  | [] => rfl
  | x :: l => by
    rw [List.map_cons, List.map_cons, map_same w l]
    congr 1
    show (if (Sum.inr x : Key) = Sum.inr w then ((Sum.inr x : Key), V.bl true) else (Sum.inr x, V.bl true)) = _
    rw [ite_self]
theorem revInd {α : Type} {p : List α → Prop} (h0 : p []) (h1 : ∀ l a, p l → p (l ++ [a])) : ∀ l, p l := fun l => by
  have z : ∀ n (l : List α), l.length = n → p l := by
    intro n
    induction n with
    | zero => intro l e; rw [List.length_eq_zero_iff.mp e]; exact h0
    | succ n ih =>
      intro l e
      have hne : l ≠ [] := fun q => by rw [q] at e; cases e
      rw [← List.dropLast_concat_getLast hne]
      exact h1 _ _ (ih _ (by rw [List.length_dropLast, e]; rfl))
  exact z _ l rfl
theorem setD_eq (ws : List Str) : setD ws = (keysD ws).map fun x => ((.inr x : Key), V.bl true) := by
  induction ws using revInd with
  | h0 => rfl
  | h1 l w ih =>
    rw [setD_snoc, keysD_snoc, ih]
    unfold putK
    rw [any_keys]
    by_cases c : (keysD l).contains w = true
    · rw [if_pos c, if_pos c, map_same]
    · rw [if_neg c, if_neg c, List.map_append]; rfl
theorem setD_len (ws : List Str) : (setD ws).length = (keysD ws).length := by rw [setD_eq, List.length_map]
theorem setD_keys (ws : List Str) : (setD ws).map (fun kv => kV kv.1) = (keysD ws).map V.str := by rw [setD_eq, List.map_map]; rfl
theorem ih_of {l : List Str} {w : Str} (ih : w ∈ keysD l ↔ w ∈ l) (c : (keysD l).contains w = true) : w ∈ l := ih.mp (List.contains_iff_mem.mp c)
theorem keysD_mem (ws : List Str) (x : Str) : x ∈ keysD ws ↔ x ∈ ws := by
  induction ws using revInd generalizing x with
  | h0 => exact Iff.rfl
  | h1 l w ih =>
    rw [keysD_snoc]
    by_cases c : (keysD l).contains w = true
    · rw [if_pos c, List.mem_append, List.mem_singleton, ih x]
      have : w ∈ l := ih_of (ih w) c
      exact ⟨.inl, fun h => h.elim id fun e => e ▸ this⟩
    · rw [if_neg c, List.mem_append, List.mem_append, ih x]
theorem keysD_nd (ws : List Str) : (keysD ws).Nodup := by
  induction ws using revInd with
  | h0 => exact List.nodup_nil
  | h1 l w ih =>
    rw [keysD_snoc]
    by_cases c : (keysD l).contains w = true
    · rw [if_pos c]; exact ih
    · rw [if_neg c]
      refine List.nodup_append.mpr ⟨ih, by simp, fun a ha b hb e => ?_⟩
      rw [List.mem_singleton.mp hb] at e
      exact c (List.contains_iff_mem.mpr (e ▸ ha))
theorem keysD_le (ws : List Str) : (keysD ws).length ≤ ws.length := by
  induction ws using revInd with
  | h0 => exact Nat.le_refl _
  | h1 l w ih =>
    rw [keysD_snoc, List.length_append]
    split
    · exact Nat.le_trans ih (Nat.le_add_right _ _)
    · rw [List.length_append]; simp; exact ih
theorem keysD_id {ws : List Str} (h : ws.Nodup) : keysD ws = ws := by
  induction ws using revInd with
  | h0 => rfl
  | h1 l w ih =>
    obtain ⟨h1, _, h3⟩ := List.nodup_append.mp h
    rw [keysD_snoc, ih h1, if_neg]
    intro c
    exact h3 w (List.contains_iff_mem.mp c) w (List.mem_singleton.mpr rfl) rfl
theorem keysD_twin {ws : List Str} (h : (keysD ws).length = ws.length) : ws.Nodup := by
  induction ws using revInd with
  | h0 => exact List.nodup_nil
  | h1 l w ih =>
    rw [keysD_snoc, List.length_append, List.length_singleton] at h
    have le := keysD_le l
    by_cases c : (keysD l).contains w = true
    · rw [if_pos c] at h; omega
    · rw [if_neg c, List.length_append, List.length_singleton] at h
      refine List.nodup_append.mpr ⟨ih (by omega), by simp, fun a ha b hb e => ?_⟩
      rw [List.mem_singleton.mp hb] at e
      exact c (List.contains_iff_mem.mpr ((keysD_mem l w).mpr (e ▸ ha)))
end SB

set_option maxHeartbeats 2000000
/-! Words. -/
namespace SB
open PySem PySem.Spec PyProof.Rows L2
open C8 (Cal Mak Met pe_c pe_mk pe_mt pe_mt0 pe_gc InsC call_isC)
/-- a name -/
def nameB (z : Str) : Bool := decide (1 ≤ (z.length : Int)) && decide ((z.length : Int) ≤ 4) && !(w_BARRED.contains z) && z.cps.toList.all fun c => decide (c ∈ small.cps.toList)
section
variable {P : Program} {w : World} {K : PySem.W.Frag} {mg : Str → Option Value} {base : Heap}
def spName : Sp := fun vs H Q _ => ∃ z : Str, vs = [.str z] ∧ z.length ≤ 1000 ∧ ∀ H', Same H H' → Q (.bl (nameB z)) H'
theorem c_is_name (T : Tx K mg) : Cal P w K mg base 1 "is_name" spName [] := by
  refine T.g_is_name.cal sc_is_name (fun vs H Q E h => ?_) (fun f cdv A outer s H vs Q E hr h => ?_) (fun _ _ _ _ _ _ us hl => match us, hl with | [_], _ => rfl)
  · obtain ⟨z, rfl, _⟩ := h
    rfl
  · obtain ⟨z, rfl, hz, k⟩ := h
    obtain ⟨bb, mB, sB⟩ := T.k_BARRED
    obtain ⟨ts, mS⟩ := T.k_SMALL
    refine ⟨_, pss_cons (ps_if (PW.pt (pw_or (pt_not (pt_val (pe_callB call_isiS (by rfl) T.m_isinstance (by decide +kernel) (pa_cons (pv 0) (pa_cons (pe_bltn (v := .ty "str") (by rfl) T.m_str (by decide +kernel) rfl) pa_nil)))))
        (pw_or (pt_not (pt_chain op_le op_le pe_int (pe_callB call_len_str (by rfl) T.m_len PySem.boot_len (pa_cons (pv 0) pa_nil)) pe_int))
        (pw_or1 (pt_cmpR op_inW (pv 0) (pe_gc (v := .ref bb) (by rfl) ⟨_, mB, rfl⟩) (by rfl))))))
        (pss_one (ps_ret pe_bl)) pss_nil)
      (pss_one (ps_ret (pe_callB (cr_all rfl) (by rfl) T.m_all (by decide +kernel) (pa_cons
        (pe_lx (own := [("sign", 1)]) (g := gName 1) (tt := tYes) (by rfl) sc_is_name.nd (pi_str (pv 0)) (blkOk_by (N := n_is_name) (sc := defScope s_is_name) (by decide +kernel))
          (fun _ _ _ _ _ => pg_name (i := 1) sc_is_name.nd rfl (Or.inl rfl)) (fun _ _ _ _ _ => pts_nil)
          (fun _ _ _ _ _ => pe_cmpR op_in_sign (pv 1) (pe_gc (v := .str small) (by rfl) ⟨_, mS, ⟨_, rfl⟩⟩) (by rfl))) pa_nil)))), ?_⟩
    have fin : ∀ b H', Same H H' → nameB z = b → Q (.bl b) H' := fun b H' s e => e ▸ k H' s
    have nb : nameB z = (decide (1 ≤ (z.length : Int)) && decide ((z.length : Int) ≤ 4) && !(w_BARRED.contains z) && z.cps.toList.all fun c => decide (c ∈ small.cps.toList)) := rfl
    refine ⟨_, rfl, z, rfl, true, rfl, iteF ?_⟩
    refine ⟨_, rfl, z, rfl, Nat.le_trans hz (by decide), _, _, rfl, rfl, _, rfl, ?_⟩
    refine ite2 (fun h1 => ?_) (fun h1 => ?_)
    · refine ⟨_, _, rfl, rfl, _, rfl, ?_⟩
      refine ite2 (fun h2 => ?_) (fun h2 => ?_)
      · refine fin _ _ (Same.refl _) ?_
        rw [nb, show decide ((z.length : Int) ≤ 4) = false by simpa using h2]; simp
      · have h2' : decide ((z.length : Int) ≤ 4) = true := by
          cases e : decide ((z.length : Int) ≤ 4)
          · exact absurd (by show (!decide ((z.length : Int) ≤ 4)) = true; rw [e]; rfl) h2
          · rfl
        refine ⟨_, rfl, z, bb, _, rfl, rfl, .inr (sB _), _, rfl, ?_⟩
        refine ite2 (fun h3 => ?_) (fun h3 => ?_)
        · refine fin _ _ (Same.refl _) ?_
          have h3' : w_BARRED.contains z = true := h3
          rw [nb, h3']; simp
        · have h3' : w_BARRED.contains z = false := Bool.eq_false_iff.mpr h3
          refine ⟨_, rfl, z, rfl, lc_str (fun v => match v with | .str y => some (.bl (match y.cps.toList with | [c] => decide (c ∈ small.cps.toList) | _ => false)) | _ => none) (Nat.lt_of_le_of_lt hz (by decide)) ?_ ?_⟩
          · intro D i x acc H' nD hx s1 hD N M kN kM
            unfold sgs at hx
            rw [List.getElem?_map] at hx
            obtain ⟨c, hc, rfl⟩ := Option.map_eq_some_iff.mp hx
            refine ⟨rfl, ?_⟩
            refine ⟨_, rfl, c, small, rfl, rfl, ?_⟩
            exact kN _ _ (Same.refl _) rfl
          · intro D H' nD s1 hD
            refine ⟨D, z.cps.toList.map fun c => decide (c ∈ small.cps.toList), rfl, SqL.of ?_, ?_⟩
            · rw [hD]
              unfold sgs
              rw [List.filterMap_map, List.map_map]
              congr 1
              rw [← List.filterMap_eq_map]
              rfl
            · refine fin _ _ s1 ?_
              rw [nb, h1, h2', h3', List.all_map]; rfl
    · refine ⟨_, rfl, fin _ _ (Same.refl _) ?_⟩
      have h1' : decide (1 ≤ (z.length : Int)) = false := Bool.eq_false_iff.mpr h1
      rw [nb, h1']; rfl
def spSeq (K : PySem.W.Frag) : Sp := fun vs H Q _ => ∃ (a : Addr) (xs : List V), vs = [.ref a] ∧ SqA K H a xs ∧ ∀ H', Same H H' → Q (.bl true) H'
theorem c_is_sequence (T : Tx K mg) : Cal P w K mg base 1 "is_sequence" (spSeq K) [] := by
  refine T.g_is_sequence.cal sc_is_sequence (fun vs H Q E h => ?_) (fun f cdv A outer s H vs Q E hr h => ?_) (fun _ _ _ _ _ _ us hl => match us, hl with | [_], _ => rfl)
  · obtain ⟨a, xs, rfl, S, k⟩ := h
    rfl
  · obtain ⟨a, xs, rfl, S, k⟩ := h
    refine ⟨_, (pss_one (ps_ret (pe_callB call_isiLT (by rfl) T.m_isinstance (by decide +kernel) (pa_cons (pv 0) (pa_cons (pe_tup (pa_cons (pe_bltn (v := .ty "list") (by rfl) T.m_list (by decide +kernel) rfl) (pa_cons (pe_bltn (v := .ty "tuple") (by rfl) T.m_tuple (by decide +kernel) rfl) pa_nil))) pa_nil))))), ?_⟩
    refine ⟨_, rfl, by show 2 ≤ sizeLine; decide, fun t nt => ?_⟩
    exact ⟨a, t, xs, rfl, upd_same, samA (Sn nt) S, k _ (Sn nt)⟩
/-- texts, their lengths -/
def Sh (ws : List Str) : Prop := ws.length ≤ 1000 ∧ ∀ z ∈ ws, z.length ≤ 1000
def spNames (K : PySem.W.Frag) : Sp := fun vs H Q _ => ∃ (a : Addr) (ws : List Str), vs = [.ref a] ∧ SqA K H a (ws.map V.str) ∧ Sh ws ∧ ∀ H', Same H H' → Q (.bl (ws.all nameB)) H'
theorem get_str {ws : List Str} {i : Nat} {x : V} (h : (ws.map V.str)[i]? = some x) : ∃ z, ws[i]? = some z ∧ x = .str z := by
  rw [List.getElem?_map] at h
  obtain ⟨z, hz, rfl⟩ := Option.map_eq_some_iff.mp h
  exact ⟨z, hz, rfl⟩
theorem memi {α : Type} {l : List α} {i : Nat} {x : α} (h : l[i]? = some x) : x ∈ l := List.mem_of_getElem? h
theorem small_lt {n : Nat} (h : n ≤ 1000) : n < sizeLine := Nat.lt_of_le_of_lt h (by decide)
def onS (f : Str → Option V) : V → Option V
  | .str z => f z
  | _ => none
theorem fm_on (f : Str → Option V) (ws : List Str) : (ws.map V.str).filterMap (onS f) = ws.filterMap f := by
  rw [List.filterMap_map]; rfl
theorem fm_onS (f : Str → V) (ws : List Str) : (ws.map V.str).filterMap (onS fun z => some (f z)) = ws.map f := by
  rw [fm_on, ← List.filterMap_eq_map]; rfl
theorem fm_strs (f : Str → V) (ws : List Str) : (ws.map V.str).filterMap (fun v => match v with | .str z => some (f z) | _ => none) = ws.map f := by
  rw [List.filterMap_map, ← List.filterMap_eq_map]; rfl
theorem c_are_names (T : Tx K mg) : Cal P w K mg base 2 "are_names" (spNames K) [] := by
  refine T.g_are_names.cal sc_are_names (fun vs H Q E h => ?_) (fun f cdv A outer s H vs Q E hr h => ?_) (fun _ _ _ _ _ _ us hl => match us, hl with | [_], _ => rfl)
  · obtain ⟨a, ws, rfl, S, sh, k⟩ := h
    rfl
  · obtain ⟨a, ws, rfl, S, sh, k⟩ := h
    refine ⟨_, (pss_one (ps_ret (pe_and (pe_c (c_is_sequence T) hr (by decide) (by rfl) (pa_cons (pv 0) pa_nil)) (pe_one (pe_callB (cr_all rfl) (by rfl) T.m_all (by decide +kernel) (pa_cons (pe_lx (own := [("one", 1)]) (g := gName 1) (tt := tYes) (by rfl) sc_are_names.nd (pi_seq (pv 0)) (blkOk_by (N := n_are_names) (sc := defScope s_are_names) (by decide +kernel)) (fun _ _ _ _ _ => pg_name (i := 1) sc_are_names.nd rfl (Or.inl rfl)) (fun _ _ _ _ _ => pts_nil) (fun _ _ _ _ _ => (pe_c (c_is_name T) hr (by decide) (by rfl) (pa_cons (pv 1) pa_nil)))) pa_nil)))))), ?_⟩
    refine ⟨_, rfl, a, _, rfl, S, fun H1 s1 => ⟨true, rfl, iteT ?_⟩⟩
    refine ⟨_, rfl, lc_fun (fun v => match v with | .str z => some (.bl (nameB z)) | _ => none) (samA s1 S) (by rw [List.length_map]; exact small_lt sh.1) ?_ ?_⟩
    · intro D i x acc H2 nD hx s2 hD N M kN kM
      obtain ⟨z, hz, rfl⟩ := get_str hx
      exact ⟨rfl, _, rfl, z, rfl, sh.2 z (memi hz), fun H3 s3 => kN _ _ s3 rfl⟩
    · intro D H2 nD s2 hD
      rw [fm_strs] at hD
      refine ⟨D, ws.map nameB, rfl, SqL.of ?_, ?_⟩
      · rw [List.map_map]; exact hD
      · rw [List.all_map]
        exact k _ (s1.trans s2)
def spUnlike (K : PySem.W.Frag) : Sp := fun vs H Q _ => ∃ (a : Addr) (ws : List Str), vs = [.ref a] ∧ SqA K H a (ws.map V.str) ∧ Sh ws ∧ ws.all nameB = true ∧ ws.Nodup ∧ ∀ H', Same H H' → Q (.bl true) H'
/-- the comprehension {w: True for w in ws} -/
theorem dc_set {K : PySem.W.Frag} {a : Addr} {ws : List Str} {tk : TE} {i : Nat} {σ : Sg} {H1 : Hp} {Q : VK} (S : SqA K H1 a (ws.map V.str)) (sz : ws.length ≤ 100000)
    (hw : wipe ((wipe σ [i]).set i (some (.str Str.empty))) [i] = wipe σ [i] → True)
    (hv : ∀ x : V, wipe ((wipe σ [i]).set i (some x)) [i] = wipe σ [i]) (hg : ∀ (x : V) H (N : VK), N x H → tk ((wipe σ [i]).set i (some x)) H N)
    (hd : ∀ D H, H1 D = none → Same H1 H → H D = some (.dK (setD ws)) → Q (.ref D) H) : SeqR K (DcR (gName i) tYes tk (tC (.bl true)) [i] σ Q) (.ref a) H1 := by
  refine dc_seq S (by rw [List.length_map]; exact Nat.lt_of_le_of_lt sz (by decide)) (fun n kvs => kvs = setD (ws.take n)) rfl ?_ ?_
  · intro D n x kvs H nD hx s1 hD p N M kN kM
    obtain ⟨z, hz, rfl⟩ := get_str hx
    have p' : kvs = setD (ws.take n) := p
    refine ⟨hv _, ?_⟩
    refine hg _ _ _ (kN (.inr z) _ H (Same.refl _) ?_)
    show putK kvs _ _ = setD (ws.take (n + 1))
    rw [take_more hz, setD_snoc, p']
  · intro D kvs H nD s1 hD hl p
    have p' : kvs = setD (ws.take (ws.map V.str).length) := p
    rw [List.length_map, List.take_length] at p'
    rw [p'] at hD
    exact hd D H nD s1 hD
theorem c_are_unlike_names (T : Tx K mg) : Cal P w K mg base 3 "are_unlike_names" (spUnlike K) [] := by
  refine T.g_are_unlike_names.cal sc_are_unlike_names (fun vs H Q E h => ?_) (fun f cdv A outer s H vs Q E hr h => ?_) (fun _ _ _ _ _ _ us hl => match us, hl with | [_], _ => rfl)
  · obtain ⟨a, ws, rfl, S, sh, al, nd, k⟩ := h
    rfl
  · obtain ⟨a, ws, rfl, S, sh, al, nd, k⟩ := h
    refine ⟨_, (pss_cons (ps_if (pt_not (pt_val (pe_c (c_are_names T) hr (by decide) (by rfl) (pa_cons (pv 0) pa_nil)))) (pss_one (ps_ret pe_bl)) pss_nil) (pss_one (ps_ret (pe_cmpR op_eq (pe_callB call_lenD (by rfl) T.m_len (by decide +kernel) (pa_cons (pe_dx (own := [("one", 1)]) (g := gName 1) (tt := tYes) (by rfl) sc_are_unlike_names.nd (pi_seq (pv 0)) (blkOk_by (N := n_are_unlike_names) (sc := defScope s_are_unlike_names) (by decide +kernel)) (fun _ _ _ _ _ => pg_name (i := 1) sc_are_unlike_names.nd rfl (Or.inl rfl)) (fun _ _ _ _ _ => pts_nil) (fun _ _ _ _ _ => (pv 1)) (fun _ _ _ _ _ => pe_bl)) pa_nil)) (pe_callB call_len_seq (by rfl) T.m_len (by decide +kernel) (pa_cons (pv 0) pa_nil)) (nomark _))))), ?_⟩
    refine ⟨_, rfl, a, ws, rfl, S, sh, fun H1 s1 => ⟨_, rfl, ?_⟩⟩
    rw [al]
    refine iteF ?_
    refine ⟨_, rfl, dc_set (samA s1 S) (Nat.le_trans sh.1 (by decide)) (fun _ => trivial) (fun _ => rfl) (fun x H N n => ⟨x, rfl, n⟩) fun D H2 nD s2 hD => ?_⟩
    refine ⟨D, _, rfl, hD, _, rfl, a, _, rfl, samA (s1.trans s2) S, rfl, ?_⟩
    have e : decide (V.int ((setD ws).length : Int) = V.int ((ws.map V.str).length : Int)) = true := decide_eq_true (by rw [setD_len, keysD_id nd, List.length_map])
    show Q (.bl (decide (V.int ((setD ws).length : Int) = V.int ((ws.map V.str).length : Int)))) H2
    rw [e]
    exact k _ (s1.trans s2)
/-- what ascending makes of texts -/
def Asc (ws ys : List Str) : Prop := ys.Perm (keysD ws) ∧ sortedS ys = true
def spAsc (K : PySem.W.Frag) : Sp := fun vs H Q _ => ∃ (a : Addr) (ws : List Str), vs = [.ref a] ∧ SqA K H a (ws.map V.str) ∧ ws.length ≤ 100000 ∧ (keysD ws).length < 64 ∧
  ∀ (t : Addr) (ys : List Str) (H' : Hp), Same H H' → H t = none → H' t = some (.tup (ys.map V.str)) → Asc ws ys → Q (.ref t) H'
/-- over a locked dict's keys -/
theorem lc_keys {g : TG} {tt : TT} {te : TE} {vs : List Nat} {σ : Sg} {H1 : Hp} {Q : VK} {d : Addr} {o : Obj} {kvs : List (Key × V)} (hd : H1 d = some (.frz o (.dK kvs))) (f : V → Option V) (sz : kvs.length < sizeLine) (hs : LcF g tt te vs σ (kvs.map fun kv => kV kv.1) H1 f)
    (hq : ∀ D H, H1 D = none → Same H1 H → H D = some (.lst ((kvs.map fun kv => kV kv.1).filterMap f)) → Q (.ref D) H) : LcR g tt te vs σ Q (Itk d o kvs) H1 := by
  refine lc_anyF (xs := kvs.map fun kv => kV kv.1) (fun i H s hi => ⟨s _ _ hd, by rw [List.length_map] at hi; exact hi⟩) (fun i H x s hx => ⟨s _ _ hd, ?_⟩) (fun i H x H' s y => ⟨y.1, fun u hu => ?_⟩) f (by rw [List.length_map]; exact sz) hs hq
  · have := (List.getElem?_eq_some_iff.mp hx).1
    rw [List.length_map] at this
    exact this
  · obtain ⟨_, k, v, hk, rfl⟩ := y
    rw [List.getElem?_map, hk] at hu
    exact Option.some.inj hu
theorem c_ascending (T : Tx K mg) : Cal P w K mg base 1 "ascending" (spAsc K) [] := by
  refine T.g_ascending.cal sc_ascending (fun vs H Q E h => ?_) (fun f cdv A outer s H vs Q E hr h => ?_) (fun _ _ _ _ _ _ us hl => match us, hl with | [_], _ => rfl)
  · obtain ⟨a, ws, rfl, S, sz, lt, k⟩ := h
    rfl
  · obtain ⟨a, ws, rfl, S, sz, lt, k⟩ := h
    refine ⟨_, (pss_one (ps_ret (pe_callTy call_tuple_of (by rfl) T.m_tuple (by decide +kernel) (pa_cons (pe_callB cr_sortedS (by rfl) T.m_sorted (by decide +kernel) (pa_cons (pe_lx (own := [("word", 1)]) (g := gName 1) (tt := tYes) (by rfl) sc_ascending.nd (pi_keys (pe_lk (pe_dx (own := [("one", 2)]) (g := gName 2) (tt := tYes) (by rfl) sc_ascending.nd (pi_seq (pv 0)) (blkOk_by (N := n_ascending) (sc := defScope s_ascending) (by decide +kernel)) (fun _ _ _ _ _ => pg_name (i := 2) sc_ascending.nd rfl (Or.inl rfl)) (fun _ _ _ _ _ => pts_nil) (fun _ _ _ _ _ => (pv 2)) (fun _ _ _ _ _ => pe_bl)))) (blkOk_by (N := n_ascending) (sc := defScope s_ascending) (by decide +kernel)) (fun _ _ _ _ _ => pg_name (i := 1) sc_ascending.nd rfl (Or.inl rfl)) (fun _ _ _ _ _ => pts_nil) (fun _ _ _ _ _ => (pe_callTy SkE.call_str_str (by rfl) T.m_str (by decide +kernel) (pa_cons (pv 1) pa_nil)))) pa_nil)) pa_nil)))), ?_⟩
    refine ⟨_, rfl, dc_set S sz (fun _ => trivial) (fun _ => rfl) (fun x H N n => ⟨x, rfl, n⟩) fun D H1 nD s1 hD => ?_⟩
    refine ⟨D, _, rfl, hD, trivial, fun od => ?_⟩
    refine ⟨D, od, rfl, .inl ⟨setD ws, upd_same, lc_keys upd_same (fun v => some v) ?_ ?_ ?_⟩⟩
    · rw [setD_len]; exact Nat.lt_of_le_of_lt (keysD_le ws) (Nat.lt_of_le_of_lt sz (by decide))
    · intro D2 i x acc H2 nD2 hx s2 hD2 N M kN kM
      rw [setD_keys] at hx
      obtain ⟨z, hz, rfl⟩ := get_str hx
      exact ⟨rfl, _, rfl, z, rfl, kN _ _ (Same.refl _) rfl⟩
    · intro D2 H2 nD2 s2 hD2
      rw [setD_keys, List.filterMap_some] at hD2
      have s12 : Same H H2 := (sameD nD s1).trans s2
      refine ⟨D2, keysD ws, rfl, SqL.of hD2, lt, fun ys p pm st np => ?_⟩
      refine ⟨p, ys.map V.str, rfl, .inl ⟨SqL.of upd_same, fun l nl => ?_⟩⟩
      have s3 : Same H (upd (upd H2 p (.lst (ys.map V.str))) l (.tup (ys.map V.str))) := (s12.trans (Sn np)).trans (Sn nl)
      refine k l ys _ s3 ((s12.trans (Sn np)).free nl) upd_same ⟨pm, st⟩
def spWord (K : PySem.W.Frag) : Sp := fun vs H Q _ => ∃ (z : Str) (p : Addr) (ws : List Str), vs = [.str z, .ref p] ∧ SqA K H p (ws.map V.str) ∧ ∀ H', Same H H' → Q (.bl (ws.contains z)) H'
theorem c_is_word (T : Tx K mg) : Cal P w K mg base 1 "is_word" (spWord K) [] := by
  refine T.g_is_word.cal sc_is_word (fun vs H Q E h => ?_) (fun f cdv A outer s H vs Q E hr h => ?_) (fun _ _ _ _ _ _ us hl => match us, hl with | [_, _], _ => rfl)
  · obtain ⟨z, p, ws, rfl, S, k⟩ := h
    rfl
  · obtain ⟨z, p, ws, rfl, S, k⟩ := h
    refine ⟨_, (pss_one (ps_ret (pe_and (pe_callB call_isiS (by rfl) T.m_isinstance (by decide +kernel) (pa_cons (pv 0) (pa_cons (pe_bltn (v := .ty "str") (by rfl) T.m_str (by decide +kernel) rfl) pa_nil))) (pe_one (pe_cmpR op_inW (pv 0) (pv 1) (by rfl)))))), ?_⟩
    exact ⟨_, rfl, z, rfl, true, rfl, iteT ⟨_, rfl, _, rfl, z, p, ws, rfl, rfl, S, k _ (Same.refl _)⟩⟩
/-- a phase, or none -/
def phaseB (z : Str) : Bool := nameB z || (["none"] : List Str).contains z
def spPhase : Sp := fun vs H Q _ => ∃ z : Str, vs = [.str z] ∧ z.length ≤ 1000 ∧ ∀ H', Same H H' → Q (.bl (phaseB z)) H'
theorem c_is_phase (T : Tx K mg) : Cal P w K mg base 2 "is_phase" spPhase [] := by
  refine T.g_is_phase.cal sc_is_phase (fun vs H Q E h => ?_) (fun f cdv A outer s H vs Q E hr h => ?_) (fun _ _ _ _ _ _ us hl => match us, hl with | [_], _ => rfl)
  · obtain ⟨z, rfl, hz, k⟩ := h
    rfl
  · obtain ⟨z, rfl, hz, k⟩ := h
    refine ⟨_, (pss_one (ps_ret (pe_or (pe_c (c_is_name T) hr (by decide) (by rfl) (pa_cons (pv 0) pa_nil)) (pe_one (pe_c (c_is_word T) hr (by decide) (by rfl) (pa_cons (pv 0) (pa_cons (pe_tup (pa_cons pe_str pa_nil)) pa_nil))))))), ?_⟩
    refine ⟨_, rfl, z, rfl, hz, fun H1 s1 => ⟨_, rfl, ?_⟩⟩
    have fin : ∀ b H', Same H H' → phaseB z = b → Q (.bl b) H' := fun b H' s e => e ▸ k H' s
    refine ite2 (fun h => fin _ _ s1 (by unfold phaseB; rw [h]; rfl)) (fun h => ?_)
    refine ⟨_, rfl, (by show 1 ≤ sizeLine; decide), fun t nt => ?_⟩
    refine ⟨z, t, ["none"], rfl, tupA upd_same, fun H2 s2 => fin _ _ ((s1.trans (Sn nt)).trans s2) ?_⟩
    unfold phaseB
    rw [Bool.eq_false_iff.mpr h]; rfl
end
end SB

set_option maxHeartbeats 2000000
/-! The statement match over a list: patterns of names, the last one perhaps with a star. -/
namespace SB
open PySem PySem.Spec PyProof.Rows L2
open C8 (Cal Mak Met pe_c pe_mk pe_mt pe_mt0 pe_gc InsC call_isC)
section
variable {X : Cx}
/-- patterns that are names: the names, their slots -/
inductive Caps (X : Cx) : List Pattern → List Str → List Nat → Prop where
  | nil : Caps X [] [] []
  | cons {x : Str} {p : Pos} {i : Nat} {ps : List Pattern} {ns : List Str} {is : List Nat} (hi : X.N[i]? = some x) (hx : X.env.scope.names.lookup x = some .local) (r : Caps X ps ns is) : Caps X (.MatchAs none (some x) p :: ps) (x :: ns) (i :: is)
  | star {x : Str} {p : Pos} {i : Nat} (hi : X.N[i]? = some x) (hx : X.env.scope.names.lookup x = some .local) : Caps X [.MatchStar (some x) p] [x] [i]
def setAll : Sg → List Nat → List V → Sg
  | σ, i :: is, v :: vs => setAll (σ.set i (some v)) is vs
  | σ, _, _ => σ
theorem Caps.len {ps : List Pattern} {ns : List Str} {is : List Nat} (c : Caps X ps ns is) : ns.length = ps.length := by
  induction c with
  | nil => rfl
  | cons _ _ _ ih => rw [List.length_cons, List.length_cons, ih]
  | star _ _ => rfl
theorem Caps.each {M : Model} {A : Around} {E : Value → Shared → Prop} {env : Env} {ps : List Pattern} {ns : List Str} {is : List Nat} (c : Caps X ps ns is) : ∀ {us : List Value} {s : Shared} {Q : Option (List (Str × Value)) → Shared → Prop},
    us.length = ps.length → Q (some (ns.zip us)) s → wpAny M A (matchEach ps env us) Q E s := by
  induction c with
  | nil =>
    intro us s Q hl h
    cases us with
    | nil => exact wpAny_matchEach_nil h
    | cons _ _ => cases hl
  | cons hi hx r ih =>
    intro us s Q hl h
    cases us with
    | nil => cases hl
    | cons u us =>
      refine wpAny_matchEach_cons (wpAny_matchPattern_Capture ?_)
      exact ih (Nat.succ.inj hl) h
  | star hi hx =>
    intro us s Q hl h
    cases us with
    | nil => cases hl
    | cons u us =>
      cases us with
      | cons _ _ => cases hl
      | nil => exact PySem.W.kun_each (wpAny_matchEach_nil h)
theorem Caps.store {M : Model} {A : Around} {E : Value → Shared → Prop} {pins : List (Addr × Obj)} {H : Hp} (hN : X.N.Nodup) {ps : List Pattern} {ns : List Str} {is : List Nat} (c : Caps X ps ns is) :
    ∀ {us : List Value} {vs : List V} {σ : Sg} {s : Shared} {Q : Unit → Shared → Prop}, Vals vs us → us.length = ps.length → Inv X pins σ H s → (∀ s', Inv X pins (setAll σ is vs) H s' → Q () s') →
      wpAny M A (assignInOrder ((ns.zip us).map fun (n, _) => bindName X.env n) ((ns.zip us).map (·.2))) Q E s := by
  induction c with
  | nil =>
    intro us vs σ s Q r hl I h
    cases us with
    | nil =>
      cases r
      exact wpAny_assignInOrder_none (h s I)
    | cons _ _ => cases hl
  | cons hi hx r ih =>
    intro us vs σ s Q rv hl I h
    cases rv with
    | nil => cases hl
    | cons r1 r2 =>
      refine wpAny_assignInOrder_more (wpAny_bindName (store_ok I hN hi (.inl hx) r1 (fun s' I' => ?_) (.inr hx)))
      exact ih r2 (Nat.succ.inj hl) I' h
  | star hi hx =>
    intro us vs σ s Q rv hl I h
    cases rv with
    | nil => cases hl
    | cons r1 r2 =>
      cases r2 with
      | cons _ _ => cases hl
      | nil => exact wpAny_assignInOrder_more (wpAny_bindName (store_ok I hN hi (.inl hx) r1 (fun s' I' => wpAny_assignInOrder_none (h s' I')) (.inr hx)))

/-- the cases over the list at a of the items xs -/
structure PMs (X : Cx) (cs : List MatchCase) (t : Addr → List V → TS) : Prop where
  run : ∀ (first : Bool) (pins : List (Addr × Obj)) (s : Shared) (σ : Sg) (H : Hp) (D : Ends) (a : Addr) (xs : List V), Inv X pins σ H s → SqL X.K H a xs → xs.length ≤ 10000 → t a xs D σ H →
    wpAny (model X.prog X.w) X.A (matchCases cs X.env (.ref a) first) (SP X pins D) X.xe s
theorem pms_nil : PMs X [] (fun _ _ D σ H => D.nx σ H) := ⟨fun _ _ _ σ H _ _ _ I _ _ h => wpAny_matchCases_nil ⟨σ, H, I, h⟩⟩
theorem ps_match {e : Expr} {cs : List MatchCase} {pos : Pos} {te : TE} {t : Addr → List V → TS} (he : PE X e te) (hm : PMs X cs t) :
    PS X (.Match e cs pos) (fun D σ H => te σ H fun x H1 => ∃ a xs, x = .ref a ∧ SqL X.K H1 a xs ∧ xs.length ≤ 10000 ∧ t a xs D σ H1) := by
  refine ⟨fun pins s σ H D I h => wpAny_Match (thn (he.run pins s σ H _ I h) ?_)⟩
  rintro v s1 ⟨x, H1, J, rx, a, xs, rfl, hq, hl, q⟩
  cases rx
  exact hm.run true pins s1 σ H1 D a xs J hq hl q
def tCaps (n : Nat) (is : List Nat) (tb : TS) (tr : Addr → List V → TS) : Addr → List V → TS := fun a xs D σ H => if xs.length = n then tb D (setAll σ is xs) H else tr a xs D σ H
theorem isList_of {h : Heap} {a : Addr} {its : Array Value} (p : PlainL h a its) : h.IsList a its := p.isList
theorem pms_caps {ps : List Pattern} {ns : List Str} {is : List Nat} {pos : Pos} {body : List Stmt} {rest : List MatchCase} {tb : TS} {tr : Addr → List V → TS} (hc : X.calm = true) (hN : X.N.Nodup) (c : Caps X ps ns is) (hb : PSs X body tb) (hr : PMs X rest tr)
    (hstar : ps.findIdx? (·.isStar) = none := by rfl) (hwild : (ps.all fun p => p.isWildcard || (p.isStar && p.names.isEmpty)) = false := by rfl) :
    PMs X (⟨.MatchSequence ps pos, none, body⟩ :: rest) (tCaps ps.length is tb tr) := by
  refine ⟨fun first pins s σ H D a xs I hq hl h => wpAny_matchCases_cons ?_⟩
  obtain ⟨its, rv, pl, hz⟩ := I.list hq
  have hli : s.heap.IsList a its.toArray := pl.isList
  have hsz : its.length = xs.length := rv.length.symm
  refine wpAny_matchPattern_Sequence (wpAny_collectionFlag hli.typeIs flag_seq_list ?_) hstar hwild
  rw [if_pos rfl]
  refine pyLen_list hli (by simp only [List.size_toArray]; omega) ?_
  have I1 : Inv X pins σ H { s with toks := s.toks + 1 + 1 } := I.tok _
  by_cases e : xs.length = ps.length
  · have h' : tb D (setAll σ is xs) H := by
      have z : (if xs.length = ps.length then tb D (setAll σ is xs) H else tr a xs D σ H) := h
      rw [if_pos e] at z; exact z
    have hn : (((its.toArray.size : Nat) : Int) != (ps.length : Int)) = false := by
      simp only [List.size_toArray, hsz, e, bne_self_eq_false]
    rw [hn, if_neg Bool.false_ne_true]
    have hn2 : ps.length = its.toArray.size := by simp only [List.size_toArray, hsz, e]
    rw [hn2]
    refine PySem.W.kun_itemsOf (I.ok.hd hc) hli fun h2 hx => ?_
    have I2 : Inv X pins σ H { s with heap := h2, toks := s.toks + 1 + 1 } := I1.kept (t' := s.toks + 1 + 1) fun b o q => hx b o (Nat.ne_of_lt (Heap.lt_size q)) q
    refine c.each (by simp only []; rw [hsz, e]) ?_
    refine c.store hN rv (by rw [hsz, e]) I2 fun s' I' => ?_
    exact hb.run pins s' _ H D I' h'
  · have h' : tr a xs D σ H := by
      have z : (if xs.length = ps.length then tb D (setAll σ is xs) H else tr a xs D σ H) := h
      rw [if_neg e] at z; exact z
    have hn : (((its.toArray.size : Nat) : Int) != (ps.length : Int)) = true := by
      simp only [List.size_toArray, hsz, bne_iff_ne, ne_eq]
      intro z; exact e (Int.ofNat.inj z)
    rw [hn, if_pos rfl]
    exact hr.run false pins _ σ H D a xs I1 hq hl h'
theorem obj_there {P : Program} {w : World} {H : Hp} {h : Heap} {a : Addr} {o : HO} (x : ObjOk P w H h a o) : ∃ ob, h.get? a = some ob := by
  cases o with
  | lst xs => obtain ⟨_, _, _, _, e⟩ := x; exact ⟨_, e⟩
  | tup xs => obtain ⟨_, _, _, o, e, _⟩ := x; exact ⟨_, e⟩
  | dK kvs => obtain ⟨_, _, _, _, o, _, _, e, _⟩ := x; exact ⟨_, e⟩
  | dT kvs => obtain ⟨_, _, _, _, o, _, _, e, _⟩ := x; exact ⟨_, e⟩
  | set S n => obtain ⟨o, _, _, _, e, _⟩ := x; exact ⟨_, e⟩
  | ins C dx fs => obtain ⟨_, _, _, e, _⟩ := x; exact ⟨_, e⟩
  | own y => exact x
  | xd fs => obtain ⟨_, ⟨_, _, _, e, _⟩, _⟩ := x; exact ⟨_, e⟩
  | rng lo hi => obtain ⟨_, _, _, e⟩ := x; exact ⟨_, e⟩
  | frz ob u => obtain ⟨e, _⟩ := x; exact ⟨_, e⟩
  | tbl ps => exact ⟨_, (show h.get? a = some _ from x)⟩
  | met f y => exact ⟨_, (show h.get? a = some _ from x)⟩
  | ext φ => obtain ⟨_, e, _⟩ := x; exact e
/-- names and a last one with a star, a list of at least so many items: the rest is a new list -/
def tStar (n : Nat) (is : List Nat) (tb : TS) (tr : Addr → List V → TS) : Addr → List V → TS := fun a xs D σ H =>
  if n ≤ xs.length then ∀ d, H d = none → tb D (setAll σ is (xs.take n ++ [.ref d])) (upd H d (.lst (xs.drop n))) else tr a xs D σ H
theorem pms_star {ps : List Pattern} {ns : List Str} {is : List Nat} {n : Nat} {pos : Pos} {body : List Stmt} {rest : List MatchCase} {tb : TS} {tr : Addr → List V → TS} (hc : X.calm = true) (hN : X.N.Nodup) (c : Caps X ps ns is) (hb : PSs X body tb) (hr : PMs X rest tr)
    (hlen : ps.length = n + 1) (h1 : 0 < n) (hstar : ps.findIdx? (·.isStar) = some n := by rfl) (hwild : (ps.all fun p => p.isWildcard || (p.isStar && p.names.isEmpty)) = false := by rfl) (hname : (ps[n]?.elim [] (·.names)).isEmpty = false := by rfl) :
    PMs X (⟨.MatchSequence ps pos, none, body⟩ :: rest) (tStar n is tb tr) := by
  refine ⟨fun first pins s σ H D a xs I hq hl h => wpAny_matchCases_cons ?_⟩
  obtain ⟨its, rv, pl, hz⟩ := I.list hq
  have hli : s.heap.IsList a its.toArray := pl.isList
  have hsz : its.length = xs.length := rv.length.symm
  have hfit : ((its.toArray.size : Nat) : Int) < 2 ^ 63 := by simp only [List.size_toArray]; omega
  by_cases e : n ≤ xs.length
  · have h' : ∀ d, H d = none → tb D (setAll σ is (xs.take n ++ [.ref d])) (upd H d (.lst (xs.drop n))) := by
      have z : (if n ≤ xs.length then ∀ d, H d = none → tb D (setAll σ is (xs.take n ++ [.ref d])) (upd H d (.lst (xs.drop n))) else tr a xs D σ H) := h
      rw [if_pos e] at z; exact z
    have I1 : Inv X pins σ H { s with toks := s.toks + 1 + 1 } := I.tok _
    obtain ⟨m, F⟩ := I1.fr
    refine PySem.W.kun_seqL hli hfit hstar hwild hname (by omega) (by simp only [List.size_toArray]; omega) ?_
    refine PySem.W.kun_starL (mids := its.drop n) (lasts := []) F (news_all (g := X.base)) hli (I.ok.hd hc) (by omega) (by simp only [List.size_toArray]; omega) (by simp only [List.size_toArray]; omega) rfl ?_ ?_ fun d h2 tk F2 N2 lt2 => ?_
    · show (its.drop n).take _ = its.drop n
      refine List.take_of_length_le ?_
      rw [List.length_drop]; simp only [List.size_toArray]; omega
    · show (its.drop n).drop _ = []
      refine List.drop_eq_nil_of_le ?_
      rw [List.length_drop]; simp only [List.size_toArray]; omega
    · have dL : d ≠ X.env.locals := (N2 _ List.mem_cons_self).2.1
      have dB : X.base.get? d = none := (N2 _ List.mem_cons_self).2.2
      have dget := (N2 _ List.mem_cons_self).1
      have keep : ∀ b o, b ≠ X.env.locals → s.heap.get? b = some o → h2.get? b = some o := fun b o hb q => by
        cases z : X.base.get? b with
        | some u =>
          have z2 := I.bk b u z
          rw [q] at z2; cases z2
          exact F2.keep b _ z
        | none => exact (N2 (b, o) (List.mem_cons_of_mem _ (mem_allNews hb z q))).1
      have nd : H d = none := by
        cases q : H d with
        | none => rfl
        | some u =>
          obtain ⟨ob, ho⟩ := obj_there (I.hok d u q)
          exact absurd (lt2 (d, ob) (mem_allNews dL dB ho)) (Nat.lt_irrefl _)
      have hok : HOk X.prog X.w (upd H d (.lst (xs.drop n))) h2 := fun b u q => by
        by_cases z : b = d
        · subst z
          rw [upd_same] at q
          cases q
          exact ⟨by rw [List.length_drop]; exact Nat.le_trans (Nat.sub_le _ _) (Nat.le_trans hl (by decide)), its.drop n, 0, rv.drop n, dget⟩
        · rw [upd_ne z] at q
          refine (I.hok b u q).stay (fun c v hb k => keep c v (fun zz => ?_) k) (fun c k => by rw [upd_ne (ne_of_none k nd)]; exact k) fun c ys k => by rw [upd_ne (ne_of_none k nd)]; exact k
          rw [zz] at hb
          rcases hb with hb | hb
          · rw [← hb, I.free] at q; cases q
          · rw [I.free] at hb; cases hb
      have J : Inv X pins σ (upd H d (.lst (xs.drop n))) { s with heap := h2, toks := tk } := by
        refine I.step (ch := []) (g' := s.gens) (d' := s.drawn) (fun b hb => nomatch hb) (fun b o hb _ _ q _ => keep b o hb q) (fun b o hb _ _ q _ => ⟨o.slots, keep b o hb q⟩) (fun b o _ q z => ?_) (fun b o _ q => ?_) (fun b ys q => ?_) (fun b o u q => ?_) (fun b ys q => ⟨#[], ?_⟩) (fun m' hm => ?_) hok I.bare
        · rw [upd_ne (fun zz => ?_)]
          · exact z
          · subst zz
            by_cases zb : X.base.get? b = none
            · exact absurd (lt2 (b, o) (mem_allNews dL zb q)) (Nat.lt_irrefl _)
            · exact zb dB
        · by_cases z : b = X.env.locals
          · subst z
            obtain ⟨ob, _, _, q2, _⟩ := F2.ns
            exact ⟨ob, q2⟩
          · exact ⟨o, keep b o z q⟩
        · rw [upd_ne (ne_of_none q nd)]; exact q
        · rw [upd_ne (ne_of_none q nd)]; exact q
        · rw [upd_ne (ne_of_none q nd), Array.append_empty]; exact q
        · have em : m' = m := by
            obtain ⟨o1, e1, p1, q1, r1, _, t1⟩ := hm
            obtain ⟨o2, e2, p2, q2, r2, _, t2⟩ := F.ns
            have q1' : s.heap.get? X.env.locals = some o1 := q1
            have q2' : s.heap.get? X.env.locals = some o2 := q2
            rw [q1'] at q2'; cases q2'
            rw [r1] at r2; cases r2
            funext z
            exact (t1 z).symm.trans (t2 z)
          rw [em]
          exact F2.ns
      have rv2 : Vals (xs.take n ++ [.ref d]) (its.take n ++ [.ref d] ++ []) := by
        rw [List.append_nil]
        exact (rv.take n).append (.cons rfl .nil)
      have l2 : (its.take n ++ [Value.ref d] ++ []).length = ps.length := by
        rw [List.append_nil, List.length_append, List.length_take, hlen, hsz, Nat.min_eq_left e]; rfl
      refine c.each l2 ?_
      refine c.store hN rv2 l2 J fun s' I' => ?_
      exact hb.run pins s' _ _ D I' (h' d nd)
  · have h' : tr a xs D σ H := by
      have z : (if n ≤ xs.length then ∀ d, H d = none → tb D (setAll σ is (xs.take n ++ [.ref d])) (upd H d (.lst (xs.drop n))) else tr a xs D σ H) := h
      rw [if_neg e] at z; exact z
    refine PySem.W.kun_fewL hli hfit hstar (by omega) (by simp only [List.size_toArray]; omega) ?_
    exact hr.run false pins _ σ H D a xs (I.tok _) hq hl h'
end
end SB

set_option maxHeartbeats 2000000
namespace SB
open PySem PySem.Spec PyProof.Rows L2
open C8 (Cal Mak Met pe_c pe_mk pe_mt pe_mt0 pe_gc InsC call_isC)

/-! ### texts -/
theorem len_part {x y a : Str} (h : a ∈ Txt.split x y) : a.length ≤ x.length := PyProof.Rows.part_short h
/-- what is_test asks of a text's words -/
def chkT : List Str → Bool
  | [w, n] => if w = "at" then phaseB n else decide (w = "marked") && nameB n
  | [w] => w_PLAIN_TESTS.contains w
  | _ => false
def testB (z : Str) : Bool := chkT (Txt.split (Txt.removeprefix z "not ") " ")
def chkD : List Str → Bool
  | [w, n] => if w = "to" then phaseB n else w_NAMED_DEEDS.contains w && nameB n
  | [w] => w_PLAIN_DEEDS.contains w
  | _ => false
def deedB (z : Str) : Bool := chkD (Txt.split z " ")
section
variable {P : Program} {w : World} {K : PySem.W.Frag} {mg : Str → Option Value} {base : Heap}

def spTest : Sp := fun vs H Q _ => ∃ z : Str, vs = [.str z] ∧ z.length ≤ 1000 ∧ ∀ H', Same H H' → Q (.bl (testB z)) H'
def spDeed : Sp := fun vs H Q _ => ∃ z : Str, vs = [.str z] ∧ z.length ≤ 1000 ∧ ∀ H', Same H H' → Q (.bl (deedB z)) H'
theorem c_is_test (T : Tx K mg) : Cal P w K mg base 3 "is_test" spTest [] := by
  refine T.g_is_test.cal sc_is_test (fun vs H Q E h => ?_) (fun f cdv A outer s H vs Q E hr h => ?_) (fun _ _ _ _ _ _ us hl => match us, hl with | [_], _ => rfl)
  · obtain ⟨z, rfl, hz, k⟩ := h
    rfl
  · obtain ⟨z, rfl, hz, k⟩ := h
    obtain ⟨bP, mP, sP⟩ := T.k_PLAIN_TESTS
    refine ⟨_, (pss_cons (ps_if (pt_not (pt_val (pe_callB call_isiS (by rfl) T.m_isinstance (by decide +kernel) (pa_cons (pv 0) (pa_cons (pe_bltn (v := .ty "str") (by rfl) T.m_str (by decide +kernel) rfl) pa_nil))))) (pss_one (ps_ret pe_bl)) pss_nil) (pss_cons (ps_match (pe_split (pe_m1 PySem.F.slot_str_removeprefix PySem.F.type_str_removeprefix mt_removeprefix (pv 0) pe_str) pe_str) (pms_caps rfl sc_is_test.nd (.cons (i := 1) rfl rfl (.cons (i := 2) rfl rfl .nil)) (pss_one (ps_ret (pe_ifExp (pt_cmpR op_eq (pv 1) pe_str (nomark _)) (pe_c (c_is_phase T) hr (by decide) (by rfl) (pa_cons (pv 2) pa_nil)) (pe_and (pe_cmpR op_eq (pv 1) pe_str (nomark _)) (pe_one (pe_c (c_is_name T) hr (by decide) (by rfl) (pa_cons (pv 2) pa_nil))))))) (pms_caps rfl sc_is_test.nd (.cons (i := 1) rfl rfl .nil) (pss_one (ps_ret (pe_cmpR op_inW (pv 1) (pe_gc (v := .ref bP) (by rfl) ⟨_, mP, rfl⟩) (by rfl)))) pms_nil))) (pss_one (ps_ret pe_bl)))), ?_⟩
    have fin : ∀ b H', Same H H' → testB z = b → Q (.bl b) H' := fun b H' s e => e ▸ k H' s
    refine ⟨_, rfl, z, rfl, true, rfl, iteF ?_⟩
    have lz : (Txt.removeprefix z "not ").length ≤ 1000 := Nat.le_trans (PyProof.Rows.len_removeprefix _ _) hz
    refine ⟨_, rfl, ⟨_, rfl⟩, z, _, rfl, rfl, Nat.le_trans hz (by decide), ⟨_, rfl⟩, _, _, rfl, rfl, by decide +kernel, Nat.le_trans (Nat.add_le_add_right lz 2) (by decide), fun p np => ?_⟩

    have e : testB z = chkT (Txt.split (Txt.removeprefix z "not ") " ") := rfl
    have lw : ∀ a ∈ Txt.split (Txt.removeprefix z "not ") " ", a.length ≤ 1000 := fun a ha => Nat.le_trans (len_part ha) lz
    have l4 : (Txt.split (Txt.removeprefix z "not ") " ").length ≤ 1002 := Nat.le_trans (PyProof.Rows.split_le _ _) (by omega)
    generalize Txt.split (Txt.removeprefix z "not ") " " = ws at e lw l4 ⊢
    refine ⟨p, ws.map V.str, rfl, SqL.of upd_same, by rw [List.length_map]; omega, ?_⟩
    have s1 : Same H (upd H p (.lst (ws.map V.str))) := Sn np
    match ws, e, lw with
    | [], e, lw =>
      refine (if_neg (by decide)).mpr ?_
      refine (if_neg (by decide)).mpr ?_
      exact fin _ _ s1 e
    | [w], e, lw =>
      refine (if_neg (by simp)).mpr ?_
      refine (if_pos rfl).mpr ?_
      refine ⟨_, rfl, w, bP, _, rfl, rfl, .inr (sP _), fin _ _ s1 e⟩
    | [w, n], e, lw =>
      refine (if_pos rfl).mpr ?_
      refine ⟨_, rfl, rfl, _, rfl, ?_⟩
      have ln := lw n (List.mem_cons_of_mem _ List.mem_cons_self)
      refine ite2 (fun h => ?_) (fun h => ?_)
      · have hw : w = "at" := V.str.inj (of_decide_eq_true h)
        refine ⟨_, rfl, n, rfl, ln, fun H2 s2 => fin _ _ (s1.trans s2) ?_⟩
        rw [e]; exact if_pos hw
      · have hw : ¬ w = "at" := fun q => h (decide_eq_true (congrArg V.str q))
        have e' : testB z = (decide (w = "marked") && nameB n) := e.trans (if_neg hw)
        refine ⟨_, rfl, rfl, _, rfl, ?_⟩
        refine ite2 (fun h2 => ?_) (fun h2 => ?_)
        · have hw2 : w = "marked" := V.str.inj (of_decide_eq_true h2)
          refine ⟨_, rfl, n, rfl, ln, fun H2 s2 => fin _ _ (s1.trans s2) ?_⟩
          rw [e', decide_eq_true hw2]; rfl
        · have hw2 : ¬ w = "marked" := fun q => h2 (decide_eq_true (congrArg V.str q))
          refine fin _ _ s1 ?_
          rw [e', decide_eq_false hw2]; rfl
    | w :: n :: x :: r, e, lw =>
      refine (if_neg (by simp)).mpr ?_
      refine (if_neg (by simp)).mpr ?_
      exact fin _ _ s1 e
theorem c_is_deed (T : Tx K mg) : Cal P w K mg base 3 "is_deed" spDeed [] := by
  refine T.g_is_deed.cal sc_is_deed (fun vs H Q E h => ?_) (fun f cdv A outer s H vs Q E hr h => ?_) (fun _ _ _ _ _ _ us hl => match us, hl with | [_], _ => rfl)
  · obtain ⟨z, rfl, hz, k⟩ := h
    rfl
  · obtain ⟨z, rfl, hz, k⟩ := h
    obtain ⟨bP, mP, sP⟩ := T.k_PLAIN_DEEDS
    obtain ⟨bN, mN, sN⟩ := T.k_NAMED_DEEDS
    refine ⟨_, (pss_cons (ps_if (pt_not (pt_val (pe_callB call_isiS (by rfl) T.m_isinstance (by decide +kernel) (pa_cons (pv 0) (pa_cons (pe_bltn (v := .ty "str") (by rfl) T.m_str (by decide +kernel) rfl) pa_nil))))) (pss_one (ps_ret pe_bl)) pss_nil) (pss_cons (ps_match (pe_split (pv 0) pe_str) (pms_caps rfl sc_is_deed.nd (.cons (i := 1) rfl rfl (.cons (i := 2) rfl rfl .nil)) (pss_one (ps_ret (pe_ifExp (pt_cmpR op_eq (pv 1) pe_str (nomark _)) (pe_c (c_is_phase T) hr (by decide) (by rfl) (pa_cons (pv 2) pa_nil)) (pe_and (pe_cmpR op_inW (pv 1) (pe_gc (v := .ref bN) (by rfl) ⟨_, mN, rfl⟩) (by rfl)) (pe_one (pe_c (c_is_name T) hr (by decide) (by rfl) (pa_cons (pv 2) pa_nil))))))) (pms_caps rfl sc_is_deed.nd (.cons (i := 1) rfl rfl .nil) (pss_one (ps_ret (pe_cmpR op_inW (pv 1) (pe_gc (v := .ref bP) (by rfl) ⟨_, mP, rfl⟩) (by rfl)))) pms_nil))) (pss_one (ps_ret pe_bl)))), ?_⟩
    have fin : ∀ b H', Same H H' → deedB z = b → Q (.bl b) H' := fun b H' s e => e ▸ k H' s
    refine ⟨_, rfl, z, rfl, true, rfl, iteF ?_⟩
    have lz : z.length ≤ 1000 := hz
    refine ⟨_, rfl, ⟨_, rfl⟩, _, _, rfl, rfl, by decide +kernel, Nat.le_trans (Nat.add_le_add_right lz 2) (by decide), fun p np => ?_⟩

    have e : deedB z = chkD (Txt.split z " ") := rfl
    have lw : ∀ a ∈ Txt.split z " ", a.length ≤ 1000 := fun a ha => Nat.le_trans (len_part ha) lz
    have l4 : (Txt.split z " ").length ≤ 1002 := Nat.le_trans (PyProof.Rows.split_le _ _) (by omega)
    generalize Txt.split z " " = ws at e lw l4 ⊢
    refine ⟨p, ws.map V.str, rfl, SqL.of upd_same, by rw [List.length_map]; omega, ?_⟩
    have s1 : Same H (upd H p (.lst (ws.map V.str))) := Sn np
    match ws, e, lw with
    | [], e, lw =>
      refine (if_neg (by decide)).mpr ?_
      refine (if_neg (by decide)).mpr ?_
      exact fin _ _ s1 e
    | [w], e, lw =>
      refine (if_neg (by simp)).mpr ?_
      refine (if_pos rfl).mpr ?_
      refine ⟨_, rfl, w, bP, _, rfl, rfl, .inr (sP _), fin _ _ s1 e⟩
    | [w, n], e, lw =>
      refine (if_pos rfl).mpr ?_
      refine ⟨_, rfl, rfl, _, rfl, ?_⟩
      have ln := lw n (List.mem_cons_of_mem _ List.mem_cons_self)
      refine ite2 (fun h => ?_) (fun h => ?_)
      · have hw : w = "to" := V.str.inj (of_decide_eq_true h)
        refine ⟨_, rfl, n, rfl, ln, fun H2 s2 => fin _ _ (s1.trans s2) ?_⟩
        rw [e]; exact if_pos hw
      · have hw : ¬ w = "to" := fun q => h (decide_eq_true (congrArg V.str q))
        have e' : deedB z = (w_NAMED_DEEDS.contains w && nameB n) := e.trans (if_neg hw)
        refine ⟨_, rfl, w, bN, _, rfl, rfl, .inr (sN _), _, rfl, ?_⟩
        refine ite2 (fun h2 => ?_) (fun h2 => ?_)
        · have h2' : w_NAMED_DEEDS.contains w = true := h2
          refine ⟨_, rfl, n, rfl, ln, fun H2 s2 => fin _ _ (s1.trans s2) ?_⟩
          rw [e', h2']; rfl
        · have h2' : w_NAMED_DEEDS.contains w = false := Bool.eq_false_iff.mpr h2
          refine fin _ _ s1 ?_
          rw [e', h2']; rfl
    | w :: n :: x :: r, e, lw =>
      refine (if_neg (by simp)).mpr ?_
      refine (if_neg (by simp)).mpr ?_
      exact fin _ _ s1 e
end
end SB

set_option maxHeartbeats 2000000
/-! Rows as data; their texts; what is read back. -/
namespace SB
open PySem PySem.Spec PyProof.Rows L2

/-! ### splitting at blanks, joining -/
abbrev sp (z : Str) : List Str := Txt.split z " "
abbrev jn (ws : List Str) : Str := Txt.join " " ws
theorem pre32 (c : Nat) (r : List Nat) : TL.pre [32] (c :: r) = decide (c = 32) := by
  show ([c] == [32]) = decide (c = 32)
  by_cases h : c = 32
  · subst h; rfl
  · rw [decide_eq_false h]
    exact beq_eq_false_iff_ne.mpr fun q => h (List.cons.inj q).1
theorem spl_app : ∀ (p acc r : List Nat), TL.spl [32] 0 acc (p ++ (32 :: r)) = TL.spl [32] 0 acc p ++ TL.spl [32] 0 [] r
  | [], acc, r => by
    rw [List.nil_append, TL.spl_hit (by rw [pre32]; rfl), TL.spl_nil]; rfl
  | c :: p, acc, r => by
    rw [List.cons_append]
    by_cases h : c = 32
    · have e : TL.pre [32] (c :: (p ++ (32 :: r))) = true := by rw [pre32, decide_eq_true h]
      have e2 : TL.pre [32] (c :: p) = true := by rw [pre32, decide_eq_true h]
      rw [TL.spl_hit e, TL.spl_hit e2]
      show acc :: TL.spl [32] 0 [] (p ++ 32 :: r) = acc :: TL.spl [32] 0 [] p ++ _
      rw [spl_app p [] r]; rfl
    · have e : TL.pre [32] (c :: (p ++ (32 :: r))) = false := by rw [pre32, decide_eq_false h]
      have e2 : TL.pre [32] (c :: p) = false := by rw [pre32, decide_eq_false h]
      rw [TL.spl_miss e, TL.spl_miss e2, spl_app p _ r]
theorem spl_joinW : ∀ (ps : List (List Nat)), ps ≠ [] → TL.spl [32] 0 [] (TL.joinL [32] ps) = ps.flatMap (TL.spl [32] 0 [])
  | [], h => (h rfl).elim
  | [p], _ => by
    show TL.spl [32] 0 [] p = _
    rw [List.flatMap_cons, List.flatMap_nil, List.append_nil]
  | p :: q :: r, _ => by
    show TL.spl [32] 0 [] (p ++ (32 :: TL.joinL [32] (q :: r))) = _
    rw [spl_app, spl_joinW (q :: r) (List.cons_ne_nil _ _)]; rfl
theorem map_tl_S : ∀ l : List Str, (l.map TL.tl).map SX.S = l
  | [] => rfl
  | x :: l => by rw [List.map_cons, List.map_cons, map_tl_S l]
theorem blankS : (" " : Str) = SX.S [32] := by decide +kernel
theorem sp_eq (z : Str) : sp z = (TL.spl [32] 0 [] (TL.tl z)).map SX.S := by
  show Txt.split z " " = _
  conv => lhs; rw [← SX.S_tl z, blankS]
  exact SX.split_S (by decide) (by decide)
theorem jn_eq (ws : List Str) : jn ws = SX.S (TL.joinL [32] (ws.map TL.tl)) := by
  show Txt.join " " ws = _
  conv => lhs; rw [← map_tl_S ws, blankS]
  exact SX.join_S _ _
theorem flat_map_S {ps : List (List Nat)} (f : List Nat → List (List Nat)) : (ps.flatMap f).map SX.S = (ps.map SX.S).flatMap fun z => (f (TL.tl z)).map SX.S := by
  induction ps with
  | nil => rfl
  | cons p ps ih => rw [List.flatMap_cons, List.map_append, ih, List.map_cons, List.flatMap_cons]
theorem sp_jn {ws : List Str} (h : ws ≠ []) : sp (jn ws) = ws.flatMap sp := by
  rw [jn_eq, sp_eq]
  show (TL.spl [32] 0 [] (TL.joinL [32] (ws.map TL.tl))).map SX.S = _
  rw [spl_joinW _ (by simpa using h), flat_map_S, map_tl_S]
  exact congrArg (fun f => ws.flatMap f) (funext fun z => (sp_eq z).symm)
theorem jn_sp (z : Str) : jn (sp z) = z := by
  show Txt.join " " (Txt.split z " ") = z
  rw [TL.join_eq]
  exact StrLaws.join_split z " "

/-! ### " and ", " then " -/
/-- a word between each two -/
def inter (w : Str) : List Str → List Str
  | p :: q :: r => p :: w :: inter w (q :: r)
  | l => l
theorem inter_ne {w : Str} : ∀ {l : List Str}, l ≠ [] → inter w l ≠ []
  | [], h => (h rfl).elim
  | [_], h => h
  | _ :: _ :: _, _ => List.cons_ne_nil _ _
theorem joinL_inter (w : Str) : ∀ l : List Str, TL.joinL (32 :: (TL.tl w ++ [32])) (l.map TL.tl) = TL.joinL [32] ((inter w l).map TL.tl)
  | [] => rfl
  | [p] => rfl
  | p :: q :: r => by
    have ih := joinL_inter w (q :: r)
    have hne : (inter w (q :: r)).map TL.tl ≠ [] := fun z => inter_ne (List.cons_ne_nil q r) (List.map_eq_nil_iff.mp z)
    show TL.tl p ++ ((32 :: (TL.tl w ++ [32])) ++ TL.joinL (32 :: (TL.tl w ++ [32])) ((q :: r).map TL.tl)) = TL.joinL [32] (TL.tl p :: TL.tl w :: (inter w (q :: r)).map TL.tl)
    rw [ih]
    cases e : (inter w (q :: r)).map TL.tl with
    | nil => exact (hne e).elim
    | cons x l =>
      show _ = TL.tl p ++ ([32] ++ (TL.tl w ++ ([32] ++ TL.joinL [32] (x :: l))))
      simp only [List.cons_append, List.append_assoc, List.nil_append]
/-- sep, as the f-string makes it -/
def sepOf (w : Str) : Str := SX.S (32 :: (TL.tl w ++ [32]))
theorem join_inter (w : Str) (l : List Str) : Txt.join (sepOf w) l = jn (inter w l) := by
  rw [jn_eq, ← joinL_inter]
  conv => lhs; rw [← map_tl_S l]
  exact SX.join_S _ _
theorem spl_freeA {sep : List Nat} (hs : sep ≠ []) : ∀ {ps : List (List Nat)}, ps ≠ [] → (∀ p ∈ ps, SX.free sep p = true) → TL.spl sep 0 [] (TL.joinL sep ps) = ps
  | [], h, _ => (h rfl).elim
  | [p], _, hf => by
    show TL.spl sep 0 [] p = [p]
    have h := hf p (List.mem_singleton.mpr rfl)
    have e : TL.spl sep 0 [] p = [[] ++ p] := TL.spl_last fun i hi => by
      have z := SX.free_at h [] i hi
      by_cases c : sep.length ≤ (p.drop i).length
      · rw [List.append_nil, List.drop_append_of_le_length (Nat.le_of_lt hi), SX.pre_mono c] at z
        exact z
      · cases q : TL.pre sep (p.drop i) with
        | false => rfl
        | true =>
          have q' : ((p.drop i).take sep.length == sep) = true := q
          have q2 := congrArg List.length (beq_iff_eq.mp q')
          rw [List.length_take] at q2
          omega
    rw [e, List.nil_append]
  | p :: q :: r, _, hf => by
    show TL.spl sep 0 [] (p ++ (sep ++ TL.joinL sep (q :: r))) = p :: q :: r
    rw [SX.spl_free _ hs (hf p List.mem_cons_self), spl_freeA hs (List.cons_ne_nil _ _) fun x hx => hf x (List.mem_cons_of_mem _ hx)]
theorem split_sep {w : Str} {l : List Str} (hw : (TL.tl w).all (· < 256) = true) (h : l ≠ []) (hf : ∀ p ∈ l, SX.free (32 :: (TL.tl w ++ [32])) (TL.tl p) = true) : Txt.split (Txt.join (sepOf w) l) (sepOf w) = l := by
  have e : Txt.join (sepOf w) l = SX.S (TL.joinL (32 :: (TL.tl w ++ [32])) (l.map TL.tl)) := by
    conv => lhs; rw [← map_tl_S l]
    exact SX.join_S _ _
  rw [e]
  have e2 : Txt.split (SX.S (TL.joinL (32 :: (TL.tl w ++ [32])) (l.map TL.tl))) (sepOf w) = (TL.spl (32 :: (TL.tl w ++ [32])) 0 [] (TL.joinL (32 :: (TL.tl w ++ [32])) (l.map TL.tl))).map SX.S :=
    SX.split_S (List.cons_ne_nil _ _) (by rw [List.all_cons, List.all_append, hw]; rfl)
  rw [e2, spl_freeA (List.cons_ne_nil _ _) (by simpa using h) (fun p hp => ?_), map_tl_S]
  obtain ⟨z, hz, rfl⟩ := List.mem_map.mp hp
  exact hf z hz
/-! ### lengths -/
theorem joinL_len (sep : List Nat) : ∀ ps : List (List Nat), (TL.joinL sep ps).length ≤ (ps.map List.length).sum + ps.length * sep.length
  | [] => Nat.zero_le _
  | [p] => by
    show p.length ≤ p.length + 0 + 1 * sep.length
    omega
  | p :: q :: r => by
    have ih := joinL_len sep (q :: r)
    show (p ++ (sep ++ TL.joinL sep (q :: r))).length ≤ _
    rw [List.length_append, List.length_append, List.map_cons, List.sum_cons, List.length_cons, Nat.add_mul]
    omega
theorem join_len (sep : Str) (l : List Str) : (Txt.join sep l).length ≤ (l.map (·.length)).sum + l.length * sep.length := by
  have e : Txt.join sep l = SX.S (TL.joinL (TL.tl sep) (l.map TL.tl)) := by
    conv => lhs; rw [← map_tl_S l, ← SX.S_tl sep]
    exact SX.join_S _ _
  rw [e, SX.S_len]
  have h := joinL_len (TL.tl sep) (l.map TL.tl)
  have e1 : ((l.map TL.tl).map List.length) = l.map (·.length) := by
    rw [List.map_map]
    exact congrArg (fun f => l.map f) (funext fun z => (TL.len_tl z).symm)
  rw [e1, List.length_map, ← TL.len_tl sep] at h
  exact h
theorem sum_le {l : List Str} {m : Nat} (h : ∀ z ∈ l, z.length ≤ m) : (l.map (·.length)).sum ≤ l.length * m := by
  induction l with
  | nil => exact Nat.zero_le _
  | cons x l ih =>
    rw [List.map_cons, List.sum_cons, List.length_cons, Nat.add_mul, Nat.one_mul]
    have h1 := h x List.mem_cons_self
    have h2 := ih fun z hz => h z (List.mem_cons_of_mem _ hz)
    omega
end SB

set_option maxHeartbeats 2000000
/-! The drawn names, tests, deeds; rows as data, their texts and words. -/
namespace SB
open PySem PySem.Spec PyProof.Rows L2

def pool : List Str := ["new", "off", "yes", "a", "made", "gone", "some", "all", "at", "mark", "make", "lead", "turn", "free", "zzzz"]
def poolN : List Str := pool ++ [("none" : Str)]
def testA : List Str := (poolN.map fun n => ("at " : Str) ++ n) ++ (pool.map fun n => ("marked " : Str) ++ n) ++ [("made" : Str), ("built" : Str)]
def tests : List Str := testA ++ testA.map fun t => ("not " : Str) ++ t
def deeds : List Str := (poolN.map fun n => ("to " : Str) ++ n) ++ (pool.map fun n => ("mark " : Str) ++ n) ++ [("make" : Str), ("take" : Str), ("grip" : Str), ("free" : Str)] ++ (pool.map fun n => ("clear " : Str) ++ n) ++ (pool.map fun n => ("send " : Str) ++ n)
/-- all words that stand alone in a row -/
def atoms : List Str := pool ++ [("first" : Str), ("mode" : Str), ("house" : Str), ("to" : Str), ("send" : Str), ("if" : Str), ("do" : Str), ("and" : Str), ("then" : Str), ("any" : Str), ("same" : Str), ("time" : Str), ("build" : Str), ("leave" : Str), ("work" : Str), ("wipe" : Str)]
def atomB (w : Str) : Bool := decide (sp w = [w]) && decide (w.length ≤ 10) && !(TL.tl w).contains 10
theorem atoms_ok : ∀ w ∈ atoms, atomB w = true := List.all_eq_true.mp (by decide +kernel)
theorem pool_name : ∀ w ∈ pool, nameB w = true := List.all_eq_true.mp (by decide +kernel)
def testOk (t : Str) : Bool := testB t && decide (t.length ≤ 20) && !(TL.tl t).contains 10 && SX.free (32 :: (TL.tl ("and" : Str) ++ [32])) (TL.tl t) && !(sp t).contains ("do" : Str)
theorem tests_ok : ∀ t ∈ tests, testOk t = true := List.all_eq_true.mp (by decide +kernel)
def deedOk (t : Str) : Bool := deedB t && decide (t.length ≤ 20) && !(TL.tl t).contains 10 && SX.free (32 :: (TL.tl ("then" : Str) ++ [32])) (TL.tl t)
theorem deeds_ok : ∀ t ∈ deeds, deedOk t = true := List.all_eq_true.mp (by decide +kernel)

/-- a row -/
inductive RD where
  | first (p : Str)
  | mode (n : Str) (pr : Option Str) (ends : List Str)
  | turn (m w : Str) (ps : List Str) (t : Str)
  | lead (m p e t : Str) (sends : List Str)
  | house (e : Str) (ts ds : List Str)
def From (l ws : List Str) : Prop := ∀ w ∈ ws, w ∈ l
def Ok : RD → Prop
  | .first p => p ∈ pool
  | .mode n pr ends => n ∈ pool ∧ ((pr = none ∧ ends = []) ∨ (∃ q, pr = some q ∧ q ∈ w_PROMISES ∧ ends ≠ [] ∧ ends.length ≤ 5 ∧ From pool ends ∧ ends.Nodup))
  | .turn m w ps t => m ∈ pool ∧ t ∈ pool ∧ ((w = ("time" : Str) ∧ ps = []) ∨ ((w = ("some" : Str) ∨ w = ("all" : Str)) ∧ ps ≠ [] ∧ ps.length ≤ 5 ∧ From pool ps ∧ ps.Nodup))
  | .lead m p e t sends => (m ∈ pool ∨ m = ("any" : Str)) ∧ (p ∈ pool ∨ p = ("any" : Str)) ∧ (e ∈ pool ∨ e = ("time" : Str)) ∧ (t ∈ pool ∨ t = ("same" : Str)) ∧ sends.length ≤ 5 ∧ From pool sends
  | .house e ts ds => (e ∈ pool ∨ e ∈ w_PLAIN_EVENTS) ∧ ts.length ≤ 5 ∧ From tests ts ∧ ds.length ≤ 5 ∧ From deeds ds
/-- what stands between the blanks in the row's text, as the package joins it -/
def parts : RD → List Str
  | .first p => [("first" : Str), p]
  | .mode n pr ends => ("mode" : Str) :: n :: (pr.toList ++ ends)
  | .turn m w ps t => ("turn" : Str) :: m :: w :: (ps ++ [("to" : Str), t])
  | .lead m p e t sends => ("lead" : Str) :: m :: p :: e :: ("to" : Str) :: t :: (if sends = [] then [] else [("send" : Str), Txt.join (sepOf ("and" : Str)) sends])
  | .house e ts ds => ("house" : Str) :: e :: ((if ts = [] then [] else [("if" : Str), Txt.join (sepOf ("and" : Str)) ts]) ++ (if ds = [] then [] else [("do" : Str), Txt.join (sepOf ("then" : Str)) ds]))
def text (r : RD) : Str := jn (parts r)
/-- its words -/
def toks (r : RD) : List Str := sp (text r)
theorem parts_ne (r : RD) : parts r ≠ [] := by cases r <;> exact List.cons_ne_nil _ _
theorem sp_text (r : RD) : toks r = (parts r).flatMap sp := sp_jn (parts_ne r)
theorem atom_sp {w : Str} (h : w ∈ atoms) : sp w = [w] := by
  have z := atoms_ok w h
  unfold atomB at z
  rw [Bool.and_eq_true, Bool.and_eq_true] at z
  exact of_decide_eq_true z.1.1
theorem pool_atom {w : Str} (h : w ∈ pool) : w ∈ atoms := List.mem_append_left _ h
theorem flat_atoms {l : List Str} (h : ∀ w ∈ l, w ∈ atoms) : l.flatMap sp = l := by
  induction l with
  | nil => rfl
  | cons x l ih =>
    rw [List.flatMap_cons, atom_sp (h x List.mem_cons_self), ih fun w hw => h w (List.mem_cons_of_mem _ hw)]; rfl
theorem inAtoms {w : Str} (h : atoms.contains w = true := by decide +kernel) : w ∈ atoms := List.contains_iff_mem.mp h
theorem atom_or {w v : Str} (h : w ∈ pool ∨ w = v) (hv : atoms.contains v = true := by decide +kernel) : w ∈ atoms := h.elim pool_atom fun e => e ▸ List.contains_iff_mem.mp hv
theorem ev_atoms : ∀ w ∈ w_PLAIN_EVENTS, w ∈ atoms := fun w h => List.contains_iff_mem.mp (List.all_eq_true.mp (by decide +kernel : w_PLAIN_EVENTS.all (fun w => atoms.contains w) = true) w h)
theorem pr_atoms : ∀ w ∈ w_PROMISES, w ∈ atoms := fun w h => List.contains_iff_mem.mp (List.all_eq_true.mp (by decide +kernel : w_PROMISES.all (fun w => atoms.contains w) = true) w h)
/-- the row's words, told -/
theorem toks_first {p : Str} (h : Ok (.first p)) : toks (.first p) = [("first" : Str), p] := by
  rw [sp_text]
  refine flat_atoms fun w hw => ?_
  rcases List.mem_cons.mp hw with rfl | hw
  · exact inAtoms
  · rw [List.mem_singleton.mp hw]; exact pool_atom h
theorem toks_mode {n : Str} {pr : Option Str} {ends : List Str} (h : Ok (.mode n pr ends)) : toks (.mode n pr ends) = ("mode" : Str) :: n :: (pr.toList ++ ends) := by
  rw [sp_text]
  refine flat_atoms fun w hw => ?_
  obtain ⟨hn, h⟩ := h
  rcases List.mem_cons.mp hw with rfl | hw
  · exact inAtoms
  · rcases List.mem_cons.mp hw with rfl | hw
    · exact pool_atom hn
    · rcases h with ⟨rfl, rfl⟩ | ⟨q, rfl, hq, _, _, hf, _⟩
      · cases hw
      · rcases List.mem_cons.mp hw with rfl | hw
        · exact pr_atoms _ hq
        · exact pool_atom (hf w hw)
theorem toks_turn {m w t : Str} {ps : List Str} (h : Ok (.turn m w ps t)) : toks (.turn m w ps t) = ("turn" : Str) :: m :: w :: (ps ++ [("to" : Str), t]) := by
  rw [sp_text]
  refine flat_atoms fun x hx => ?_
  obtain ⟨hm, ht, h⟩ := h
  rcases List.mem_cons.mp hx with rfl | hx
  · exact inAtoms
  rcases List.mem_cons.mp hx with rfl | hx
  · exact pool_atom hm
  rcases List.mem_cons.mp hx with rfl | hx
  · rcases h with ⟨rfl, _⟩ | ⟨rfl | rfl, _⟩
    · exact inAtoms
    · exact inAtoms
    · exact inAtoms
  rcases List.mem_append.mp hx with hx | hx
  · rcases h with ⟨_, rfl⟩ | ⟨_, _, _, hf, _⟩
    · cases hx
    · exact pool_atom (hf x hx)
  rcases List.mem_cons.mp hx with rfl | hx
  · exact inAtoms
  · rw [List.mem_singleton.mp hx]; exact pool_atom ht
theorem sp_join {w : Str} {l : List Str} (h : l ≠ []) : sp (Txt.join (sepOf w) l) = (inter w l).flatMap sp := by
  rw [join_inter]; exact sp_jn (inter_ne h)
theorem toks_lead {m p e t : Str} {sends : List Str} (h : Ok (.lead m p e t sends)) : toks (.lead m p e t sends) = ("lead" : Str) :: m :: p :: e :: ("to" : Str) :: t :: (if sends = [] then [] else ("send" : Str) :: sp (Txt.join (sepOf ("and" : Str)) sends)) := by
  rw [sp_text]
  obtain ⟨hm, hp, he, ht, _, hs⟩ := h
  have h6 : ([("lead" : Str), m, p, e, ("to" : Str), t] : List Str).flatMap sp = [("lead" : Str), m, p, e, ("to" : Str), t] := by
    refine flat_atoms fun x hx => ?_
    rcases List.mem_cons.mp hx with rfl | hx
    · exact inAtoms
    rcases List.mem_cons.mp hx with rfl | hx
    · exact atom_or hm
    rcases List.mem_cons.mp hx with rfl | hx
    · exact atom_or hp
    rcases List.mem_cons.mp hx with rfl | hx
    · exact atom_or he
    rcases List.mem_cons.mp hx with rfl | hx
    · exact inAtoms
    · rw [List.mem_singleton.mp hx]; exact atom_or ht
  have ep : parts (.lead m p e t sends) = ([("lead" : Str), m, p, e, ("to" : Str), t] : List Str) ++ (if sends = [] then [] else [("send" : Str), Txt.join (sepOf ("and" : Str)) sends]) := rfl
  rw [ep, List.flatMap_append, h6]
  by_cases c : sends = []
  · rw [if_pos c, if_pos c]; rfl
  · rw [if_neg c, if_neg c, List.flatMap_cons, List.flatMap_cons, List.flatMap_nil, List.append_nil, atom_sp (inAtoms (w := ("send" : Str)))]; rfl
/-- asked, done, in words -/
def askW (ts : List Str) : List Str := if ts = [] then [] else ("if" : Str) :: sp (Txt.join (sepOf ("and" : Str)) ts)
def doW (ds : List Str) : List Str := if ds = [] then [] else ("do" : Str) :: sp (Txt.join (sepOf ("then" : Str)) ds)
theorem toks_house {e : Str} {ts ds : List Str} (h : Ok (.house e ts ds)) : toks (.house e ts ds) = ("house" : Str) :: e :: (askW ts ++ doW ds) := by
  rw [sp_text]
  obtain ⟨he, _, _, _, _⟩ := h
  have h2 : ([("house" : Str), e] : List Str).flatMap sp = [("house" : Str), e] := by
    refine flat_atoms fun x hx => ?_
    rcases List.mem_cons.mp hx with rfl | hx
    · exact inAtoms
    · rw [List.mem_singleton.mp hx]; exact he.elim pool_atom (ev_atoms _)
  have ep : parts (.house e ts ds) = ([("house" : Str), e] : List Str) ++ ((if ts = [] then [] else [("if" : Str), Txt.join (sepOf ("and" : Str)) ts]) ++ (if ds = [] then [] else [("do" : Str), Txt.join (sepOf ("then" : Str)) ds])) := rfl
  rw [ep, List.flatMap_append, h2, List.flatMap_append]
  have e1 : (if ts = [] then [] else [("if" : Str), Txt.join (sepOf ("and" : Str)) ts] : List Str).flatMap sp = askW ts := by
    unfold askW
    by_cases c : ts = []
    · rw [if_pos c, if_pos c]; rfl
    · rw [if_neg c, if_neg c, List.flatMap_cons, List.flatMap_cons, List.flatMap_nil, List.append_nil, atom_sp (inAtoms (w := ("if" : Str)))]; rfl
  have e2 : (if ds = [] then [] else [("do" : Str), Txt.join (sepOf ("then" : Str)) ds] : List Str).flatMap sp = doW ds := by
    unfold doW
    by_cases c : ds = []
    · rw [if_pos c, if_pos c]; rfl
    · rw [if_neg c, if_neg c, List.flatMap_cons, List.flatMap_cons, List.flatMap_nil, List.append_nil, atom_sp (inAtoms (w := ("do" : Str)))]; rfl
  rw [e1, e2]; rfl
theorem tests_no {t : Str} (h : t ∈ tests) : ("do" : Str) ∉ sp t := fun q => by
  have z := tests_ok t h
  unfold testOk at z
  rw [Bool.and_eq_true] at z
  rw [List.contains_iff_mem.mpr q] at z
  exact nomatch z.2
theorem inter_mem {w x : Str} : ∀ {l : List Str}, x ∈ inter w l → x = w ∨ x ∈ l
  | [], h => nomatch h
  | [p], h => .inr h
  | p :: q :: r, h => by
    rcases List.mem_cons.mp h with rfl | h
    · exact .inr List.mem_cons_self
    · rcases List.mem_cons.mp h with rfl | h
      · exact .inl rfl
      · exact (inter_mem h).imp id fun z => List.mem_cons_of_mem _ z
theorem ask_no {ts : List Str} (h : From tests ts) : ("do" : Str) ∉ askW ts := fun q => by
  unfold askW at q
  by_cases c : ts = []
  · rw [if_pos c] at q; cases q
  · rw [if_neg c, sp_join c] at q
    rcases List.mem_cons.mp q with q | q
    · exact absurd q (by decide +kernel)
    · obtain ⟨x, hx, hq⟩ := List.mem_flatMap.mp q
      rcases inter_mem hx with rfl | hx
      · rw [atom_sp (inAtoms (w := ("and" : Str)))] at hq
        exact absurd (List.mem_singleton.mp hq) (by decide +kernel)
      · exact tests_no (h x hx) hq
end SB

set_option maxHeartbeats 2000000
/-! Objects: fields by names, what a row's object looks like, how one is made. -/
namespace SB
open PySem PySem.Spec PyProof.Rows L2
open C8 (Cal Mak Met pe_c pe_mk pe_mt pe_mt0 pe_gc InsC call_isC)

/-! ### fields -/
def ob (ks : List Str) (vs : List V) : List (Str × V) := ks.zip vs
theorem ob_put {f : Str} {v : V} : ∀ {ks : List Str} {vs : List V}, ks.length = vs.length → ks.contains f = false → putF f v (ob ks vs) = ob (ks ++ [f]) (vs ++ [v])
  | [], [], _, _ => rfl
  | [], _ :: _, h, _ => nomatch h
  | _ :: _, [], h, _ => nomatch h
  | k :: ks, u :: vs, h, hn => by
    rw [List.contains_cons] at hn
    obtain ⟨h1, h2⟩ := Bool.or_eq_false_iff.mp hn
    have hne : ¬ k = f := fun e => by rw [e, beq_self_eq_true] at h1; cases h1
    show (if k = f then _ else (k, u) :: putF f v (ob ks vs)) = _
    rw [if_neg hne, ob_put (Nat.succ.inj h) h2]; rfl
theorem ob_get {f : Str} {v : V} : ∀ {ks : List Str} {vs : List V} {i : Nat}, ks.findIdx? (· == f) = some i → vs[i]? = some v → (ob ks vs).lookup f = some v
  | [], vs, i, h, _ => nomatch h
  | k :: ks, [], i, _, hv => by simp at hv
  | k :: ks, u :: vs, i, h, hv => by
    rw [List.findIdx?_cons] at h
    show List.lookup f ((k, u) :: ob ks vs) = some v
    rw [List.lookup_cons]
    by_cases e : k = f
    · subst e
      simp only [beq_self_eq_true, if_true] at h ⊢
      cases h
      exact hv
    · have e1 : (k == f) = false := beq_eq_false_iff_ne.mpr e
      have e2 : (f == k) = false := beq_eq_false_iff_ne.mpr fun z => e z.symm
      rw [e1] at h
      simp only [Bool.false_eq_true, if_false] at h
      rw [e2]
      obtain ⟨j, hj, rfl⟩ := Option.map_eq_some_iff.mp h
      exact ob_get hj hv
theorem ob_no {f : Str} : ∀ {ks : List Str} {vs : List V}, ks.contains f = false → (ob ks vs).lookup f = none
  | [], _, _ => rfl
  | k :: ks, [], _ => rfl
  | k :: ks, u :: vs, h => by
    rw [List.contains_cons] at h
    obtain ⟨h1, h2⟩ := Bool.or_eq_false_iff.mp h
    show List.lookup f ((k, u) :: ob ks vs) = none
    rw [List.lookup_cons, h1]
    exact ob_no h2

/-! ### all but one -/
def But (x : Addr) (H H' : Hp) : Prop := ∀ b o, b ≠ x → H b = some o → H' b = some o
theorem But.refl {x : Addr} (H : Hp) : But x H H := fun _ _ _ e => e
theorem But.same {x : Addr} {H H' : Hp} (s : Same H H') : But x H H' := fun b o _ e => s b o e
theorem But.trans {x : Addr} {H H1 H2 : Hp} (a : But x H H1) (b : But x H1 H2) : But x H H2 := fun c o n e => b c o n (a c o n e)
theorem But.upd {x : Addr} {H H1 : Hp} {o : HO} (a : But x H H1) : But x H (upd H1 x o) := fun b u n e => by rw [upd_ne n]; exact a b u n e
theorem rd_upd {H : Hp} {x t : Addr} {u o o' : HO} (hx : H x = some o) (hn : o ≠ u) (hf : ∀ ob, o ≠ .frz ob u) (h : Rd H t u) : Rd (upd H x o') t u := by
  rcases h with h | ⟨ob, h⟩
  · exact .inl (by rw [upd_ne (ne_of h hx hn.symm)]; exact h)
  · exact .inr ⟨ob, by rw [upd_ne (ne_of h hx (hf ob).symm)]; exact h⟩
section
variable {K : PySem.W.Frag} {H : Hp} {x t C dx : Addr} {fs : List (Str × V)} {o' : HO} {xs : List V}
theorem sqT_ins (hx : H x = some (.ins C dx fs)) (h : SqT K H t xs) : SqT K (upd H x o') t xs := h.imp (rd_upd hx (fun z => nomatch z) fun _ z => nomatch z) id
theorem sqL_ins (hx : H x = some (.ins C dx fs)) (h : SqL K H t xs) : SqL K (upd H x o') t xs := h.imp (rd_upd hx (fun z => nomatch z) fun _ z => nomatch z) id
theorem sqA_ins (hx : H x = some (.ins C dx fs)) (h : SqA K H t xs) : SqA K (upd H x o') t xs := h.imp (sqL_ins hx) (sqT_ins hx)
end
/-- tuple(xs), xs a list or a tuple -/
theorem call_tupA {X : Cx} : CallR X (.type "tuple") (fun xs H Q => ∃ (a : Addr) (ys : List V), xs = [.ref a] ∧ SqA X.K H a ys ∧ ∀ t H', Same H H' → SqT X.K H' t ys → (H' t = some (.tup ys) ∨ H' = H) → Q (.ref t) H') :=
  callImp call_tuple_of fun xs H Q ⟨a, ys, e, S, k⟩ => ⟨a, ys, e, S.elim (fun S => .inl ⟨S, fun l nl => k l _ (Sn nl) (SqT.of upd_same) (.inl upd_same)⟩) fun S => .inr ⟨S, k a H (Same.refl H) S (.inr rfl)⟩⟩

/-! ### a row's object -/
def optV : Option Str → V
  | none => .non
  | some z => .str z
def kFirst : List Str := [("place" : Str)]
def kMode : List Str := [("name" : Str), ("promise" : Str), ("ends" : Str)]
def kTurn : List Str := [("mode" : Str), ("way" : Str), ("places" : Str), ("then" : Str)]
def kLead : List Str := [("mode" : Str), ("place" : Str), ("event" : Str), ("then" : Str), ("sends" : Str)]
def kHouse : List Str := [("event" : Str), ("tests" : Str), ("deeds" : Str)]
abbrev sv (ws : List Str) : List V := ws.map V.str
/-- the object's class, its fields' names and values (t, u: the tuples it holds) -/
def rcls (c : Cs) : RD → Addr
  | .first _ => c.first
  | .mode _ _ _ => c.mode
  | .turn _ _ _ _ => c.turn
  | .lead _ _ _ _ _ => c.lead
  | .house _ _ _ => c.house
def rks : RD → List Str
  | .first _ => kFirst
  | .mode _ _ _ => kMode
  | .turn _ _ _ _ => kTurn
  | .lead _ _ _ _ _ => kLead
  | .house _ _ _ => kHouse
def rvs (t u : Addr) : RD → List V
  | .first p => [.str p]
  | .mode n pr _ => [.str n, optV pr, .ref t]
  | .turn m w _ th => [.str m, .str w, .ref t, .str th]
  | .lead m p e th _ => [.str m, .str p, .str e, .str th, .ref t]
  | .house e _ _ => [.str e, .ref t, .ref u]
/-- what the two tuples hold -/
def rt1 : RD → List Str
  | .mode _ _ ends => ends
  | .turn _ _ ps _ => ps
  | .lead _ _ _ _ s => s
  | .house _ ts _ => ts
  | .first _ => []
def rt2 : RD → List Str
  | .house _ _ ds => ds
  | _ => []
def has1 : RD → Bool
  | .first _ => false
  | _ => true
def has2 : RD → Bool
  | .house _ _ _ => true
  | _ => false
def RowAt (c : Cs) (K : PySem.W.Frag) (H : Hp) (v : V) (r : RD) : Prop := ∃ a dx t u, v = .ref a ∧ H a = some (.ins (rcls c r) dx (ob (rks r) (rvs t u r))) ∧ (has1 r = true → SqT K H t (sv (rt1 r))) ∧ (has2 r = true → SqT K H u (sv (rt2 r)))
theorem RowAt.im {c : Cs} {K : PySem.W.Frag} {H H' : Hp} {v : V} {r : RD} (s : Im H H') (h : RowAt c K H v r) : RowAt c K H' v r := by
  obtain ⟨a, dx, t, u, e, h1, h2, h3⟩ := h
  exact ⟨a, dx, t, u, e, s _ _ trivial h1, fun q => s.sqT (h2 q), fun q => s.sqT (h3 q)⟩
theorem RowAt.sm {c : Cs} {K : PySem.W.Frag} {H H' : Hp} {v : V} {r : RD} (s : Same H H') (h : RowAt c K H v r) : RowAt c K H' v r := h.im (im_of s)
/-- how the promise of an __init__ ends -/
def InitE (c : Cs) (K : PySem.W.Frag) (x dx : Addr) (H : Hp) (r : RD) (Q : VK) : Prop := ∀ H' t u, But x H H' → H' x = some (.ins (rcls c r) dx (ob (rks r) (rvs t u r))) → (has1 r = true → SqT K H' t (sv (rt1 r))) → (has2 r = true → SqT K H' u (sv (rt2 r))) → Q .non H'
theorem initE_use {c : Cs} {K : PySem.W.Frag} {H1 : Hp} {r : RD} {Q : VK} {x dx : Addr} {o : HO} (nx : H1 x = none) (nd : H1 dx = none) (k : ∀ v H', Same H1 H' → RowAt c K H' v r → Q v H') :
    InitE c K x dx (upd (upd H1 dx (.own x)) x o) r (fun v H2 => v = .non ∧ Q (.ref x) H2) := fun H' t u b hx h1 h2 =>
  ⟨rfl, k _ H' (fun z oz e => b z oz (ne_of_none e nx) (by rw [upd_ne (ne_of_none e nx), upd_ne (ne_of_none e nd)]; exact e)) ⟨x, dx, t, u, rfl, hx, h1, h2⟩⟩
theorem same_mk {H1 : Hp} {x dx : Addr} {o : HO} (nx : H1 x = none) (nd : H1 dx = none) : Same H1 (upd (upd H1 dx (.own x)) x o) := fun z oz e => by
  rw [upd_ne (ne_of_none e nx), upd_ne (ne_of_none e nd)]; exact e
end SB

set_option maxHeartbeats 2000000
namespace SB
open PySem PySem.Spec PyProof.Rows L2
open C8 (Cal Mak Met pe_c pe_mk pe_mt pe_mt0 pe_gc InsC call_isC)

/-! ### fields read and stored, by their places -/
section
variable {X : Cx} {e value : Expr} {te tv : TE} {f : Str} {pos pos' : Pos} {C : Addr}
def tFo (C : Addr) (ks : List Str) (i : Nat) (te : TE) : TE := fun σ H Q => te σ H fun x H1 => ∃ a dx vs v, x = .ref a ∧ H1 a = some (.ins C dx (ob ks vs)) ∧ vs[i]? = some v ∧ Q v H1
theorem pe_fo {ks : List Str} (i : Nat) (he : PE X e te) (cl : Cls X.K C) (na : NoAttr X.K C f) (hi : ks.findIdx? (· == f) = some i) (hb : attributeBase e f X.env (eval e X.env) = eval e X.env := by rfl) : PE X (.Attribute e f pos) (tFo C ks i te) := by
  refine ⟨fun pins s σ H Q I h => attr_of hb (thn (he.run pins s σ H _ I h) ?_)⟩
  rintro w s1 ⟨x, H1, J, rx, a, dx, vs, v, rfl, ea, hv, q⟩
  cases rx
  exact getattr_ok J ea cl na (ob_get hi hv) fun w' s2 J2 rw' => ⟨v, H1, J2, rw', q⟩
def sFo (C : Addr) (ks : List Str) (f : Str) (te tv : TE) : TS := fun D σ H => tv σ H fun y H1 => te σ H1 fun x H2 => ∃ a dx vs, x = .ref a ∧ H2 a = some (.ins C dx (ob ks vs)) ∧ ks.length = vs.length ∧ D.nx σ (upd H2 a (.ins C dx (ob (ks ++ [f]) (vs ++ [y]))))
theorem ps_fo {ks : List Str} (he : PE X e te) (hv : PE X value tv) (cl : Cls X.K C) (na : NoAttr X.K C f) (hn : ks.contains f = false) (hl : ks.length < 1000) (hs : swapsWith value (some (.Attribute e f pos')) pos.line X.env = pure false := by rfl) :
    PS X (.Assign [.Attribute e f pos'] value pos) (sFo C ks f te tv) := by
  refine ⟨fun pins s σ H D I h => plainObj_wpAny_Assign_Attribute (thn (hv.run pins s σ H _ I h) ?_) hs⟩
  rintro w s1 ⟨y, H1, J, ry, q⟩
  refine thn (he.run pins s1 σ H1 _ J q) ?_
  rintro w' s2 ⟨x, H2, J2, rx, a, dx, vs, rfl, ea, el, q2⟩
  cases rx
  have hz : (ob ks vs).length < 1000 := Nat.lt_of_le_of_lt (by show (ks.zip vs).length ≤ ks.length; rw [List.length_zip]; exact Nat.min_le_left _ _) hl
  refine setattr_ok J2 ea cl na hz ry fun s3 J3 => ⟨σ, _, J3, ?_⟩
  rw [ob_put el hn]
  exact q2
end
/-- a class of the text: its def __init__, its defaults -/
def Ini (K : PySem.W.Frag) (mg : Str → Option Value) (x : Str) (C : Addr) (qual : Str) (st : Stmt) (dvs : List V) : Prop := ∃ f fd, mg x = some (.ref C) ∧ Mk K C f ∧ FunD K "__init__" qual (defArgs st) (defBody st) (defScope st) dvs [] f fd
/-- instances of C: the fields ks are no attributes of the class -/
structure KCl (K : PySem.W.Frag) (C : Addr) (ks : List Str) : Prop where
  cl : Cls K C
  na : ∀ f, ks.contains f = true → NoAttr K C f
structure Ty (K : PySem.W.Frag) (mg : Str → Option Value) (c : Cs) : Prop where
  x : Tx K mg
  k_first : KCl K c.first kFirst
  k_mode : KCl K c.mode kMode
  k_turn : KCl K c.turn kTurn
  k_lead : KCl K c.lead kLead
  k_house : KCl K c.house kHouse
  i_first : Ini K mg "First" c.first "First.__init__" s_First_init []
  i_mode : ∃ dvs, dvs.length = 2 ∧ Ini K mg "Mode" c.mode "Mode.__init__" s_Mode_init dvs
  i_turn : Ini K mg "Turn" c.turn "Turn.__init__" s_Turn_init []
  i_lead : ∃ e, (∀ H, SqT K H e []) ∧ Ini K mg "Lead" c.lead "Lead.__init__" s_Lead_init [.ref e]
  i_house : ∃ dvs, dvs.length = 2 ∧ Ini K mg "House" c.house "House.__init__" s_House_init dvs
section
variable {P : Program} {w : World} {K : PySem.W.Frag} {mg : Str → Option Value} {base : Heap}
variable {c : Cs}
/-- one of the package's classes, made by its name; all arguments given -/
theorem Ini.mak {x qual : Str} {C : Addr} {st : Stmt} {dvs : List V} {N ps : List Str} {k : Nat} {sp : Sp} {f : Addr} {fd : FuncData} {dv : List V} {ds : List Value} (hm : mg x = some (.ref C)) (M : Mk K C f) (F : FunD K "__init__" qual (defArgs st) (defBody st) (defScope st) dvs [] f fd)
    (b : Binds K fd ps ds) (hd : Vals dv ds) (S : FnScope N ps (defScope st)) (len : ∀ vs H Q E, sp vs H Q E → vs.length = ps.length)
    (hbody : ∀ (cdv : Value) (A : Around) (outer : List Env) (s : Shared) (H : Hp) (vs : List V) (Q : VK) (E : XK), Room k (A.deeper (envOfC qual (defScope st) s.heap.objs.size f cdv)) → sp vs H Q E →
      ∃ t, PSs (cxOf CX0 P w K mg base N qual (defScope st) f cdv A outer s H E).nox (defBody st) t ∧ t { nx := fun _ H' => Q .non H', rt := Q } (start N vs) H) : Mak P w K mg base (k + 1) x C sp dv :=
  ⟨f, fd, ps, ds, M, F.ok S len (fun cdv A outer s H vs Q E hr h => let ⟨t, p, q⟩ := hbody cdv A outer s H vs Q E hr h; ⟨t, p.nox, q⟩), hm, b, hd⟩
theorem len_pool : ∀ z ∈ pool, z.length ≤ 1000 := fun z h => of_decide_eq_true (List.all_eq_true.mp (by decide +kernel : pool.all (fun z => decide (z.length ≤ 1000)) = true) z h)
theorem sh_pool {l : List Str} (h : From pool l) (n : l.length ≤ 5) : Sh l := ⟨Nat.le_trans n (by decide), fun z hz => len_pool z (h z hz)⟩
theorem all_pool {l : List Str} (h : From pool l) : l.all nameB = true := List.all_eq_true.mpr fun z hz => pool_name z (h z hz)
def spFirst (c : Cs) (K : PySem.W.Frag) : Sp := fun vs H Q _ => ∃ (x dx : Addr) (p : Str), vs = [.ref x, .str p] ∧ H x = some (.ins c.first dx []) ∧ Ok (.first p) ∧ InitE c K x dx H (.first p) Q
theorem mk_first (Y : Ty K mg c) : Mak P w K mg base 2 "First" c.first (spFirst c K) [] := by
  obtain ⟨f, fd, hm, M, F⟩ := Y.i_first
  refine Ini.mak hm M F (F.bindsN (fun _ _ _ _ _ _ us hl => match us, hl with | [_, _], _ => rfl)) .nil sc_First_init (fun vs H Q E h => ?_) (fun cdv A outer s H vs Q E hr h => ?_)
  · obtain ⟨x, dx, p, rfl, hx, hp, k⟩ := h
    rfl
  · obtain ⟨x, dx, p, rfl, hx, hp, k⟩ := h
    have T := Y.x
    refine ⟨_, (pss_cons (ps_if (pt_not (pt_val (pe_c (c_is_name T) hr (by decide) (by rfl) (pa_cons (pv 1) pa_nil)))) (pss_one ps_never) pss_nil) (pss_one (ps_fo (ks := []) (pv 0) (pv 1) Y.k_first.cl (Y.k_first.na "place" (by decide +kernel)) (by decide +kernel) (by decide +kernel)))), ?_⟩
    refine ⟨_, rfl, p, rfl, len_pool p hp, fun H1 s1 => ⟨_, rfl, ?_⟩⟩
    rw [pool_name p hp]
    refine iteF ?_
    refine ⟨_, rfl, _, rfl, x, dx, [], rfl, s1 _ _ hx, rfl, ?_⟩
    exact k _ x x (But.same s1).upd upd_same (fun z => nomatch z) (fun z => nomatch z)
def spMode (c : Cs) (K : PySem.W.Frag) : Sp := fun vs H Q _ => ∃ (x dx a : Addr) (n : Str) (pr : Option Str) (ends : List Str), vs = [.ref x, .str n, optV pr, .ref a] ∧ H x = some (.ins c.mode dx []) ∧ Ok (.mode n pr ends) ∧ SqA K H a (sv ends) ∧ InitE c K x dx H (.mode n pr ends) Q
theorem word_pr : ∀ z ∈ w_PROMISES, w_PROMISES.contains z = true := fun z h => List.contains_iff_mem.mpr h
theorem mk_mode (Y : Ty K mg c) : Mak P w K mg base 4 "Mode" c.mode (spMode c K) [] := by
  obtain ⟨dvs, hl, f, fd, hm, M, F⟩ := Y.i_mode
  obtain ⟨ds, hv, hb⟩ := F.binds1 (ps := n_Mode_init.take 4) 4 2 (fun q => by rw [q] at hl; cases hl) (by rw [hl]; rfl) (fun T kV doc pm an cdv ct us its h1 h2 => by
    rw [hl] at h2
    exact match us, its, h1, h2 with | [_, _, _, _], [_, _], _, _ => ⟨_, rfl, rfl⟩)
  rw [List.drop_of_length_le (by rw [hl]; exact Nat.le_refl _)] at hv
  refine Ini.mak hm M F hb hv sc_Mode_init (fun vs H Q E h => ?_) (fun cdv A outer s H vs Q E hr h => ?_)
  · obtain ⟨x, dx, a, n, pr, ends, rfl, hx, ho, S, k⟩ := h
    rfl
  · obtain ⟨x, dx, a, n, pr, ends, rfl, hx, ho, S, k⟩ := h
    have T := Y.x
    obtain ⟨bP, mP, sP⟩ := T.k_PROMISES
    refine ⟨_, (pss_cons (ps_if (pt_not (pt_val (pe_c (c_is_name T) hr (by decide) (by rfl) (pa_cons (pv 1) pa_nil)))) (pss_one ps_never) pss_nil) (pss_cons (ps_if (PW.pt (pw_and (pt_cmpR op_notN (pv 2) pe_non (nomark _)) (pw_and1 (pt_not (pt_val (pe_c (c_is_word T) hr (by decide) (by rfl) (pa_cons (pv 2) (pa_cons (pe_gc (v := .ref bP) (by rfl) ⟨_, mP, rfl⟩) pa_nil)))))))) (pss_one ps_never) pss_nil) (pss_cons (ps_if (PW.pt (pw_or (pt_not (pt_val (pe_c (c_are_unlike_names T) hr (by decide) (by rfl) (pa_cons (pv 3) pa_nil)))) (pw_or1 (pt_cmpR op_ne (pe_cmpR op_gt (pe_callB call_len_seq (by rfl) T.m_len (by decide +kernel) (pa_cons (pv 3) pa_nil)) pe_int (nomark _)) (pe_cmpR op_notN (pv 2) pe_non (nomark _)) (nomark _))))) (pss_one ps_never) pss_nil) (pss_cons (ps_fo (ks := []) (pv 0) (pv 1) Y.k_mode.cl (Y.k_mode.na "name" (by decide +kernel)) (by decide +kernel) (by decide +kernel)) (pss_cons (ps_fo (ks := ["name"]) (pv 0) (pv 2) Y.k_mode.cl (Y.k_mode.na "promise" (by decide +kernel)) (by decide +kernel) (by decide +kernel)) (pss_one (ps_fo (ks := ["name", "promise"]) (pv 0) (pe_callTy call_tupA (by rfl) T.m_tuple (by decide +kernel) (pa_cons (pv 3) pa_nil)) Y.k_mode.cl (Y.k_mode.na "ends" (by decide +kernel)) (by decide +kernel) (by decide +kernel)))))))), ?_⟩
    have hn := ho.1
    refine ⟨_, rfl, n, rfl, len_pool n hn, fun H1 s1 => ⟨_, rfl, ?_⟩⟩
    rw [pool_name n hn]
    refine iteF ?_
    have fin : ∀ H2, Same H H2 → ends.length ≤ 5 → tSeq (sFo c.mode [] "name" (tVar 0) (tVar 1)) (tSeq (sFo c.mode ["name"] "promise" (tVar 0) (tVar 2)) (sFo c.mode ["name", "promise"] "ends" (tVar 0) (tCB (fun xs H Q => ∃ (a : Addr) (ys : List V), xs = [.ref a] ∧ SqA K H a ys ∧ ∀ t H', Same H H' → SqT K H' t ys → (H' t = some (.tup ys) ∨ H' = H) → Q (.ref t) H') (tCons (tVar 3) tNil)))) { nx := fun _ H' => Q .non H', rt := Q } (start n_Mode_init [.ref x, .str n, optV pr, .ref a]) H2 := by
      intro H2 s2 hl
      have S2 := samA s2 S
      have hx2 := s2 _ _ hx
      refine ⟨_, rfl, _, rfl, x, dx, [], rfl, hx2, rfl, ?_⟩
      have S3 : SqA K (upd H2 x (.ins c.mode dx (ob [("name" : Str)] [.str n]))) a (sv ends) := sqA_ins hx2 S2
      refine ⟨_, rfl, _, rfl, x, dx, [.str n], rfl, upd_same, rfl, ?_⟩
      refine ⟨_, rfl, a, _, rfl, sqA_ins upd_same S3, fun t H4 s4 st ht => ?_⟩
      have hx4 := s4 _ _ upd_same
      refine ⟨_, rfl, x, dx, [.str n, optV pr], rfl, hx4, rfl, ?_⟩
      refine k _ t t ?_ upd_same (fun _ => sqT_ins hx4 st) (fun z => nomatch z)
      exact ((But.same s2).upd.upd.trans (But.same s4)).upd
    rcases ho.2 with ⟨rfl, rfl⟩ | ⟨q, rfl, hq, hne, hl, hf, nd⟩
    · refine ⟨_, rfl, rfl, _, rfl, iteF ?_⟩
      refine iteF ?_
      refine ⟨_, rfl, a, [], rfl, samA s1 S, ⟨Nat.zero_le _, fun _ h => nomatch h⟩, rfl, List.nodup_nil, fun H2 s2 => ⟨true, rfl, iteF ?_⟩⟩
      refine ⟨_, rfl, a, [], rfl, samA (s1.trans s2) S, 0, 0, rfl, rfl, _, rfl, rfl, rfl, _, rfl, iteF ?_⟩
      exact fin H2 (s1.trans s2) (Nat.zero_le _)
    · refine ⟨_, rfl, rfl, _, rfl, iteT ?_⟩
      refine ⟨_, rfl, q, bP, _, rfl, .inr (sP _), fun H2 s2 => ⟨_, rfl, ?_⟩⟩
      rw [word_pr q hq]
      refine iteF ?_
      refine ⟨_, rfl, a, ends, rfl, samA (s1.trans s2) S, sh_pool hf hl, all_pool hf, nd, fun H3 s3 => ⟨true, rfl, iteF ?_⟩⟩
      have s13 := (s1.trans s2).trans s3
      have e1 : decide ((0 : Int) < ((sv ends).length : Int)) = true := decide_eq_true (by
        cases ends with
        | nil => exact (hne rfl).elim
        | cons _ _ => show (0 : Int) < ((List.length (_ :: _) : Nat) : Int); simp)
      have e2 : (!decide (V.bl (decide ((0 : Int) < ((sv ends).length : Int))) = V.bl (!decide (optV (some q) = V.non)))) = false := by rw [e1]; rfl
      exact ⟨_, rfl, a, _, rfl, samA s13 S, _, 0, rfl, rfl, _, rfl, rfl, rfl, false, congrArg V.bl e2, iteF (fin H3 s13 hl)⟩
theorem ptImp {X : Cx} {e : Expr} {t t' : TT} (h : PT X e t) (i : ∀ σ H Q, t' σ H Q → t σ H Q) : PT X e t' := ⟨fun pins s σ H Q I z => h.run pins s σ H Q I (i σ H Q z)⟩
theorem peImp {X : Cx} {e : Expr} {t t' : TE} (h : PE X e t) (i : ∀ σ H Q, t' σ H Q → t σ H Q) : PE X e t' := ⟨fun pins s σ H Q I z => h.run pins s σ H Q I (i σ H Q z)⟩
/-- not is_name(x) and not is_word(x, words), x a name or one of the words -/
def tNW (i : Nat) (ws : List Str) : TT := fun σ H Q => ∃ z : Str, σ[i]? = some (some (.str z)) ∧ z.length ≤ 1000 ∧ (nameB z = true ∨ ws.contains z = true) ∧ ∀ H', Same H H' → Q false H'
theorem tNW_tup {K : PySem.W.Frag} {i : Nat} {ws : List Str} (hl : ws.length ≤ 100) {t : TA} (ht : ∀ σ H (Q : List V → Hp → Prop), Q (sv ws) H → t σ H Q) {σ : Sg} {H : Hp} {Q : Bool → Hp → Prop} (h : tNW i ws σ H Q) :
    tAnd (tNot (tB (tCall spName [] E0 (tCons (tVar i) tNil)))) (tNot (tB (tCall (spWord K) [] E0 (tCons (tVar i) (tCons (tTup t) tNil))))) σ H Q := by
  obtain ⟨z, hz, hl2, hor, k⟩ := h
  refine ⟨_, hz, z, rfl, hl2, fun H1 s1 => ⟨_, rfl, ?_⟩⟩
  by_cases hn : nameB z = true
  · rw [hn]; exact iteF (k _ s1)
  · rw [Bool.eq_false_iff.mpr hn]
    have hw : ws.contains z = true := hor.resolve_left hn
    refine iteT ⟨_, hz, ht _ _ _ ⟨by show (ws.map V.str).length ≤ _; rw [List.length_map]; exact Nat.le_trans hl (by decide), fun p np => ⟨z, p, ws, rfl, tupA upd_same, fun H2 s2 => ⟨_, rfl, ?_⟩⟩⟩⟩
    rw [hw]
    exact k _ ((s1.trans (Sn np)).trans s2)
theorem tNW_glo {K : PySem.W.Frag} {i : Nat} {ws : List Str} {b : Addr} (sB : ∀ H, SqT K H b (sv ws)) {σ : Sg} {H : Hp} {Q : Bool → Hp → Prop} (h : tNW i ws σ H Q) :
    tAnd (tNot (tB (tCall spName [] E0 (tCons (tVar i) tNil)))) (tNot (tB (tCall (spWord K) [] E0 (tCons (tVar i) (tCons (tC (.ref b)) tNil))))) σ H Q := by
  obtain ⟨z, hz, hl2, hor, k⟩ := h
  refine ⟨_, hz, z, rfl, hl2, fun H1 s1 => ⟨_, rfl, ?_⟩⟩
  by_cases hn : nameB z = true
  · rw [hn]; exact iteF (k _ s1)
  · rw [Bool.eq_false_iff.mpr hn]
    have hw : ws.contains z = true := hor.resolve_left hn
    refine iteT ⟨_, hz, z, b, ws, rfl, .inr (sB _), fun H2 s2 => ⟨_, rfl, ?_⟩⟩
    rw [hw]
    exact k _ (s1.trans s2)
/-- tuple(..) of a list or a tuple: its reading -/
def tTupA (K : PySem.W.Frag) (i : Nat) : TE := fun σ H Q => ∃ (a : Addr) (ys : List V), σ[i]? = some (some (.ref a)) ∧ SqA K H a ys ∧ ∀ t H', Same H H' → SqT K H' t ys → Q (.ref t) H'
theorem tTupA_of {K : PySem.W.Frag} {i : Nat} {σ : Sg} {H : Hp} {Q : VK} (h : tTupA K i σ H Q) : tCB (fun xs H Q => ∃ (a : Addr) (ys : List V), xs = [.ref a] ∧ SqA K H a ys ∧ ∀ t H', Same H H' → SqT K H' t ys → (H' t = some (.tup ys) ∨ H' = H) → Q (.ref t) H') (tCons (tVar i) tNil) σ H Q := by
  obtain ⟨a, ys, e, S, k⟩ := h
  exact ⟨_, e, a, ys, rfl, S, fun t H' s st _ => k t H' s st⟩
theorem ev_contains : ∀ z ∈ w_PLAIN_EVENTS, w_PLAIN_EVENTS.contains z = true := fun z h => List.contains_iff_mem.mpr h
theorem len_ev : ∀ z ∈ w_PLAIN_EVENTS, z.length ≤ 1000 := fun z h => of_decide_eq_true (List.all_eq_true.mp (by decide +kernel : w_PLAIN_EVENTS.all (fun z => decide (z.length ≤ 1000)) = true) z h)
theorem nw_or {z v : Str} (h : z ∈ pool ∨ z = v) : nameB z = true ∨ ([v] : List Str).contains z = true := h.elim (fun h => .inl (pool_name z h)) fun e => .inr (by rw [e, List.contains_cons, beq_self_eq_true]; rfl)
theorem len_or {z v : Str} (h : z ∈ pool ∨ z = v) (hv : decide (v.length ≤ 1000) = true := by decide +kernel) : z.length ≤ 1000 := h.elim (len_pool z) fun e => e ▸ of_decide_eq_true hv
theorem len_test {z : Str} (h : z ∈ tests) : z.length ≤ 20 := by
  have q := tests_ok z h
  unfold testOk at q
  simp only [Bool.and_eq_true] at q
  exact of_decide_eq_true q.1.1.1.2
theorem is_testB {z : Str} (h : z ∈ tests) : testB z = true := by
  have q := tests_ok z h
  unfold testOk at q
  simp only [Bool.and_eq_true] at q
  exact q.1.1.1.1
theorem len_deed {z : Str} (h : z ∈ deeds) : z.length ≤ 20 := by
  have q := deeds_ok z h
  unfold deedOk at q
  simp only [Bool.and_eq_true] at q
  exact of_decide_eq_true q.1.1.2
theorem is_deedB {z : Str} (h : z ∈ deeds) : deedB z = true := by
  have q := deeds_ok z h
  unfold deedOk at q
  simp only [Bool.and_eq_true] at q
  exact q.1.1.1
def spTurn (c : Cs) (K : PySem.W.Frag) : Sp := fun vs H Q _ => ∃ (x dx a : Addr) (m w : Str) (ps : List Str) (t : Str), vs = [.ref x, .str m, .str w, .ref a, .str t] ∧ H x = some (.ins c.turn dx []) ∧ Ok (.turn m w ps t) ∧ SqA K H a (sv ps) ∧ InitE c K x dx H (.turn m w ps t) Q
theorem ways_ok : w_WAYS.contains "time" = true ∧ w_WAYS.contains "some" = true ∧ w_WAYS.contains "all" = true := by decide +kernel
theorem mk_turn (Y : Ty K mg c) : Mak P w K mg base 4 "Turn" c.turn (spTurn c K) [] := by
  obtain ⟨f, fd, hm, M, F⟩ := Y.i_turn
  refine Ini.mak hm M F (F.bindsN (fun _ _ _ _ _ _ us hl => match us, hl with | [_, _, _, _, _], _ => rfl)) .nil sc_Turn_init (fun vs H Q E h => ?_) (fun cdv A outer s H vs Q E hr h => ?_)
  · obtain ⟨x, dx, a, m, w, ps, t, rfl, hx, ho, S, k⟩ := h
    rfl
  · obtain ⟨x, dx, a, m, w, ps, t, rfl, hx, ho, S, k⟩ := h
    have T := Y.x
    obtain ⟨bW, mW, sW⟩ := T.k_WAYS
    refine ⟨_, (pss_cons (ps_if (pt_not (pt_val (pe_c (c_is_name T) hr (by decide) (by rfl) (pa_cons (pv 1) pa_nil)))) (pss_one ps_never) pss_nil) (pss_cons (ps_if (pt_not (pt_val (pe_c (c_is_word T) hr (by decide) (by rfl) (pa_cons (pv 2) (pa_cons (pe_gc (v := .ref bW) (by rfl) ⟨_, mW, rfl⟩) pa_nil))))) (pss_one ps_never) pss_nil) (pss_cons (ps_if (PW.pt (pw_or (pt_not (pt_val (pe_c (c_are_unlike_names T) hr (by decide) (by rfl) (pa_cons (pv 3) pa_nil)))) (pw_or1 (pt_cmpR op_ne (pe_cmpR op_gt (pe_callB call_len_seq (by rfl) T.m_len (by decide +kernel) (pa_cons (pv 3) pa_nil)) pe_int (nomark _)) (pe_cmpR op_ne (pv 2) pe_str (nomark _)) (nomark _))))) (pss_one ps_never) pss_nil) (pss_cons (ps_if (pt_not (pt_val (pe_c (c_is_name T) hr (by decide) (by rfl) (pa_cons (pv 4) pa_nil)))) (pss_one ps_never) pss_nil) (pss_cons (ps_fo (ks := []) (pv 0) (pv 1) Y.k_turn.cl (Y.k_turn.na "mode" (by decide +kernel)) (by decide +kernel) (by decide +kernel)) (pss_cons (ps_fo (ks := ["mode"]) (pv 0) (pv 2) Y.k_turn.cl (Y.k_turn.na "way" (by decide +kernel)) (by decide +kernel) (by decide +kernel)) (pss_cons (ps_fo (ks := ["mode", "way"]) (pv 0) (peImp (t' := tTupA _ 3) (pe_callTy call_tupA (by rfl) T.m_tuple (by decide +kernel) (pa_cons (pv 3) pa_nil)) fun _ _ _ z => tTupA_of z) Y.k_turn.cl (Y.k_turn.na "places" (by decide +kernel)) (by decide +kernel) (by decide +kernel)) (pss_one (ps_fo (ks := ["mode", "way", "places"]) (pv 0) (pv 4) Y.k_turn.cl (Y.k_turn.na "then" (by decide +kernel)) (by decide +kernel) (by decide +kernel)))))))))), ?_⟩
    obtain ⟨hm, ht, hw⟩ := ho
    have pf : From pool ps ∧ ps.length ≤ 5 ∧ ps.Nodup ∧ w_WAYS.contains w = true ∧ ((0 : Int) < ((sv ps).length : Int) ↔ ¬ w = "time") := by
      rcases hw with ⟨rfl, rfl⟩ | ⟨hw, hne, hl, hf, nd⟩
      · exact ⟨fun _ h => (nomatch h), Nat.zero_le _, List.nodup_nil, ways_ok.1, by simp [sv]⟩
      · refine ⟨hf, hl, nd, hw.elim (fun e => e ▸ ways_ok.2.1) (fun e => e ▸ ways_ok.2.2), ?_⟩
        have n1 : ¬ w = "time" := by
          rcases hw with rfl | rfl
          · decide +kernel
          · decide +kernel
        cases ps with
        | nil => exact (hne rfl).elim
        | cons _ _ => exact ⟨fun _ => n1, fun _ => by show (0 : Int) < ((List.length (_ :: _) : Nat) : Int); simp⟩
    obtain ⟨hf, hl, nd, hwc, hiff⟩ := pf
    refine ⟨_, rfl, m, rfl, len_pool m hm, fun H1 s1 => ⟨_, rfl, ?_⟩⟩
    rw [pool_name m hm]
    refine iteF ?_
    refine ⟨_, rfl, w, bW, _, rfl, .inr (sW _), fun H2 s2 => ⟨_, rfl, ?_⟩⟩
    rw [hwc]
    refine iteF ?_
    have s12 := s1.trans s2
    refine ⟨_, rfl, a, ps, rfl, samA s12 S, sh_pool hf hl, all_pool hf, nd, fun H3 s3 => ⟨true, rfl, iteF ?_⟩⟩
    have s13 := s12.trans s3
    have e2 : (!decide (V.bl (decide ((0 : Int) < ((sv ps).length : Int))) = V.bl (!decide (V.str w = V.str "time")))) = false := by
      have e : decide ((0 : Int) < ((sv ps).length : Int)) = !decide (V.str w = V.str "time") := by
        by_cases q : w = "time"
        · rw [decide_eq_false (fun z => (hiff.mp z) q), decide_eq_true (congrArg V.str q)]; rfl
        · rw [decide_eq_true (hiff.mpr q), decide_eq_false (fun z => q (V.str.inj z))]; rfl
      rw [e, decide_eq_true rfl]; rfl
    refine ⟨_, rfl, a, _, rfl, samA s13 S, _, 0, rfl, rfl, _, rfl, rfl, rfl, false, congrArg V.bl e2, iteF ?_⟩
    refine ⟨_, rfl, t, rfl, len_pool t ht, fun H4 s4 => ⟨_, rfl, ?_⟩⟩
    rw [pool_name t ht]
    refine iteF ?_
    have s14 := s13.trans s4
    have hx4 := s14 _ _ hx
    refine ⟨_, rfl, _, rfl, x, dx, [], rfl, hx4, rfl, ?_⟩
    refine ⟨_, rfl, _, rfl, x, dx, [.str m], rfl, upd_same, rfl, ?_⟩
    refine ⟨a, _, rfl, sqA_ins upd_same (sqA_ins hx4 (samA s14 S)), fun tt H5 s5 st => ?_⟩
    have hx5 := s5 _ _ upd_same
    refine ⟨_, rfl, x, dx, [.str m, .str w], rfl, hx5, rfl, ?_⟩
    refine ⟨_, rfl, _, rfl, x, dx, [.str m, .str w, .ref tt], rfl, upd_same, rfl, ?_⟩
    refine k _ tt tt ?_ upd_same (fun _ => sqT_ins upd_same (sqT_ins hx5 st)) (fun z => nomatch z)
    exact ((But.same s14).upd.upd.trans (But.same s5)).upd.upd
def spLead (c : Cs) (K : PySem.W.Frag) : Sp := fun vs H Q _ => ∃ (x dx a : Addr) (m p e t : Str) (ss : List Str), vs = [.ref x, .str m, .str p, .str e, .str t, .ref a] ∧ H x = some (.ins c.lead dx []) ∧ Ok (.lead m p e t ss) ∧ SqA K H a (sv ss) ∧ InitE c K x dx H (.lead m p e t ss) Q
theorem mk_lead (Y : Ty K mg c) : Mak P w K mg base 3 "Lead" c.lead (spLead c K) [] := by
  obtain ⟨eT, sE, f, fd, hm, M, F⟩ := Y.i_lead
  obtain ⟨ds, hv, hb⟩ := F.binds1 (ps := n_Lead_init.take 6) 6 1 (List.cons_ne_nil _ _) rfl (fun T kV doc pm an cdv ct us its h1 h2 =>
    match us, its, h1, h2 with | [_, _, _, _, _, _], [_], _, _ => ⟨_, rfl, rfl⟩)
  refine Ini.mak hm M F hb hv sc_Lead_init (fun vs H Q E h => ?_) (fun cdv A outer s H vs Q E hr h => ?_)
  · obtain ⟨x, dx, a, m, p, e, t, ss, rfl, hx, ho, S, k⟩ := h
    rfl
  · obtain ⟨x, dx, a, m, p, e, t, ss, rfl, hx, ho, S, k⟩ := h
    have T := Y.x
    refine ⟨_, (pss_cons (ps_if (ptImp (t' := tNW 1 ["any"]) (PW.pt (pw_and (pt_not (pt_val (pe_c (c_is_name T) hr (by decide) (by rfl) (pa_cons (pv 1) pa_nil)))) (pw_and1 (pt_not (pt_val (pe_c (c_is_word T) hr (by decide) (by rfl) (pa_cons (pv 1) (pa_cons (pe_tup (pa_cons pe_str pa_nil)) pa_nil)))))))) fun _ _ _ z => tNW_tup (by decide) (fun _ _ _ h => h) z) (pss_one ps_never) pss_nil) (pss_cons (ps_if (ptImp (t' := tNW 2 ["any"]) (PW.pt (pw_and (pt_not (pt_val (pe_c (c_is_name T) hr (by decide) (by rfl) (pa_cons (pv 2) pa_nil)))) (pw_and1 (pt_not (pt_val (pe_c (c_is_word T) hr (by decide) (by rfl) (pa_cons (pv 2) (pa_cons (pe_tup (pa_cons pe_str pa_nil)) pa_nil)))))))) fun _ _ _ z => tNW_tup (by decide) (fun _ _ _ h => h) z) (pss_one ps_never) pss_nil) (pss_cons (ps_if (ptImp (t' := tNW 3 ["time"]) (PW.pt (pw_and (pt_not (pt_val (pe_c (c_is_name T) hr (by decide) (by rfl) (pa_cons (pv 3) pa_nil)))) (pw_and1 (pt_not (pt_val (pe_c (c_is_word T) hr (by decide) (by rfl) (pa_cons (pv 3) (pa_cons (pe_tup (pa_cons pe_str pa_nil)) pa_nil)))))))) fun _ _ _ z => tNW_tup (by decide) (fun _ _ _ h => h) z) (pss_one ps_never) pss_nil) (pss_cons (ps_if (ptImp (t' := tNW 4 ["same"]) (PW.pt (pw_and (pt_not (pt_val (pe_c (c_is_name T) hr (by decide) (by rfl) (pa_cons (pv 4) pa_nil)))) (pw_and1 (pt_not (pt_val (pe_c (c_is_word T) hr (by decide) (by rfl) (pa_cons (pv 4) (pa_cons (pe_tup (pa_cons pe_str pa_nil)) pa_nil)))))))) fun _ _ _ z => tNW_tup (by decide) (fun _ _ _ h => h) z) (pss_one ps_never) pss_nil) (pss_cons (ps_if (pt_not (pt_val (pe_c (c_are_names T) hr (by decide) (by rfl) (pa_cons (pv 5) pa_nil)))) (pss_one ps_never) pss_nil) (pss_cons (ps_fo (ks := []) (pv 0) (pv 1) Y.k_lead.cl (Y.k_lead.na "mode" (by decide +kernel)) (by decide +kernel) (by decide +kernel)) (pss_cons (ps_fo (ks := ["mode"]) (pv 0) (pv 2) Y.k_lead.cl (Y.k_lead.na "place" (by decide +kernel)) (by decide +kernel) (by decide +kernel)) (pss_cons (ps_fo (ks := ["mode", "place"]) (pv 0) (pv 3) Y.k_lead.cl (Y.k_lead.na "event" (by decide +kernel)) (by decide +kernel) (by decide +kernel)) (pss_cons (ps_fo (ks := ["mode", "place", "event"]) (pv 0) (pv 4) Y.k_lead.cl (Y.k_lead.na "then" (by decide +kernel)) (by decide +kernel) (by decide +kernel)) (pss_one (ps_fo (ks := ["mode", "place", "event", "then"]) (pv 0) (peImp (t' := tTupA _ 5) (pe_callTy call_tupA (by rfl) T.m_tuple (by decide +kernel) (pa_cons (pv 5) pa_nil)) fun _ _ _ z => tTupA_of z) Y.k_lead.cl (Y.k_lead.na "sends" (by decide +kernel)) (by decide +kernel) (by decide +kernel)))))))))))), ?_⟩
    obtain ⟨hm, hp, he, ht, hl, hf⟩ := ho
    refine ⟨m, rfl, len_or hm, nw_or hm, fun H1 s1 => iteF ?_⟩
    refine ⟨p, rfl, len_or hp, nw_or hp, fun H2 s2 => iteF ?_⟩
    refine ⟨e, rfl, len_or he, nw_or he, fun H3 s3 => iteF ?_⟩
    refine ⟨t, rfl, len_or ht, nw_or ht, fun H4 s4 => iteF ?_⟩
    have s14 := ((s1.trans s2).trans s3).trans s4
    refine ⟨_, rfl, a, ss, rfl, samA s14 S, sh_pool hf hl, fun H5 s5 => ⟨_, rfl, ?_⟩⟩
    rw [all_pool hf]
    refine iteF ?_
    have s15 := s14.trans s5
    have hx5 := s15 _ _ hx
    refine ⟨_, rfl, _, rfl, x, dx, [], rfl, hx5, rfl, ?_⟩
    refine ⟨_, rfl, _, rfl, x, dx, [.str m], rfl, upd_same, rfl, ?_⟩
    refine ⟨_, rfl, _, rfl, x, dx, [.str m, .str p], rfl, upd_same, rfl, ?_⟩
    refine ⟨_, rfl, _, rfl, x, dx, [.str m, .str p, .str e], rfl, upd_same, rfl, ?_⟩
    refine ⟨a, _, rfl, sqA_ins upd_same (sqA_ins upd_same (sqA_ins upd_same (sqA_ins hx5 (samA s15 S)))), fun tt H6 s6 st => ?_⟩
    have hx6 := s6 _ _ upd_same
    refine ⟨_, rfl, x, dx, [.str m, .str p, .str e, .str t], rfl, hx6, rfl, ?_⟩
    refine k _ tt tt ?_ upd_same (fun _ => sqT_ins hx6 st) (fun z => nomatch z)
    exact ((But.same s15).upd.upd.upd.upd.trans (But.same s6)).upd
theorem mk_lead0 (Y : Ty K mg c) : ∃ eT, (∀ H, SqT K H eT []) ∧ Mak P w K mg base 3 "Lead" c.lead (spLead c K) [.ref eT] := by
  obtain ⟨eT, sE, f, fd, hm, M, F⟩ := Y.i_lead
  obtain ⟨ds, hv, hb⟩ := F.binds1 (ps := n_Lead_init.take 6) 5 0 (List.cons_ne_nil _ _) rfl (fun T kV doc pm an cdv ct us its h1 h2 =>
    match us, its, h1, h2 with | [_, _, _, _, _], [_], _, _ => ⟨_, rfl, rfl⟩)
  refine ⟨eT, sE, Ini.mak hm M F hb hv sc_Lead_init (fun vs H Q E h => ?_) (fun cdv A outer s H vs Q E hr h => ?_)⟩
  · obtain ⟨x, dx, a, m, p, e, t, ss, rfl, hx, ho, S, k⟩ := h
    rfl
  · obtain ⟨x, dx, a, m, p, e, t, ss, rfl, hx, ho, S, k⟩ := h
    have T := Y.x
    refine ⟨_, (pss_cons (ps_if (ptImp (t' := tNW 1 ["any"]) (PW.pt (pw_and (pt_not (pt_val (pe_c (c_is_name T) hr (by decide) (by rfl) (pa_cons (pv 1) pa_nil)))) (pw_and1 (pt_not (pt_val (pe_c (c_is_word T) hr (by decide) (by rfl) (pa_cons (pv 1) (pa_cons (pe_tup (pa_cons pe_str pa_nil)) pa_nil)))))))) fun _ _ _ z => tNW_tup (by decide) (fun _ _ _ h => h) z) (pss_one ps_never) pss_nil) (pss_cons (ps_if (ptImp (t' := tNW 2 ["any"]) (PW.pt (pw_and (pt_not (pt_val (pe_c (c_is_name T) hr (by decide) (by rfl) (pa_cons (pv 2) pa_nil)))) (pw_and1 (pt_not (pt_val (pe_c (c_is_word T) hr (by decide) (by rfl) (pa_cons (pv 2) (pa_cons (pe_tup (pa_cons pe_str pa_nil)) pa_nil)))))))) fun _ _ _ z => tNW_tup (by decide) (fun _ _ _ h => h) z) (pss_one ps_never) pss_nil) (pss_cons (ps_if (ptImp (t' := tNW 3 ["time"]) (PW.pt (pw_and (pt_not (pt_val (pe_c (c_is_name T) hr (by decide) (by rfl) (pa_cons (pv 3) pa_nil)))) (pw_and1 (pt_not (pt_val (pe_c (c_is_word T) hr (by decide) (by rfl) (pa_cons (pv 3) (pa_cons (pe_tup (pa_cons pe_str pa_nil)) pa_nil)))))))) fun _ _ _ z => tNW_tup (by decide) (fun _ _ _ h => h) z) (pss_one ps_never) pss_nil) (pss_cons (ps_if (ptImp (t' := tNW 4 ["same"]) (PW.pt (pw_and (pt_not (pt_val (pe_c (c_is_name T) hr (by decide) (by rfl) (pa_cons (pv 4) pa_nil)))) (pw_and1 (pt_not (pt_val (pe_c (c_is_word T) hr (by decide) (by rfl) (pa_cons (pv 4) (pa_cons (pe_tup (pa_cons pe_str pa_nil)) pa_nil)))))))) fun _ _ _ z => tNW_tup (by decide) (fun _ _ _ h => h) z) (pss_one ps_never) pss_nil) (pss_cons (ps_if (pt_not (pt_val (pe_c (c_are_names T) hr (by decide) (by rfl) (pa_cons (pv 5) pa_nil)))) (pss_one ps_never) pss_nil) (pss_cons (ps_fo (ks := []) (pv 0) (pv 1) Y.k_lead.cl (Y.k_lead.na "mode" (by decide +kernel)) (by decide +kernel) (by decide +kernel)) (pss_cons (ps_fo (ks := ["mode"]) (pv 0) (pv 2) Y.k_lead.cl (Y.k_lead.na "place" (by decide +kernel)) (by decide +kernel) (by decide +kernel)) (pss_cons (ps_fo (ks := ["mode", "place"]) (pv 0) (pv 3) Y.k_lead.cl (Y.k_lead.na "event" (by decide +kernel)) (by decide +kernel) (by decide +kernel)) (pss_cons (ps_fo (ks := ["mode", "place", "event"]) (pv 0) (pv 4) Y.k_lead.cl (Y.k_lead.na "then" (by decide +kernel)) (by decide +kernel) (by decide +kernel)) (pss_one (ps_fo (ks := ["mode", "place", "event", "then"]) (pv 0) (peImp (t' := tTupA _ 5) (pe_callTy call_tupA (by rfl) T.m_tuple (by decide +kernel) (pa_cons (pv 5) pa_nil)) fun _ _ _ z => tTupA_of z) Y.k_lead.cl (Y.k_lead.na "sends" (by decide +kernel)) (by decide +kernel) (by decide +kernel)))))))))))), ?_⟩
    obtain ⟨hm, hp, he, ht, hl, hf⟩ := ho
    refine ⟨m, rfl, len_or hm, nw_or hm, fun H1 s1 => iteF ?_⟩
    refine ⟨p, rfl, len_or hp, nw_or hp, fun H2 s2 => iteF ?_⟩
    refine ⟨e, rfl, len_or he, nw_or he, fun H3 s3 => iteF ?_⟩
    refine ⟨t, rfl, len_or ht, nw_or ht, fun H4 s4 => iteF ?_⟩
    have s14 := ((s1.trans s2).trans s3).trans s4
    refine ⟨_, rfl, a, ss, rfl, samA s14 S, sh_pool hf hl, fun H5 s5 => ⟨_, rfl, ?_⟩⟩
    rw [all_pool hf]
    refine iteF ?_
    have s15 := s14.trans s5
    have hx5 := s15 _ _ hx
    refine ⟨_, rfl, _, rfl, x, dx, [], rfl, hx5, rfl, ?_⟩
    refine ⟨_, rfl, _, rfl, x, dx, [.str m], rfl, upd_same, rfl, ?_⟩
    refine ⟨_, rfl, _, rfl, x, dx, [.str m, .str p], rfl, upd_same, rfl, ?_⟩
    refine ⟨_, rfl, _, rfl, x, dx, [.str m, .str p, .str e], rfl, upd_same, rfl, ?_⟩
    refine ⟨a, _, rfl, sqA_ins upd_same (sqA_ins upd_same (sqA_ins upd_same (sqA_ins hx5 (samA s15 S)))), fun tt H6 s6 st => ?_⟩
    have hx6 := s6 _ _ upd_same
    refine ⟨_, rfl, x, dx, [.str m, .str p, .str e, .str t], rfl, hx6, rfl, ?_⟩
    refine k _ tt tt ?_ upd_same (fun _ => sqT_ins hx6 st) (fun z => nomatch z)
    exact ((But.same s15).upd.upd.upd.upd.trans (But.same s6)).upd
def spHouse (c : Cs) (K : PySem.W.Frag) : Sp := fun vs H Q _ => ∃ (x dx a b : Addr) (e : Str) (ts ds : List Str), vs = [.ref x, .str e, .ref a, .ref b] ∧ H x = some (.ins c.house dx []) ∧ Ok (.house e ts ds) ∧ SqA K H a (sv ts) ∧ SqA K H b (sv ds) ∧ InitE c K x dx H (.house e ts ds) Q
theorem all_true {ws : List Str} {f : Str → Bool} (h : ∀ z ∈ ws, f z = true) : (ws.map f).all id = true := by
  rw [List.all_map]; exact List.all_eq_true.mpr h
theorem mk_house (Y : Ty K mg c) : Mak P w K mg base 4 "House" c.house (spHouse c K) [] := by
  obtain ⟨dvs, hl, f, fd, hm, M, F⟩ := Y.i_house
  obtain ⟨ds, hv, hb⟩ := F.binds1 (ps := n_House_init.take 4) 4 2 (fun q => by rw [q] at hl; cases hl) (by rw [hl]; rfl) (fun T kV doc pm an cdv ct us its h1 h2 => by
    rw [hl] at h2
    exact match us, its, h1, h2 with | [_, _, _, _], [_, _], _, _ => ⟨_, rfl, rfl⟩)
  rw [List.drop_of_length_le (by rw [hl]; exact Nat.le_refl _)] at hv
  refine Ini.mak hm M F hb hv sc_House_init (fun vs H Q E h => ?_) (fun cdv A outer s H vs Q E hr h => ?_)
  · obtain ⟨x, dx, a, b, e, ts, ds2, rfl, hx, ho, S, S2, k⟩ := h
    rfl
  · obtain ⟨x, dx, a, b, e, ts, ds2, rfl, hx, ho, S, S2, k⟩ := h
    have T := Y.x
    obtain ⟨bP, mP, sP⟩ := T.k_PLAIN_EVENTS
    refine ⟨_, (pss_cons (ps_if (ptImp (t' := tNW 1 w_PLAIN_EVENTS) (PW.pt (pw_and (pt_not (pt_val (pe_c (c_is_name T) hr (by decide) (by rfl) (pa_cons (pv 1) pa_nil)))) (pw_and1 (pt_not (pt_val (pe_c (c_is_word T) hr (by decide) (by rfl) (pa_cons (pv 1) (pa_cons (pe_gc (v := .ref bP) (by rfl) ⟨_, mP, rfl⟩) pa_nil)))))))) fun _ _ _ z => tNW_glo sP z) (pss_one ps_never) pss_nil) (pss_cons (ps_if (PW.pt (pw_or (pt_not (pt_val (pe_c (c_is_sequence T) hr (by decide) (by rfl) (pa_cons (pv 2) pa_nil)))) (pw_or1 (pt_not (pt_val (pe_callB (cr_all rfl) (by rfl) T.m_all (by decide +kernel) (pa_cons (pe_lx (own := [("test", 4)]) (g := gName 4) (tt := tYes) (by rfl) sc_House_init.nd (pi_seq (pv 2)) (blkOk_by (N := n_House_init) (sc := defScope s_House_init) (by decide +kernel)) (fun _ _ _ _ _ => pg_name (i := 4) sc_House_init.nd rfl (Or.inl rfl)) (fun _ _ _ _ _ => pts_nil) (fun _ _ _ _ _ => (pe_c (c_is_test T) hr (by decide) (by rfl) (pa_cons (pv 4) pa_nil)))) pa_nil))))))) (pss_one ps_never) pss_nil) (pss_cons (ps_if (PW.pt (pw_or (pt_not (pt_val (pe_c (c_is_sequence T) hr (by decide) (by rfl) (pa_cons (pv 3) pa_nil)))) (pw_or1 (pt_not (pt_val (pe_callB (cr_all rfl) (by rfl) T.m_all (by decide +kernel) (pa_cons (pe_lx (own := [("deed", 5)]) (g := gName 5) (tt := tYes) (by rfl) sc_House_init.nd (pi_seq (pv 3)) (blkOk_by (N := n_House_init) (sc := defScope s_House_init) (by decide +kernel)) (fun _ _ _ _ _ => pg_name (i := 5) sc_House_init.nd rfl (Or.inl rfl)) (fun _ _ _ _ _ => pts_nil) (fun _ _ _ _ _ => (pe_c (c_is_deed T) hr (by decide) (by rfl) (pa_cons (pv 5) pa_nil)))) pa_nil))))))) (pss_one ps_never) pss_nil) (pss_cons (ps_fo (ks := []) (pv 0) (pv 1) Y.k_house.cl (Y.k_house.na "event" (by decide +kernel)) (by decide +kernel) (by decide +kernel)) (pss_cons (ps_fo (ks := ["event"]) (pv 0) (peImp (t' := tTupA _ 2) (pe_callTy call_tupA (by rfl) T.m_tuple (by decide +kernel) (pa_cons (pv 2) pa_nil)) fun _ _ _ z => tTupA_of z) Y.k_house.cl (Y.k_house.na "tests" (by decide +kernel)) (by decide +kernel) (by decide +kernel)) (pss_one (ps_fo (ks := ["event", "tests"]) (pv 0) (peImp (t' := tTupA _ 3) (pe_callTy call_tupA (by rfl) T.m_tuple (by decide +kernel) (pa_cons (pv 3) pa_nil)) fun _ _ _ z => tTupA_of z) Y.k_house.cl (Y.k_house.na "deeds" (by decide +kernel)) (by decide +kernel) (by decide +kernel)))))))), ?_⟩
    obtain ⟨he, hl1, hf1, hl2, hf2⟩ := ho
    refine ⟨e, rfl, he.elim (len_pool e) (len_ev e), he.imp (pool_name e) (ev_contains e), fun H1 s1 => iteF ?_⟩
    refine ⟨_, rfl, a, _, rfl, samA s1 S, fun Ha sa => ⟨true, rfl, iteF ?_⟩⟩
    refine ⟨_, rfl, lc_fun (onS fun z => some (.bl (testB z))) (samA sa (samA s1 S)) (by rw [List.length_map]; exact small_lt (Nat.le_trans hl1 (by decide))) ?_ ?_⟩
    · intro D i x acc H2 nD hx2 s2 hD N M kN kM
      obtain ⟨z, hz, rfl⟩ := get_str hx2
      exact ⟨rfl, _, rfl, z, rfl, Nat.le_trans (len_test (hf1 z (memi hz))) (by decide), fun H3 s3 => kN _ _ s3 rfl⟩
    intro D H2 nD sb hD
    rw [fm_onS] at hD
    refine ⟨D, ts.map testB, rfl, SqL.of (by rw [List.map_map]; exact hD), ?_⟩
    refine ⟨_, rfl, ?_⟩
    rw [all_true fun z hz => is_testB (hf1 z hz)]
    refine iteF ?_
    have s2 := (s1.trans sa).trans sb
    clear hD nD sb sa
    refine ⟨_, rfl, b, _, rfl, samA s2 S2, fun Ha sa => ⟨true, rfl, iteF ?_⟩⟩
    refine ⟨_, rfl, lc_fun (onS fun z => some (.bl (deedB z))) (samA sa (samA s2 S2)) (by rw [List.length_map]; exact small_lt (Nat.le_trans hl2 (by decide))) ?_ ?_⟩
    · intro D i x acc H2 nD hx2 s2 hD N M kN kM
      obtain ⟨z, hz, rfl⟩ := get_str hx2
      exact ⟨rfl, _, rfl, z, rfl, Nat.le_trans (len_deed (hf2 z (memi hz))) (by decide), fun H3 s3 => kN _ _ s3 rfl⟩
    intro D H3 nD sb hD
    rw [fm_onS] at hD
    refine ⟨D, ds2.map deedB, rfl, SqL.of (by rw [List.map_map]; exact hD), ?_⟩
    refine ⟨_, rfl, ?_⟩
    rw [all_true fun z hz => is_deedB (hf2 z hz)]
    refine iteF ?_
    have s3 := (s2.trans sa).trans sb
    clear hD nD sb sa
    have hx3 := s3 _ _ hx
    refine ⟨_, rfl, _, rfl, x, dx, [], rfl, hx3, rfl, ?_⟩
    refine ⟨a, _, rfl, sqA_ins hx3 (samA s3 S), fun t1 H4 s4 st1 => ?_⟩
    have hx4 := s4 _ _ upd_same
    refine ⟨_, rfl, x, dx, [.str e], rfl, hx4, rfl, ?_⟩
    refine ⟨b, _, rfl, sqA_ins hx4 (samA s4 (sqA_ins hx3 (samA s3 S2))), fun t2 H5 s5 st2 => ?_⟩
    have hx5 := s5 _ _ upd_same
    refine ⟨_, rfl, x, dx, [.str e, .ref t1], rfl, hx5, rfl, ?_⟩
    refine k _ t1 t2 ?_ upd_same (fun _ => sqT_ins hx5 (samT s5 (sqT_ins hx4 st1))) (fun _ => sqT_ins hx5 st2)
    exact ((((But.same s3).upd.trans (But.same s4)).upd).trans (But.same s5)).upd
end
end SB

set_option maxHeartbeats 2000000
/-! str, len, != of the text's own instances; != of tuples and lists of such. -/
namespace SB
open PySem PySem.Spec PyProof.Rows L2

section
variable {X : Cx} {pins : List (Addr × Obj)} {σ : Sg} {H : Hp} {s : Shared}
/-- a def runs somewhere below the running body -/
theorem run_at {A : Around} {n : Nat} {f : Addr} {fd : FuncData} {ps : List Str} {sp : Sp} {Q : VK} {us : List Value} {vs : List V} {E : Value → Shared → Prop} (F : FnOk X.prog X.w X.K X.mg X.base CX0 n f fd ps sp) (hr : Room n A) (fr : A.frames = X.A.frames)
    (hb : Binds X.K fd ps []) (I : Inv X pins σ H s) (r : Vals vs us) (h : sp vs H Q E0) : wpAny (model X.prog X.w) A (call (.ref f) us) (EP X pins σ Q) E s := by
  have e0 : Env0 X.prog X.w X.K X.mg X.base A X.stack s H := by
    have e := I.env0
    exact { frames := by rw [fr]; exact e.frames, mod := e.mod, bs := e.bs, bsz := e.bsz, funs := e.funs, frf := e.frf, hok := e.hok, bare := e.bare }
  have hl : us.length = ps.length := r.length.symm.trans (F.len _ _ _ _ h)
  have hbt : BindsTo s fd ⟨us, []⟩ (ps.zip us) := by
    have z := hb s us I.kIn (by rw [List.append_nil]; exact hl)
    rw [List.append_nil] at z; exact z
  refine wpAny_call (codeAny_mono (F.run A X.stack s H ⟨us, []⟩ us vs Q E0 hr e0 hbt r h) ?_)
  rintro (e | fl) s' hq
  · exact hq.elim
  · match fl, hq with
    | .ret u, hq => exact I.after hq
/-- what an instance is to the library -/
theorem inst_of {a C dx : Addr} {fs : List (Str × V)} (I : Inv X pins σ H s) (e : H a = some (.ins C dx fs)) : ∃ ox od, PySem.W.InstAt s.heap a ox C (some od) := by
  obtain ⟨mA, O, _⟩ := ins_get I.hok e
  obtain ⟨od, J, _⟩ := O.look
  exact ⟨_, od, J⟩
/-- the special def `name` of the class at C -/
structure Spc (P : Program) (w : World) (K : PySem.W.Frag) (mg : Str → Option Value) (base : Heap) (n : Nat) (C : Addr) (name : Str) (sp : Sp) : Prop where
  ex : ∃ f fd ps, PySem.W.findIn K (.ref C) name = some (some (.ref f)) ∧ PySem.W.isFn K (.ref f) = true ∧ FnOk P w K mg base CX0 n f fd ps sp ∧ Binds K fd ps []
theorem call_strO {n : Nat} {C : Addr} {sp : Sp} (Z : Spc X.prog X.w X.K X.mg X.base n C "__str__" sp) (hr : Room (n + 2) X.A) :
    CallR X (.type "str") (fun xs H Q => ∃ a dx fs, xs = [.ref a] ∧ H a = some (.ins C dx fs) ∧ sp [.ref a] H (fun v H' => ∃ z, v = .str z ∧ Q v H') E0) := by
  obtain ⟨f, fd, ps, hs, hf, F, hb⟩ := Z
  rintro pins s σ H xs us Q I r ⟨a, dx, fs, rfl, ha, hsp⟩
  obtain ⟨u, rfl, rx⟩ := vals1 r
  cases rx
  obtain ⟨ox, od, J⟩ := inst_of I ha
  refine PySem.W.kso_call hr.in1.in1.units0 I.kIn J hs hf (thn (run_at F hr.in1.in1 rfl hb I (show Vals [V.ref a] [Value.ref a] from .cons rfl .nil) hsp) ?_)
  rintro v s' ⟨x, H', I', rv, z, rfl, q⟩
  obtain ⟨t, rfl⟩ := rv
  exact ⟨.str z, H', I', ⟨t, rfl⟩, q⟩
theorem call_lenO {n : Nat} {C : Addr} {sp : Sp} (Z : Spc X.prog X.w X.K X.mg X.base n C "__len__" sp) (hr : Room (n + 1) X.A) :
    CallR X (.builtin "len") (fun xs H Q => ∃ a dx fs, xs = [.ref a] ∧ H a = some (.ins C dx fs) ∧ sp [.ref a] H (fun v H' => ∃ i : Int, v = .int i ∧ 0 ≤ i ∧ i < 2 ^ 63 ∧ Q v H') E0) := by
  obtain ⟨f, fd, ps, hs, hf, F, hb⟩ := Z
  rintro pins s σ H xs us Q I r ⟨a, dx, fs, rfl, ha, hsp⟩
  obtain ⟨u, rfl, rx⟩ := vals1 r
  cases rx
  obtain ⟨ox, od, J⟩ := inst_of I ha
  obtain ⟨m, Fr⟩ := I.fr
  refine PySem.W.len_K Fr I.ok.mod.kin J hs hf (thn (run_at F hr.in1 rfl hb I (show Vals [V.ref a] [Value.ref a] from .cons rfl .nil) hsp) ?_)
  rintro v s' ⟨x, H', I', rv, i, rfl, h0, h1, q⟩
  obtain ⟨t, rfl⟩ := rv
  exact ⟨⟨h0, h1⟩, .int i, H', I'.tok _, ⟨s'.toks, rfl⟩, q⟩

/-! ### != of instances with the text's own == -/
/-- the class at C stands on object alone; its own ==, no own != -/
structure NeC (K : PySem.W.Frag) (C f : Addr) : Prop where
  ex : ∃ (nm q : Str) (N : Addr) (bs : List Value) (hd : Bool) (sn : List Str) (sub : List Value) (ab : Bool) (col : Option Bool) (dd : Option Addr) (k0 k1 k2 k3 k5 : Option Value) (ni : String),
    K.lookup C = some (excClassObj nm q C N bs [.type "object"] hd sn sub ab col dd k0 k1 k2 k3 k5 ni) ∧ PySem.W.nsOkIn K N = true ∧ PySem.W.nsIn K N "__eq__" = some (some (.ref f)) ∧ PySem.W.nsIn K N "__ne__" = some none
  fn : ∃ of : Obj, K.lookup f = some of ∧ of.cls = .type "function"
theorem ns_at {K : PySem.W.Frag} {h : Heap} {N : Addr} {m : Str → Option Value} {n : Str} {v : Value} (X : K.In h) (G : h.Ns N m) (e : PySem.W.nsIn K N n = some (some v)) : m n = some v := by
  obtain ⟨o, es, ep, ho, hd, _, hf⟩ := G
  unfold PySem.W.nsIn at e
  split at e
  next c d es2 n2 sl q =>
    have z := (X _ _ q).symm.trans ho
    cases z
    cases hd
    split at e
    next en he =>
      cases e
      refine (hf n).symm.trans ?_
      unfold nsFind findBy
      rw [← Array.find?_toList]
      rw [he]; rfl
    next => split at e <;> cases e
  next => cases e
theorem neC_at {K : PySem.W.Frag} {C f x : Addr} {h : Heap} {ox : Obj} {od : Option Obj} (c : NeC K C f) (X : K.In h) (J : PySem.W.InstAt h x ox C od) : h.OwnEqNoNe x C f "object" [.type "object"] := by
  obtain ⟨⟨nm, q, N, bs, hd, sn, sub, ab, col, dd, k0, k1, k2, k3, k5, ni, hC, hok, he, hn⟩, of, hf, hft⟩ := c
  refine ⟨ox, of, nm, q, N, bs, hd, sn, sub, ab, col, dd, k0, k1, k2, k3, k5, ni, _, _, J.at_, J.cls, X _ _ hC, .of_isNs (PySem.W.isNs_of_in X hok), ?_, X _ _ hf, hft, PySem.F.cmp_object.mro, PySem.F.cmp_object.eq.lookup, PySem.W.nsMap_none_of_in X hok hn⟩
  exact ns_at X (.of_isNs (PySem.W.isNs_of_in X hok)) he
theorem op_neO {n : Nat} {C f : Addr} {fd : FuncData} {ps : List Str} {sp : Sp} (c : NeC X.K C f) (F : FnOk X.prog X.w X.K X.mg X.base CX0 n f fd ps sp) (hb : Binds X.K fd ps []) (hr : Room (n + 1) X.A) :
    OpR X (compareOp .NotEq) (fun x y H Q => ∃ a b dx dy fs gs, x = .ref a ∧ y = .ref b ∧ H a = some (.ins C dx fs) ∧ H b = some (.ins C dy gs) ∧ sp [.ref a, .ref b] H (fun v H' => ∃ k, v = .bl k ∧ Q (.bl (!k)) H') E0) := by
  rintro pins s σ H x y v u Q I rx ry ⟨a, b, dx, dy, fs, gs, rfl, rfl, ha, hb2, hsp⟩
  cases rx
  cases ry
  obtain ⟨ox, od, J⟩ := inst_of I ha
  obtain ⟨oy, od2, J2⟩ := inst_of I hb2
  have hx := neC_at c I.kIn J
  obtain ⟨hp, g, d, t, os⟩ := s
  refine compareOp_ne_ownEq PySem.F.cmp_object hx J2.at_ J2.cls (by have := hr.un; omega) (thn (run_at F hr.in1 rfl hb I (show Vals [V.ref a, V.ref b] [Value.ref a, Value.ref b] from .cons rfl (.cons rfl .nil)) hsp) ?_)
  rintro w s' ⟨z, H', I', rz, k, rfl, q⟩
  cases rz
  exact ⟨k, rfl, .bl (!k), H', I', rfl, q⟩

/-! ### != of two tuples, two lists that hold the very same things -/
theorem same_at {A : Around} {s : Shared} {its its2 : List Value} {xs : List V} (h : ∀ x ∈ xs, ∃ a, x = V.ref a) (r : Vals xs its) (r2 : Vals xs its2) : ∀ j (h1 : j < its.toArray.size) (h2 : j < its2.toArray.size), SeqAt.EqAt A s its.toArray[j] its2.toArray[j] true := fun j h1 h2 => by
  have hj : j < xs.length := by rw [r.length]; simpa using h1
  obtain ⟨a, ea⟩ := h _ (List.getElem_mem hj)
  have g : xs[j]? = some (.ref a) := by rw [List.getElem?_eq_getElem hj, ea]
  obtain ⟨u, q1, r1⟩ := r.get g
  obtain ⟨u2, q2, rr2⟩ := r2.get g
  cases r1
  cases rr2
  have e1 : its.toArray[j] = Value.ref a := by simpa using (List.getElem?_eq_some_iff.mp q1).2
  have e2 : its2.toArray[j] = Value.ref a := by simpa using (List.getElem?_eq_some_iff.mp q2).2
  rw [e1, e2]
  exact SeqAt.EqAt.same _
theorem op_neSame (hu : X.A.units < cLine) : OpR X (compareOp .NotEq) (fun x y H Q => ∃ (a b : Addr) (xs : List V), x = .ref a ∧ y = .ref b ∧ ((SqT X.K H a xs ∧ SqT X.K H b xs) ∨ (SqL X.K H a xs ∧ SqL X.K H b xs)) ∧ (∀ x ∈ xs, ∃ p, x = V.ref p) ∧ Q (.bl false) H) := by
  rintro pins s σ H x y v u Q I rx ry ⟨a, b, xs, rfl, rfl, S, hrf, q⟩
  cases rx
  cases ry
  refine PySem.W.cmp_ofNotEq ?_
  rcases S with ⟨S, S2⟩ | ⟨S, S2⟩
  · obtain ⟨its, r, p, _⟩ := I.tuple S
    obtain ⟨its2, r2, p2, _⟩ := I.tuple S2
    have hl : its.toArray.size = its2.toArray.size := by simp only [List.size_toArray]; rw [← r.length, ← r2.length]
    refine SeqAt.RcNeAt.tuples (e := fun _ => true) p p2 hu (same_at hrf r r2) X.prog X.w X.xe _ ?_
    have e : (!((List.range (min its.toArray.size its2.toArray.size)).all (fun _ => true) && its.toArray.size == its2.toArray.size)) = false := by rw [hl]; simp
    rw [e]
    exact ⟨.bl false, H, I, rfl, q⟩
  · obtain ⟨its, r, p, _⟩ := I.list S
    obtain ⟨its2, r2, p2, _⟩ := I.list S2
    have hl : its.toArray.size = its2.toArray.size := by simp only [List.size_toArray]; rw [← r.length, ← r2.length]
    refine SeqAt.RcNeAt.lists (e := fun _ => true) p.isList p2.isList hl hu (same_at hrf r r2) X.prog X.w X.xe _ ?_
    have e : (!(List.range its.toArray.size).all (fun _ => true)) = false := by simp
    rw [e]
    exact ⟨.bl false, H, I, rfl, q⟩
/-- xs != [] -/
theorem op_neNil (hu : X.A.units < cLine) : OpR X (compareOp .NotEq) (fun x y H Q => ∃ (a b : Addr) (xs : List V), x = .ref a ∧ y = .ref b ∧ SqL X.K H a xs ∧ H b = some (.lst []) ∧ Q (.bl (!xs.isEmpty)) H) := by
  rintro pins s σ H x y v u Q I rx ry ⟨a, b, xs, rfl, rfl, S, S2, q⟩
  cases rx
  cases ry
  refine PySem.W.cmp_ofNotEq ?_
  obtain ⟨its, r, p, _⟩ := I.list S
  obtain ⟨its2, r2, p2, _⟩ := I.list (SqL.of (K := X.K) S2)
  cases r2
  cases xs with
  | nil =>
    cases r
    exact SeqAt.RcNeAt.lists (e := fun _ => true) p.isList p2.isList rfl hu (fun j h1 _ => absurd h1 (Nat.not_lt_zero _)) X.prog X.w X.xe _ ⟨.bl false, H, I, rfl, q⟩
  | cons x xs =>
    have hl : (its.toArray.size != ([] : List Value).toArray.size) = true := by simp only [List.size_toArray]; rw [← r.length]; rfl
    exact SeqAt.RcNeAt.lists_lengths p.isList p2.isList hl hu X.prog X.w X.xe _ ⟨.bl true, H, I, rfl, q⟩
end
/-! ### != of two tuples whose items are equal by the text's own == -/
section
open MeetsSeq MeetsSeq2 MeetsSeq3 SeqRoads2
variable {prog : Program} {w : World} {A : Around} {R : Result → Shared → Prop}
theorem tup_ne (l b : Addr) (its its2 : Array Value) (n n2 : Nat) (dd dd2 : Option Addr) (sl sl2 : Array (Option Value)) (hsz : its.size = its2.size) (I : Nat → Shared → Prop)
    (turn : ∀ i (h1 : i < its.size) (h2 : i < its2.size) s, I i s → wpAny (model prog w) A.in1 (eqBool its[i] its2[i]) (fun r s' => r = true ∧ I (i + 1) s') (fun e s' => R (.error e) s') s)
    (fin : ∀ s, I its.size s → R (.ok (.ret (.bool false))) s) {s : Shared} (hl1 : s.heap.get? l = some { cls := .type "tuple", dict := dd, data := .seq its n, slots := sl }) (hb1 : s.heap.get? b = some { cls := .type "tuple", dict := dd2, data := .seq its2 n2, slots := sl2 }) (h : I 0 s) :
    wpAny (model prog w) A.in1 (Builtin.«tuple.__ne__» ⟨[.ref l, .ref b], []⟩) (GQ.FinOf prog w A R) (fun e s' => R (.error e) s') s := by
  have f2 := AutoSeq1.sub_tuple_tuple
  have hz : (its.toList.zip its2.toList).length = its.size := by simp [hsz]
  have h0 := h
  obtain ⟨hp, g, d, tk, os⟩ := s
  wp_walk using AutoSeq1.wpAny_loadPart' hl1, AutoSeq1.wpAny_loadPart' hb1, wpAny_forIn_list _ (fun rest b s' => b.1 = none ∧ ∃ i, rest = (its.toList.zip its2.toList).drop i ∧ i ≤ its.size ∧ I i s') _
  case turn =>
    rintro ⟨y, x⟩ rest b s' ⟨hb', i, ez, hi, hI⟩
    have hlt : i < (its.toList.zip its2.toList).length := by
      refine Nat.lt_of_not_le fun q => ?_
      rw [List.drop_of_length_le q] at ez
      cases ez
    have h1 : i < its.size := hz ▸ hlt
    have h2 : i < its2.size := hsz ▸ h1
    rw [List.drop_eq_getElem_cons hlt] at ez
    injection ez with e1 e2
    have hy : y = its[i] := by simpa using congrArg Prod.fst e1
    have hx : x = its2[i] := by simpa using congrArg Prod.snd e1
    subst hy hx
    refine wpAny_bind (wpAny_mono (turn i h1 h2 s' hI) (fun r s2 q => ?_) fun _ _ x => x)
    rcases q with ⟨rfl, q⟩
    wp_walk
    exact ⟨rfl, i + 1, e2, h1, q⟩
  case fin =>
    rintro ⟨b1, b2⟩ s' ⟨hb', i, ez, hi, hI⟩
    have hb2 : b1 = none := hb'
    subst hb2
    have hge : its.size ≤ i := by
      refine Nat.le_of_not_lt fun q => ?_
      have q' : i < (its.toList.zip its2.toList).length := hz ▸ q
      rw [List.drop_eq_getElem_cons q'] at ez
      cases ez
    have ei : i = its.size := Nat.le_antisymm hi hge
    have hR : R (.ok (.ret (.bool false))) s' := fin s' (ei ▸ hI)
    wp_walk
    simpa [Builtin.Tuple.tupleCompareSizes, hsz] using hR
  case h => exact ⟨rfl, 0, rfl, Nat.zero_le _, h0⟩
end
section
variable {X : Cx} {n : Nat} {D : Eqv}
theorem op_neG (hD : Mon D) (h : EqG X n D) (hr : Room (n + 1) X.A) :
    OpR X (compareOp .NotEq) (fun x y H Q => ∃ a b xs ys, x = .ref a ∧ y = .ref b ∧ SqT X.K H a xs ∧ SqT X.K H b ys ∧ Prs D xs ys H ∧ ∀ H', Same H H' → Q (.bl false) H') := by
  rintro pins s σ H x y v u Q I rx ry ⟨a, b, xs, ys, rfl, rfl, S, S2, p, k⟩
  cases rx
  cases ry
  refine PySem.W.cmp_ofNotEq ?_
  obtain ⟨its, r, p1, _⟩ := I.tuple S
  obtain ⟨its2, r2, p2, _⟩ := I.tuple S2
  have hl : its.toArray.size = its2.toArray.size := by simp only [List.size_toArray]; rw [← r.length, ← r2.length]; exact p.1
  obtain ⟨⟨cls, dd, data, sl⟩, ho, hc, n1, hd⟩ := p1
  obtain ⟨⟨cls2, dd2, data2, sl2⟩, ho2, hc2, n2, hd2⟩ := p2
  simp only at hc hd hc2 hd2
  subst hc hd hc2 hd2
  refine wpAny_richCompare_same_room (op := .NotEq) ⟨_, ho, rfl⟩ ⟨_, ho2, rfl⟩ PySem.F.slot_tuple_ne (GQ.call_here PySem.F.slot_tuple_ne ⟨_, ho, rfl⟩ PySem.F.entry_tuple_ne (PySem.F.args_tuple_ne_2 _ _) ?_) hr.units0
  refine tup_ne (R := wants (fun v s' => v ≠ .notImplemented ∧ EP X pins σ Q v s') X.xe) a b its.toArray its2.toArray n1 n2 dd dd2 sl sl2 hl (fun _ s' => LoopI X pins σ H s') (fun i h1 h2 s' q => ?_) (fun s' q => ?_) ho ho2 ⟨H, I, Ext.rfl'⟩
  · exact turnG hD h ⟨hr, rfl⟩ p r r2 i h1 h2 s' q
  · obtain ⟨H', I', ex⟩ := q
    exact ⟨(fun x => nomatch x), .bl false, H', I', rfl, k H' ex⟩
end
end SB

set_option maxHeartbeats 2000000
namespace SB
open PySem PySem.Spec PyProof.Rows L2
open C8 (Cal Mak Met pe_c pe_mk pe_mt pe_mt0 pe_gc InsC call_isC)

/-! ### == and != of lists or tuples of texts -/
theorem dpS {K : PySem.W.Frag} {H : Hp} : ∀ ws : List Str, DpAll K H (sv ws) (ws.map PyData.str)
  | [] => .nil
  | w :: ws => .cons (.str w) (dpS ws)
def Cp (ws : List Str) : Prop := ∀ z ∈ ws, PyData.strOk z = true
theorem layS : ∀ ws : List Str, Cp ws → PyData.canLayAll0 (ws.map PyData.str) = true
  | [], _ => by simp [PyData.canLayAll0]
  | w :: ws, h => by simp [PyData.canLayAll0, PyData.canLay0, h w List.mem_cons_self, layS ws fun z hz => h z (List.mem_cons_of_mem _ hz)]
theorem depS : ∀ ws : List Str, PyData.depthAll (ws.map PyData.str) = 0
  | [] => by simp [PyData.depthAll]
  | w :: ws => by simp [PyData.depthAll, PyData.depth, depS ws]
theorem shT {ws : List Str} (h : Cp ws) : SeqAt.shaped (.tuple (ws.map PyData.str)) = true := by
  simp [SeqAt.shaped, PyData.canLay0, PyData.depth, layS _ h, depS]
theorem shL {ws : List Str} (h : Cp ws) : SeqAt.shaped (.list (ws.map PyData.str)) = true := by
  simp [SeqAt.shaped, PyData.canLay0, PyData.depth, layS _ h, depS]
theorem eqvS (ws us : List Str) : PyData.eqvAll (ws.map PyData.str) (us.map PyData.str) = decide (ws = us) := PySem.W.eqvAll_map (α := Str) ws us
def rSS (K : PySem.W.Frag) (neg : Bool) : R2 := fun x y H Q => ∃ (a b : Addr) (ws us : List Str), x = .ref a ∧ y = .ref b ∧ ((SqT K H a (sv ws) ∧ SqT K H b (sv us)) ∨ (SqL K H a (sv ws) ∧ SqL K H b (sv us))) ∧ Cp ws ∧ Cp us ∧ Q (.bl (if neg then !decide (ws = us) else decide (ws = us))) H
theorem op_eqSS {X : Cx} (hu : X.A.units + 64 < cLine) : OpR X (compareOp .Eq) (rSS X.K false) := opImp (op_eqD hu) fun x y H Q ⟨a, b, ws, us, ex, ey, S, c1, c2, q⟩ => by
  subst ex ey
  have q' : Q (.bl (decide (ws = us))) H := q
  rcases S with ⟨S, S2⟩ | ⟨S, S2⟩
  · refine ⟨_, _, .tup S (dpS ws), .tup S2 (dpS us), shT c1, shT c2, ?_⟩
    rw [PyData.eqv, eqvS]; exact q'
  · refine ⟨_, _, .lst S (dpS ws), .lst S2 (dpS us), shL c1, shL c2, ?_⟩
    rw [PyData.eqv, eqvS]; exact q'
theorem op_neSS {X : Cx} (hu : X.A.units + 64 < cLine) : OpR X (compareOp .NotEq) (rSS X.K true) := opImp (op_neD hu) fun x y H Q ⟨a, b, ws, us, ex, ey, S, c1, c2, q⟩ => by
  subst ex ey
  have q' : Q (.bl (!decide (ws = us))) H := q
  rcases S with ⟨S, S2⟩ | ⟨S, S2⟩
  · refine ⟨_, _, .tup S (dpS ws), .tup S2 (dpS us), shT c1, shT c2, ?_⟩
    rw [PyData.eqv, eqvS]; exact q'
  · refine ⟨_, _, .lst S (dpS ws), .lst S2 (dpS us), shL c1, shL c2, ?_⟩
    rw [PyData.eqv, eqvS]; exact q'

theorem cp_nil : Cp [] := fun _ h => nomatch h
theorem cp_atoms : Cp atoms := List.all_eq_true.mp (by decide +kernel)
theorem cp_tests : Cp tests := List.all_eq_true.mp (by decide +kernel)
theorem cp_deeds : Cp deeds := List.all_eq_true.mp (by decide +kernel)
theorem cp_pool {l : List Str} (h : From pool l) : Cp l := fun z hz => cp_atoms z (pool_atom (h z hz))
theorem cp_tst {l : List Str} (h : From tests l) : Cp l := fun z hz => cp_tests z (h z hz)
theorem cp_ded {l : List Str} (h : From deeds l) : Cp l := fun z hz => cp_deeds z (h z hz)
/-! ### special defs -/
def Sps (K : PySem.W.Frag) (C : Addr) (name qual : Str) (st : Stmt) : Prop := ∃ f fd, PySem.W.findIn K (.ref C) name = some (some (.ref f)) ∧ PySem.W.isFn K (.ref f) = true ∧ Fun K name qual st f fd
structure Sx (K : PySem.W.Frag) (mg : Str → Option Value) (c : Cs) : Prop where
  y : Ty K mg c
  s_first : Sps K c.first "__str__" "First.__str__" s_First_str
  s_mode : Sps K c.mode "__str__" "Mode.__str__" s_Mode_str
  s_turn : Sps K c.turn "__str__" "Turn.__str__" s_Turn_str
  s_lead : Sps K c.lead "__str__" "Lead.__str__" s_Lead_str
  s_house : Sps K c.house "__str__" "House.__str__" s_House_str
  row_eq : ∃ f fd, PySem.W.isFn K (.ref f) = true ∧ Fun K "__eq__" "Row.__eq__" s_Row_eq f fd ∧ ∀ r, PySem.W.findIn K (.ref (rcls c r)) "__eq__" = some (some (.ref f))
section
variable {P : Program} {w : World} {K : PySem.W.Frag} {mg : Str → Option Value} {base : Heap}
variable {c : Cs}
theorem Sps.spc {C : Addr} {name qual : Str} {st : Stmt} {N ps : List Str} {k : Nat} {sp : Sp} (G : Sps K C name qual st) (S : FnScope N ps (defScope st)) (len : ∀ vs H Q E, sp vs H Q E → vs.length = ps.length)
    (hbody : ∀ (f : Addr) (cdv : Value) (A : Around) (outer : List Env) (s : Shared) (H : Hp) (vs : List V) (Q : VK) (E : XK), Room k (A.deeper (envOfC qual (defScope st) s.heap.objs.size f cdv)) → sp vs H Q E →
      ∃ t, PSs (cxOf CX0 P w K mg base N qual (defScope st) f cdv A outer s H E).nox (defBody st) t ∧ t { nx := fun _ H' => Q .non H', rt := Q } (start N vs) H)
    (b : ∀ (kV doc pm : Value) (an : Option Addr) (cdv ct : Value) (us : List Value), us.length = ps.length → bindArgs (PySem.W.fnOf name qual (defArgs st) (defBody st) (defScope st) .none kV doc pm an cdv ct) ⟨us, []⟩ = pure (ps.zip us)) : Spc P w K mg base (k + 1) C name sp := by
  obtain ⟨f, fd, h1, h2, F⟩ := G
  exact ⟨⟨f, fd, ps, h1, h2, F.ok S len (fun cdv A outer s H vs Q E => hbody f cdv A outer s H vs Q E), F.binds b⟩⟩
theorem joinOk {ys : List Str} {a : Str} (hl : ys.length ≤ 20) (h : ∀ z ∈ ys, z.length ≤ 1000) (ha : a.length ≤ 10) : (ys.map (·.length)).sum + ys.length * a.length ≤ 16777216 := by
  have h1 := sum_le h
  have h2 : ys.length * a.length ≤ 20 * 10 := Nat.mul_le_mul hl ha
  have h3 : ys.length * 1000 ≤ 20 * 1000 := Nat.mul_le_mul_right _ hl
  omega
/-- what a row's __str__ promises, of rows of one kind -/
def spStr (c : Cs) (K : PySem.W.Frag) (S : RD → Prop) : Sp := fun vs H Q _ => ∃ v r, vs = [v] ∧ S r ∧ RowAt c K H v r ∧ Ok r ∧ ∀ H', Same H H' → Q (.str (text r)) H'
def isF (r : RD) : Prop := ∃ p, r = .first p
def isM (r : RD) : Prop := ∃ n pr es, r = .mode n pr es
def isT (r : RD) : Prop := ∃ m w ps t, r = .turn m w ps t
def isL (r : RD) : Prop := ∃ m p e t ss, r = .lead m p e t ss
def isH (r : RD) : Prop := ∃ e ts ds, r = .house e ts ds
/-- a list of texts is joined -/
theorem join_use {H : Hp} {p : Addr} {xs : List V} {ys : List Str} {a : Str} {Q : VK} (n : H p = none) (e : xs = sv ys) (hl : ys.length ≤ 20) (hz : ∀ z ∈ ys, z.length ≤ 1000) (ha : a.length ≤ 10) (q : Q (.str (Txt.join a ys)) (upd H p (.lst xs))) :
    ∃ (b : Str) (p' : Addr) (ys : List Str), (V.str a) = .str b ∧ [V.ref p] = [.ref p'] ∧ (SqL K (upd H p (.lst xs)) p' (ys.map V.str) ∨ SqT K (upd H p (.lst xs)) p' (ys.map V.str)) ∧ (ys.map (·.length)).sum + ys.length * b.length ≤ 16777216 ∧ Q (.str (Txt.join b ys)) (upd H p (.lst xs)) := by
  subst e
  exact ⟨a, p, ys, rfl, rfl, .inl (SqL.of upd_same), joinOk hl hz ha, q⟩
theorem len_atom {w : Str} (h : w ∈ atoms) : w.length ≤ 10 := by
  have z := atoms_ok w h
  unfold atomB at z
  rw [Bool.and_eq_true, Bool.and_eq_true] at z
  exact of_decide_eq_true z.1.2
theorem len_joined {w : Str} {l : List Str} (hl : l.length ≤ 5) (h : ∀ z ∈ l, z.length ≤ 20) (hs : (sepOf w).length ≤ 10) : (Txt.join (sepOf w) l).length ≤ 1000 := by
  have h1 := join_len (sepOf w) l
  have h2 := sum_le h
  have h3 : l.length * 20 ≤ 5 * 20 := Nat.mul_le_mul_right _ hl
  have h4 : l.length * (sepOf w).length ≤ 5 * 10 := Nat.mul_le_mul hl hs
  omega
theorem len_parts {r : RD} (h : Ok r) : (parts r).length ≤ 20 ∧ ∀ z ∈ parts r, z.length ≤ 1000 := by
  have A : ∀ {w : Str}, w ∈ atoms → w.length ≤ 1000 := fun h => Nat.le_trans (len_atom h) (by decide)
  have E : ∀ z, z ∈ ([] : List Str) → z.length ≤ 1000 := fun z h => nomatch h
  have C : ∀ {w : Str} {l : List Str}, w.length ≤ 1000 → (∀ z ∈ l, z.length ≤ 1000) → ∀ z ∈ w :: l, z.length ≤ 1000 := fun h1 h2 z hz => by
    rcases List.mem_cons.mp hz with rfl | hz
    · exact h1
    · exact h2 z hz
  have J : ∀ {l m : List Str}, (∀ z ∈ l, z.length ≤ 1000) → (∀ z ∈ m, z.length ≤ 1000) → ∀ z ∈ l ++ m, z.length ≤ 1000 := fun h1 h2 z hz => (List.mem_append.mp hz).elim (h1 z) (h2 z)
  cases r with
  | first p => exact ⟨by show (2 : Nat) ≤ 20; decide, C (A inAtoms) (C (len_pool p h) E)⟩
  | mode n pr es =>
    obtain ⟨hn, h⟩ := h
    rcases h with ⟨rfl, rfl⟩ | ⟨q, rfl, hq, hne, hl, hf, nd⟩
    · exact ⟨by show (2 : Nat) ≤ 20; decide, C (A inAtoms) (C (len_pool n hn) E)⟩
    · refine ⟨by show (_ :: _ :: _ :: es).length ≤ 20; simp; omega, C (A inAtoms) (C (len_pool n hn) (C (A (pr_atoms _ hq)) fun z hz => len_pool z (hf z hz)))⟩
  | turn m w ps t =>
    obtain ⟨hm, ht, hw⟩ := h
    have hw1 : w ∈ atoms := by
      rcases hw with ⟨rfl, _⟩ | ⟨rfl | rfl, _⟩
      · exact inAtoms
      · exact inAtoms
      · exact inAtoms
    have hp : ps.length ≤ 5 ∧ From pool ps := by
      rcases hw with ⟨_, rfl⟩ | ⟨_, _, h1, h2, _⟩
      · exact ⟨by decide, fun _ h => nomatch h⟩
      · exact ⟨h1, h2⟩
    refine ⟨by show (_ :: _ :: _ :: (ps ++ [_, _])).length ≤ 20; simp; omega, C (A inAtoms) (C (len_pool m hm) (C (A hw1) (J (fun z hz => len_pool z (hp.2 z hz)) (C (A inAtoms) (C (len_pool t ht) E)))))⟩
  | lead m p e t ss =>
    obtain ⟨hm, hp, he, ht, hl, hf⟩ := h
    have h5 : ∀ z ∈ ss, z.length ≤ 20 := fun z hz => Nat.le_trans (len_atom (pool_atom (hf z hz))) (by decide)
    refine ⟨?_, C (A inAtoms) (C (A (atom_or hm)) (C (A (atom_or hp)) (C (A (atom_or he)) (C (A inAtoms) (C (A (atom_or ht)) ?_)))))⟩
    · show (_ :: _ :: _ :: _ :: _ :: _ :: (if ss = [] then _ else _)).length ≤ 20
      by_cases q : ss = []
      · rw [if_pos q]; show (6 : Nat) ≤ 20; decide
      · rw [if_neg q]; show (8 : Nat) ≤ 20; decide
    · by_cases q : ss = []
      · rw [if_pos q]; exact E
      · rw [if_neg q]; exact C (A inAtoms) (C (len_joined hl h5 (by decide +kernel)) E)
  | house e ts ds =>
    obtain ⟨he, hl1, hf1, hl2, hf2⟩ := h
    refine ⟨?_, C (A inAtoms) (C (A (he.elim pool_atom (ev_atoms _))) (J ?_ ?_))⟩
    · show (_ :: _ :: ((if ts = [] then _ else _) ++ (if ds = [] then _ else _))).length ≤ 20
      by_cases q : ts = []
      · rw [if_pos q]
        by_cases q2 : ds = []
        · rw [if_pos q2]; show (2 : Nat) ≤ 20; decide
        · rw [if_neg q2]; show (4 : Nat) ≤ 20; decide
      · rw [if_neg q]
        by_cases q2 : ds = []
        · rw [if_pos q2]; show (4 : Nat) ≤ 20; decide
        · rw [if_neg q2]; show (6 : Nat) ≤ 20; decide
    · by_cases q : ts = []
      · rw [if_pos q]; exact E
      · rw [if_neg q]; exact C (A inAtoms) (C (len_joined hl1 (fun z hz => len_test (hf1 z hz)) (by decide +kernel)) E)
    · by_cases q : ds = []
      · rw [if_pos q]; exact E
      · rw [if_neg q]; exact C (A inAtoms) (C (len_joined hl2 (fun z hz => len_deed (hf2 z hz)) (by decide +kernel)) E)
/-- the row's parts are joined -/
theorem row_use {H2 : Hp} {xs : List V} {r : RD} {Q : VK} (ho : Ok r) (e : xs = sv (parts r)) (k : ∀ H', Same H2 H' → Q (.str (text r)) H') : xs.length ≤ sizeLine ∧ ∀ p, H2 p = none →
    ∃ (b : Str) (p' : Addr) (ys : List Str), (V.str " ") = .str b ∧ [V.ref p] = [.ref p'] ∧ (SqL K (upd H2 p (.lst xs)) p' (ys.map V.str) ∨ SqT K (upd H2 p (.lst xs)) p' (ys.map V.str)) ∧ (ys.map (·.length)).sum + ys.length * b.length ≤ 16777216 ∧ Q (.str (Txt.join b ys)) (upd H2 p (.lst xs)) := by
  obtain ⟨l1, l2⟩ := len_parts ho
  refine ⟨?_, fun p np => join_use np e l1 l2 (by decide +kernel) (k _ (Sn np))⟩
  subst e
  rw [List.length_map]; exact Nat.le_trans l1 (by decide)
theorem z_first (Z : Sx K mg c) : Spc P w K mg base 1 c.first "__str__" (spStr c K isF) := by
  refine Z.s_first.spc sc_First_str (fun vs H Q E h => ?_) (fun f cdv A outer s H vs Q E hr h => ?_) (fun _ _ _ _ _ _ us hl => match us, hl with | [_], _ => rfl)
  · obtain ⟨v, r, rfl, _⟩ := h
    rfl
  · obtain ⟨v, r, rfl, ⟨p, rfl⟩, ⟨a, dx, t, u, rfl, ha, h1, h2⟩, ho, k⟩ := h
    have Y := Z.y
    have T := Y.x
    have lp := len_parts ho
    refine ⟨_, (pss_one (ps_ret (pe_joined (.cons pe_str (.cons (pe_fmt (pe_fo (ks := kFirst) 0 (pv 0) Y.k_first.cl (Y.k_first.na "place" (by decide +kernel)) (by decide +kernel))) .nil))))), ?_⟩
    have lz : p.length ≤ 1000 := len_pool p ho
    refine ⟨_, rfl, by decide +kernel, _, rfl, a, dx, _, _, rfl, ha, rfl, .inl ⟨p, rfl, Nat.le_trans lz (by decide), ?_⟩⟩
    refine ⟨p, rfl, ?_, ?_⟩
    · rw [len_cat]
      exact Nat.le_trans (Nat.add_le_add_left lz _) (by decide +kernel)
    · have e : (Str.empty ++ ("first " : Str)) ++ p = text (.first p) := of_decide_eq_true (List.all_eq_true.mp (by decide +kernel : pool.all (fun p => decide ((Str.empty ++ ("first " : Str)) ++ p = jn [("first" : Str), p])) = true) p ho)
      show Q (.str ((Str.empty ++ ("first " : Str)) ++ p)) H
      rw [e]
      exact k H (Same.refl _)
theorem z_mode (Z : Sx K mg c) : Spc P w K mg base 1 c.mode "__str__" (spStr c K isM) := by
  refine Z.s_mode.spc sc_Mode_str (fun vs H Q E h => ?_) (fun f cdv A outer s H vs Q E hr h => ?_) (fun _ _ _ _ _ _ us hl => match us, hl with | [_], _ => rfl)
  · obtain ⟨v, r, rfl, _⟩ := h
    rfl
  · obtain ⟨v, r, rfl, ⟨n, pr, es, rfl⟩, ⟨a, dx, t, u, rfl, ha, h1, h2⟩, ho, k⟩ := h
    have Y := Z.y
    have T := Y.x
    have lp := len_parts ho
    refine ⟨_, (pss_cons (ps_set (i := 1) sc_Mode_str.nd rfl (Or.inl rfl) (pe_ifExp (pt_cmpR op_isN (pe_fo (ks := kMode) 1 (pv 0) Y.k_mode.cl (Y.k_mode.na "promise" (by decide +kernel)) (by decide +kernel)) pe_non (nomark _)) (pe_lst pa_nil) (pe_lst (pa_cons (pe_fo (ks := kMode) 1 (pv 0) Y.k_mode.cl (Y.k_mode.na "promise" (by decide +kernel)) (by decide +kernel)) pa_nil)))) (pss_one (ps_ret (pe_join pe_str (pe_lst (pa_cons pe_str (pa_cons (pe_fo (ks := kMode) 0 (pv 0) Y.k_mode.cl (Y.k_mode.na "name" (by decide +kernel)) (by decide +kernel)) (StX.pa_star (pv 1) (StX.pa_star (pe_fo (ks := kMode) 2 (pv 0) Y.k_mode.cl (Y.k_mode.na "ends" (by decide +kernel)) (by decide +kernel)) pa_nil))))))))), ?_⟩
    have S := h1 rfl
    have fin : ∀ (l : List Str) (p : Addr) H2, Same H H2 → H2 p = some (.lst (sv l)) → parts (.mode n pr es) = ("mode" : Str) :: n :: (l ++ es) →
        (tM1 (fun x xs H Q => ∃ a p, ∃ ys : List Str, x = .str a ∧ xs = [.ref p] ∧ (SqL K H p (ys.map V.str) ∨ SqT K H p (ys.map V.str)) ∧ (ys.map (·.length)).sum + ys.length * a.length ≤ 16777216 ∧ Q (.str (Txt.join a ys)) H) (tC (.str " "))
          (tLst (tCons (tC (.str "mode")) (tCons (tFo c.mode kMode 0 (tVar 0)) (StX.tStar K (tVar 1) (StX.tStar K (tFo c.mode kMode 2 (tVar 0)) tNil)))))) [some (.ref a), some (.ref p)] H2 Q := by
      intro l p H2 s2 hp e
      have ha2 := s2 _ _ ha
      refine ⟨⟨_, rfl⟩, _, rfl, a, dx, _, _, rfl, ha2, rfl, _, rfl, p, _, rfl, .inr (SqL.of hp), _, rfl, a, dx, _, _, rfl, ha2, rfl, t, _, rfl, .inl (samT s2 S), ?_⟩
      refine row_use ho ?_ fun H' s' => k H' (s2.trans s')
      rw [e]; simp [sv, rt1]
    rcases ho.2 with ⟨rfl, rfl⟩ | ⟨q, rfl, hq, hne, hl, hf, nd⟩
    · refine ⟨_, rfl, a, dx, _, _, rfl, ha, rfl, rfl, _, rfl, iteT ?_⟩
      refine ⟨Nat.zero_le _, fun p np => ?_⟩
      exact fin [] p _ (Sn np) upd_same rfl
    · refine ⟨_, rfl, a, dx, _, _, rfl, ha, rfl, rfl, _, rfl, iteF ?_⟩
      refine ⟨_, rfl, a, dx, _, _, rfl, ha, rfl, ?_⟩
      refine ⟨by show 1 ≤ sizeLine; decide, fun p np => ?_⟩
      exact fin [q] p _ (Sn np) upd_same rfl
theorem z_turn (Z : Sx K mg c) : Spc P w K mg base 1 c.turn "__str__" (spStr c K isT) := by
  refine Z.s_turn.spc sc_Turn_str (fun vs H Q E h => ?_) (fun f cdv A outer s H vs Q E hr h => ?_) (fun _ _ _ _ _ _ us hl => match us, hl with | [_], _ => rfl)
  · obtain ⟨v, r, rfl, _⟩ := h
    rfl
  · obtain ⟨v, r, rfl, ⟨m, w, ps, th, rfl⟩, ⟨a, dx, t, u, rfl, ha, h1, h2⟩, ho, k⟩ := h
    have Y := Z.y
    have T := Y.x
    have lp := len_parts ho
    refine ⟨_, (pss_one (ps_ret (pe_join pe_str (pe_lst (pa_cons pe_str (pa_cons (pe_fo (ks := kTurn) 0 (pv 0) Y.k_turn.cl (Y.k_turn.na "mode" (by decide +kernel)) (by decide +kernel)) (pa_cons (pe_fo (ks := kTurn) 1 (pv 0) Y.k_turn.cl (Y.k_turn.na "way" (by decide +kernel)) (by decide +kernel)) (StX.pa_star (pe_fo (ks := kTurn) 2 (pv 0) Y.k_turn.cl (Y.k_turn.na "places" (by decide +kernel)) (by decide +kernel)) (pa_cons pe_str (pa_cons (pe_fo (ks := kTurn) 3 (pv 0) Y.k_turn.cl (Y.k_turn.na "then" (by decide +kernel)) (by decide +kernel)) pa_nil)))))))))), ?_⟩
    have S := h1 rfl
    refine ⟨⟨_, rfl⟩, _, rfl, a, dx, _, _, rfl, ha, rfl, _, rfl, a, dx, _, _, rfl, ha, rfl, _, rfl, a, dx, _, _, rfl, ha, rfl, t, _, rfl, .inl S, _, rfl, a, dx, _, _, rfl, ha, rfl, ?_⟩
    refine row_use ho ?_ k
    simp [sv, parts, rt1]
/-- a list of nothing, or of a word and what it says -/
def sayL (w s : Str) (l : List Str) : List Str := if l = [] then [] else [w, Txt.join (sepOf s) l]
def tSay (K : PySem.W.Frag) (C : Addr) (ks : List Str) (i : Nat) (w s : Str) : TE := fun σ H Q => ∃ (a dx t : Addr) (vs : List V) (l : List Str), σ[0]? = some (some (.ref a)) ∧ H a = some (.ins C dx (ob ks vs)) ∧ vs[i]? = some (.ref t) ∧ SqT K H t (sv l) ∧ Cp l ∧ l.length ≤ 5 ∧ (∀ z ∈ l, z.length ≤ 20) ∧
  ∀ p H', Same H H' → H' p = some (.lst (sv (sayL w s l))) → Q (.ref p) H'
theorem tSay_of {C : Addr} {ks : List Str} {i : Nat} {w s : Str} {σ : Sg} {H : Hp} {Q : VK} (h : tSay K C ks i w s σ H Q) (hj : (sepOf s).length ≤ 10 := by decide +kernel) : tIf (tB (tOp (rSS K false) (tFo C ks i (tVar 0)) (tTup tNil))) (tLst tNil)
    (tLst (tCons (tC (.str w)) (tCons (tM1 (fun x xs H Q => ∃ a p, ∃ ys : List Str, x = .str a ∧ xs = [.ref p] ∧ (SqL K H p (ys.map V.str) ∨ SqT K H p (ys.map V.str)) ∧ (ys.map (·.length)).sum + ys.length * a.length ≤ 16777216 ∧ Q (.str (Txt.join a ys)) H) (tC (.str (sepOf s))) (tFo C ks i (tVar 0))) tNil))) σ H Q := by
  obtain ⟨a, dx, t, vs, l, hσ, ha, hv, S, cp, hl, hz, k⟩ := h
  refine ⟨_, hσ, a, dx, vs, _, rfl, ha, hv, Nat.zero_le _, fun p np => ?_⟩
  have s1 := Sn (o := .tup []) np
  refine ⟨t, p, l, [], rfl, rfl, .inl ⟨samT s1 S, SqT.of upd_same⟩, cp, cp_nil, _, rfl, ?_⟩
  refine ite2 (fun q => ?_) (fun q => ?_)
  · have e : l = [] := of_decide_eq_true q
    refine ⟨Nat.zero_le _, fun p2 np2 => k p2 _ (s1.trans (Sn np2)) ?_⟩
    rw [upd_same]; unfold sayL; rw [if_pos e]; rfl
  · have e : ¬ l = [] := fun z => q (decide_eq_true z)
    refine ⟨⟨_, rfl⟩, _, hσ, a, dx, vs, _, rfl, s1 _ _ ha, hv, _, t, l, rfl, rfl, .inr (samT s1 S), joinOk (Nat.le_trans hl (by decide)) (fun z m => Nat.le_trans (hz z m) (by decide)) hj, ?_⟩
    refine ⟨by show 2 ≤ sizeLine; decide, fun p2 np2 => k p2 _ (s1.trans (Sn np2)) ?_⟩
    rw [upd_same]; unfold sayL; rw [if_neg e]; rfl
theorem sep_and : (" and " : Str) = sepOf "and" := by decide +kernel
theorem sep_then : (" then " : Str) = sepOf "then" := by decide +kernel
theorem z_lead (Z : Sx K mg c) : Spc P w K mg base 1 c.lead "__str__" (spStr c K isL) := by
  refine Z.s_lead.spc sc_Lead_str (fun vs H Q E h => ?_) (fun f cdv A outer s H vs Q E hr h => ?_) (fun _ _ _ _ _ _ us hl => match us, hl with | [_], _ => rfl)
  · obtain ⟨v, r, rfl, _⟩ := h
    rfl
  · obtain ⟨v, r, rfl, ⟨m, p, e, th, ss, rfl⟩, ⟨a, dx, t, u, rfl, ha, h1, h2⟩, ho, k⟩ := h
    have Y := Z.y
    have T := Y.x
    have lp := len_parts ho
    refine ⟨_, (pss_cons (ps_set (i := 1) sc_Lead_str.nd rfl (Or.inl rfl) (peImp (t' := tSay K c.lead kLead 4 "send" "and") (pe_ifExp (pt_cmpR (op_eqSS hr.units) (pe_fo (ks := kLead) 4 (pv 0) Y.k_lead.cl (Y.k_lead.na "sends" (by decide +kernel)) (by decide +kernel)) (pe_tup pa_nil) (nomark _)) (pe_lst pa_nil) (pe_lst (pa_cons pe_str (pa_cons (pe_join pe_str (pe_fo (ks := kLead) 4 (pv 0) Y.k_lead.cl (Y.k_lead.na "sends" (by decide +kernel)) (by decide +kernel))) pa_nil)))) fun _ _ _ z => tSay_of z)) (pss_one (ps_ret (pe_join pe_str (pe_lst (pa_cons pe_str (pa_cons (pe_fo (ks := kLead) 0 (pv 0) Y.k_lead.cl (Y.k_lead.na "mode" (by decide +kernel)) (by decide +kernel)) (pa_cons (pe_fo (ks := kLead) 1 (pv 0) Y.k_lead.cl (Y.k_lead.na "place" (by decide +kernel)) (by decide +kernel)) (pa_cons (pe_fo (ks := kLead) 2 (pv 0) Y.k_lead.cl (Y.k_lead.na "event" (by decide +kernel)) (by decide +kernel)) (pa_cons pe_str (pa_cons (pe_fo (ks := kLead) 3 (pv 0) Y.k_lead.cl (Y.k_lead.na "then" (by decide +kernel)) (by decide +kernel)) (StX.pa_star (pv 1) pa_nil)))))))))))), ?_⟩
    have S := h1 rfl
    obtain ⟨_, _, _, _, hl, hf⟩ := id ho
    refine ⟨a, dx, t, _, ss, rfl, ha, rfl, S, cp_pool hf, hl, (fun z hz => Nat.le_trans (len_atom (pool_atom (hf z hz))) (by decide)), fun q H2 s2 hq => ?_⟩
    have ha := s2 _ _ ha
    refine ⟨⟨_, rfl⟩, _, rfl, a, dx, _, _, rfl, ha, rfl, _, rfl, a, dx, _, _, rfl, ha, rfl, _, rfl, a, dx, _, _, rfl, ha, rfl, _, rfl, a, dx, _, _, rfl, ha, rfl, _, rfl, q, _, rfl, .inr (SqL.of hq), ?_⟩
    refine row_use ho ?_ fun H' s' => k H' (s2.trans s')
    simp [sv, parts, sayL]
theorem z_house (Z : Sx K mg c) : Spc P w K mg base 1 c.house "__str__" (spStr c K isH) := by
  refine Z.s_house.spc sc_House_str (fun vs H Q E h => ?_) (fun f cdv A outer s H vs Q E hr h => ?_) (fun _ _ _ _ _ _ us hl => match us, hl with | [_], _ => rfl)
  · obtain ⟨v, r, rfl, _⟩ := h
    rfl
  · obtain ⟨v, r, rfl, ⟨e, ts, ds, rfl⟩, ⟨a, dx, t, u, rfl, ha, h1, h2⟩, ho, k⟩ := h
    have Y := Z.y
    have T := Y.x
    have lp := len_parts ho
    refine ⟨_, (pss_cons (ps_set (i := 1) sc_House_str.nd rfl (Or.inl rfl) (peImp (t' := tSay K c.house kHouse 1 "if" "and") (pe_ifExp (pt_cmpR (op_eqSS hr.units) (pe_fo (ks := kHouse) 1 (pv 0) Y.k_house.cl (Y.k_house.na "tests" (by decide +kernel)) (by decide +kernel)) (pe_tup pa_nil) (nomark _)) (pe_lst pa_nil) (pe_lst (pa_cons pe_str (pa_cons (pe_join pe_str (pe_fo (ks := kHouse) 1 (pv 0) Y.k_house.cl (Y.k_house.na "tests" (by decide +kernel)) (by decide +kernel))) pa_nil)))) fun _ _ _ z => tSay_of z)) (pss_cons (ps_set (i := 2) sc_House_str.nd rfl (Or.inl rfl) (peImp (t' := tSay K c.house kHouse 2 "do" "then") (pe_ifExp (pt_cmpR (op_eqSS hr.units) (pe_fo (ks := kHouse) 2 (pv 0) Y.k_house.cl (Y.k_house.na "deeds" (by decide +kernel)) (by decide +kernel)) (pe_tup pa_nil) (nomark _)) (pe_lst pa_nil) (pe_lst (pa_cons pe_str (pa_cons (pe_join pe_str (pe_fo (ks := kHouse) 2 (pv 0) Y.k_house.cl (Y.k_house.na "deeds" (by decide +kernel)) (by decide +kernel))) pa_nil)))) fun _ _ _ z => tSay_of z)) (pss_one (ps_ret (pe_join pe_str (pe_lst (pa_cons pe_str (pa_cons (pe_fo (ks := kHouse) 0 (pv 0) Y.k_house.cl (Y.k_house.na "event" (by decide +kernel)) (by decide +kernel)) (StX.pa_star (pv 1) (StX.pa_star (pv 2) pa_nil)))))))))), ?_⟩
    have S := h1 rfl
    have S2 := h2 rfl
    obtain ⟨_, hl1, hf1, hl2, hf2⟩ := id ho
    refine ⟨a, dx, t, _, ts, rfl, ha, rfl, S, cp_tst hf1, hl1, (fun z hz => len_test (hf1 z hz)), fun q H2 s2 hq => ?_⟩
    have ha := s2 _ _ ha
    refine ⟨a, dx, u, _, ds, rfl, ha, rfl, samT s2 S2, cp_ded hf2, hl2, (fun z hz => len_deed (hf2 z hz)), fun q2 H3 s3 hq2 => ?_⟩
    have ha := s3 _ _ ha
    refine ⟨⟨_, rfl⟩, _, rfl, a, dx, _, _, rfl, ha, rfl, _, rfl, q, _, rfl, .inr (SqL.of (s3 _ _ hq)), _, rfl, q2, _, rfl, .inr (SqL.of hq2), ?_⟩
    refine row_use ho ?_ fun H' s' => k H' ((s2.trans s3).trans s')
    simp [sv, parts, sayL]
end
end SB

set_option maxHeartbeats 2000000
namespace SB
open PySem PySem.Spec PyProof.Rows L2
open C8 (Cal Mak Met pe_c pe_mk pe_mt pe_mt0 pe_gc InsC call_isC)

def isFirst : RD → Bool
  | .first _ => true
  | _ => false
def isMode : RD → Bool
  | .mode _ _ _ => true
  | _ => false
def isTurn : RD → Bool
  | .turn _ _ _ _ => true
  | _ => false
def isLead : RD → Bool
  | .lead _ _ _ _ _ => true
  | _ => false
def isHouse : RD → Bool
  | .house _ _ _ => true
  | _ => false
/-- what isinstance asks: class C, its instances against the class D -/
def KitD (K : PySem.W.Frag) (C D : Addr) (b : Bool) : Prop := PySem.W.kitOne K (.ref C) (.ref D) = some b
structure Ux (K : PySem.W.Frag) (mg : Str → Option Value) (c : Cs) : Prop where
  z : Sx K mg c
  ins : ∀ r, C8.InsC K (rcls c r)
  of_row : ∀ r, KitD K (rcls c r) c.row true
  of_first : ∀ r, KitD K (rcls c r) c.first (isFirst r)
  of_mode : ∀ r, KitD K (rcls c r) c.mode (isMode r)
  of_turn : ∀ r, KitD K (rcls c r) c.turn (isTurn r)
  of_lead : ∀ r, KitD K (rcls c r) c.lead (isLead r)
  of_house : ∀ r, KitD K (rcls c r) c.house (isHouse r)
  n_row : mg "Row" = some (.ref c.row)
  n_first : mg "First" = some (.ref c.first)
  n_mode : mg "Mode" = some (.ref c.mode)
  n_turn : mg "Turn" = some (.ref c.turn)
  n_lead : mg "Lead" = some (.ref c.lead)
  n_house : mg "House" = some (.ref c.house)
section
variable {X : Cx} {c : Cs}
def rIsR (K : PySem.W.Frag) (c : Cs) (D : Addr) (f : RD → Bool) : List V → Hp → VK → Prop := fun xs H Q => ∃ v r, xs = [v, .ref D] ∧ RowAt c K H v r ∧ Q (.bl (f r)) H
theorem call_isR {mg : Str → Option Value} {D : Addr} {f : RD → Bool} (U : Ux X.K mg c) (h : ∀ r, KitD X.K (rcls c r) D (f r)) : CallR X (.builtin "isinstance") (rIsR X.K c D f) := by
  rintro pins s σ H xs us Q I rr ⟨v, r, rfl, ⟨a, dx, t, u, rfl, ha, _, _⟩, q⟩
  obtain ⟨u1, u2, rfl, ru, rw'⟩ := vals2 rr
  cases rw'
  have i := U.ins r
  exact isinst_ok I ru (TyOf.ins ha i.cl i.ha i.hn i.htk i.hm) (h r) fun tk => ⟨.bl _, H, I.tok _, rfl, q⟩
/-- str(row) -/
def rStr (K : PySem.W.Frag) (c : Cs) : List V → Hp → VK → Prop := fun xs H Q => ∃ v r, xs = [v] ∧ RowAt c K H v r ∧ Ok r ∧ ∀ H', Same H H' → Q (.str (text r)) H'
theorem call_strR (Z : Sx X.K X.mg c) (hr : Room 3 X.A) : CallR X (.type "str") (rStr X.K c) := by
  rintro pins s σ H xs us Q I rr ⟨v, r, rfl, hv, ho, k⟩
  obtain ⟨a, dx, t, u, rfl, ha, h1, h2⟩ := id hv
  cases r with
  | first p => exact call_strO (z_first Z) hr pins s σ H _ us Q I rr ⟨a, dx, _, rfl, ha, _, _, rfl, ⟨p, rfl⟩, hv, ho, fun H' s' => ⟨_, rfl, k H' s'⟩⟩
  | mode n pr es => exact call_strO (z_mode Z) hr pins s σ H _ us Q I rr ⟨a, dx, _, rfl, ha, _, _, rfl, ⟨n, pr, es, rfl⟩, hv, ho, fun H' s' => ⟨_, rfl, k H' s'⟩⟩
  | turn m w ps t => exact call_strO (z_turn Z) hr pins s σ H _ us Q I rr ⟨a, dx, _, rfl, ha, _, _, rfl, ⟨m, w, ps, t, rfl⟩, hv, ho, fun H' s' => ⟨_, rfl, k H' s'⟩⟩
  | lead m p e t ss => exact call_strO (z_lead Z) hr pins s σ H _ us Q I rr ⟨a, dx, _, rfl, ha, _, _, rfl, ⟨m, p, e, t, ss, rfl⟩, hv, ho, fun H' s' => ⟨_, rfl, k H' s'⟩⟩
  | house e ts ds => exact call_strO (z_house Z) hr pins s σ H _ us Q I rr ⟨a, dx, _, rfl, ha, _, _, rfl, ⟨e, ts, ds, rfl⟩, hv, ho, fun H' s' => ⟨_, rfl, k H' s'⟩⟩
/-- two objects of one row -/
def DRow (c : Cs) (K : PySem.W.Frag) : Eqv := fun x y H => ∃ r, Ok r ∧ RowAt c K H x r ∧ RowAt c K H y r
theorem mon_row {K : PySem.W.Frag} : Mon (DRow c K) := fun x y H H' e d => by
  obtain ⟨r, ho, h1, h2⟩ := d
  exact ⟨r, ho, h1.sm e, h2.sm e⟩
def RRow (c : Cs) (K : PySem.W.Frag) : Addr → Addr → Hp → Prop := fun a b H => DRow c K (.ref a) (.ref b) H
end
section
variable {P : Program} {w : World} {K : PySem.W.Frag} {mg : Str → Option Value} {base : Heap}
variable {c : Cs}
theorem eq_row (U : Ux K mg c) {f : Addr} {fd : FuncData} (F : Fun K "__eq__" "Row.__eq__" s_Row_eq f fd) : FnOk P w K mg base CX0 4 f fd ["self", "other"] (spEq (RRow c K)) := by
  have T := U.z.y.x
  refine F.ok sc_Row_eq (fun vs H Q E h => ?_) (fun cdv A outer s H vs Q E hr h => ?_)
  · obtain ⟨a, b, rfl, _⟩ := h
    rfl
  · obtain ⟨a, b, rfl, ⟨r, ho, h1, h2⟩, k⟩ := h
    refine ⟨_, (pss_one (ps_ret (pe_and (pe_callB (call_isR U U.of_row) (by rfl) T.m_isinstance (by decide +kernel) (pa_cons (pv 1) (pa_cons (pe_gc (v := .ref c.row) (by rfl) ⟨_, U.n_row, rfl⟩) pa_nil))) (pe_one (pe_cmpR op_eq (pe_callTy (call_strR U.z hr) (by rfl) T.m_str (by decide +kernel) (pa_cons (pv 0) pa_nil)) (pe_callTy (call_strR U.z hr) (by rfl) T.m_str (by decide +kernel) (pa_cons (pv 1) pa_nil)) (nomark _)))))), ?_⟩
    refine ⟨_, rfl, _, r, rfl, h2, _, rfl, iteT ?_⟩
    refine ⟨_, rfl, _, r, rfl, h1, ho, fun H1 s1 => ?_⟩
    refine ⟨_, rfl, _, r, rfl, h2.sm s1, ho, fun H2 s2 => ⟨rfl, ?_⟩⟩
    rw [decide_eq_true rfl]
    exact k _ (s1.trans s2)
end
section
variable {X : Cx} {c : Cs}
theorem eqG_row (U : Ux X.K X.mg c) {E : XK} (hx : Passes CX0 X E) : EqG X 4 (DRow c X.K) := by
  obtain ⟨f, fd, hf, F, hs⟩ := U.z.row_eq
  intro A pins s σ H x y u v sb I rx ry d
  obtain ⟨r, ho, h1, h2⟩ := id d
  obtain ⟨a, dx, t, u1, rfl, ha, _⟩ := id h1
  obtain ⟨b, dy, t2, u2, rfl, hb, _⟩ := id h2
  exact eqG_ins (C := rcls c r) (eq_row U F) (hs r) hf (F.binds (fun _ _ _ _ _ _ us hl => match us, hl with | [_, _], _ => rfl)) hx A pins s σ H _ _ u v sb I rx ry ⟨a, b, dx, dy, _, _, rfl, rfl, ha, hb, d⟩
end
end SB

set_option maxHeartbeats 2000000
namespace SB
open PySem PySem.Spec PyProof.Rows L2
open C8 (Cal Mak Met pe_c pe_mk pe_mt pe_mt0 pe_gc InsC call_isC)

/-! ### lists of texts: parts, items -/
section
variable {α : Type}
def cutW (xs : List α) (lo hi : Option Int) : List α := (xs.drop (HT.sIx xs.length 0 lo)).take (HT.sIx xs.length xs.length hi - HT.sIx xs.length 0 lo)
theorem cut_from (xs : List α) (n : Nat) : cutW xs (some (n : Int)) none = xs.drop n := by
  unfold cutW
  rw [HT.sIx_nat, HT.sIx_none]
  rcases Nat.lt_or_ge n xs.length with h | h
  · rw [Nat.min_eq_left (Nat.le_of_lt h)]
    exact List.take_of_length_le (by rw [List.length_drop]; exact Nat.le_refl _)
  · rw [Nat.min_eq_right h, List.drop_of_length_le h, List.drop_length, List.take_nil]
theorem cut_to (xs : List α) (n : Nat) : cutW xs none (some (n : Int)) = xs.take n := by
  unfold cutW
  rw [HT.sIx_nat, HT.sIx_none, List.drop_zero, Nat.sub_zero]
  rcases Nat.lt_or_ge n xs.length with h | h
  · rw [Nat.min_eq_left (Nat.le_of_lt h)]
  · rw [Nat.min_eq_right h, List.take_length, List.take_of_length_le h]
theorem cut_mid (a b c d : α) (xs : List α) : cutW (a :: b :: (xs ++ [c, d])) (some 2) (some (-2)) = xs := by
  have e : (a :: b :: (xs ++ [c, d])).length = xs.length + 4 := by simp
  unfold cutW
  have e1 : HT.sIx (a :: b :: (xs ++ [c, d])).length 0 (some 2) = 2 := by
    rw [e]; exact (HT.sIx_nat _ _ 2).trans (Nat.min_eq_left (by omega))
  have e2 : HT.sIx (a :: b :: (xs ++ [c, d])).length (a :: b :: (xs ++ [c, d])).length (some (-2)) = xs.length + 2 := by
    rw [e]
    show (if (-2 : Int) < 0 then ((-2 : Int) + ((xs.length + 4 : Nat) : Int)).toNat else min (-2 : Int).toNat (xs.length + 4)) = _
    rw [if_pos (by decide)]; omega
  rw [e1, e2]
  show (xs ++ [c, d]).take (xs.length + 2 - 2) = xs
  rw [Nat.add_sub_cancel, List.take_left]
theorem cutV_map {β : Type} (f : α → β) (xs : List α) (lo hi : Option Int) : cutW (xs.map f) lo hi = (cutW xs lo hi).map f := by
  unfold cutW
  rw [List.length_map, List.map_take, List.map_drop]
theorem at_nat {xs : List α} {i : Nat} {x : α} (h : xs[i]? = some x) : atI xs (i : Int) = some x := by
  have hl := (List.getElem?_eq_some_iff.mp h).1
  unfold atI ixN
  rw [if_pos (by omega), if_pos (by omega)]
  exact h
theorem at_last {xs : List α} {x : α} : atI (xs ++ [x]) (-1) = some x := by
  have hl : (xs ++ [x]).length = xs.length + 1 := by simp
  unfold atI ixN
  rw [hl, if_neg (by decide), if_pos (by omega)]
  show (xs ++ [x])[((-1 : Int) + ((xs.length + 1 : Nat) : Int)).toNat]? = some x
  have e : ((-1 : Int) + ((xs.length + 1 : Nat) : Int)).toNat = xs.length := by omega
  rw [e, List.getElem?_append_right (Nat.le_refl _), Nat.sub_self]; rfl
theorem at_map {β : Type} (f : α → β) {xs : List α} {i : Int} {x : α} (h : atI xs i = some x) : atI (xs.map f) i = some (f x) := by
  unfold atI at h ⊢
  rw [List.length_map]
  cases q : ixN xs.length i with
  | none => rw [q] at h; cases h
  | some j =>
    rw [q, Option.bind_some] at h
    rw [Option.bind_some, List.getElem?_map, h]; rfl
end
section
variable {X : Cx}
def rSlW (K : PySem.W.Frag) : V → Option Int → Option Int → Hp → VK → Prop := fun x lo hi H Q => ∃ (a : Addr) (ws : List Str), x = .ref a ∧ SqL K H a (sv ws) ∧ ∀ p, H p = none → Q (.ref p) (upd H p (.lst (sv (cutW ws lo hi))))
theorem sl_W : SlR X (rSlW X.K) := by
  rintro pins s σ H x v vl vu lo hi sl Q I rx hs pl pu ⟨a, ws, rfl, S, k⟩
  refine sl_list pins s σ H _ v vl vu lo hi sl Q I rx hs pl pu ⟨a, _, rfl, S, fun p np => ?_⟩
  have e : cutV (sv ws) lo hi = sv (cutW ws lo hi) := cutV_map V.str ws lo hi
  rw [e]
  exact k p np
/-- a list's item, a text -/
def rIxW (K : PySem.W.Frag) : R2 := fun x y H Q => ∃ (p : Addr) (ws : List Str) (i : Int) (z : Str), x = .ref p ∧ y = .int i ∧ SqL K H p (sv ws) ∧ atI ws i = some z ∧ Q (.str z) H
theorem ix_W : IxR X (rIxW X.K) := fun value slice pins s σ H x y v u Q I rx ry ⟨p, ws, i, z, ex, ey, S, hz, q⟩ hs => ix_list value slice pins s σ H x y v u Q I rx ry ⟨p, _, i, _, ex, ey, S, at_map V.str hz, q⟩ hs
/-- words.index(w) -/
def rIndexW (K : PySem.W.Frag) : V → List V → Hp → VK → Prop := fun x xs H Q => ∃ (a : Addr) (l1 l2 : List Str) (z : Str), x = .ref a ∧ xs = [.str z] ∧ SqL K H a (sv (l1 ++ z :: l2)) ∧ z ∉ l1 ∧ Q (.int (l1.length : Nat)) H
theorem mt_indexW : MtR X "list.index" (rIndexW X.K) := by
  rintro pins s σ H x xs v us Q I rx rxs ⟨a, l1, l2, z, rfl, rfl, S, hn, q⟩
  refine mt_index pins s σ H _ _ v us Q I rx rxs ⟨a, _, _, l1.length, .str z, rfl, rfl, S, rfl, flat_strs _, ?_, ?_, ?_, q⟩
  · rw [List.getElem?_map, List.getElem?_append_right (Nat.le_refl _), Nat.sub_self]; rfl
  · show (z == z) = true
    exact beq_self_eq_true z
  · intro m z' hm hz'
    rw [List.getElem?_map, List.getElem?_append_left hm] at hz'
    obtain ⟨y, hy, rfl⟩ := Option.map_eq_some_iff.mp hz'
    show (y == z) = false
    exact beq_eq_false_iff_ne.mpr fun e => hn (e ▸ List.mem_of_getElem? hy)
end
section
variable {P : Program} {w : World} {K : PySem.W.Frag} {mg : Str → Option Value} {base : Heap}
variable {c : Cs}
/-- the words ahead of the word, and those behind it (none: it isn't there) -/
def spParted (K : PySem.W.Frag) : Sp := fun vs H Q _ => ∃ (a : Addr) (w : Str), vs = [.ref a, .str w] ∧
  ((∃ ws, SqL K H a (sv ws) ∧ w ∉ ws ∧ ∀ t H', Same H H' → H' t = some (.tup [.ref a, .non]) → Q (.ref t) H') ∨
   (∃ l1 l2, SqL K H a (sv (l1 ++ w :: l2)) ∧ w ∉ l1 ∧ ∀ t p q H', Same H H' → H' p = some (.lst (sv l1)) → H' q = some (.lst (sv l2)) → H' t = some (.tup [.ref p, .ref q]) → Q (.ref t) H'))
theorem c_parted (T : Tx K mg) : Cal P w K mg base 1 "parted" (spParted K) [] := by
  refine T.g_parted.cal sc_parted (fun vs H Q E h => ?_) (fun f cdv A outer s H vs Q E hr h => ?_) (fun _ _ _ _ _ _ us hl => match us, hl with | [_, _], _ => rfl)
  · obtain ⟨a, w, rfl, h⟩ := h
    rfl
  · obtain ⟨a, w, rfl, h⟩ := h
    refine ⟨_, (pss_cons (ps_if (pt_cmpR op_niW (pv 1) (pv 0) (by rfl)) (pss_one (ps_ret (pe_tup (pa_cons (pv 0) (pa_cons pe_non pa_nil))))) pss_nil) (pss_cons (ps_set (i := 2) sc_parted.nd rfl (Or.inl rfl) (pe_bm PySem.F.plainAttrs_list PySem.F.slot_list_index PySem.F.type_list_index mt_indexW (pv 0) (pa_cons (pv 1) pa_nil))) (pss_one (ps_ret (pe_tup (pa_cons (pe_slice sl_W (pv 0) po_none (po_some (pv 2))) (pa_cons (pe_slice sl_W (pv 0) (po_some (pe_op op_add (pv 2) pe_int)) po_none) pa_nil))))))), ?_⟩
    rcases h with ⟨ws, S, hn, k⟩ | ⟨l1, l2, S, hn, k⟩
    · refine ⟨_, rfl, _, rfl, w, a, ws, rfl, rfl, .inl S, true, congrArg V.bl ?_, iteT ?_⟩
      · have e : ws.contains w = false := Bool.eq_false_iff.mpr fun z => hn (List.contains_iff_mem.mp z)
        show (!ws.contains w) = true
        rw [e]; rfl
      refine ⟨_, rfl, by show 2 ≤ sizeLine; decide, fun t nt => k t _ (Sn nt) upd_same⟩
    · refine ⟨_, rfl, _, rfl, w, a, l1 ++ w :: l2, rfl, rfl, .inl S, false, congrArg V.bl ?_, iteF ?_⟩
      · have e : (l1 ++ w :: l2).contains w = true := List.contains_iff_mem.mpr (List.mem_append_right _ List.mem_cons_self)
        show (!(l1 ++ w :: l2).contains w) = false
        rw [e]; rfl
      refine ⟨_, rfl, .inl ⟨rfl, _, S⟩, _, rfl, a, l1, l2, w, rfl, rfl, S, hn, ?_⟩
      refine ⟨_, rfl, _, rfl, _, rfl, a, _, rfl, S, fun p np => ?_⟩
      have s1 : Same H (upd H p (.lst (sv (cutW (l1 ++ w :: l2) none (some (l1.length : Int)))))) := Sn np
      refine ⟨_, rfl, _, rfl, _, 1, rfl, rfl, _, rfl, a, _, rfl, s1.seq S, fun q nq => ⟨by show 2 ≤ sizeLine; decide, fun t nt => ?_⟩⟩
      have e1 : cutW (l1 ++ w :: l2) none (some (l1.length : Int)) = l1 := by rw [cut_to, List.take_left]
      have e2 : cutW (l1 ++ w :: l2) (some ((l1.length : Int) + 1)) none = l2 := by
        refine (cut_from _ (l1.length + 1)).trans ?_
        rw [List.drop_append, List.drop_of_length_le (Nat.le_succ _)]; simp
      refine k t p q _ ((s1.trans (Sn nq)).trans (Sn nt)) ?_ ?_ upd_same
      · rw [upd_ne (ne_of_none (Sn nq _ _ upd_same) nt), Sn nq _ _ upd_same, e1]
      · rw [upd_ne (ne_of_none upd_same nt), upd_same, e2]
def sepF (w : Str) : Str := ((Str.empty ++ (" " : Str)) ++ w) ++ (" " : Str)
/-- the texts between the word, from its words (none: no text) -/
structure SpJ (K : PySem.W.Frag) (vs : List V) (H : Hp) (Q : VK) : Prop where
  ex : ∃ (w : Str), w.length ≤ 10 ∧
  ((vs = [.non, .str w] ∧ ∀ p H', Same H H' → H' p = some (.lst []) → Q (.ref p) H') ∨
   (∃ (a : Addr) (ws : List Str), vs = [.ref a, .str w] ∧ SqL K H a (sv ws) ∧ ws.length ≤ 2000 ∧ (∀ z ∈ ws, z.length ≤ 1000) ∧ (jn ws).length ≤ 10000 ∧ ∀ p H', Same H H' → H' p = some (.lst (sv (Txt.split (jn ws) (sepF w)))) → Q (.ref p) H'))
def spJoined (K : PySem.W.Frag) : Sp := fun vs H Q _ => SpJ K vs H Q
theorem sepF_len {w : Str} (h : w.length ≤ 10) : (sepF w).length ≤ 20 ∧ ((sepF w).length == 0) = false := by
  have e : (sepF w).length = 2 + w.length := by
    unfold sepF
    rw [len_cat, len_cat, len_cat]
    have e1 : (" " : Str).length = 1 := by decide +kernel
    rw [e1]
    show 0 + 1 + w.length + 1 = _
    omega
  rw [e]
  exact ⟨by omega, beq_eq_false_iff_ne.mpr (by omega)⟩
theorem joined_len {ws : List Str} (h1 : ws.length ≤ 2000) (h2 : ∀ z ∈ ws, z.length ≤ 1000) : (ws.map (·.length)).sum + ws.length * (" " : Str).length ≤ 16777216 := by
  have e1 : (" " : Str).length = 1 := by decide +kernel
  have h3 := sum_le h2
  rw [e1]
  omega
theorem c_joined (T : Tx K mg) : Cal P w K mg base 1 "joined" (spJoined K) [] := by
  refine T.g_joined.cal sc_joined (fun vs H Q E h => ?_) (fun f cdv A outer s H vs Q E hr h => ?_) (fun _ _ _ _ _ _ us hl => match us, hl with | [_, _], _ => rfl)
  · obtain ⟨⟨w, hw, h⟩⟩ := h
    rcases h with ⟨rfl, _⟩ | ⟨a, ws, rfl, _⟩
    · rfl
    · rfl
  · obtain ⟨⟨w, hw, h⟩⟩ := h
    refine ⟨_, (pss_one (ps_ret (pe_ifExp (pt_cmpR op_isN (pv 0) pe_non (nomark _)) (pe_lst pa_nil) (pe_split (pe_join pe_str (pv 0)) (pe_joined (.cons pe_str (.cons (pe_fmt (pv 1)) (.cons pe_str .nil)))))))), ?_⟩
    obtain ⟨ls, lz⟩ := sepF_len hw
    rcases h with ⟨rfl, k⟩ | ⟨a, ws, rfl, S, h1, h2, h3, k⟩
    · refine ⟨_, rfl, rfl, _, rfl, iteT ?_⟩
      exact ⟨Nat.zero_le _, fun p np => k p _ (Sn np) upd_same⟩
    · refine ⟨_, rfl, rfl, _, rfl, iteF ?_⟩
      refine ⟨⟨_, rfl⟩, _, rfl, _, a, ws, rfl, rfl, .inl S, joined_len h1 h2, ⟨_, rfl⟩, ?_⟩
      refine ⟨_, rfl, by decide +kernel, _, rfl, .inl ⟨w, rfl, Nat.le_trans hw (by decide), ?_⟩⟩
      refine ⟨w, rfl, ?_, _, rfl, Nat.le_trans ls (by decide), ?_⟩
      · exact Nat.le_trans (Nat.le_add_right _ _) (Nat.le_trans (by rw [← len_cat]; exact ls) (by decide))
      refine ⟨_, _, rfl, rfl, lz, Nat.le_trans (Nat.add_le_add_right h3 2) (by decide), fun p np => k p _ (Sn np) upd_same⟩

/-! ### what the words of joined texts split into again -/
theorem sepF_and : sepF "and" = sepOf "and" := by decide +kernel
theorem sepF_then : sepF "then" = sepOf "then" := by decide +kernel
theorem free_pool : ∀ z ∈ pool, SX.free (32 :: (TL.tl ("and" : Str) ++ [32])) (TL.tl z) = true := List.all_eq_true.mp (by decide +kernel)
theorem free_test {z : Str} (h : z ∈ tests) : SX.free (32 :: (TL.tl ("and" : Str) ++ [32])) (TL.tl z) = true := by
  have q := tests_ok z h
  unfold testOk at q
  simp only [Bool.and_eq_true] at q
  exact q.1.2
theorem free_deed {z : Str} (h : z ∈ deeds) : SX.free (32 :: (TL.tl ("then" : Str) ++ [32])) (TL.tl z) = true := by
  have q := deeds_ok z h
  unfold deedOk at q
  simp only [Bool.and_eq_true] at q
  exact q.2
/-- a joined text, its words: what joined makes of them -/
structure Back (w : Str) (l : List Str) : Prop where
  eq : Txt.split (jn (sp (Txt.join (sepOf w) l))) (sepF w) = l
  n : (sp (Txt.join (sepOf w) l)).length ≤ 1002
  z : ∀ z ∈ sp (Txt.join (sepOf w) l), z.length ≤ 1000
  j : (jn (sp (Txt.join (sepOf w) l))).length ≤ 1000
theorem back_of {w : Str} {l : List Str} (hs : sepF w = sepOf w) (hw : (TL.tl w).all (· < 256) = true) (hne : l ≠ []) (hl : l.length ≤ 5) (hz : ∀ z ∈ l, z.length ≤ 20) (h10 : (sepOf w).length ≤ 10) (hf : ∀ p ∈ l, SX.free (32 :: (TL.tl w ++ [32])) (TL.tl p) = true) : Back w l := by
  have h := len_joined hl hz h10
  refine ⟨?_, Nat.le_trans (PyProof.Rows.split_le _ _) (Nat.add_le_add_right h 2), fun z m => Nat.le_trans (len_part m) h, by rw [jn_sp]; exact h⟩
  rw [jn_sp, hs]
  exact split_sep hw hne hf
theorem back_sends {l : List Str} (hne : l ≠ []) (hl : l.length ≤ 5) (hf : From pool l) : Back "and" l :=
  back_of sepF_and (by decide +kernel) hne hl (fun z hz => Nat.le_trans (len_atom (pool_atom (hf z hz))) (by decide)) (by decide +kernel) fun z hz => free_pool z (hf z hz)
theorem back_tests {l : List Str} (hne : l ≠ []) (hl : l.length ≤ 5) (hf : From tests l) : Back "and" l :=
  back_of sepF_and (by decide +kernel) hne hl (fun z hz => len_test (hf z hz)) (by decide +kernel) fun z hz => free_test (hf z hz)
theorem back_deeds {l : List Str} (hne : l ≠ []) (hl : l.length ≤ 5) (hf : From deeds l) : Back "then" l :=
  back_of sepF_then (by decide +kernel) hne hl (fun z hz => len_deed (hf z hz)) (by decide +kernel) fun z hz => free_deed (hf z hz)
theorem joined_use {l : List Str} {w : Str} {x : V} {H : Hp} {N : VK} (hw : w.length ≤ 10) (hx : (l = [] ∧ x = .non) ∨ (Back w l ∧ ∃ q, x = .ref q ∧ SqL K H q (sv (sp (Txt.join (sepOf w) l)))))
    (k : ∀ p H', Same H H' → H' p = some (.lst (sv l)) → N (.ref p) H') : SpJ K [x, .str w] H N := by
  refine ⟨⟨w, hw, ?_⟩⟩
  rcases hx with ⟨rfl, rfl⟩ | ⟨B, q, rfl, hq⟩
  · exact .inl ⟨rfl, k⟩
  · refine .inr ⟨q, _, rfl, hq, by have := B.n; omega, B.z, Nat.le_trans B.j (by decide), fun p H' s' hp => k p H' s' ?_⟩
    rw [B.eq] at hp; exact hp
/-- rest: what stands behind «lead» -/
def leadW (m p e t : Str) (ss : List Str) : List Str := m :: p :: e :: ("to" : Str) :: t :: (if ss = [] then [] else ("send" : Str) :: sp (Txt.join (sepOf ("and" : Str)) ss))
def spLeadIn (c : Cs) (K : PySem.W.Frag) : Sp := fun vs H Q _ => ∃ (a : Addr) (m p e t : Str) (ss : List Str), vs = [.ref a] ∧ SqL K H a (sv (leadW m p e t ss)) ∧ Ok (.lead m p e t ss) ∧ ∀ v H', Same H H' → RowAt c K H' v (.lead m p e t ss) → Q v H'
theorem c_lead_in (Y : Ty K mg c) : Cal P w K mg base 5 "lead_in" (spLeadIn c K) [] := by
  refine Y.x.g_lead_in.cal sc_lead_in (fun vs H Q E h => ?_) (fun f cdv A outer s H vs Q E hr h => ?_) (fun _ _ _ _ _ _ us hl => match us, hl with | [_], _ => rfl)
  · obtain ⟨a, m, p, e, t, ss, rfl, S, ho, k⟩ := h
    rfl
  · obtain ⟨a, m, p, e, t, ss, rfl, S, ho, k⟩ := h
    have T := Y.x
    obtain ⟨eT, sE, M0⟩ := mk_lead0 (P := P) (w := w) (base := base) Y
    refine ⟨_, (pss_cons (ps_match (pv 0) (pms_caps rfl sc_lead_in.nd (.cons (i := 1) rfl rfl (.cons (i := 2) rfl rfl (.cons (i := 3) rfl rfl (.cons (i := 4) rfl rfl (.cons (i := 5) rfl rfl .nil))))) (pss_one (ps_ret (pe_mk M0 hr (by decide) (by rfl) (pa_cons (pv 1) (pa_cons (pv 2) (pa_cons (pv 3) (pa_cons (pv 5) pa_nil))))))) (pms_star rfl sc_lead_in.nd (.cons (i := 1) rfl rfl (.cons (i := 2) rfl rfl (.cons (i := 3) rfl rfl (.cons (i := 4) rfl rfl (.cons (i := 5) rfl rfl (.cons (i := 6) rfl rfl (.star (i := 7) rfl rfl))))))) (pss_one (ps_ret (pe_mk (mk_lead Y) hr (by decide) (by rfl) (pa_cons (pv 1) (pa_cons (pv 2) (pa_cons (pv 3) (pa_cons (pv 5) (pa_cons (pe_c (c_joined T) hr (by decide) (by rfl) (pa_cons (pv 7) (pa_cons pe_str pa_nil))) pa_nil)))))))) pms_nil rfl (by decide)))) (pss_one (ps_ret pe_non))), ?_⟩
    have hl5 : ss.length ≤ 5 := ho.2.2.2.2.1
    have hf5 : From pool ss := ho.2.2.2.2.2
    by_cases hne : ss = []
    · subst hne
      refine ⟨_, rfl, a, _, rfl, S, by show 5 ≤ 10000; decide, ?_⟩
      refine (if_pos rfl).mpr ?_
      refine ⟨_, rfl, _, rfl, _, rfl, _, rfl, fun x dx nx nd hne => ?_⟩
      refine ⟨x, dx, eT, m, p, e, t, [], rfl, upd_same, ho, .inr (sE _), initE_use nx nd fun v H' s' hv => k v H' s' hv⟩
    · have B := back_sends hne hl5 hf5
      have e1 : leadW m p e t ss = [m, p, e, ("to" : Str), t, ("send" : Str)] ++ sp (Txt.join (sepOf ("and" : Str)) ss) := by unfold leadW; rw [if_neg hne]; rfl
      have e2 : sv (leadW m p e t ss) = [.str m, .str p, .str e, .str "to", .str t, .str "send"] ++ sv (sp (Txt.join (sepOf ("and" : Str)) ss)) := by rw [e1]; rfl
      have hlen : (sv (leadW m p e t ss)).length = 6 + (sp (Txt.join (sepOf ("and" : Str)) ss)).length := by rw [e2, List.length_append, List.length_map]; rfl
      refine ⟨_, rfl, a, _, rfl, S, by have := B.n; rw [hlen]; omega, ?_⟩
      refine (if_neg (by rw [hlen]; show ¬ _ = 5; omega)).mpr ?_
      refine (if_pos (by show 6 ≤ _; rw [hlen]; omega)).mpr fun d nd => ?_
      rw [e2]
      refine ⟨_, rfl, _, rfl, _, rfl, _, rfl, _, rfl, ?_⟩
      have hd : SqL K (upd H d (.lst (List.drop 6 ([.str m, .str p, .str e, .str "to", .str t, .str "send"] ++ sv (sp (Txt.join (sepOf ("and" : Str)) ss)))))) d (sv (sp (Txt.join (sepOf ("and" : Str)) ss))) := SqL.of upd_same
      refine joined_use (l := ss) (by decide +kernel) (.inr ⟨B, d, rfl, hd⟩) fun q H2 s2 hq => ?_
      intro x dx nx nd2 hne2
      have s3 : Same H H2 := (Sn nd).trans s2
      refine ⟨x, dx, q, m, p, e, t, ss, rfl, upd_same, ho, .inl ((same_mk nx nd2).seq (SqL.of hq)), initE_use nx nd2 fun v H' s' hv => k v H' (s3.trans s') hv⟩

def spHouseIn (c : Cs) (K : PySem.W.Frag) : Sp := fun vs H Q _ => ∃ (a : Addr) (e : Str) (ts ds : List Str), vs = [.str e, .ref a] ∧ SqL K H a (sv (askW ts ++ doW ds)) ∧ Ok (.house e ts ds) ∧ ∀ v H', Same H H' → RowAt c K H' v (.house e ts ds) → Q v H'
theorem askW_ne {ts : List Str} (h : ts ≠ []) : askW ts = ("if" : Str) :: sp (Txt.join (sepOf ("and" : Str)) ts) := if_neg h
theorem doW_ne {ds : List Str} (h : ds ≠ []) : doW ds = ("do" : Str) :: sp (Txt.join (sepOf ("then" : Str)) ds) := if_neg h
theorem cp_if : Cp ["if"] := fun z h => by rw [List.mem_singleton.mp h]; decide +kernel
theorem c_house_in (Y : Ty K mg c) : Cal P w K mg base 6 "house_in" (spHouseIn c K) [] := by
  refine Y.x.g_house_in.cal sc_house_in (fun vs H Q E h => ?_) (fun f cdv A outer s H vs Q E hr h => ?_) (fun _ _ _ _ _ _ us hl => match us, hl with | [_, _], _ => rfl)
  · obtain ⟨a, e, ts, ds, rfl, S, ho, k⟩ := h
    rfl
  · obtain ⟨a, e, ts, ds, rfl, S, ho, k⟩ := h
    have T := Y.x
    refine ⟨_, (C8.pss_cut (ps_asg (pe_c (c_parted T) hr (by decide) (by rfl) (pa_cons (pv 1) (pa_cons pe_str pa_nil))) (pg_tup rfl (pgs_cons (pg_name (i := 2) sc_house_in.nd rfl (Or.inl rfl)) (pgs_cons (pg_name (i := 3) sc_house_in.nd rfl (Or.inl rfl)) pgs_nil)))) (C8.pss_cut (ps_set (i := 4) sc_house_in.nd rfl (Or.inl rfl) (pe_ifExp (pt_cmpR (op_eqSS hr.units) (pe_slice sl_W (pv 2) po_none (po_some pe_int)) (pe_lst (pa_cons pe_str pa_nil)) (nomark _)) (pe_slice sl_W (pv 2) (po_some pe_int) po_none) pe_non)) (pss_one (ps_ret (pe_mk (mk_house Y) hr (by decide) (by rfl) (pa_cons (pv 0) (pa_cons (pe_c (c_joined T) hr (by decide) (by rfl) (pa_cons (pv 4) (pa_cons pe_str pa_nil))) (pa_cons (pe_c (c_joined T) hr (by decide) (by rfl) (pa_cons (pv 3) (pa_cons pe_str pa_nil))) pa_nil)))))))), ?_⟩
    obtain ⟨_, hl1, hf1, hl2, hf2⟩ := id ho
    -- the deeds' words (dv), the head (h)
    refine ⟨fun σ H1 => ∃ h dv, σ = [some (.str e), some (.ref a), some (.ref h), some dv, none] ∧ Same H H1 ∧ SqL K H1 h (sv (askW ts)) ∧
      ((ds = [] ∧ dv = .non) ∨ (ds ≠ [] ∧ ∃ q, dv = .ref q ∧ SqL K H1 q (sv (sp (Txt.join (sepOf ("then" : Str)) ds))))), ?_, ?_⟩
    · refine ⟨_, rfl, a, "do", rfl, ?_⟩
      by_cases hd : ds = []
      · subst hd
        have e1 : askW ts ++ doW [] = askW ts := by show askW ts ++ [] = _; rw [List.append_nil]
        rw [e1] at S
        refine .inl ⟨askW ts, S, ask_no hf1, fun t H1 s1 ht => ?_⟩
        exact ⟨t, _, rfl, SqT.of ht, rfl, _, _, rfl, _, _, rfl, rfl, a, .non, rfl, s1, s1.seq S, .inl ⟨rfl, rfl⟩⟩
      · rw [doW_ne hd] at S
        refine .inr ⟨askW ts, _, S, ask_no hf1, fun t p q H1 s1 hp hq ht => ?_⟩
        exact ⟨t, _, rfl, SqT.of ht, rfl, _, _, rfl, _, _, rfl, rfl, p, .ref q, rfl, s1, SqL.of hp, .inr ⟨hd, q, rfl, SqL.of hq⟩⟩
    rintro σ H1 ⟨h, dv, rfl, s1, Sh, hdv⟩
    refine ⟨fun σ H2 => ∃ tv, σ = [some (.str e), some (.ref a), some (.ref h), some dv, some tv] ∧ Same H1 H2 ∧
      ((ts = [] ∧ tv = .non) ∨ (ts ≠ [] ∧ ∃ q, tv = .ref q ∧ SqL K H2 q (sv (sp (Txt.join (sepOf ("and" : Str)) ts))))), ?_, ?_⟩
    · refine ⟨_, rfl, 1, rfl, h, _, rfl, Sh, fun p np => ?_⟩
      refine ⟨by show 1 ≤ sizeLine; decide, fun p2 np2 => ?_⟩
      have sA : Same H1 (upd H1 p (.lst (sv (cutW (askW ts) none (some 1))))) := Sn np
      have hp := Sn (o := .lst [.str "if"]) np2 _ _ (upd_same (H := H1) (a := p))
      have ec : cutW (askW ts) none (some 1) = (askW ts).take 1 := cut_to _ 1
      have S1 : ∀ ws, cutW (askW ts) none (some 1) = ws → SqL K (upd (upd H1 p (.lst (sv (cutW (askW ts) none (some 1))))) p2 (.lst [.str "if"])) p (sv ws) := fun ws e => SqL.of (hp.trans (by rw [e]))
      by_cases ht : ts = []
      · have e1 : (askW ts).take 1 = [] := by rw [ht]; rfl
        refine ⟨p, p2, [], ["if"], rfl, rfl, .inr ⟨S1 _ (ec.trans e1), SqL.of upd_same⟩, cp_nil, cp_if, false, congrArg V.bl (by decide +kernel), iteF ?_⟩
        exact ⟨.non, rfl, sA.trans (Sn np2), .inl ⟨ht, rfl⟩⟩
      · have e1 : (askW ts).take 1 = [("if" : Str)] := by rw [askW_ne ht]; rfl
        refine ⟨p, p2, ["if"], ["if"], rfl, rfl, .inr ⟨S1 _ (ec.trans e1), SqL.of upd_same⟩, cp_if, cp_if, true, congrArg V.bl (by decide +kernel), iteT ?_⟩
        have sB := sA.trans (Sn (o := .lst [.str "if"]) np2)
        refine ⟨_, rfl, 1, rfl, h, _, rfl, sB.seq Sh, fun q nq => ?_⟩
        refine ⟨.ref q, rfl, sB.trans (Sn nq), .inr ⟨ht, q, rfl, SqL.of ?_⟩⟩
        rw [upd_same]
        have e2 : cutW (askW ts) (some 1) none = sp (Txt.join (sepOf ("and" : Str)) ts) := by
          refine (cut_from _ 1).trans ?_
          rw [askW_ne ht]; rfl
        rw [e2]
    rintro σ H2 ⟨tv, rfl, s2, htv⟩
    refine ⟨_, rfl, _, rfl, ?_⟩
    refine joined_use (l := ts) (by decide +kernel) (htv.imp (fun z => ⟨z.1, z.2⟩) fun ⟨z, q, eq, hq⟩ => ⟨back_tests z hl1 hf1, q, eq, hq⟩) fun p1 H3 s3 hp1 => ?_
    refine ⟨_, rfl, ?_⟩
    refine joined_use (l := ds) (by decide +kernel) (hdv.imp (fun z => ⟨z.1, z.2⟩) fun ⟨z, q, eq, hq⟩ => ⟨back_deeds z hl2 hf2, q, eq, (s2.trans s3).seq hq⟩) fun p2 H4 s4 hp2 => ?_
    intro x dx nx nd hne
    have s14 : Same H H4 := ((s1.trans s2).trans s3).trans s4
    refine ⟨x, dx, p1, p2, e, ts, ds, rfl, upd_same, ho, .inl ((same_mk nx nd).seq (SqL.of (s4 _ _ hp1))), .inl ((same_mk nx nd).seq (SqL.of hp2)), initE_use nx nd fun v H' s' hv => k v H' (s14.trans s') hv⟩
end
end SB

set_option maxHeartbeats 2000000
namespace SB
open PySem PySem.Spec PyProof.Rows L2
open C8 (Cal Mak Met pe_c pe_mk pe_mt pe_mt0 pe_gc InsC call_isC)

section
variable {P : Program} {w : World} {K : PySem.W.Frag} {mg : Str → Option Value} {base : Heap}
variable {c : Cs}
def spRowIn (c : Cs) (K : PySem.W.Frag) : Sp := fun vs H Q _ => ∃ (a : Addr) (r : RD), vs = [.ref a] ∧ SqL K H a (sv (toks r)) ∧ Ok r ∧ ∀ v H', Same H H' → RowAt c K H' v r → Q v H'
theorem toks_ne (r : RD) : ∃ w l, toks r = w :: l := by
  have h := PyProof.Rows.split_pos (text r) (" " : Str)
  cases q : toks r with
  | nil =>
    have q' : Txt.split (text r) (" " : Str) = [] := q
    rw [q'] at h; exact absurd h (by decide)
  | cons w l => exact ⟨w, l, rfl⟩
theorem sA {a b : Str} (h : decide (a = b) = false) : decide (V.str a = V.str b) = false := decide_eq_false fun z => of_decide_eq_false h (V.str.inj z)
theorem c_row_in (Y : Ty K mg c) : Cal P w K mg base 7 "row_in" (spRowIn c K) [] := by
  refine Y.x.g_row_in.cal sc_row_in (fun vs H Q E h => ?_) (fun f cdv A outer s H vs Q E hr h => ?_) (fun _ _ _ _ _ _ us hl => match us, hl with | [_], _ => rfl)
  · obtain ⟨a, r, rfl, S, ho, k⟩ := h
    rfl
  · obtain ⟨a, r, rfl, S, ho, k⟩ := h
    have T := Y.x
    refine ⟨_, (C8.pss_cut (ps_par (i := 1) (j := 2) rfl sc_row_in.nd rfl rfl (by decide) rfl rfl (pa_cons (pe_ix ix_W (pv 0) pe_int (fun _ _ => rfl)) (pa_cons (pe_slice sl_W (pv 0) (po_some pe_int) po_none) pa_nil)) rfl) (pss_cons (ps_if (PW.pt (pw_and (pt_cmpR op_eq (pv 1) pe_str (nomark _)) (pw_and1 (pt_cmpR op_eq (pe_callB call_len_seq (by rfl) T.m_len (by decide +kernel) (pa_cons (pv 2) pa_nil)) pe_int (nomark _))))) (pss_one (ps_ret (pe_mk (mk_first Y) hr (by decide) (by rfl) (pa_cons (pe_ix ix_W (pv 2) pe_int (fun _ _ => rfl)) pa_nil)))) pss_nil) (pss_cons (ps_if (PW.pt (pw_and (pt_cmpR op_eq (pv 1) pe_str (nomark _)) (pw_and1 (pt_cmpR op_gt (pe_callB call_len_seq (by rfl) T.m_len (by decide +kernel) (pa_cons (pv 2) pa_nil)) pe_int (nomark _))))) (pss_one (ps_ret (pe_mk (mk_mode Y) hr (by decide) (by rfl) (pa_cons (pe_ix ix_W (pv 2) pe_int (fun _ _ => rfl)) (pa_cons (pe_ifExp (pt_cmpR op_gt (pe_callB call_len_seq (by rfl) T.m_len (by decide +kernel) (pa_cons (pv 2) pa_nil)) pe_int (nomark _)) (pe_ix ix_W (pv 2) pe_int (fun _ _ => rfl)) pe_non) (pa_cons (pe_slice sl_W (pv 2) (po_some pe_int) po_none) pa_nil)))))) pss_nil) (pss_cons (ps_if (PW.pt (pw_and (pt_cmpR op_eq (pv 1) pe_str (nomark _)) (pw_and1 (pt_cmpR op_gt (pe_callB call_len_seq (by rfl) T.m_len (by decide +kernel) (pa_cons (pv 2) pa_nil)) pe_int (nomark _))))) (pss_one (ps_ret (pe_mk (mk_turn Y) hr (by decide) (by rfl) (pa_cons (pe_ix ix_W (pv 2) pe_int (fun _ _ => rfl)) (pa_cons (pe_ix ix_W (pv 2) pe_int (fun _ _ => rfl)) (pa_cons (pe_slice sl_W (pv 2) (po_some pe_int) (po_some (pe_un un_neg pe_int))) (pa_cons (pe_ix ix_W (pv 2) (pe_un un_neg pe_int) (fun _ _ => rfl)) pa_nil))))))) pss_nil) (pss_cons (ps_if (pt_cmpR op_eq (pv 1) pe_str (nomark _)) (pss_one (ps_ret (pe_c (c_lead_in Y) hr (by decide) (by rfl) (pa_cons (pv 2) pa_nil)))) pss_nil) (pss_one (ps_ret (pe_ifExp (PW.pt (pw_and (pt_cmpR op_eq (pv 1) pe_str (nomark _)) (pw_and1 (pt_cmpR op_gt (pe_callB call_len_seq (by rfl) T.m_len (by decide +kernel) (pa_cons (pv 2) pa_nil)) pe_int (nomark _))))) (pe_c (c_house_in Y) hr (by decide) (by rfl) (pa_cons (pe_ix ix_W (pv 2) pe_int (fun _ _ => rfl)) (pa_cons (pe_slice sl_W (pv 2) (po_some pe_int) po_none) pa_nil))) pe_non)))))))), ?_⟩
    refine ⟨fun σ H1 => ∃ b z l, toks r = z :: l ∧ σ = [some (.ref a), some (.str z), some (.ref b)] ∧ Same H H1 ∧ SqL K H1 b (sv l), ?_, ?_⟩
    · obtain ⟨z, l, e⟩ := toks_ne r
      rw [e] at S
      refine ⟨_, rfl, a, _, _, _, rfl, rfl, S, at_nat (i := 0) rfl, _, rfl, 1, rfl, a, _, rfl, S, fun b nb => ⟨_, _, rfl, b, z, l, e, rfl, Sn nb, SqL.of ?_⟩⟩
      rw [upd_same]
      have e1 : cutW (z :: l) (some 1) none = l := cut_from _ 1
      rw [e1]
    rintro σ H1 ⟨b, z, l, e, rfl, s1, Sb⟩
    cases r with
    | first p =>
      obtain ⟨rfl, rfl⟩ := List.cons.inj (e.symm.trans (toks_first ho))
      refine ⟨_, rfl, rfl, true, congrArg V.bl (decide_eq_true rfl), iteT ?_⟩
      refine ⟨_, rfl, b, _, rfl, .inl Sb, rfl, true, congrArg V.bl (decide_eq_true rfl), iteT ?_⟩
      refine ⟨_, rfl, b, _, 0, p, rfl, rfl, Sb, at_nat (i := 0) rfl, ?_⟩
      intro x dx nx nd hne
      exact ⟨x, dx, p, rfl, upd_same, ho, initE_use nx nd fun v H' s' hv => k v H' (s1.trans s') hv⟩
    | mode n pr es =>
      obtain ⟨rfl, rfl⟩ := List.cons.inj (e.symm.trans (toks_mode ho))
      refine ⟨_, rfl, rfl, false, congrArg V.bl (sA (by decide +kernel)), iteF (iteF ?_)⟩
      refine ⟨_, rfl, rfl, true, congrArg V.bl (decide_eq_true rfl), iteT ?_⟩
      refine ⟨_, rfl, b, _, rfl, .inl Sb, _, 0, rfl, rfl, true, congrArg V.bl (decide_eq_true (by simp [sv]; try omega)), iteT ?_⟩
      refine ⟨_, rfl, b, _, 0, n, rfl, rfl, Sb, at_nat (i := 0) rfl, ?_⟩
      obtain ⟨_, ⟨rfl, rfl⟩ | ⟨q, rfl, hq, hne, hl, hf, nd⟩⟩ := id ho
      · refine ⟨_, rfl, b, _, rfl, .inl Sb, _, 1, rfl, rfl, false, congrArg V.bl (decide_eq_false (by show ¬ (1 : Int) < ((1 : Nat) : Int); decide)), iteF ?_⟩
        refine ⟨_, rfl, 2, rfl, b, _, rfl, Sb, fun q nq => ?_⟩
        intro x dx nx nd hne
        have e1 : cutW (n :: (Option.toList (none : Option Str) ++ [])) (some 2) none = [] := cut_from _ 2
        rw [e1] at *
        exact ⟨x, dx, q, n, none, [], rfl, upd_same, ho, samA (same_mk nx nd) (.inl (SqL.of upd_same)), initE_use nx nd fun v H' s' hv => k v H' ((s1.trans (Sn nq)).trans s') hv⟩
      · refine ⟨_, rfl, b, _, rfl, .inl Sb, _, 1, rfl, rfl, true, congrArg V.bl (decide_eq_true (by show (1 : Int) < ((List.length (_ :: _ :: _) : Nat) : Int); simp; omega)), iteT ?_⟩
        refine ⟨_, rfl, b, _, 1, q, rfl, rfl, Sb, at_nat (i := 1) rfl, ?_⟩
        refine ⟨_, rfl, 2, rfl, b, _, rfl, Sb, fun l nl => ?_⟩
        intro x dx nx nd2 hne
        have hl2 : (upd H1 l (.lst (sv (cutW (n :: ((some q).toList ++ es)) (some 2) none)))) l = some (.lst (sv es)) := by
          rw [upd_same]
          have e1 : cutW (n :: ((some q).toList ++ es)) (some 2) none = es := cut_from _ 2
          rw [e1]
        exact ⟨x, dx, l, n, some q, es, rfl, upd_same, ho, samA (same_mk nx nd2) (.inl (SqL.of hl2)), initE_use nx nd2 fun v H' s' hv => k v H' ((s1.trans (Sn nl)).trans s') hv⟩
    | turn m' w' ps t =>
      obtain ⟨rfl, rfl⟩ := List.cons.inj (e.symm.trans (toks_turn ho))
      refine ⟨_, rfl, rfl, false, congrArg V.bl (sA (by decide +kernel)), iteF (iteF ?_)⟩
      refine ⟨_, rfl, rfl, false, congrArg V.bl (sA (by decide +kernel)), iteF (iteF ?_)⟩
      refine ⟨_, rfl, rfl, true, congrArg V.bl (decide_eq_true rfl), iteT ?_⟩
      refine ⟨_, rfl, b, _, rfl, .inl Sb, _, 3, rfl, rfl, true, congrArg V.bl (decide_eq_true (by simp [sv]; omega)), iteT ?_⟩
      refine ⟨_, rfl, b, _, 0, m', rfl, rfl, Sb, at_nat (i := 0) rfl, ?_⟩
      refine ⟨_, rfl, b, _, 1, w', rfl, rfl, Sb, at_nat (i := 1) rfl, ?_⟩
      refine ⟨_, rfl, 2, rfl, 2, rfl, -2, rfl, b, _, rfl, Sb, fun l nl => ?_⟩
      have hl2 : (upd H1 l (.lst (sv (cutW (m' :: w' :: (ps ++ [("to" : Str), t])) (some 2) (some (-2)))))) l = some (.lst (sv ps)) := by
        rw [upd_same, cut_mid]
      have hla : atI (m' :: w' :: (ps ++ [("to" : Str), t])) (-1) = some t := by
        have z := at_last (xs := m' :: w' :: (ps ++ [("to" : Str)])) (x := t)
        rw [List.cons_append, List.cons_append, List.append_assoc] at z
        exact z
      refine ⟨_, rfl, 1, rfl, b, _, -1, t, rfl, rfl, (Sn nl).seq Sb, hla, ?_⟩
      intro x dx nx nd2 hne
      exact ⟨x, dx, l, m', w', ps, t, rfl, upd_same, ho, samA (same_mk nx nd2) (.inl (SqL.of hl2)), initE_use nx nd2 fun v H' s' hv => k v H' ((s1.trans (Sn nl)).trans s') hv⟩
    | lead m' p e' t ss =>
      obtain ⟨rfl, rfl⟩ := List.cons.inj (e.symm.trans (toks_lead ho))
      refine ⟨_, rfl, rfl, false, congrArg V.bl (sA (by decide +kernel)), iteF (iteF ?_)⟩
      refine ⟨_, rfl, rfl, false, congrArg V.bl (sA (by decide +kernel)), iteF (iteF ?_)⟩
      refine ⟨_, rfl, rfl, false, congrArg V.bl (sA (by decide +kernel)), iteF (iteF ?_)⟩
      refine ⟨_, rfl, rfl, true, congrArg V.bl (decide_eq_true rfl), iteT ?_⟩
      exact ⟨_, rfl, b, m', p, e', t, ss, rfl, Sb, ho, fun v H' s' hv => k v H' (s1.trans s') hv⟩
    | house e' ts ds =>
      obtain ⟨rfl, rfl⟩ := List.cons.inj (e.symm.trans (toks_house ho))
      refine ⟨_, rfl, rfl, false, congrArg V.bl (sA (by decide +kernel)), iteF (iteF ?_)⟩
      refine ⟨_, rfl, rfl, false, congrArg V.bl (sA (by decide +kernel)), iteF (iteF ?_)⟩
      refine ⟨_, rfl, rfl, false, congrArg V.bl (sA (by decide +kernel)), iteF (iteF ?_)⟩
      refine ⟨_, rfl, rfl, false, congrArg V.bl (sA (by decide +kernel)), iteF ?_⟩
      refine ⟨_, rfl, rfl, true, congrArg V.bl (decide_eq_true rfl), iteT ?_⟩
      refine ⟨_, rfl, b, _, rfl, .inl Sb, _, 0, rfl, rfl, true, congrArg V.bl (decide_eq_true (by simp [sv]; try omega)), iteT ?_⟩
      refine ⟨_, rfl, b, _, 0, e', rfl, rfl, Sb, at_nat (i := 0) rfl, ?_⟩
      refine ⟨_, rfl, 1, rfl, b, _, rfl, Sb, fun l nl => ?_⟩
      have hl2 : (upd H1 l (.lst (sv (cutW (e' :: (askW ts ++ doW ds)) (some 1) none)))) l = some (.lst (sv (askW ts ++ doW ds))) := by
        rw [upd_same]
        have e1 : cutW (e' :: (askW ts ++ doW ds)) (some 1) none = askW ts ++ doW ds := cut_from _ 1
        rw [e1]
      exact ⟨l, e', ts, ds, rfl, SqL.of hl2, ho, fun v H' s' hv => k v H' ((s1.trans (Sn nl)).trans s') hv⟩
end
end SB

set_option maxHeartbeats 2000000
namespace SB
open PySem PySem.Spec PyProof.Rows L2
open C8 (Cal Mak Met pe_c pe_mk pe_mt pe_mt0 pe_gc InsC call_isC)

section
variable {P : Program} {w : World} {K : PySem.W.Frag} {mg : Str → Option Value} {base : Heap}
variable {c : Cs}
structure Vx (K : PySem.W.Frag) (mg : Str → Option Value) (c : Cs) : Prop where
  u : Ux K mg c
  read : ∃ mc p g fd, ClX.CRead K c.row mc ∧ ClX.CMet K c.row mc "read" p g ∧ Fun K "read" "Row.read" s_Row_read g fd
theorem len_text {r : RD} (h : Ok r) : (text r).length ≤ 30000 := by
  obtain ⟨h1, h2⟩ := len_parts h
  have h3 := join_len (" " : Str) (parts r)
  have h4 := sum_le h2
  have e1 : (" " : Str).length = 1 := by decide +kernel
  rw [e1] at h3
  show (jn (parts r)).length ≤ _
  have h5 : (jn (parts r)).length ≤ ((parts r).map (·.length)).sum + (parts r).length * 1 := h3
  omega
def spRead (c : Cs) (K : PySem.W.Frag) : Sp := fun vs H Q _ => ∃ (x : V) (r : RD), vs = [x, .str (text r)] ∧ Ok r ∧ ∀ v H', Same H H' → RowAt c K H' v r → Q v H'
theorem c_row_read (U : Ux K mg c) {g : Addr} {fd : FuncData} (F : Fun K "read" "Row.read" s_Row_read g fd) : FnR P w K mg base CX0 8 g (spRead c K) := by
  have Y := U.z.y
  have T := Y.x
  have G : FnOk P w K mg base CX0 8 g fd ["cls", "text"] (spRead c K) := by
    refine F.ok sc_Row_read (fun vs H Q E h => ?_) (fun cdv A outer s H vs Q E hr h => ?_)
    · obtain ⟨x, r, rfl, _⟩ := h
      rfl
    · obtain ⟨x, r, rfl, ho, k⟩ := h
      refine ⟨_, (pss_cons (ps_set (i := 2) sc_Row_read.nd rfl (Or.inl rfl) (pe_split (pv 1) pe_str)) (pss_cons (ps_try_thru0 (pss_one (ps_set (i := 3) sc_Row_read.nd rfl (Or.inl rfl) (pe_c (c_row_in Y) hr (by decide) (by rfl) (pa_cons (pv 2) pa_nil))))) (pss_cons (ps_if (PW.pt (pw_or (pt_cmpR op_isN (pv 3) pe_non (nomark _)) (pw_or1 (pt_cmpR op_ne (pe_callTy (call_strR U.z (hr.mono (by decide))) (by rfl) T.m_str (by decide +kernel) (pa_cons (pv 3) pa_nil)) (pv 1) (nomark _))))) (pss_one ps_never) pss_nil) (pss_one (ps_ret (pv 3)))))), ?_⟩
      refine ⟨_, rfl, ⟨_, rfl⟩, _, _, rfl, rfl, by decide +kernel, Nat.le_trans (Nat.add_le_add_right (len_text ho) 2) (by decide), fun p np => ?_⟩
      refine ⟨_, rfl, p, r, rfl, SqL.of upd_same, ho, fun v H1 s1 hv => ?_⟩
      have s2 := (Sn np).trans s1
      obtain ⟨a, dx, t, u, rfl, ha, h1, h2⟩ := id hv
      refine ⟨_, rfl, rfl, false, rfl, iteF ?_⟩
      refine ⟨_, rfl, _, r, rfl, hv, ho, fun H2 s3 => ⟨_, rfl, rfl, false, ?_, iteF ?_⟩⟩
      · rw [decide_eq_true rfl]; rfl
      exact ⟨_, rfl, k _ H2 (s2.trans s3) (hv.sm s3)⟩
  exact (G.raw (F.binds (fun _ _ _ _ _ _ us hl => match us, hl with | [_, _], _ => rfl)) .nil).imp fun vs H Q E h => by rw [List.append_nil]; exact h
end
end SB

set_option maxHeartbeats 2000000
namespace SB
open PySem PySem.Spec PyProof.Rows L2
open C8 (Cal Mak Met pe_c pe_mk pe_mt pe_mt0 pe_gc InsC call_isC)

section
variable {X : Cx}
theorem ps_setLx {i : Nat} {y : Str} {py : Pos} {elt tg iter : Expr} {ifs : List Expr} {scope : Scope} {own : List (Str × Nat)} {pos spos : Pos} {wi : TI} {g : TG} {tt : TT} {te : TE} (hc : X.calm = true) (hN : X.N.Nodup) (hy : X.N[i]? = some y) (hyl : X.env.scope.names.lookup y = some .local)
    (hsw : swapsWith (.ListComp elt [⟨tg, iter, ifs, 0⟩] scope pos) (some (.Name y py)) spos.line X.env = pure true) (hi : PI X tg iter wi) (ok : BlkOk X.N X.env.scope scope own)
    (hg : ∀ (s : Shared) (H : Hp) (C : Addr) (cl : List (Str × Addr)) (fp : List Addr), PG (X.blk s H scope (compEnvC scope cl C X.env) fp) tg g) (ht : ∀ (s : Shared) (H : Hp) (C : Addr) (cl : List (Str × Addr)) (fp : List Addr), PTs (X.blk s H scope (compEnvC scope cl C X.env) fp) ifs tt)
    (he : ∀ (s : Shared) (H : Hp) (C : Addr) (cl : List (Str × Addr)) (fp : List Addr), PE (X.blk s H scope (compEnvC scope cl C X.env) fp) elt te) (hs : ∀ x, foldedSetIterable iter X.env x = pure x := by intro _; rfl) :
    PS X (.Assign [.Name y py] (.ListComp elt [⟨tg, iter, ifs, 0⟩] scope pos) spos) (tAsg (tLx wi g tt te (own.map (·.2))) (gName i)) := ps_setLc hc hN hy hyl hsw hi ok hg ht he hs
end
section
variable {X : Cx}
/-- len of a list or a tuple -/
def rLenS (K : PySem.W.Frag) : List V → Hp → VK → Prop := fun xs H Q => ∃ (p : Addr) (ys : List V), xs = [.ref p] ∧ SqA K H p ys ∧ Q (.int ys.length) H
theorem call_lenS : CallR X (.builtin "len") (rLenS X.K) := callImp call_len_seq fun xs H Q ⟨p, ys, e, S, q⟩ => ⟨p, ys, e, S, q⟩
end
theorem fm_filter (p : Str → Bool) : ∀ ws : List Str, (sv ws).filterMap (onS fun z => if p z = true then some (.str z) else none) = sv (ws.filter p)
  | [] => rfl
  | w :: ws => by
    show List.filterMap _ (V.str w :: sv ws) = _
    rw [List.filterMap_cons]
    have e : onS (fun z => if p z = true then some (.str z) else none) (V.str w) = if p w = true then some (.str w) else none := rfl
    rw [e, List.filter_cons, fm_filter p ws]
    by_cases h : p w = true
    · rw [if_pos h, if_pos h]; rfl
    · rw [if_neg h, if_neg h]
/-- the names behind the words -/
def nbw (words : List Str) : List Str → Option Str
  | [w, n] => if words.contains w = true then some n else none
  | _ => none
def nb1 (words : List Str) (t : Str) : Option Str := nbw words (Txt.split (Txt.removeprefix t "not ") " ")
def nb (words texts : List Str) : List Str := texts.filterMap (nb1 words)
def placesD : RD → List Str
  | .first p => [p]
  | .mode _ _ es => es
  | .turn _ _ ps _ => ps
  | .lead _ p _ t _ => [p, t].filter fun z => !w_PLACELESS.contains z
  | .house _ _ _ => []
def lettersD : RD → List Str
  | .lead _ _ e _ ss => (e :: ss).filter fun z => !w_EVENTS.contains z
  | .house e _ ds => (e :: nb ["send"] ds).filter fun z => !w_EVENTS.contains z
  | _ => []
def phasesD : RD → List Str
  | .house _ ts ds => (nb ["at", "to"] (ts ++ ds)).filter fun z => !decide (z = "none")
  | _ => []
def marksD : RD → List Str
  | .house _ ts ds => nb ["marked", "mark", "clear"] (ts ++ ds)
  | _ => []
section
variable {P : Program} {w : World} {K : PySem.W.Frag} {mg : Str → Option Value} {base : Heap}
variable {c : Cs}
def spTwins (K : PySem.W.Frag) : Sp := fun vs H Q _ => ∃ (a : Addr) (ws : List Str), vs = [.ref a] ∧ SqA K H a (sv ws) ∧ ws.length ≤ 10000 ∧ ∀ H' b, Same H H' → (b = true ↔ ¬ ws.Nodup) → Q (.bl b) H'
theorem c_has_twins (T : Tx K mg) : Cal P w K mg base 1 "has_twins" (spTwins K) [] := by
  refine T.g_has_twins.cal sc_has_twins (fun vs H Q E h => ?_) (fun f cdv A outer s H vs Q E hr h => ?_) (fun _ _ _ _ _ _ us hl => match us, hl with | [_], _ => rfl)
  · obtain ⟨a, ws, rfl, S, sz, k⟩ := h
    rfl
  · obtain ⟨a, ws, rfl, S, sz, k⟩ := h
    refine ⟨_, (pss_one (ps_ret (pe_cmpR op_lt (pe_callB call_lenD (by rfl) T.m_len (by decide +kernel) (pa_cons (pe_dx (own := [("name", 1)]) (g := gName 1) (tt := tYes) (by rfl) sc_has_twins.nd (pi_seq (pv 0)) (blkOk_by (N := n_has_twins) (sc := defScope s_has_twins) (by decide +kernel)) (fun _ _ _ _ _ => pg_name (i := 1) sc_has_twins.nd rfl (Or.inl rfl)) (fun _ _ _ _ _ => pts_nil) (fun _ _ _ _ _ => (pv 1)) (fun _ _ _ _ _ => pe_bl)) pa_nil)) (pe_callB call_len_seq (by rfl) T.m_len (by decide +kernel) (pa_cons (pv 0) pa_nil)) (nomark _)))), ?_⟩
    refine ⟨_, rfl, dc_set S (Nat.le_trans sz (by decide)) (fun _ => trivial) (fun _ => rfl) (fun x H N n => ⟨x, rfl, n⟩) fun D H2 nD s2 hD => ?_⟩
    refine ⟨D, _, rfl, hD, _, rfl, a, _, rfl, samA s2 S, _, _, rfl, rfl, k H2 _ s2 ?_⟩
    rw [setD_len, List.length_map, decide_eq_true_iff]
    have h1 := keysD_le ws
    constructor
    · intro h nd
      rw [keysD_id nd] at h
      exact absurd h (by omega)
    · intro h
      have h2 : (keysD ws).length ≠ ws.length := fun e => h (keysD_twin e)
      omega
/-- [z for z in texts if ..]: the turn -/
theorem filt_use {a : Addr} {ws : List Str} {g : TG} {tt : TT} {te : TE} {vs : List Nat} {σ : Sg} {H1 : Hp} {Q : VK} (p : Str → Bool) (S : SqA K H1 a (sv ws)) (sz : ws.length ≤ 100000)
    (hs : ∀ z H (N : VK) (M : Hp → Prop), z ∈ ws → Same H1 H → (∀ H', Same H H' → p z = true → N (.str z) H') → (∀ H', Same H H' → p z = false → M H') →
      g (.str z) (wipe σ vs) H fun σ2 H2 => wipe σ2 vs = wipe σ vs ∧ tt σ2 H2 fun b H3 => if b = true then te σ2 H3 N else M H3)
    (hd : ∀ D H, H1 D = none → Same H1 H → H D = some (.lst (sv (ws.filter p))) → Q (.ref D) H) : SeqR K (LcR g tt te vs σ Q) (.ref a) H1 := by
  refine lc_fun (onS fun z => if p z = true then some (.str z) else none) S (by rw [List.length_map]; exact Nat.lt_of_le_of_lt sz (by decide)) ?_ ?_
  · intro D i x acc H nD hx s1 hD N M kN kM
    obtain ⟨z, hz, rfl⟩ := get_str hx
    refine hs z H N M (memi hz) s1 (fun H' s' e => kN _ H' s' ?_) fun H' s' e => kM H' s' ?_
    · show (if p z = true then some (V.str z) else none) = _
      rw [if_pos e]
    · show (if p z = true then some (V.str z) else none) = _
      rw [if_neg (by rw [e]; exact Bool.false_ne_true)]
  · intro D H nD s1 hD
    rw [fm_filter] at hD
    exact hd D H nD s1 hD
def spNb (K : PySem.W.Frag) : Sp := fun vs H Q _ => ∃ (a b : Addr) (ts ws : List Str), vs = [.ref a, .ref b] ∧ SqA K H a (sv ts) ∧ SqA K H b (sv ws) ∧ ts.length ≤ 1000 ∧ (∀ t ∈ ts, t.length ≤ 1000) ∧ ∀ D H', Same H H' → H D = none → H' D = some (.lst (sv (nb ws ts))) → Q (.ref D) H'
theorem c_names_behind (T : Tx K mg) : Cal P w K mg base 1 "names_behind" (spNb K) [] := by
  refine T.g_names_behind.cal sc_names_behind (fun vs H Q E h => ?_) (fun f cdv A outer s H vs Q E hr h => ?_) (fun _ _ _ _ _ _ us hl => match us, hl with | [_, _], _ => rfl)
  · obtain ⟨a, b, ts, ws, rfl, S, S2, sz, lz, k⟩ := h
    rfl
  · obtain ⟨a, b, ts, ws, rfl, S, S2, sz, lz, k⟩ := h
    refine ⟨_, (pss_cons (ps_setLx (i := 2) (own := [("text", 3)]) (g := gName 3) (tt := tYes) (by rfl) sc_names_behind.nd rfl rfl (sw_true rfl rfl rfl (by decide +kernel)) (pi_seq (pv 0)) (blkOk_by (N := n_names_behind) (sc := defScope s_names_behind) (by decide +kernel)) (fun _ _ _ _ _ => pg_name (i := 3) sc_names_behind.nd rfl (Or.inl rfl)) (fun _ _ _ _ _ => pts_nil) (fun _ _ _ _ _ => (pe_split (pe_m1 PySem.F.slot_str_removeprefix PySem.F.type_str_removeprefix mt_removeprefix (pv 3) pe_str) pe_str))) (pss_one (ps_ret (pe_lx (own := [("parts", 4)]) (g := gName 4) (by rfl) sc_names_behind.nd (pi_seq (pv 2)) (blkOk_by (N := n_names_behind) (sc := defScope s_names_behind) (by decide +kernel)) (fun _ _ _ _ _ => pg_name (i := 4) sc_names_behind.nd rfl (Or.inl rfl)) (fun _ _ _ _ _ => pts_one (PW.pt (pw_and (pt_cmpR op_eq (pe_callB (r := rLenS K) call_lenS (by rfl) T.m_len (by decide +kernel) (pa_cons (pv 4) pa_nil)) pe_int (nomark _)) (pw_and1 (pt_cmpR (r := rInW K false) op_inW (pe_ix (r := rIxW K) ix_W (pv 4) pe_int (fun _ _ => rfl)) (pv 1) (by rfl)))))) (fun _ _ _ _ _ => (pe_ix (r := rIxW K) ix_W (pv 4) pe_int (fun _ _ => rfl))))))), ?_⟩
    have S' : SqA K H a (sv ts) := S
    refine ⟨_, rfl, lc_seq S (by rw [List.length_map]; exact small_lt sz) (fun D i acc H2 => acc.length = i ∧ ∀ j t, ts[j]? = some t → j < i → ∃ p, acc[j]? = some (.ref p) ∧ p ≠ D ∧ H2 p = some (.lst (sv (Txt.split (Txt.removeprefix t "not ") " "))))
      (fun D nD => ⟨rfl, fun j t _ h => absurd h (Nat.not_lt_zero _)⟩) ?_ ?_⟩
    · intro D i x acc H2 nD hx s2 hD pr N M kN kM
      obtain ⟨z, hz, rfl⟩ := get_str hx
      obtain ⟨pl, pr⟩ := pr
      have lz' : z.length ≤ 1000 := lz z (memi hz)
      refine ⟨rfl, _, rfl, ⟨_, rfl⟩, z, _, rfl, rfl, Nat.le_trans lz' (by decide), ⟨_, rfl⟩, _, _, rfl, rfl, by decide +kernel, Nat.le_trans (Nat.add_le_add_right (Nat.le_trans (PyProof.Rows.len_removeprefix _ _) lz') 2) (by decide), fun p np => ?_⟩
      refine kN _ _ (Sn np) ?_
      have hne : p ≠ D := fun e => by rw [e, hD] at np; cases np
      refine ⟨by rw [List.length_append, pl]; rfl, fun j t ht hj => ?_⟩
      by_cases hji : j < i
      · obtain ⟨q, h1, h2, h3⟩ := pr j t ht hji
        refine ⟨q, by rw [List.getElem?_append_left (by omega)]; exact h1, h2, ?_⟩
        rw [upd_ne h2, upd_ne (ne_of_none h3 np)]; exact h3
      · have e : j = i := by omega
        subst e
        rw [hz] at ht
        cases ht
        refine ⟨p, by rw [← pl, List.getElem?_append_right (Nat.le_refl _), Nat.sub_self]; rfl, hne, ?_⟩
        rw [upd_ne hne, upd_same]
    · intro D acc H2 nD s2 hD hl pr
      rw [List.length_map] at pr
      obtain ⟨pl, pr⟩ := pr
      refine ⟨_, rfl, lc_seq (lstA hD) (by rw [pl]; exact small_lt sz) (fun _ i acc' _ => acc' = sv (nb ws (ts.take i))) (fun _ _ => rfl) ?_ ?_⟩
      · intro D2 i x acc' H3 nD2 hx s3 hD2 pp N M kN kM
        have hi : i < ts.length := by rw [← pl]; exact (List.getElem?_eq_some_iff.mp hx).1
        have ht : ts[i]? = some ts[i] := List.getElem?_eq_getElem hi
        obtain ⟨q, h1, h2, h3⟩ := pr i _ ht hi
        rw [h1] at hx
        cases hx
        have hq := s3 _ _ h3
        have pp' : acc' = sv (nb ws (ts.take i)) := pp
        have yes : ∀ n, nb1 ws ts[i] = some n → acc' ++ [.str n] = sv (nb ws (ts.take (i + 1))) := fun n e => by
          rw [pp', take_more ht]
          unfold nb
          rw [List.filterMap_append, List.filterMap_cons, e]
          show _ = List.map V.str (_ ++ [n])
          rw [List.map_append]; rfl
        have nope : nb1 ws ts[i] = none → acc' = sv (nb ws (ts.take (i + 1))) := fun e => by
          rw [pp', take_more ht]
          unfold nb
          rw [List.filterMap_append, List.filterMap_cons, e]; simp
        have lw : (Txt.split (Txt.removeprefix ts[i] "not ") " ").length ≤ 10000 := by
          have h1 := lz _ (memi ht)
          exact Nat.le_trans (PyProof.Rows.split_le _ _) (by have := PyProof.Rows.len_removeprefix ts[i] "not "; omega)
        generalize hsp : Txt.split (Txt.removeprefix ts[i] "not ") " " = wl at hq lw
        have e1 : nb1 ws ts[i] = nbw ws wl := congrArg (nbw ws) hsp
        clear hsp
        refine ⟨rfl, _, rfl, q, _, rfl, lstA hq, rfl, ?_⟩
        by_cases h2l : wl.length = 2
        · match wl, h2l, e1, hq with
          | [w1, w2], _, e1, hq =>
            refine ⟨true, congrArg V.bl (decide_eq_true rfl), iteT ?_⟩
            refine ⟨_, rfl, q, _, 0, w1, rfl, rfl, SqL.of hq, at_nat (i := 0) rfl, _, rfl, w1, b, ws, rfl, rfl, samA (s2.trans s3) S2, ws.contains w1, rfl, ?_⟩
            refine ite2 (fun hc => ?_) (fun hc => ?_)
            · refine ⟨_, rfl, q, _, 1, w2, rfl, rfl, SqL.of hq, at_nat (i := 1) rfl, kN _ _ (Same.refl _) (yes w2 ?_)⟩
              rw [e1]; exact if_pos hc
            · refine kM _ (Same.refl _) (nope ?_)
              rw [e1]; exact if_neg hc
        · refine ⟨false, congrArg V.bl (decide_eq_false fun e => h2l ?_), iteF ?_⟩
          · have e' := V.int.inj e
            rw [List.length_map] at e'
            omega
          · refine iteF (kM _ (Same.refl _) (nope ?_))
            rw [e1]
            match wl, h2l with
            | [], _ => rfl
            | [_], _ => rfl
            | [_, _], h => exact (h rfl).elim
            | _ :: _ :: _ :: _, _ => rfl
      · intro D2 acc' H3 nD2 s3 hD2 hl2 pp
        have pp' : acc' = sv (nb ws (ts.take acc.length)) := pp
        rw [pl, List.take_length] at pp'
        rw [pp'] at hD2
        exact k D2 H3 (s2.trans s3) (s2.free nD2) hD2
end
end SB

set_option maxHeartbeats 2000000
namespace SB
open PySem PySem.Spec PyProof.Rows L2
open C8 (Cal Mak Met pe_c pe_mk pe_mt pe_mt0 pe_gc InsC call_isC)

section
variable {X : Cx}
def rLiA (K : PySem.W.Frag) : List V → Hp → VK → Prop := fun xs H Q => ∃ (p : Addr) (ys : List V), xs = [.ref p] ∧ SqA K H p ys ∧ ∀ l, H l = none → Q (.ref l) (upd H l (.lst ys))
theorem call_listA : CallR X (.type "list") (rLiA X.K) := callImp call_list_of fun xs H Q ⟨p, ys, e, S, q⟩ => ⟨p, ys, e, S, q⟩
end
section
variable {P : Program} {w : World} {K : PySem.W.Frag} {mg : Str → Option Value} {base : Heap}
variable {c : Cs}
/-- a def of one row that makes a list of texts -/
def spRowL (c : Cs) (K : PySem.W.Frag) (f : RD → List Str) : Sp := fun vs H Q _ => ∃ (v : V) (r : RD), vs = [v] ∧ RowAt c K H v r ∧ Ok r ∧ ∀ D H', Same H H' → H D = none → H' D = some (.lst (sv (f r))) → Q (.ref D) H'
theorem c_places_in (U : Ux K mg c) : Cal P w K mg base 1 "places_in" (spRowL c K placesD) [] := by
  refine U.z.y.x.g_places_in.cal sc_places_in (fun vs H Q E h => ?_) (fun f cdv A outer s H vs Q E hr h => ?_) (fun _ _ _ _ _ _ us hl => match us, hl with | [_], _ => rfl)
  · obtain ⟨v, r, rfl, hv, ho, k⟩ := h
    rfl
  · obtain ⟨v, r, rfl, hv, ho, k⟩ := h
    have Y := U.z.y
    have T := Y.x
    obtain ⟨bP, mP, sP⟩ := T.k_PLACELESS
    refine ⟨_, (pss_cons (ps_if (pt_val (pe_callB (call_isR U U.of_first) (by rfl) T.m_isinstance (by decide +kernel) (pa_cons (pv 0) (pa_cons (pe_gc (v := .ref c.first) (by rfl) ⟨_, U.n_first, rfl⟩) pa_nil)))) (pss_one (ps_ret (pe_lst (pa_cons (pe_fo (ks := kFirst) 0 (pv 0) Y.k_first.cl (Y.k_first.na "place" (by decide +kernel)) (by decide +kernel)) pa_nil)))) pss_nil) (pss_cons (ps_if (pt_val (pe_callB (call_isR U U.of_mode) (by rfl) T.m_isinstance (by decide +kernel) (pa_cons (pv 0) (pa_cons (pe_gc (v := .ref c.mode) (by rfl) ⟨_, U.n_mode, rfl⟩) pa_nil)))) (pss_one (ps_ret (pe_callTy call_listA (by rfl) T.m_list (by decide +kernel) (pa_cons (pe_fo (ks := kMode) 2 (pv 0) Y.k_mode.cl (Y.k_mode.na "ends" (by decide +kernel)) (by decide +kernel)) pa_nil)))) pss_nil) (pss_cons (ps_if (pt_val (pe_callB (call_isR U U.of_turn) (by rfl) T.m_isinstance (by decide +kernel) (pa_cons (pv 0) (pa_cons (pe_gc (v := .ref c.turn) (by rfl) ⟨_, U.n_turn, rfl⟩) pa_nil)))) (pss_one (ps_ret (pe_callTy call_listA (by rfl) T.m_list (by decide +kernel) (pa_cons (pe_fo (ks := kTurn) 2 (pv 0) Y.k_turn.cl (Y.k_turn.na "places" (by decide +kernel)) (by decide +kernel)) pa_nil)))) pss_nil) (pss_cons (ps_if (pt_val (pe_callB (call_isR U U.of_lead) (by rfl) T.m_isinstance (by decide +kernel) (pa_cons (pv 0) (pa_cons (pe_gc (v := .ref c.lead) (by rfl) ⟨_, U.n_lead, rfl⟩) pa_nil)))) (pss_one (ps_ret (pe_lx (own := [("place", 1)]) (g := gName 1) (by rfl) sc_places_in.nd (pi_seq (pe_tup (pa_cons (pe_fo (ks := kLead) 1 (pv 0) Y.k_lead.cl (Y.k_lead.na "place" (by decide +kernel)) (by decide +kernel)) (pa_cons (pe_fo (ks := kLead) 3 (pv 0) Y.k_lead.cl (Y.k_lead.na "then" (by decide +kernel)) (by decide +kernel)) pa_nil)))) (blkOk_by (N := n_places_in) (sc := defScope s_places_in) (by decide +kernel)) (fun _ _ _ _ _ => pg_name (i := 1) sc_places_in.nd rfl (Or.inl rfl)) (fun _ _ _ _ _ => pts_one (pt_cmpR (r := rInW K true) op_niW (pv 1) (pe_gc (v := .ref bP) (by rfl) ⟨_, mP, rfl⟩) (by rfl))) (fun _ _ _ _ _ => (pv 1))))) pss_nil) (pss_one (ps_ret (pe_lst pa_nil))))))), ?_⟩
    obtain ⟨a, dx, t, u, rfl, ha, h1, h2⟩ := id hv
    cases r with
    | first p =>
      refine ⟨_, rfl, _, _, rfl, hv, true, rfl, iteT ?_⟩
      exact ⟨_, rfl, a, dx, _, _, rfl, ha, rfl, by show 1 ≤ sizeLine; decide, fun D nD => k D _ (Sn nD) nD upd_same⟩
    | mode n pr es =>
      refine ⟨_, rfl, _, _, rfl, hv, false, rfl, iteF ?_⟩
      refine ⟨_, rfl, _, _, rfl, hv, true, rfl, iteT ?_⟩
      exact ⟨_, rfl, a, dx, _, _, rfl, ha, rfl, t, _, rfl, .inr (h1 rfl), fun D nD => k D _ (Sn nD) nD upd_same⟩
    | turn m w ps th =>
      refine ⟨_, rfl, _, _, rfl, hv, false, rfl, iteF ?_⟩
      refine ⟨_, rfl, _, _, rfl, hv, false, rfl, iteF ?_⟩
      refine ⟨_, rfl, _, _, rfl, hv, true, rfl, iteT ?_⟩
      exact ⟨_, rfl, a, dx, _, _, rfl, ha, rfl, t, _, rfl, .inr (h1 rfl), fun D nD => k D _ (Sn nD) nD upd_same⟩
    | lead m p e th ss =>
      refine ⟨_, rfl, _, _, rfl, hv, false, rfl, iteF ?_⟩
      refine ⟨_, rfl, _, _, rfl, hv, false, rfl, iteF ?_⟩
      refine ⟨_, rfl, _, _, rfl, hv, false, rfl, iteF ?_⟩
      refine ⟨_, rfl, _, _, rfl, hv, true, rfl, iteT ?_⟩
      refine ⟨_, rfl, a, dx, _, _, rfl, ha, rfl, _, rfl, a, dx, _, _, rfl, ha, rfl, by show 2 ≤ sizeLine; decide, fun tp nt => ?_⟩
      refine filt_use (ws := [p, th]) (fun z => !w_PLACELESS.contains z) (tupA upd_same) (by show 2 ≤ 100000; decide) ?_ ?_
      · intro z H2 N M hz s2 kN kM
        refine ⟨rfl, _, rfl, z, bP, _, rfl, rfl, .inr (sP _), _, rfl, ?_⟩
        refine ite2 (fun hc => ?_) (fun hc => ?_)
        · exact ⟨_, rfl, kN _ (Same.refl _) hc⟩
        · exact kM _ (Same.refl _) (Bool.eq_false_iff.mpr hc)
      · intro D H2 nD s2 hD
        exact k D H2 ((Sn nt).trans s2) ((Sn nt).free nD) hD
    | house e ts ds =>
      refine ⟨_, rfl, _, _, rfl, hv, false, rfl, iteF ?_⟩
      refine ⟨_, rfl, _, _, rfl, hv, false, rfl, iteF ?_⟩
      refine ⟨_, rfl, _, _, rfl, hv, false, rfl, iteF ?_⟩
      refine ⟨_, rfl, _, _, rfl, hv, false, rfl, iteF ?_⟩
      exact ⟨Nat.zero_le _, fun D nD => k D _ (Sn nD) nD upd_same⟩
theorem nb_len (ws ts : List Str) : (nb ws ts).length ≤ ts.length := List.length_filterMap_le _ _
theorem c_letters_in (U : Ux K mg c) : Cal P w K mg base 2 "letters_in" (spRowL c K lettersD) [] := by
  refine U.z.y.x.g_letters_in.cal sc_letters_in (fun vs H Q E h => ?_) (fun f cdv A outer s H vs Q E hr h => ?_) (fun _ _ _ _ _ _ us hl => match us, hl with | [_], _ => rfl)
  · obtain ⟨v, r, rfl, hv, ho, k⟩ := h
    rfl
  · obtain ⟨v, r, rfl, hv, ho, k⟩ := h
    have Y := U.z.y
    have T := Y.x
    obtain ⟨bE, mE, sE⟩ := T.k_EVENTS
    refine ⟨_, (pss_cons (ps_if (pt_val (pe_callB (call_isR U U.of_lead) (by rfl) T.m_isinstance (by decide +kernel) (pa_cons (pv 0) (pa_cons (pe_gc (v := .ref c.lead) (by rfl) ⟨_, U.n_lead, rfl⟩) pa_nil)))) (pss_one (ps_ret (pe_lx (own := [("word", 1)]) (g := gName 1) (by rfl) sc_letters_in.nd (pi_seq (pe_tup (pa_cons (pe_fo (ks := kLead) 2 (pv 0) Y.k_lead.cl (Y.k_lead.na "event" (by decide +kernel)) (by decide +kernel)) (StX.pa_star (pe_fo (ks := kLead) 4 (pv 0) Y.k_lead.cl (Y.k_lead.na "sends" (by decide +kernel)) (by decide +kernel)) pa_nil)))) (blkOk_by (N := n_letters_in) (sc := defScope s_letters_in) (by decide +kernel)) (fun _ _ _ _ _ => pg_name (i := 1) sc_letters_in.nd rfl (Or.inl rfl)) (fun _ _ _ _ _ => pts_one (pt_cmpR (r := rInW K true) op_niW (pv 1) (pe_gc (v := .ref bE) (by rfl) ⟨_, mE, rfl⟩) (by rfl))) (fun _ _ _ _ _ => (pv 1))))) pss_nil) (pss_cons (ps_if (pt_val (pe_callB (call_isR U U.of_house) (by rfl) T.m_isinstance (by decide +kernel) (pa_cons (pv 0) (pa_cons (pe_gc (v := .ref c.house) (by rfl) ⟨_, U.n_house, rfl⟩) pa_nil)))) (pss_one (ps_ret (pe_lx (own := [("word", 1)]) (g := gName 1) (by rfl) sc_letters_in.nd (pi_seq (pe_tup (pa_cons (pe_fo (ks := kHouse) 0 (pv 0) Y.k_house.cl (Y.k_house.na "event" (by decide +kernel)) (by decide +kernel)) (StX.pa_star (pe_c (c_names_behind T) hr (by decide) (by rfl) (pa_cons (pe_fo (ks := kHouse) 2 (pv 0) Y.k_house.cl (Y.k_house.na "deeds" (by decide +kernel)) (by decide +kernel)) (pa_cons (pe_lst (pa_cons pe_str pa_nil)) pa_nil))) pa_nil)))) (blkOk_by (N := n_letters_in) (sc := defScope s_letters_in) (by decide +kernel)) (fun _ _ _ _ _ => pg_name (i := 1) sc_letters_in.nd rfl (Or.inl rfl)) (fun _ _ _ _ _ => pts_one (pt_cmpR (r := rInW K true) op_niW (pv 1) (pe_gc (v := .ref bE) (by rfl) ⟨_, mE, rfl⟩) (by rfl))) (fun _ _ _ _ _ => (pv 1))))) pss_nil) (pss_one (ps_ret (pe_lst pa_nil))))), ?_⟩
    obtain ⟨a, dx, t, u, rfl, ha, h1, h2⟩ := id hv
    cases r with
    | first p =>
      refine ⟨_, rfl, _, _, rfl, hv, false, rfl, iteF ?_⟩
      refine ⟨_, rfl, _, _, rfl, hv, false, rfl, iteF ?_⟩
      exact ⟨Nat.zero_le _, fun D nD => k D _ (Sn nD) nD upd_same⟩
    | mode n pr es =>
      refine ⟨_, rfl, _, _, rfl, hv, false, rfl, iteF ?_⟩
      refine ⟨_, rfl, _, _, rfl, hv, false, rfl, iteF ?_⟩
      exact ⟨Nat.zero_le _, fun D nD => k D _ (Sn nD) nD upd_same⟩
    | turn m w ps th =>
      refine ⟨_, rfl, _, _, rfl, hv, false, rfl, iteF ?_⟩
      refine ⟨_, rfl, _, _, rfl, hv, false, rfl, iteF ?_⟩
      exact ⟨Nat.zero_le _, fun D nD => k D _ (Sn nD) nD upd_same⟩
    | lead m p e th ss =>
      refine ⟨_, rfl, _, _, rfl, hv, true, rfl, iteT ?_⟩
      have hl : ss.length ≤ 5 := ho.2.2.2.2.1
      have el : ([V.str e] ++ (sv ss ++ [])) = sv (e :: ss) := by simp
      refine ⟨_, rfl, a, dx, _, _, rfl, ha, rfl, _, rfl, a, dx, _, _, rfl, ha, rfl, t, _, rfl, .inl (h1 rfl), ?_⟩
      refine ⟨by simp [rt1]; exact Nat.le_trans (Nat.succ_le_succ hl) (by decide), fun tp nt => ?_⟩
      have hx : SqA K (upd H tp (.tup (V.str e :: (sv ss ++ [])))) tp (sv (e :: ss)) := by rw [show (V.str e :: (sv ss ++ [])) = sv (e :: ss) by simp]; exact tupA upd_same
      refine filt_use (ws := e :: ss) (fun z => !w_EVENTS.contains z) hx (Nat.le_trans (Nat.succ_le_succ hl) (by decide)) ?_ ?_
      · intro z H2 N M hz s2 kN kM
        refine ⟨rfl, _, rfl, z, bE, _, rfl, rfl, .inr (sE _), _, rfl, ?_⟩
        refine ite2 (fun hc => ?_) (fun hc => ?_)
        · exact ⟨_, rfl, kN _ (Same.refl _) hc⟩
        · exact kM _ (Same.refl _) (Bool.eq_false_iff.mpr hc)
      · intro D H2 nD s2 hD
        exact k D H2 ((Sn nt).trans s2) ((Sn nt).free nD) hD
    | house e ts ds =>
      refine ⟨_, rfl, _, _, rfl, hv, false, rfl, iteF ?_⟩
      refine ⟨_, rfl, _, _, rfl, hv, true, rfl, iteT ?_⟩
      have hl : ds.length ≤ 5 := ho.2.2.2.1
      have hld : ∀ z ∈ ds, z.length ≤ 1000 := fun z hz => Nat.le_trans (len_deed (ho.2.2.2.2 z hz)) (by decide)
      refine ⟨_, rfl, a, dx, _, _, rfl, ha, rfl, _, rfl, a, dx, _, _, rfl, ha, rfl, ?_⟩
      refine ⟨by show 1 ≤ sizeLine; decide, fun wl nw => ?_⟩
      have s1 : Same H (upd H wl (.lst [.str "send"])) := Sn nw
      refine ⟨u, wl, ds, ["send"], rfl, .inr (samT s1 (h2 rfl)), lstA upd_same, Nat.le_trans hl (by decide), hld, fun D1 H1 s2 nD1 hD1 => ?_⟩
      refine ⟨D1, _, rfl, .inr (SqL.of hD1), ?_⟩
      have hn : (nb ["send"] ds).length ≤ 5 := Nat.le_trans (nb_len _ _) hl
      refine ⟨by simp; exact Nat.le_trans (Nat.succ_le_succ hn) (by decide), fun tp nt => ?_⟩
      have hx : SqA K (upd H1 tp (.tup (V.str e :: (sv (nb ["send"] ds) ++ [])))) tp (sv (e :: nb ["send"] ds)) := by rw [show (V.str e :: (sv (nb ["send"] ds) ++ [])) = sv (e :: nb ["send"] ds) by simp]; exact tupA upd_same
      refine filt_use (ws := e :: nb ["send"] ds) (fun z => !w_EVENTS.contains z) hx (Nat.le_trans (Nat.succ_le_succ hn) (by decide)) ?_ ?_
      · intro z H2 N M hz s2 kN kM
        refine ⟨rfl, _, rfl, z, bE, _, rfl, rfl, .inr (sE _), _, rfl, ?_⟩
        refine ite2 (fun hc => ?_) (fun hc => ?_)
        · exact ⟨_, rfl, kN _ (Same.refl _) hc⟩
        · exact kM _ (Same.refl _) (Bool.eq_false_iff.mpr hc)
      · intro D H2 nD s3 hD
        exact k D H2 (((s1.trans s2).trans (Sn nt)).trans s3) (((s1.trans s2).trans (Sn nt)).free nD) hD
/-- (*o.f, *o.g), two tuples of texts -/
def tBoth (K : PySem.W.Frag) (C : Addr) (ks : List Str) (i j : Nat) : TE := fun σ H Q => ∃ (a dx t u : Addr) (vs : List V) (ts ds : List Str), σ[0]? = some (some (.ref a)) ∧ H a = some (.ins C dx (ob ks vs)) ∧ vs[i]? = some (.ref t) ∧ vs[j]? = some (.ref u) ∧
  SqT K H t (sv ts) ∧ SqT K H u (sv ds) ∧ (ts ++ ds).length ≤ 1000 ∧ ∀ p, H p = none → Q (.ref p) (upd H p (.tup (sv (ts ++ ds))))
theorem tBoth_of {C : Addr} {ks : List Str} {i j : Nat} {σ : Sg} {H : Hp} {Q : VK} (h : tBoth K C ks i j σ H Q) : tTup (StX.tStar K (tFo C ks i (tVar 0)) (StX.tStar K (tFo C ks j (tVar 0)) tNil)) σ H Q := by
  obtain ⟨a, dx, t, u, vs, ts, ds, hσ, ha, h1, h2, S1, S2, hl, k⟩ := h
  refine ⟨_, hσ, a, dx, vs, _, rfl, ha, h1, t, _, rfl, .inl S1, _, hσ, a, dx, vs, _, rfl, ha, h2, u, _, rfl, .inl S2, ?_⟩
  show (sv ts ++ (sv ds ++ [])).length ≤ sizeLine ∧ ∀ p, H p = none → Q (.ref p) (upd H p (.tup (sv ts ++ (sv ds ++ []))))
  have e : sv ts ++ (sv ds ++ []) = sv (ts ++ ds) := by simp
  rw [e]
  exact ⟨by rw [List.length_map]; exact Nat.le_trans hl (by decide), k⟩
theorem c_phases_in (U : Ux K mg c) : Cal P w K mg base 2 "phases_in" (spRowL c K phasesD) [] := by
  refine U.z.y.x.g_phases_in.cal sc_phases_in (fun vs H Q E h => ?_) (fun f cdv A outer s H vs Q E hr h => ?_) (fun _ _ _ _ _ _ us hl => match us, hl with | [_], _ => rfl)
  · obtain ⟨v, r, rfl, hv, ho, k⟩ := h
    rfl
  · obtain ⟨v, r, rfl, hv, ho, k⟩ := h
    have Y := U.z.y
    have T := Y.x
    refine ⟨_, (pss_cons (ps_if (pt_not (pt_val (pe_callB (call_isR U U.of_house) (by rfl) T.m_isinstance (by decide +kernel) (pa_cons (pv 0) (pa_cons (pe_gc (v := .ref c.house) (by rfl) ⟨_, U.n_house, rfl⟩) pa_nil))))) (pss_one (ps_ret (pe_lst pa_nil))) pss_nil) (pss_one (ps_ret (pe_lx (own := [("name", 1)]) (g := gName 1) (by rfl) sc_phases_in.nd (pi_seq (pe_c (c_names_behind T) hr (by decide) (by rfl) (pa_cons (peImp (t' := tBoth K c.house kHouse 1 2) (pe_tup (StX.pa_star (pe_fo (ks := kHouse) 1 (pv 0) Y.k_house.cl (Y.k_house.na "tests" (by decide +kernel)) (by decide +kernel)) (StX.pa_star (pe_fo (ks := kHouse) 2 (pv 0) Y.k_house.cl (Y.k_house.na "deeds" (by decide +kernel)) (by decide +kernel)) pa_nil))) fun _ _ _ z => tBoth_of z) (pa_cons (pe_lst (pa_cons pe_str (pa_cons pe_str pa_nil))) pa_nil)))) (blkOk_by (N := n_phases_in) (sc := defScope s_phases_in) (by decide +kernel)) (fun _ _ _ _ _ => pg_name (i := 1) sc_phases_in.nd rfl (Or.inl rfl)) (fun _ _ _ _ _ => pts_one (pt_cmpR op_ne (pv 1) pe_str (nomark _))) (fun _ _ _ _ _ => (pv 1)))))), ?_⟩
    obtain ⟨a, dx, t, u, rfl, ha, h1, h2⟩ := id hv
    cases r with
    | first p => exact ⟨_, rfl, _, _, rfl, hv, false, rfl, iteT ⟨Nat.zero_le _, fun D nD => k D _ (Sn nD) nD upd_same⟩⟩
    | mode n pr es => exact ⟨_, rfl, _, _, rfl, hv, false, rfl, iteT ⟨Nat.zero_le _, fun D nD => k D _ (Sn nD) nD upd_same⟩⟩
    | turn m w ps th => exact ⟨_, rfl, _, _, rfl, hv, false, rfl, iteT ⟨Nat.zero_le _, fun D nD => k D _ (Sn nD) nD upd_same⟩⟩
    | lead m p e th ss => exact ⟨_, rfl, _, _, rfl, hv, false, rfl, iteT ⟨Nat.zero_le _, fun D nD => k D _ (Sn nD) nD upd_same⟩⟩
    | house e ts ds =>
      refine ⟨_, rfl, _, _, rfl, hv, true, rfl, iteF ?_⟩
      have hl1 : ts.length ≤ 5 := ho.2.1
      have hl2 : ds.length ≤ 5 := ho.2.2.2.1
      have hz : ∀ z ∈ ts ++ ds, z.length ≤ 1000 := fun z hz => (List.mem_append.mp hz).elim (fun h => Nat.le_trans (len_test (ho.2.2.1 z h)) (by decide)) fun h => Nat.le_trans (len_deed (ho.2.2.2.2 z h)) (by decide)
      have hll : (ts ++ ds).length ≤ 10 := by rw [List.length_append]; omega
      refine ⟨a, dx, t, u, _, ts, ds, rfl, ha, rfl, rfl, h1 rfl, h2 rfl, Nat.le_trans hll (by decide), fun tp nt => ?_⟩
      refine ⟨by show 2 ≤ sizeLine; decide, fun wl nw => ?_⟩
      have s1 : Same H (upd (upd H tp (.tup (sv (ts ++ ds)))) wl (.lst (sv ["at", "to"]))) := (Sn nt).trans (Sn nw)
      have hwl : SqA K (upd (upd H tp (.tup (sv (ts ++ ds)))) wl (.lst (sv ["at", "to"]))) wl (sv ["at", "to"]) := lstA upd_same
      refine ⟨tp, wl, ts ++ ds, ["at", "to"], rfl, tupA ((Sn (H := upd H tp (.tup (sv (ts ++ ds)))) nw) _ _ upd_same), hwl, Nat.le_trans hll (by decide), hz, fun D1 H1 s2 nD1 hD1 => ?_⟩
      refine filt_use (ws := nb ["at", "to"] (ts ++ ds)) (fun z => !decide (z = "none")) (lstA hD1) (Nat.le_trans (nb_len _ _) (Nat.le_trans hll (by decide))) ?_ ?_
      · intro z H2 N M hz s2 kN kM
        refine ⟨rfl, _, rfl, rfl, !decide (z = "none"), ?_, ?_⟩
        · have e1 : decide (V.str z = V.str "none") = decide (z = ("none" : Str)) := decide_eq_decide.mpr ⟨fun h => V.str.inj h, fun h => congrArg V.str h⟩
          rw [e1]
        refine ite2 (fun hc => ?_) (fun hc => ?_)
        · exact ⟨_, rfl, kN _ (Same.refl _) hc⟩
        · exact kM _ (Same.refl _) (Bool.eq_false_iff.mpr hc)
      · intro D H2 nD s3 hD
        exact k D H2 ((s1.trans s2).trans s3) ((s1.trans s2).free nD) hD
theorem c_marks_in (U : Ux K mg c) : Cal P w K mg base 2 "marks_in" (spRowL c K marksD) [] := by
  refine U.z.y.x.g_marks_in.cal sc_marks_in (fun vs H Q E h => ?_) (fun f cdv A outer s H vs Q E hr h => ?_) (fun _ _ _ _ _ _ us hl => match us, hl with | [_], _ => rfl)
  · obtain ⟨v, r, rfl, hv, ho, k⟩ := h
    rfl
  · obtain ⟨v, r, rfl, hv, ho, k⟩ := h
    have Y := U.z.y
    have T := Y.x
    refine ⟨_, (pss_one (ps_ret (pe_ifExp (pt_val (pe_callB (call_isR U U.of_house) (by rfl) T.m_isinstance (by decide +kernel) (pa_cons (pv 0) (pa_cons (pe_gc (v := .ref c.house) (by rfl) ⟨_, U.n_house, rfl⟩) pa_nil)))) (pe_c (c_names_behind T) hr (by decide) (by rfl) (pa_cons (peImp (t' := tBoth K c.house kHouse 1 2) (pe_tup (StX.pa_star (pe_fo (ks := kHouse) 1 (pv 0) Y.k_house.cl (Y.k_house.na "tests" (by decide +kernel)) (by decide +kernel)) (StX.pa_star (pe_fo (ks := kHouse) 2 (pv 0) Y.k_house.cl (Y.k_house.na "deeds" (by decide +kernel)) (by decide +kernel)) pa_nil))) fun _ _ _ z => tBoth_of z) (pa_cons (pe_lst (pa_cons pe_str (pa_cons pe_str (pa_cons pe_str pa_nil)))) pa_nil))) (pe_lst pa_nil)))), ?_⟩
    obtain ⟨a, dx, t, u, rfl, ha, h1, h2⟩ := id hv
    cases r with
    | first p => exact ⟨_, rfl, _, _, rfl, hv, false, rfl, iteF ⟨Nat.zero_le _, fun D nD => k D _ (Sn nD) nD upd_same⟩⟩
    | mode n pr es => exact ⟨_, rfl, _, _, rfl, hv, false, rfl, iteF ⟨Nat.zero_le _, fun D nD => k D _ (Sn nD) nD upd_same⟩⟩
    | turn m w ps th => exact ⟨_, rfl, _, _, rfl, hv, false, rfl, iteF ⟨Nat.zero_le _, fun D nD => k D _ (Sn nD) nD upd_same⟩⟩
    | lead m p e th ss => exact ⟨_, rfl, _, _, rfl, hv, false, rfl, iteF ⟨Nat.zero_le _, fun D nD => k D _ (Sn nD) nD upd_same⟩⟩
    | house e ts ds =>
      refine ⟨_, rfl, _, _, rfl, hv, true, rfl, iteT ?_⟩
      have hl1 : ts.length ≤ 5 := ho.2.1
      have hl2 : ds.length ≤ 5 := ho.2.2.2.1
      have hz : ∀ z ∈ ts ++ ds, z.length ≤ 1000 := fun z hz => (List.mem_append.mp hz).elim (fun h => Nat.le_trans (len_test (ho.2.2.1 z h)) (by decide)) fun h => Nat.le_trans (len_deed (ho.2.2.2.2 z h)) (by decide)
      have hll : (ts ++ ds).length ≤ 10 := by rw [List.length_append]; omega
      refine ⟨a, dx, t, u, _, ts, ds, rfl, ha, rfl, rfl, h1 rfl, h2 rfl, Nat.le_trans hll (by decide), fun tp nt => ?_⟩
      refine ⟨by show 3 ≤ sizeLine; decide, fun wl nw => ?_⟩
      have s1 : Same H (upd (upd H tp (.tup (sv (ts ++ ds)))) wl (.lst (sv ["marked", "mark", "clear"]))) := (Sn nt).trans (Sn nw)
      have hwl : SqA K (upd (upd H tp (.tup (sv (ts ++ ds)))) wl (.lst (sv ["marked", "mark", "clear"]))) wl (sv ["marked", "mark", "clear"]) := lstA upd_same
      refine ⟨tp, wl, ts ++ ds, ["marked", "mark", "clear"], rfl, tupA ((Sn (H := upd H tp (.tup (sv (ts ++ ds)))) nw) _ _ upd_same), hwl, Nat.le_trans hll (by decide), hz, fun D1 H1 s2 nD1 hD1 => ?_⟩
      exact k D1 H1 (s1.trans s2) (s1.free nD1) hD1
end
end SB

set_option maxHeartbeats 2000000
namespace SB
open PySem PySem.Spec PyProof.Rows L2
open C8 (Cal Mak Met pe_c pe_mk pe_mt pe_mt0 pe_gc InsC call_isC)

/-- what stands behind the heeding of marks -/
def tbad (ms : List Str) (t : Str) : Bool := decide (Txt.slice t none (some 7) = "marked ") && !ms.contains (Txt.slice t (some 7) none)
def tkeep (ms : List Str) (t : Str) : Bool := !decide (Txt.slice t none (some 11) = "not marked ") || ms.contains (Txt.slice t (some 11) none)
def dkeep (ms : List Str) (d : Str) : Bool := match sp d with
  | [w, n] => !(["mark", "clear"] : List Str).contains w || ms.contains n
  | _ => true
def heedD (ms : List Str) : RD → Option RD
  | .house e ts ds => if ts.any (tbad ms) = true then none else some (.house e (ts.filter (tkeep ms)) (ds.filter (dkeep ms)))
  | r => some r
def deedSp (d : Str) : Bool := match sp d with
  | [w] => !(["mark", "clear"] : List Str).contains w
  | [_, _] => true
  | _ => false
theorem deeds_sp : ∀ d ∈ deeds, deedSp d = true := List.all_eq_true.mp (by decide +kernel)
theorem heed_ok {ms : List Str} {r r' : RD} (h : Ok r) (e : heedD ms r = some r') : Ok r' := by
  cases r with
  | house ev ts ds =>
    have e' : (if ts.any (tbad ms) = true then none else some (RD.house ev (ts.filter (tkeep ms)) (ds.filter (dkeep ms)))) = some r' := e
    by_cases q : ts.any (tbad ms) = true
    · rw [if_pos q] at e'; cases e'
    · rw [if_neg q] at e'
      cases e'
      obtain ⟨h0, h1, h2, h3, h4⟩ := h
      exact ⟨h0, Nat.le_trans (List.length_filter_le _ _) h1, fun z hz => h2 z (List.mem_filter.mp hz).1, Nat.le_trans (List.length_filter_le _ _) h3, fun z hz => h4 z (List.mem_filter.mp hz).1⟩
  | first _ => cases e; exact h
  | mode _ _ _ => cases e; exact h
  | turn _ _ _ _ => cases e; exact h
  | lead _ _ _ _ _ => cases e; exact h
section
variable {P : Program} {w : World} {K : PySem.W.Frag} {mg : Str → Option Value} {base : Heap}
variable {c : Cs}
def spHeed (c : Cs) (K : PySem.W.Frag) : Sp := fun vs H Q _ => ∃ (v : V) (b : Addr) (r : RD) (ms : List Str), vs = [v, .ref b] ∧ RowAt c K H v r ∧ Ok r ∧ SqA K H b (sv ms) ∧
  (∀ H', Same H H' → heedD ms r = none → Q .non H') ∧ ∀ v' r' H', Same H H' → heedD ms r = some r' → RowAt c K H' v' r' → Q v' H'
theorem len_slice (z : Str) (lo hi : Option Int) (h : z.length ≤ 1000) : z.length ≤ sizeLine := Nat.le_trans h (by decide)
theorem c_heeding_row (U : Ux K mg c) : Cal P w K mg base 6 "heeding_row" (spHeed c K) [] := by
  refine U.z.y.x.g_heeding_row.cal sc_heeding_row (fun vs H Q E h => ?_) (fun f cdv A outer s H vs Q E hr h => ?_) (fun _ _ _ _ _ _ us hl => match us, hl with | [_, _], _ => rfl)
  · obtain ⟨v, b, r, ms, rfl, hv, ho, Sm, kN0, kS⟩ := h
    rfl
  · obtain ⟨v, b, r, ms, rfl, hv, ho, Sm, kN0, kS⟩ := h
    have Y := U.z.y
    have T := Y.x
    refine ⟨_, (pss_cons (ps_if (pt_not (pt_val (pe_callB (call_isR U U.of_house) (by rfl) T.m_isinstance (by decide +kernel) (pa_cons (pv 0) (pa_cons (pe_gc (v := .ref c.house) (by rfl) ⟨_, U.n_house, rfl⟩) pa_nil))))) (pss_one (ps_ret (pv 0))) pss_nil) (pss_cons (ps_if (pt_val (pe_callB (cr_any rfl) (by rfl) T.m_any (by decide +kernel) (pa_cons (pe_lx (own := [("test", 4)]) (g := gName 4) (tt := tYes) (by rfl) sc_heeding_row.nd (pi_seq (pe_fo (ks := kHouse) 1 (pv 0) Y.k_house.cl (Y.k_house.na "tests" (by decide +kernel)) (by decide +kernel))) (blkOk_by (N := n_heeding_row) (sc := defScope s_heeding_row) (by decide +kernel)) (fun _ _ _ _ _ => pg_name (i := 4) sc_heeding_row.nd rfl (Or.inl rfl)) (fun _ _ _ _ _ => pts_nil) (fun _ _ _ _ _ => (pe_and (pe_cmpR op_eq (pe_slice (r := C8.rSlX) C8.sl_txt (pv 4) po_none (po_some pe_int)) pe_str (nomark _)) (pe_one (pe_cmpR (r := rInW K true) op_niW (pe_slice (r := C8.rSlX) C8.sl_txt (pv 4) (po_some pe_int) po_none) (pv 1) (by rfl)))))) pa_nil))) (pss_one (ps_ret pe_non)) pss_nil) (pss_cons (ps_setLx (i := 2) (own := [("test", 4)]) (g := gName 4) (by rfl) sc_heeding_row.nd rfl rfl (sw_true rfl rfl rfl (by decide +kernel)) (pi_seq (pe_fo (ks := kHouse) 1 (pv 0) Y.k_house.cl (Y.k_house.na "tests" (by decide +kernel)) (by decide +kernel))) (blkOk_by (N := n_heeding_row) (sc := defScope s_heeding_row) (by decide +kernel)) (fun _ _ _ _ _ => pg_name (i := 4) sc_heeding_row.nd rfl (Or.inl rfl)) (fun _ _ _ _ _ => pts_one (PW.pt (pw_or (pt_cmpR op_ne (pe_slice (r := C8.rSlX) C8.sl_txt (pv 4) po_none (po_some pe_int)) pe_str (nomark _)) (pw_or1 (pt_cmpR (r := rInW K false) op_inW (pe_slice (r := C8.rSlX) C8.sl_txt (pv 4) (po_some pe_int) po_none) (pv 1) (by rfl)))))) (fun _ _ _ _ _ => (pv 4))) (pss_cons (ps_setLx (i := 3) (own := [("deed", 5)]) (g := gName 5) (by rfl) sc_heeding_row.nd rfl rfl (sw_true rfl rfl rfl (by decide +kernel)) (pi_seq (pe_fo (ks := kHouse) 2 (pv 0) Y.k_house.cl (Y.k_house.na "deeds" (by decide +kernel)) (by decide +kernel))) (blkOk_by (N := n_heeding_row) (sc := defScope s_heeding_row) (by decide +kernel)) (fun _ _ _ _ _ => pg_name (i := 5) sc_heeding_row.nd rfl (Or.inl rfl)) (fun _ _ _ _ _ => pts_one (PW.pt (pw_or (pt_cmpR (r := rInW K true) op_niW (pe_ix (r := rIxW K) ix_W (pe_split (pv 5) pe_str) pe_int (fun _ _ => rfl)) (pe_tup (pa_cons pe_str (pa_cons pe_str pa_nil))) (by rfl)) (pw_or1 (pt_cmpR (r := rInW K false) op_inW (pe_ix (r := rIxW K) ix_W (pe_split (pv 5) pe_str) pe_int (fun _ _ => rfl)) (pv 1) (by rfl)))))) (fun _ _ _ _ _ => (pv 5))) (pss_one (ps_ret (pe_mk (mk_house Y) hr (by decide) (by rfl) (pa_cons (pe_fo (ks := kHouse) 0 (pv 0) Y.k_house.cl (Y.k_house.na "event" (by decide +kernel)) (by decide +kernel)) (pa_cons (pv 2) (pa_cons (pv 3) pa_nil)))))))))), ?_⟩
    obtain ⟨a, dx, t, u, rfl, ha, h1, h2⟩ := id hv
    cases r with
    | first p => exact ⟨_, rfl, _, _, rfl, hv, false, rfl, iteT ⟨_, rfl, kS _ _ _ (Same.refl _) rfl hv⟩⟩
    | mode n pr es => exact ⟨_, rfl, _, _, rfl, hv, false, rfl, iteT ⟨_, rfl, kS _ _ _ (Same.refl _) rfl hv⟩⟩
    | turn m w ps th => exact ⟨_, rfl, _, _, rfl, hv, false, rfl, iteT ⟨_, rfl, kS _ _ _ (Same.refl _) rfl hv⟩⟩
    | lead m p e th ss => exact ⟨_, rfl, _, _, rfl, hv, false, rfl, iteT ⟨_, rfl, kS _ _ _ (Same.refl _) rfl hv⟩⟩
    | house e ts ds =>
      refine ⟨_, rfl, _, _, rfl, hv, true, rfl, iteF ?_⟩
      have hz : ∀ z ∈ ts, z.length ≤ 1000 := fun z hz => Nat.le_trans (len_test (ho.2.2.1 z hz)) (by decide)
      have hl1 : ts.length ≤ 5 := ho.2.1
      have hl2 : ds.length ≤ 5 := ho.2.2.2.1
      have hdz : ∀ z ∈ ds, z.length ≤ 1000 := fun z hz => Nat.le_trans (len_deed (ho.2.2.2.2 z hz)) (by decide)
      have dS : ∀ x y : Str, decide (V.str x = V.str y) = decide (x = y) := fun x y => decide_eq_decide.mpr ⟨fun h => V.str.inj h, fun h => congrArg V.str h⟩
      refine ⟨_, rfl, a, dx, _, _, rfl, ha, rfl, lc_fun (onS fun z => some (.bl (tbad ms z))) (.inr (h1 rfl)) (by rw [List.length_map]; exact small_lt (Nat.le_trans hl1 (by decide))) ?_ ?_⟩
      · intro D i x acc H2 nD hx s2 hD N M kN kM
        obtain ⟨z, hzi, rfl⟩ := get_str hx
        have lz := hz z (memi hzi)
        have fin : ∀ k, tbad ms z = k → N (.bl k) H2 := fun k e => kN _ _ (Same.refl _) (by rw [← e]; rfl)
        refine ⟨rfl, _, rfl, 7, rfl, z, rfl, len_slice z none none lz, rfl, decide (Txt.slice z none (some 7) = "marked "), congrArg V.bl (dS _ _), ?_⟩
        refine ite2 (fun hc => ?_) (fun hc => ?_)
        · refine ⟨_, rfl, 7, rfl, z, rfl, len_slice z none none lz, _, rfl, _, b, ms, rfl, rfl, samA s2 Sm, fin _ ?_⟩
          unfold tbad
          rw [hc]; rfl
        · refine fin _ ?_
          unfold tbad
          rw [Bool.eq_false_iff.mpr hc]; rfl
      intro D H1 nD s1 hD
      rw [fm_onS] at hD
      refine ⟨D, ts.map (tbad ms), rfl, SqL.of (by rw [List.map_map]; exact hD), ?_⟩
      have ea : (ts.map (tbad ms)).any id = ts.any (tbad ms) := by rw [List.any_map]; rfl
      refine ⟨_, rfl, ?_⟩
      rw [ea]
      refine ite2 (fun hc => ?_) (fun hc => ?_)
      · exact kN0 _ s1 (by show (if ts.any (tbad ms) = true then _ else _) = _; rw [if_pos hc])
      have eh : heedD ms (.house e ts ds) = some (.house e (ts.filter (tkeep ms)) (ds.filter (dkeep ms))) := by show (if ts.any (tbad ms) = true then _ else _) = _; rw [if_neg hc]
      refine ⟨_, rfl, a, dx, _, _, rfl, s1 _ _ ha, rfl, filt_use (ws := ts) (tkeep ms) (.inr (samT s1 (h1 rfl))) (Nat.le_trans hl1 (by decide)) ?_ ?_⟩
      · intro z H2 N M hzm s2 kN kM
        have lz := hz z hzm
        refine ⟨rfl, _, rfl, 11, rfl, z, rfl, len_slice z none none lz, rfl, !decide (Txt.slice z none (some 11) = "not marked "), congrArg V.bl (by rw [dS]), ?_⟩
        refine ite2 (fun hc => ?_) (fun hc => ?_)
        · exact ⟨_, rfl, kN _ (Same.refl _) (by unfold tkeep; rw [hc]; rfl)⟩
        · refine ⟨_, rfl, 11, rfl, z, rfl, len_slice z none none lz, _, rfl, _, b, ms, rfl, rfl, samA (s1.trans s2) Sm, _, rfl, ?_⟩
          refine ite2 (fun hc2 => ?_) (fun hc2 => ?_)
          · exact ⟨_, rfl, kN _ (Same.refl _) (by unfold tkeep; rw [show ms.contains (Txt.slice z (some 11) none) = true from hc2, Bool.or_true])⟩
          · refine kM _ (Same.refl _) ?_
            unfold tkeep
            rw [Bool.eq_false_iff.mpr hc, show ms.contains (Txt.slice z (some 11) none) = false from Bool.eq_false_iff.mpr hc2]; rfl
      intro D1 H2 nD1 s2 hD1
      have s12 := s1.trans s2
      refine ⟨_, rfl, a, dx, _, _, rfl, s12 _ _ ha, rfl, filt_use (ws := ds) (dkeep ms) (.inr (samT s12 (h2 rfl))) (Nat.le_trans hl2 (by decide)) ?_ ?_⟩
      · intro z H3 N M hzm s3 kN kM
        have lz := hdz z hzm
        have q := deeds_sp z (ho.2.2.2.2 z hzm)
        refine ⟨rfl, _, rfl, ⟨_, rfl⟩, z, _, rfl, rfl, by decide +kernel, Nat.le_trans (Nat.add_le_add_right lz 2) (by decide), fun p np => ?_⟩
        have sp1 : Same H3 (upd H3 p (.lst (sv (sp z)))) := Sn np
        have hp : (upd H3 p (.lst (sv (sp z)))) p = some (.lst (sv (sp z))) := upd_same
        unfold deedSp at q
        have head : ∃ w l, sp z = w :: l := by
          match h : sp z, q with
          | [w], _ => exact ⟨w, [], rfl⟩
          | [w, n], _ => exact ⟨w, [n], rfl⟩
        obtain ⟨w, l, e⟩ := head
        refine ⟨p, sp z, 0, w, rfl, rfl, SqL.of hp, by rw [e]; exact at_nat (i := 0) rfl, by show 2 ≤ sizeLine; decide, fun tp nt => ?_⟩
        have st := sp1.trans (Sn (o := .tup [.str "mark", .str "clear"]) nt)
        refine ⟨w, tp, ["mark", "clear"], rfl, rfl, tupA upd_same, !(["mark", "clear"] : List Str).contains w, rfl, ?_⟩
        refine ite2 (fun hc => ?_) (fun hc => ?_)
        · refine ⟨_, rfl, kN _ st ?_⟩
          unfold dkeep
          match l, e with
          | [n], e => rw [e]; show (!_ || _) = true; rw [hc]; rfl
          | [], e => rw [e]
          | _ :: _ :: _, e => rw [e]
        · have hw : (["mark", "clear"] : List Str).contains w = true := by
            cases q2 : (["mark", "clear"] : List Str).contains w with
            | true => rfl
            | false => rw [q2] at hc; exact (hc rfl).elim
          have hl2 : ∃ n, l = [n] := by
            match l, e with
            | [n], _ => exact ⟨n, rfl⟩
            | [], e => rw [e] at q; exact absurd q (by show ¬ (!((["mark", "clear"] : List Str).contains w)) = true; rw [hw]; decide)
            | _ :: _ :: _, e => rw [e] at q; cases q
          obtain ⟨n, rfl⟩ := hl2
          refine ⟨_, rfl, ⟨_, rfl⟩, z, _, rfl, rfl, by decide +kernel, Nat.le_trans (Nat.add_le_add_right lz 2) (by decide), fun p2 np2 => ?_⟩
          refine ⟨p2, [w, n], 1, n, rfl, rfl, SqL.of ?_, at_nat (i := 1) rfl, ?_⟩
          · rw [upd_same, show Txt.split z " " = [w, n] from e]
          refine ⟨_, rfl, n, b, ms, rfl, rfl, samA (((s12.trans s3).trans st).trans (Sn np2)) Sm, ms.contains n, rfl, ?_⟩
          refine ite2 (fun hc2 => ?_) (fun hc2 => ?_)
          · exact ⟨_, rfl, kN _ (st.trans (Sn np2)) (by unfold dkeep; rw [e]; show (!_ || ms.contains n) = true; rw [show ms.contains n = true from hc2, Bool.or_true])⟩
          · refine kM _ (st.trans (Sn np2)) ?_
            unfold dkeep
            rw [e]
            show (!_ || ms.contains n) = false
            rw [hw, show ms.contains n = false from Bool.eq_false_iff.mpr hc2]; rfl
      intro D2 H3 nD2 s3 hD2
      have s13 := s12.trans s3
      have hok := heed_ok ho eh
      refine ⟨_, rfl, a, dx, _, _, rfl, s13 _ _ ha, rfl, _, rfl, _, rfl, ?_⟩
      intro x dx2 nx nd hne
      refine ⟨x, dx2, D1, D2, e, _, _, rfl, upd_same, hok, samA (same_mk nx nd) (lstA (s3 _ _ hD1)), samA (same_mk nx nd) (lstA hD2), initE_use nx nd fun v H' s' hv => kS v _ H' (s13.trans s') eh hv⟩
end
end SB

set_option maxHeartbeats 2000000
namespace SB
open PySem PySem.Spec PyProof.Rows L2
open C8 (Cal Mak Met pe_c pe_mk pe_mt pe_mt0 pe_gc InsC call_isC)

/-! ### rows with their objects -/
abbrev VR := V × RD
section
variable {α : Type} {K : PySem.W.Frag} {a : Addr} {g : TG} {tt : TT} {te : TE} {vs : List Nat} {σ : Sg} {H1 : Hp} {Q : VK}
/-- [.. for x in xs if ..], the items told by zs -/
theorem it_use (zs : List α) (val : α → V) (f : α → Option V) (S : SqA K H1 a (zs.map val)) (sz : zs.length ≤ 100000)
    (hs : ∀ z H (N : VK) (M : Hp → Prop), z ∈ zs → Same H1 H → (∀ y H', Same H H' → f z = some y → N y H') → (∀ H', Same H H' → f z = none → M H') →
      g (val z) (wipe σ vs) H fun σ2 H2 => wipe σ2 vs = wipe σ vs ∧ tt σ2 H2 fun b H3 => if b = true then te σ2 H3 N else M H3)
    (hd : ∀ D H, H1 D = none → Same H1 H → H D = some (.lst (zs.filterMap f)) → Q (.ref D) H) : SeqR K (LcR g tt te vs σ Q) (.ref a) H1 := by
  refine lc_seq S (by rw [List.length_map]; exact Nat.lt_of_le_of_lt sz (by decide)) (fun _ i acc _ => acc = (zs.take i).filterMap f) (fun _ _ => rfl) ?_ ?_
  · intro D i x acc H nD hx s1 hD p N M kN kM
    rw [List.getElem?_map] at hx
    obtain ⟨z, hz, rfl⟩ := Option.map_eq_some_iff.mp hx
    have p' : acc = (zs.take i).filterMap f := p
    refine hs z H N M (memi hz) s1 (fun y H' s' e => kN y H' s' ?_) fun H' s' e => kM H' s' ?_
    · show acc ++ [y] = _
      rw [take_more hz, List.filterMap_append, ← p', List.filterMap_cons, e]; rfl
    · show acc = _
      rw [take_more hz, List.filterMap_append, ← p', List.filterMap_cons, e]; simp
  · intro D acc H nD s1 hD hl p
    have p' : acc = (zs.take (zs.map val).length).filterMap f := p
    rw [List.length_map, List.take_length] at p'
    rw [p'] at hD
    exact hd D H nD s1 hD
end
/-- a list or tuple that stays -/
structure Kp (K : PySem.W.Frag) (a : Addr) (xs : List V) (H H' : Hp) : Prop where
  l : SqL K H a xs → SqL K H' a xs
  t : SqT K H a xs → SqT K H' a xs
theorem Kp.same {K : PySem.W.Frag} {a : Addr} {xs : List V} {H H' : Hp} (s : Same H H') : Kp K a xs H H' := ⟨fun h => s.seq h, fun h => samT s h⟩
/-- for x in xs: a list or a tuple -/
theorem for_seq {K : PySem.W.Frag} {a : Addr} {xs : List V} {g : TG} {tb : TS} {D : Ends} {σ : Sg} {H0 H : Hp} (S : SqA K H0 a xs) (Pv : Nat → Sg → Hp → Prop) (h0 : Pv 0 σ H) (hl : ∀ i σ' H', Pv i σ' H' → Kp K a xs H0 H')
    (hs : ∀ i x σ' H', xs[i]? = some x → Pv i σ' H' → g x σ' H' fun σ2 H2 => tb { D with nx := Pv (i + 1), ct := Pv (i + 1), bk := D.nx } σ2 H2) (hd : ∀ σ' H', Pv xs.length σ' H' → D.nx σ' H') :
    SeqR K (fun J H1 => ∃ W : Nat → Nat → Sg → Hp → Prop, (∃ m, W 0 m σ H1) ∧ ∀ i m σ H, W i m σ H →
      (J.stop i H ∧ D.nx σ H) ∨ (J.go i H ∧ ∃ N : Sg → Hp → Prop, (∀ σ' H', N σ' H' → ∃ m', m' < m ∧ W (i + 1) m' σ' H') ∧ ∀ x H', J.yld i H x H' → g x σ H' fun σ2 H2 => tb { D with nx := N, ct := N, bk := D.nx } σ2 H2)) (.ref a) H := by
  rcases S with S | S
  · exact ⟨a, rfl, .inl ⟨⟨xs, (hl 0 σ H h0).l S⟩, for_list Pv h0 (fun i σ' H' _ p => (hl i σ' H' p).l S) hs hd⟩⟩
  · exact ⟨a, rfl, .inr ⟨⟨xs, (hl 0 σ H h0).t S⟩, for_tup Pv h0 (fun i σ' H' _ p => (hl i σ' H' p).t S) hs hd⟩⟩

/-! ### the dict of keys -/
theorem valV_setD (z : Str) : ∀ ws : List Str, valV (setD ws) (.inr z) = if z ∈ ws then some (.bl true) else none := by
  refine revInd ?_ ?_
  · rw [if_neg (fun h => nomatch h)]; rfl
  · intro ws w ih
    rw [setD_snoc, valV_put, ih]
    by_cases e : z = w
    · subst e
      rw [if_pos rfl, if_pos (List.mem_append_right _ List.mem_cons_self)]
    · rw [if_neg (fun q => e (Sum.inr.inj q))]
      by_cases h : z ∈ ws
      · rw [if_pos h, if_pos (List.mem_append_left _ h)]
      · rw [if_neg h, if_neg fun q => (List.mem_append.mp q).elim h fun q => e (List.mem_singleton.mp q)]
theorem len_of_sub {α : Type} [DecidableEq α] : ∀ {l m : List α}, l.Nodup → (∀ x ∈ l, x ∈ m) → l.length ≤ m.length
  | [], _, _, _ => Nat.zero_le _
  | x :: l, m, nd, h => by
    obtain ⟨hx, nd'⟩ := List.nodup_cons.mp nd
    have hm := h x List.mem_cons_self
    have ih := len_of_sub (m := m.erase x) nd' fun y hy => by
      have hne : y ≠ x := fun e => hx (e ▸ hy)
      exact (List.mem_erase_of_ne hne).mpr (h y (List.mem_cons_of_mem _ hy))
    rw [List.length_erase_of_mem hm] at ih
    have : 0 < m.length := List.length_pos_of_mem hm
    rw [List.length_cons]; omega
theorem len_putK (kvs : List (Key × V)) (k : Key) (v : V) : kvs.length ≤ (putK kvs k v).length := by
  unfold putK
  split
  · rw [List.length_map]; exact Nat.le_refl _
  · rw [List.length_append]; exact Nat.le_add_right _ _
/-- the turns of rows -/
def turnOf : RD → Option (Str × Str)
  | .turn m _ _ t => some (m, t)
  | _ => none
def turnsOf (rs : List RD) : List (Str × Str) := rs.filterMap turnOf
section
variable {P : Program} {w : World} {K : PySem.W.Frag} {mg : Str → Option Value} {base : Heap}
variable {c : Cs}
/-- rows and their objects -/
def RowsAt (c : Cs) (K : PySem.W.Frag) (H : Hp) (zs : List VR) : Prop := ∀ p ∈ zs, RowAt c K H p.1 p.2 ∧ Ok p.2
theorem RowsAt.im {H H' : Hp} {zs : List VR} (s : Im H H') (h : RowsAt c K H zs) : RowsAt c K H' zs := fun p hp => ⟨(h p hp).1.im s, (h p hp).2⟩
theorem RowsAt.sm {H H' : Hp} {zs : List VR} (s : Same H H') (h : RowsAt c K H zs) : RowsAt c K H' zs := h.im (im_of s)
def Ranked (tp : List (Str × Str)) : Prop := ∃ rank : Str → Nat, ∀ p ∈ tp, rank p.1 < rank p.2
def spRing (c : Cs) (K : PySem.W.Frag) : Sp := fun vs H Q _ => ∃ (a : Addr) (z : Str) (zs : List VR), vs = [.ref a, .str z] ∧ SqA K H a (zs.map (·.1)) ∧ RowsAt c K H zs ∧ (∀ p ∈ zs, isTurn p.2 = true) ∧ zs.length ≤ 1000 ∧
  ∀ H' b, Same H H' → (Ranked (turnsOf (zs.map (·.2))) → b = false) → Q (.bl b) H'
/-- what the dict of found modes holds -/
structure Fnd (c : Cs) (K : PySem.W.Frag) (H : Hp) (fd : Addr) (z : Str) (tp : List (Str × Str)) (ws : List Str) (H' : Hp) : Prop where
  s : Same H H'
  d : H' fd = some (.dK (setD ws))
  sub : ∀ x ∈ ws, x ∈ tp.map (·.2)
  rk : ∀ rank : Str → Nat, (∀ p ∈ tp, rank p.1 < rank p.2) → ∀ x ∈ ws, rank z < rank x
theorem Fnd.put {H H' : Hp} {fd : Addr} {z m t : Str} {tp : List (Str × Str)} {ws : List Str} (F : Fnd c K H fd z tp ws H') (hf : H fd = none) (hp : (m, t) ∈ tp) (h : m = z ∨ m ∈ ws) : Fnd c K H fd z tp (ws ++ [t]) (upd H' fd (.dK (putK (setD ws) (.inr t) (.bl true)))) := by
  refine ⟨sameD hf F.s, by rw [upd_same, setD_snoc], fun x hx => ?_, fun rank hr x hx => ?_⟩
  · rcases List.mem_append.mp hx with hx | hx
    · exact F.sub x hx
    · rw [List.mem_singleton.mp hx]; exact List.mem_map_of_mem hp
  · rcases List.mem_append.mp hx with hx | hx
    · exact F.rk rank hr x hx
    · rw [List.mem_singleton.mp hx]
      rcases h with rfl | h
      · exact hr _ hp
      · exact Nat.lt_trans (F.rk rank hr m h) (hr _ hp)
theorem Fnd.len {H H' : Hp} {fd : Addr} {z : Str} {tp : List (Str × Str)} {ws : List Str} (F : Fnd c K H fd z tp ws H') : (setD ws).length ≤ tp.length := by
  rw [setD_len]
  have h := len_of_sub (keysD_nd ws) fun x hx => F.sub x ((keysD_mem ws x).mp hx)
  rw [List.length_map] at h
  exact h
theorem row_turn {zs : List VR} {p : VR} (hp : p ∈ zs) (h : isTurn p.2 = true) : ∃ v m w ps t, p = (v, .turn m w ps t) ∧ (m, t) ∈ turnsOf (zs.map (·.2)) := by
  obtain ⟨v, r⟩ := p
  cases r with
  | turn m w ps t => exact ⟨v, m, w, ps, t, rfl, List.mem_filterMap.mpr ⟨_, List.mem_map_of_mem hp, rfl⟩⟩
  | first _ => cases h
  | mode _ _ _ => cases h
  | lead _ _ _ _ _ => cases h
  | house _ _ _ => cases h
theorem c_is_ring (U : Ux K mg c) : Cal P w K mg base 1 "is_ring" (spRing c K) [] := by
  refine U.z.y.x.g_is_ring.cal sc_is_ring (fun vs H Q E h => ?_) (fun f cdv A outer s H vs Q E hr h => ?_) (fun _ _ _ _ _ _ us hl => match us, hl with | [_, _], _ => rfl)
  · obtain ⟨a, z, zs, rfl, S, R, hT, sz, k⟩ := h
    rfl
  · obtain ⟨a, z, zs, rfl, S, R, hT, sz, k⟩ := h
    have Y := U.z.y
    have T := Y.x
    refine ⟨_, (C8.pss_cut (ps_set (i := 2) sc_is_ring.nd rfl (Or.inl rfl) pe_dnewK) (C8.pss_cut (ps_for PassesOwn.never rfl (pi_seq (pv 0)) (pg_name (i := 3) sc_is_ring.nd rfl (Or.inl rfl)) (pss_one (ps_if (pt_cmpR op_eq (pe_fo (ks := kTurn) 0 (pv 3) Y.k_turn.cl (Y.k_turn.na "mode" (by decide +kernel)) (by decide +kernel)) (pv 1) (nomark _)) (pss_one (ps_dput (hu_of hr) (pv 2) (pe_fo (ks := kTurn) 3 (pv 3) Y.k_turn.cl (Y.k_turn.na "then" (by decide +kernel)) (by decide +kernel)) pe_bl (by rfl))) pss_nil))) (C8.pss_cut (ps_set (i := 4) sc_is_ring.nd rfl (Or.inl rfl) (pe_un un_neg pe_int)) (C8.pss_cut (ps_while PassesOwn.never (pt_cmpR op_lt (pv 4) (pe_callB call_lenD (by rfl) T.m_len (by decide +kernel) (pa_cons (pv 2) pa_nil)) (nomark _)) (pss_cons (ps_set (i := 4) sc_is_ring.nd rfl (Or.inl rfl) (pe_callB call_lenD (by rfl) T.m_len (by decide +kernel) (pa_cons (pv 2) pa_nil))) (pss_one (ps_for PassesOwn.never rfl (pi_seq (pv 0)) (pg_name (i := 3) sc_is_ring.nd rfl (Or.inl rfl)) (pss_one (ps_if (pt_cmp (pc_din (hu_of hr) (pe_fo (ks := kTurn) 0 (pv 3) Y.k_turn.cl (Y.k_turn.na "mode" (by decide +kernel)) (by decide +kernel)) (pv 2))) (pss_one (ps_dput (hu_of hr) (pv 2) (pe_fo (ks := kTurn) 3 (pv 3) Y.k_turn.cl (Y.k_turn.na "then" (by decide +kernel)) (by decide +kernel)) pe_bl (by rfl))) pss_nil)))))) (pss_one (ps_ret (pe_cmp (pc_din (hu_of hr) (pv 1) (pv 2))))))))), ?_⟩
    have hlt : (turnsOf (zs.map (·.2))).length ≤ zs.length := Nat.le_trans (List.length_filterMap_le _ _) (by rw [List.length_map]; exact Nat.le_refl _)
    refine ⟨fun σ H1 => ∃ fd, σ = [some (.ref a), some (.str z), some (.ref fd), none, none] ∧ H fd = none ∧ Fnd c K H fd z (turnsOf (zs.map (·.2))) [] H1, fun fd nf => ⟨fd, rfl, nf, Sn nf, upd_same, fun _ h => (nomatch h), fun _ _ _ h => (nomatch h)⟩, ?_⟩
    rintro σ H1 ⟨fd, rfl, nf, F0⟩
    -- one walk over the turns
    have walk : ∀ (mn : Option V) H2 ws (tb : TS) (D : Ends), Fnd c K H fd z (turnsOf (zs.map (·.2))) ws H2 → (∀ tv H3 ws', (setD ws).length ≤ (setD ws').length → Fnd c K H fd z (turnsOf (zs.map (·.2))) ws' H3 → D.nx [some (.ref a), some (.str z), some (.ref fd), tv, mn] H3) →
        (∀ p H3 ws' (N : Sg → Hp → Prop), p ∈ zs → Fnd c K H fd z (turnsOf (zs.map (·.2))) ws' H3 → (∀ H4 ws2, (setD ws').length ≤ (setD ws2).length → Fnd c K H fd z (turnsOf (zs.map (·.2))) ws2 H4 → N [some (.ref a), some (.str z), some (.ref fd), some p.1, mn] H4) →
          tb { D with nx := N, ct := N, bk := D.nx } [some (.ref a), some (.str z), some (.ref fd), some p.1, mn] H3) →
        ∀ tv, tFor (iSeq K (tVar 0)) (gName 3) tb D [some (.ref a), some (.str z), some (.ref fd), tv, mn] H2 := by
      intro mn H2 ws tb D F kD kT tv
      refine ⟨_, rfl, for_seq S (fun i σ H3 => ∃ tv ws', σ = [some (.ref a), some (.str z), some (.ref fd), tv, mn] ∧ (setD ws).length ≤ (setD ws').length ∧ Fnd c K H fd z (turnsOf (zs.map (·.2))) ws' H3) ⟨tv, ws, rfl, Nat.le_refl _, F⟩ ?_ ?_ ?_⟩
      · rintro i σ' H3 ⟨_, _, _, _, F3⟩
        exact Kp.same F3.s
      · rintro i x σ' H3 hx ⟨tv', ws', rfl, hle, F3⟩
        rw [List.getElem?_map] at hx
        obtain ⟨p, hp, rfl⟩ := Option.map_eq_some_iff.mp hx
        exact kT p H3 ws' _ (memi hp) F3 fun H4 ws2 hle2 F4 => ⟨_, ws2, rfl, Nat.le_trans hle hle2, F4⟩
      · rintro σ' H3 ⟨tv', ws', rfl, hle, F3⟩
        exact kD tv' H3 ws' hle F3
    -- the first walk
    refine ⟨fun σ H2 => ∃ tv ws, σ = [some (.ref a), some (.str z), some (.ref fd), tv, none] ∧ Fnd c K H fd z (turnsOf (zs.map (·.2))) ws H2, ?_, ?_⟩
    · refine walk none H1 [] _ _ F0 ?_ ?_ none
      · exact fun tv H3 ws' _ F3 => ⟨tv, ws', rfl, F3⟩
      intro p H3 ws' N hp F3 kN
      obtain ⟨v, m, w', ps, t, rfl, hmem⟩ := row_turn hp (hT p hp)
      obtain ⟨x, dx, t1, u1, rfl, hx, _⟩ := (R _ hp).1.sm F3.s
      refine ⟨_, rfl, x, dx, _, _, rfl, hx, rfl, _, rfl, rfl, _, rfl, ?_⟩
      refine ite2 (fun hc => ?_) (fun hc => ?_)
      · have e : m = z := V.str.inj (of_decide_eq_true hc)
        have hl := F3.len
        refine ⟨_, rfl, _, rfl, x, dx, _, _, rfl, hx, rfl, fd, _, rfl, DPut.k (k := .inr t) F3.d (Nat.lt_of_le_of_lt hl (Nat.lt_of_le_of_lt (Nat.le_trans hlt sz) (by decide))), ?_⟩
        refine kN _ (ws' ++ [t]) ?_ (F3.put nf hmem (.inl e))
        rw [setD_snoc]
        exact len_putK _ _ _
      · exact kN H3 ws' (Nat.le_refl _) F3
    rintro σ H2 ⟨tv, ws, rfl, F2⟩
    refine ⟨fun σ H3 => ∃ tv, σ = [some (.ref a), some (.str z), some (.ref fd), tv, some (.int (-1))] ∧ H3 = H2, ⟨1, rfl, tv, rfl, rfl⟩, ?_⟩
    rintro σ H3 ⟨tv, rfl, rfl⟩
    refine ⟨fun σ H4 => ∃ tv mv ws, σ = [some (.ref a), some (.str z), some (.ref fd), tv, mv] ∧ Fnd c K H fd z (turnsOf (zs.map (·.2))) ws H4, ?_, ?_⟩
    · refine ⟨fun n σ H4 => ∃ (tv : Option V) (mn : Int) (ws : List Str), σ = [some (.ref a), some (.str z), some (.ref fd), tv, some (.int mn)] ∧ n = (((turnsOf (zs.map (·.2))).length : Int) - mn).toNat ∧ -1 ≤ mn ∧ Fnd c K H fd z (turnsOf (zs.map (·.2))) ws H4, ⟨_, tv, -1, ws, rfl, rfl, by decide, F2⟩, ?_⟩
      rintro n σ H4 ⟨tv, mn, ws, rfl, rfl, hmn, F4⟩
      refine ⟨_, rfl, _, rfl, fd, _, rfl, F4.d, _, _, rfl, rfl, _, rfl, ?_⟩
      refine ite2 (fun hc => ?_) (fun hc => ?_)
      · have hlt2 : mn < ((setD ws).length : Int) := of_decide_eq_true hc
        have hle := F4.len
        refine ⟨fun σ H5 => ∃ (tv : Option V) (mn' : Int) (ws' : List Str), σ = [some (.ref a), some (.str z), some (.ref fd), tv, some (.int mn')] ∧ mn < mn' ∧ mn' ≤ ((turnsOf (zs.map (·.2))).length : Int) ∧ Fnd c K H fd z (turnsOf (zs.map (·.2))) ws' H5, ?_, ?_⟩
        · rintro σ' H5 ⟨tv', mn', ws', rfl, h1, h2, F5⟩
          exact ⟨_, by omega, tv', mn', ws', rfl, rfl, by omega, F5⟩
        refine ⟨_, rfl, fd, _, rfl, F4.d, ?_⟩
        refine walk _ H4 ws _ _ F4 ?_ ?_ tv
        · exact fun tv H5 ws' _ F5 => ⟨tv, _, ws', rfl, hlt2, by omega, F5⟩
        intro p H5 ws' N hp F5 kN
        obtain ⟨v, m, w', ps, t, rfl, hmem⟩ := row_turn hp (hT p hp)
        obtain ⟨x, dx, t1, u1, rfl, hx, _⟩ := (R _ hp).1.sm F5.s
        refine ⟨_, rfl, x, dx, _, _, rfl, hx, rfl, _, rfl, fd, _, rfl, DGet.k (k := .inr m) F5.d, _, rfl, ?_⟩
        rw [valV_setD]
        by_cases hm : m ∈ ws'
        · rw [if_pos hm]
          refine iteT ?_
          have hl := F5.len
          refine ⟨_, rfl, _, rfl, x, dx, _, _, rfl, hx, rfl, fd, _, rfl, DPut.k (k := .inr t) F5.d (Nat.lt_of_le_of_lt hl (Nat.lt_of_le_of_lt (Nat.le_trans hlt sz) (by decide))), ?_⟩
          refine kN _ (ws' ++ [t]) ?_ (F5.put nf hmem (.inr hm))
          rw [setD_snoc]
          exact len_putK _ _ _
        · rw [if_neg hm]
          exact iteF (kN H5 ws' (Nat.le_refl _) F5)
      · exact ⟨tv, _, ws, rfl, F4⟩
    rintro σ H4 ⟨tv, mv, ws, rfl, F4⟩
    refine ⟨_, rfl, _, rfl, fd, _, rfl, DGet.k (k := .inr z) F4.d, ?_⟩
    refine k H4 _ F4.s fun ⟨rank, hr⟩ => ?_
    rw [valV_setD]
    by_cases hm : z ∈ ws
    · exact absurd (F4.rk rank hr z hm) (Nat.lt_irrefl _)
    · rw [if_neg hm]; rfl
end
end SB

set_option maxHeartbeats 2000000
/-! [y for x in xs for y in f(x)], the ys texts. -/
namespace SB
open PySem PySem.Spec PyProof.Rows L2
theorem sqL_ne {K : PySem.W.Frag} {H : Hp} {a D : Addr} {xs : List V} {o : HO} (n : a ≠ D) (h : SqL K H a xs) : SqL K (upd H D o) a xs :=
  h.imp (fun q => q.imp (fun q => by rw [upd_ne n]; exact q) fun ⟨ob, q⟩ => ⟨ob, by rw [upd_ne n]; exact q⟩) id
theorem sqT_ne {K : PySem.W.Frag} {H : Hp} {a D : Addr} {xs : List V} {o : HO} (n : a ≠ D) (h : SqT K H a xs) : SqT K (upd H D o) a xs :=
  h.imp (fun q => q.imp (fun q => by rw [upd_ne n]; exact q) fun ⟨ob, q⟩ => ⟨ob, by rw [upd_ne n]; exact q⟩) id
theorem sqA_ne {K : PySem.W.Frag} {H : Hp} {a D : Addr} {xs : List V} {o : HO} (n : a ≠ D) (h : SqA K H a xs) : SqA K (upd H D o) a xs := h.imp (sqL_ne n) (sqT_ne n)
def Lc2R (K : PySem.W.Frag) (g : TG) (tt : TT) (wi1 : TI) (g1 : TG) (tt1 : TT) (te : TE) (vs vs1 : List Nat) (σ : Sg) (Q : VK) : It → Hp → Prop := fun J H1 => ∀ D, H1 D = none → ∃ W : Nat → Nat → Hp → Prop, (∃ m, W 0 m (upd H1 D (.lst []))) ∧ ∀ i m H, W i m H →
  (J.stop i H ∧ Q (.ref D) H) ∨ (J.go i H ∧ ∃ Nx : Hp → Prop, (∀ H', Nx H' → ∃ m', m' < m ∧ W (i + 1) m' H') ∧ ∀ x H', J.yld i H x H' → g x (wipe σ vs) H' fun σ2 H2 => wipe σ2 vs = wipe σ vs ∧ tt σ2 H2 fun b H3 =>
    if b = true then wi1 σ2 H3 fun J1 H4 => ∃ W1 : Nat → Nat → Hp → Prop, (∃ m, W1 0 m H4) ∧ ∀ j k H, W1 j k H →
      (J1.stop j H ∧ Nx H) ∨ (J1.go j H ∧ ∃ Nx1 : Hp → Prop, (∀ H', Nx1 H' → ∃ k', k' < k ∧ W1 (j + 1) k' H') ∧ ∀ x H', J1.yld j H x H' → g1 x (wipe σ2 vs1) H' fun σ3 H5 => wipe σ3 vs1 = wipe σ2 vs1 ∧ tt1 σ3 H5 fun b H6 =>
        if b = true then te σ3 H6 fun y H7 => ∃ acc, H7 D = some (.lst acc) ∧ acc.length < sizeLine ∧ Nx1 (upd H7 D (.lst (acc ++ [y]))) else Nx1 H6)
    else Nx H3)
def tLx2 (K : PySem.W.Frag) (wi : TI) (g : TG) (tt : TT) (wi1 : TI) (g1 : TG) (tt1 : TT) (te : TE) (vs vs1 : List Nat) : TE := fun σ H Q => wi σ H (Lc2R K g tt wi1 g1 tt1 te vs vs1 σ Q)
section
variable {X : Cx}
theorem pe_lx2 {elt tg iter tg1 iter1 : Expr} {ifs ifs1 : List Expr} {scope : Scope} {own : List (Str × Nat)} {vs1 : List Nat} {pos : Pos} {wi wi1 : TI} {g g1 : TG} {tt tt1 : TT} {te : TE} (hc : X.calm = true) (hN : X.N.Nodup) (hi : PI X tg iter wi) (ok : BlkOk X.N X.env.scope scope own) (hv : ∀ i ∈ vs1, i ∈ own.map (·.2))
    (hg : ∀ (s : Shared) (H : Hp) (C : Addr) (cl : List (Str × Addr)) (fp : List Addr), PG (X.blk s H scope (compEnvC scope cl C X.env) fp) tg g) (ht : ∀ (s : Shared) (H : Hp) (C : Addr) (cl : List (Str × Addr)) (fp : List Addr), PTs (X.blk s H scope (compEnvC scope cl C X.env) fp) ifs tt)
    (hi1 : ∀ (s : Shared) (H : Hp) (C : Addr) (cl : List (Str × Addr)) (fp : List Addr), PI (X.blk s H scope (compEnvC scope cl C X.env) fp) tg1 iter1 wi1)
    (hg1 : ∀ (s : Shared) (H : Hp) (C : Addr) (cl : List (Str × Addr)) (fp : List Addr), PG (X.blk s H scope (compEnvC scope cl C X.env) fp) tg1 g1) (ht1 : ∀ (s : Shared) (H : Hp) (C : Addr) (cl : List (Str × Addr)) (fp : List Addr), PTs (X.blk s H scope (compEnvC scope cl C X.env) fp) ifs1 tt1)
    (he : ∀ (s : Shared) (H : Hp) (C : Addr) (cl : List (Str × Addr)) (fp : List Addr), PE (X.blk s H scope (compEnvC scope cl C X.env) fp) elt te) (hs : ∀ x, foldedSetIterable iter X.env x = pure x := by intro _; rfl) (hs1 : ∀ env x, foldedSetIterable iter1 env x = pure x := by intro _ _; rfl) :
    PE X (.ListComp elt [⟨tg, iter, ifs, 0⟩, ⟨tg1, iter1, ifs1, 0⟩] scope pos) (tLx2 X.K wi g tt wi1 g1 tt1 te (own.map (·.2)) vs1) := pe_lc2 hc hN hi ok hv hg ht hi1 hg1 ht1 he hs hs1
theorem ps_setLx2 {i : Nat} {y : Str} {py : Pos} {elt tg iter tg1 iter1 : Expr} {ifs ifs1 : List Expr} {scope : Scope} {own : List (Str × Nat)} {vs1 : List Nat} {pos spos : Pos} {wi wi1 : TI} {g g1 : TG} {tt tt1 : TT} {te : TE} (hc : X.calm = true) (hN : X.N.Nodup) (hy : X.N[i]? = some y) (hyl : X.env.scope.names.lookup y = some .local)
    (hsw : swapsWith (.ListComp elt [⟨tg, iter, ifs, 0⟩, ⟨tg1, iter1, ifs1, 0⟩] scope pos) (some (.Name y py)) spos.line X.env = pure true) (hi : PI X tg iter wi) (ok : BlkOk X.N X.env.scope scope own) (hv : ∀ i ∈ vs1, i ∈ own.map (·.2))
    (hg : ∀ (s : Shared) (H : Hp) (C : Addr) (cl : List (Str × Addr)) (fp : List Addr), PG (X.blk s H scope (compEnvC scope cl C X.env) fp) tg g) (ht : ∀ (s : Shared) (H : Hp) (C : Addr) (cl : List (Str × Addr)) (fp : List Addr), PTs (X.blk s H scope (compEnvC scope cl C X.env) fp) ifs tt)
    (hi1 : ∀ (s : Shared) (H : Hp) (C : Addr) (cl : List (Str × Addr)) (fp : List Addr), PI (X.blk s H scope (compEnvC scope cl C X.env) fp) tg1 iter1 wi1)
    (hg1 : ∀ (s : Shared) (H : Hp) (C : Addr) (cl : List (Str × Addr)) (fp : List Addr), PG (X.blk s H scope (compEnvC scope cl C X.env) fp) tg1 g1) (ht1 : ∀ (s : Shared) (H : Hp) (C : Addr) (cl : List (Str × Addr)) (fp : List Addr), PTs (X.blk s H scope (compEnvC scope cl C X.env) fp) ifs1 tt1)
    (he : ∀ (s : Shared) (H : Hp) (C : Addr) (cl : List (Str × Addr)) (fp : List Addr), PE (X.blk s H scope (compEnvC scope cl C X.env) fp) elt te) (hs : ∀ x, foldedSetIterable iter X.env x = pure x := by intro _; rfl) (hs1 : ∀ env x, foldedSetIterable iter1 env x = pure x := by intro _ _; rfl) :
    PS X (.Assign [.Name y py] (.ListComp elt [⟨tg, iter, ifs, 0⟩, ⟨tg1, iter1, ifs1, 0⟩] scope pos) spos) (tAsg (tLx2 X.K wi g tt wi1 g1 tt1 te (own.map (·.2)) vs1) (gName i)) := ps_setLc2 hc hN hy hyl hsw hi ok hv hg ht hi1 hg1 ht1 he hs hs1
end
section
variable {α : Type} {K : PySem.W.Frag} {a : Addr} {i j : Nat} {te1 : TE} {vs vs1 : List Nat} {σ : Sg} {H1 : Hp} {Q : VK}
theorem flat_len (f : α → List Str) : ∀ zs : List α, (∀ z ∈ zs, (f z).length ≤ 20) → (zs.flatMap f).length ≤ zs.length * 20
  | [], _ => Nat.zero_le _
  | z :: zs, h => by
    rw [List.flatMap_cons, List.length_append, List.length_cons]
    have h1 := h z List.mem_cons_self
    have h2 := flat_len f zs fun x hx => h x (List.mem_cons_of_mem _ hx)
    omega
theorem lc2_any (zs : List α) (val : α → V) (f : α → List Str) {J : It} (hst : ∀ i H, Same H1 H → zs.length ≤ i → J.stop i H) (hgo : ∀ i H x, Same H1 H → zs[i]? = some x → J.go i H)
    (hy : ∀ i H x H', Same H1 H → J.yld i H x H' → H' = H ∧ ∀ z, zs[i]? = some z → x = val z) (sz : zs.length ≤ 1000) (fz : ∀ z ∈ zs, (f z).length ≤ 20)
    (hw : ∀ v, wipe ((wipe σ vs).set i (some v)) vs = wipe σ vs) (hw1 : ∀ v u, wipe ((wipe ((wipe σ vs).set i (some v)) vs1).set j (some u)) vs1 = wipe ((wipe σ vs).set i (some v)) vs1)
    (hj : ∀ v u, ((wipe ((wipe σ vs).set i (some v)) vs1).set j (some u))[j]? = some (some u))
    (hin : ∀ z H' (N : VK), z ∈ zs → Same H1 H' → (∀ D H'', Same H' H'' → H' D = none → SqA K H'' D (sv (f z)) → N (.ref D) H'') → te1 ((wipe σ vs).set i (some (val z))) H' N)
    (hd : ∀ D H', H1 D = none → Same H1 H' → H' D = some (.lst (sv (zs.flatMap f))) → Q (.ref D) H') :
    Lc2R K (gName i) tYes (iSeq K te1) (gName j) tYes (tVar j) vs vs1 σ Q J H1 := by
  intro D nD
  refine ⟨fun i m H => m = zs.length - i ∧ i ≤ zs.length ∧ Same H1 H ∧ H D = some (.lst (sv ((zs.take i).flatMap f))), ⟨zs.length, by simp, Nat.zero_le _, Sn nD, upd_same⟩, ?_⟩
  rintro n m H ⟨rfl, hn, s1, hD⟩
  by_cases hlt : n < zs.length
  · have hz : zs[n]? = some zs[n] := List.getElem?_eq_getElem hlt
    have hmem := memi hz
    refine .inr ⟨hgo n H _ s1 hz, fun H' => Same H1 H' ∧ H' D = some (.lst (sv ((zs.take (n + 1)).flatMap f))), fun H' h' => ⟨zs.length - (n + 1), by omega, rfl, hlt, h'⟩, ?_⟩
    intro x H' y
    obtain ⟨rfl, ex⟩ := hy n H x H' s1 y
    cases ex _ hz
    refine ⟨hw _, ?_⟩
    have len0 : ((zs.take n).flatMap f).length ≤ 20000 := Nat.le_trans (flat_len f _ fun z h => fz z (List.mem_of_mem_take h)) (by rw [List.length_take]; omega)
    have lz := fz _ hmem
    have et : (zs.take (n + 1)).flatMap f = (zs.take n).flatMap f ++ f zs[n] := by rw [take_more hz, List.flatMap_append, List.flatMap_cons, List.flatMap_nil, List.append_nil]
    refine hin zs[n] H' _ hmem s1 fun D1 H2 s2 nD1 S => ?_
    have hne : D1 ≠ D := fun e => by rw [e, hD] at nD1; cases nD1
    have s12 := s1.trans s2
    have hD2 := s2 _ _ hD
    -- the inner walk, of a list or a tuple
    have inner : ∀ (J1 : It) (Sq : Hp → Prop), Sq H2 → (∀ H3 o, Sq H3 → Sq (upd H3 D o)) → (∀ k H3, Sq H3 → (f zs[n]).length ≤ k → J1.stop k H3) → (∀ k H3 z, Sq H3 → (f zs[n])[k]? = some z → J1.go k H3) → (∀ k H3 x H', Sq H3 → J1.yld k H3 x H' → H' = H3 ∧ ∀ z, (f zs[n])[k]? = some z → x = .str z) →
        ∃ W1 : Nat → Nat → Hp → Prop, (∃ m, W1 0 m H2) ∧ ∀ k m H, W1 k m H → (J1.stop k H ∧ (Same H1 H ∧ H D = some (.lst (sv ((zs.take (n + 1)).flatMap f))))) ∨ (J1.go k H ∧ ∃ Nx1 : Hp → Prop, (∀ H', Nx1 H' → ∃ k', k' < m ∧ W1 (k + 1) k' H') ∧ ∀ x H', J1.yld k H x H' →
          gName j x (wipe ((wipe σ vs).set i (some (val zs[n]))) vs1) H' fun σ3 H5 => wipe σ3 vs1 = wipe ((wipe σ vs).set i (some (val zs[n]))) vs1 ∧ tYes σ3 H5 fun b H6 =>
            if b = true then tVar j σ3 H6 fun y H7 => ∃ acc, H7 D = some (.lst acc) ∧ acc.length < sizeLine ∧ Nx1 (upd H7 D (.lst (acc ++ [y]))) else Nx1 H6) := by
      intro J1 Sq h0 hk stop go yld
      refine ⟨fun k m H => m = (f zs[n]).length - k ∧ k ≤ (f zs[n]).length ∧ Same H1 H ∧ Sq H ∧ H D = some (.lst (sv ((zs.take n).flatMap f ++ (f zs[n]).take k))), ⟨(f zs[n]).length, by simp, Nat.zero_le _, s12, h0, by rw [List.take_zero, List.append_nil]; exact hD2⟩, ?_⟩
      rintro k m H3 ⟨rfl, hk3, s3, q3, h3⟩
      by_cases hl : k < (f zs[n]).length
      · have hz3 : (f zs[n])[k]? = some (f zs[n])[k] := List.getElem?_eq_getElem hl
        refine .inr ⟨go k H3 _ q3 hz3, fun H4 => Same H1 H4 ∧ Sq H4 ∧ H4 D = some (.lst (sv ((zs.take n).flatMap f ++ (f zs[n]).take (k + 1)))), fun H4 h4 => ⟨(f zs[n]).length - (k + 1), by omega, rfl, hl, h4.1, h4.2.1, h4.2.2⟩, ?_⟩
        intro x H4 y4
        obtain ⟨rfl, ex4⟩ := yld k H3 x H4 q3 y4
        cases ex4 _ hz3
        refine ⟨hw1 _ _, ?_⟩
        refine ⟨_, hj _ _, _, h3, ?_, sameD nD s3, hk _ _ q3, ?_⟩
        · rw [List.length_map, List.length_append, List.length_take]
          exact Nat.lt_of_le_of_lt (m := 30000) (by omega) (by decide)
        · rw [upd_same, take_more hz3, ← List.append_assoc]; exact congrArg (fun l => some (HO.lst l)) (List.map_append (f := V.str) (l₂ := [_])).symm
      · have e : k = (f zs[n]).length := by omega
        subst e
        refine .inl ⟨stop _ H3 q3 (Nat.le_refl _), s3, ?_⟩
        rw [h3, et, List.take_length]
    rcases S with S | S
    · refine ⟨D1, rfl, .inl ⟨⟨_, S⟩, inner _ (fun H => SqL K H D1 (sv (f zs[n]))) S (fun H3 o h => sqL_ne hne h) (fun k H3 h hk => ⟨_, h, by rw [List.length_map]; exact hk⟩) (fun k H3 z h hz => ⟨_, _, h, by rw [List.getElem?_map, hz]; rfl⟩) fun k H3 x H' h y => ⟨y.1, fun z hz => ?_⟩⟩⟩
      exact Option.some.inj ((y.2 _ h).symm.trans (by rw [List.getElem?_map, hz]; rfl))
    · refine ⟨D1, rfl, .inr ⟨⟨_, S⟩, inner _ (fun H => SqT K H D1 (sv (f zs[n]))) S (fun H3 o h => sqT_ne hne h) (fun k H3 h hk => ⟨_, h, by rw [List.length_map]; exact hk⟩) (fun k H3 z h hz => ⟨_, _, h, by rw [List.getElem?_map, hz]; rfl⟩) fun k H3 x H' h y => ⟨y.1, fun z hz => ?_⟩⟩⟩
      exact Option.some.inj ((y.2 _ h).symm.trans (by rw [List.getElem?_map, hz]; rfl))
  · have e : n = zs.length := by omega
    subst e
    rw [List.take_length] at hD
    exact .inl ⟨hst _ H s1 (Nat.le_refl _), hd D H nD s1 hD⟩
theorem lc2_use (zs : List α) (val : α → V) (f : α → List Str) (S : SqA K H1 a (zs.map val)) (sz : zs.length ≤ 1000) (fz : ∀ z ∈ zs, (f z).length ≤ 20)
    (hw : ∀ v, wipe ((wipe σ vs).set i (some v)) vs = wipe σ vs) (hw1 : ∀ v u, wipe ((wipe ((wipe σ vs).set i (some v)) vs1).set j (some u)) vs1 = wipe ((wipe σ vs).set i (some v)) vs1)
    (hj : ∀ v u, ((wipe ((wipe σ vs).set i (some v)) vs1).set j (some u))[j]? = some (some u))
    (hin : ∀ z H' (N : VK), z ∈ zs → Same H1 H' → (∀ D H'', Same H' H'' → H' D = none → SqA K H'' D (sv (f z)) → N (.ref D) H'') → te1 ((wipe σ vs).set i (some (val z))) H' N)
    (hd : ∀ D H', H1 D = none → Same H1 H' → H' D = some (.lst (sv (zs.flatMap f))) → Q (.ref D) H') :
    SeqR K (Lc2R K (gName i) tYes (iSeq K te1) (gName j) tYes (tVar j) vs vs1 σ Q) (.ref a) H1 := by
  have hx : ∀ {i : Nat} {z : α}, zs[i]? = some z → (zs.map val)[i]? = some (val z) := fun {i z} h => by rw [List.getElem?_map, h]; rfl
  rcases S with S | S
  · refine ⟨a, rfl, .inl ⟨⟨_, S⟩, lc2_any zs val f (fun i H s hi => ⟨_, s.seq S, by rw [List.length_map]; exact hi⟩) (fun i H x s h => ⟨_, _, s.seq S, hx h⟩) (fun i H x H' s y => ⟨y.1, fun z hz => ?_⟩) sz fz hw hw1 hj hin hd⟩⟩
    exact Option.some.inj ((y.2 _ (s.seq S)).symm.trans (hx hz))
  · refine ⟨a, rfl, .inr ⟨⟨_, S⟩, lc2_any zs val f (fun i H s hi => ⟨_, samT s S, by rw [List.length_map]; exact hi⟩) (fun i H x s h => ⟨_, _, samT s S, hx h⟩) (fun i H x H' s y => ⟨y.1, fun z hz => ?_⟩) sz fz hw hw1 hj hin hd⟩⟩
    exact Option.some.inj ((y.2 _ (samT s S)).symm.trans (hx hz))
end
end SB

set_option maxHeartbeats 2000000
namespace SB
open PySem PySem.Spec PyProof.Rows L2
open C8 (Cal Mak Met pe_c pe_mk pe_mt pe_mt0 pe_gc InsC call_isC)

/-! ### what a plan's rows must be -/
def firstOf : RD → Option Str
  | .first p => some p
  | _ => none
def firstsOf (rs : List RD) : List Str := rs.filterMap firstOf
def modeOf : RD → Option (Str × Option Str)
  | .mode n pr _ => some (n, pr)
  | _ => none
def modesOf (rs : List RD) : List (Str × Option Str) := rs.filterMap modeOf
def namesOf (rs : List RD) : List Str := (modesOf rs).map (·.1)
def leadMOf : RD → Option Str
  | .lead m _ _ _ _ => if m = "any" then none else some m
  | _ => none
def leadsM (rs : List RD) : List Str := rs.filterMap leadMOf
structure Good (rs : List RD) : Prop where
  f1 : firstsOf rs ≠ []
  f2 : (firstsOf rs).Nodup
  m1 : namesOf rs ≠ []
  m2 : (namesOf rs).Nodup
  t1 : ∀ p ∈ turnsOf rs, p.1 ∈ namesOf rs ∧ p.2 ∈ namesOf rs
  l1 : ∀ m ∈ leadsM rs, m ∈ namesOf rs
  u : ∀ p ∈ turnsOf rs, (p.1, none) ∈ modesOf rs
  r : Ranked (turnsOf rs)
/-- the dict of modes: what stands at a name -/
def mvL (l : List (Str × Option Str)) (z : Str) : Option V := l.foldl (fun o p => if z = p.1 then some (optV p.2) else o) none
theorem mvL_snoc (l : List (Str × Option Str)) (p : Str × Option Str) (z : Str) : mvL (l ++ [p]) z = if z = p.1 then some (optV p.2) else mvL l z := by
  unfold mvL; rw [List.foldl_append]; rfl
theorem mvL_some (z : Str) : ∀ l : List (Str × Option Str), (mvL l z).isSome = true ↔ z ∈ l.map (·.1) := by
  refine revInd ?_ ?_
  · exact ⟨fun h => (nomatch h), fun h => (nomatch h)⟩
  · intro l p ih
    rw [mvL_snoc, List.map_append, List.mem_append, ← ih]
    by_cases e : z = p.1
    · rw [if_pos e]; exact ⟨fun _ => .inr (by rw [e]; exact List.mem_singleton.mpr rfl), fun _ => rfl⟩
    · rw [if_neg e]; exact ⟨fun h => Or.inl h, fun h => h.elim id fun h => (e (List.mem_singleton.mp h)).elim⟩
theorem mvL_val (z : Str) (q : Option Str) : ∀ l : List (Str × Option Str), (l.map (·.1)).Nodup → (z, q) ∈ l → mvL l z = some (optV q) := by
  refine revInd ?_ ?_
  · intro _ h; cases h
  · intro l p ih nd h
    rw [List.map_append, List.nodup_append] at nd
    rw [mvL_snoc]
    rcases List.mem_append.mp h with h | h
    · have hne : ¬ z = p.1 := fun e => nd.2.2 z (List.mem_map_of_mem (f := (·.1)) h) p.1 (List.mem_singleton.mpr rfl) e
      rw [if_neg hne]
      exact ih nd.1 h
    · have e := List.mem_singleton.mp h
      subst e
      rw [if_pos rfl]
section
variable {α : Type} {K : PySem.W.Frag} {a : Addr} {g : TG} {tt : TT} {tk tv : TE} {vs : List Nat} {σ : Sg} {H1 : Hp} {Q : VK}
/-- {k: v for x in xs if ..}: the dict's content is told -/
theorem dc_it (zs : List α) (val : α → V) (f : α → Option (Str × V)) (S : SqA K H1 a (zs.map val)) (sz : zs.length ≤ 100000)
    (hs : ∀ z H (N : V → V → Hp → Prop) (M : Hp → Prop), z ∈ zs → Same H1 H → (∀ k y H', Same H H' → f z = some (k, y) → N (.str k) y H') → (∀ H', Same H H' → f z = none → M H') →
      g (val z) (wipe σ vs) H fun σ2 H2 => wipe σ2 vs = wipe σ vs ∧ tt σ2 H2 fun b H3 => if b = true then tk σ2 H3 fun y H4 => tv σ2 H4 fun z H5 => N y z H5 else M H3)
    (hd : ∀ D kvs H, H1 D = none → Same H1 H → H D = some (.dK kvs) → (∀ z, valV kvs (.inr z) = (zs.filterMap f).foldl (fun o p => if z = p.1 then some p.2 else o) none) → Q (.ref D) H) : SeqR K (DcR g tt tk tv vs σ Q) (.ref a) H1 := by
  refine dc_seq S (by rw [List.length_map]; exact Nat.lt_of_le_of_lt sz (by decide)) (fun n kvs => ∀ z, valV kvs (.inr z) = ((zs.take n).filterMap f).foldl (fun o p => if z = p.1 then some p.2 else o) none) (fun _ => rfl) ?_ ?_
  · intro D n x kvs H nD hx s1 hD p N M kN kM
    rw [List.getElem?_map] at hx
    obtain ⟨z, hz, rfl⟩ := Option.map_eq_some_iff.mp hx
    refine hs z H N M (memi hz) s1 (fun k y H' s' e => kN (.inr k) y H' s' fun u => ?_) fun H' s' e => kM H' s' fun u => ?_
    · have p' := p u
      rw [valV_put, take_more hz, List.filterMap_append, List.foldl_append, List.filterMap_cons, e, ← p']
      show _ = if u = k then some y else _
      by_cases h : u = k
      · rw [if_pos (congrArg Sum.inr h), if_pos h]
      · rw [if_neg (fun q => h (Sum.inr.inj q)), if_neg h]
    · have p' := p u
      rw [take_more hz, List.filterMap_append, List.foldl_append, List.filterMap_cons, e, ← p']; rfl
  · intro D kvs H nD s1 hD hl p
    have p' : ∀ z, valV kvs (.inr z) = ((zs.take (zs.map val).length).filterMap f).foldl (fun o p => if z = p.1 then some p.2 else o) none := p
    rw [List.length_map, List.take_length] at p'
    exact hd D kvs H nD s1 hD p'
end
theorem fm_snd {α : Type} (f : RD → Option α) (h : α → V) : ∀ zs : List VR, zs.filterMap (fun p => (f p.2).map h) = ((zs.map (·.2)).filterMap f).map h
  | [] => rfl
  | p :: zs => by
    rw [List.filterMap_cons, List.map_cons, List.filterMap_cons, fm_snd f h zs]
    cases f p.2 <;> rfl
theorem fm_pick (f : RD → Bool) : ∀ zs : List VR, zs.filterMap (fun p => if f p.2 = true then some p.1 else none) = (zs.filter fun p => f p.2).map (·.1)
  | [] => rfl
  | p :: zs => by
    rw [List.filterMap_cons, fm_pick f zs, List.filter_cons]
    by_cases h : f p.2 = true
    · rw [if_pos h, if_pos h]; rfl
    · rw [if_neg h, if_neg h]
theorem snd_pick (f : RD → Bool) : ∀ zs : List VR, (zs.filter fun p => f p.2).map (·.2) = (zs.map (·.2)).filter f
  | [] => rfl
  | p :: zs => by
    rw [List.filter_cons, List.map_cons, List.filter_cons, ← snd_pick f zs]
    by_cases h : f p.2 = true
    · rw [if_pos h, if_pos h]; rfl
    · rw [if_neg h, if_neg h]
theorem turnsOf_pick (rs : List RD) : turnsOf (rs.filter isTurn) = turnsOf rs := by
  unfold turnsOf
  rw [List.filterMap_filter]
  congr 1
  funext r
  cases r <;> rfl
theorem fm_modes (z : Str) : ∀ (zs : List VR) (o : Option V), (zs.filterMap fun p => (modeOf p.2).map fun q => (q.1, optV q.2)).foldl (fun o p => if z = p.1 then some p.2 else o) o = (modesOf (zs.map (·.2))).foldl (fun o p => if z = p.1 then some (optV p.2) else o) o
  | [], _ => rfl
  | p :: zs, o => by
    unfold modesOf
    rw [List.filterMap_cons, List.map_cons, List.filterMap_cons]
    cases modeOf p.2 with
    | none => exact fm_modes z zs o
    | some q => exact fm_modes z zs _
section
variable {P : Program} {w : World} {K : PySem.W.Frag} {mg : Str → Option Value} {base : Heap}
variable {c : Cs}
/-- a reading of a row in a comprehension: isinstance first -/
theorem rowAt_cases {H : Hp} {v : V} {r : RD} (h : RowAt c K H v r) : ∃ a dx t u, v = .ref a ∧ H a = some (.ins (rcls c r) dx (ob (rks r) (rvs t u r))) := by
  obtain ⟨a, dx, t, u, e, ha, _⟩ := h
  exact ⟨a, dx, t, u, e, ha⟩
def spFault (c : Cs) (K : PySem.W.Frag) : Sp := fun vs H Q _ => ∃ (a : Addr) (zs : List VR), vs = [.ref a] ∧ SqA K H a (zs.map (·.1)) ∧ RowsAt c K H zs ∧ zs.length ≤ 1000 ∧
  ∀ H' v, Same H H' → (v = .non ∨ ∃ w, v = .str w) → (Good (zs.map (·.2)) → v = .non) → Q v H'
theorem namesOf_eq (zs : List VR) : (zs.filterMap fun p => (modeOf p.2).map fun q => V.str q.1) = sv (namesOf (zs.map (·.2))) := by
  rw [fm_snd modeOf fun q => V.str q.1]
  unfold namesOf modesOf sv
  rw [List.map_map]; rfl
theorem fm_bl {α : Type} (f : α → Bool) : ∀ l : List α, (l.filterMap fun z => some (V.bl (f z))) = (l.map f).map V.bl
  | [] => rfl
  | x :: l => by
    show V.bl (f x) :: _ = _
    rw [fm_bl f l]; rfl
theorem fm_le {α β : Type} (f : α → Option β) (l : List α) : (l.filterMap f).length ≤ l.length := List.length_filterMap_le _ _
def toldOf : RD → List Str
  | .turn m _ _ t => [m, t]
  | _ => []
theorem c_fault_of (U : Ux K mg c) : Cal P w K mg base 2 "fault_of" (spFault c K) [] := by
  refine U.z.y.x.g_fault_of.cal sc_fault_of (fun vs H Q E h => ?_) (fun f cdv A outer s H vs Q E hr h => ?_) (fun _ _ _ _ _ _ us hl => match us, hl with | [_], _ => rfl)
  · obtain ⟨a, zs, rfl, S, R, sz, k⟩ := h
    rfl
  · obtain ⟨a, zs, rfl, S, R, sz, k⟩ := h
    have Y := U.z.y
    have T := Y.x
    refine ⟨_, (pss_cons (ps_setLx (i := 1) (own := [("row", 6)]) (g := gName 6) (by rfl) sc_fault_of.nd rfl rfl (sw_true rfl rfl rfl (by decide +kernel)) (pi_seq (pv 0)) (blkOk_by (N := n_fault_of) (sc := defScope s_fault_of) (by decide +kernel)) (fun _ _ _ _ _ => pg_name (i := 6) sc_fault_of.nd rfl (Or.inl rfl)) (fun _ _ _ _ _ => pts_one (pt_val (pe_callB (r := rIsR K c c.first isFirst) (call_isR U U.of_first) (by rfl) T.m_isinstance (by decide +kernel) (pa_cons (pv 6) (pa_cons (pe_gc (v := .ref c.first) (by rfl) ⟨_, U.n_first, rfl⟩) pa_nil))))) (fun _ _ _ _ _ => (pe_fo (ks := kFirst) 0 (pv 6) Y.k_first.cl (Y.k_first.na "place" (by decide +kernel)) (by decide +kernel)))) (pss_cons (ps_if (PW.pt (pw_or (pt_cmpR op_eq (pe_callB call_len_seq (by rfl) T.m_len (by decide +kernel) (pa_cons (pv 1) pa_nil)) pe_int (nomark _)) (pw_or1 (pt_val (pe_c (c_has_twins T) hr (by decide) (by rfl) (pa_cons (pv 1) pa_nil)))))) (pss_one (ps_ret pe_str)) pss_nil) (pss_cons (ps_set (i := 2) sc_fault_of.nd rfl (Or.inr rfl) (pe_dx (own := [("row", 6)]) (g := gName 6) (by rfl) sc_fault_of.nd (pi_seq (pv 0)) (blkOk_by (N := n_fault_of) (sc := defScope s_fault_of) (by decide +kernel)) (fun _ _ _ _ _ => pg_name (i := 6) sc_fault_of.nd rfl (Or.inl rfl)) (fun _ _ _ _ _ => pts_one (pt_val (pe_callB (r := rIsR K c c.mode isMode) (call_isR U U.of_mode) (by rfl) T.m_isinstance (by decide +kernel) (pa_cons (pv 6) (pa_cons (pe_gc (v := .ref c.mode) (by rfl) ⟨_, U.n_mode, rfl⟩) pa_nil))))) (fun _ _ _ _ _ => (pe_fo (ks := kMode) 0 (pv 6) Y.k_mode.cl (Y.k_mode.na "name" (by decide +kernel)) (by decide +kernel))) (fun _ _ _ _ _ => (pe_fo (ks := kMode) 1 (pv 6) Y.k_mode.cl (Y.k_mode.na "promise" (by decide +kernel)) (by decide +kernel))))) (pss_cons (ps_setLx (i := 3) (own := [("row", 6)]) (g := gName 6) (by rfl) sc_fault_of.nd rfl rfl (sw_true rfl rfl rfl (by decide +kernel)) (pi_seq (pv 0)) (blkOk_by (N := n_fault_of) (sc := defScope s_fault_of) (by decide +kernel)) (fun _ _ _ _ _ => pg_name (i := 6) sc_fault_of.nd rfl (Or.inl rfl)) (fun _ _ _ _ _ => pts_one (pt_val (pe_callB (r := rIsR K c c.mode isMode) (call_isR U U.of_mode) (by rfl) T.m_isinstance (by decide +kernel) (pa_cons (pv 6) (pa_cons (pe_gc (v := .ref c.mode) (by rfl) ⟨_, U.n_mode, rfl⟩) pa_nil))))) (fun _ _ _ _ _ => (pe_fo (ks := kMode) 0 (pv 6) Y.k_mode.cl (Y.k_mode.na "name" (by decide +kernel)) (by decide +kernel)))) (pss_cons (ps_if (PW.pt (pw_or (pt_cmpR op_eq (pe_callB call_len_seq (by rfl) T.m_len (by decide +kernel) (pa_cons (pv 3) pa_nil)) pe_int (nomark _)) (pw_or1 (pt_val (pe_c (c_has_twins T) hr (by decide) (by rfl) (pa_cons (pv 3) pa_nil)))))) (pss_one (ps_ret pe_str)) pss_nil) (pss_cons (ps_set (i := 4) sc_fault_of.nd rfl (Or.inr rfl) (pe_lx (own := [("row", 6)]) (g := gName 6) (by rfl) sc_fault_of.nd (pi_seq (pv 0)) (blkOk_by (N := n_fault_of) (sc := defScope s_fault_of) (by decide +kernel)) (fun _ _ _ _ _ => pg_name (i := 6) sc_fault_of.nd rfl (Or.inl rfl)) (fun _ _ _ _ _ => pts_one (pt_val (pe_callB (r := rIsR K c c.turn isTurn) (call_isR U U.of_turn) (by rfl) T.m_isinstance (by decide +kernel) (pa_cons (pv 6) (pa_cons (pe_gc (v := .ref c.turn) (by rfl) ⟨_, U.n_turn, rfl⟩) pa_nil))))) (fun _ _ _ _ _ => (pv 6)))) (pss_cons (ps_setLx2 (i := 5) (own := [("turn", 7), ("name", 8)]) (vs1 := [8]) (g := gName 7) (g1 := gName 8) (tt := tYes) (tt1 := tYes) (wi1 := iSeq K (tTup (tCons (tFo c.turn kTurn 0 (tVar 7)) (tCons (tFo c.turn kTurn 3 (tVar 7)) tNil)))) (by rfl) sc_fault_of.nd rfl rfl (sw_true rfl rfl rfl (by decide +kernel)) (pi_seq (pv 4)) (blkOk_by (N := n_fault_of) (sc := defScope s_fault_of) (by decide +kernel)) (by decide) (fun _ _ _ _ _ => pg_name (i := 7) sc_fault_of.nd rfl (Or.inl rfl)) (fun _ _ _ _ _ => pts_nil) (fun _ _ _ _ _ => pi_seq (pe_tup (pa_cons (pe_fo (ks := kTurn) 0 (pv 7) Y.k_turn.cl (Y.k_turn.na "mode" (by decide +kernel)) (by decide +kernel)) (pa_cons (pe_fo (ks := kTurn) 3 (pv 7) Y.k_turn.cl (Y.k_turn.na "then" (by decide +kernel)) (by decide +kernel)) pa_nil)))) (fun _ _ _ _ _ => pg_name (i := 8) sc_fault_of.nd rfl (Or.inl rfl)) (fun _ _ _ _ _ => pts_nil) (fun _ _ _ _ _ => pv 8)) (pss_cons (ps_expr (pe_bm PySem.F.plainAttrs_list PySem.F.slot_list_extend PySem.F.type_list_extend mt_extend (pv 5) (pa_cons (pe_lx (own := [("row", 6)]) (g := gName 6) (by rfl) sc_fault_of.nd (pi_seq (pv 0)) (blkOk_by (N := n_fault_of) (sc := defScope s_fault_of) (by decide +kernel)) (fun _ _ _ _ _ => pg_name (i := 6) sc_fault_of.nd rfl (Or.inl rfl)) (fun _ _ _ _ _ => pts_one (PW.pt (pw_and (pt_val (pe_callB (r := rIsR K c c.lead isLead) (call_isR U U.of_lead) (by rfl) T.m_isinstance (by decide +kernel) (pa_cons (pv 6) (pa_cons (pe_gc (v := .ref c.lead) (by rfl) ⟨_, U.n_lead, rfl⟩) pa_nil)))) (pw_and1 (pt_cmpR op_ne (pe_fo (ks := kLead) 0 (pv 6) Y.k_lead.cl (Y.k_lead.na "mode" (by decide +kernel)) (by decide +kernel)) pe_str (nomark _)))))) (fun _ _ _ _ _ => (pe_fo (ks := kLead) 0 (pv 6) Y.k_lead.cl (Y.k_lead.na "mode" (by decide +kernel)) (by decide +kernel)))) pa_nil))) (pss_cons (ps_if (pt_not (pt_val (pe_callB (cr_all rfl) (by rfl) T.m_all (by decide +kernel) (pa_cons (pe_lx (own := [("name", 8)]) (g := gName 8) (tt := tYes) (by rfl) sc_fault_of.nd (pi_seq (pv 5)) (blkOk_by (N := n_fault_of) (sc := defScope s_fault_of) (by decide +kernel)) (fun _ _ _ _ _ => pg_name (i := 8) sc_fault_of.nd rfl (Or.inl rfl)) (fun _ _ _ _ _ => pts_nil) (fun _ _ _ _ _ => (pe_cmp (pc_din (hu_of hr) (pv 8) (pv 2))))) pa_nil)))) (pss_one (ps_ret pe_str)) pss_nil) (pss_cons (ps_if (pt_val (pe_callB (cr_any rfl) (by rfl) T.m_any (by decide +kernel) (pa_cons (pe_lx (own := [("turn", 7)]) (g := gName 7) (tt := tYes) (by rfl) sc_fault_of.nd (pi_seq (pv 4)) (blkOk_by (N := n_fault_of) (sc := defScope s_fault_of) (by decide +kernel)) (fun _ _ _ _ _ => pg_name (i := 7) sc_fault_of.nd rfl (Or.inl rfl)) (fun _ _ _ _ _ => pts_nil) (fun _ _ _ _ _ => (pe_cmpR op_notN (pe_dget (hu_of hr) (pv 2) (pe_fo (ks := kTurn) 0 (pv 7) Y.k_turn.cl (Y.k_turn.na "mode" (by decide +kernel)) (by decide +kernel)) (fun _ _ => rfl)) pe_non (nomark _)))) pa_nil))) (pss_one (ps_ret pe_str)) pss_nil) (pss_one (ps_ret (pe_ifExp (pt_val (pe_callB (cr_any rfl) (by rfl) T.m_any (by decide +kernel) (pa_cons (pe_lx (own := [("name", 8)]) (g := gName 8) (tt := tYes) (by rfl) sc_fault_of.nd (pi_seq (pv 3)) (blkOk_by (N := n_fault_of) (sc := defScope s_fault_of) (by decide +kernel)) (fun _ _ _ _ _ => pg_name (i := 8) sc_fault_of.nd rfl (Or.inl rfl)) (fun _ _ _ _ _ => pts_nil) (fun _ _ _ _ _ => (pe_c (c_is_ring U) hr (by decide) (by rfl) (pa_cons (pv 4) (pa_cons (pv 8) pa_nil))))) pa_nil))) pe_str pe_non))))))))))))), ?_⟩
    have lF : (firstsOf (zs.map (·.2))).length ≤ zs.length := Nat.le_trans (fm_le _ _) (by rw [List.length_map]; exact Nat.le_refl _)
    have lN : (namesOf (zs.map (·.2))).length ≤ zs.length := by unfold namesOf; rw [List.length_map]; exact Nat.le_trans (fm_le _ _) (by rw [List.length_map]; exact Nat.le_refl _)
    have sz5 : zs.length ≤ 100000 := Nat.le_trans sz (by decide)
    refine ⟨_, rfl, it_use zs (·.1) (fun p => (firstOf p.2).map V.str) S sz5 ?_ ?_⟩
    · intro p H2 N M hp s2 kN kM
      have hr := (R p hp).1.sm (s2)
      obtain ⟨x, dx, t, u, ex, hx⟩ := rowAt_cases hr
      obtain ⟨v, r⟩ := p
      have ex : v = .ref x := ex
      subst ex
      cases r with
      | first q1 => exact ⟨rfl, _, rfl, _, _, rfl, hr, true, rfl, iteT ⟨_, rfl, x, dx, _, _, rfl, hx, rfl, kN _ _ (Same.refl _) rfl⟩⟩
      | mode q1 q2 q3 => exact ⟨rfl, _, rfl, _, _, rfl, hr, false, rfl, iteF (kM _ (Same.refl _) rfl)⟩
      | turn q1 q2 q3 q4 => exact ⟨rfl, _, rfl, _, _, rfl, hr, false, rfl, iteF (kM _ (Same.refl _) rfl)⟩
      | lead q1 q2 q3 q4 q5 => exact ⟨rfl, _, rfl, _, _, rfl, hr, false, rfl, iteF (kM _ (Same.refl _) rfl)⟩
      | house q1 q2 q3 => exact ⟨rfl, _, rfl, _, _, rfl, hr, false, rfl, iteF (kM _ (Same.refl _) rfl)⟩
    intro D1 H1 nD1 s1 h1
    rw [fm_snd firstOf V.str] at h1
    have h1 : H1 D1 = some (.lst (sv (firstsOf (zs.map (·.2))))) := h1
    refine ⟨_, rfl, D1, _, rfl, .inl (SqL.of h1), rfl, _, rfl, ?_⟩
    refine ite2 (fun hc => iteT ?_) (fun hc => ?_)
    · refine k _ _ s1 (.inr ⟨_, rfl⟩) fun G => absurd ?_ G.f1
      have e := V.int.inj (of_decide_eq_true hc)
      rw [List.length_map] at e
      exact List.length_eq_zero_iff.mp (Int.ofNat.inj e)
    refine ⟨_, rfl, D1, firstsOf (zs.map (·.2)), rfl, lstA h1, Nat.le_trans (Nat.le_trans lF sz) (by decide), fun H2 b s0 hb => ⟨b, rfl, ?_⟩⟩
    refine ite2 (fun hc => ?_) (fun hc => ?_)
    · exact k _ _ (s1.trans s0) (.inr ⟨_, rfl⟩) fun G => absurd G.f2 (hb.mp hc)
    have ndD1 : (firstsOf (zs.map (·.2))).Nodup := Classical.byContradiction fun q => hc (hb.mpr q)
    have s2 := s1.trans s0
    have hD1' := s0 _ _ h1
    have s0' := s0
    clear s0 hb hc b
    refine ⟨_, rfl, dc_it zs (·.1) (fun p => (modeOf p.2).map fun q => (q.1, optV q.2)) (samA s2 S) sz5 ?_ ?_⟩
    · intro p H3 N M hp s3 kN kM
      have hr := (R p hp).1.sm (s2.trans s3)
      obtain ⟨x, dx, t, u, ex, hx⟩ := rowAt_cases hr
      obtain ⟨v, r⟩ := p
      have ex : v = .ref x := ex
      subst ex
      cases r with
      | first q1 => exact ⟨rfl, _, rfl, _, _, rfl, hr, false, rfl, iteF (kM _ (Same.refl _) rfl)⟩
      | mode q1 q2 q3 => exact ⟨rfl, _, rfl, _, _, rfl, hr, true, rfl, iteT ⟨_, rfl, x, dx, _, _, rfl, hx, rfl, _, rfl, x, dx, _, _, rfl, hx, rfl, kN _ _ _ (Same.refl _) rfl⟩⟩
      | turn q1 q2 q3 q4 => exact ⟨rfl, _, rfl, _, _, rfl, hr, false, rfl, iteF (kM _ (Same.refl _) rfl)⟩
      | lead q1 q2 q3 q4 q5 => exact ⟨rfl, _, rfl, _, _, rfl, hr, false, rfl, iteF (kM _ (Same.refl _) rfl)⟩
      | house q1 q2 q3 => exact ⟨rfl, _, rfl, _, _, rfl, hr, false, rfl, iteF (kM _ (Same.refl _) rfl)⟩
    intro D2 kvs H3 nD2 s3 h2 hv
    have hv : ∀ z, valV kvs (.inr z) = mvL (modesOf (zs.map (·.2))) z := fun z => (hv z).trans (fm_modes z zs none)
    have s3' := s2.trans s3
    refine ⟨_, rfl, it_use zs (·.1) (fun p => (modeOf p.2).map fun q => V.str q.1) (samA s3' S) sz5 ?_ ?_⟩
    · intro p H4 N M hp s4 kN kM
      have hr := (R p hp).1.sm (s3'.trans s4)
      obtain ⟨x, dx, t, u, ex, hx⟩ := rowAt_cases hr
      obtain ⟨v, r⟩ := p
      have ex : v = .ref x := ex
      subst ex
      cases r with
      | first q1 => exact ⟨rfl, _, rfl, _, _, rfl, hr, false, rfl, iteF (kM _ (Same.refl _) rfl)⟩
      | mode q1 q2 q3 => exact ⟨rfl, _, rfl, _, _, rfl, hr, true, rfl, iteT ⟨_, rfl, x, dx, _, _, rfl, hx, rfl, kN _ _ (Same.refl _) rfl⟩⟩
      | turn q1 q2 q3 q4 => exact ⟨rfl, _, rfl, _, _, rfl, hr, false, rfl, iteF (kM _ (Same.refl _) rfl)⟩
      | lead q1 q2 q3 q4 q5 => exact ⟨rfl, _, rfl, _, _, rfl, hr, false, rfl, iteF (kM _ (Same.refl _) rfl)⟩
      | house q1 q2 q3 => exact ⟨rfl, _, rfl, _, _, rfl, hr, false, rfl, iteF (kM _ (Same.refl _) rfl)⟩
    intro D3 H4 nD3 s4 h3
    rw [namesOf_eq] at h3
    have s4' := s3'.trans s4
    have h2 := s4 _ _ h2
    refine ⟨_, rfl, D3, _, rfl, .inl (SqL.of h3), rfl, _, rfl, ?_⟩
    refine ite2 (fun hc => iteT ?_) (fun hc => ?_)
    · refine k _ _ s4' (.inr ⟨_, rfl⟩) fun G => absurd ?_ G.m1
      have e := V.int.inj (of_decide_eq_true hc)
      rw [List.length_map] at e
      exact List.length_eq_zero_iff.mp (Int.ofNat.inj e)
    refine ⟨_, rfl, D3, namesOf (zs.map (·.2)), rfl, lstA h3, Nat.le_trans (Nat.le_trans lN sz) (by decide), fun H5 b s0 hb => ⟨b, rfl, ?_⟩⟩
    refine ite2 (fun hc => ?_) (fun hc => ?_)
    · exact k _ _ (s4'.trans s0) (.inr ⟨_, rfl⟩) fun G => absurd G.m2 (hb.mp hc)
    have ndD3 : (namesOf (zs.map (·.2))).Nodup := Classical.byContradiction fun q => hc (hb.mpr q)
    have s5 := s4'.trans s0
    have hD3' := s0 _ _ h3
    have s0' := s0
    clear s0 hb hc b
    -- the turns
    refine ⟨_, rfl, it_use zs (·.1) (fun p => if isTurn p.2 = true then some p.1 else none) (samA s5 S) sz5 ?_ ?_⟩
    · intro p H6 N M hp s6 kN kM
      have hr := (R p hp).1.sm (s5.trans s6)
      obtain ⟨x, dx, t, u, ex, hx⟩ := rowAt_cases hr
      obtain ⟨v, r⟩ := p
      have ex : v = .ref x := ex
      subst ex
      cases r with
      | first q1 => exact ⟨rfl, _, rfl, _, _, rfl, hr, false, rfl, iteF (kM _ (Same.refl _) rfl)⟩
      | mode q1 q2 q3 => exact ⟨rfl, _, rfl, _, _, rfl, hr, false, rfl, iteF (kM _ (Same.refl _) rfl)⟩
      | turn q1 q2 q3 q4 => exact ⟨rfl, _, rfl, _, _, rfl, hr, true, rfl, iteT ⟨_, rfl, kN _ _ (Same.refl _) rfl⟩⟩
      | lead q1 q2 q3 q4 q5 => exact ⟨rfl, _, rfl, _, _, rfl, hr, false, rfl, iteF (kM _ (Same.refl _) rfl)⟩
      | house q1 q2 q3 => exact ⟨rfl, _, rfl, _, _, rfl, hr, false, rfl, iteF (kM _ (Same.refl _) rfl)⟩
    intro D4 H6 nD4 s6 h4
    rw [fm_pick isTurn] at h4
    have hT : ∀ p ∈ zs.filter (fun p => isTurn p.2), p ∈ zs ∧ isTurn p.2 = true := fun p hp => List.mem_filter.mp hp
    have lT : (zs.filter (fun p => isTurn p.2)).length ≤ 1000 := Nat.le_trans (List.length_filter_le _ _) sz
    have eT : turnsOf ((zs.filter (fun p => isTurn p.2)).map (·.2)) = turnsOf (zs.map (·.2)) := by rw [snd_pick, turnsOf_pick]
    have RT : RowsAt c K H (zs.filter (fun p => isTurn p.2)) := fun p hp => R p (hT p hp).1
    generalize hts : zs.filter (fun p => isTurn p.2) = ts at h4 hT lT eT RT
    have s6' := s5.trans s6
    have h2 := s6 _ _ (s0' _ _ h2)
    have h3 := s6 _ _ hD3'
    -- what the turns and leads tell
    refine ⟨_, rfl, lc2_use ts (·.1) (fun p => toldOf p.2) (lstA h4) lT (fun p hp => ?_) (fun _ => rfl) (fun _ _ => rfl) (fun _ _ => rfl) ?_ ?_⟩
    · obtain ⟨v, m, w', ps, t, rfl, _⟩ := row_turn hp (hT p hp).2
      show 2 ≤ 20
      decide
    · intro p H7 N hp s7 kN
      have hr := (RT p hp).1.sm (s6'.trans s7)
      obtain ⟨v, m, w', ps, t, rfl, _⟩ := row_turn hp (hT p hp).2
      obtain ⟨x, dx, t1, u1, ex, hx⟩ := rowAt_cases hr
      have ex : v = .ref x := ex
      subst ex
      exact ⟨_, rfl, x, dx, _, _, rfl, hx, rfl, _, rfl, x, dx, _, _, rfl, hx, rfl, by show 2 ≤ sizeLine; decide, fun q nq => kN q _ (Sn nq) nq (tupA upd_same)⟩
    intro D5 H7 nD5 s7 h5
    have s7' := s6'.trans s7
    refine ⟨_, rfl, .inl ⟨rfl, _, SqL.of h5⟩, _, rfl, it_use zs (·.1) (fun p => (leadMOf p.2).map V.str) (samA s7' S) sz5 ?_ ?_⟩
    · intro p H8 N M hp s8 kN kM
      have hr := (R p hp).1.sm (s7'.trans s8)
      obtain ⟨x, dx, t, u, ex, hx⟩ := rowAt_cases hr
      obtain ⟨v, r⟩ := p
      have ex : v = .ref x := ex
      subst ex
      cases r with
      | first q1 => exact ⟨rfl, _, rfl, _, _, rfl, hr, false, rfl, iteF (iteF (kM _ (Same.refl _) rfl))⟩
      | mode q1 q2 q3 => exact ⟨rfl, _, rfl, _, _, rfl, hr, false, rfl, iteF (iteF (kM _ (Same.refl _) rfl))⟩
      | turn q1 q2 q3 q4 => exact ⟨rfl, _, rfl, _, _, rfl, hr, false, rfl, iteF (iteF (kM _ (Same.refl _) rfl))⟩
      | house q1 q2 q3 => exact ⟨rfl, _, rfl, _, _, rfl, hr, false, rfl, iteF (iteF (kM _ (Same.refl _) rfl))⟩
      | lead q1 q2 q3 q4 q5 =>
        refine ⟨rfl, _, rfl, _, _, rfl, hr, true, rfl, iteT ⟨_, rfl, x, dx, _, _, rfl, hx, rfl, rfl, _, rfl, ?_⟩⟩
        by_cases e : q1 = "any"
        · have ed : (!decide (V.str q1 = V.str "any")) = false := by rw [decide_eq_true (congrArg V.str e)]; rfl
          rw [ed]
          exact iteF (kM _ (Same.refl _) (by show Option.map V.str (if q1 = "any" then none else some q1) = none; rw [if_pos e]; rfl))
        · have ed : (!decide (V.str q1 = V.str "any")) = true := by rw [decide_eq_false (fun z => e (V.str.inj z))]; rfl
          rw [ed]
          exact iteT ⟨_, rfl, x, dx, _, _, rfl, hx, rfl, kN _ _ (Same.refl _) (by show Option.map V.str (if q1 = "any" then none else some q1) = _; rw [if_neg e]; rfl)⟩
    intro D6 H8 nD6 s8 h6
    rw [fm_snd leadMOf V.str] at h6
    have h6 : H8 D6 = some (.lst (sv (leadsM (zs.map (·.2))))) := h6
    have lL : (leadsM (zs.map (·.2))).length ≤ 1000 := Nat.le_trans (fm_le _ _) (by rw [List.length_map]; exact sz)
    have lTo : (ts.flatMap fun p => toldOf p.2).length ≤ 20000 := Nat.le_trans (flat_len _ _ fun p hp => by
      obtain ⟨v, m, w', ps, t, rfl, _⟩ := row_turn hp (hT p hp).2
      show 2 ≤ 20
      decide) (by omega)
    have h5' := s8 _ _ h5
    refine ⟨D5, D6, _, _, rfl, rfl, h5', h6, by rw [List.length_map, List.length_map]; exact Nat.le_trans (m := 30000) (by omega) (by decide), ?_⟩
    have eTo : sv (ts.flatMap fun p => toldOf p.2) ++ sv (leadsM (zs.map (·.2))) = sv ((ts.flatMap fun p => toldOf p.2) ++ leadsM (zs.map (·.2))) := List.map_append.symm
    rw [eTo]
    have s9 : Same H6 (upd H8 D5 (.lst (sv ((ts.flatMap fun p => toldOf p.2) ++ leadsM (zs.map (·.2)))))) := sameD nD5 (s7.trans s8)
    have h5 : (upd H8 D5 (.lst (sv ((ts.flatMap fun p => toldOf p.2) ++ leadsM (zs.map (·.2)))))) D5 = some (.lst (sv ((ts.flatMap fun p => toldOf p.2) ++ leadsM (zs.map (·.2))))) := upd_same
    generalize upd H8 D5 (.lst (sv ((ts.flatMap fun p => toldOf p.2) ++ leadsM (zs.map (·.2))))) = H9 at s9 h5 ⊢
    clear h5' h6 s8 nD6 s7 s7' nD5
    have s9' := s6'.trans s9
    have h2 := s9 _ _ h2
    have h3 := s9 _ _ h3
    have h4 := s9 _ _ h4
    have lAll : ((ts.flatMap fun p => toldOf p.2) ++ leadsM (zs.map (·.2))).length ≤ 100000 := by rw [List.length_append]; omega
    -- all told?
    refine ⟨_, rfl, it_use ((ts.flatMap fun p => toldOf p.2) ++ leadsM (zs.map (·.2))) V.str (fun z => some (.bl (mvL (modesOf (zs.map (·.2))) z).isSome)) (lstA h5) lAll ?_ ?_⟩
    · intro z H10 N M hz s10 kN kM
      refine ⟨rfl, _, rfl, _, rfl, D2, _, rfl, DGet.k (k := .inr z) (s10 _ _ h2), kN _ _ (Same.refl _) ?_⟩
      rw [hv]
    intro D7 H10 nD7 s10 h7
    rw [fm_bl] at h7
    have s10' := s9'.trans s10
    refine ⟨D7, _, rfl, SqL.of h7, _, rfl, ?_⟩
    have memT2 : ∀ z, z ∈ ts.flatMap (fun p => toldOf p.2) → ∃ p ∈ turnsOf (zs.map (·.2)), z = p.1 ∨ z = p.2 := by
      intro z hz
      obtain ⟨p, hp, hzp⟩ := List.mem_flatMap.mp hz
      obtain ⟨v, m, w', ps, t, rfl, hm⟩ := row_turn hp (hT p hp).2
      rw [eT] at hm
      refine ⟨_, hm, ?_⟩
      rcases List.mem_cons.mp hzp with h | h
      · exact .inl h
      · exact .inr (List.mem_singleton.mp h)
    by_cases hall : (((ts.flatMap fun p => toldOf p.2) ++ leadsM (zs.map (·.2))).map fun z => (mvL (modesOf (zs.map (·.2))) z).isSome).all id = true
    case neg =>
      rw [Bool.eq_false_iff.mpr hall]
      refine iteT (k _ _ s10' (.inr ⟨_, rfl⟩) fun G => absurd ?_ hall)
      rw [List.all_map]
      refine List.all_eq_true.mpr fun z hz => (mvL_some z _).mpr ?_
      rcases List.mem_append.mp hz with hz | hz
      · obtain ⟨p, hp, h | h⟩ := memT2 z hz
        · rw [h]; exact (G.t1 p hp).1
        · rw [h]; exact (G.t1 p hp).2
      · exact G.l1 z hz
    rw [hall]
    refine iteF ?_
    rw [List.all_map] at hall
    have inM : ∀ z, z ∈ ts.flatMap (fun p => toldOf p.2) → ∃ v, mvL (modesOf (zs.map (·.2))) z = some v := fun z hz => Option.isSome_iff_exists.mp (List.all_eq_true.mp hall z (List.mem_append_left _ hz))
    -- a promised mode's turn?
    refine ⟨_, rfl, it_use ts (·.1) (fun p => (turnOf p.2).map fun q => .bl (!decide (mvL (modesOf (zs.map (·.2))) q.1 = some .non))) (samA s10 (lstA h4)) (Nat.le_trans lT (by decide)) ?_ ?_⟩
    · intro p H11 N M hp s11 kN kM
      have hr := (RT p hp).1.sm (s10'.trans s11)
      have hmem : ∀ m w' ps t v, p = (v, .turn m w' ps t) → m ∈ ts.flatMap (fun p => toldOf p.2) := fun m w' ps t v e => List.mem_flatMap.mpr ⟨p, hp, by rw [e]; exact List.mem_cons_self⟩
      obtain ⟨v, m, w', ps, t, rfl, _⟩ := row_turn hp (hT p hp).2
      obtain ⟨x, dx, t1, u1, ex, hx⟩ := rowAt_cases hr
      have ex : v = .ref x := ex
      subst ex
      obtain ⟨y, hy⟩ := inM m (hmem _ _ _ _ _ rfl)
      have hg : valV kvs (.inr m) = some y := (hv m).trans hy
      have g := DGet.k (k := .inr m) (s11 _ _ (s10 _ _ h2))
      rw [hg] at g
      refine ⟨rfl, _, rfl, _, rfl, x, dx, _, _, rfl, hx, rfl, D2, y, rfl, g, rfl, kN _ _ (Same.refl _) ?_⟩
      show some (V.bl (!decide (mvL (modesOf (zs.map (·.2))) m = some .non))) = _
      rw [hy]
      congr 3
      exact decide_eq_decide.mpr ⟨fun h => Option.some.inj h, fun h => congrArg some h⟩
    intro D8 H11 nD8 s11 h8
    have eb2 : (ts.filterMap fun p => (turnOf p.2).map fun q => V.bl (!decide (mvL (modesOf (zs.map (·.2))) q.1 = some .non))) = ((turnsOf (zs.map (·.2))).map fun q => !decide (mvL (modesOf (zs.map (·.2))) q.1 = some .non)).map V.bl := by
      rw [fm_snd turnOf, ← eT, List.map_map]; rfl
    rw [eb2] at h8
    have s11' := s10'.trans s11
    refine ⟨D8, _, rfl, SqL.of h8, _, rfl, ?_⟩
    by_cases hany : ((turnsOf (zs.map (·.2))).map fun q => !decide (mvL (modesOf (zs.map (·.2))) q.1 = some .non)).any id = true
    case pos =>
      rw [hany]
      refine iteT (k _ _ s11' (.inr ⟨_, rfl⟩) fun G => absurd hany ?_)
      rw [List.any_map]
      refine Bool.eq_false_iff.mp (List.any_eq_false.mpr fun q hq => ?_)
      have e : mvL (modesOf (zs.map (·.2))) q.1 = some .non := mvL_val q.1 none _ G.m2 (G.u q hq)
      show ¬ (!decide (mvL (modesOf (zs.map (·.2))) q.1 = some .non)) = true
      rw [decide_eq_true e]; decide
    rw [Bool.eq_false_iff.mpr hany]
    refine iteF ?_
    -- a ring?
    refine ⟨_, rfl, lc_seq (samA (s10.trans s11) (lstA h3)) (by rw [List.length_map]; exact Nat.lt_of_le_of_lt (Nat.le_trans lN sz) (by decide)) (fun _ _ acc _ => ∃ bs : List Bool, acc = bs.map V.bl ∧ (Ranked (turnsOf (zs.map (·.2))) → ∀ b ∈ bs, b = false)) (fun _ _ => ⟨[], rfl, fun _ _ h => (nomatch h)⟩) ?_ ?_⟩
    · intro D i x acc H12 nD hx s12 hD p N M kN kM
      obtain ⟨bs, e1, e2⟩ := p
      obtain ⟨z, hz, rfl⟩ := get_str hx
      refine ⟨rfl, _, rfl, _, rfl, D4, z, ts, rfl, lstA (s12 _ _ (s11 _ _ (s10 _ _ h4))), RT.sm (s11'.trans s12), fun p hp => (hT p hp).2, lT, fun H13 b s13 hb => kN _ _ s13 ⟨bs ++ [b], by rw [e1, List.map_append]; rfl, fun rk x hx => ?_⟩⟩
      rcases List.mem_append.mp hx with hx | hx
      · exact e2 rk x hx
      · rw [List.mem_singleton.mp hx]
        exact hb (by rw [eT]; exact rk)
    intro D9 acc H12 nD9 s12 h9 hl9 p
    obtain ⟨bs, e1, e2⟩ := p
    rw [e1] at h9
    refine ⟨D9, bs, rfl, SqL.of h9, _, rfl, ?_⟩
    refine ite2 (fun hc => ?_) (fun hc => ?_)
    · refine k _ _ (s11'.trans s12) (.inr ⟨_, rfl⟩) fun G => absurd hc ?_
      refine Bool.eq_false_iff.mp (List.any_eq_false.mpr fun b hb => ?_)
      rw [e2 G.r b hb]; decide
    · exact k _ _ (s11'.trans s12) (.inl rfl) fun _ => rfl
end
end SB

set_option maxHeartbeats 2000000
namespace SB
open PySem PySem.Spec PyProof.Rows L2
open C8 (Cal Mak Met pe_c pe_mk pe_mt pe_mt0 pe_gc InsC call_isC)

/-! ### the names of rows are drawn names -/
def nbOk (ws l : List Str) (t : Str) : Bool := match nb1 ws t with
  | some n => l.contains n
  | none => true
theorem nb_from {ws l ts : List Str} {base : List Str} (h : base.all (nbOk ws l) = true) (hf : From base ts) : From l (nb ws ts) := fun n hn => by
  obtain ⟨t, ht, e⟩ := List.mem_filterMap.mp hn
  have q := List.all_eq_true.mp h t (hf t ht)
  unfold nbOk at q
  rw [e] at q
  exact List.contains_iff_mem.mp q
theorem places_from {r : RD} (h : Ok r) : From pool (placesD r) := by
  cases r with
  | first p => exact fun z hz => List.mem_singleton.mp hz ▸ h
  | mode n pr es =>
    obtain ⟨_, ⟨rfl, rfl⟩ | ⟨q, rfl, _, _, _, hf, _⟩⟩ := h
    · exact fun z hz => nomatch hz
    · exact hf
  | turn m w ps t =>
    obtain ⟨_, _, ⟨_, rfl⟩ | ⟨_, _, _, hf, _⟩⟩ := h
    · exact fun z hz => nomatch hz
    · exact hf
  | lead m p e t ss =>
    obtain ⟨_, hp, _, ht, _⟩ := h
    intro z hz
    obtain ⟨hz, hn⟩ := List.mem_filter.mp hz
    rcases List.mem_cons.mp hz with rfl | hz
    · exact hp.resolve_right fun e => by rw [e] at hn; exact absurd hn (by decide +kernel)
    · rw [List.mem_singleton.mp hz] at hn ⊢
      exact ht.resolve_right fun e => by rw [e] at hn; exact absurd hn (by decide +kernel)
  | house e ts ds => exact fun z hz => nomatch hz
theorem ev_sub : w_PLAIN_EVENTS.all (fun z => w_EVENTS.contains z) = true := by decide +kernel
theorem letters_from {r : RD} (h : Ok r) : From pool (lettersD r) := by
  cases r with
  | lead m p e t ss =>
    obtain ⟨_, _, he, _, _, hf⟩ := h
    intro z hz
    obtain ⟨hz, hn⟩ := List.mem_filter.mp hz
    rcases List.mem_cons.mp hz with rfl | hz
    · exact he.resolve_right fun e => by rw [e] at hn; exact absurd hn (by decide +kernel)
    · exact hf z hz
  | house e ts ds =>
    obtain ⟨he, _, _, _, hf⟩ := h
    intro z hz
    obtain ⟨hz, hn⟩ := List.mem_filter.mp hz
    rcases List.mem_cons.mp hz with rfl | hz
    · refine he.resolve_right fun q => ?_
      rw [List.all_eq_true.mp ev_sub z q] at hn
      exact nomatch hn
    · exact nb_from (base := deeds) (by decide +kernel) hf z hz
  | first _ => exact fun z hz => nomatch hz
  | mode _ _ _ => exact fun z hz => nomatch hz
  | turn _ _ _ _ => exact fun z hz => nomatch hz
theorem from_app {l a b : List Str} (ha : From l a) (hb : From l b) : From l (a ++ b) := fun z hz => (List.mem_append.mp hz).elim (ha z) (hb z)
theorem from_up {l m a : List Str} (h : From l m) (ha : From m a) : From l a := fun z hz => h z (ha z hz)
theorem phases_from {r : RD} (h : Ok r) : From pool (phasesD r) := by
  cases r with
  | house e ts ds =>
    obtain ⟨_, _, hf1, _, hf2⟩ := h
    intro z hz
    obtain ⟨hz, hn⟩ := List.mem_filter.mp hz
    have h1 := nb_from (ws := ["at", "to"]) (l := poolN) (base := tests ++ deeds) (by decide +kernel) (from_app (from_up (fun z hz => List.mem_append_left _ hz) hf1) (from_up (fun z hz => List.mem_append_right _ hz) hf2)) z hz
    rcases List.mem_append.mp h1 with h1 | h1
    · exact h1
    · rw [List.mem_singleton.mp h1] at hn
      exact absurd hn (by decide +kernel)
  | first _ => exact fun z hz => nomatch hz
  | mode _ _ _ => exact fun z hz => nomatch hz
  | turn _ _ _ _ => exact fun z hz => nomatch hz
  | lead _ _ _ _ _ => exact fun z hz => nomatch hz
theorem marks_from {r : RD} (h : Ok r) : From pool (marksD r) := by
  cases r with
  | house e ts ds =>
    obtain ⟨_, _, hf1, _, hf2⟩ := h
    exact nb_from (ws := ["marked", "mark", "clear"]) (l := pool) (base := tests ++ deeds) (by decide +kernel) (from_app (from_up (fun z hz => List.mem_append_left _ hz) hf1) (from_up (fun z hz => List.mem_append_right _ hz) hf2))
  | first _ => exact fun z hz => nomatch hz
  | mode _ _ _ => exact fun z hz => nomatch hz
  | turn _ _ _ _ => exact fun z hz => nomatch hz
  | lead _ _ _ _ _ => exact fun z hz => nomatch hz
theorem len_places {r : RD} (h : Ok r) : (placesD r).length ≤ 20 := by
  cases r with
  | first p => show 1 ≤ 20; decide
  | mode n pr es =>
    obtain ⟨_, ⟨rfl, rfl⟩ | ⟨q, rfl, _, _, hl, _, _⟩⟩ := h
    · exact Nat.zero_le _
    · exact Nat.le_trans hl (by decide)
  | turn m w ps t =>
    obtain ⟨_, _, ⟨_, rfl⟩ | ⟨_, _, hl, _, _⟩⟩ := h
    · exact Nat.zero_le _
    · exact Nat.le_trans hl (by decide)
  | lead m p e t ss => exact Nat.le_trans (List.length_filter_le _ _) (by show 2 ≤ 20; decide)
  | house e ts ds => exact Nat.zero_le _
theorem len_letters {r : RD} (h : Ok r) : (lettersD r).length ≤ 20 := by
  cases r with
  | lead m p e t ss => exact Nat.le_trans (List.length_filter_le _ _) (Nat.le_trans (Nat.succ_le_succ h.2.2.2.2.1) (by decide))
  | house e ts ds => exact Nat.le_trans (List.length_filter_le _ _) (Nat.le_trans (Nat.succ_le_succ (Nat.le_trans (nb_len _ _) h.2.2.2.1)) (by decide))
  | first _ => exact Nat.zero_le _
  | mode _ _ _ => exact Nat.zero_le _
  | turn _ _ _ _ => exact Nat.zero_le _
theorem len_both {e : Str} {ts ds : List Str} (h : Ok (.house e ts ds)) : (ts ++ ds).length ≤ 20 := by
  rw [List.length_append]
  have := h.2.1
  have := h.2.2.2.1
  omega
theorem len_phases {r : RD} (h : Ok r) : (phasesD r).length ≤ 20 := by
  cases r with
  | house e ts ds => exact Nat.le_trans (List.length_filter_le _ _) (Nat.le_trans (nb_len _ _) (len_both h))
  | first _ => exact Nat.zero_le _
  | mode _ _ _ => exact Nat.zero_le _
  | turn _ _ _ _ => exact Nat.zero_le _
  | lead _ _ _ _ _ => exact Nat.zero_le _
theorem len_marks {r : RD} (h : Ok r) : (marksD r).length ≤ 20 := by
  cases r with
  | house e ts ds => exact Nat.le_trans (nb_len _ _) (len_both h)
  | first _ => exact Nat.zero_le _
  | mode _ _ _ => exact Nat.zero_le _
  | turn _ _ _ _ => exact Nat.zero_le _
  | lead _ _ _ _ _ => exact Nat.zero_le _
theorem keys_few {f : RD → List Str} {zs : List VR} (h : ∀ p ∈ zs, From pool (f p.2)) : (keysD (zs.flatMap fun p => f p.2)).length < 64 := by
  have q := len_of_sub (keysD_nd (zs.flatMap fun p => f p.2)) (m := pool) fun z hz => by
    obtain ⟨p, hp, hz⟩ := List.mem_flatMap.mp ((keysD_mem _ z).mp hz)
    exact h p hp z hz
  exact Nat.lt_of_le_of_lt q (by decide +kernel)

/-! ### a field stored, the heap behind it by a name -/
section
variable {X : Cx} {e value : Expr} {te tv : TE} {f : Str} {pos pos' : Pos} {C : Addr}
def sFn (C : Addr) (ks : List Str) (f : Str) (te tv : TE) : TS := fun D σ H => tv σ H fun y H1 => te σ H1 fun x H2 => ∃ a dx vs, x = .ref a ∧ H2 a = some (.ins C dx (ob ks vs)) ∧ ks.length = vs.length ∧ ∀ G, G = upd H2 a (.ins C dx (ob (ks ++ [f]) (vs ++ [y]))) → D.nx σ G
theorem ps_fn {ks : List Str} (he : PE X e te) (hv : PE X value tv) (cl : Cls X.K C) (na : NoAttr X.K C f) (hn : ks.contains f = false) (hl : ks.length < 1000) (hs : swapsWith value (some (.Attribute e f pos')) pos.line X.env = pure false := by rfl) :
    PS X (.Assign [.Attribute e f pos'] value pos) (sFn C ks f te tv) := by
  refine ⟨fun pins s σ H D I h => plainObj_wpAny_Assign_Attribute (thn (hv.run pins s σ H _ I h) ?_) hs⟩
  rintro w s1 ⟨y, H1, J, ry, q⟩
  refine thn (he.run pins s1 σ H1 _ J q) ?_
  rintro w' s2 ⟨x, H2, J2, rx, a, dx, vs, rfl, ea, el, q2⟩
  cases rx
  have hz : (ob ks vs).length < 1000 := Nat.lt_of_le_of_lt (by show (ks.zip vs).length ≤ ks.length; rw [List.length_zip]; exact Nat.min_le_left _ _) hl
  refine setattr_ok J2 ea cl na hz ry fun s3 J3 => ⟨σ, _, J3, q2 _ ?_⟩
  rw [ob_put el hn]
end
/-! ### a plan's object -/
def kPlan : List Str := [("rows" : Str), ("modes" : Str), ("firsts" : Str), ("turns" : Str), ("places" : Str), ("phases" : Str), ("marks" : Str), ("letters" : Str)]
/-- what a plan gathers of its rows -/
structure PV where
  pl : List Str
  ph : List Str
  mr : List Str
  lt : List Str
structure PVok (rs : List RD) (o : PV) : Prop where
  pl : Asc (rs.flatMap placesD) o.pl
  ph : Asc (rs.flatMap phasesD) o.ph
  mr : Asc (rs.flatMap marksD) o.mr
  lt : Asc (rs.flatMap lettersD) o.lt
def Tps (K : PySem.W.Frag) (H : Hp) (l : List (Addr × List V)) : Prop := ∀ p ∈ l, SqT K H p.1 p.2
section
variable {K : PySem.W.Frag} {c : Cs} {H H' : Hp} {x t dx C : Addr} {fs : List (Str × V)} {xs : List V}
theorem rd_but {u : HO} (b : But x H H') (hx : H x = some (.ins C dx fs)) (hu : ∀ C dx fs, u ≠ .ins C dx fs) (h : Rd H t u) : Rd H' t u := by
  rcases h with h | ⟨o, h⟩
  · exact .inl (b _ _ (fun e => by rw [e, hx] at h; exact hu _ _ _ (Option.some.inj h).symm) h)
  · exact .inr ⟨o, b _ _ (fun e => by rw [e, hx] at h; cases h) h⟩
theorem sqT_but (b : But x H H') (hx : H x = some (.ins C dx fs)) (h : SqT K H t xs) : SqT K H' t xs := h.imp (rd_but b hx fun _ _ _ q => nomatch q) id
theorem sqL_but (b : But x H H') (hx : H x = some (.ins C dx fs)) (h : SqL K H t xs) : SqL K H' t xs := h.imp (rd_but b hx fun _ _ _ q => nomatch q) id
theorem sqA_but (b : But x H H') (hx : H x = some (.ins C dx fs)) (h : SqA K H t xs) : SqA K H' t xs := h.imp (sqL_but b hx) (sqT_but b hx)
theorem Tps.but {l : List (Addr × List V)} (b : But x H H') (hx : H x = some (.ins C dx fs)) (h : Tps K H l) : Tps K H' l := fun p hp => sqT_but b hx (h p hp)
theorem Tps.sm {l : List (Addr × List V)} (s : Same H H') (h : Tps K H l) : Tps K H' l := fun p hp => samT s (h p hp)
theorem Tps.im {l : List (Addr × List V)} (s : Im H H') (h : Tps K H l) : Tps K H' l := fun p hp => s.sqT (h p hp)
theorem Tps.add {l : List (Addr × List V)} (h : Tps K H l) (q : SqT K H t xs) : Tps K H (l ++ [(t, xs)]) := fun p hp => (List.mem_append.mp hp).elim (h p) fun e => by rw [List.mem_singleton.mp e]; exact q
theorem rowAt_but {v : V} {r : RD} (b : But x H H') (hx : H x = some (.ins C dx [])) (h : RowAt c K H v r) : RowAt c K H' v r := by
  obtain ⟨a, dy, t, u, e, h1, h2, h3⟩ := h
  refine ⟨a, dy, t, u, e, b _ _ (fun q => ?_) h1, fun q => sqT_but b hx (h2 q), fun q => sqT_but b hx (h3 q)⟩
  rw [q, hx] at h1
  have z := Option.some.inj h1
  injection z with _ _ z
  cases r <;> cases z
theorem rowsAt_but {zs : List VR} (b : But x H H') (hx : H x = some (.ins C dx [])) (h : RowsAt c K H zs) : RowsAt c K H' zs := fun p hp => ⟨rowAt_but b hx (h p hp).1, (h p hp).2⟩
/-- the eight tuples of a plan -/
def pts8 (zs : List VR) (o : PV) : List (List V) := [zs.map (·.1), sv (namesOf (zs.map (·.2))), sv (firstsOf (zs.map (·.2))), (zs.filter fun p => isTurn p.2).map (·.1), sv o.pl, sv o.ph, sv o.mr, sv o.lt]
def PlanAt (c : Cs) (K : PySem.W.Frag) (H : Hp) (v : V) (zs : List VR) (o : PV) : Prop := ∃ (a dx : Addr) (ts : List Addr), v = .ref a ∧ H a = some (.ins c.plan dx (ob kPlan (ts.map V.ref))) ∧ ts.length = 8 ∧ Tps K H (ts.zip (pts8 zs o)) ∧ RowsAt c K H zs ∧ PVok (zs.map (·.2)) o
theorem PlanAt.im {v : V} {zs : List VR} {o : PV} (s : Im H H') (h : PlanAt c K H v zs o) : PlanAt c K H' v zs o := by
  obtain ⟨a, dx, ts, e, h1, h2, h3, h4, h5⟩ := h
  exact ⟨a, dx, ts, e, s _ _ trivial h1, h2, h3.im s, h4.im s, h5⟩
theorem PlanAt.sm {v : V} {zs : List VR} {o : PV} (s : Same H H') (h : PlanAt c K H v zs o) : PlanAt c K H' v zs o := h.im (im_of s)
end
structure Wx (K : PySem.W.Frag) (mg : Str → Option Value) (c : Cs) : Prop where
  v : Vx K mg c
  k_plan : KCl K c.plan kPlan
  i_plan : Ini K mg "Plan" c.plan "Plan.__init__" s_Plan_init []
section
variable {P : Program} {w : World} {K : PySem.W.Frag} {mg : Str → Option Value} {base : Heap}
variable {c : Cs}
/-- how the promise of Plan.__init__ ends -/
def PlanE (c : Cs) (K : PySem.W.Frag) (x dx : Addr) (H : Hp) (zs : List VR) (Q : VK) : Prop := ∀ H' (ts : List Addr) o, But x H H' → H' x = some (.ins c.plan dx (ob kPlan (ts.map V.ref))) → ts.length = 8 → Tps K H' (ts.zip (pts8 zs o)) → PVok (zs.map (·.2)) o → Q .non H'
def spPlan (c : Cs) (K : PySem.W.Frag) : Sp := fun vs H Q _ => ∃ (x dx a : Addr) (zs : List VR), vs = [.ref x, .ref a] ∧ H x = some (.ins c.plan dx []) ∧ SqA K H a (zs.map (·.1)) ∧ RowsAt c K H zs ∧ zs.length ≤ 1000 ∧ Good (zs.map (·.2)) ∧ PlanE c K x dx H zs Q
theorem planE_use {H1 : Hp} {zs : List VR} {Q : VK} {x dx : Addr} {o : HO} (nx : H1 x = none) (nd : H1 dx = none) (R : RowsAt c K H1 zs) (k : ∀ v o H', Same H1 H' → PlanAt c K H' v zs o → Q v H') :
    PlanE c K x dx (upd (upd H1 dx (.own x)) x o) zs (fun v H2 => v = .non ∧ Q (.ref x) H2) := fun H' ts o' b hx hl ht ho => by
  have s : Same H1 H' := fun z oz e => b z oz (ne_of_none e nx) (by rw [upd_ne (ne_of_none e nx), upd_ne (ne_of_none e nd)]; exact e)
  exact ⟨rfl, k _ o' H' s ⟨x, dx, ts, rfl, hx, hl, ht, R.sm s, ho⟩⟩
theorem flat_snd (f : RD → List Str) : ∀ zs : List VR, (zs.flatMap fun p => f p.2) = (zs.map (·.2)).flatMap f
  | [] => rfl
  | p :: zs => by rw [List.flatMap_cons, List.map_cons, List.flatMap_cons, flat_snd f zs]
theorem mk_plan (P' : Wx K mg c) : Mak P w K mg base 4 "Plan" c.plan (spPlan c K) [] := by
  obtain ⟨f, fd, hm, M, F⟩ := P'.i_plan
  have U := P'.v.u
  have Y := U.z.y
  have T := Y.x
  refine Ini.mak hm M F (F.bindsN (fun _ _ _ _ _ _ us hl => match us, hl with | [_, _], _ => rfl)) .nil sc_Plan_init (fun vs H Q E h => ?_) (fun cdv A outer s H vs Q E hr h => ?_)
  · obtain ⟨x, dx, a, zs, rfl, _⟩ := h
    rfl
  · obtain ⟨x, dx, a, zs, rfl, hx, S, R, sz, hGood, k⟩ := h
    refine ⟨_, (pss_cons (ps_if (PW.pt (pw_or (pt_not (pt_val (pe_c (c_is_sequence T) hr (by decide) (by rfl) (pa_cons (pv 1) pa_nil)))) (pw_or1 (pt_not (pt_val (pe_callB (cr_all rfl) (by rfl) T.m_all (by decide +kernel) (pa_cons (pe_lx (own := [("row", 3)]) (g := gName 3) (tt := tYes) (by rfl) sc_Plan_init.nd (pi_seq (pv 1)) (blkOk_by (N := n_Plan_init) (sc := defScope s_Plan_init) (by decide +kernel)) (fun _ _ _ _ _ => pg_name (i := 3) sc_Plan_init.nd rfl (Or.inl rfl)) (fun _ _ _ _ _ => pts_nil) (fun _ _ _ _ _ => (pe_callB (r := rIsR K c c.row (fun _ => true)) (call_isR U U.of_row) (by rfl) T.m_isinstance (by decide +kernel) (pa_cons (pv 3) (pa_cons (pe_gc (v := .ref c.row) (by rfl) ⟨_, U.n_row, rfl⟩) pa_nil))))) pa_nil))))))) (pss_one ps_never) pss_nil) (pss_cons (ps_set (i := 2) sc_Plan_init.nd rfl (Or.inl rfl) (pe_c (c_fault_of U) hr (by decide) (by rfl) (pa_cons (pv 1) pa_nil))) (pss_cons (ps_if (pt_cmpR op_notN (pv 2) pe_non (nomark _)) (pss_one ps_never) pss_nil) (pss_cons (ps_fn (ks := []) (pv 0) (pe_callTy call_tupA (by rfl) T.m_tuple (by decide +kernel) (pa_cons (pv 1) pa_nil)) P'.k_plan.cl (P'.k_plan.na "rows" (by decide +kernel)) (by decide +kernel) (by decide +kernel)) (pss_cons (ps_fn (ks := ["rows"]) (pv 0) (pe_callTy call_tupA (by rfl) T.m_tuple (by decide +kernel) (pa_cons (pe_lx (own := [("row", 3)]) (g := gName 3) (by rfl) sc_Plan_init.nd (pi_seq (pv 1)) (blkOk_by (N := n_Plan_init) (sc := defScope s_Plan_init) (by decide +kernel)) (fun _ _ _ _ _ => pg_name (i := 3) sc_Plan_init.nd rfl (Or.inl rfl)) (fun _ _ _ _ _ => pts_one (pt_val (pe_callB (r := rIsR K c c.mode isMode) (call_isR U U.of_mode) (by rfl) T.m_isinstance (by decide +kernel) (pa_cons (pv 3) (pa_cons (pe_gc (v := .ref c.mode) (by rfl) ⟨_, U.n_mode, rfl⟩) pa_nil))))) (fun _ _ _ _ _ => (pe_fo (ks := kMode) 0 (pv 3) Y.k_mode.cl (Y.k_mode.na "name" (by decide +kernel)) (by decide +kernel)))) pa_nil)) P'.k_plan.cl (P'.k_plan.na "modes" (by decide +kernel)) (by decide +kernel) (by decide +kernel)) (pss_cons (ps_fn (ks := ["rows", "modes"]) (pv 0) (pe_callTy call_tupA (by rfl) T.m_tuple (by decide +kernel) (pa_cons (pe_lx (own := [("row", 3)]) (g := gName 3) (by rfl) sc_Plan_init.nd (pi_seq (pv 1)) (blkOk_by (N := n_Plan_init) (sc := defScope s_Plan_init) (by decide +kernel)) (fun _ _ _ _ _ => pg_name (i := 3) sc_Plan_init.nd rfl (Or.inl rfl)) (fun _ _ _ _ _ => pts_one (pt_val (pe_callB (r := rIsR K c c.first isFirst) (call_isR U U.of_first) (by rfl) T.m_isinstance (by decide +kernel) (pa_cons (pv 3) (pa_cons (pe_gc (v := .ref c.first) (by rfl) ⟨_, U.n_first, rfl⟩) pa_nil))))) (fun _ _ _ _ _ => (pe_fo (ks := kFirst) 0 (pv 3) Y.k_first.cl (Y.k_first.na "place" (by decide +kernel)) (by decide +kernel)))) pa_nil)) P'.k_plan.cl (P'.k_plan.na "firsts" (by decide +kernel)) (by decide +kernel) (by decide +kernel)) (pss_cons (ps_fn (ks := ["rows", "modes", "firsts"]) (pv 0) (pe_callTy call_tupA (by rfl) T.m_tuple (by decide +kernel) (pa_cons (pe_lx (own := [("row", 3)]) (g := gName 3) (by rfl) sc_Plan_init.nd (pi_seq (pv 1)) (blkOk_by (N := n_Plan_init) (sc := defScope s_Plan_init) (by decide +kernel)) (fun _ _ _ _ _ => pg_name (i := 3) sc_Plan_init.nd rfl (Or.inl rfl)) (fun _ _ _ _ _ => pts_one (pt_val (pe_callB (r := rIsR K c c.turn isTurn) (call_isR U U.of_turn) (by rfl) T.m_isinstance (by decide +kernel) (pa_cons (pv 3) (pa_cons (pe_gc (v := .ref c.turn) (by rfl) ⟨_, U.n_turn, rfl⟩) pa_nil))))) (fun _ _ _ _ _ => (pv 3))) pa_nil)) P'.k_plan.cl (P'.k_plan.na "turns" (by decide +kernel)) (by decide +kernel) (by decide +kernel)) (pss_cons (ps_fn (ks := ["rows", "modes", "firsts", "turns"]) (pv 0) (pe_c (c_ascending T) hr (by decide) (by rfl) (pa_cons (pe_lx2 (own := [("row", 3), ("place", 4)]) (vs1 := [4]) (g := gName 3) (g1 := gName 4) (tt := tYes) (tt1 := tYes) (wi1 := iSeq K (tCall (spRowL c K placesD) [] C8.E0 (tCons (tVar 3) tNil))) (by rfl) sc_Plan_init.nd (pi_seq (pv 1)) (blkOk_by (N := n_Plan_init) (sc := defScope s_Plan_init) (by decide +kernel)) (by decide) (fun _ _ _ _ _ => pg_name (i := 3) sc_Plan_init.nd rfl (Or.inl rfl)) (fun _ _ _ _ _ => pts_nil) (fun _ _ _ _ _ => pi_seq (pe_c (c_places_in U) hr (by decide) (by rfl) (pa_cons (pv 3) pa_nil))) (fun _ _ _ _ _ => pg_name (i := 4) sc_Plan_init.nd rfl (Or.inl rfl)) (fun _ _ _ _ _ => pts_nil) (fun _ _ _ _ _ => pv 4)) pa_nil)) P'.k_plan.cl (P'.k_plan.na "places" (by decide +kernel)) (by decide +kernel) (by decide +kernel)) (pss_cons (ps_fn (ks := ["rows", "modes", "firsts", "turns", "places"]) (pv 0) (pe_c (c_ascending T) hr (by decide) (by rfl) (pa_cons (pe_lx2 (own := [("row", 3), ("phase", 5)]) (vs1 := [5]) (g := gName 3) (g1 := gName 5) (tt := tYes) (tt1 := tYes) (wi1 := iSeq K (tCall (spRowL c K phasesD) [] C8.E0 (tCons (tVar 3) tNil))) (by rfl) sc_Plan_init.nd (pi_seq (pv 1)) (blkOk_by (N := n_Plan_init) (sc := defScope s_Plan_init) (by decide +kernel)) (by decide) (fun _ _ _ _ _ => pg_name (i := 3) sc_Plan_init.nd rfl (Or.inl rfl)) (fun _ _ _ _ _ => pts_nil) (fun _ _ _ _ _ => pi_seq (pe_c (c_phases_in U) hr (by decide) (by rfl) (pa_cons (pv 3) pa_nil))) (fun _ _ _ _ _ => pg_name (i := 5) sc_Plan_init.nd rfl (Or.inl rfl)) (fun _ _ _ _ _ => pts_nil) (fun _ _ _ _ _ => pv 5)) pa_nil)) P'.k_plan.cl (P'.k_plan.na "phases" (by decide +kernel)) (by decide +kernel) (by decide +kernel)) (pss_cons (ps_fn (ks := ["rows", "modes", "firsts", "turns", "places", "phases"]) (pv 0) (pe_c (c_ascending T) hr (by decide) (by rfl) (pa_cons (pe_lx2 (own := [("row", 3), ("mark", 6)]) (vs1 := [6]) (g := gName 3) (g1 := gName 6) (tt := tYes) (tt1 := tYes) (wi1 := iSeq K (tCall (spRowL c K marksD) [] C8.E0 (tCons (tVar 3) tNil))) (by rfl) sc_Plan_init.nd (pi_seq (pv 1)) (blkOk_by (N := n_Plan_init) (sc := defScope s_Plan_init) (by decide +kernel)) (by decide) (fun _ _ _ _ _ => pg_name (i := 3) sc_Plan_init.nd rfl (Or.inl rfl)) (fun _ _ _ _ _ => pts_nil) (fun _ _ _ _ _ => pi_seq (pe_c (c_marks_in U) hr (by decide) (by rfl) (pa_cons (pv 3) pa_nil))) (fun _ _ _ _ _ => pg_name (i := 6) sc_Plan_init.nd rfl (Or.inl rfl)) (fun _ _ _ _ _ => pts_nil) (fun _ _ _ _ _ => pv 6)) pa_nil)) P'.k_plan.cl (P'.k_plan.na "marks" (by decide +kernel)) (by decide +kernel) (by decide +kernel)) (pss_one (ps_fn (ks := ["rows", "modes", "firsts", "turns", "places", "phases", "marks"]) (pv 0) (pe_c (c_ascending T) hr (by decide) (by rfl) (pa_cons (pe_lx2 (own := [("row", 3), ("letter", 7)]) (vs1 := [7]) (g := gName 3) (g1 := gName 7) (tt := tYes) (tt1 := tYes) (wi1 := iSeq K (tCall (spRowL c K lettersD) [] C8.E0 (tCons (tVar 3) tNil))) (by rfl) sc_Plan_init.nd (pi_seq (pv 1)) (blkOk_by (N := n_Plan_init) (sc := defScope s_Plan_init) (by decide +kernel)) (by decide) (fun _ _ _ _ _ => pg_name (i := 3) sc_Plan_init.nd rfl (Or.inl rfl)) (fun _ _ _ _ _ => pts_nil) (fun _ _ _ _ _ => pi_seq (pe_c (c_letters_in U) hr (by decide) (by rfl) (pa_cons (pv 3) pa_nil))) (fun _ _ _ _ _ => pg_name (i := 7) sc_Plan_init.nd rfl (Or.inl rfl)) (fun _ _ _ _ _ => pts_nil) (fun _ _ _ _ _ => pv 7)) pa_nil)) P'.k_plan.cl (P'.k_plan.na "letters" (by decide +kernel)) (by decide +kernel) (by decide +kernel))))))))))))), ?_⟩
    have sz5 : zs.length ≤ 100000 := Nat.le_trans sz (by decide)
    refine ⟨_, rfl, a, _, rfl, S, fun H1 s1 => ⟨true, rfl, iteF ?_⟩⟩
    refine ⟨_, rfl, it_use zs (·.1) (fun _ => some (.bl true)) (samA s1 S) sz5 ?_ ?_⟩
    · intro p Hb N M hp sb kN kM
      exact ⟨rfl, _, rfl, _, _, rfl, (R p hp).1.sm (s1.trans sb), kN _ _ (Same.refl _) rfl⟩
    intro D1 H2 nD1 s2 h1
    rw [fm_bl fun _ => true] at h1
    refine ⟨D1, _, rfl, SqL.of h1, _, rfl, ?_⟩
    have ea : ((zs.map fun _ => true).all id) = true := by rw [List.all_map]; exact List.all_eq_true.mpr fun _ _ => rfl
    rw [ea]
    refine iteF ?_
    have s12 := s1.trans s2
    refine ⟨_, rfl, a, zs, rfl, samA s12 S, R.sm s12, sz, fun H3 fv s3 hfv hG => ?_⟩
    have s13 := s12.trans s3
    have e0 : fv = .non := hG hGood
    subst e0
    refine ⟨_, rfl, rfl, false, rfl, iteF ?_⟩
    have hx0 := s13 _ _ hx
    have b0 : But x H H3 := But.same s13
    have S0 := samA s13 S
    have R0 := R.sm s13
    have tp0 : Tps K H3 [] := fun p hp => nomatch hp
    refine ⟨_, rfl, a, _, rfl, S0, fun t0 Ha sa st0 _ => ?_⟩
    have hxm0 := sa _ _ hx0
    refine ⟨_, rfl, x, dx, [], rfl, hxm0, rfl, fun G1 eG1 => ?_⟩
    have bb0 : But x H3 G1 := eG1 ▸ (But.same (x := x) sa).upd
    have hx1 : G1 x = some (.ins c.plan dx (ob [("rows" : Str)] [.ref t0])) := by rw [eG1, upd_same]; rfl
    have b1 := b0.trans bb0
    have S1 := sqA_but b1 hx S
    have R1 := rowsAt_but b1 hx R
    have stx0 : SqT K G1 _ _ := eG1 ▸ sqT_ins hxm0 st0
    have tp1 := (tp0.but bb0 hx0).add stx0
    clear eG1
    refine ⟨_, rfl, it_use zs (·.1) (fun p => (modeOf p.2).map fun q => V.str q.1) S1 sz5 ?_ ?_⟩
    · intro p Hb N M hp sb kN kM
      have hr := (R1 p hp).1.sm sb
      obtain ⟨y, dy, t, u, ex, hy⟩ := rowAt_cases hr
      obtain ⟨v, r⟩ := p
      have ex : v = .ref y := ex
      subst ex
      cases r with
      | first q1 => exact ⟨rfl, _, rfl, _, _, rfl, hr, false, rfl, iteF (kM _ (Same.refl _) rfl)⟩
      | mode q1 q2 q3 => exact ⟨rfl, _, rfl, _, _, rfl, hr, true, rfl, iteT ⟨_, rfl, y, dy, _, _, rfl, hy, rfl, kN _ _ (Same.refl _) rfl⟩⟩
      | turn q1 q2 q3 q4 => exact ⟨rfl, _, rfl, _, _, rfl, hr, false, rfl, iteF (kM _ (Same.refl _) rfl)⟩
      | lead q1 q2 q3 q4 q5 => exact ⟨rfl, _, rfl, _, _, rfl, hr, false, rfl, iteF (kM _ (Same.refl _) rfl)⟩
      | house q1 q2 q3 => exact ⟨rfl, _, rfl, _, _, rfl, hr, false, rfl, iteF (kM _ (Same.refl _) rfl)⟩
    intro D2 Hc nD2 sc hD2
    rw [namesOf_eq] at hD2
    refine ⟨D2, _, rfl, lstA hD2, fun t1 Hd sd st1 _ => ?_⟩
    have hxm1 := (sc.trans sd) _ _ hx1
    refine ⟨_, rfl, x, dx, [.ref t0], rfl, hxm1, rfl, fun G2 eG2 => ?_⟩
    have bb1 : But x G1 G2 := eG2 ▸ (But.same (x := x) (sc.trans sd)).upd
    have hx2 : G2 x = some (.ins c.plan dx (ob [("rows" : Str), ("modes" : Str)] [.ref t0, .ref t1])) := by rw [eG2, upd_same]; rfl
    have b2 := b1.trans bb1
    have S2 := sqA_but b2 hx S
    have R2 := rowsAt_but b2 hx R
    have stx1 : SqT K G2 _ _ := eG2 ▸ sqT_ins hxm1 st1
    have tp2 := (tp1.but bb1 hx1).add stx1
    clear eG2
    refine ⟨_, rfl, it_use zs (·.1) (fun p => (firstOf p.2).map V.str) S2 sz5 ?_ ?_⟩
    · intro p Hb N M hp sb kN kM
      have hr := (R2 p hp).1.sm sb
      obtain ⟨y, dy, t, u, ex, hy⟩ := rowAt_cases hr
      obtain ⟨v, r⟩ := p
      have ex : v = .ref y := ex
      subst ex
      cases r with
      | first q1 => exact ⟨rfl, _, rfl, _, _, rfl, hr, true, rfl, iteT ⟨_, rfl, y, dy, _, _, rfl, hy, rfl, kN _ _ (Same.refl _) rfl⟩⟩
      | mode q1 q2 q3 => exact ⟨rfl, _, rfl, _, _, rfl, hr, false, rfl, iteF (kM _ (Same.refl _) rfl)⟩
      | turn q1 q2 q3 q4 => exact ⟨rfl, _, rfl, _, _, rfl, hr, false, rfl, iteF (kM _ (Same.refl _) rfl)⟩
      | lead q1 q2 q3 q4 q5 => exact ⟨rfl, _, rfl, _, _, rfl, hr, false, rfl, iteF (kM _ (Same.refl _) rfl)⟩
      | house q1 q2 q3 => exact ⟨rfl, _, rfl, _, _, rfl, hr, false, rfl, iteF (kM _ (Same.refl _) rfl)⟩
    intro D3 He nD3 se hD3
    rw [fm_snd firstOf V.str] at hD3
    refine ⟨D3, _, rfl, lstA hD3, fun t2 Hf sf st2 _ => ?_⟩
    have hxm2 := (se.trans sf) _ _ hx2
    refine ⟨_, rfl, x, dx, [.ref t0, .ref t1], rfl, hxm2, rfl, fun G3 eG3 => ?_⟩
    have bb2 : But x G2 G3 := eG3 ▸ (But.same (x := x) (se.trans sf)).upd
    have hx3 : G3 x = some (.ins c.plan dx (ob [("rows" : Str), ("modes" : Str), ("firsts" : Str)] [.ref t0, .ref t1, .ref t2])) := by rw [eG3, upd_same]; rfl
    have b3 := b2.trans bb2
    have S3 := sqA_but b3 hx S
    have R3 := rowsAt_but b3 hx R
    have stx2 : SqT K G3 _ _ := eG3 ▸ sqT_ins hxm2 st2
    have tp3 := (tp2.but bb2 hx2).add stx2
    clear eG3
    refine ⟨_, rfl, it_use zs (·.1) (fun p => if isTurn p.2 = true then some p.1 else none) S3 sz5 ?_ ?_⟩
    · intro p Hb N M hp sb kN kM
      have hr := (R3 p hp).1.sm sb
      obtain ⟨y, dy, t, u, ex, hy⟩ := rowAt_cases hr
      obtain ⟨v, r⟩ := p
      have ex : v = .ref y := ex
      subst ex
      cases r with
      | first q1 => exact ⟨rfl, _, rfl, _, _, rfl, hr, false, rfl, iteF (kM _ (Same.refl _) rfl)⟩
      | mode q1 q2 q3 => exact ⟨rfl, _, rfl, _, _, rfl, hr, false, rfl, iteF (kM _ (Same.refl _) rfl)⟩
      | turn q1 q2 q3 q4 => exact ⟨rfl, _, rfl, _, _, rfl, hr, true, rfl, iteT ⟨_, rfl, kN _ _ (Same.refl _) rfl⟩⟩
      | lead q1 q2 q3 q4 q5 => exact ⟨rfl, _, rfl, _, _, rfl, hr, false, rfl, iteF (kM _ (Same.refl _) rfl)⟩
      | house q1 q2 q3 => exact ⟨rfl, _, rfl, _, _, rfl, hr, false, rfl, iteF (kM _ (Same.refl _) rfl)⟩
    intro D4 Hg nD4 sg hD4
    rw [fm_pick isTurn] at hD4
    refine ⟨D4, _, rfl, lstA hD4, fun t3 Hh sh st3 _ => ?_⟩
    have hxm3 := (sg.trans sh) _ _ hx3
    refine ⟨_, rfl, x, dx, [.ref t0, .ref t1, .ref t2], rfl, hxm3, rfl, fun G4 eG4 => ?_⟩
    have bb3 : But x G3 G4 := eG4 ▸ (But.same (x := x) (sg.trans sh)).upd
    have hx4 : G4 x = some (.ins c.plan dx (ob [("rows" : Str), ("modes" : Str), ("firsts" : Str), ("turns" : Str)] [.ref t0, .ref t1, .ref t2, .ref t3])) := by rw [eG4, upd_same]; rfl
    have b4 := b3.trans bb3
    have S4 := sqA_but b4 hx S
    have R4 := rowsAt_but b4 hx R
    have stx3 : SqT K G4 _ _ := eG4 ▸ sqT_ins hxm3 st3
    have tp4 := (tp3.but bb3 hx3).add stx3
    clear eG4
    refine ⟨_, rfl, lc2_use zs (·.1) (fun p => placesD p.2) S4 sz (fun p hp => len_places (R p hp).2) (fun _ => rfl) (fun _ _ => rfl) (fun _ _ => rfl) ?_ ?_⟩
    · intro p Hb N hp sb kN
      exact ⟨_, rfl, p.1, p.2, rfl, (R4 p hp).1.sm sb, (R p hp).2, fun D Hb2 sb2 nD hD => kN D Hb2 sb2 nD (lstA hD)⟩
    intro E4 Hi4 nE4 si4 hE4
    refine ⟨E4, _, rfl, lstA hE4, Nat.le_trans (flat_len (fun p : VR => placesD p.2) zs fun p hp => len_places (R p hp).2) (by omega), keys_few fun p hp => places_from (R p hp).2, fun t4 y4 Hj4 sj4 nt4 ht4 as4 => ?_⟩
    have st4 : SqT K Hj4 t4 (sv y4) := SqT.of ht4
    rw [flat_snd placesD] at as4
    have hxm4 := (si4.trans sj4) _ _ hx4
    refine ⟨_, rfl, x, dx, [.ref t0, .ref t1, .ref t2, .ref t3], rfl, hxm4, rfl, fun G5 eG5 => ?_⟩
    have bb4 : But x G4 G5 := eG5 ▸ (But.same (x := x) (si4.trans sj4)).upd
    have hx5 : G5 x = some (.ins c.plan dx (ob [("rows" : Str), ("modes" : Str), ("firsts" : Str), ("turns" : Str), ("places" : Str)] [.ref t0, .ref t1, .ref t2, .ref t3, .ref t4])) := by rw [eG5, upd_same]; rfl
    have b5 := b4.trans bb4
    have S5 := sqA_but b5 hx S
    have R5 := rowsAt_but b5 hx R
    have stx4 : SqT K G5 _ _ := eG5 ▸ sqT_ins hxm4 st4
    have tp5 := (tp4.but bb4 hx4).add stx4
    clear eG5
    refine ⟨_, rfl, lc2_use zs (·.1) (fun p => phasesD p.2) S5 sz (fun p hp => len_phases (R p hp).2) (fun _ => rfl) (fun _ _ => rfl) (fun _ _ => rfl) ?_ ?_⟩
    · intro p Hb N hp sb kN
      exact ⟨_, rfl, p.1, p.2, rfl, (R5 p hp).1.sm sb, (R p hp).2, fun D Hb2 sb2 nD hD => kN D Hb2 sb2 nD (lstA hD)⟩
    intro E5 Hi5 nE5 si5 hE5
    refine ⟨E5, _, rfl, lstA hE5, Nat.le_trans (flat_len (fun p : VR => phasesD p.2) zs fun p hp => len_phases (R p hp).2) (by omega), keys_few fun p hp => phases_from (R p hp).2, fun t5 y5 Hj5 sj5 nt5 ht5 as5 => ?_⟩
    have st5 : SqT K Hj5 t5 (sv y5) := SqT.of ht5
    rw [flat_snd phasesD] at as5
    have hxm5 := (si5.trans sj5) _ _ hx5
    refine ⟨_, rfl, x, dx, [.ref t0, .ref t1, .ref t2, .ref t3, .ref t4], rfl, hxm5, rfl, fun G6 eG6 => ?_⟩
    have bb5 : But x G5 G6 := eG6 ▸ (But.same (x := x) (si5.trans sj5)).upd
    have hx6 : G6 x = some (.ins c.plan dx (ob [("rows" : Str), ("modes" : Str), ("firsts" : Str), ("turns" : Str), ("places" : Str), ("phases" : Str)] [.ref t0, .ref t1, .ref t2, .ref t3, .ref t4, .ref t5])) := by rw [eG6, upd_same]; rfl
    have b6 := b5.trans bb5
    have S6 := sqA_but b6 hx S
    have R6 := rowsAt_but b6 hx R
    have stx5 : SqT K G6 _ _ := eG6 ▸ sqT_ins hxm5 st5
    have tp6 := (tp5.but bb5 hx5).add stx5
    clear eG6
    refine ⟨_, rfl, lc2_use zs (·.1) (fun p => marksD p.2) S6 sz (fun p hp => len_marks (R p hp).2) (fun _ => rfl) (fun _ _ => rfl) (fun _ _ => rfl) ?_ ?_⟩
    · intro p Hb N hp sb kN
      exact ⟨_, rfl, p.1, p.2, rfl, (R6 p hp).1.sm sb, (R p hp).2, fun D Hb2 sb2 nD hD => kN D Hb2 sb2 nD (lstA hD)⟩
    intro E6 Hi6 nE6 si6 hE6
    refine ⟨E6, _, rfl, lstA hE6, Nat.le_trans (flat_len (fun p : VR => marksD p.2) zs fun p hp => len_marks (R p hp).2) (by omega), keys_few fun p hp => marks_from (R p hp).2, fun t6 y6 Hj6 sj6 nt6 ht6 as6 => ?_⟩
    have st6 : SqT K Hj6 t6 (sv y6) := SqT.of ht6
    rw [flat_snd marksD] at as6
    have hxm6 := (si6.trans sj6) _ _ hx6
    refine ⟨_, rfl, x, dx, [.ref t0, .ref t1, .ref t2, .ref t3, .ref t4, .ref t5], rfl, hxm6, rfl, fun G7 eG7 => ?_⟩
    have bb6 : But x G6 G7 := eG7 ▸ (But.same (x := x) (si6.trans sj6)).upd
    have hx7 : G7 x = some (.ins c.plan dx (ob [("rows" : Str), ("modes" : Str), ("firsts" : Str), ("turns" : Str), ("places" : Str), ("phases" : Str), ("marks" : Str)] [.ref t0, .ref t1, .ref t2, .ref t3, .ref t4, .ref t5, .ref t6])) := by rw [eG7, upd_same]; rfl
    have b7 := b6.trans bb6
    have S7 := sqA_but b7 hx S
    have R7 := rowsAt_but b7 hx R
    have stx6 : SqT K G7 _ _ := eG7 ▸ sqT_ins hxm6 st6
    have tp7 := (tp6.but bb6 hx6).add stx6
    clear eG7
    refine ⟨_, rfl, lc2_use zs (·.1) (fun p => lettersD p.2) S7 sz (fun p hp => len_letters (R p hp).2) (fun _ => rfl) (fun _ _ => rfl) (fun _ _ => rfl) ?_ ?_⟩
    · intro p Hb N hp sb kN
      exact ⟨_, rfl, p.1, p.2, rfl, (R7 p hp).1.sm sb, (R p hp).2, fun D Hb2 sb2 nD hD => kN D Hb2 sb2 nD (lstA hD)⟩
    intro E7 Hi7 nE7 si7 hE7
    refine ⟨E7, _, rfl, lstA hE7, Nat.le_trans (flat_len (fun p : VR => lettersD p.2) zs fun p hp => len_letters (R p hp).2) (by omega), keys_few fun p hp => letters_from (R p hp).2, fun t7 y7 Hj7 sj7 nt7 ht7 as7 => ?_⟩
    have st7 : SqT K Hj7 t7 (sv y7) := SqT.of ht7
    rw [flat_snd lettersD] at as7
    have hxm7 := (si7.trans sj7) _ _ hx7
    refine ⟨_, rfl, x, dx, [.ref t0, .ref t1, .ref t2, .ref t3, .ref t4, .ref t5, .ref t6], rfl, hxm7, rfl, fun G8 eG8 => ?_⟩
    have bb7 : But x G7 G8 := eG8 ▸ (But.same (x := x) (si7.trans sj7)).upd
    have hx8 : G8 x = some (.ins c.plan dx (ob [("rows" : Str), ("modes" : Str), ("firsts" : Str), ("turns" : Str), ("places" : Str), ("phases" : Str), ("marks" : Str), ("letters" : Str)] [.ref t0, .ref t1, .ref t2, .ref t3, .ref t4, .ref t5, .ref t6, .ref t7])) := by rw [eG8, upd_same]; rfl
    have b8 := b7.trans bb7
    have S8 := sqA_but b8 hx S
    have R8 := rowsAt_but b8 hx R
    have stx7 : SqT K G8 _ _ := eG8 ▸ sqT_ins hxm7 st7
    have tp8 := (tp7.but bb7 hx7).add stx7
    clear eG8
    exact k G8 [t0, t1, t2, t3, t4, t5, t6, t7] ⟨y4, y5, y6, y7⟩ b8 hx8 rfl tp8 ⟨as4, as5, as6, as7⟩
end
end SB

set_option maxHeartbeats 2000000
namespace SB
open PySem PySem.Spec PyProof.Rows L2
open C8 (Cal Mak Met pe_c pe_mk pe_mt pe_mt0 pe_gc InsC call_isC)

/-! ### the plan's text -/
def no10 (z : Str) : Prop := 10 ∉ TL.tl z
theorem mem_joinL {x : Nat} {sep : List Nat} : ∀ {ps : List (List Nat)}, x ∈ TL.joinL sep ps → x ∈ sep ∨ ∃ p ∈ ps, x ∈ p
  | [], h => nomatch h
  | [p], h => .inr ⟨p, List.mem_cons_self, h⟩
  | p :: q :: r, h => by
    have h' : x ∈ p ++ (sep ++ TL.joinL sep (q :: r)) := h
    rcases List.mem_append.mp h' with h' | h'
    · exact .inr ⟨p, List.mem_cons_self, h'⟩
    · rcases List.mem_append.mp h' with h' | h'
      · exact .inl h'
      · exact (mem_joinL h').imp id fun ⟨p, hp, hx⟩ => ⟨p, List.mem_cons_of_mem _ hp, hx⟩
theorem tl_join (sep : List Nat) (l : List Str) : TL.tl (Txt.join (SX.S sep) l) = TL.joinL sep (l.map TL.tl) := by
  conv => lhs; rw [← map_tl_S l]
  rw [SX.join_S]
theorem no10_join {sep : List Nat} {l : List Str} (hs : 10 ∉ sep) (hl : ∀ z ∈ l, no10 z) : no10 (Txt.join (SX.S sep) l) := by
  unfold no10
  rw [tl_join]
  intro h
  rcases mem_joinL h with h | ⟨p, hp, h⟩
  · exact hs h
  · obtain ⟨z, hz, rfl⟩ := List.mem_map.mp hp
    exact hl z hz h
theorem no10_atom {w : Str} (h : w ∈ atoms) : no10 w := fun q => by
  have z := atoms_ok w h
  unfold atomB at z
  rw [Bool.and_eq_true, Bool.and_eq_true] at z
  rw [List.contains_iff_mem.mpr q] at z
  exact nomatch z.2
theorem no10_test {w : Str} (h : w ∈ tests) : no10 w := fun q => by
  have z := tests_ok w h
  unfold testOk at z
  simp only [Bool.and_eq_true] at z
  rw [List.contains_iff_mem.mpr q] at z
  exact nomatch z.1.1.2
theorem no10_deed {w : Str} (h : w ∈ deeds) : no10 w := fun q => by
  have z := deeds_ok w h
  unfold deedOk at z
  simp only [Bool.and_eq_true] at z
  rw [List.contains_iff_mem.mpr q] at z
  exact nomatch z.1.2
theorem no10_parts {r : RD} (h : Ok r) : ∀ z ∈ parts r, no10 z := by
  have E : ∀ z, z ∈ ([] : List Str) → no10 z := fun z h => nomatch h
  have C : ∀ {w : Str} {l : List Str}, no10 w → (∀ z ∈ l, no10 z) → ∀ z ∈ w :: l, no10 z := fun h1 h2 z hz => by
    rcases List.mem_cons.mp hz with rfl | hz
    · exact h1
    · exact h2 z hz
  have J : ∀ {l m : List Str}, (∀ z ∈ l, no10 z) → (∀ z ∈ m, no10 z) → ∀ z ∈ l ++ m, no10 z := fun h1 h2 z hz => (List.mem_append.mp hz).elim (h1 z) (h2 z)
  have A : ∀ {w : Str}, w ∈ atoms → no10 w := no10_atom
  have PP : ∀ {l : List Str}, From pool l → ∀ z ∈ l, no10 z := fun hf z hz => A (pool_atom (hf z hz))
  have sA : 10 ∉ (32 :: (TL.tl ("and" : Str) ++ [32])) := by decide +kernel
  have sT : 10 ∉ (32 :: (TL.tl ("then" : Str) ++ [32])) := by decide +kernel
  cases r with
  | first p => exact C (A inAtoms) (C (A (pool_atom h)) E)
  | mode n pr es =>
    obtain ⟨hn, h⟩ := h
    rcases h with ⟨rfl, rfl⟩ | ⟨q, rfl, hq, _, _, hf, _⟩
    · exact C (A inAtoms) (C (A (pool_atom hn)) E)
    · exact C (A inAtoms) (C (A (pool_atom hn)) (C (A (pr_atoms _ hq)) (PP hf)))
  | turn m w ps t =>
    obtain ⟨hm, ht, hw⟩ := h
    have hw1 : w ∈ atoms := by
      rcases hw with ⟨rfl, _⟩ | ⟨rfl | rfl, _⟩
      · exact inAtoms
      · exact inAtoms
      · exact inAtoms
    have hp : From pool ps := by
      rcases hw with ⟨_, rfl⟩ | ⟨_, _, _, h2, _⟩
      · exact fun _ h => nomatch h
      · exact h2
    exact C (A inAtoms) (C (A (pool_atom hm)) (C (A hw1) (J (PP hp) (C (A inAtoms) (C (A (pool_atom ht)) E)))))
  | lead m p e t ss =>
    obtain ⟨hm, hp, he, ht, _, hf⟩ := h
    refine C (A inAtoms) (C (A (atom_or hm)) (C (A (atom_or hp)) (C (A (atom_or he)) (C (A inAtoms) (C (A (atom_or ht)) ?_)))))
    by_cases q : ss = []
    · rw [if_pos q]; exact E
    · rw [if_neg q]; exact C (A inAtoms) (C (no10_join sA (PP hf)) E)
  | house e ts ds =>
    obtain ⟨he, _, hf1, _, hf2⟩ := h
    refine C (A inAtoms) (C (A (he.elim pool_atom (ev_atoms _))) (J ?_ ?_))
    · by_cases q : ts = []
      · rw [if_pos q]; exact E
      · rw [if_neg q]; exact C (A inAtoms) (C (no10_join sA fun z hz => no10_test (hf1 z hz)) E)
    · by_cases q : ds = []
      · rw [if_pos q]; exact E
      · rw [if_neg q]; exact C (A inAtoms) (C (no10_join sT fun z hz => no10_deed (hf2 z hz)) E)
theorem no10_text {r : RD} (h : Ok r) : no10 (text r) := by
  show no10 (Txt.join " " (parts r))
  rw [blankS]
  exact no10_join (by decide) (no10_parts h)
theorem fm_some {α β : Type} (f : α → β) : ∀ l : List α, (l.filterMap fun x => some (f x)) = l.map f
  | [] => rfl
  | x :: l => by
    show f x :: _ = _
    rw [fm_some f l]; rfl
def planText (rs : List RD) : Str := Txt.join "\n" (rs.map text)
theorem nlS : ("\n" : Str) = SX.S [10] := by decide +kernel
theorem plan_split {rs : List RD} (hne : rs ≠ []) (h : ∀ r ∈ rs, Ok r) : Txt.split (planText rs) "\n" = rs.map text := by
  have e1 : planText rs = SX.S (TL.joinL [10] ((rs.map text).map TL.tl)) := by
    show Txt.join "\n" (rs.map text) = _
    conv => lhs; rw [← map_tl_S (rs.map text), nlS]
    exact SX.join_S _ _
  rw [e1, nlS, SX.split_S (by decide) (by decide), SX.spl_join (by simpa using hne) fun p hp => ?_, map_tl_S]
  obtain ⟨z, hz, rfl⟩ := List.mem_map.mp hp
  obtain ⟨r, hr, rfl⟩ := List.mem_map.mp hz
  exact no10_text (h r hr)
theorem plan_sum {rs : List RD} (hl : rs.length ≤ 100) (h : ∀ r ∈ rs, Ok r) : ((rs.map text).map (·.length)).sum + (rs.map text).length * ("\n" : Str).length ≤ 4000000 := by
  have e1 : ("\n" : Str).length = 1 := by decide +kernel
  have h3 := sum_le (l := rs.map text) (m := 30000) fun z hz => by
    obtain ⟨r, hr, rfl⟩ := List.mem_map.mp hz
    exact len_text (h r hr)
  rw [List.length_map] at h3
  rw [e1, List.length_map]
  omega
structure Px (K : PySem.W.Frag) (mg : Str → Option Value) (c : Cs) : Prop where
  w : Wx K mg c
  n_plan : mg "Plan" = some (.ref c.plan)
  ins : C8.InsC K c.plan
  s_str : Sps K c.plan "__str__" "Plan.__str__" s_Plan_str
  s_len : Sps K c.plan "__len__" "Plan.__len__" s_Plan_len
  eq : ∃ f fd, NeC K c.plan f ∧ Fun K "__eq__" "Plan.__eq__" s_Plan_eq f fd
section
variable {P' : Program} {w : World} {K : PySem.W.Frag} {mg : Str → Option Value} {base : Heap}
variable {c : Cs}
def spPStr (c : Cs) (K : PySem.W.Frag) : Sp := fun vs H Q _ => ∃ (v : V) (zs : List VR) (o : PV), vs = [v] ∧ PlanAt c K H v zs o ∧ zs.length ≤ 100 ∧ ∀ H', Same H H' → Q (.str (planText (zs.map (·.2)))) H'
theorem rowsOk {H : Hp} {zs : List VR} (R : RowsAt c K H zs) : ∀ r ∈ zs.map (·.2), Ok r := fun r hr => by
  obtain ⟨p, hp, rfl⟩ := List.mem_map.mp hr
  exact (R p hp).2
/-- the plan's first tuple: its rows -/
theorem plan_rows {H : Hp} {v : V} {zs : List VR} {o : PV} (h : PlanAt c K H v zs o) : ∃ (a dx : Addr) (ts : List Addr) (t : Addr), v = .ref a ∧ H a = some (.ins c.plan dx (ob kPlan (ts.map V.ref))) ∧ (ts.map V.ref)[0]? = some (.ref t) ∧ SqT K H t (zs.map (·.1)) ∧ RowsAt c K H zs := by
  obtain ⟨a, dx, ts, e, h1, h2, h3, h4, h5⟩ := h
  match ts, h2 with
  | t :: ts, _ => exact ⟨a, dx, t :: ts, t, e, h1, rfl, h3 (t, zs.map (·.1)) List.mem_cons_self, h4⟩
theorem z_pstr (P : Px K mg c) : Spc P' w K mg base 4 c.plan "__str__" (spPStr c K) := by
  have U := P.w.v.u
  have Y := U.z.y
  have T := Y.x
  refine P.s_str.spc sc_Plan_str (fun vs H Q E h => ?_) (fun f cdv A outer s H vs Q E hr h => ?_) (fun _ _ _ _ _ _ us hl => match us, hl with | [_], _ => rfl)
  · obtain ⟨v, zs, o, rfl, hp, sz, k⟩ := h
    rfl
  · obtain ⟨v, zs, o, rfl, hp, sz, k⟩ := h
    refine ⟨_, (pss_one (ps_ret (pe_join pe_str (pe_lx (own := [("row", 1)]) (g := gName 1) (tt := tYes) (by rfl) sc_Plan_str.nd (pi_seq (pe_fo (ks := kPlan) 0 (pv 0) P.w.k_plan.cl (P.w.k_plan.na "rows" (by decide +kernel)) (by decide +kernel))) (blkOk_by (N := n_Plan_str) (sc := defScope s_Plan_str) (by decide +kernel)) (fun _ _ _ _ _ => pg_name (i := 1) sc_Plan_str.nd rfl (Or.inl rfl)) (fun _ _ _ _ _ => pts_nil) (fun _ _ _ _ _ => (pe_callTy (r := rStr K c) (call_strR U.z hr) (by rfl) T.m_str (by decide +kernel) (pa_cons (pv 1) pa_nil))))))), ?_⟩
    obtain ⟨a, dx, ts, t, rfl, ha, ht, St, R⟩ := plan_rows hp
    refine ⟨⟨_, rfl⟩, _, rfl, a, dx, _, _, rfl, ha, ht, it_use zs (·.1) (fun p => some (.str (text p.2))) (.inr St) (Nat.le_trans sz (by decide)) ?_ ?_⟩
    · intro p H2 N M hp2 s2 kN kM
      exact ⟨rfl, _, rfl, p.1, p.2, rfl, (R p hp2).1.sm s2, (R p hp2).2, fun H3 s3 => kN _ _ s3 rfl⟩
    intro D H1 nD s1 hD
    have e : (zs.filterMap fun p => some (V.str (text p.2))) = sv ((zs.map fun p : VR => p.2).map text) := by rw [fm_some fun p : VR => V.str (text p.2)]; simp [sv]
    rw [e] at hD
    refine ⟨_, D, (zs.map fun p : VR => p.2).map text, rfl, rfl, .inl (SqL.of hD), Nat.le_trans (plan_sum (by rw [List.length_map]; exact sz) (rowsOk R)) (by decide), k _ s1⟩
def spPLen (c : Cs) (K : PySem.W.Frag) : Sp := fun vs H Q _ => ∃ (v : V) (zs : List VR) (o : PV), vs = [v] ∧ PlanAt c K H v zs o ∧ ∀ H', Same H H' → Q (.int (zs.length : Nat)) H'
theorem z_plen (P : Px K mg c) : Spc P' w K mg base 1 c.plan "__len__" (spPLen c K) := by
  have U := P.w.v.u
  have Y := U.z.y
  have T := Y.x
  refine P.s_len.spc sc_Plan_len (fun vs H Q E h => ?_) (fun f cdv A outer s H vs Q E hr h => ?_) (fun _ _ _ _ _ _ us hl => match us, hl with | [_], _ => rfl)
  · obtain ⟨v, zs, o, rfl, hp, k⟩ := h
    rfl
  · obtain ⟨v, zs, o, rfl, hp, k⟩ := h
    refine ⟨_, (pss_one (ps_ret (pe_callB (r := rLenS K) call_lenS (by rfl) T.m_len (by decide +kernel) (pa_cons (pe_fo (ks := kPlan) 0 (pv 0) P.w.k_plan.cl (P.w.k_plan.na "rows" (by decide +kernel)) (by decide +kernel)) pa_nil)))), ?_⟩
    obtain ⟨a, dx, ts, t, rfl, ha, ht, St, R⟩ := plan_rows hp
    refine ⟨_, rfl, a, dx, _, _, rfl, ha, ht, t, _, rfl, .inr St, ?_⟩
    rw [List.length_map]
    exact k H (Same.refl _)
def spPEq (c : Cs) (K : PySem.W.Frag) : Sp := fun vs H Q _ => ∃ (v u : V) (zs ys : List VR) (o o' : PV), vs = [v, u] ∧ PlanAt c K H v zs o ∧ PlanAt c K H u ys o' ∧ zs.map (·.2) = ys.map (·.2) ∧ zs.length ≤ 100 ∧ ∀ H', Same H H' → Q (.bl true) H'
theorem planAt_ins {H : Hp} {v : V} {zs : List VR} {o : PV} (h : PlanAt c K H v zs o) : ∃ a dx fs, v = .ref a ∧ H a = some (.ins c.plan dx fs) := by
  obtain ⟨a, dx, ts, e, h1, _⟩ := h
  exact ⟨a, dx, _, e, h1⟩
section
variable {X : Cx}
def rStrP (c : Cs) (K : PySem.W.Frag) : List V → Hp → VK → Prop := fun xs H Q => ∃ (v : V) (zs : List VR) (o : PV), xs = [v] ∧ PlanAt c K H v zs o ∧ zs.length ≤ 100 ∧ ∀ H', Same H H' → Q (.str (planText (zs.map (·.2)))) H'
theorem call_strP (P : Px X.K X.mg c) (hr : Room 6 X.A) : CallR X (.type "str") (rStrP c X.K) := callImp (call_strO (z_pstr P) hr) fun xs H Q ⟨v, zs, o, e, hp, sz, k⟩ => by
  obtain ⟨a, dx, fs, rfl, ha⟩ := planAt_ins hp
  exact ⟨a, dx, fs, e, ha, .ref a, zs, o, rfl, hp, sz, fun H' s' => ⟨_, rfl, k H' s'⟩⟩
def rLenP (c : Cs) (K : PySem.W.Frag) : List V → Hp → VK → Prop := fun xs H Q => ∃ (v : V) (zs : List VR) (o : PV), xs = [v] ∧ PlanAt c K H v zs o ∧ zs.length ≤ 100 ∧ ∀ H', Same H H' → Q (.int (zs.length : Nat)) H'
theorem call_lenP (P : Px X.K X.mg c) (hr : Room 2 X.A) : CallR X (.builtin "len") (rLenP c X.K) := callImp (call_lenO (z_plen P) hr) fun xs H Q ⟨v, zs, o, e, hp, sz, k⟩ => by
  obtain ⟨a, dx, fs, rfl, ha⟩ := planAt_ins hp
  exact ⟨a, dx, fs, e, ha, .ref a, zs, o, rfl, hp, fun H' s' => ⟨_, rfl, by omega, by omega, k H' s'⟩⟩
end
theorem eq_plan (P : Px K mg c) {f : Addr} {fd : FuncData} (F : Fun K "__eq__" "Plan.__eq__" s_Plan_eq f fd) : FnOk P' w K mg base CX0 7 f fd ["self", "other"] (spPEq c K) := by
  have U := P.w.v.u
  have T := U.z.y.x
  refine F.ok sc_Plan_eq (fun vs H Q E h => ?_) (fun cdv A outer s H vs Q E hr h => ?_)
  · obtain ⟨v, u, zs, ys, o, o', rfl, _⟩ := h
    rfl
  · obtain ⟨v, u, zs, ys, o, o', rfl, hv, hu, e, sz, k⟩ := h
    refine ⟨_, (pss_one (ps_ret (pe_and (pe_callB (call_isC P.ins) (by rfl) T.m_isinstance (by decide +kernel) (pa_cons (pv 1) (pa_cons (pe_gc (v := .ref c.plan) (by rfl) ⟨_, P.n_plan, rfl⟩) pa_nil))) (pe_one (pe_cmpR op_eq (pe_callTy (call_strP P hr) (by rfl) T.m_str (by decide +kernel) (pa_cons (pv 0) pa_nil)) (pe_callTy (call_strP P hr) (by rfl) T.m_str (by decide +kernel) (pa_cons (pv 1) pa_nil)) (nomark _)))))), ?_⟩
    obtain ⟨b, dy, gs, rfl, hb⟩ := planAt_ins hu
    have sz2 : ys.length ≤ 100 := by
      have q := congrArg List.length e
      rw [List.length_map, List.length_map] at q
      omega
    refine ⟨_, rfl, b, dy, gs, rfl, hb, true, rfl, iteT ?_⟩
    refine ⟨_, rfl, _, zs, o, rfl, hv, sz, fun H1 s1 => ?_⟩
    refine ⟨_, rfl, _, ys, o', rfl, hu.sm s1, sz2, fun H2 s2 => ⟨rfl, ?_⟩⟩
    rw [e, decide_eq_true rfl]
    exact k _ (s1.trans s2)
section
variable {X : Cx}
def rNeP (c : Cs) (K : PySem.W.Frag) : R2 := fun x y H Q => ∃ (zs ys : List VR) (o o' : PV), PlanAt c K H x zs o ∧ PlanAt c K H y ys o' ∧ zs.map (·.2) = ys.map (·.2) ∧ zs.length ≤ 100 ∧ ∀ H', Same H H' → Q (.bl false) H'
theorem op_neP (P : Px X.K X.mg c) (hr : Room 8 X.A) : OpR X (compareOp .NotEq) (rNeP c X.K) := by
  obtain ⟨f, fd, N, F⟩ := P.eq
  refine opImp (op_neO N (eq_plan P F) (F.binds (fun _ _ _ _ _ _ us hl => match us, hl with | [_, _], _ => rfl)) hr) fun x y H Q ⟨zs, ys, o, o', hx, hy, e, sz, k⟩ => ?_
  obtain ⟨a, dx, fs, rfl, ha⟩ := planAt_ins hx
  obtain ⟨b, dy, gs, rfl, hb⟩ := planAt_ins hy
  exact ⟨a, b, dx, dy, fs, gs, rfl, rfl, ha, hb, .ref a, .ref b, zs, ys, o, o', rfl, hx, hy, e, sz, fun H' s' => ⟨true, rfl, k H' s'⟩⟩
end
end
end SB

set_option maxHeartbeats 2000000
namespace SB
open PySem PySem.Spec PyProof.Rows L2
open C8 (Cal Mak Met pe_c pe_mk pe_mt pe_mt0 pe_gc InsC call_isC)

section
variable {X : Cx} {k j i : Nat} {C : Addr} {x : Str} {sp : Sp} {dvs : List V} {p pos : Pos} {e : Expr} {es : List Expr} {t : TA}
/-- a class that a name of the def holds, called -/
def tMkV (i : Nat) (C : Addr) (sp : Sp) (dvs : List V) (t : TA) : TE := fun σ H Q => σ[i]? = some (some (.ref C)) ∧ tMake C sp dvs C8.E0 t σ H Q
theorem pe_mkv {nm : Str} (c : Mak X.prog X.w X.K X.mg X.base k nm C sp dvs) (hr : Room j X.A) (hk : k + 1 ≤ j) (hN : X.N[i]? = some x) (hv : Vis X.env.scope x) (ha : PA X (e :: es) t)
    (hd : (x == ("__debug__" : Str)) = false := by decide) (hcd : (x == ("__classdict__" : Str)) = false := by decide) (he : starEach (e :: es) X.env = (false, eval e X.env) :: starEach es X.env := by rfl) (hpl : (backTo pos (starEach es X.env)).any (·.1) = false := by rfl) :
    PE X (.Call (.Name x p) (e :: es) [] pos) (tMkV i C sp dvs t) := by
  refine ⟨fun pins s σ H Q I ⟨hs, ht⟩ => ?_⟩
  obtain ⟨f, fd, ps, ds, M, F, hm, b, d⟩ := c.ex
  refine wpAny_Call_Name_kw (thn ((pe_var (pos := p) hN hv hd hcd).run pins s σ H (fun v H1 => v = .ref C ∧ H1 = H) I ⟨.ref C, hs, rfl, rfl⟩) ?_)
  rintro u s1 ⟨v, H1, I1, r1, rfl, rfl⟩
  cases r1
  refine PySem.W.callWith_K (h₀ := X.base) I.ok.mod.kin M.kp (thn (ha.run pos pins s1 σ _ _ I1 ht) ?_) he hpl
  rintro us s2 ⟨vs, H2, I2, r, q⟩
  exact ⟨I2.kIn, run_make M F (hr.mono hk) b d C8.pass0 I2 r q⟩
end
/-! ### heeding keeps a plan good -/
theorem heed_keep {α : Type} (g : RD → Option α) (ms : List Str) (hg : ∀ e ts ds, g (.house e ts ds) = none) : ∀ rs : List RD, (rs.filterMap (heedD ms)).filterMap g = rs.filterMap g
  | [] => rfl
  | r :: rs => by
    have ih := heed_keep g ms hg rs
    rw [List.filterMap_cons, List.filterMap_cons (f := g) (l := rs)]
    cases r with
    | house e ts ds =>
      rw [hg]
      have eh : heedD ms (.house e ts ds) = if ts.any (tbad ms) = true then none else some (RD.house e (ts.filter (tkeep ms)) (ds.filter (dkeep ms))) := rfl
      rw [eh]
      by_cases q : ts.any (tbad ms) = true
      · rw [if_pos q]; exact ih
      · rw [if_neg q]
        show List.filterMap g (_ :: _) = _
        rw [List.filterMap_cons, hg]; exact ih
    | first p =>
      show List.filterMap g (_ :: _) = _
      rw [List.filterMap_cons, ih]
    | mode n pr es =>
      show List.filterMap g (_ :: _) = _
      rw [List.filterMap_cons, ih]
    | turn m w ps t =>
      show List.filterMap g (_ :: _) = _
      rw [List.filterMap_cons, ih]
    | lead m p e t ss =>
      show List.filterMap g (_ :: _) = _
      rw [List.filterMap_cons, ih]
/-- good is a matter of the rows that are no houses -/
theorem good_of {rs rs' : List RD} (h : ∀ {α : Type} (g : RD → Option α), (∀ e ts ds, g (.house e ts ds) = none) → rs'.filterMap g = rs.filterMap g) (G : Good rs) : Good rs' := by
  have e1 : firstsOf rs' = firstsOf rs := h firstOf fun _ _ _ => rfl
  have e2 : modesOf rs' = modesOf rs := h modeOf fun _ _ _ => rfl
  have e3 : turnsOf rs' = turnsOf rs := h turnOf fun _ _ _ => rfl
  have e4 : leadsM rs' = leadsM rs := h leadMOf fun _ _ _ => rfl
  have e5 : namesOf rs' = namesOf rs := congrArg (List.map fun p : Str × Option Str => p.1) e2
  obtain ⟨f1, f2, m1, m2, t1, l1, u, r⟩ := G
  exact ⟨e1 ▸ f1, e1 ▸ f2, e5 ▸ m1, e5 ▸ m2, by rw [e3, e5]; exact t1, by rw [e4, e5]; exact l1, by rw [e3, e2]; exact u, by rw [e3]; exact r⟩
theorem good_heed {rs : List RD} (ms : List Str) (G : Good rs) : Good (rs.filterMap (heedD ms)) := good_of (fun g hg => heed_keep g ms hg rs) G
def MetF (K : PySem.W.Frag) (C : Addr) (name qual : Str) (st : Stmt) : Prop := ∃ f fd, Meth K C name f ∧ Fun K name qual st f fd
structure Mx (K : PySem.W.Frag) (mg : Str → Option Value) (c : Cs) : Prop where
  p : Px K mg c
  need : MetF K c.plan "need_row" "Plan.need_row" s_Plan_need_row
  heeding : MetF K c.plan "heeding" "Plan.heeding" s_Plan_heeding
section
variable {P : Program} {w : World} {K : PySem.W.Frag} {mg : Str → Option Value} {base : Heap}
variable {c : Cs}
theorem MetF.met {C : Addr} {name qual : Str} {st : Stmt} {N ps : List Str} {k : Nat} {sp : Sp} (cl : Cls K C) (G : MetF K C name qual st) (S : FnScope N ps (defScope st)) (len : ∀ vs H Q E, sp vs H Q E → vs.length = ps.length)
    (hbody : ∀ (f : Addr) (cdv : Value) (A : Around) (outer : List Env) (s : Shared) (H : Hp) (vs : List V) (Q : VK) (E : XK), Room k (A.deeper (envOfC qual (defScope st) s.heap.objs.size f cdv)) → sp vs H Q E →
      ∃ t, PSs (cxOf CX0 P w K mg base N qual (defScope st) f cdv A outer s H E).nox (defBody st) t ∧ t { nx := fun _ H' => Q .non H', rt := Q } (start N vs) H)
    (b : ∀ (kV doc pm : Value) (an : Option Addr) (cdv ct : Value) (us : List Value), us.length = ps.length → bindArgs (PySem.W.fnOf name qual (defArgs st) (defBody st) (defScope st) .none kV doc pm an cdv ct) ⟨us, []⟩ = pure (ps.zip us)) : Met P w K mg base (k + 1) C name sp [] := by
  obtain ⟨f, fd, h1, F⟩ := G
  exact ⟨⟨f, fd, ps, [], cl, h1, F.ok S len (fun cdv A outer s H vs Q E => hbody f cdv A outer s H vs Q E), F.binds b, .nil⟩⟩
def spNeed (c : Cs) (K : PySem.W.Frag) : Sp := fun vs H Q _ => ∃ (v : V) (zs : List VR) (o : PV) (i : Nat), vs = [v, .int (i : Int)] ∧ PlanAt c K H v zs o ∧ i < zs.length ∧ zs.length ≤ 100 ∧ ∀ H', Same H H' → Q .non H'
theorem m_need (M' : Mx K mg c) : Met P w K mg base 1 c.plan "need_row" (spNeed c K) [] := by
  have W := M'.p.w
  have U := W.v.u
  have Y := U.z.y
  have T := Y.x
  refine M'.need.met W.k_plan.cl sc_Plan_need_row (fun vs H Q E h => ?_) (fun f cdv A outer s H vs Q E hr h => ?_) (fun _ _ _ _ _ _ us hl => match us, hl with | [_, _], _ => rfl)
  · obtain ⟨v, zs, o, i, rfl, hp, hi, sz, k⟩ := h
    rfl
  · obtain ⟨v, zs, o, i, rfl, hp, hi, sz, k⟩ := h
    refine ⟨_, (pss_one (ps_if (pt_not (pt_chain op_le op_lt pe_int (pv 1) (pe_callB (r := rLenS K) call_lenS (by rfl) T.m_len (by decide +kernel) (pa_cons (pe_fo (ks := kPlan) 0 (pv 0) W.k_plan.cl (W.k_plan.na "rows" (by decide +kernel)) (by decide +kernel)) pa_nil)))) (pss_one ps_never) pss_nil)), ?_⟩
    obtain ⟨a, dx, ts, t, rfl, ha, ht, St, R⟩ := plan_rows hp
    refine ⟨_, rfl, _, _, rfl, rfl, true, congrArg V.bl (decide_eq_true (by omega)), iteT ⟨_, rfl, a, dx, _, _, rfl, ha, ht, t, _, rfl, .inr St, _, _, rfl, rfl, true, congrArg V.bl (decide_eq_true ?_), iteF ?_⟩⟩
    · rw [List.length_map]; omega
    · exact k H (Same.refl _)
def spHeeding (c : Cs) (K : PySem.W.Frag) : Sp := fun vs H Q _ => ∃ (v : V) (b : Addr) (zs : List VR) (o : PV) (ms : List Str), vs = [v, .ref b] ∧ PlanAt c K H v zs o ∧ SqA K H b (sv ms) ∧ zs.length ≤ 100 ∧ Good (zs.map (·.2)) ∧
  ∀ v' zs' o' H', Same H H' → PlanAt c K H' v' zs' o' → zs'.map (·.2) = (zs.map (·.2)).filterMap (heedD ms) → Q v' H'
/-- what stands in the list of heeded rows -/
def oV : Option VR → V
  | some p => p.1
  | none => .non
theorem oV_list : ∀ os : List (Option VR), os.filterMap (fun o => o.map fun p : VR => p.1) = (os.filterMap id).map (·.1)
  | [] => rfl
  | none :: os => oV_list os
  | some p :: os => by
    show p.1 :: _ = _
    rw [oV_list os]; rfl
theorem oV_snd : ∀ os : List (Option VR), (os.filterMap id).map (·.2) = (os.map fun o => o.map fun p : VR => p.2).filterMap id
  | [] => rfl
  | none :: os => oV_snd os
  | some p :: os => by
    show p.2 :: _ = _
    rw [oV_snd os]; rfl
theorem m_heeding (M' : Mx K mg c) : Met P w K mg base 7 c.plan "heeding" (spHeeding c K) [] := by
  have W := M'.p.w
  have U := W.v.u
  have Y := U.z.y
  have T := Y.x
  refine M'.heeding.met W.k_plan.cl sc_Plan_heeding (fun vs H Q E h => ?_) (fun f cdv A outer s H vs Q E hr h => ?_) (fun _ _ _ _ _ _ us hl => match us, hl with | [_, _], _ => rfl)
  · obtain ⟨v, b, zs, o, ms, rfl, hp, Sm, sz, hG, k⟩ := h
    rfl
  · obtain ⟨v, b, zs, o, ms, rfl, hp, Sm, sz, hG, k⟩ := h
    refine ⟨_, (pss_cons (ps_setLx (i := 2) (own := [("row", 3)]) (g := gName 3) (tt := tYes) (by rfl) sc_Plan_heeding.nd rfl rfl (sw_true rfl rfl rfl (by decide +kernel)) (pi_seq (pe_fo (ks := kPlan) 0 (pv 0) W.k_plan.cl (W.k_plan.na "rows" (by decide +kernel)) (by decide +kernel))) (blkOk_by (N := n_Plan_heeding) (sc := defScope s_Plan_heeding) (by decide +kernel)) (fun _ _ _ _ _ => pg_name (i := 3) sc_Plan_heeding.nd rfl (Or.inl rfl)) (fun _ _ _ _ _ => pts_nil) (fun _ _ _ _ _ => (pe_c (c_heeding_row U) hr (by decide) (by rfl) (pa_cons (pv 3) (pa_cons (pv 1) pa_nil))))) (pss_one (ps_ret (pe_mk (mk_plan W) hr (by decide) (by rfl) (pa_cons (pe_lx (own := [("row", 3)]) (g := gName 3) (by rfl) sc_Plan_heeding.nd (pi_seq (pv 2)) (blkOk_by (N := n_Plan_heeding) (sc := defScope s_Plan_heeding) (by decide +kernel)) (fun _ _ _ _ _ => pg_name (i := 3) sc_Plan_heeding.nd rfl (Or.inl rfl)) (fun _ _ _ _ _ => pts_one (pt_cmpR op_notN (pv 3) pe_non (nomark _))) (fun _ _ _ _ _ => (pv 3))) pa_nil))))), ?_⟩
    obtain ⟨a, dx, ts, t, rfl, ha, ht, St, R⟩ := plan_rows hp
    refine ⟨_, rfl, a, dx, _, _, rfl, ha, ht, lc_seq (.inr St) (by rw [List.length_map]; exact Nat.lt_of_le_of_lt sz (by decide))
      (fun D i acc H2 => ∃ os : List (Option VR), acc = os.map oV ∧ (os.map fun o => o.map fun p : VR => p.2) = ((zs.map (·.2)).take i).map (heedD ms) ∧ ∀ p, some p ∈ os → RowAt c K H2 p.1 p.2 ∧ Ok p.2) (fun D nD => ⟨[], rfl, rfl, fun _ h => nomatch h⟩) ?_ ?_⟩
    · intro D i x acc H2 nD hx s2 hD pr N M kN kM
      obtain ⟨os, e1, e2, hR⟩ := pr
      rw [List.getElem?_map] at hx
      obtain ⟨p, hpi, rfl⟩ := Option.map_eq_some_iff.mp hx
      have hpr : (zs.map (·.2))[i]? = some p.2 := by rw [List.getElem?_map, hpi]; rfl
      have hok := (R p (memi hpi)).2
      have fin : ∀ y ov H3, Same H2 H3 → oV ov = y → (ov.map fun p : VR => p.2) = heedD ms p.2 → (∀ q, some q = ov → RowAt c K H3 q.1 q.2 ∧ Ok q.2) → N y H3 := by
        intro y ov H3 s3 ey eo hq
        refine kN y H3 s3 ⟨os ++ [ov], ?_, ?_, fun q hqm => ?_⟩
        · rw [e1, List.map_append, ← ey]; rfl
        · rw [take_more hpr, List.map_append, List.map_append, e2]
          show _ ++ [ov.map fun p : VR => p.2] = _ ++ [heedD ms p.2]
          rw [eo]
        · rcases List.mem_append.mp hqm with hqm | hqm
          · exact ⟨((hR q hqm).1.sm s3).im (im_lst (s3 _ _ hD)), (hR q hqm).2⟩
          · have z := hq q (List.mem_singleton.mp hqm)
            exact ⟨z.1.im (im_lst (s3 _ _ hD)), z.2⟩
      refine ⟨rfl, _, rfl, _, rfl, p.1, b, p.2, ms, rfl, (R p (memi hpi)).1.sm s2, hok, samA s2 Sm, fun H3 s3 e => ?_, fun v' r' H3 s3 e hv => ?_⟩
      · exact fin _ none H3 s3 rfl e.symm fun q h => nomatch h
      · refine fin _ (some (v', r')) H3 s3 rfl e.symm fun q h => ?_
        cases h
        exact ⟨hv, heed_ok hok e⟩
    intro D acc H1 nD s1 hD hl pr
    rw [List.length_map] at pr hl
    obtain ⟨os, rfl, e2, hR⟩ := pr
    rw [List.take_of_length_le (by rw [List.length_map]; exact Nat.le_refl _)] at e2
    rw [List.length_map] at hl
    refine ⟨_, rfl, it_use os oV (fun o => o.map fun p : VR => p.1) (lstA hD) (Nat.le_trans hl (Nat.le_trans sz (by decide))) ?_ ?_⟩
    · intro ov H2 N M ho s2 kN kM
      refine ⟨rfl, _, rfl, rfl, _, rfl, ?_⟩
      cases ov with
      | none =>
        have e : (!decide (oV none = V.non)) = false := by rw [decide_eq_true (show oV none = V.non from rfl)]; rfl
        rw [e]
        exact iteF (kM _ (Same.refl _) rfl)
      | some p =>
        obtain ⟨⟨a2, _, _, _, e0, _⟩, _⟩ := hR p ho
        have e : (!decide (oV (some p) = V.non)) = true := by
          rw [decide_eq_false (fun z => by
            have z' : p.1 = V.non := z
            rw [e0] at z'; cases z')]; rfl
        rw [e]
        exact iteT ⟨_, rfl, kN _ _ (Same.refl _) rfl⟩
    intro D2 H2 nD2 s2 hD2
    rw [oV_list] at hD2
    have e3 : (os.filterMap id).map (fun p : VR => p.2) = (zs.map (·.2)).filterMap (heedD ms) := by
      rw [oV_snd, e2, List.filterMap_map]; rfl
    have R2 : RowsAt c K H2 (os.filterMap id) := fun p hp2 => by
      obtain ⟨ov, ho, e⟩ := List.mem_filterMap.mp hp2
      have e' : ov = some p := e
      subst e'
      exact ⟨(hR p ho).1.sm s2, (hR p ho).2⟩
    intro x dx2 nx nd hne
    refine ⟨x, dx2, D2, os.filterMap id, rfl, upd_same, samA (same_mk nx nd) (lstA hD2), R2.sm (same_mk nx nd), Nat.le_trans (List.length_filterMap_le _ _) (Nat.le_trans hl (Nat.le_trans sz (by decide))), by rw [e3]; exact good_heed ms hG, planE_use nx nd R2 fun v' o' H' s' hv => k v' _ o' H' ((s1.trans s2).trans s') hv e3⟩
structure Rx (K : PySem.W.Frag) (mg : Str → Option Value) (c : Cs) : Prop where
  m : Mx K mg c
  read : ∃ mc p g fd, ClX.CRead K c.plan mc ∧ ClX.CMet K c.plan mc "read" p g ∧ Fun K "read" "Plan.read" s_Plan_read g fd
def spPRead (c : Cs) (K : PySem.W.Frag) : Sp := fun vs H Q _ => ∃ (rs : List RD), vs = [.ref c.plan, .str (planText rs)] ∧ rs ≠ [] ∧ (∀ r ∈ rs, Ok r) ∧ rs.length ≤ 100 ∧ Good rs ∧ ∀ v zs o H', Same H H' → PlanAt c K H' v zs o → zs.map (·.2) = rs → Q v H'
theorem c_plan_read (X' : Rx K mg c) {g : Addr} {fd : FuncData} (F : Fun K "read" "Plan.read" s_Plan_read g fd) : FnR P w K mg base CX0 9 g (spPRead c K) := by
  have W := X'.m.p.w
  have U := W.v.u
  have Y := U.z.y
  have T := Y.x
  obtain ⟨rmc, rp, rg, rfd, rcr, rcm, rF⟩ := W.v.read
  have G : FnOk P w K mg base CX0 9 g fd ["cls", "text"] (spPRead c K) := by
    refine F.ok sc_Plan_read (fun vs H Q E h => ?_) (fun cdv A outer s H vs Q E hr h => ?_)
    · obtain ⟨rs, rfl, _⟩ := h
      rfl
    · obtain ⟨rs, rfl, hne, ho, sz, hG, k⟩ := h
      refine ⟨_, (pss_cons (ps_set (i := 2) sc_Plan_read.nd rfl (Or.inl rfl) (pe_lst pa_nil)) (pss_cons (ps_for PassesOwn.never rfl (pi_enum (by rfl) T.m_enumerate (pa_cons (pe_split (pv 1) pe_str) pa_nil)) (pg_tup rfl (pgs_cons (pg_name (i := 3) sc_Plan_read.nd rfl (Or.inl rfl)) (pgs_cons (pg_name (i := 4) sc_Plan_read.nd rfl (Or.inl rfl)) pgs_nil))) (pss_one (ps_try_thru0 (pss_one (ps_expr (pe_bm PySem.F.plainAttrs_list PySem.F.slot_list_append PySem.F.type_list_append mt_append (pv 2) (pa_cons (ClX.pe_cmeth (pe_gc (v := .ref c.row) (by rfl) ⟨_, U.n_row, rfl⟩) rcr rcm (c_row_read U rF) hr pass0 (pa_cons (pv 4) pa_nil)) pa_nil))))))) (pss_one (ps_ret (pe_mkv (i := 0) (mk_plan W) hr (by decide) rfl (Or.inl rfl) (pa_cons (pv 2) pa_nil)))))), ?_⟩
      refine ⟨Nat.zero_le _, fun D nD => ?_⟩
      have lp : (planText rs).length ≤ 4000000 := Nat.le_trans (join_len _ _) (plan_sum sz ho)
      refine ⟨_, rfl, ⟨_, rfl⟩, _, _, rfl, rfl, by decide +kernel, Nat.le_trans (Nat.add_le_add_right lp 2) (by decide), fun L nL => ?_⟩
      have sD : Same H (upd H D (.lst [])) := Sn nD
      have hLD : L ≠ D := fun e => by rw [e, upd_same] at nL; cases nL
      have hL : (upd (upd H D (.lst [])) L (.lst (sv (Txt.split (planText rs) "\n")))) L = some (.lst (sv (Txt.split (planText rs) "\n"))) := upd_same
      rw [plan_split hne ho] at hL
      refine ⟨L, _, rfl, SqL.of upd_same, ?_⟩
      refine ⟨fun i m σ H' => m = rs.length - i ∧ i ≤ rs.length ∧ ∃ (av lv : Option V) (zs : List VR), σ = [some (.ref c.plan), some (.str (planText rs)), some (.ref D), av, lv, none] ∧ Same H H' ∧ H' D = some (.lst (zs.map (·.1))) ∧ RowsAt c K H' zs ∧ zs.map (·.2) = rs.take i ∧ SqL K H' L (sv (rs.map text)),
        ⟨rs.length, rfl, Nat.zero_le _, none, none, [], rfl, sD.trans (Sn nL), ?_, fun _ h => (nomatch h), rfl, ?_⟩, ?_⟩
      · exact (Sn nL) _ _ upd_same
      · rw [← plan_split hne ho]; exact SqL.of upd_same
      rintro i m σ H1 ⟨rfl, hi, av, lv, zs, rfl, s1, hD, R, e, hS⟩
      by_cases hlt : i < rs.length
      · have hr : rs[i]? = some rs[i] := List.getElem?_eq_getElem hlt
        have hx : (sv (rs.map text))[i]? = some (.str (text rs[i])) := by rw [List.getElem?_map, List.getElem?_map, hr]; rfl
        refine .inr ⟨⟨_, _, hS, hx⟩, fun σ' H' => ∃ (av lv : Option V) (zs : List VR), σ' = [some (.ref c.plan), some (.str (planText rs)), some (.ref D), av, lv, none] ∧ Same H H' ∧ H' D = some (.lst (zs.map (·.1))) ∧ RowsAt c K H' zs ∧ zs.map (·.2) = rs.take (i + 1) ∧ SqL K H' L (sv (rs.map text)), ?_, ?_⟩
        · rintro σ' H' h'
          exact ⟨rs.length - (i + 1), by omega, rfl, hlt, h'⟩
        · rintro x H2 ⟨T2, y, rfl, nT, rfl, hy⟩
          have ey : y = .str (text rs[i]) := Option.some.inj ((hy _ hS).symm.trans hx)
          subst ey
          refine ⟨T2, _, rfl, SqT.of upd_same, rfl, _, _, rfl, _, _, rfl, rfl, ?_⟩
          have s2 : Same H1 (upd H1 T2 (.tup [.int (i : Nat), .str (text rs[i])])) := Sn nT
          refine ⟨_, rfl, .inl ⟨rfl, _, SqL.of (s2 _ _ hD)⟩, rfl, _, rfl, _, rs[i], rfl, ho _ (memi hr), fun v H3 s3 hv => ?_⟩
          have s13 := s2.trans s3
          have hlz : zs.length ≤ 100 := by
            have q := congrArg List.length e
            rw [List.length_map, List.length_take] at q
            omega
          refine ⟨D, _, v, rfl, rfl, s13 _ _ hD, by rw [List.length_map]; exact Nat.lt_of_le_of_lt hlz (by decide), ?_⟩
          refine ⟨_, _, zs ++ [(v, rs[i])], rfl, sameD nD (s1.trans s13), by rw [upd_same, List.map_append]; rfl, fun p hp => ?_, ?_, sqL_ne hLD (s13.seq hS)⟩
          · rcases List.mem_append.mp hp with hp | hp
            · exact ⟨((R p hp).1.sm s13).im (im_lst (s13 _ _ hD)), (R p hp).2⟩
            · rw [List.mem_singleton.mp hp]
              exact ⟨hv.im (im_lst (s13 _ _ hD)), ho _ (memi hr)⟩
          · rw [List.map_append, e, take_more hr]; rfl
      · have ei : i = rs.length := by omega
        subst ei
        rw [List.take_length] at e
        refine .inl ⟨⟨_, hS, by rw [List.length_map, List.length_map]; exact Nat.le_refl _⟩, rfl, _, rfl, ?_⟩
        intro x dx nx nd hne2
        have hlz : zs.length ≤ 1000 := by
          have q := congrArg List.length e
          rw [List.length_map] at q
          omega
        refine ⟨x, dx, D, zs, rfl, upd_same, samA (same_mk nx nd) (lstA hD), R.sm (same_mk nx nd), hlz, by rw [e]; exact hG, planE_use nx nd R fun v o H' s' hv => k v zs o H' (s1.trans s') hv e⟩
  exact (G.raw (F.binds (fun _ _ _ _ _ _ us hl => match us, hl with | [_, _], _ => rfl)) .nil).imp fun vs H Q E h => by rw [List.append_nil]; exact h
end
end SB

set_option maxHeartbeats 4000000
/-! InvalidPlan(word): an exception class whose own __init__ says super().__init__(word), then self.word = word. -/
namespace SBX
open PySem PySem.W PySem.Calls PyProof.Rows PySem.HandSPX
open SB (s_InvalidPlan_init)
abbrev veInit : String := "ValueError.__init__"
section
variable {prog : Program} {w : World} {A : Around} {E : Value → Shared → Prop} {h : Heap} {g : Array GenState} {d : Drawn} {t : Nat} {os : OsState}
variable {nm q : Str} {C N : Addr} {bs bm : List Value} {hd : Bool} {sn : List Str} {sub : List Value} {ab : Bool} {col : Option Bool} {dd : Option Addr} {k0 k1 k2 k3 k5 : Option Value}
/-- the bound ValueError.__init__ called -/
theorem vw_call {u e t0 : Addr} {rest : List Value} {Q : Value → Shared → Prop} (hC : h.get? C = some (excClassObj nm q C N bs bm hd sn sub ab col dd k0 k1 k2 k3 k5 "ValueError.__new__")) (he : h.get? e = some (excO C t0)) (hu : h.get? u = some (kxs_mw veInit e)) (hrest : rest.length ≤ sizeLine)
    (hq : ∀ h' t1, (∀ b o, b ≠ e → h.get? b = some o → h'.get? b = some o) → h'.get? e = some (excO C t1) → Q .none ⟨h', g, d, t, os⟩) : wpAny (model prog w) A (call (.ref u) rest) Q E ⟨h, g, d, t, os⟩ := by
  have m1 : (Value.type "method-wrapper" == Value.type "method" || Value.type "method-wrapper" == Value.type "builtin_function_or_method" || Value.type "method-wrapper" == Value.type "method-wrapper") = true := by decide
  refine wpAny_call (codeAny_of_tree (show wpAny _ A.in1 (callAny (.ref u) ⟨rest, []⟩) _ _ _ from ?_))
  simp only [callAny]
  refine wpAny_bind (wpAny_load hu ?_)
  simp only [kxs_mw, m1, if_true]
  refine W.KFB.if_so (by decide) (wpAny_bind (check_bound_init F.excBase_ValueError.toExcCallFacts hC he rfl (wpAny_bind (wpAny_pure (wpAny_pure ?_)))))
  refine ⟨Code.quiet_builtin _ (by decide +kernel), codeAny_builtin F.excBase_ValueError.initEntry ?_⟩
  rw [Around.under_plainId F.excBase_ValueError.init.plain _]
  wp_walk
  exact hq _ h.objs.size (fun b o hb ho => (Heap.get?_update_other _ _ (Ne.symm hb)).trans (Heap.get?_push_of_some _ ho)) ((Heap.get?_update_self _ (Heap.get?_push_of_some _ he) rfl).trans rfl)
end
/-- what the written part says of InvalidPlan, at C, and of its __init__, at fI -/
structure IpTxt (prog : Program) (K : Frag) (mg : Str → Option Value) (C fI cc cda : Addr) : Prop where
  gC : mg "InvalidPlan" = some (.ref C)
  gS : mg "super" = none
  cls : ∃ nm q N bs bm sn sub ab col dd k0 k1 k2 k3 k5, K.lookup C = some (excClassObj nm q C N bs bm true sn sub ab col dd k0 k1 k2 k3 k5 "ValueError.__new__") ∧ refsVE bm = true
  sa : findIn K (.ref C) "__setattr__" = some (some (.builtin "object.__setattr__"))
  noW : findIn K (.ref C) "word" = some none
  iC : findIn K (.ref C) "__init__" = some (some (.ref fI))
  tC : typeIn K (.ref fI) = some (.type "function")
  kC : keepIn K (.ref C) = true
  exC : subIn K (.ref C) (.type "BaseException") = some true
  tyC : typeIn K (.ref C) = some (.type "type")
  te : exmOne K (.ref C) (.ref C) = some true
  sup : ks_superIn K C C "__init__" = some (some (.builtin veInit))
  ve : subIn K (.ref C) (.type "ValueError") = some true
  st : nsIn K cStatics "thirdparty.any" = some none
  me : mroIn K C (.ref C) = some true
  fn : ∃ (oc : Value) (od : Option Addr) (doc pm : Value) (an : Option Addr) (ct : Value) (osl : Array (Option Value)),
    K.lookup fI = some ⟨oc, od, .func (ksFn "__init__" "InvalidPlan.__init__" (L2.defArgs s_InvalidPlan_init) (L2.defBody s_InvalidPlan_init) (L2.defScope s_InvalidPlan_init) .none .none doc pm an (.ref cda) ct cc), osl⟩ ∧ codeIn K (.ref cda) "InvalidPlan.__init__" = true
  cell : ∃ (cl : Value) (cld : Option Addr) (csl : Array (Option Value)), K.lookup cc = some ⟨cl, cld, .cell (some (.ref C)), csl⟩
  code : ∃ (ccl : Value) (cdd : Option Addr) (vs : Array Value) (ccs : Array (Option Value)) (file : Str) (tf : Tok), K.lookup cda = some ⟨ccl, cdd, .fields vs, ccs⟩ ∧ vs[2]? = some (.str file tf) ∧ ((prog.main.file : Str) == file) = true
  top : (prog.main.scope.names.lookup ("super" : Str)).isSome = false
/-- what __init__ leaves of a fresh exception at x -/
structure InitEnd (h h' : Heap) (x C dx t1 : Addr) (v : Value) : Prop where
  keep : ∀ b o, b ≠ x → h.get? b = some o → h'.get? b = some o
  obj : h'.get? x = some { cls := .ref C, dict := some dx, data := .fields #[.ref t1, .none, .none, .none, .bool false, .none] }
  dbig : h.objs.size ≤ dx
  dne : dx ≠ x
  ns : h'.Ns1 dx (fun y => if y = "word" then some v else none)
theorem one_fits (v : Value) : [v].length ≤ sizeLine := by rw [sizeLine_eq]; exact (by decide : 1 ≤ 16777216)
section
variable {prog : Program} {w : World} {A : Around} {E : Value → Shared → Prop} {R : Result → Shared → Prop} {s : Shared} {K : Frag} {mg : Str → Option Value} {C fI cc cda : Addr}
theorem ip_init (T : IpTxt prog K mg C fI cc cda) {x t0 : Addr} {v : Value} (X : K.In s.heap) (hG : s.heap.Ns mainGlobals mg) (hB : ∃ mb, s.heap.Ns builtinsNs mb ∧ ∀ x : Str, x ≠ "__name__" → mb x = bootBuiltins x) (hlim : s.heap.NoLimit) (hx : s.heap.get? x = some (excO C t0)) (hnx : K.lookup x = none) (hroom : A.depth < recursionLimit)
    (hq : ∀ h' tk dx t1, InitEnd s.heap h' x C dx t1 v → R (.ok (.ret .none)) { s with heap := h', toks := tk }) :
    codeAny (model prog w) A (.call (.ref fI) ⟨[.ref x, v], []⟩) R s := by
  obtain ⟨oc, od, doc, pm, an, ct, osl, ho, hcd⟩ := T.fn
  obtain ⟨nm, q, N, bs, bm, sn, sub, ab, col, dd, k0, k1, k2, k3, k5, hC, hbm⟩ := T.cls
  obtain ⟨cl, cld, csl, hcell⟩ := T.cell
  obtain ⟨ccl, cdd, vs, ccs, file, tf, hcode, hvs, hfile⟩ := T.code
  obtain ⟨mb, hB1, hB2⟩ := hB
  have hcl : clsIn K C = some { name := nm, bases := bs, mro := .ref C :: bm, ns := N, qualname := q, hasDict := true, slotNames := sn, subclasses := sub, abstract := ab, collection := col, hasDel := false } := by unfold clsIn; rw [hC]
  refine ks_codeAny_call_defAt (binds := [("self", .ref x), ("word", v)]) hroom (X _ _ ho) rfl hlim (codeRec_of X hcd) rfl (BindsTo.of_eq (by first | rfl | with_unfolding_all rfl)) (by show ∀ x ∈ (L2.defScope s_InvalidPlan_init).names, x.2 ≠ .cell; decide +kernel) ?_ (fun h₀ hns hk => ?_) rfl rfl rfl
  · intro y hy
    rcases List.mem_cons.mp hy with rfl | hy
    · rfl
    · rw [List.mem_singleton.mp hy]; rfl
  have X0 : K.In h₀ := X.keeps hk
  have hx0 := hk _ _ hx
  have hxL : s.heap.objs.size ≠ x := Nat.ne_of_gt (Heap.lt_size hx)
  obtain ⟨hp, g, dr, tk, os⟩ := s
  refine ks_wpAt_execs_cons (ks_wpAt_Expr_any (ks_wpAt_MethodCall ?_))
  refine ks_wpAt_super_base (f := fI) (cc := cda) rfl rfl (by decide) rfl (X0 _ _ ho) rfl rfl rfl (X0 _ _ hcode) rfl hvs hfile T.top ?_
  have I0 : InstAt h₀ x (excO C t0) C none := ⟨hx0, rfl, rfl, trivial⟩
  refine ks_loadName_global rfl rfl (Calls.loadGlobal_builtin (hG.keeps hk) T.gS (hB1.keeps hk) ((hB2 _ (by decide)).trans rfl) ⟨rfl, ?_⟩)
  refine wpAny_loadName_free rfl rfl rfl ⟨_, X0 _ _ hcell, rfl⟩ ?_
  refine wpAny_loadName_local rfl rfl hns rfl ?_
  refine ks_wpAny_isType_cls (X0 _ _ hC) rfl ⟨rfl, ?_⟩
  refine ks_wpAny_call_super (X0 _ _ hC) rfl I0.at_ I0.cls (fun c e => by cases e) (looks_mroIn X0 T.me) (fun h1 e1 k1 => ?_)
  have X1 : K.In h1 := X0.keeps k1
  have I1 : InstAt h1 x (excO C t0) C none := ⟨k1 _ _ hx0, rfl, rfl, trivial⟩
  have hsup : alongIn K "__init__" (((Value.ref C :: bm).dropWhile (· != .ref C)).drop 1) = some (some (.builtin veInit)) := by
    have z := T.sup
    unfold ks_superIn at z
    rw [hcl] at z
    exact z
  refine kxs_getMethod kxs_ValueError e1 (looks_opaque X1 T.st) (l₀ := .ref C :: bm) (fun A Q E s k q => wpAny_bind ((looks_clsIn X1 hcl) A _ E s k (wpAny_pure q))) rfl X1 hsup (I1.type.andThen (looks_subIn X1 T.ve)) (ks_ne X1 I1 hcl) (by decide) ?_
  have k2 : ∀ b o, h1.get? b = some o → (h1.push (kxs_mw veInit x)).get? b = some o := fun b o e => Heap.get?_push_of_some _ e
  have hu : (h1.push (kxs_mw veInit x)).get? h1.objs.size = some (kxs_mw veInit x) := Heap.get?_push_at rfl rfl
  refine kxs_callWith (i := veInit) (x := x) rfl (evalArgs_plain (spliced_cons (ESX.ldL (hns.keeps fun b o e => k2 b o (k1 b o e)) rfl (spliced_nil ⟨hu, ?_⟩))))
  have k12 : ∀ b o, hp.get? b = some o → (h1.push (kxs_mw veInit x)).get? b = some o := fun b o e => k2 b o (k1 b o (hk b o e))
  refine vw_call (k12 _ _ (X _ _ hC)) (k12 _ _ hx) hu (one_fits v) (fun h2 t1 kk hx2 => ?_)
  have xL : x ≠ hp.objs.size := fun z => hxL z.symm
  have X2 : K.In h2 := fun a o e => by
    by_cases z : a = x
    · rw [z, hnx] at e; cases e
    · exact kk a o z (k12 a o (X _ _ e))
  have hns2 : h2.Ns hp.objs.size (fun y => ([(("self" : Str), Value.ref x), (("word" : Str), v)] : List (Str × Value)).reverse.lookup y) := hns.at fun o e => kk _ o (fun z => xL z.symm) (k2 _ _ (k1 _ _ e))
  refine wpAt_of_wpAny (wpAny_execs_cons (plainObj_wpAny_Assign_Attribute (ESX.ldL hns2 rfl (ESX.ldL hns2 rfl (set_plain X2 (ox := excO C t1) (od := none) ⟨hx2, rfl, rfl, trivial⟩ T.sa ?_)))))
  refine exc_osa X2 hx2 hcl (show refsVE (.ref C :: bm) = true from hbm) rfl T.noW (fun h3 tk3 dx k3 dn dne hx3 hn3 => ?_)
  have lt2 : hp.objs.size ≤ h2.objs.size := by
    obtain ⟨_, _, _, e, _⟩ := hns2
    exact Nat.le_of_lt (Heap.lt_size e)
  exact wpAny_execs_nil (hq h3 tk3 dx t1 ⟨fun b o hb e => k3 b o hb (kk b o hb (k12 b o e)), hx3, Nat.le_trans lt2 dn, dne, hn3⟩)
/-- a made InvalidPlan -/
structure OwnMade (h h' : Heap) (e C d : Addr) (v : Value) : Prop where
  keep : ∀ b o, h.get? b = some o → h'.get? b = some o
  new : h.objs.size ≤ e
  obj : ∃ oe vs, h'.get? e = some oe ∧ oe.cls = .ref C ∧ oe.dict = some d ∧ oe.data = .fields vs ∧ vs[1]? = some .none
  dbig : h.objs.size ≤ d
  dne : d ≠ e
  ns : h'.Ns1 d (fun y => if y = "word" then some v else none)
theorem ip_made (T : IpTxt prog K mg C fI cc cda) {v : Value} (X : K.In s.heap) (hG : s.heap.Ns mainGlobals mg) (hB : ∃ mb, s.heap.Ns builtinsNs mb ∧ ∀ x : Str, x ≠ "__name__" → mb x = bootBuiltins x) (hlim : s.heap.NoLimit) (hroom : A.depth + 1 < recursionLimit)
    (hq : ∀ h' tk e d, OwnMade s.heap h' e C d v → R (.ok (.ret (.ref e))) { s with heap := h', toks := tk }) :
    codeAny (model prog w) A (.call (.ref C) ⟨[v], []⟩) R s := by
  obtain ⟨nm, q, N, bs, bm, sn, sub, ab, col, dd, k0, k1, k2, k3, k5, hC, hbm⟩ := T.cls
  obtain ⟨mb, hB1, hB2⟩ := hB
  obtain ⟨hp, g, dr, tk, os⟩ := s
  have k : ∀ b o, hp.get? b = some o → ((hp.push (kdv_tup [v])).push (excO C hp.objs.size)).get? b = some o := fun b o e => Heap.get?_push_of_some _ (Heap.get?_push_of_some _ e)
  have hget : ((hp.push (kdv_tup [v])).push (excO C hp.objs.size)).get? (hp.objs.size + 1) = some (excO C hp.objs.size) := by heap_get
  have hnx : K.lookup (hp.objs.size + 1) = none := by
    cases e : K.lookup (hp.objs.size + 1) with
    | none => rfl
    | some o => exact absurd (Nat.lt_of_succ_lt (Heap.lt_size (X _ _ e))) (Nat.lt_irrefl _)
  refine call_own F.excBase_ValueError (fun X => refsVE_contains X bm hbm) (X _ _ hC) (looks_findIn X T.iC) (fun self => bind_fn X self T.tC) (one_fits v) ?_
  refine ip_init (s := ⟨(hp.push (kdv_tup [v])).push (excO C hp.objs.size), g, dr, tk, os⟩) T (X.keeps k) (hG.keeps k) ⟨mb, hB1.keeps k, hB2⟩ (hlim.keeps k) hget hnx hroom fun h' tk' dx t1 M => ?_
  obtain ⟨k', hx, dn, dne, hns⟩ := M
  have old : ∀ b o, hp.get? b = some o → h'.get? b = some o := fun b o e => k' b o (Nat.ne_of_lt (Nat.lt_succ_of_lt (Heap.lt_size e))) (k b o e)
  have z : hp.objs.size ≤ dx := by
    refine Nat.le_trans ?_ dn
    show hp.objs.size ≤ ((hp.push (kdv_tup [v])).push (excO C hp.objs.size)).objs.size
    rw [Heap.size_push, Heap.size_push]; omega
  exact ⟨rfl, hq h' tk' (hp.objs.size + 1) dx ⟨old, Nat.le_succ _, ⟨_, _, hx, rfl, rfl, rfl, rfl⟩, z, dne, hns⟩⟩
end
end SBX
namespace SB
open PySem PySem.Spec PyProof.Rows L2
theorem relO_word {v : V} {v' : Value} (r : RelV v v') (f : Str) : RelO (List.lookup f [(("word" : Str), v)]) (if f = "word" then some v' else none) := relO_put (fs := []) (mA := fun _ => none) r (fun _ => trivial) f
section
variable {X : Cx} {C fI cc cda : Addr}
/-- InvalidPlan(e) -/
def tMkIp (C : Addr) (ta : TA) : Sg → Hp → XK → Prop := fun σ H Q => ta σ H fun vs H1 => ∃ v, vs = [v] ∧ ∀ d, H1 d = none → Q (.ref C) (some d) (upd H1 d (.xd [(("word" : Str), v)]))
theorem pmk_ip {a : Expr} {ta : TA} {p pos : Pos} {k : Nat} (T : SBX.IpTxt X.prog X.K X.mg C fI cc cda) (hr : Room k X.A) (ha : PA X [a] ta) (hg : Gl X "InvalidPlan" := by rfl)
    (he : starEach (a :: []) X.env = (false, eval a X.env) :: starEach [] X.env := by rfl) (hpl : (backTo pos (starEach [] X.env)).any (·.1) = false := by rfl) : PMk X (.Call (.Name "InvalidPlan" p) [a] [] pos) (tMkIp C ta) := by
  intro pins s σ H Q I h
  refine wpAny_Call_Name_kw (ld_glob I hg T.gC (PySem.W.callWith_K (h₀ := X.base) I.ok.mod.kin T.kC (thn (ha.run pos pins s σ H _ I h) ?_) he hpl))
  rintro us s1 ⟨vs, H1, I1, r1, v, rfl, q1⟩
  refine ⟨I1.kIn, ?_⟩
  obtain ⟨v', rfl, rv⟩ := r1.one
  have hlim := I1.nolimit
  obtain ⟨mb, hb1, hb2⟩ := I1.mod.blt
  have hG := I1.mod.glob.keeps I1.bk
  have hB := hb1.keeps I1.bk
  obtain ⟨hp, g, dr, tk, os⟩ := s1
  refine wpAny_call (SBX.ip_made T I1.kIn hG ⟨mb, hB, hb2⟩ hlim (by have := hr.dp; omega) fun h' tk' e d M => (show MkP X pins σ Q (.ref e) ⟨h', g, dr, tk', os⟩ from ?_))
  obtain ⟨oe, fv, hoe, hc, hd, hdat, h1⟩ := M.obj
  obtain ⟨G', g1, g2⟩ := restrict h' fun b => decide (b ≠ e)
  have gk : ∀ b, b ≠ e → G'.get? b = h'.get? b := fun b hb => g1 b (decide_eq_true hb)
  have ge : G'.get? e = none := g2 e (by simp)
  have old : ∀ b o, hp.get? b = some o → G'.get? b = some o := fun b o q => (gk b (Nat.ne_of_lt (Nat.lt_of_lt_of_le (Heap.lt_size q) M.new))).trans (M.keep b o q)
  have J : Inv X pins σ (upd H1 d (.xd [(("word" : Str), v)])) ⟨G', g, dr, tk', os⟩ := I1.laid (t' := tk') old M.dbig ⟨_, M.ns.at (fun o q => (gk d M.dne).trans q), fun f => relO_word rv f⟩
  refine ⟨e, oe, fv, ⟨G', g, dr, tk', os⟩, _, .ref C, some d, rfl, J, fun b o q => ?_, ge, hoe, ⟨hc, hd⟩, hdat, h1, ?_, rfl, I1.bare, raises_own T.exC T.tyC, q1 d (I1.hok.fresh M.dbig)⟩
  · by_cases hb : b = e
    · have q' : G'.get? b = some o := q
      rw [hb, ge] at q'; cases q'
    · exact (gk b hb).symm.trans q
  · rw [upd_ne (Ne.symm M.dne)]
    exact I1.hok.fresh M.new
/-- raise InvalidPlan(e) -/
def tRaiseIp (C : Addr) (W : WX) (ta : TA) : TS := fun _ σ H => tMkIp C ta σ H fun cls d H' => W cls d σ H'
theorem ps_raiseIp {a : Expr} {ta : TA} {W : WX} {p pos pos2 : Pos} {k : Nat} (hc : X.calm = true) (T : SBX.IpTxt X.prog X.K X.mg C fI cc cda) (hr : Room k X.A) (tk : Takes X W) (ha : PA X [a] ta) (hg : Gl X "InvalidPlan" := by rfl)
    (he : starEach (a :: []) X.env = (false, eval a X.env) :: starEach [] X.env := by rfl) (hpl : (backTo pos (starEach [] X.env)).any (·.1) = false := by rfl) :
    PS X (.Raise (some (.Call (.Name "InvalidPlan" p) [a] [] pos)) none pos2) (tRaiseIp C W ta) := ps_raise hc tk (pmk_ip T hr ha hg he hpl)
end
end SB

set_option maxHeartbeats 2000000
namespace SB
open PySem PySem.Spec PyProof.Rows L2
open C8 (Cal Mak Met pe_c pe_mk pe_mt pe_mt0 pe_gc InsC call_isC)

section
variable {X : Cx} {CX : CXT} {k : Nat} {C f : Addr} {m : Str} {fd : FuncData} {ps : List Str} {sp : Sp} {E : Sg → XK} {o e : Expr} {es : List Expr} {ta : TE} {t : TA} {apos pos : Pos}
/-- o.m(e, ..), what it lets out told by the state -/
def tMethE (C : Addr) (m : Str) (sp : Sp) (E : Sg → XK) (ta : TE) (t : TA) : TE := fun σ H Q => ta σ H fun x H1 => ∃ a dx fs, x = .ref a ∧ H1 a = some (.ins C dx fs) ∧ fs.lookup m = none ∧ t σ H1 fun vs H2 => sp (x :: vs) H2 Q (E σ)
theorem pe_methE {pl : Sem Bool} (he : PE X o ta) (c : Cls X.K C) (hm : Meth X.K C m f) (F : FnOk X.prog X.w X.K X.mg X.base CX k f fd ps sp) (hr : Room k X.A) (hb : Binds X.K fd ps []) (hx : ∀ σ, PassesAt CX X σ (E σ)) (ha : PA X (e :: es) t)
    (hst : starEach (e :: es) X.env = (false, eval e X.env) :: starEach es X.env := by rfl) (hpl : (backTo pos (starEach es X.env)).any (·.1) = false := by rfl)
    (ht : eval (.Call (.Attribute o m apos) (e :: es) [] pos) X.env = (do
      let ov ← eval o X.env
      standAt apos.atName
      let (f, first) ← holding [ov] (getMethod ov m pl)
      callWith pos f first (backTo pos (starEach (e :: es) X.env)) (backToKw pos (keywordEach [] X.env))) := by rfl) :
    PE X (.Call (.Attribute o m apos) (e :: es) [] pos) (tMethE C m sp E ta t) := ⟨fun pins s σ H Q I h => by
  refine PySem.W.methodCall_KW (pl := pl) (thn (he.run pins s σ H _ I h) ?_) ht
  rintro u s1 ⟨x, H1, I1, rx, a, dx, fs, rfl, ea, l, q⟩
  cases rx
  refine getmeth_ok I1 ea c hm l (PySem.W.callWith_K (first := [.ref a]) (h₀ := X.base) I.ok.mod.kin hm.kp (thn (ha.run pos pins s1 σ H1 _ I1 q) ?_) hst hpl)
  rintro us s2 ⟨vs, H2, I2, r, q2⟩
  exact ⟨I2.kIn, run_fnS (us := .ref a :: us) (vs := .ref a :: vs) F hr hb (hx σ) I2 (.cons rfl r) q2⟩⟩
/-- a tuple's part: a new tuple, or itself -/
def rSlS (K : PySem.W.Frag) : V → Option Int → Option Int → Hp → VK → Prop := fun x lo hi H Q => ∃ a xs, x = .ref a ∧ SqT K H a xs ∧ ∀ t H', Same H H' → SqT K H' t (cutW xs lo hi) → Q (.ref t) H'
theorem sl_tupS : SlR X (rSlS X.K) := by
  rintro pins s σ H x v vl vu lo hi sl Q I rx hs pl pu ⟨a, xs, rfl, S, k⟩
  refine sl_tupA pins s σ H _ v vl vu lo hi sl Q I rx hs pl pu ⟨a, xs, rfl, S, fun ⟨h1, h2⟩ => k a H (Same.refl _) ?_, fun _ p np => k p _ (Sn np) (SqT.of upd_same)⟩
  have e : cutW xs lo hi = xs := by
    unfold cutW
    rw [h1, h2, List.drop_zero, Nat.sub_zero, List.take_length]
  rw [e]; exact S
end
structure Qx (prog : Program) (K : PySem.W.Frag) (mg : Str → Option Value) (c : Cs) : Prop where
  r : Rx K mg c
  ip : ∃ fI cc cda, SBX.IpTxt prog K mg c.ip fI cc cda
  without : MetF K c.plan "without" "Plan.without" s_Plan_without
section
variable {P' : Program} {w : World} {K : PySem.W.Frag} {mg : Str → Option Value} {base : Heap}
variable {c : Cs}
def spPlanX (c : Cs) (K : PySem.W.Frag) : Sp := fun vs H Q E => ∃ (x dx a : Addr) (zs : List VR), vs = [.ref x, .ref a] ∧ H x = some (.ins c.plan dx []) ∧ SqA K H a (zs.map (·.1)) ∧ RowsAt c K H zs ∧ zs.length ≤ 1000 ∧ PlanE c K x dx H zs Q ∧ ∀ H' d, But x H H' → E (.ref c.ip) (some d) H'
theorem init_planX (Z : Qx P' K mg c) {f : Addr} {fd : FuncData} (F : FunD K "__init__" "Plan.__init__" (defArgs s_Plan_init) (defBody s_Plan_init) (defScope s_Plan_init) [] [] f fd) : FnOk P' w K mg base (L2.CX P' w) 4 f fd ["self", "rows"] (spPlanX c K) := by
  have P := Z.r.m.p.w
  have U := P.v.u
  have Y := U.z.y
  have T := Y.x
  obtain ⟨fI, cc, cda, IT⟩ := Z.ip
  refine F.ok sc_Plan_init (fun vs H Q E h => ?_) (fun cdv A outer s H vs Q E hr h => ?_)
  · obtain ⟨x, dx, a, zs, rfl, _⟩ := h
    rfl
  · obtain ⟨x, dx, a, zs, rfl, hx, S, R, sz, k, kE⟩ := h
    refine ⟨_, (pss_cons (ps_if (PW.pt (pw_or (pt_not (pt_val (pe_c (c_is_sequence T) hr (by decide) (by rfl) (pa_cons (pv 1) pa_nil)))) (pw_or1 (pt_not (pt_val (pe_callB (cr_all rfl) (by rfl) T.m_all (by decide +kernel) (pa_cons (pe_lx (own := [("row", 3)]) (g := gName 3) (tt := tYes) (by rfl) sc_Plan_init.nd (pi_seq (pv 1)) (blkOk_by (N := n_Plan_init) (sc := defScope s_Plan_init) (by decide +kernel)) (fun _ _ _ _ _ => pg_name (i := 3) sc_Plan_init.nd rfl (Or.inl rfl)) (fun _ _ _ _ _ => pts_nil) (fun _ _ _ _ _ => (pe_callB (r := rIsR K c c.row (fun _ => true)) (call_isR U U.of_row) (by rfl) T.m_isinstance (by decide +kernel) (pa_cons (pv 3) (pa_cons (pe_gc (v := .ref c.row) (by rfl) ⟨_, U.n_row, rfl⟩) pa_nil))))) pa_nil))))))) (pss_one ps_never) pss_nil) (pss_cons (ps_set (i := 2) sc_Plan_init.nd rfl (Or.inl rfl) (pe_c (c_fault_of U) hr (by decide) (by rfl) (pa_cons (pv 1) pa_nil))) (pss_cons (ps_if (pt_cmpR op_notN (pv 2) pe_non (nomark _)) (pss_one (ps_raiseIp (W := fun cls d _ H => E cls d H) rfl IT hr (takes_of rfl rfl rfl rfl) (pa_cons (pv 2) pa_nil))) pss_nil) (pss_cons (ps_fn (ks := []) (pv 0) (pe_callTy call_tupA (by rfl) T.m_tuple (by decide +kernel) (pa_cons (pv 1) pa_nil)) P.k_plan.cl (P.k_plan.na "rows" (by decide +kernel)) (by decide +kernel) (by decide +kernel)) (pss_cons (ps_fn (ks := ["rows"]) (pv 0) (pe_callTy call_tupA (by rfl) T.m_tuple (by decide +kernel) (pa_cons (pe_lx (own := [("row", 3)]) (g := gName 3) (by rfl) sc_Plan_init.nd (pi_seq (pv 1)) (blkOk_by (N := n_Plan_init) (sc := defScope s_Plan_init) (by decide +kernel)) (fun _ _ _ _ _ => pg_name (i := 3) sc_Plan_init.nd rfl (Or.inl rfl)) (fun _ _ _ _ _ => pts_one (pt_val (pe_callB (r := rIsR K c c.mode isMode) (call_isR U U.of_mode) (by rfl) T.m_isinstance (by decide +kernel) (pa_cons (pv 3) (pa_cons (pe_gc (v := .ref c.mode) (by rfl) ⟨_, U.n_mode, rfl⟩) pa_nil))))) (fun _ _ _ _ _ => (pe_fo (ks := kMode) 0 (pv 3) Y.k_mode.cl (Y.k_mode.na "name" (by decide +kernel)) (by decide +kernel)))) pa_nil)) P.k_plan.cl (P.k_plan.na "modes" (by decide +kernel)) (by decide +kernel) (by decide +kernel)) (pss_cons (ps_fn (ks := ["rows", "modes"]) (pv 0) (pe_callTy call_tupA (by rfl) T.m_tuple (by decide +kernel) (pa_cons (pe_lx (own := [("row", 3)]) (g := gName 3) (by rfl) sc_Plan_init.nd (pi_seq (pv 1)) (blkOk_by (N := n_Plan_init) (sc := defScope s_Plan_init) (by decide +kernel)) (fun _ _ _ _ _ => pg_name (i := 3) sc_Plan_init.nd rfl (Or.inl rfl)) (fun _ _ _ _ _ => pts_one (pt_val (pe_callB (r := rIsR K c c.first isFirst) (call_isR U U.of_first) (by rfl) T.m_isinstance (by decide +kernel) (pa_cons (pv 3) (pa_cons (pe_gc (v := .ref c.first) (by rfl) ⟨_, U.n_first, rfl⟩) pa_nil))))) (fun _ _ _ _ _ => (pe_fo (ks := kFirst) 0 (pv 3) Y.k_first.cl (Y.k_first.na "place" (by decide +kernel)) (by decide +kernel)))) pa_nil)) P.k_plan.cl (P.k_plan.na "firsts" (by decide +kernel)) (by decide +kernel) (by decide +kernel)) (pss_cons (ps_fn (ks := ["rows", "modes", "firsts"]) (pv 0) (pe_callTy call_tupA (by rfl) T.m_tuple (by decide +kernel) (pa_cons (pe_lx (own := [("row", 3)]) (g := gName 3) (by rfl) sc_Plan_init.nd (pi_seq (pv 1)) (blkOk_by (N := n_Plan_init) (sc := defScope s_Plan_init) (by decide +kernel)) (fun _ _ _ _ _ => pg_name (i := 3) sc_Plan_init.nd rfl (Or.inl rfl)) (fun _ _ _ _ _ => pts_one (pt_val (pe_callB (r := rIsR K c c.turn isTurn) (call_isR U U.of_turn) (by rfl) T.m_isinstance (by decide +kernel) (pa_cons (pv 3) (pa_cons (pe_gc (v := .ref c.turn) (by rfl) ⟨_, U.n_turn, rfl⟩) pa_nil))))) (fun _ _ _ _ _ => (pv 3))) pa_nil)) P.k_plan.cl (P.k_plan.na "turns" (by decide +kernel)) (by decide +kernel) (by decide +kernel)) (pss_cons (ps_fn (ks := ["rows", "modes", "firsts", "turns"]) (pv 0) (pe_c (c_ascending T) hr (by decide) (by rfl) (pa_cons (pe_lx2 (own := [("row", 3), ("place", 4)]) (vs1 := [4]) (g := gName 3) (g1 := gName 4) (tt := tYes) (tt1 := tYes) (wi1 := iSeq K (tCall (spRowL c K placesD) [] C8.E0 (tCons (tVar 3) tNil))) (by rfl) sc_Plan_init.nd (pi_seq (pv 1)) (blkOk_by (N := n_Plan_init) (sc := defScope s_Plan_init) (by decide +kernel)) (by decide) (fun _ _ _ _ _ => pg_name (i := 3) sc_Plan_init.nd rfl (Or.inl rfl)) (fun _ _ _ _ _ => pts_nil) (fun _ _ _ _ _ => pi_seq (pe_c (c_places_in U) hr (by decide) (by rfl) (pa_cons (pv 3) pa_nil))) (fun _ _ _ _ _ => pg_name (i := 4) sc_Plan_init.nd rfl (Or.inl rfl)) (fun _ _ _ _ _ => pts_nil) (fun _ _ _ _ _ => pv 4)) pa_nil)) P.k_plan.cl (P.k_plan.na "places" (by decide +kernel)) (by decide +kernel) (by decide +kernel)) (pss_cons (ps_fn (ks := ["rows", "modes", "firsts", "turns", "places"]) (pv 0) (pe_c (c_ascending T) hr (by decide) (by rfl) (pa_cons (pe_lx2 (own := [("row", 3), ("phase", 5)]) (vs1 := [5]) (g := gName 3) (g1 := gName 5) (tt := tYes) (tt1 := tYes) (wi1 := iSeq K (tCall (spRowL c K phasesD) [] C8.E0 (tCons (tVar 3) tNil))) (by rfl) sc_Plan_init.nd (pi_seq (pv 1)) (blkOk_by (N := n_Plan_init) (sc := defScope s_Plan_init) (by decide +kernel)) (by decide) (fun _ _ _ _ _ => pg_name (i := 3) sc_Plan_init.nd rfl (Or.inl rfl)) (fun _ _ _ _ _ => pts_nil) (fun _ _ _ _ _ => pi_seq (pe_c (c_phases_in U) hr (by decide) (by rfl) (pa_cons (pv 3) pa_nil))) (fun _ _ _ _ _ => pg_name (i := 5) sc_Plan_init.nd rfl (Or.inl rfl)) (fun _ _ _ _ _ => pts_nil) (fun _ _ _ _ _ => pv 5)) pa_nil)) P.k_plan.cl (P.k_plan.na "phases" (by decide +kernel)) (by decide +kernel) (by decide +kernel)) (pss_cons (ps_fn (ks := ["rows", "modes", "firsts", "turns", "places", "phases"]) (pv 0) (pe_c (c_ascending T) hr (by decide) (by rfl) (pa_cons (pe_lx2 (own := [("row", 3), ("mark", 6)]) (vs1 := [6]) (g := gName 3) (g1 := gName 6) (tt := tYes) (tt1 := tYes) (wi1 := iSeq K (tCall (spRowL c K marksD) [] C8.E0 (tCons (tVar 3) tNil))) (by rfl) sc_Plan_init.nd (pi_seq (pv 1)) (blkOk_by (N := n_Plan_init) (sc := defScope s_Plan_init) (by decide +kernel)) (by decide) (fun _ _ _ _ _ => pg_name (i := 3) sc_Plan_init.nd rfl (Or.inl rfl)) (fun _ _ _ _ _ => pts_nil) (fun _ _ _ _ _ => pi_seq (pe_c (c_marks_in U) hr (by decide) (by rfl) (pa_cons (pv 3) pa_nil))) (fun _ _ _ _ _ => pg_name (i := 6) sc_Plan_init.nd rfl (Or.inl rfl)) (fun _ _ _ _ _ => pts_nil) (fun _ _ _ _ _ => pv 6)) pa_nil)) P.k_plan.cl (P.k_plan.na "marks" (by decide +kernel)) (by decide +kernel) (by decide +kernel)) (pss_one (ps_fn (ks := ["rows", "modes", "firsts", "turns", "places", "phases", "marks"]) (pv 0) (pe_c (c_ascending T) hr (by decide) (by rfl) (pa_cons (pe_lx2 (own := [("row", 3), ("letter", 7)]) (vs1 := [7]) (g := gName 3) (g1 := gName 7) (tt := tYes) (tt1 := tYes) (wi1 := iSeq K (tCall (spRowL c K lettersD) [] C8.E0 (tCons (tVar 3) tNil))) (by rfl) sc_Plan_init.nd (pi_seq (pv 1)) (blkOk_by (N := n_Plan_init) (sc := defScope s_Plan_init) (by decide +kernel)) (by decide) (fun _ _ _ _ _ => pg_name (i := 3) sc_Plan_init.nd rfl (Or.inl rfl)) (fun _ _ _ _ _ => pts_nil) (fun _ _ _ _ _ => pi_seq (pe_c (c_letters_in U) hr (by decide) (by rfl) (pa_cons (pv 3) pa_nil))) (fun _ _ _ _ _ => pg_name (i := 7) sc_Plan_init.nd rfl (Or.inl rfl)) (fun _ _ _ _ _ => pts_nil) (fun _ _ _ _ _ => pv 7)) pa_nil)) P.k_plan.cl (P.k_plan.na "letters" (by decide +kernel)) (by decide +kernel) (by decide +kernel))))))))))))), ?_⟩
    have sz5 : zs.length ≤ 100000 := Nat.le_trans sz (by decide)
    refine ⟨_, rfl, a, _, rfl, S, fun H1 s1 => ⟨true, rfl, iteF ?_⟩⟩
    refine ⟨_, rfl, it_use zs (·.1) (fun _ => some (.bl true)) (samA s1 S) sz5 ?_ ?_⟩
    · intro p Hb N M hp sb kN kM
      exact ⟨rfl, _, rfl, _, _, rfl, (R p hp).1.sm (s1.trans sb), kN _ _ (Same.refl _) rfl⟩
    intro D1 H2 nD1 s2 h1
    rw [fm_bl fun _ => true] at h1
    refine ⟨D1, _, rfl, SqL.of h1, _, rfl, ?_⟩
    have ea : ((zs.map fun _ => true).all id) = true := by rw [List.all_map]; exact List.all_eq_true.mpr fun _ _ => rfl
    rw [ea]
    refine iteF ?_
    have s12 := s1.trans s2
    refine ⟨_, rfl, a, zs, rfl, samA s12 S, R.sm s12, sz, fun H3 fv s3 hfv hG => ?_⟩
    have s13 := s12.trans s3
    rcases hfv with rfl | ⟨fw, rfl⟩
    case inr =>
      refine ⟨_, rfl, rfl, true, rfl, iteT ?_⟩
      exact ⟨_, rfl, _, rfl, fun d nd => kE _ d (But.same (s13.trans (Sn nd)))⟩
    refine ⟨_, rfl, rfl, false, rfl, iteF ?_⟩
    have hx0 := s13 _ _ hx
    have b0 : But x H H3 := But.same s13
    have S0 := samA s13 S
    have R0 := R.sm s13
    have tp0 : Tps K H3 [] := fun p hp => nomatch hp
    refine ⟨_, rfl, a, _, rfl, S0, fun t0 Ha sa st0 _ => ?_⟩
    have hxm0 := sa _ _ hx0
    refine ⟨_, rfl, x, dx, [], rfl, hxm0, rfl, fun G1 eG1 => ?_⟩
    have bb0 : But x H3 G1 := eG1 ▸ (But.same (x := x) sa).upd
    have hx1 : G1 x = some (.ins c.plan dx (ob [("rows" : Str)] [.ref t0])) := by rw [eG1, upd_same]; rfl
    have b1 := b0.trans bb0
    have S1 := sqA_but b1 hx S
    have R1 := rowsAt_but b1 hx R
    have stx0 : SqT K G1 _ _ := eG1 ▸ sqT_ins hxm0 st0
    have tp1 := (tp0.but bb0 hx0).add stx0
    clear eG1
    refine ⟨_, rfl, it_use zs (·.1) (fun p => (modeOf p.2).map fun q => V.str q.1) S1 sz5 ?_ ?_⟩
    · intro p Hb N M hp sb kN kM
      have hr := (R1 p hp).1.sm sb
      obtain ⟨y, dy, t, u, ex, hy⟩ := rowAt_cases hr
      obtain ⟨v, r⟩ := p
      have ex : v = .ref y := ex
      subst ex
      cases r with
      | first q1 => exact ⟨rfl, _, rfl, _, _, rfl, hr, false, rfl, iteF (kM _ (Same.refl _) rfl)⟩
      | mode q1 q2 q3 => exact ⟨rfl, _, rfl, _, _, rfl, hr, true, rfl, iteT ⟨_, rfl, y, dy, _, _, rfl, hy, rfl, kN _ _ (Same.refl _) rfl⟩⟩
      | turn q1 q2 q3 q4 => exact ⟨rfl, _, rfl, _, _, rfl, hr, false, rfl, iteF (kM _ (Same.refl _) rfl)⟩
      | lead q1 q2 q3 q4 q5 => exact ⟨rfl, _, rfl, _, _, rfl, hr, false, rfl, iteF (kM _ (Same.refl _) rfl)⟩
      | house q1 q2 q3 => exact ⟨rfl, _, rfl, _, _, rfl, hr, false, rfl, iteF (kM _ (Same.refl _) rfl)⟩
    intro D2 Hc nD2 sc hD2
    rw [namesOf_eq] at hD2
    refine ⟨D2, _, rfl, lstA hD2, fun t1 Hd sd st1 _ => ?_⟩
    have hxm1 := (sc.trans sd) _ _ hx1
    refine ⟨_, rfl, x, dx, [.ref t0], rfl, hxm1, rfl, fun G2 eG2 => ?_⟩
    have bb1 : But x G1 G2 := eG2 ▸ (But.same (x := x) (sc.trans sd)).upd
    have hx2 : G2 x = some (.ins c.plan dx (ob [("rows" : Str), ("modes" : Str)] [.ref t0, .ref t1])) := by rw [eG2, upd_same]; rfl
    have b2 := b1.trans bb1
    have S2 := sqA_but b2 hx S
    have R2 := rowsAt_but b2 hx R
    have stx1 : SqT K G2 _ _ := eG2 ▸ sqT_ins hxm1 st1
    have tp2 := (tp1.but bb1 hx1).add stx1
    clear eG2
    refine ⟨_, rfl, it_use zs (·.1) (fun p => (firstOf p.2).map V.str) S2 sz5 ?_ ?_⟩
    · intro p Hb N M hp sb kN kM
      have hr := (R2 p hp).1.sm sb
      obtain ⟨y, dy, t, u, ex, hy⟩ := rowAt_cases hr
      obtain ⟨v, r⟩ := p
      have ex : v = .ref y := ex
      subst ex
      cases r with
      | first q1 => exact ⟨rfl, _, rfl, _, _, rfl, hr, true, rfl, iteT ⟨_, rfl, y, dy, _, _, rfl, hy, rfl, kN _ _ (Same.refl _) rfl⟩⟩
      | mode q1 q2 q3 => exact ⟨rfl, _, rfl, _, _, rfl, hr, false, rfl, iteF (kM _ (Same.refl _) rfl)⟩
      | turn q1 q2 q3 q4 => exact ⟨rfl, _, rfl, _, _, rfl, hr, false, rfl, iteF (kM _ (Same.refl _) rfl)⟩
      | lead q1 q2 q3 q4 q5 => exact ⟨rfl, _, rfl, _, _, rfl, hr, false, rfl, iteF (kM _ (Same.refl _) rfl)⟩
      | house q1 q2 q3 => exact ⟨rfl, _, rfl, _, _, rfl, hr, false, rfl, iteF (kM _ (Same.refl _) rfl)⟩
    intro D3 He nD3 se hD3
    rw [fm_snd firstOf V.str] at hD3
    refine ⟨D3, _, rfl, lstA hD3, fun t2 Hf sf st2 _ => ?_⟩
    have hxm2 := (se.trans sf) _ _ hx2
    refine ⟨_, rfl, x, dx, [.ref t0, .ref t1], rfl, hxm2, rfl, fun G3 eG3 => ?_⟩
    have bb2 : But x G2 G3 := eG3 ▸ (But.same (x := x) (se.trans sf)).upd
    have hx3 : G3 x = some (.ins c.plan dx (ob [("rows" : Str), ("modes" : Str), ("firsts" : Str)] [.ref t0, .ref t1, .ref t2])) := by rw [eG3, upd_same]; rfl
    have b3 := b2.trans bb2
    have S3 := sqA_but b3 hx S
    have R3 := rowsAt_but b3 hx R
    have stx2 : SqT K G3 _ _ := eG3 ▸ sqT_ins hxm2 st2
    have tp3 := (tp2.but bb2 hx2).add stx2
    clear eG3
    refine ⟨_, rfl, it_use zs (·.1) (fun p => if isTurn p.2 = true then some p.1 else none) S3 sz5 ?_ ?_⟩
    · intro p Hb N M hp sb kN kM
      have hr := (R3 p hp).1.sm sb
      obtain ⟨y, dy, t, u, ex, hy⟩ := rowAt_cases hr
      obtain ⟨v, r⟩ := p
      have ex : v = .ref y := ex
      subst ex
      cases r with
      | first q1 => exact ⟨rfl, _, rfl, _, _, rfl, hr, false, rfl, iteF (kM _ (Same.refl _) rfl)⟩
      | mode q1 q2 q3 => exact ⟨rfl, _, rfl, _, _, rfl, hr, false, rfl, iteF (kM _ (Same.refl _) rfl)⟩
      | turn q1 q2 q3 q4 => exact ⟨rfl, _, rfl, _, _, rfl, hr, true, rfl, iteT ⟨_, rfl, kN _ _ (Same.refl _) rfl⟩⟩
      | lead q1 q2 q3 q4 q5 => exact ⟨rfl, _, rfl, _, _, rfl, hr, false, rfl, iteF (kM _ (Same.refl _) rfl)⟩
      | house q1 q2 q3 => exact ⟨rfl, _, rfl, _, _, rfl, hr, false, rfl, iteF (kM _ (Same.refl _) rfl)⟩
    intro D4 Hg nD4 sg hD4
    rw [fm_pick isTurn] at hD4
    refine ⟨D4, _, rfl, lstA hD4, fun t3 Hh sh st3 _ => ?_⟩
    have hxm3 := (sg.trans sh) _ _ hx3
    refine ⟨_, rfl, x, dx, [.ref t0, .ref t1, .ref t2], rfl, hxm3, rfl, fun G4 eG4 => ?_⟩
    have bb3 : But x G3 G4 := eG4 ▸ (But.same (x := x) (sg.trans sh)).upd
    have hx4 : G4 x = some (.ins c.plan dx (ob [("rows" : Str), ("modes" : Str), ("firsts" : Str), ("turns" : Str)] [.ref t0, .ref t1, .ref t2, .ref t3])) := by rw [eG4, upd_same]; rfl
    have b4 := b3.trans bb3
    have S4 := sqA_but b4 hx S
    have R4 := rowsAt_but b4 hx R
    have stx3 : SqT K G4 _ _ := eG4 ▸ sqT_ins hxm3 st3
    have tp4 := (tp3.but bb3 hx3).add stx3
    clear eG4
    refine ⟨_, rfl, lc2_use zs (·.1) (fun p => placesD p.2) S4 sz (fun p hp => len_places (R p hp).2) (fun _ => rfl) (fun _ _ => rfl) (fun _ _ => rfl) ?_ ?_⟩
    · intro p Hb N hp sb kN
      exact ⟨_, rfl, p.1, p.2, rfl, (R4 p hp).1.sm sb, (R p hp).2, fun D Hb2 sb2 nD hD => kN D Hb2 sb2 nD (lstA hD)⟩
    intro E4 Hi4 nE4 si4 hE4
    refine ⟨E4, _, rfl, lstA hE4, Nat.le_trans (flat_len (fun p : VR => placesD p.2) zs fun p hp => len_places (R p hp).2) (by omega), keys_few fun p hp => places_from (R p hp).2, fun t4 y4 Hj4 sj4 nt4 ht4 as4 => ?_⟩
    have st4 : SqT K Hj4 t4 (sv y4) := SqT.of ht4
    rw [flat_snd placesD] at as4
    have hxm4 := (si4.trans sj4) _ _ hx4
    refine ⟨_, rfl, x, dx, [.ref t0, .ref t1, .ref t2, .ref t3], rfl, hxm4, rfl, fun G5 eG5 => ?_⟩
    have bb4 : But x G4 G5 := eG5 ▸ (But.same (x := x) (si4.trans sj4)).upd
    have hx5 : G5 x = some (.ins c.plan dx (ob [("rows" : Str), ("modes" : Str), ("firsts" : Str), ("turns" : Str), ("places" : Str)] [.ref t0, .ref t1, .ref t2, .ref t3, .ref t4])) := by rw [eG5, upd_same]; rfl
    have b5 := b4.trans bb4
    have S5 := sqA_but b5 hx S
    have R5 := rowsAt_but b5 hx R
    have stx4 : SqT K G5 _ _ := eG5 ▸ sqT_ins hxm4 st4
    have tp5 := (tp4.but bb4 hx4).add stx4
    clear eG5
    refine ⟨_, rfl, lc2_use zs (·.1) (fun p => phasesD p.2) S5 sz (fun p hp => len_phases (R p hp).2) (fun _ => rfl) (fun _ _ => rfl) (fun _ _ => rfl) ?_ ?_⟩
    · intro p Hb N hp sb kN
      exact ⟨_, rfl, p.1, p.2, rfl, (R5 p hp).1.sm sb, (R p hp).2, fun D Hb2 sb2 nD hD => kN D Hb2 sb2 nD (lstA hD)⟩
    intro E5 Hi5 nE5 si5 hE5
    refine ⟨E5, _, rfl, lstA hE5, Nat.le_trans (flat_len (fun p : VR => phasesD p.2) zs fun p hp => len_phases (R p hp).2) (by omega), keys_few fun p hp => phases_from (R p hp).2, fun t5 y5 Hj5 sj5 nt5 ht5 as5 => ?_⟩
    have st5 : SqT K Hj5 t5 (sv y5) := SqT.of ht5
    rw [flat_snd phasesD] at as5
    have hxm5 := (si5.trans sj5) _ _ hx5
    refine ⟨_, rfl, x, dx, [.ref t0, .ref t1, .ref t2, .ref t3, .ref t4], rfl, hxm5, rfl, fun G6 eG6 => ?_⟩
    have bb5 : But x G5 G6 := eG6 ▸ (But.same (x := x) (si5.trans sj5)).upd
    have hx6 : G6 x = some (.ins c.plan dx (ob [("rows" : Str), ("modes" : Str), ("firsts" : Str), ("turns" : Str), ("places" : Str), ("phases" : Str)] [.ref t0, .ref t1, .ref t2, .ref t3, .ref t4, .ref t5])) := by rw [eG6, upd_same]; rfl
    have b6 := b5.trans bb5
    have S6 := sqA_but b6 hx S
    have R6 := rowsAt_but b6 hx R
    have stx5 : SqT K G6 _ _ := eG6 ▸ sqT_ins hxm5 st5
    have tp6 := (tp5.but bb5 hx5).add stx5
    clear eG6
    refine ⟨_, rfl, lc2_use zs (·.1) (fun p => marksD p.2) S6 sz (fun p hp => len_marks (R p hp).2) (fun _ => rfl) (fun _ _ => rfl) (fun _ _ => rfl) ?_ ?_⟩
    · intro p Hb N hp sb kN
      exact ⟨_, rfl, p.1, p.2, rfl, (R6 p hp).1.sm sb, (R p hp).2, fun D Hb2 sb2 nD hD => kN D Hb2 sb2 nD (lstA hD)⟩
    intro E6 Hi6 nE6 si6 hE6
    refine ⟨E6, _, rfl, lstA hE6, Nat.le_trans (flat_len (fun p : VR => marksD p.2) zs fun p hp => len_marks (R p hp).2) (by omega), keys_few fun p hp => marks_from (R p hp).2, fun t6 y6 Hj6 sj6 nt6 ht6 as6 => ?_⟩
    have st6 : SqT K Hj6 t6 (sv y6) := SqT.of ht6
    rw [flat_snd marksD] at as6
    have hxm6 := (si6.trans sj6) _ _ hx6
    refine ⟨_, rfl, x, dx, [.ref t0, .ref t1, .ref t2, .ref t3, .ref t4, .ref t5], rfl, hxm6, rfl, fun G7 eG7 => ?_⟩
    have bb6 : But x G6 G7 := eG7 ▸ (But.same (x := x) (si6.trans sj6)).upd
    have hx7 : G7 x = some (.ins c.plan dx (ob [("rows" : Str), ("modes" : Str), ("firsts" : Str), ("turns" : Str), ("places" : Str), ("phases" : Str), ("marks" : Str)] [.ref t0, .ref t1, .ref t2, .ref t3, .ref t4, .ref t5, .ref t6])) := by rw [eG7, upd_same]; rfl
    have b7 := b6.trans bb6
    have S7 := sqA_but b7 hx S
    have R7 := rowsAt_but b7 hx R
    have stx6 : SqT K G7 _ _ := eG7 ▸ sqT_ins hxm6 st6
    have tp7 := (tp6.but bb6 hx6).add stx6
    clear eG7
    refine ⟨_, rfl, lc2_use zs (·.1) (fun p => lettersD p.2) S7 sz (fun p hp => len_letters (R p hp).2) (fun _ => rfl) (fun _ _ => rfl) (fun _ _ => rfl) ?_ ?_⟩
    · intro p Hb N hp sb kN
      exact ⟨_, rfl, p.1, p.2, rfl, (R7 p hp).1.sm sb, (R p hp).2, fun D Hb2 sb2 nD hD => kN D Hb2 sb2 nD (lstA hD)⟩
    intro E7 Hi7 nE7 si7 hE7
    refine ⟨E7, _, rfl, lstA hE7, Nat.le_trans (flat_len (fun p : VR => lettersD p.2) zs fun p hp => len_letters (R p hp).2) (by omega), keys_few fun p hp => letters_from (R p hp).2, fun t7 y7 Hj7 sj7 nt7 ht7 as7 => ?_⟩
    have st7 : SqT K Hj7 t7 (sv y7) := SqT.of ht7
    rw [flat_snd lettersD] at as7
    have hxm7 := (si7.trans sj7) _ _ hx7
    refine ⟨_, rfl, x, dx, [.ref t0, .ref t1, .ref t2, .ref t3, .ref t4, .ref t5, .ref t6], rfl, hxm7, rfl, fun G8 eG8 => ?_⟩
    have bb7 : But x G7 G8 := eG8 ▸ (But.same (x := x) (si7.trans sj7)).upd
    have hx8 : G8 x = some (.ins c.plan dx (ob [("rows" : Str), ("modes" : Str), ("firsts" : Str), ("turns" : Str), ("places" : Str), ("phases" : Str), ("marks" : Str), ("letters" : Str)] [.ref t0, .ref t1, .ref t2, .ref t3, .ref t4, .ref t5, .ref t6, .ref t7])) := by rw [eG8, upd_same]; rfl
    have b8 := b7.trans bb7
    have S8 := sqA_but b8 hx S
    have R8 := rowsAt_but b8 hx R
    have stx7 : SqT K G8 _ _ := eG8 ▸ sqT_ins hxm7 st7
    have tp8 := (tp7.but bb7 hx7).add stx7
    clear eG8
    exact k G8 [t0, t1, t2, t3, t4, t5, t6, t7] ⟨y4, y5, y6, y7⟩ b8 hx8 rfl tp8 ⟨as4, as5, as6, as7⟩
end
end SB

set_option maxHeartbeats 2000000
namespace SB
open PySem PySem.Spec PyProof.Rows L2
open C8 (Cal Mak Met pe_c pe_mk pe_mt pe_mt0 pe_gc InsC call_isC)

theorem cut_app {α : Type} (xs : List α) (i : Nat) : cutW xs none (some (i : Int)) ++ cutW xs (some ((i : Int) + 1)) none = xs.take i ++ xs.drop (i + 1) := by
  rw [cut_to]
  congr 1
  exact cut_from xs (i + 1)
/-- the rows but the i-th -/
def offAt {α : Type} (xs : List α) (i : Nat) : List α := xs.take i ++ xs.drop (i + 1)
theorem off_mem {α : Type} {xs : List α} {i : Nat} {x : α} (h : x ∈ offAt xs i) : x ∈ xs := (List.mem_append.mp h).elim (fun h => List.mem_of_mem_take h) fun h => List.mem_of_mem_drop h
theorem off_map {α β : Type} (f : α → β) (xs : List α) (i : Nat) : (offAt xs i).map f = offAt (xs.map f) i := by
  unfold offAt; rw [List.map_append, List.map_take, List.map_drop]
theorem off_len {α : Type} {xs : List α} {i : Nat} (h : i < xs.length) : (offAt xs i).length = xs.length - 1 := by
  unfold offAt; rw [List.length_append, List.length_take, List.length_drop]; omega
section
variable {P' : Program} {w : World} {K : PySem.W.Frag} {mg : Str → Option Value} {base : Heap}
variable {c : Cs}
def spWithout (c : Cs) (K : PySem.W.Frag) : Sp := fun vs H Q E => ∃ (v : V) (zs : List VR) (o : PV) (i : Nat), vs = [v, .int (i : Int)] ∧ PlanAt c K H v zs o ∧ i < zs.length ∧ zs.length ≤ 100 ∧ (∀ v' o' H', Same H H' → PlanAt c K H' v' (offAt zs i) o' → Q v' H') ∧ ∀ H' d, Same H H' → E (.ref c.ip) (some d) H'
theorem ok_without (Z : Qx P' K mg c) {f : Addr} {fd : FuncData} (F : Fun K "without" "Plan.without" s_Plan_without f fd) : FnOk P' w K mg base (L2.CX P' w) 6 f fd ["self", "at"] (spWithout c K) := by
  have M' := Z.r.m
  have W := M'.p.w
  have T := W.v.u.z.y.x
  obtain ⟨fi, fdi, hmi, Mi, Fi⟩ := W.i_plan
  have G := init_planX (w := w) (base := base) Z Fi
  refine F.okX sc_Plan_without (fun vs H Q E h => ?_) (fun cdv A outer s H vs Q E hr h => ?_)
  · obtain ⟨v, zs, o, i, rfl, _⟩ := h
    rfl
  · obtain ⟨v, zs, o, i, rfl, hp, hi, sz, kQ, kE⟩ := h
    refine ⟨_, (pss_cons (ps_expr (pe_mt (m_need M') hr (by decide) (pv 0) (pa_cons (pv 1) pa_nil))) (pss_one (ps_ret (pe_make (E := E) Mi G hr (by rfl) Z.r.m.p.n_plan (Fi.bindsN (fun _ _ _ _ _ _ us hl => match us, hl with | [_, _], _ => rfl)) .nil (passes_call (W := fun cls d _ H => E cls d H) (takes_of rfl rfl rfl rfl) (fun _ _ _ _ h => h)) (pa_cons (pe_tup (StX.pa_star (pe_slice sl_tupS (pe_fo (ks := kPlan) 0 (pv 0) W.k_plan.cl (W.k_plan.na "rows" (by decide +kernel)) (by decide +kernel)) po_none (po_some (pv 1))) (StX.pa_star (pe_slice sl_tupS (pe_fo (ks := kPlan) 0 (pv 0) W.k_plan.cl (W.k_plan.na "rows" (by decide +kernel)) (by decide +kernel)) (po_some (pe_op op_add (pv 1) pe_int)) po_none) pa_nil))) pa_nil))))), ?_⟩
    obtain ⟨a, dx, ts, t, rfl, ha, ht, St, R⟩ := plan_rows hp
    have hno : (ob kPlan (ts.map V.ref)).lookup ("need_row" : Str) = none := ob_no (by decide +kernel)
    refine ⟨_, rfl, a, dx, _, rfl, ha, hno, _, rfl, .ref a, zs, o, i, rfl, hp, hi, sz, fun H1 s1 => ?_⟩
    have ha1 := s1 _ _ ha
    refine ⟨_, rfl, a, dx, _, _, rfl, ha1, ht, _, rfl, _, rfl, t, _, rfl, samT s1 St, fun t2 H2 s2 S2 => ?_⟩
    refine ⟨t2, _, rfl, .inl S2, _, rfl, a, dx, _, _, rfl, s2 _ _ ha1, ht, _, rfl, _, 1, rfl, rfl, _, rfl, t, _, rfl, samT (s1.trans s2) St, fun t3 H3 s3 S3 => ?_⟩
    refine ⟨t3, _, rfl, .inl S3, ?_⟩
    have e : cutW (zs.map (·.1)) none (some (i : Int)) ++ (cutW (zs.map (·.1)) (some ((i : Int) + 1)) none ++ []) = (offAt zs i).map (·.1) := by
      rw [List.append_nil, cut_app]; exact (off_map _ _ _).symm
    have s13 := (s1.trans s2).trans s3
    have hl : (offAt zs i).length ≤ 100 := by rw [off_len hi]; omega
    have fin : ∀ xs : List V, xs = (offAt zs i).map (·.1) → (xs.length ≤ sizeLine ∧ ∀ p, H3 p = none → ∀ x dx, upd H3 p (.tup xs) x = none → upd H3 p (.tup xs) dx = none → dx ≠ x →
        spPlanX c K ((.ref x : V) :: ([V.ref p] ++ [])) (upd (upd (upd H3 p (.tup xs)) dx (.own x)) x (.ins c.plan dx [])) (fun v H2 => v = .non ∧ Q (.ref x) H2) E) := by
      rintro xs rfl
      refine ⟨by rw [List.length_map]; exact Nat.le_trans hl (by decide), fun p np x dx' nx nd hne => ?_⟩
      have s4 : Same H (upd H3 p (.tup ((offAt zs i).map (·.1)))) := s13.trans (Sn np)
      have R4 : RowsAt c K (upd H3 p (.tup ((offAt zs i).map (·.1)))) (offAt zs i) := fun q hq => ⟨(R q (off_mem hq)).1.sm s4, (R q (off_mem hq)).2⟩
      refine ⟨x, dx', p, offAt zs i, rfl, upd_same, samA (same_mk nx nd) (tupA upd_same), R4.sm (same_mk nx nd), Nat.le_trans hl (by decide), planE_use nx nd R4 fun v o H' s' hv => kQ v o H' (s4.trans s') hv, fun H' d b => kE H' d (s4.trans ?_)⟩
      exact fun z oz e => b z oz (ne_of_none e nx) (by rw [upd_ne (ne_of_none e nx), upd_ne (ne_of_none e nd)]; exact e)
    exact fin _ e
/-- a plan but one row, or none -/
def spLess (c : Cs) (K : PySem.W.Frag) : Sp := fun vs H Q _ => ∃ (v : V) (zs : List VR) (o : PV) (i : Nat), vs = [v, .int (i : Int)] ∧ PlanAt c K H v zs o ∧ i < zs.length ∧ zs.length ≤ 100 ∧ (∀ H', Same H H' → Q .non H') ∧ ∀ v' o' H', Same H H' → PlanAt c K H' v' (offAt zs i) o' → Q v' H'
theorem c_law_less (Z : Qx P' K mg c) : Cal P' w K mg base 7 "_law_less" (spLess c K) [] := by
  refine Z.r.m.p.w.v.u.z.y.x.g_law_less.cal sc_law_less (fun vs H Q E h => ?_) (fun f cdv A outer s H vs Q E hr h => ?_) (fun _ _ _ _ _ _ us hl => match us, hl with | [_, _], _ => rfl)
  · obtain ⟨v, zs, o, i, rfl, hp, hi, sz, k0, k1⟩ := h
    rfl
  · obtain ⟨v, zs, o, i, rfl, hp, hi, sz, k0, k1⟩ := h
    have WW := Z.r.m.p.w
    have T := WW.v.u.z.y.x
    obtain ⟨fI, cc, cda, IT⟩ := Z.ip
    obtain ⟨fw, fdw, mW, FW⟩ := Z.without
    have GW := ok_without (w := w) (base := base) Z FW
    have bW := FW.binds (ps := ["self", "at"]) (fun _ _ _ _ _ _ us hl => match us, hl with | [_, _], _ => rfl)
    refine ⟨_, (pss_cons (ps_set (i := 2) sc_law_less.nd rfl (Or.inl rfl) pe_non) (pss_cons (ps_try_only (tb := fun W => tAsg (tMethE c.plan "without" (spWithout c K) (WE W) (tVar 0) (tCons (tVar 1) tNil)) (gName 2)) (ts := fun _ _ _ => tAsg (tC .non) (gName 2)) (Wout := fun _ _ _ _ => False) rfl rfl ⟨rfl, by decide, Or.inl IT.gC⟩ takes0
      (fun W pn xe tk _ => pss_one (ps_set (i := 2) sc_law_less.nd rfl (Or.inl rfl) (by exact (pe_methE (pv 0) WW.k_plan.cl mW GW hr bW (fun σ => passAt tk σ) (pa_cons (pv 1) pa_nil)))))
      (fun a oe cls d pn _ _ => pss_one (ps_set (i := 2) sc_law_less.nd rfl (Or.inl rfl) pe_non))) (pss_one (ps_ret (pv 2))))), ?_⟩
    obtain ⟨a, dx, fs0, e0, ha⟩ := planAt_ins hp
    obtain ⟨a, dx, ts, t, rfl, ha, ht, St, R⟩ := plan_rows hp
    have hno : (ob kPlan (ts.map V.ref)).lookup ("without" : Str) = none := ob_no (by decide +kernel)
    refine ⟨_, rfl, a, dx, _, rfl, ha, hno, _, rfl, .ref a, zs, o, i, rfl, hp, hi, sz, fun v' o' H' s' hv => ?_, fun H' d s' => ?_⟩
    · exact ⟨_, rfl, k1 v' o' H' s' hv⟩
    · exact ⟨true, IT.te, fun _ _ _ => ⟨_, rfl, k0 H' s'⟩, fun q => nomatch q⟩
end
end SB

set_option maxHeartbeats 2000000
namespace SB
open PySem PySem.Spec PyProof.Rows L2
open C8 (Cal Mak Met pe_c pe_mk pe_mt pe_mt0 pe_gc InsC call_isC)

/-! ### the deal: a dict and its list of great cells -/
def dkv (G : Addr) (a b c : Int) : List (Key × V) := [(.inr "great", .ref G), (.inr "now", .int a), (.inr "mixed", .int b), (.inr "turn", .int c)]
theorem ne_g_n : ¬ (Sum.inr "great" : Key) = .inr "now" := fun h => absurd (Sum.inr.inj h) (by decide +kernel)
theorem ne_g_m : ¬ (Sum.inr "great" : Key) = .inr "mixed" := fun h => absurd (Sum.inr.inj h) (by decide +kernel)
theorem ne_g_t : ¬ (Sum.inr "great" : Key) = .inr "turn" := fun h => absurd (Sum.inr.inj h) (by decide +kernel)
theorem ne_n_m : ¬ (Sum.inr "now" : Key) = .inr "mixed" := fun h => absurd (Sum.inr.inj h) (by decide +kernel)
theorem ne_n_t : ¬ (Sum.inr "now" : Key) = .inr "turn" := fun h => absurd (Sum.inr.inj h) (by decide +kernel)
theorem ne_m_t : ¬ (Sum.inr "mixed" : Key) = .inr "turn" := fun h => absurd (Sum.inr.inj h) (by decide +kernel)
section
variable (G : Addr) (a b c : Int)
theorem dk_g : valV (dkv G a b c) (.inr "great") = some (.ref G) := valV_pos rfl
theorem dk_n : valV (dkv G a b c) (.inr "now") = some (.int a) := (valV_neg ne_g_n).trans (valV_pos rfl)
theorem dk_m : valV (dkv G a b c) (.inr "mixed") = some (.int b) := (valV_neg ne_g_m).trans ((valV_neg ne_n_m).trans (valV_pos rfl))
theorem dk_t : valV (dkv G a b c) (.inr "turn") = some (.int c) := (valV_neg ne_g_t).trans ((valV_neg ne_n_t).trans ((valV_neg ne_m_t).trans (valV_pos rfl)))
theorem put_n (a' : Int) : putK (dkv G a b c) (.inr "now") (.int a') = dkv G a' b c := by
  have h1 := ne_g_n
  have h2 : ¬ (Sum.inr "mixed" : Key) = .inr "now" := fun h => ne_n_m h.symm
  have h3 : ¬ (Sum.inr "turn" : Key) = .inr "now" := fun h => ne_n_t h.symm
  simp [putK, dkv, h1, h2, h3]
theorem put_m (b' : Int) : putK (dkv G a b c) (.inr "mixed") (.int b') = dkv G a b' c := by
  have h1 := ne_g_m
  have h2 := ne_n_m
  have h3 : ¬ (Sum.inr "turn" : Key) = .inr "mixed" := fun h => ne_m_t h.symm
  simp [putK, dkv, h1, h2, h3]
theorem put_t (c' : Int) : putK (dkv G a b c) (.inr "turn") (.int c') = dkv G a b c' := by
  have h1 := ne_g_t; have h2 := ne_n_t; have h3 := ne_m_t
  simp [putK, dkv, h1, h2, h3]
end
structure DealAt (D G : Addr) (H : Hp) : Prop where
  d : ∃ a b c, H D = some (.dK (dkv G a b c))
  g : ∃ ns : List Int, H G = some (.lst (ns.map V.int))
/-- all but the deal stays, the deal is a deal -/
structure Step (D G : Addr) (H H' : Hp) : Prop where
  ex : ∀ b o, b ≠ D → b ≠ G → H b = some o → H' b = some o
  deal : DealAt D G H'
section
variable {D G : Addr} {H H1 H' : Hp}
theorem DealAt.ne (h : DealAt D G H) : D ≠ G := fun e => by
  obtain ⟨⟨_, _, _, h1⟩, _, h2⟩ := h
  rw [e, h2] at h1; cases h1
theorem DealAt.same (h : DealAt D G H) (s : Same H H') : DealAt D G H' := ⟨let ⟨a, b, c, e⟩ := h.d; ⟨a, b, c, s _ _ e⟩, let ⟨ns, e⟩ := h.g; ⟨ns, s _ _ e⟩⟩
theorem Step.refl (h : DealAt D G H) : Step D G H H := ⟨fun _ _ _ _ e => e, h⟩
theorem Step.trans (a : Step D G H H1) (b : Step D G H1 H') : Step D G H H' := ⟨fun c o n1 n2 e => b.ex c o n1 n2 (a.ex c o n1 n2 e), b.deal⟩
theorem Step.sm (a : Step D G H H1) (s : Same H1 H') : Step D G H H' := ⟨fun c o n1 n2 e => s c o (a.ex c o n1 n2 e), a.deal.same s⟩
theorem step_same (h : DealAt D G H) (s : Same H H') : Step D G H H' := (Step.refl h).sm s
theorem Step.im (h : DealAt D G H) (s : Step D G H H') : Im H H' := fun b o i e => by
  obtain ⟨⟨_, _, _, h1⟩, _, h2⟩ := h
  exact s.ex b o (fun q => by rw [q, h1] at e; cases e; exact i.elim) (fun q => by rw [q, h2] at e; cases e; exact i.elim) e
/-- a list that is not the deal's -/
structure LsAt (D G : Addr) (H : Hp) (L : Addr) (xs : List V) : Prop where
  l : H L = some (.lst xs)
  nd : L ≠ D
  ng : L ≠ G
theorem LsAt.step {L : Addr} {xs : List V} (h : LsAt D G H L xs) (s : Step D G H H') : LsAt D G H' L xs := ⟨s.ex _ _ h.nd h.ng h.l, h.nd, h.ng⟩
theorem LsAt.sm {L : Addr} {xs : List V} (h : LsAt D G H L xs) (s : Same H H') : LsAt D G H' L xs := ⟨s _ _ h.l, h.nd, h.ng⟩
theorem ls_of {L : Addr} {xs : List V} (h : DealAt D G H1) (n : H1 L = none) (e : H' L = some (.lst xs)) : LsAt D G H' L xs := by
  obtain ⟨⟨_, _, _, h1⟩, _, h2⟩ := h
  exact ⟨e, fun q => (by rw [q, h1] at n; cases n), fun q => (by rw [q, h2] at n; cases n)⟩
theorem step_upd {L : Addr} {o : HO} (h : DealAt D G H) (nd : L ≠ D) (ng : L ≠ G) (hb : ∀ b u, b = L → H b = some u → False) : Step D G H (upd H L o) := by
  refine step_same h fun b u e => ?_
  rw [upd_ne (fun q => hb b u q e)]; exact e
/-- a step but at one list -/
def StepB (D G L : Addr) (H H' : Hp) : Prop := (∀ b o, b ≠ D → b ≠ G → b ≠ L → H b = some o → H' b = some o) ∧ DealAt D G H'
theorem DealAt.upd_ne {L : Addr} {o : HO} (h : DealAt D G H) (nd : L ≠ D) (ng : L ≠ G) : DealAt D G (upd H L o) := ⟨let ⟨a, b, c, e⟩ := h.d; ⟨a, b, c, by rw [L2.upd_ne (Ne.symm nd)]; exact e⟩, let ⟨ns, e⟩ := h.g; ⟨ns, by rw [L2.upd_ne (Ne.symm ng)]; exact e⟩⟩
end
section
variable {P : Program} {w : World} {K : PySem.W.Frag} {mg : Str → Option Value} {base : Heap}
variable {c : Cs}
/-- any number below -/
def spDraw : Sp := fun vs H Q _ => ∃ (D G : Addr) (n : Nat), vs = [.ref D, .int (n : Int)] ∧ DealAt D G H ∧ 1 ≤ n ∧ n ≤ 1000000 ∧ ∀ H' (i : Nat), i < n → Step D G H H' → Q (.int (i : Int)) H'
theorem emod_nat {x : Int} {n : Nat} (h : 1 ≤ n) : ∃ i : Nat, x % (n : Int) = (i : Int) ∧ i < n := by
  have h1 := Int.emod_nonneg x (show (n : Int) ≠ 0 by omega)
  have h2 := Int.emod_lt_of_pos x (show (0 : Int) < (n : Int) by omega)
  exact ⟨(x % (n : Int)).toNat, by omega, by omega⟩
section
variable {X : Cx}
/-- i % n: any number below n -/
def rModA : R2 := fun x y H Q => ∃ (i : Int) (n : Nat), x = .int i ∧ y = .int (n : Int) ∧ 1 ≤ n ∧ ∀ k : Nat, k < n → Q (.int (k : Int)) H
theorem op_modA : OpR X (binaryOp .Mod) rModA := opImp op_mod fun x y H Q ⟨i, n, ex, ey, h1, k⟩ => by
  obtain ⟨j, e, hj⟩ := emod_nat (x := i) h1
  have q := k j hj
  rw [← e] at q
  exact ⟨i, n, ex, ey, by omega, q⟩
end
theorem step_D {D G : Addr} {H0 H : Hp} {a b c : Int} (s : Step D G H0 H) : Step D G H0 (upd H D (.dK (dkv G a b c))) := by
  have hne := s.deal.ne
  refine ⟨fun x o n1 n2 e => by rw [upd_ne n1]; exact s.ex x o n1 n2 e, ⟨a, b, c, upd_same⟩, ?_⟩
  obtain ⟨ns, e⟩ := s.deal.g
  exact ⟨ns, by rw [upd_ne (Ne.symm hne)]; exact e⟩
theorem c_law_draw (T : Tx K mg) : Cal P w K mg base 1 "_law_draw" spDraw [] := by
  refine T.g_law_draw.cal sc_law_draw (fun vs H Q E h => ?_) (fun f cdv A outer s H vs Q E hr h => ?_) (fun _ _ _ _ _ _ us hl => match us, hl with | [_, _], _ => rfl)
  · obtain ⟨D, G, n, rfl, hd, h1, hm, k⟩ := h
    rfl
  · obtain ⟨D, G, n, rfl, hd, h1, hm, k⟩ := h
    refine ⟨_, (C8.pss_cut (ps_while PassesOwn.never (PW.pt (pw_and (pt_cmpR op_eq (pe_dget (hu_of hr) (pv 0) pe_str (fun _ _ => rfl)) pe_int (nomark _)) (pw_and1 (pt_cmpR op_gt (pe_callB call_len_seq (by rfl) T.m_len (by decide +kernel) (pa_cons (pe_dget (hu_of hr) (pv 0) pe_str (fun _ _ => rfl)) pa_nil)) pe_int (nomark _))))) (pss_one (ps_dput (hu_of hr) (pv 0) pe_str (pe_bm0 PySem.F.plainAttrs_list PySem.F.slot_list_pop PySem.F.type_list_pop mt_pop (pe_dget (hu_of hr) (pv 0) pe_str (fun _ _ => rfl))) (by rfl)))) (C8.pss_cut (ps_if (pt_cmpR op_gt (pe_dget (hu_of hr) (pv 0) pe_str (fun _ _ => rfl)) pe_int (nomark _)) (pss_cons (ps_set (i := 2) sc_law_draw.nd rfl (Or.inl rfl) (pe_op op_modA (pe_callTy call_int1 (by rfl) T.m_int (by decide +kernel) (pa_cons (pe_dget (hu_of hr) (pv 0) pe_str (fun _ _ => rfl)) pa_nil)) (pv 1))) (pss_cons (ps_dput (hu_of hr) (pv 0) pe_str (pe_op op_fdiv (pe_dget (hu_of hr) (pv 0) pe_str (fun _ _ => rfl)) (pv 1)) (by rfl)) (pss_one (ps_ret (pv 2))))) pss_nil) (pss_cons (ps_dput (hu_of hr) (pv 0) pe_str (pe_op op_add (pe_dget (hu_of hr) (pv 0) pe_str (fun _ _ => rfl)) pe_int) (by rfl)) (pss_cons (ps_set (i := 3) sc_law_draw.nd rfl (Or.inl rfl) (pe_op op_modA (pe_callTy call_int1 (by rfl) T.m_int (by decide +kernel) (pa_cons (pe_op op_add (pe_op op_mul (pe_dget (hu_of hr) (pv 0) pe_str (fun _ _ => rfl)) pe_int) (pe_op op_mul (pe_dget (hu_of hr) (pv 0) pe_str (fun _ _ => rfl)) pe_int)) pa_nil)) pe_int)) (pss_cons (ps_set (i := 4) sc_law_draw.nd rfl (Or.inl rfl) (pe_op op_modA (pe_callTy call_int1 (by rfl) T.m_int (by decide +kernel) (pa_cons (pe_op op_add (pe_op op_mul (pv 3) (pv 3)) (pe_op op_mul (pe_dget (hu_of hr) (pv 0) pe_str (fun _ _ => rfl)) pe_int)) pa_nil)) pe_int)) (pss_cons (ps_dput (hu_of hr) (pv 0) pe_str (pe_op op_add (pe_op op_modA (pe_callTy call_int1 (by rfl) T.m_int (by decide +kernel) (pa_cons (pe_op op_add (pe_op op_mul (pv 4) pe_int) (pv 3)) pa_nil)) pe_int) pe_int) (by rfl)) (pss_one (ps_ret (pe_op op_modA (pe_callTy call_int1 (by rfl) T.m_int (by decide +kernel) (pa_cons (pe_op op_add (pe_op op_fdiv (pv 4) pe_int) (pv 3)) pa_nil)) (pv 1)))))))))), ?_⟩
    refine ⟨fun σ H1 => σ = [some (.ref D), some (.int (n : Int)), none, none, none] ∧ Step D G H H1, ?_, ?_⟩
    · refine ⟨fun q σ H1 => σ = [some (.ref D), some (.int (n : Int)), none, none, none] ∧ Step D G H H1 ∧ ∃ ns : List Int, H1 G = some (.lst (ns.map V.int)) ∧ q = ns.length, ?_, ?_⟩
      · obtain ⟨ns, e⟩ := hd.g
        exact ⟨ns.length, rfl, Step.refl hd, ns, e, rfl⟩
      rintro q σ H1 ⟨rfl, s1, ns, hG, rfl⟩
      obtain ⟨a, b, c, hD⟩ := s1.deal.d
      have g1 := DGet.k (k := .inr "now") hD
      have g2 := DGet.k (k := .inr "great") hD
      rw [dk_n] at g1
      rw [dk_g] at g2
      refine ⟨_, rfl, D, _, rfl, g1, rfl, _, rfl, ?_⟩
      refine ite2 (fun _ => ?_) (fun _ => iteF ⟨rfl, s1⟩)
      refine ⟨_, rfl, D, _, rfl, g2, G, _, rfl, .inl (SqL.of hG), _, _, rfl, rfl, _, rfl, ?_⟩
      refine ite2 (fun hc => ?_) (fun _ => ⟨rfl, s1⟩)
      have hl : (0 : Int) < ((ns.map V.int).length : Int) := of_decide_eq_true hc
      rw [List.length_map] at hl
      have hne : ns ≠ [] := fun e => by rw [e] at hl; exact absurd hl (by decide)
      have hlast : (ns.map V.int)[(ns.map V.int).length - 1]? = some (.int (ns.getLast hne)) := by
        rw [List.length_map, List.getElem?_map, ← List.getLast?_eq_getElem?, List.getLast?_eq_some_getLast hne]; rfl
      refine ⟨fun σ H2 => σ = [some (.ref D), some (.int (n : Int)), none, none, none] ∧ Step D G H H2 ∧ ∃ ns' : List Int, H2 G = some (.lst (ns'.map V.int)) ∧ ns'.length < ns.length, ?_, ?_⟩
      · rintro σ' H2 ⟨rfl, s2, ns', h2, hlt⟩
        exact ⟨_, hlt, rfl, s2, ns', h2, rfl⟩
      refine ⟨_, rfl, D, _, rfl, g2, .inl ⟨rfl, _, SqL.of hG⟩, G, _, _, rfl, rfl, hG, hlast, ?_⟩
      have hDG := hd.ne
      have hD2 : (upd H1 G (.lst (ns.map V.int).dropLast)) D = some (.dK (dkv G a b c)) := by rw [upd_ne hDG]; exact hD
      refine ⟨_, rfl, D, _, rfl, DPut.k (k := .inr "now") hD2 (by show 4 < sizeLine; decide), ?_⟩
      rw [put_n]
      have eG : (ns.map V.int).dropLast = ns.dropLast.map V.int := List.map_dropLast.symm
      refine ⟨rfl, ⟨fun x o n1 n2 e => by rw [upd_ne n1, upd_ne n2]; exact s1.ex x o n1 n2 e, ⟨_, b, c, upd_same⟩, ns.dropLast, by rw [upd_ne (Ne.symm hDG), upd_same, eG]⟩, ns.dropLast, by rw [upd_ne (Ne.symm hDG), upd_same, eG], by rw [List.length_dropLast]; omega⟩
    rintro σ H1 ⟨rfl, s1⟩
    obtain ⟨a, b, c, hD⟩ := s1.deal.d
    have g1 := DGet.k (k := .inr "now") hD
    rw [dk_n] at g1
    refine ⟨fun σ H2 => σ = [some (.ref D), some (.int (n : Int)), none, none, none] ∧ H2 = H1, ?_, ?_⟩
    · refine ⟨_, rfl, D, _, rfl, g1, _, _, rfl, rfl, _, rfl, ?_⟩
      refine ite2 (fun _ => ?_) (fun _ => ⟨rfl, rfl⟩)
      refine ⟨_, rfl, D, _, rfl, g1, .inl ⟨_, rfl, _, rfl, _, n, rfl, rfl, h1, fun i hi => ?_⟩⟩
      refine ⟨_, rfl, D, _, rfl, g1, _, rfl, _, _, rfl, rfl, ⟨by omega, by omega⟩, _, rfl, D, _, rfl, DPut.k (k := .inr "now") hD (by show 4 < sizeLine; decide), ?_⟩
      rw [put_n]
      exact ⟨_, rfl, k _ i hi (step_D s1)⟩
    rintro σ H2 ⟨rfl, rfl⟩
    have g2 := DGet.k (k := .inr "turn") hD
    rw [dk_t] at g2
    refine ⟨_, rfl, D, _, rfl, g2, _, 1, rfl, rfl, _, rfl, D, _, rfl, DPut.k (k := .inr "turn") hD (by show 4 < sizeLine; decide), ?_⟩
    rw [put_t]
    have s2 := step_D (a := a) (b := b) (c := c + 1) s1
    have hD3 : (upd H2 D (.dK (dkv G a b (c + 1)))) D = some (.dK (dkv G a b (c + 1))) := upd_same
    have g3 := DGet.k (k := .inr "mixed") hD3
    have g4 := DGet.k (k := .inr "turn") hD3
    rw [dk_m] at g3
    rw [dk_t] at g4
    refine ⟨_, rfl, D, _, rfl, g3, _, _, rfl, rfl, .inr (by decide), _, rfl, D, _, rfl, g4, _, _, rfl, rfl, .inr (by decide), _, _, rfl, rfl, .inl ⟨_, rfl, _, 2147483629, rfl, rfl, by decide, fun x hx => ?_⟩⟩
    refine ⟨_, rfl, _, rfl, _, _, rfl, rfl, .inr ⟨by omega, by omega⟩, _, rfl, D, _, rfl, g4, _, _, rfl, rfl, .inr (by decide), _, _, rfl, rfl, .inl ⟨_, rfl, _, 2147483563, rfl, rfl, by decide, fun y hy => ?_⟩⟩
    refine ⟨_, rfl, _, _, rfl, rfl, .inr (by decide), _, rfl, _, _, rfl, rfl, .inl ⟨_, rfl, _, 2147483647, rfl, rfl, by decide, fun z hz => ⟨_, _, rfl, rfl, _, rfl, D, _, rfl, DPut.k (k := .inr "mixed") hD3 (by show 4 < sizeLine; decide), ?_⟩⟩⟩
    rw [put_m]
    refine ⟨_, rfl, _, _, rfl, rfl, ⟨by decide, by decide⟩, _, rfl, _, _, rfl, rfl, .inl ⟨_, rfl, _, rfl, _, n, rfl, rfl, h1, fun i hi => ?_⟩⟩
    exact k _ i hi (step_D s2)
end
end SB

set_option maxHeartbeats 2000000
namespace SB
open PySem PySem.Spec PyProof.Rows L2
open C8 (Cal Mak Met pe_c pe_mk pe_mt pe_mt0 pe_gc InsC call_isC)

section
variable {D G : Addr} {H H1 H' : Hp}
theorem Step.updN {L : Addr} {o : HO} (s : Step D G H H1) (n : H L = none) (nd : L ≠ D) (ng : L ≠ G) : Step D G H (upd H1 L o) := ⟨fun b u n1 n2 e => by rw [L2.upd_ne (ne_of_none e n)]; exact s.ex b u n1 n2 e, s.deal.upd_ne nd ng⟩
theorem DealAt.off (h : DealAt D G H) {p : Addr} (n : H p = none) : p ≠ D ∧ p ≠ G := by
  obtain ⟨⟨_, _, _, h1⟩, _, h2⟩ := h
  exact ⟨fun q => (by rw [q, h1] at n; cases n), fun q => (by rw [q, h2] at n; cases n)⟩
end
theorem perm_erase {α : Type} {xs : List α} {k : Nat} {y : α} (h : xs[k]? = some y) : xs.Perm (y :: xs.eraseIdx k) := by
  obtain ⟨hk, e⟩ := List.getElem?_eq_some_iff.mp h
  have e2 : xs = xs.take k ++ y :: xs.drop (k + 1) := by
    rw [← e, List.getElem_cons_drop, List.take_append_drop]
  rw [List.eraseIdx_eq_take_drop_succ]
  conv => lhs; rw [e2]
  exact List.perm_middle
section
variable {X : Cx} {k j : Nat} {x : Str} {sp : Sp} {p pos : Pos}
theorem pe_c0 (c : Cal X.prog X.w X.K X.mg X.base k x sp []) (hr : Room j X.A) (hk : k ≤ j) (hg : Gl X x) (hdb : (x == ("__debug__" : Str)) = false := by decide) : PE X (.Call (.Name x p) [] [] pos) (tCall sp [] C8.E0 tNil) := by
  obtain ⟨f, fd, ps, ds, F, hm, kp, b, d⟩ := c.ex
  exact pe_call0 F (hr.mono hk) hg hm kp b d C8.pass0 hdb
end
section
variable {P : Program} {w : World} {K : PySem.W.Frag} {mg : Str → Option Value} {base : Heap}
variable {c : Cs}
def spPick : Sp := fun vs H Q _ => ∃ (D G L : Addr) (xs : List V), vs = [.ref D, .ref L] ∧ DealAt D G H ∧ LsAt D G H L xs ∧ xs ≠ [] ∧ xs.length ≤ 1000000 ∧ ∀ H' x, x ∈ xs → Step D G H H' → Q x H'
theorem len_pos {α : Type} {xs : List α} (h : xs ≠ []) : 1 ≤ xs.length := List.length_pos_iff.mpr h
theorem c_law_pick (T : Tx K mg) : Cal P w K mg base 2 "_law_pick" spPick [] := by
  refine T.g_law_pick.cal sc_law_pick (fun vs H Q E h => ?_) (fun f cdv A outer s H vs Q E hr h => ?_) (fun _ _ _ _ _ _ us hl => match us, hl with | [_, _], _ => rfl)
  · obtain ⟨D, G, L, xs, rfl, hd, hL, hne, hm, k⟩ := h
    rfl
  · obtain ⟨D, G, L, xs, rfl, hd, hL, hne, hm, k⟩ := h
    refine ⟨_, (pss_one (ps_ret (pe_ix ix_list (pv 1) (pe_c (c_law_draw T) hr (by decide) (by rfl) (pa_cons (pv 0) (pa_cons (pe_callB call_len_seq (by rfl) T.m_len (by decide +kernel) (pa_cons (pv 1) pa_nil)) pa_nil))) (fun _ _ => rfl)))), ?_⟩
    refine ⟨_, rfl, _, rfl, _, rfl, L, xs, rfl, .inl (SqL.of hL.l), D, G, xs.length, rfl, hd, len_pos hne, hm, fun H' i hi st => ?_⟩
    exact ⟨L, xs, i, xs[i], rfl, rfl, SqL.of (hL.step st).l, at_nat (List.getElem?_eq_getElem hi), k H' _ (List.getElem_mem hi) st⟩
def spMixed (K : PySem.W.Frag) : Sp := fun vs H Q _ => ∃ (D G A : Addr) (xs : List V), vs = [.ref D, .ref A] ∧ DealAt D G H ∧ SqA K H A xs ∧ xs.length ≤ 1000000 ∧ ∀ H' p ys, Step D G H H' → H p = none → LsAt D G H' p ys → ys.Perm xs → Q (.ref p) H'
theorem c_law_mixed (T : Tx K mg) : Cal P w K mg base 2 "_law_mixed" (spMixed K) [] := by
  refine T.g_law_mixed.cal sc_law_mixed (fun vs H Q E h => ?_) (fun f cdv A outer s H vs Q E hr h => ?_) (fun _ _ _ _ _ _ us hl => match us, hl with | [_, _], _ => rfl)
  · obtain ⟨D, G, S, xs, rfl, hd, hS, hm, k⟩ := h
    rfl
  · obtain ⟨D, G, S, xs, rfl, hd, hS, hm, k⟩ := h
    refine ⟨_, (C8.pss_cut (ps_par (i := 2) (j := 3) rfl sc_law_mixed.nd rfl rfl (by decide) rfl rfl (pa_cons (pe_callTy call_listA (by rfl) T.m_list (by decide +kernel) (pa_cons (pv 1) pa_nil)) (pa_cons (pe_lst pa_nil) pa_nil)) rfl) (C8.pss_cut (ps_while PassesOwn.never (pt_cmpR (op_neNil hr.units0) (pv 2) (pe_lst pa_nil) (nomark _)) (pss_one (ps_expr (pe_bm PySem.F.plainAttrs_list PySem.F.slot_list_append PySem.F.type_list_append mt_append (pv 3) (pa_cons (pe_bm PySem.F.plainAttrs_list PySem.F.slot_list_pop PySem.F.type_list_pop mt_popAt (pv 2) (pa_cons (pe_c (c_law_draw T) hr (by decide) (by rfl) (pa_cons (pv 0) (pa_cons (pe_callB call_len_seq (by rfl) T.m_len (by decide +kernel) (pa_cons (pv 2) pa_nil)) pa_nil))) pa_nil)) pa_nil))))) (pss_one (ps_ret (pv 3))))), ?_⟩
    refine ⟨fun σ H1 => ∃ L F, σ = [some (.ref D), some (.ref S), some (.ref L), some (.ref F)] ∧ H L = none ∧ H F = none ∧ L ≠ F ∧ Step D G H H1 ∧ LsAt D G H1 L xs ∧ LsAt D G H1 F [], ?_, ?_⟩
    · refine ⟨_, rfl, S, xs, rfl, hS, fun L nL => ⟨Nat.zero_le _, fun F nF => ⟨_, _, rfl, L, F, rfl, nL, (Sn nL).free nF, ?_, (step_same hd (Sn nL)).sm (Sn nF), ?_, ?_⟩⟩⟩
      · exact fun e => by rw [← e, upd_same] at nF; cases nF
      · exact ls_of hd nL ((Sn nF) _ _ upd_same)
      · exact ls_of hd ((Sn nL).free nF) upd_same
    rintro σ H1 ⟨L, F, rfl, nL, nF, hne, s1, hL, hF⟩
    obtain ⟨oL1, oL2⟩ := hd.off nL
    obtain ⟨oF1, oF2⟩ := hd.off nF
    refine ⟨fun σ H2 => σ = [some (.ref D), some (.ref S), some (.ref L), some (.ref F)] ∧ Step D G H H2 ∧ ∃ ys, LsAt D G H2 F ys ∧ ys.Perm xs, ?_, ?_⟩
    · refine ⟨fun q σ H2 => σ = [some (.ref D), some (.ref S), some (.ref L), some (.ref F)] ∧ Step D G H H2 ∧ ∃ zs ys, LsAt D G H2 L zs ∧ LsAt D G H2 F ys ∧ (ys ++ zs).Perm xs ∧ q = zs.length, ⟨_, rfl, s1, xs, [], hL, hF, .refl _, rfl⟩, ?_⟩
      rintro q σ H2 ⟨rfl, s2, zs, ys, hz, hy, hp, rfl⟩
      refine ⟨_, rfl, Nat.zero_le _, fun e ne => ?_⟩
      have sE : Same H2 (upd H2 e (.lst [])) := Sn ne
      have hz2 := hz.sm sE
      have hy2 := hy.sm sE
      have s3 := s2.sm sE
      refine ⟨L, e, zs, rfl, rfl, SqL.of hz2.l, upd_same, _, rfl, ?_⟩
      have hlen : ys.length + zs.length = xs.length := by rw [← List.length_append]; exact hp.length_eq
      refine ite2 (fun hc => ?_) (fun hc => ?_)
      · have hzne : zs ≠ [] := fun e => by rw [e] at hc; cases hc
        refine ⟨fun σ H4 => σ = [some (.ref D), some (.ref S), some (.ref L), some (.ref F)] ∧ Step D G H H4 ∧ ∃ zs' ys, LsAt D G H4 L zs' ∧ LsAt D G H4 F ys ∧ (ys ++ zs').Perm xs ∧ zs'.length < zs.length, ?_, ?_⟩
        · rintro σ' H4 ⟨rfl, s4, zs', ys', h1, h2, h3, h4⟩
          exact ⟨_, h4, rfl, s4, zs', ys', h1, h2, h3, rfl⟩
        refine ⟨_, rfl, .inl ⟨rfl, _, SqL.of hy2.l⟩, _, rfl, .inl ⟨rfl, _, SqL.of hz2.l⟩, _, rfl, _, rfl, L, zs, rfl, .inl (SqL.of hz2.l), D, G, zs.length, rfl, s3.deal, len_pos hzne, by omega, fun H4 i hi st => ?_⟩
        have hz4 := hz2.step st
        have hy4 := hy2.step st
        have hx : zs[i]? = some zs[i] := List.getElem?_eq_getElem hi
        have hsi : seqIndex? (i : Int) zs.length = some i := (seqIndex_of (by omega) (by omega)).trans rfl
        refine ⟨L, zs, i, i, zs[i], rfl, rfl, hz4.l, by omega, by omega, hsi, hx, ?_⟩
        have s5 := (s3.trans st).updN (o := .lst (zs.eraseIdx i)) nL oL1 oL2
        have hF5 : (upd H4 L (.lst (zs.eraseIdx i))) F = some (.lst ys) := by rw [upd_ne (Ne.symm hne)]; exact hy4.l
        refine ⟨F, ys, zs[i], rfl, rfl, hF5, Nat.lt_of_le_of_lt (show ys.length ≤ 1000000 by omega) (by decide), ?_⟩
        refine ⟨rfl, s5.updN nF oF1 oF2, zs.eraseIdx i, ys ++ [zs[i]], ⟨by rw [upd_ne hne]; exact upd_same, oL1, oL2⟩, ⟨upd_same, oF1, oF2⟩, ?_, ?_⟩
        · rw [List.append_assoc]
          exact ((perm_erase hx).symm.append_left ys).trans hp
        · rw [List.length_eraseIdx_of_lt hi]; omega
      · have hz0 : zs = [] := by
          cases zs with
          | nil => rfl
          | cons _ _ => exact (hc rfl).elim
        subst hz0
        exact ⟨rfl, s3, ys, hy2, by rw [List.append_nil] at hp; exact hp⟩
    rintro σ H2 ⟨rfl, s2, ys, hy, hp⟩
    exact ⟨_, rfl, k H2 F ys s2 nF hy hp⟩
def spPool : Sp := fun vs H Q _ => vs = [] ∧ ∀ H' p, Same H H' → H p = none → H' p = some (.lst (sv pool)) → Q (.ref p) H'
theorem c_law_pool (T : Tx K mg) : Cal P w K mg base 1 "_law_pool" spPool [] := by
  refine T.g_law_pool.cal sc_law_pool (fun vs H Q E h => ?_) (fun f cdv A outer s H vs Q E hr h => ?_) (fun _ _ _ _ _ _ us hl => match us, hl with | [], _ => rfl)
  · obtain ⟨rfl, k⟩ := h
    rfl
  · obtain ⟨rfl, k⟩ := h
    refine ⟨_, (pss_cons (ps_set (i := 0) sc_law_pool.nd rfl (Or.inl rfl) (pe_lst (pa_cons pe_str (pa_cons pe_str (pa_cons pe_str (pa_cons pe_str (pa_cons pe_str (pa_cons pe_str (pa_cons pe_str (pa_cons pe_str (pa_cons pe_str (pa_cons pe_str pa_nil)))))))))))) (pss_one (ps_ret (pe_op op_cat (pv 0) (pe_lst (pa_cons pe_str (pa_cons pe_str (pa_cons pe_str (pa_cons pe_str (pa_cons pe_str pa_nil)))))))))), ?_⟩
    refine ⟨by show 10 ≤ sizeLine; decide, fun p np => ⟨_, rfl, by show 5 ≤ sizeLine; decide, fun q nq => ?_⟩⟩
    refine ⟨p, q, _, _, rfl, rfl, (Sn nq) _ _ upd_same, upd_same, by show 10 + 5 ≤ sizeLine; decide, fun r nr => ?_⟩
    exact k _ r (((Sn np).trans (Sn nq)).trans (Sn nr)) (((Sn np).trans (Sn nq)).free nr) upd_same
def spNames15 : Sp := fun vs H Q _ => ∃ (D G : Addr), vs = [.ref D, .int 15] ∧ DealAt D G H ∧ ∀ H' p (l : List Str), Step D G H H' → H p = none → LsAt D G H' p (sv l) → l.Perm pool → Q (.ref p) H'
theorem perm_strs {ys : List V} {ws : List Str} (h : ys.Perm (sv ws)) : ∃ l : List Str, ys = sv l ∧ l.Perm ws := by
  have hall : ∀ y ∈ ys, ∃ z, y = V.str z := fun y hy => by
    obtain ⟨z, _, e⟩ := List.mem_map.mp (h.mem_iff.mp hy)
    exact ⟨z, e.symm⟩
  have key : ∀ ys : List V, (∀ y ∈ ys, ∃ z, y = V.str z) → ∃ l : List Str, ys = sv l := by
    intro ys
    induction ys with
    | nil => exact fun _ => ⟨[], rfl⟩
    | cons y ys ih =>
      intro hy
      obtain ⟨z, e⟩ := hy y List.mem_cons_self
      obtain ⟨l, el⟩ := ih fun x hx => hy x (List.mem_cons_of_mem _ hx)
      exact ⟨z :: l, by rw [e, el]; rfl⟩
  obtain ⟨l, e⟩ := key ys hall
  refine ⟨l, e, ?_⟩
  have h2 := h
  rw [e] at h2
  have h3 := h2.map (fun v => match v with | V.str z => z | _ => Str.empty)
  rw [List.map_map, List.map_map] at h3
  have e1 : ∀ m : List Str, List.map ((fun v => match v with | V.str z => z | _ => Str.empty) ∘ V.str) m = m := fun m => by
    induction m with
    | nil => rfl
    | cons x m ih => rw [List.map_cons, ih]; rfl
  rw [e1, e1] at h3
  exact h3
theorem c_law_names (T : Tx K mg) : Cal P w K mg base 3 "_law_names" spNames15 [] := by
  refine T.g_law_names.cal sc_law_names (fun vs H Q E h => ?_) (fun f cdv A outer s H vs Q E hr h => ?_) (fun _ _ _ _ _ _ us hl => match us, hl with | [_, _], _ => rfl)
  · obtain ⟨D, G, rfl, hd, k⟩ := h
    rfl
  · obtain ⟨D, G, rfl, hd, k⟩ := h
    refine ⟨_, (pss_one (ps_ret (pe_slice sl_W (pe_c (c_law_mixed T) hr (by decide) (by rfl) (pa_cons (pv 0) (pa_cons (pe_c0 (c_law_pool T) hr (by decide) (by rfl)) pa_nil))) po_none (po_some (pv 1))))), ?_⟩
    refine ⟨_, rfl, rfl, fun H1 p s1 np hp => ?_⟩
    refine ⟨D, G, p, sv pool, rfl, hd.same s1, lstA hp, by decide +kernel, fun H2 q ys st nq hq pm => ?_⟩
    obtain ⟨l, rfl, pl⟩ := perm_strs pm
    refine ⟨_, rfl, _, rfl, q, l, rfl, SqL.of hq.l, fun r nr => ?_⟩
    have e : cutW l none (some 15) = l := (cut_to l 15).trans (List.take_of_length_le (by rw [pl.length_eq]; decide +kernel))
    rw [e]
    have s2 : Step D G H H2 := (step_same hd s1).trans st
    have nr' : H r = none := by
      cases z : H r with
      | none => rfl
      | some o =>
        obtain ⟨o1, o2⟩ := s2.deal.off nr
        rw [s2.ex _ _ o1 o2 z] at nr; cases nr
    exact k _ r l (s2.sm (Sn nr)) nr' (ls_of s2.deal nr upd_same) pl
end
end SB

set_option maxHeartbeats 2000000
namespace SB
open PySem PySem.Spec PyProof.Rows L2
open C8 (Cal Mak Met pe_c pe_mk pe_mt pe_mt0 pe_gc InsC call_isC)

theorem nil_add : ∀ t ∈ testA, ("" : Str) ++ t = t := fun t h => of_decide_eq_true (List.all_eq_true.mp (by decide +kernel : testA.all (fun t => decide (("" : Str) ++ t = t)) = true) t h)
theorem len_testA : ∀ t ∈ testA, t.length ≤ 20 := fun t h => of_decide_eq_true (List.all_eq_true.mp (by decide +kernel : testA.all (fun t => decide (t.length ≤ 20)) = true) t h)
theorem len_poolN : ∀ t ∈ poolN, t.length ≤ 20 := fun t h => of_decide_eq_true (List.all_eq_true.mp (by decide +kernel : poolN.all (fun t => decide (t.length ≤ 20)) = true) t h)
theorem at_in {n : Str} (h : n ∈ poolN) : ("at " : Str) ++ n ∈ testA := List.mem_append_left _ (List.mem_append_left _ (List.mem_map_of_mem h))
theorem marked_in {n : Str} (h : n ∈ pool) : ("marked " : Str) ++ n ∈ testA := List.mem_append_left _ (List.mem_append_right _ (List.mem_map_of_mem h))
theorem made_in : ("made" : Str) ∈ testA := List.mem_append_right _ List.mem_cons_self
theorem built_in : ("built" : Str) ∈ testA := List.mem_append_right _ (List.mem_cons_of_mem _ List.mem_cons_self)
theorem to_in {n : Str} (h : n ∈ poolN) : ("to " : Str) ++ n ∈ deeds := List.mem_append_left _ (List.mem_append_left _ (List.mem_append_left _ (List.mem_append_left _ (List.mem_map_of_mem h))))
theorem mark_in {n : Str} (h : n ∈ pool) : ("mark " : Str) ++ n ∈ deeds := List.mem_append_left _ (List.mem_append_left _ (List.mem_append_left _ (List.mem_append_right _ (List.mem_map_of_mem h))))
theorem plain_in {n : Str} (h : n ∈ ([("make" : Str), ("take" : Str), ("grip" : Str), ("free" : Str)] : List Str)) : n ∈ deeds := List.mem_append_left _ (List.mem_append_left _ (List.mem_append_right _ h))
theorem clear_in {n : Str} (h : n ∈ pool) : ("clear " : Str) ++ n ∈ deeds := List.mem_append_left _ (List.mem_append_right _ (List.mem_map_of_mem h))
theorem send_in {n : Str} (h : n ∈ pool) : ("send " : Str) ++ n ∈ deeds := List.mem_append_right _ (List.mem_map_of_mem h)
theorem poolN_of {ws : List Str} (h : From pool ws) {z : Str} (hz : z ∈ ws ++ [("none" : Str)]) : z ∈ poolN := (List.mem_append.mp hz).elim (fun q => List.mem_append_left _ (h z q)) fun q => List.mem_append_right _ q
theorem mem_sv {x : V} {ws : List Str} (h : x ∈ sv ws) : ∃ z, x = .str z ∧ z ∈ ws := by
  obtain ⟨z, hz, e⟩ := List.mem_map.mp h
  exact ⟨z, e.symm, hz⟩
section
variable {P : Program} {w : World} {K : PySem.W.Frag} {mg : Str → Option Value} {base : Heap}
variable {c : Cs} {D G : Addr}
/-- a list of texts + some more texts -/
theorem cat_use {H : Hp} {L q : Addr} {ws us : List Str} {Q : VK} (hL : LsAt D G H L (sv ws)) (hl : ws.length + us.length ≤ 1000) (nq : H q = none)
    (k : ∀ r H', Same H H' → H r = none → H' r = some (.lst (sv (ws ++ us))) → Q (.ref r) H') : rCat (.ref L) (.ref q) (upd H q (.lst (sv us))) Q := by
  refine ⟨L, q, sv ws, sv us, rfl, rfl, (Sn nq) _ _ hL.l, upd_same, by rw [List.length_map, List.length_map]; exact Nat.le_trans hl (by decide), fun r nr => ?_⟩
  refine k r _ ((Sn nq).trans (Sn nr)) ((Sn nq).free nr) ?_
  rw [upd_same]
  show some (HO.lst (sv ws ++ sv us)) = _
  exact congrArg (fun l => some (HO.lst l)) List.map_append.symm
/-- pick of a list of texts: what it promises -/
theorem pick_use {H : Hp} {L : Addr} {ws : List Str} {Q : VK} (hd : DealAt D G H) (hL : LsAt D G H L (sv ws)) (hne : ws ≠ []) (hl : ws.length ≤ 1000) (k : ∀ z H', z ∈ ws → Step D G H H' → Q (.str z) H') : spPick [.ref D, .ref L] H Q C8.E0 := by
  refine ⟨D, G, L, sv ws, rfl, hd, hL, fun e => hne (List.map_eq_nil_iff.mp e), by rw [List.length_map]; exact Nat.le_trans hl (by decide), fun H' x hx st => ?_⟩
  obtain ⟨z, rfl, hz⟩ := mem_sv hx
  exact k z H' hz st
/-- pick(names + [..]) -/
theorem pick_cat {H : Hp} {L : Addr} {ws us : List Str} {Q : VK} (hd : DealAt D G H) (hL : LsAt D G H L (sv ws)) (hne : us ≠ []) (hl : ws.length + us.length ≤ 1000) (k : ∀ z H', z ∈ ws ++ us → Step D G H H' → Q (.str z) H') (q : Addr) (nq : H q = none) :
    rCat (.ref L) (.ref q) (upd H q (.lst (sv us))) (fun x H1 => spPick [.ref D, x] H1 Q C8.E0) := cat_use hL hl nq fun r H' s nr hr =>
  pick_use (hd.same s) (ls_of hd nr hr) (fun e => hne (List.append_eq_nil_iff.mp e).2) (by rw [List.length_append]; exact hl) fun z H2 hz st => k z H2 hz ⟨fun b o n1 n2 e => st.ex b o n1 n2 (s _ _ e), st.deal⟩
def spDrawn (l : List Str) : Sp := fun vs H Q _ => ∃ (D G L : Addr) (ws : List Str), vs = [.ref D, .ref L] ∧ DealAt D G H ∧ LsAt D G H L (sv ws) ∧ From pool ws ∧ ws ≠ [] ∧ ws.length ≤ 100 ∧ ∀ H' z, z ∈ l → Step D G H H' → Q (.str z) H'
theorem sm_step {H H1 H' : Hp} (s : Same H H1) (st : Step D G H1 H') : Step D G H H' := ⟨fun b o n1 n2 e => st.ex b o n1 n2 (s _ _ e), st.deal⟩
theorem c_law_test (T : Tx K mg) : Cal P w K mg base 3 "_law_test" (spDrawn tests) [] := by
  refine T.g_law_test.cal sc_law_test (fun vs H Q E h => ?_) (fun f cdv A outer s H vs Q E hr h => ?_) (fun _ _ _ _ _ _ us hl => match us, hl with | [_, _], _ => rfl)
  · obtain ⟨D, G, L, ws, rfl, hd, hL, hf, hne, hl, k⟩ := h
    rfl
  · obtain ⟨D, G, L, ws, rfl, hd, hL, hf, hne, hl, k⟩ := h
    refine ⟨_, (pss_cons (ps_set (i := 2) sc_law_test.nd rfl (Or.inl rfl) (pe_lst (pa_cons (pe_op op_add_str pe_str (pe_c (c_law_pick T) hr (by decide) (by rfl) (pa_cons (pv 0) (pa_cons (pe_op op_cat (pv 1) (pe_lst (pa_cons pe_str pa_nil))) pa_nil)))) (pa_cons (pe_op op_add_str pe_str (pe_c (c_law_pick T) hr (by decide) (by rfl) (pa_cons (pv 0) (pa_cons (pv 1) pa_nil)))) (pa_cons pe_str (pa_cons pe_str pa_nil)))))) (pss_one (ps_ret (pe_op op_add_str (pe_c (c_law_pick T) hr (by decide) (by rfl) (pa_cons (pv 0) (pa_cons (pe_lst (pa_cons pe_str (pa_cons pe_str pa_nil))) pa_nil))) (pe_c (c_law_pick T) hr (by decide) (by rfl) (pa_cons (pv 0) (pa_cons (pv 2) pa_nil))))))), ?_⟩
    refine ⟨_, rfl, _, rfl, by show 1 ≤ sizeLine; decide, fun q nq => ?_⟩
    refine pick_cat (us := ["none"]) hd hL (List.cons_ne_nil _ _) (by simp; omega) (fun z1 H1 hz1 st1 => ?_) q nq
    have h1 := poolN_of hf hz1
    refine ⟨_, _, rfl, rfl, Nat.le_trans (Nat.add_le_add_left (len_poolN _ h1) _) (by decide +kernel), _, rfl, _, rfl, ?_⟩
    refine pick_use st1.deal (hL.step st1) hne (by omega) fun z2 H2 hz2 st2 => ?_
    have h2 := hf z2 hz2
    refine ⟨_, _, rfl, rfl, Nat.le_trans (Nat.add_le_add_left (len_poolN _ (List.mem_append_left _ h2)) _) (by decide +kernel), by show 4 ≤ sizeLine; decide, fun p np => ?_⟩
    have s12 := st1.trans st2
    have hp : LsAt D G (upd H2 p (.lst (sv [("at " : Str) ++ z1, ("marked " : Str) ++ z2, "made", "built"]))) p (sv [("at " : Str) ++ z1, ("marked " : Str) ++ z2, "made", "built"]) := ls_of s12.deal np upd_same
    have s3 : Step D G H (upd H2 p (.lst (sv [("at " : Str) ++ z1, ("marked " : Str) ++ z2, "made", "built"]))) := s12.sm (Sn np)
    refine ⟨_, rfl, by show 2 ≤ sizeLine; decide, fun p2 np2 => ?_⟩
    have s4 := s3.sm (Sn (o := .lst (sv ["", "not "])) np2)
    have hp4 := hp.sm (Sn (o := .lst (sv ["", "not "])) np2)
    refine pick_use (ws := ["", "not "]) s4.deal (ls_of s3.deal np2 upd_same) (List.cons_ne_nil _ _) (by show 2 ≤ 1000; decide) fun z3 H3 hz3 st3 => ?_
    refine ⟨_, rfl, _, rfl, ?_⟩
    refine pick_use st3.deal (hp4.step st3) (List.cons_ne_nil _ _) (by show 4 ≤ 1000; decide) fun z4 H4 hz4 st4 => ?_
    have h4 : z4 ∈ testA := by
      rcases List.mem_cons.mp hz4 with rfl | h
      · exact at_in h1
      rcases List.mem_cons.mp h with rfl | h
      · exact marked_in h2
      rcases List.mem_cons.mp h with rfl | h
      · exact made_in
      · rw [List.mem_singleton.mp h]; exact built_in
    have l3 : z3.length ≤ 20 := by
      rcases List.mem_cons.mp hz3 with rfl | h
      · decide +kernel
      · rw [List.mem_singleton.mp h]; decide +kernel
    refine ⟨_, _, rfl, rfl, Nat.le_trans (Nat.add_le_add l3 (len_testA _ h4)) (by decide), k H4 _ ?_ ((s4.trans st3).trans st4)⟩
    rcases List.mem_cons.mp hz3 with rfl | h
    · rw [nil_add _ h4]; exact List.mem_append_left _ h4
    · rw [List.mem_singleton.mp h]; exact List.mem_append_right _ (List.mem_map_of_mem h4)
theorem c_law_deed (T : Tx K mg) : Cal P w K mg base 3 "_law_deed" (spDrawn deeds) [] := by
  refine T.g_law_deed.cal sc_law_deed (fun vs H Q E h => ?_) (fun f cdv A outer s H vs Q E hr h => ?_) (fun _ _ _ _ _ _ us hl => match us, hl with | [_, _], _ => rfl)
  · obtain ⟨D, G, L, ws, rfl, hd, hL, hf, hne, hl, k⟩ := h
    rfl
  · obtain ⟨D, G, L, ws, rfl, hd, hL, hf, hne, hl, k⟩ := h
    refine ⟨_, (pss_cons (ps_set (i := 2) sc_law_deed.nd rfl (Or.inl rfl) (pe_lst (pa_cons (pe_op op_add_str pe_str (pe_c (c_law_pick T) hr (by decide) (by rfl) (pa_cons (pv 0) (pa_cons (pe_op op_cat (pv 1) (pe_lst (pa_cons pe_str pa_nil))) pa_nil)))) pa_nil))) (pss_cons (ps_set (i := 2) sc_law_deed.nd rfl (Or.inl rfl) (pe_op op_cat (pv 2) (pe_lst (pa_cons (pe_op op_add_str pe_str (pe_c (c_law_pick T) hr (by decide) (by rfl) (pa_cons (pv 0) (pa_cons (pv 1) pa_nil)))) (pa_cons pe_str (pa_cons pe_str (pa_cons pe_str (pa_cons pe_str pa_nil)))))))) (pss_one (ps_ret (pe_c (c_law_pick T) hr (by decide) (by rfl) (pa_cons (pv 0) (pa_cons (pe_op op_cat (pv 2) (pe_lst (pa_cons (pe_op op_add_str pe_str (pe_c (c_law_pick T) hr (by decide) (by rfl) (pa_cons (pv 0) (pa_cons (pv 1) pa_nil)))) (pa_cons (pe_op op_add_str pe_str (pe_c (c_law_pick T) hr (by decide) (by rfl) (pa_cons (pv 0) (pa_cons (pv 1) pa_nil)))) pa_nil)))) pa_nil))))))), ?_⟩
    refine ⟨_, rfl, _, rfl, by show 1 ≤ sizeLine; decide, fun q nq => ?_⟩
    refine pick_cat (us := ["none"]) hd hL (List.cons_ne_nil _ _) (by simp; omega) (fun z1 H1 hz1 st1 => ?_) q nq
    have h1 := to_in (poolN_of hf hz1)
    refine ⟨_, _, rfl, rfl, Nat.le_trans (Nat.add_le_add_left (len_poolN _ (poolN_of hf hz1)) _) (by decide +kernel), by show 1 ≤ sizeLine; decide, fun p np => ?_⟩
    have hp : LsAt D G (upd H1 p (.lst (sv [("to " : Str) ++ z1]))) p (sv [("to " : Str) ++ z1]) := ls_of st1.deal np upd_same
    have s1 : Step D G H (upd H1 p (.lst (sv [("to " : Str) ++ z1]))) := st1.sm (Sn np)
    refine ⟨_, rfl, _, rfl, _, rfl, ?_⟩
    refine pick_use s1.deal (hL.step s1) hne (by omega) fun z2 H2 hz2 st2 => ?_
    have h2 := mark_in (hf z2 hz2)
    refine ⟨_, _, rfl, rfl, Nat.le_trans (Nat.add_le_add_left (len_poolN _ (List.mem_append_left _ (hf z2 hz2))) _) (by decide +kernel), by show 5 ≤ sizeLine; decide, fun p2 np2 => ?_⟩
    refine cat_use (us := [("mark " : Str) ++ z2, "make", "take", "grip", "free"]) (hp.step st2) (by show 1 + 5 ≤ 1000; decide) np2 fun r H3 s3 nr hr => ?_
    have st3 := (s1.trans st2).sm s3
    have hr3 : LsAt D G H3 r (sv ([("to " : Str) ++ z1] ++ [("mark " : Str) ++ z2, "make", "take", "grip", "free"])) := ls_of st2.deal nr hr
    refine ⟨_, rfl, _, rfl, _, rfl, _, rfl, ?_⟩
    refine pick_use st3.deal (hL.step st3) hne (by omega) fun z3 H4 hz3 st4 => ?_
    refine ⟨_, _, rfl, rfl, Nat.le_trans (Nat.add_le_add_left (len_poolN _ (List.mem_append_left _ (hf z3 hz3))) _) (by decide +kernel), _, rfl, _, rfl, ?_⟩
    have st34 := st3.trans st4
    refine pick_use st34.deal (hL.step st34) hne (by omega) fun z4 H5 hz4 st5 => ?_
    refine ⟨_, _, rfl, rfl, Nat.le_trans (Nat.add_le_add_left (len_poolN _ (List.mem_append_left _ (hf z4 hz4))) _) (by decide +kernel), by show 2 ≤ sizeLine; decide, fun p3 np3 => ?_⟩
    have st35 := st34.trans st5
    refine pick_cat (us := [("clear " : Str) ++ z3, ("send " : Str) ++ z4]) st35.deal ((hr3.step st4).step st5) (List.cons_ne_nil _ _) (by show 6 + 2 ≤ 1000; decide) (fun z H6 hz st6 => k H6 z ?_ (st35.trans st6)) p3 np3
    rcases List.mem_append.mp hz with hz | hz
    · rcases List.mem_append.mp hz with hz | hz
      · rw [List.mem_singleton.mp hz]; exact h1
      · rcases List.mem_cons.mp hz with rfl | hz
        · exact h2
        · exact plain_in hz
    · rcases List.mem_cons.mp hz with rfl | hz
      · exact clear_in (hf z3 hz3)
      · rw [List.mem_singleton.mp hz]; exact send_in (hf z4 hz4)
end
end SB

set_option maxHeartbeats 2000000
namespace SB
open PySem PySem.Spec PyProof.Rows L2
open C8 (Cal Mak Met pe_c pe_mk pe_mt pe_mt0 pe_gc InsC call_isC)

section
variable {K : PySem.W.Frag} {a : Addr} {D G : Addr} {g : TG} {tt : TT} {te : TE} {vs : List Nat} {σ : Sg} {H1 : Hp} {Q : VK}
/-- [.. for k in range(n)], each element drawn -/
theorem lc_draws {n : Nat} (hd : DealAt D G H1) (hn : n ≤ 1000) (Py : V → Prop)
    (hs : ∀ (i : Nat) H (N : VK) (M : Hp → Prop), Step D G H1 H → (∀ y H', Step D G H H' → Py y → N y H') → g (.int (0 + (i : Int))) (wipe σ vs) H fun σ2 H2 => wipe σ2 vs = wipe σ vs ∧ tt σ2 H2 fun b H3 => if b = true then te σ2 H3 N else M H3)
    (hq : ∀ L acc H, H1 L = none → Step D G H1 H → LsAt D G H L acc → acc.length = n → (∀ y ∈ acc, Py y) → Q (.ref L) H) : LcR g tt te vs σ Q (Itr 0 n) H1 := by
  intro L nL
  obtain ⟨o1, o2⟩ := hd.off nL
  refine ⟨fun i m H => m = n - i ∧ i ≤ n ∧ Step D G H1 H ∧ ∃ acc, H L = some (.lst acc) ∧ acc.length = i ∧ ∀ y ∈ acc, Py y, ⟨n, rfl, Nat.zero_le _, (step_same hd (Sn nL)), [], upd_same, rfl, fun _ h => (nomatch h)⟩, ?_⟩
  rintro i m H ⟨rfl, hi, st, acc, hL, hl, hp⟩
  by_cases hlt : i < n
  · refine .inr ⟨hlt, fun H' => Step D G H1 H' ∧ ∃ acc, H' L = some (.lst acc) ∧ acc.length = i + 1 ∧ ∀ y ∈ acc, Py y, fun H' h' => ⟨n - (i + 1), by omega, rfl, hlt, h'⟩, ?_⟩
    rintro x H' ⟨rfl, rfl⟩
    refine hs i H' _ _ st fun y H2 s2 py => ⟨acc, s2.ex _ _ o1 o2 hL, by rw [hl]; exact Nat.lt_of_le_of_lt (Nat.le_trans (Nat.le_of_lt hlt) hn) (by decide), (st.trans s2).updN nL o1 o2, acc ++ [y], upd_same, by rw [List.length_append, hl]; rfl, fun z hz => ?_⟩
    rcases List.mem_append.mp hz with hz | hz
    · exact hp z hz
    · rw [List.mem_singleton.mp hz]; exact py
  · have e : i = n := by omega
    subst e
    exact .inl ⟨Nat.le_refl _, hq L acc H nL st ⟨hL, o1, o2⟩ hl hp⟩
/-- [.. for i, x in enumerate(xs) if ..] -/
theorem lc_enum {xs : List V} (S : SqL K H1 a xs) (sz : xs.length ≤ 100000) (P : Nat → List V → Prop) (h0 : P 0 [])
    (hs : ∀ L (i : Nat) x T acc H, H1 L = none → xs[i]? = some x → Same H1 H → H T = some (.tup [.int (i : Int), x]) → H L = some (.lst acc) → P i acc → ∀ (N : VK) (M : Hp → Prop), (∀ y H', Same H H' → P (i + 1) (acc ++ [y]) → N y H') → (∀ H', Same H H' → P (i + 1) acc → M H') →
      g (.ref T) (wipe σ vs) H fun σ2 H2 => wipe σ2 vs = wipe σ vs ∧ tt σ2 H2 fun b H3 => if b = true then te σ2 H3 N else M H3)
    (hd : ∀ L acc H, H1 L = none → Same H1 H → H L = some (.lst acc) → acc.length ≤ xs.length → P xs.length acc → Q (.ref L) H) : LcR g tt te vs σ Q (Ite K a) H1 := by
  intro L nL
  refine ⟨fun i m H => m = xs.length - i ∧ i ≤ xs.length ∧ Same H1 H ∧ ∃ acc, H L = some (.lst acc) ∧ acc.length ≤ i ∧ P i acc, ⟨xs.length, rfl, Nat.zero_le _, Sn nL, [], upd_same, Nat.le_refl _, h0⟩, ?_⟩
  rintro i m H ⟨rfl, hi, s1, acc, hL, hl, hp⟩
  by_cases hlt : i < xs.length
  · have hx : xs[i]? = some xs[i] := List.getElem?_eq_getElem hlt
    refine .inr ⟨⟨xs, _, s1.seq S, hx⟩, fun H' => Same H1 H' ∧ ∃ acc, H' L = some (.lst acc) ∧ acc.length ≤ i + 1 ∧ P (i + 1) acc, fun H' h' => ⟨xs.length - (i + 1), by omega, rfl, hlt, h'⟩, ?_⟩
    rintro v H' ⟨T, x, rfl, nT, rfl, hy⟩
    have ex : x = xs[i] := Option.some.inj ((hy _ (s1.seq S)).symm.trans hx)
    subst ex
    have s2 : Same H (upd H T (.tup [.int (i : Int), xs[i]])) := Sn nT
    refine hs L i _ T acc _ nL hx (s1.trans s2) upd_same (s2 _ _ hL) hp _ _ (fun y H3 s3 p3 => ⟨acc, s3 _ _ (s2 _ _ hL), Nat.lt_of_le_of_lt (Nat.le_trans hl (Nat.le_trans hi sz)) (by decide), sameD nL ((s1.trans s2).trans s3), _, upd_same, by rw [List.length_append]; exact Nat.succ_le_succ hl, p3⟩) fun H3 s3 p3 => ⟨(s1.trans s2).trans s3, acc, s3 _ _ (s2 _ _ hL), Nat.le_succ_of_le hl, p3⟩
  · have e : i = xs.length := by omega
    subst e
    exact .inl ⟨⟨xs, s1.seq S, Nat.le_refl _⟩, hd L acc H nL s1 hL hl hp⟩
end
section
variable {P : Program} {w : World} {K : PySem.W.Frag} {mg : Str → Option Value} {base : Heap}
variable {c : Cs}
def spFew (K : PySem.W.Frag) : Sp := fun vs H Q _ => ∃ (a : Addr) (ws : List Str), vs = [.ref a] ∧ SqL K H a (sv ws) ∧ ws.length ≤ 100 ∧ (∀ z ∈ ws, z.length ≤ 1000) ∧ ∀ L H' l, Same H H' → H L = none → H' L = some (.lst (sv l)) → l.length ≤ ws.length → (∀ z ∈ l, z ∈ ws) → Q (.ref L) H'
theorem ints_of : ∀ {l : List V}, (∀ y ∈ l, ∃ i : Int, y = .int i) → ∃ ns : List Int, l = ns.map V.int
  | [], _ => ⟨[], rfl⟩
  | y :: l, h => by
    obtain ⟨i, e⟩ := h y List.mem_cons_self
    obtain ⟨ns, en⟩ := ints_of fun z hz => h z (List.mem_cons_of_mem _ hz)
    exact ⟨i :: ns, by rw [e, en]; rfl⟩
theorem flat_ints : ∀ ns : List Int, (ns.map V.int).all flatV = true
  | [] => rfl
  | n :: ns => by rw [List.map_cons, List.all_cons, flat_ints ns]; rfl
theorem cutW_mem {α : Type} {xs : List α} {lo hi : Option Int} {x : α} (h : x ∈ cutW xs lo hi) : x ∈ xs := List.mem_of_mem_drop (List.mem_of_mem_take h)
theorem c_law_few (T : Tx K mg) : Cal P w K mg base 1 "_law_few" (spFew K) [] := by
  refine T.g_law_few.cal sc_law_few (fun vs H Q E h => ?_) (fun f cdv A outer s H vs Q E hr h => ?_) (fun _ _ _ _ _ _ us hl => match us, hl with | [_], _ => rfl)
  · obtain ⟨a, ws, rfl, S, hl, lz, k⟩ := h
    rfl
  · obtain ⟨a, ws, rfl, S, hl, lz, k⟩ := h
    refine ⟨_, (pss_cons (ps_set (i := 1) sc_law_few.nd rfl (Or.inr rfl) (pe_slice (r := rSlL K) sl_list (pe_lx (own := [("_law_at", 2), ("_law_deed_here", 3)]) (g := gTup K 2 (gCons (gName 2) (gCons (gName 3) gNil))) (by rfl) sc_law_few.nd (pi_enum (by rfl) T.m_enumerate (pa_cons (pv 0) pa_nil)) (blkOk_by (N := n_law_few) (sc := defScope s_law_few) (by decide +kernel)) (fun _ _ _ _ _ => pg_tup rfl (pgs_cons (pg_name (i := 2) sc_law_few.nd rfl (Or.inl rfl)) (pgs_cons (pg_name (i := 3) sc_law_few.nd rfl (Or.inl rfl)) pgs_nil))) (fun _ _ _ _ _ => pts_one (pt_cmpR op_eq (pe_slice (r := C8.rSlX) C8.sl_txt (pv 3) po_none (po_some pe_int)) pe_str (nomark _))) (fun _ _ _ _ _ => (pv 2))) (po_some pe_int) po_none)) (pss_one (ps_ret (pe_lx (own := [("_law_at", 2), ("_law_deed_here", 3)]) (g := gTup K 2 (gCons (gName 2) (gCons (gName 3) gNil))) (by rfl) sc_law_few.nd (pi_enum (by rfl) T.m_enumerate (pa_cons (pv 0) pa_nil)) (blkOk_by (N := n_law_few) (sc := defScope s_law_few) (by decide +kernel)) (fun _ _ _ _ _ => pg_tup rfl (pgs_cons (pg_name (i := 2) sc_law_few.nd rfl (Or.inl rfl)) (pgs_cons (pg_name (i := 3) sc_law_few.nd rfl (Or.inl rfl)) pgs_nil))) (fun _ _ _ _ _ => pts_one (pt_cmpR (r := L2.rIn K true) op_notIn_seq (pv 2) (pv 1) (by rfl))) (fun _ _ _ _ _ => (pv 3)))))), ?_⟩
    have hl5 : (sv ws).length ≤ 100000 := by rw [List.length_map]; exact Nat.le_trans hl (by decide)
    refine ⟨_, rfl, a, _, rfl, S, lc_enum S hl5 (fun _ acc => ∀ y ∈ acc, ∃ i : Int, y = .int i) (fun _ h => nomatch h) ?_ ?_⟩
    · intro L i x T2 acc H2 nL hx s2 hT hD p N M kN kM
      obtain ⟨z, hz, rfl⟩ := get_str hx
      refine ⟨T2, _, rfl, SqT.of hT, rfl, _, _, rfl, _, _, rfl, rfl, rfl, _, rfl, 5, rfl, z, rfl, len_slice z none none (lz z (memi hz)), rfl, _, rfl, ?_⟩
      refine ite2 (fun _ => ?_) (fun _ => kM _ (Same.refl _) p)
      refine ⟨_, rfl, kN _ _ (Same.refl _) fun y hy => ?_⟩
      rcases List.mem_append.mp hy with hy | hy
      · exact p y hy
      · rw [List.mem_singleton.mp hy]; exact ⟨_, rfl⟩
    intro L acc H1 nL s1 hL hl1 p
    obtain ⟨ns, rfl⟩ := ints_of p
    refine ⟨3, rfl, L, _, rfl, SqL.of hL, fun q nq => ?_⟩
    have s2 : Same H (upd H1 q (.lst (cutV (ns.map V.int) (some 3) none))) := s1.trans (Sn nq)
    have hq : (upd H1 q (.lst (cutV (ns.map V.int) (some 3) none))) q = some (.lst ((cutW ns (some 3) none).map V.int)) := by
      rw [upd_same]
      exact congrArg (fun l => some (HO.lst l)) (cutV_map V.int ns (some 3) none)
    refine ⟨_, rfl, a, _, rfl, s2.seq S, lc_enum (s2.seq S) hl5 (fun i acc => ∃ l : List Str, acc = sv l ∧ l.length ≤ i ∧ ∀ z ∈ l, z ∈ ws) ⟨[], rfl, Nat.le_refl _, fun _ h => nomatch h⟩ ?_ ?_⟩
    · intro L2 i x T2 acc H2 nL2 hx s3 hT hD p N M kN kM
      obtain ⟨z, hz, rfl⟩ := get_str hx
      obtain ⟨l, rfl, hll, hlm⟩ := p
      refine ⟨T2, _, rfl, SqT.of hT, rfl, _, _, rfl, _, _, rfl, rfl, rfl, _, rfl, _, rfl, q, _, rfl, .inl (SqL.of (s3 _ _ hq)), rfl, flat_ints _, _, rfl, ?_⟩
      refine ite2 (fun _ => ?_) (fun _ => kM _ (Same.refl _) ⟨l, rfl, Nat.le_succ_of_le hll, hlm⟩)
      refine ⟨_, rfl, kN _ _ (Same.refl _) ⟨l ++ [z], (by show l.map V.str ++ [V.str z] = (l ++ [z]).map V.str; rw [List.map_append]; rfl), by rw [List.length_append]; exact Nat.succ_le_succ hll, fun y hy => ?_⟩⟩
      rcases List.mem_append.mp hy with hy | hy
      · exact hlm y hy
      · rw [List.mem_singleton.mp hy]; exact memi hz
    intro L2 acc H2 nL2 s3 hL2 _ p
    obtain ⟨l, rfl, hll, hlm⟩ := p
    rw [List.length_map] at hll
    exact k L2 H2 l (s2.trans s3) (s2.free nL2) hL2 hll hlm
/-- a drawn row: a tuple of texts and lists -/
def tupR (t u : Addr) : RD → List V
  | .first p => [.str "first", .str p]
  | .mode n pr _ => [.str "mode", .str n, optV pr, .ref t]
  | .turn m w _ th => [.str "turn", .str m, .str w, .ref t, .str th]
  | .lead m p e th _ => [.str "lead", .str m, .str p, .str e, .str th, .ref t]
  | .house e _ _ => [.str "house", .str e, .ref t, .ref u]
structure DrR (D G R : Addr) (H : Hp) (v : V) (r : RD) : Prop where
  ex : ∃ a t u, v = .ref a ∧ H a = some (.tup (tupR t u r)) ∧ (has1 r = true → LsAt D G H t (sv (rt1 r)) ∧ t ≠ R) ∧ (has2 r = true → LsAt D G H u (sv (rt2 r)) ∧ u ≠ R)
  ok : Ok r
theorem DrR.step {H H' : Hp} {R : Addr} {v : V} {r : RD} (h : DrR D G R H v r) (hd : DealAt D G H) (s : Step D G H H') : DrR D G R H' v r := by
  obtain ⟨⟨a, t, u, e, h1, h2, h3⟩, ok⟩ := h
  exact ⟨⟨a, t, u, e, s.im hd _ _ trivial h1, fun q => ⟨(h2 q).1.step s, (h2 q).2⟩, fun q => ⟨(h3 q).1.step s, (h3 q).2⟩⟩, ok⟩
theorem DrR.sm {H H' : Hp} {R : Addr} {v : V} {r : RD} (h : DrR D G R H v r) (s : Same H H') : DrR D G R H' v r := by
  obtain ⟨⟨a, t, u, e, h1, h2, h3⟩, ok⟩ := h
  exact ⟨⟨a, t, u, e, s _ _ h1, fun q => ⟨(h2 q).1.sm s, (h2 q).2⟩, fun q => ⟨(h3 q).1.sm s, (h3 q).2⟩⟩, ok⟩
theorem Step.ne_of {H H1 : Hp} {R L : Addr} (s : Step D G H H1) (hR : H R ≠ none) (n : H1 L = none) : L ≠ R := fun e => by
  obtain ⟨o1, o2⟩ := s.deal.off n
  subst e
  cases q : H L with
  | none => exact hR q
  | some o => rw [s.ex _ _ o1 o2 q] at n; cases n
def spLoH (c : Cs) : Sp := fun vs H Q _ => ∃ (D G R A B C : Addr) (ms ps ws : List Str), vs = [.ref D, .ref A, .ref B, .ref C] ∧ H R ≠ none ∧ DealAt D G H ∧ LsAt D G H A (sv ms) ∧ LsAt D G H B (sv ps) ∧ LsAt D G H C (sv ws) ∧ From pool ms ∧ From pool ps ∧ From pool ws ∧ ws ≠ [] ∧ ms.length ≤ 100 ∧ ps.length ≤ 100 ∧ ws.length ≤ 100 ∧
  ∀ H' v r, Step D G H H' → DrR D G R H' v r → ((∃ m p e t ss, r = .lead m p e t ss ∧ (m ∈ ms ∨ m = ("any" : Str))) ∨ isHouse r = true) → Q v H'
theorem in_or {l : List Str} {z v : Str} (h : z ∈ l ++ [v]) : z ∈ l ∨ z = v := (List.mem_append.mp h).imp id fun q => List.mem_singleton.mp q
theorem strs_of {l : List V} (h : ∀ y ∈ l, ∃ z : Str, y = .str z) : ∃ ws : List Str, l = sv ws := by
  induction l with
  | nil => exact ⟨[], rfl⟩
  | cons y l ih =>
    obtain ⟨z, e⟩ := h y List.mem_cons_self
    obtain ⟨ws, ew⟩ := ih fun x hx => h x (List.mem_cons_of_mem _ hx)
    exact ⟨z :: ws, by rw [e, ew]; rfl⟩
theorem c_law_lead_or_house (T : Tx K mg) : Cal P w K mg base 4 "_law_lead_or_house" (spLoH c) [] := by
  refine T.g_law_lead_or_house.cal sc_law_lead_or_house (fun vs H Q E h => ?_) (fun f cdv A outer s H vs Q E hr h => ?_) (fun _ _ _ _ _ _ us hl => match us, hl with | [_, _, _, _], _ => rfl)
  · obtain ⟨D, G, R, A1, B1, C1, ms, ps, ws, rfl, hRn, hd, hA, hB, hC, fm, fp, fw, hwne, lm, lp, lw, k⟩ := h
    rfl
  · obtain ⟨D, G, R, A1, B1, C1, ms, ps, ws, rfl, hRn, hd, hA, hB, hC, fm, fp, fw, hwne, lm, lp, lw, k⟩ := h
    refine ⟨_, (pss_cons (ps_if (pt_cmpR op_eq (pe_c (c_law_draw T) hr (by decide) (by rfl) (pa_cons (pv 0) (pa_cons pe_int pa_nil))) pe_int (nomark _)) (pss_cons (ps_par (i := 4) (j := 5) rfl sc_law_lead_or_house.nd rfl rfl (by decide) rfl rfl (pa_cons (pe_c (c_law_pick T) hr (by decide) (by rfl) (pa_cons (pv 0) (pa_cons (pe_op op_cat (pv 1) (pe_lst (pa_cons pe_str pa_nil))) pa_nil))) (pa_cons (pe_c (c_law_pick T) hr (by decide) (by rfl) (pa_cons (pv 0) (pa_cons (pe_op op_cat (pv 2) (pe_lst (pa_cons pe_str pa_nil))) pa_nil))) pa_nil)) rfl) (pss_cons (ps_setLx (i := 6) (own := [("_law_k", 10)]) (g := gName 10) (tt := tYes) (by rfl) sc_law_lead_or_house.nd rfl rfl (sw_true rfl rfl rfl (by decide +kernel)) (pi_range1 (by rfl) T.m_range (pa_cons (pe_c (c_law_draw T) hr (by decide) (by rfl) (pa_cons (pv 0) (pa_cons pe_int pa_nil))) pa_nil)) (blkOk_by (N := n_law_lead_or_house) (sc := defScope s_law_lead_or_house) (by decide +kernel)) (fun _ _ _ _ _ => pg_name (i := 10) sc_law_lead_or_house.nd rfl (Or.inl rfl)) (fun _ _ _ _ _ => pts_nil) (fun _ _ _ _ _ => (pe_c (sp := spPick) (c_law_pick T) hr (by decide) (by rfl) (pa_cons (pv 0) (pa_cons (pv 3) pa_nil))))) (pss_cons (ps_par (i := 7) (j := 8) rfl sc_law_lead_or_house.nd rfl rfl (by decide) rfl rfl (pa_cons (pe_c (c_law_pick T) hr (by decide) (by rfl) (pa_cons (pv 0) (pa_cons (pe_op op_cat (pv 3) (pe_lst (pa_cons pe_str (pa_cons pe_str pa_nil)))) pa_nil))) (pa_cons (pe_c (c_law_pick T) hr (by decide) (by rfl) (pa_cons (pv 0) (pa_cons (pe_op op_cat (pv 2) (pe_lst (pa_cons pe_str pa_nil))) pa_nil))) pa_nil)) rfl) (pss_one (ps_ret (pe_tup (pa_cons pe_str (pa_cons (pv 4) (pa_cons (pv 5) (pa_cons (pv 7) (pa_cons (pv 8) (pa_cons (pv 6) pa_nil)))))))))))) pss_nil) (pss_cons (ps_set (i := 7) sc_law_lead_or_house.nd rfl (Or.inl rfl) (pe_c (c_law_pick T) hr (by decide) (by rfl) (pa_cons (pv 0) (pa_cons (pe_op op_cat (pv 3) (pe_lst (pa_cons pe_str (pa_cons pe_str (pa_cons pe_str (pa_cons pe_str pa_nil)))))) pa_nil)))) (pss_cons (ps_setLx (i := 9) (own := [("_law_k", 10)]) (g := gName 10) (tt := tYes) (by rfl) sc_law_lead_or_house.nd rfl rfl (sw_true rfl rfl rfl (by decide +kernel)) (pi_range1 (by rfl) T.m_range (pa_cons (pe_c (c_law_draw T) hr (by decide) (by rfl) (pa_cons (pv 0) (pa_cons pe_int pa_nil))) pa_nil)) (blkOk_by (N := n_law_lead_or_house) (sc := defScope s_law_lead_or_house) (by decide +kernel)) (fun _ _ _ _ _ => pg_name (i := 10) sc_law_lead_or_house.nd rfl (Or.inl rfl)) (fun _ _ _ _ _ => pts_nil) (fun _ _ _ _ _ => (pe_c (sp := spDrawn tests) (c_law_test T) hr (by decide) (by rfl) (pa_cons (pv 0) (pa_cons (pv 3) pa_nil))))) (pss_one (ps_ret (pe_tup (pa_cons pe_str (pa_cons (pv 7) (pa_cons (pv 9) (pa_cons (pe_c (c_law_few T) hr (by decide) (by rfl) (pa_cons (pe_lx (own := [("_law_k", 10)]) (g := gName 10) (tt := tYes) (by rfl) sc_law_lead_or_house.nd (pi_range1 (by rfl) T.m_range (pa_cons (pe_c (c_law_draw T) hr (by decide) (by rfl) (pa_cons (pv 0) (pa_cons pe_int pa_nil))) pa_nil)) (blkOk_by (N := n_law_lead_or_house) (sc := defScope s_law_lead_or_house) (by decide +kernel)) (fun _ _ _ _ _ => pg_name (i := 10) sc_law_lead_or_house.nd rfl (Or.inl rfl)) (fun _ _ _ _ _ => pts_nil) (fun _ _ _ _ _ => (pe_c (sp := spDrawn deeds) (c_law_deed T) hr (by decide) (by rfl) (pa_cons (pv 0) (pa_cons (pv 3) pa_nil))))) pa_nil)) pa_nil)))))))))), ?_⟩
    refine ⟨_, rfl, D, G, 2, rfl, hd, by decide, by decide, fun H1 i hi st1 => ⟨rfl, _, rfl, ?_⟩⟩
    have hA := hA.step st1
    have hB := hB.step st1
    have hC := hC.step st1
    refine ite2 (fun _ => ?_) (fun _ => ?_)
    · refine ⟨_, rfl, _, rfl, by show 1 ≤ sizeLine; decide, fun q nq => ?_⟩
      refine pick_cat (us := ["any"]) st1.deal hA (List.cons_ne_nil _ _) (by simp; omega) (fun m' H2 hm st2 => ?_) q nq
      refine ⟨_, rfl, _, rfl, by show 1 ≤ sizeLine; decide, fun q nq => ?_⟩
      have st12 := st1.trans st2
      refine pick_cat (us := ["any"]) st12.deal (hB.step st2) (List.cons_ne_nil _ _) (by simp; omega) (fun p' H3 hp st3 => ?_) q nq
      refine ⟨_, _, rfl, ?_⟩
      have st13 := st12.trans st3
      have hB := (hB.step st2).step st3
      have hC := (hC.step st2).step st3
      refine ⟨_, rfl, D, G, 4, rfl, st13.deal, by decide, by decide, fun H4 n hn st4 => ⟨n, rfl, by omega, by omega, ?_⟩⟩
      have st14 := st13.trans st4
      refine lc_draws st14.deal (show ((n : Int)).toNat ≤ 1000 by omega) (fun y => ∃ z : Str, y = .str z ∧ z ∈ ws) ?_ ?_
      · intro i H5 N M st5 kN
        exact ⟨rfl, _, rfl, _, rfl, pick_use st5.deal ((hC.step st4).step st5) hwne (by omega) fun z H6 hz st6 => kN _ _ st6 ⟨z, rfl, hz⟩⟩
      intro L acc H5 nL st5 hL hl hy
      obtain ⟨ss, rfl⟩ := strs_of fun y hy' => (hy y hy').imp fun z h => h.1
      have hss : From pool ss := fun z hz => by
        obtain ⟨z', e, hz'⟩ := hy (.str z) (List.mem_map_of_mem hz)
        cases e
        exact fw _ hz'
      have lss : ss.length ≤ 5 := by rw [List.length_map] at hl; omega
      have st15 := st14.trans st5
      have hB := (hB.step st4).step st5
      have hC := (hC.step st4).step st5
      refine ⟨_, rfl, _, rfl, by show 2 ≤ sizeLine; decide, fun q nq => ?_⟩
      refine pick_cat (us := ["time", "time"]) st15.deal hC (List.cons_ne_nil _ _) (by simp; omega) (fun e' H6 he st6 => ?_) q nq
      refine ⟨_, rfl, _, rfl, by show 1 ≤ sizeLine; decide, fun q nq => ?_⟩
      have st16 := st15.trans st6
      refine pick_cat (us := ["same"]) st16.deal (hB.step st6) (List.cons_ne_nil _ _) (by simp; omega) (fun t' H7 ht st7 => ?_) q nq
      refine ⟨_, _, rfl, ?_⟩
      have st17 := st16.trans st7
      have hL7 := (hL.step st6).step st7
      refine ⟨_, rfl, _, rfl, _, rfl, _, rfl, _, rfl, by show 6 ≤ sizeLine; decide, fun a na => ?_⟩
      have s8 : Same H7 (upd H7 a (.tup [.str "lead", .str m', .str p', .str e', .str t', .ref L])) := Sn na
      have he' : e' ∈ pool ∨ e' = ("time" : Str) := by
        rcases List.mem_append.mp he with h | h
        · exact .inl (fw _ h)
        · rcases List.mem_cons.mp h with h | h
          · exact .inr h
          · exact .inr (List.mem_singleton.mp h)
      refine k _ _ (.lead m' p' e' t' ss) (st17.sm s8) ⟨⟨a, L, L, rfl, upd_same, fun _ => ⟨hL7.sm s8, st14.ne_of hRn nL⟩, fun h => nomatch h⟩, ⟨(in_or hm).imp (fm _) id, (in_or hp).imp (fp _) id, he', (in_or ht).imp (fp _) id, lss, hss⟩⟩ (.inl ⟨_, _, _, _, _, rfl, in_or hm⟩)
    · refine ⟨_, rfl, _, rfl, by show 4 ≤ sizeLine; decide, fun q nq => ?_⟩
      refine pick_cat (us := ["build", "leave", "work", "wipe"]) st1.deal hC (List.cons_ne_nil _ _) (by simp; omega) (fun e' H2 he st2 => ?_) q nq
      have st12 := st1.trans st2
      have hC := hC.step st2
      refine ⟨_, rfl, D, G, 4, rfl, st12.deal, by decide, by decide, fun H4 n hn st4 => ⟨n, rfl, by omega, by omega, ?_⟩⟩
      have st14 := st12.trans st4
      refine lc_draws st14.deal (show ((n : Int)).toNat ≤ 1000 by omega) (fun y => ∃ z : Str, y = .str z ∧ z ∈ tests) ?_ ?_
      · intro i H5 N M st5 kN
        exact ⟨rfl, _, rfl, _, rfl, D, G, C1, ws, rfl, st5.deal, (hC.step st4).step st5, fw, hwne, lw, fun H6 z hz st6 => kN _ _ st6 ⟨z, rfl, hz⟩⟩
      intro L acc H5 nL st5 hL hl hy
      obtain ⟨ts, rfl⟩ := strs_of fun y hy' => (hy y hy').imp fun z h => h.1
      have hts : From tests ts := fun z hz => by
        obtain ⟨z', e, hz'⟩ := hy (.str z) (List.mem_map_of_mem hz)
        cases e
        exact hz'
      have lts : ts.length ≤ 5 := by rw [List.length_map] at hl; omega
      have st15 := st14.trans st5
      have hC := (hC.step st4).step st5
      refine ⟨_, rfl, _, rfl, _, rfl, D, G, 6, rfl, st15.deal, by decide, by decide, fun H6 n2 hn2 st6 => ⟨n2, rfl, by omega, by omega, ?_⟩⟩
      have st16 := st15.trans st6
      refine lc_draws st16.deal (show ((n2 : Int)).toNat ≤ 1000 by omega) (fun y => ∃ z : Str, y = .str z ∧ z ∈ deeds) ?_ ?_
      · intro i H7 N M st7 kN
        exact ⟨rfl, _, rfl, _, rfl, D, G, C1, ws, rfl, st7.deal, (hC.step st6).step st7, fw, hwne, lw, fun H8 z hz st8 => kN _ _ st8 ⟨z, rfl, hz⟩⟩
      intro L2 acc2 H7 nL2 st7 hL2 hl2 hy2
      obtain ⟨ds, rfl⟩ := strs_of fun y hy' => (hy2 y hy').imp fun z h => h.1
      have hds : From deeds ds := fun z hz => by
        obtain ⟨z', e, hz'⟩ := hy2 (.str z) (List.mem_map_of_mem hz)
        cases e
        exact hz'
      have lds : ds.length ≤ 5 := by rw [List.length_map] at hl2; omega
      have st17 := st16.trans st7
      have hL7 := (hL.step st6).step st7
      refine ⟨L2, ds, rfl, SqL.of hL2.l, by omega, fun z hz => Nat.le_trans (len_deed (hds z hz)) (by decide), fun L3 H8 l s8 nL3 hL3 hl3 hm3 => ?_⟩
      refine ⟨by show 4 ≤ sizeLine; decide, fun a na => ?_⟩
      have s9 : Same H8 (upd H8 a (.tup [.str "house", .str e', .ref L, .ref L3])) := Sn na
      have he' : e' ∈ pool ∨ e' ∈ w_PLAIN_EVENTS := (List.mem_append.mp he).imp (fw _) fun h => h
      refine k _ _ (.house e' ts l) ((st17.sm s8).sm s9) ⟨⟨a, L, L3, rfl, upd_same, fun _ => ⟨(hL7.sm s8).sm s9, st14.ne_of hRn nL⟩, fun _ => ⟨(ls_of st17.deal nL3 hL3).sm s9, st17.ne_of hRn nL3⟩⟩, ⟨he', lts, hts, Nat.le_trans hl3 lds, fun z hz => hds z (hm3 z hz)⟩⟩ (.inr rfl)
end
end SB

set_option maxHeartbeats 2000000
namespace SB
open PySem PySem.Spec PyProof.Rows L2
open C8 (Cal Mak Met pe_c pe_mk pe_mt pe_mt0 pe_gc InsC call_isC)

section
variable {X : Cx}
/-- a tuple's item -/
def rIxU (K : PySem.W.Frag) : R2 := fun x y H Q => ∃ (p : Addr) (xs : List V) (i : Nat) (v : V), x = .ref p ∧ y = .int (i : Int) ∧ SqT K H p xs ∧ xs[i]? = some v ∧ Q v H
theorem ix_U : IxR X (rIxU X.K) := fun value slice pins s σ H x y v u Q I rx ry ⟨p, xs, i, z, ex, ey, S, hz, q⟩ hs => ix_tup value slice pins s σ H x y v u Q I rx ry ⟨p, xs, i, z, ex, ey, S, at_nat hz, q⟩ hs
end
section
variable {P : Program} {w : World} {K : PySem.W.Frag} {mg : Str → Option Value} {base : Heap}
variable {c : Cs} {D G : Addr}
def spMade (c : Cs) (K : PySem.W.Frag) : Sp := fun vs H Q _ => ∃ (v : V) (r : RD) (D G R : Addr), vs = [v] ∧ DrR D G R H v r ∧ ∀ v' H', Same H H' → RowAt c K H' v' r → Q v' H'
theorem c_law_made (Y : Ty K mg c) : Cal P w K mg base 6 "_law_made" (spMade c K) [] := by
  refine Y.x.g_law_made.cal sc_law_made (fun vs H Q E h => ?_) (fun f cdv A outer s H vs Q E hr h => ?_) (fun _ _ _ _ _ _ us hl => match us, hl with | [_], _ => rfl)
  · obtain ⟨v, r, D, G, R, rfl, hr2, k⟩ := h
    rfl
  · obtain ⟨v, r, D, G, R, rfl, hr2, k⟩ := h
    have T := Y.x
    refine ⟨_, (pss_cons (ps_if (pt_cmpR op_eq (pe_ix (r := rIxU K) ix_U (pv 0) pe_int (fun _ _ => rfl)) pe_str (nomark _)) (pss_one (ps_ret (pe_mk (mk_first Y) hr (by decide) (by rfl) (pa_cons (pe_ix (r := rIxU K) ix_U (pv 0) pe_int (fun _ _ => rfl)) pa_nil)))) pss_nil) (pss_cons (ps_if (pt_cmpR op_eq (pe_ix (r := rIxU K) ix_U (pv 0) pe_int (fun _ _ => rfl)) pe_str (nomark _)) (pss_one (ps_ret (pe_mk (mk_mode Y) hr (by decide) (by rfl) (pa_cons (pe_ix (r := rIxU K) ix_U (pv 0) pe_int (fun _ _ => rfl)) (pa_cons (pe_ix (r := rIxU K) ix_U (pv 0) pe_int (fun _ _ => rfl)) (pa_cons (pe_ix (r := rIxU K) ix_U (pv 0) pe_int (fun _ _ => rfl)) pa_nil)))))) pss_nil) (pss_cons (ps_if (pt_cmpR op_eq (pe_ix (r := rIxU K) ix_U (pv 0) pe_int (fun _ _ => rfl)) pe_str (nomark _)) (pss_one (ps_ret (pe_mk (mk_turn Y) hr (by decide) (by rfl) (pa_cons (pe_ix (r := rIxU K) ix_U (pv 0) pe_int (fun _ _ => rfl)) (pa_cons (pe_ix (r := rIxU K) ix_U (pv 0) pe_int (fun _ _ => rfl)) (pa_cons (pe_ix (r := rIxU K) ix_U (pv 0) pe_int (fun _ _ => rfl)) (pa_cons (pe_ix (r := rIxU K) ix_U (pv 0) pe_int (fun _ _ => rfl)) pa_nil))))))) pss_nil) (pss_cons (ps_if (pt_cmpR op_eq (pe_ix (r := rIxU K) ix_U (pv 0) pe_int (fun _ _ => rfl)) pe_str (nomark _)) (pss_one (ps_ret (pe_mk (mk_lead Y) hr (by decide) (by rfl) (pa_cons (pe_ix (r := rIxU K) ix_U (pv 0) pe_int (fun _ _ => rfl)) (pa_cons (pe_ix (r := rIxU K) ix_U (pv 0) pe_int (fun _ _ => rfl)) (pa_cons (pe_ix (r := rIxU K) ix_U (pv 0) pe_int (fun _ _ => rfl)) (pa_cons (pe_ix (r := rIxU K) ix_U (pv 0) pe_int (fun _ _ => rfl)) (pa_cons (pe_ix (r := rIxU K) ix_U (pv 0) pe_int (fun _ _ => rfl)) pa_nil)))))))) pss_nil) (pss_one (ps_ret (pe_mk (mk_house Y) hr (by decide) (by rfl) (pa_cons (pe_ix (r := rIxU K) ix_U (pv 0) pe_int (fun _ _ => rfl)) (pa_cons (pe_ix (r := rIxU K) ix_U (pv 0) pe_int (fun _ _ => rfl)) (pa_cons (pe_ix (r := rIxU K) ix_U (pv 0) pe_int (fun _ _ => rfl)) pa_nil)))))))))), ?_⟩
    obtain ⟨⟨a, t, u, rfl, ha, h1, h2⟩, ho⟩ := hr2
    cases r with
    | first p =>
      refine ⟨_, rfl, a, _, 0, _, rfl, rfl, .inl (.inl ha), rfl, rfl, true, congrArg V.bl (decide_eq_true rfl), iteT ?_⟩
      refine ⟨_, rfl, a, _, 1, _, rfl, rfl, .inl (.inl ha), rfl, ?_⟩
      intro x dx nx nd hne
      exact ⟨x, dx, p, rfl, upd_same, ho, initE_use nx nd fun v H' s' hv => k v H' s' hv⟩
    | mode n pr es =>
      refine ⟨_, rfl, a, _, 0, _, rfl, rfl, .inl (.inl ha), rfl, rfl, false, congrArg V.bl (sA (by decide +kernel)), iteF ?_⟩
      refine ⟨_, rfl, a, _, 0, _, rfl, rfl, .inl (.inl ha), rfl, rfl, true, congrArg V.bl (decide_eq_true rfl), iteT ?_⟩
      refine ⟨_, rfl, a, _, 1, _, rfl, rfl, .inl (.inl ha), rfl, _, rfl, a, _, 2, _, rfl, rfl, .inl (.inl ha), rfl, _, rfl, a, _, 3, _, rfl, rfl, .inl (.inl ha), rfl, ?_⟩
      intro x dx nx nd hne
      exact ⟨x, dx, t, n, pr, es, rfl, upd_same, ho, samA (same_mk nx nd) (lstA (h1 rfl).1.l), initE_use nx nd fun v H' s' hv => k v H' s' hv⟩
    | turn m' w' ps th =>
      refine ⟨_, rfl, a, _, 0, _, rfl, rfl, .inl (.inl ha), rfl, rfl, false, congrArg V.bl (sA (by decide +kernel)), iteF ?_⟩
      refine ⟨_, rfl, a, _, 0, _, rfl, rfl, .inl (.inl ha), rfl, rfl, false, congrArg V.bl (sA (by decide +kernel)), iteF ?_⟩
      refine ⟨_, rfl, a, _, 0, _, rfl, rfl, .inl (.inl ha), rfl, rfl, true, congrArg V.bl (decide_eq_true rfl), iteT ?_⟩
      refine ⟨_, rfl, a, _, 1, _, rfl, rfl, .inl (.inl ha), rfl, _, rfl, a, _, 2, _, rfl, rfl, .inl (.inl ha), rfl, _, rfl, a, _, 3, _, rfl, rfl, .inl (.inl ha), rfl, _, rfl, a, _, 4, _, rfl, rfl, .inl (.inl ha), rfl, ?_⟩
      intro x dx nx nd hne
      exact ⟨x, dx, t, m', w', ps, th, rfl, upd_same, ho, samA (same_mk nx nd) (lstA (h1 rfl).1.l), initE_use nx nd fun v H' s' hv => k v H' s' hv⟩
    | lead m' p' e' th ss =>
      refine ⟨_, rfl, a, _, 0, _, rfl, rfl, .inl (.inl ha), rfl, rfl, false, congrArg V.bl (sA (by decide +kernel)), iteF ?_⟩
      refine ⟨_, rfl, a, _, 0, _, rfl, rfl, .inl (.inl ha), rfl, rfl, false, congrArg V.bl (sA (by decide +kernel)), iteF ?_⟩
      refine ⟨_, rfl, a, _, 0, _, rfl, rfl, .inl (.inl ha), rfl, rfl, false, congrArg V.bl (sA (by decide +kernel)), iteF ?_⟩
      refine ⟨_, rfl, a, _, 0, _, rfl, rfl, .inl (.inl ha), rfl, rfl, true, congrArg V.bl (decide_eq_true rfl), iteT ?_⟩
      refine ⟨_, rfl, a, _, 1, _, rfl, rfl, .inl (.inl ha), rfl, _, rfl, a, _, 2, _, rfl, rfl, .inl (.inl ha), rfl, _, rfl, a, _, 3, _, rfl, rfl, .inl (.inl ha), rfl, _, rfl, a, _, 4, _, rfl, rfl, .inl (.inl ha), rfl, _, rfl, a, _, 5, _, rfl, rfl, .inl (.inl ha), rfl, ?_⟩
      intro x dx nx nd hne
      exact ⟨x, dx, t, m', p', e', th, ss, rfl, upd_same, ho, samA (same_mk nx nd) (lstA (h1 rfl).1.l), initE_use nx nd fun v H' s' hv => k v H' s' hv⟩
    | house e' ts ds =>
      refine ⟨_, rfl, a, _, 0, _, rfl, rfl, .inl (.inl ha), rfl, rfl, false, congrArg V.bl (sA (by decide +kernel)), iteF ?_⟩
      refine ⟨_, rfl, a, _, 0, _, rfl, rfl, .inl (.inl ha), rfl, rfl, false, congrArg V.bl (sA (by decide +kernel)), iteF ?_⟩
      refine ⟨_, rfl, a, _, 0, _, rfl, rfl, .inl (.inl ha), rfl, rfl, false, congrArg V.bl (sA (by decide +kernel)), iteF ?_⟩
      refine ⟨_, rfl, a, _, 0, _, rfl, rfl, .inl (.inl ha), rfl, rfl, false, congrArg V.bl (sA (by decide +kernel)), iteF ?_⟩
      refine ⟨_, rfl, a, _, 1, _, rfl, rfl, .inl (.inl ha), rfl, _, rfl, a, _, 2, _, rfl, rfl, .inl (.inl ha), rfl, _, rfl, a, _, 3, _, rfl, rfl, .inl (.inl ha), rfl, ?_⟩
      intro x dx nx nd hne
      exact ⟨x, dx, t, u, e', ts, ds, rfl, upd_same, ho, samA (same_mk nx nd) (lstA (h1 rfl).1.l), samA (same_mk nx nd) (lstA (h2 rfl).1.l), initE_use nx nd fun v H' s' hv => k v H' s' hv⟩
/-- drawn rows, in a list -/
def DrRs (D G R : Addr) (H : Hp) (zs : List VR) : Prop := ∀ p ∈ zs, DrR D G R H p.1 p.2
/-- a list of drawn rows becomes a list of rows -/
theorem made_use {g : TG} {vs : List Nat} {σ : Sg} {H1 : Hp} {Q : VK} {a : Addr} {te : TE} (zs : List VR) (S : SqA K H1 a (zs.map (·.1))) (sz : zs.length ≤ 1000) {Rl : Addr} (R : DrRs D G Rl H1 zs)
    (hs : ∀ p H (N : VK), p ∈ zs → Same H1 H → (∀ v' H', Same H H' → RowAt c K H' v' p.2 → N v' H') → g p.1 (wipe σ vs) H fun σ2 H2 => wipe σ2 vs = wipe σ vs ∧ te σ2 H2 N)
    (hd : ∀ L ys H, H1 L = none → Same H1 H → H L = some (.lst (ys.map (·.1))) → RowsAt c K H ys → ys.map (·.2) = zs.map (·.2) → Q (.ref L) H) : SeqR K (LcR g tYes te vs σ Q) (.ref a) H1 := by
  refine lc_seq S (by rw [List.length_map]; exact Nat.lt_of_le_of_lt sz (by decide)) (fun D i acc H => ∃ ys : List VR, acc = ys.map (·.1) ∧ ys.map (·.2) = (zs.map (·.2)).take i ∧ RowsAt c K H ys) (fun D nD => ⟨[], rfl, rfl, fun _ h => nomatch h⟩) ?_ ?_
  · intro L i x acc H nL hx s1 hL pr N M kN kM
    obtain ⟨ys, rfl, e2, hR⟩ := pr
    rw [List.getElem?_map] at hx
    obtain ⟨p, hp, rfl⟩ := Option.map_eq_some_iff.mp hx
    have hp2 : (zs.map (·.2))[i]? = some p.2 := by rw [List.getElem?_map, hp]; rfl
    refine hs p H N (memi hp) s1 fun v' H' s' hv => kN v' H' s' ⟨ys ++ [(v', p.2)], by rw [List.map_append]; rfl, by rw [List.map_append, e2, take_more hp2]; rfl, fun q hq => ?_⟩
    rcases List.mem_append.mp hq with hq | hq
    · exact ⟨((hR q hq).1.sm s').im (im_lst (s' _ _ hL)), (hR q hq).2⟩
    · rw [List.mem_singleton.mp hq]
      exact ⟨hv.im (im_lst (s' _ _ hL)), (R p (memi hp)).ok⟩
  · intro L acc H nL s1 hL hl pr
    rw [List.length_map] at pr
    obtain ⟨ys, rfl, e2, hR⟩ := pr
    rw [List.take_of_length_le (by rw [List.length_map]; exact Nat.le_refl _)] at e2
    exact hd L ys H nL s1 hL hR e2
def spPlanOf (c : Cs) (K : PySem.W.Frag) : Sp := fun vs H Q _ => ∃ (a : Addr) (zs : List VR) (D G Rl : Addr), vs = [.ref a] ∧ SqA K H a (zs.map (·.1)) ∧ DrRs D G Rl H zs ∧ zs.length ≤ 100 ∧ Good (zs.map (·.2)) ∧ ∀ v ys o H', Same H H' → PlanAt c K H' v ys o → ys.map (·.2) = zs.map (·.2) → Q v H'
theorem c_law_plan_of (W : Wx K mg c) : Cal P w K mg base 7 "_law_plan_of" (spPlanOf c K) [] := by
  refine W.v.u.z.y.x.g_law_plan_of.cal sc_law_plan_of (fun vs H Q E h => ?_) (fun f cdv A outer s H vs Q E hr h => ?_) (fun _ _ _ _ _ _ us hl => match us, hl with | [_], _ => rfl)
  · obtain ⟨a, zs, D, G, Rl, rfl, S, R, sz, hG, k⟩ := h
    rfl
  · obtain ⟨a, zs, D, G, Rl, rfl, S, R, sz, hG, k⟩ := h
    have T := W.v.u.z.y.x
    refine ⟨_, (pss_one (ps_ret (pe_mk (mk_plan W) hr (by decide) (by rfl) (pa_cons (pe_lx (own := [("_law_row", 1)]) (g := gName 1) (tt := tYes) (by rfl) sc_law_plan_of.nd (pi_seq (pv 0)) (blkOk_by (N := n_law_plan_of) (sc := defScope s_law_plan_of) (by decide +kernel)) (fun _ _ _ _ _ => pg_name (i := 1) sc_law_plan_of.nd rfl (Or.inl rfl)) (fun _ _ _ _ _ => pts_nil) (fun _ _ _ _ _ => (pe_c (c_law_made W.v.u.z.y) hr (by decide) (by rfl) (pa_cons (pv 1) pa_nil)))) pa_nil)))), ?_⟩
    refine ⟨_, rfl, made_use (c := c) (D := D) (G := G) zs S (Nat.le_trans sz (by decide)) R ?_ ?_⟩
    · intro p H2 N hp s2 kN
      exact ⟨rfl, _, rfl, p.1, p.2, D, G, Rl, rfl, (R p hp).sm s2, fun v' H' s' hv => kN v' H' s' hv⟩
    intro L ys H1 nL s1 hL hR e
    have ly : ys.length ≤ 100 := by
      have q := congrArg List.length e
      rw [List.length_map, List.length_map] at q
      omega
    intro x dx nx nd hne
    refine ⟨x, dx, L, ys, rfl, upd_same, samA (same_mk nx nd) (lstA hL), hR.sm (same_mk nx nd), Nat.le_trans ly (by decide), by rw [e]; exact hG, planE_use nx nd hR fun v o H' s' hv => k v ys o H' (s1.trans s') hv e⟩
/-- a plan, all told -/
theorem plan8 {H : Hp} {v : V} {zs : List VR} {o : PV} (h : PlanAt c K H v zs o) : ∃ (a dx t0 t1 t2 t3 t4 t5 t6 t7 : Addr), v = .ref a ∧ H a = some (.ins c.plan dx (ob kPlan [.ref t0, .ref t1, .ref t2, .ref t3, .ref t4, .ref t5, .ref t6, .ref t7])) ∧
    SqT K H t0 (zs.map (·.1)) ∧ SqT K H t1 (sv (namesOf (zs.map (·.2)))) ∧ SqT K H t2 (sv (firstsOf (zs.map (·.2)))) ∧ SqT K H t3 ((zs.filter fun p => isTurn p.2).map (·.1)) ∧ SqT K H t4 (sv o.pl) ∧ SqT K H t5 (sv o.ph) ∧ SqT K H t6 (sv o.mr) ∧ SqT K H t7 (sv o.lt) := by
  obtain ⟨a, dx, ts, e, h1, h2, h3, h4, h5⟩ := h
  match ts, h2 with
  | [t0, t1, t2, t3, t4, t5, t6, t7], _ =>
    have g : ∀ p, p ∈ [t0, t1, t2, t3, t4, t5, t6, t7].zip (pts8 zs o) → SqT K H p.1 p.2 := h3
    have m0 := g (t0, _) List.mem_cons_self
    have m1 := g (t1, _) (List.mem_cons_of_mem _ List.mem_cons_self)
    have m2 := g (t2, _) (List.mem_cons_of_mem _ (List.mem_cons_of_mem _ List.mem_cons_self))
    have m3 := g (t3, _) (List.mem_cons_of_mem _ (List.mem_cons_of_mem _ (List.mem_cons_of_mem _ List.mem_cons_self)))
    have m4 := g (t4, _) (List.mem_cons_of_mem _ (List.mem_cons_of_mem _ (List.mem_cons_of_mem _ (List.mem_cons_of_mem _ List.mem_cons_self))))
    have m5 := g (t5, _) (List.mem_cons_of_mem _ (List.mem_cons_of_mem _ (List.mem_cons_of_mem _ (List.mem_cons_of_mem _ (List.mem_cons_of_mem _ List.mem_cons_self)))))
    have m6 := g (t6, _) (List.mem_cons_of_mem _ (List.mem_cons_of_mem _ (List.mem_cons_of_mem _ (List.mem_cons_of_mem _ (List.mem_cons_of_mem _ (List.mem_cons_of_mem _ List.mem_cons_self))))))
    have m7 := g (t7, _) (List.mem_cons_of_mem _ (List.mem_cons_of_mem _ (List.mem_cons_of_mem _ (List.mem_cons_of_mem _ (List.mem_cons_of_mem _ (List.mem_cons_of_mem _ (List.mem_cons_of_mem _ List.mem_cons_self)))))))
    exact ⟨a, dx, t0, t1, t2, t3, t4, t5, t6, t7, e, h1, m0, m1, m2, m3, m4, m5, m6, m7⟩
structure PVsub (o o' : PV) : Prop where
  pl : From o'.pl o.pl
  ph : From o'.ph o.ph
  mr : From o'.mr o.mr
  lt : From o'.lt o.lt
def spWithin (c : Cs) (K : PySem.W.Frag) : Sp := fun vs H Q _ => ∃ (v u : V) (zs ys : List VR) (o o' : PV), vs = [v, u] ∧ PlanAt c K H v zs o ∧ PlanAt c K H u ys o' ∧ PVsub o o' ∧ (o.pl.length ≤ 1000 ∧ o.ph.length ≤ 1000 ∧ o.mr.length ≤ 1000 ∧ o.lt.length ≤ 1000) ∧ ∀ H', Same H H' → Q (.bl true) H'
/-- [w for w in one if w not in other] where there is none -/
theorem none_off {g : TG} {tt : TT} {te : TE} {vs : List Nat} {σ : Sg} {H1 : Hp} {Q : VK} {a : Addr} {ws us : List Str} (S : SqA K H1 a (sv ws)) (sz : ws.length ≤ 1000) (hf : From us ws)
    (hs : ∀ z H (N : VK) (M : Hp → Prop), z ∈ ws → Same H1 H → (∀ H', Same H H' → (!us.contains z) = true → N (.str z) H') → (∀ H', Same H H' → (!us.contains z) = false → M H') → g (.str z) (wipe σ vs) H fun σ2 H2 => wipe σ2 vs = wipe σ vs ∧ tt σ2 H2 fun b H3 => if b = true then te σ2 H3 N else M H3)
    (hd : ∀ L H, Same H1 H → H L = some (.lst []) → Q (.ref L) H) : SeqR K (LcR g tt te vs σ Q) (.ref a) H1 := by
  refine filt_use (ws := ws) (fun z => !us.contains z) S (Nat.le_trans sz (by decide)) hs fun L H nL s hL => hd L H s ?_
  have e : ws.filter (fun z => !us.contains z) = [] := List.filter_eq_nil_iff.mpr fun z hz => by rw [List.contains_iff_mem.mpr (hf z hz)]; decide
  rw [e] at hL
  exact hL
theorem c_law_within (W : Wx K mg c) : Cal P w K mg base 1 "_law_within" (spWithin c K) [] := by
  refine W.v.u.z.y.x.g_law_within.cal sc_law_within (fun vs H Q E h => ?_) (fun f cdv A outer s H vs Q E hr h => ?_) (fun _ _ _ _ _ _ us hl => match us, hl with | [_, _], _ => rfl)
  · obtain ⟨v, u, zs, ys, o, o2, rfl, hv, hu, sub, lens, k⟩ := h
    rfl
  · obtain ⟨v, u, zs, ys, o, o2, rfl, hv, hu, sub, lens, k⟩ := h
    have T := W.v.u.z.y.x
    refine ⟨_, (pss_cons (ps_for PassesOwn.never rfl (pi_seq (pe_tup (pa_cons (pe_tup (pa_cons (pe_fo (ks := kPlan) 4 (pv 0) W.k_plan.cl (W.k_plan.na "places" (by decide +kernel)) (by decide +kernel)) (pa_cons (pe_fo (ks := kPlan) 4 (pv 1) W.k_plan.cl (W.k_plan.na "places" (by decide +kernel)) (by decide +kernel)) pa_nil))) (pa_cons (pe_tup (pa_cons (pe_fo (ks := kPlan) 5 (pv 0) W.k_plan.cl (W.k_plan.na "phases" (by decide +kernel)) (by decide +kernel)) (pa_cons (pe_fo (ks := kPlan) 5 (pv 1) W.k_plan.cl (W.k_plan.na "phases" (by decide +kernel)) (by decide +kernel)) pa_nil))) (pa_cons (pe_tup (pa_cons (pe_fo (ks := kPlan) 6 (pv 0) W.k_plan.cl (W.k_plan.na "marks" (by decide +kernel)) (by decide +kernel)) (pa_cons (pe_fo (ks := kPlan) 6 (pv 1) W.k_plan.cl (W.k_plan.na "marks" (by decide +kernel)) (by decide +kernel)) pa_nil))) pa_nil))))) (pg_tup rfl (pgs_cons (pg_name (i := 2) sc_law_within.nd rfl (Or.inl rfl)) (pgs_cons (pg_name (i := 3) sc_law_within.nd rfl (Or.inr rfl)) pgs_nil))) (pss_one (ps_if (pt_cmpR (op_neNil hr.units0) (pe_lx (own := [("_law_word", 4)]) (g := gName 4) (by rfl) sc_law_within.nd (pi_seq (pv 2)) (blkOk_by (N := n_law_within) (sc := defScope s_law_within) (by decide +kernel)) (fun _ _ _ _ _ => pg_name (i := 4) sc_law_within.nd rfl (Or.inl rfl)) (fun _ _ _ _ _ => pts_one (pt_cmpR (r := rInW K true) op_niW (pv 4) (pv 3) (by rfl))) (fun _ _ _ _ _ => (pv 4))) (pe_lst pa_nil) (nomark _)) (pss_one (ps_ret pe_bl)) pss_nil))) (pss_one (ps_ret (pe_cmpR (op_eqSS hr.units) (pe_lx (own := [("_law_word", 4)]) (g := gName 4) (by rfl) sc_law_within.nd (pi_seq (pe_fo (ks := kPlan) 7 (pv 0) W.k_plan.cl (W.k_plan.na "letters" (by decide +kernel)) (by decide +kernel))) (blkOk_by (N := n_law_within) (sc := defScope s_law_within) (by decide +kernel)) (fun _ _ _ _ _ => pg_name (i := 4) sc_law_within.nd rfl (Or.inl rfl)) (fun _ _ _ _ _ => pts_one (pt_cmpR (r := rInW K true) op_niW (pv 4) (pe_fo (ks := kPlan) 7 (pv 1) W.k_plan.cl (W.k_plan.na "letters" (by decide +kernel)) (by decide +kernel)) (by rfl))) (fun _ _ _ _ _ => (pv 4))) (pe_lst pa_nil) (nomark _))))), ?_⟩
    obtain ⟨a, dx, p0, p1, p2, p3, p4, p5, p6, p7, rfl, ha, _, _, _, _, A4, A5, A6, A7⟩ := plan8 hv
    obtain ⟨b, dy, q0, q1, q2, q3, q4, q5, q6, q7, rfl, hb, _, _, _, _, B4, B5, B6, B7⟩ := plan8 hu
    obtain ⟨l4, l5, l6, l7⟩ := lens
    have f2 : ∀ i j : Nat, True := fun _ _ => trivial
    refine ⟨_, rfl, a, dx, _, _, rfl, ha, rfl, _, rfl, b, dy, _, _, rfl, hb, rfl, by show 2 ≤ sizeLine; decide, fun x1 n1 => ?_⟩
    have s1 : Same H (upd H x1 (.tup [.ref p4, .ref q4])) := Sn n1
    refine ⟨_, rfl, a, dx, _, _, rfl, s1 _ _ ha, rfl, _, rfl, b, dy, _, _, rfl, s1 _ _ hb, rfl, by show 2 ≤ sizeLine; decide, fun x2 n2 => ?_⟩
    have s2 : Same H (upd (upd H x1 (.tup [.ref p4, .ref q4])) x2 (.tup [.ref p5, .ref q5])) := s1.trans (Sn n2)
    refine ⟨_, rfl, a, dx, _, _, rfl, s2 _ _ ha, rfl, _, rfl, b, dy, _, _, rfl, s2 _ _ hb, rfl, by show 2 ≤ sizeLine; decide, fun x3 n3 => ?_⟩
    have s3 : Same H (upd (upd (upd H x1 (.tup [.ref p4, .ref q4])) x2 (.tup [.ref p5, .ref q5])) x3 (.tup [.ref p6, .ref q6])) := s2.trans (Sn n3)
    have h1 : (upd (upd (upd H x1 (.tup [.ref p4, .ref q4])) x2 (.tup [.ref p5, .ref q5])) x3 (.tup [.ref p6, .ref q6])) x1 = some (.tup [.ref p4, .ref q4]) := (Sn n3) _ _ ((Sn n2) _ _ upd_same)
    have h2 : (upd (upd (upd H x1 (.tup [.ref p4, .ref q4])) x2 (.tup [.ref p5, .ref q5])) x3 (.tup [.ref p6, .ref q6])) x2 = some (.tup [.ref p5, .ref q5]) := (Sn n3) _ _ upd_same
    have h3 : (upd (upd (upd H x1 (.tup [.ref p4, .ref q4])) x2 (.tup [.ref p5, .ref q5])) x3 (.tup [.ref p6, .ref q6])) x3 = some (.tup [.ref p6, .ref q6]) := upd_same
    generalize upd (upd (upd H x1 (.tup [.ref p4, .ref q4])) x2 (.tup [.ref p5, .ref q5])) x3 (.tup [.ref p6, .ref q6]) = H3 at s3 h1 h2 h3 ⊢
    refine ⟨by show 3 ≤ sizeLine; decide, fun x4 n4 => ?_⟩
    have s4 : Same H (upd H3 x4 (.tup [.ref x1, .ref x2, .ref x3])) := s3.trans (Sn n4)
    refine for_seq (H0 := upd H3 x4 (.tup [.ref x1, .ref x2, .ref x3])) (xs := [.ref x1, .ref x2, .ref x3]) (tupA upd_same) (fun i σ H' => ∃ y2 y3, σ = [some (.ref a), some (.ref b), y2, y3, none] ∧ Same (upd H3 x4 (.tup [.ref x1, .ref x2, .ref x3])) H') ⟨none, none, rfl, Same.refl _⟩ (fun i σ' H' ⟨_, _, _, s⟩ => Kp.same s) ?_ ?_
    · rintro i x σ' H' hx ⟨y2, y3, rfl, s5⟩
      have one : ∀ (xt pa pb : Addr) (ws us : List Str), H3 xt = some (.tup [.ref pa, .ref pb]) → SqT K H pa (sv ws) → SqT K H pb (sv us) → From us ws → ws.length ≤ 1000 → x = .ref xt → ∃ xt pa pb ws us, x = .ref xt ∧ SqT K H' xt [.ref pa, .ref pb] ∧ SqT K H' pa (sv ws) ∧ SqT K H' pb (sv us) ∧ From us ws ∧ ws.length ≤ 1000 :=
        fun xt pa pb ws us e S1 S2 hf hl ex => ⟨xt, pa, pb, ws, us, ex, SqT.of (s5 _ _ ((Sn n4) _ _ e)), samT (s4.trans s5) S1, samT (s4.trans s5) S2, hf, hl⟩
      have all : ∃ xt pa pb ws us, x = .ref xt ∧ SqT K H' xt [.ref pa, .ref pb] ∧ SqT K H' pa (sv ws) ∧ SqT K H' pb (sv us) ∧ From us ws ∧ ws.length ≤ 1000 := by
        match i, hx with
        | 0, hx => exact one x1 p4 q4 _ _ h1 A4 B4 sub.pl l4 (Option.some.inj hx).symm
        | 1, hx => exact one x2 p5 q5 _ _ h2 A5 B5 sub.ph l5 (Option.some.inj hx).symm
        | 2, hx => exact one x3 p6 q6 _ _ h3 A6 B6 sub.mr l6 (Option.some.inj hx).symm
        | i + 3, hx => simp at hx
      obtain ⟨xt, pa, pb, ws, us, rfl, S1, S2, S3, hf, hl⟩ := all
      refine ⟨xt, _, rfl, S1, rfl, _, _, rfl, _, _, rfl, rfl, ?_⟩
      refine ⟨_, rfl, none_off (.inr S2) hl hf ?_ ?_⟩
      · intro z H6 N M hz s6 kN kM
        refine ⟨rfl, _, rfl, _, rfl, z, pb, us, rfl, rfl, .inr (samT s6 S3), _, rfl, ?_⟩
        refine ite2 (fun hc => ?_) (fun hc => ?_)
        · exact ⟨_, rfl, kN _ (Same.refl _) hc⟩
        · exact kM _ (Same.refl _) (Bool.eq_false_iff.mpr hc)
      intro L H6 s6 hL
      refine ⟨Nat.zero_le _, fun e ne => ⟨L, e, [], rfl, rfl, SqL.of ((Sn ne) _ _ hL), upd_same, false, rfl, iteF ⟨_, _, rfl, s5.trans (s6.trans (Sn ne))⟩⟩⟩
    · rintro σ' H' ⟨y2, y3, rfl, s5⟩
      have s45 := s4.trans s5
      refine ⟨_, rfl, a, dx, _, _, rfl, s45 _ _ ha, rfl, none_off (.inr (samT s45 A7)) l7 sub.lt ?_ ?_⟩
      · intro z H6 N M hz s6 kN kM
        have s46 := s45.trans s6
        refine ⟨rfl, _, rfl, _, rfl, b, dy, _, _, rfl, s46 _ _ hb, rfl, z, q7, o2.lt, rfl, rfl, .inr (samT s46 B7), _, rfl, ?_⟩
        refine ite2 (fun hc => ?_) (fun hc => ?_)
        · exact ⟨_, rfl, kN _ (Same.refl _) hc⟩
        · exact kM _ (Same.refl _) (Bool.eq_false_iff.mpr hc)
      intro L H6 s6 hL
      refine ⟨Nat.zero_le _, fun e ne => ⟨L, e, [], [], rfl, rfl, .inr ⟨SqL.of ((Sn ne) _ _ hL), SqL.of upd_same⟩, cp_nil, cp_nil, ?_⟩⟩
      exact k _ ((s45.trans s6).trans (Sn ne))
end
end SB

set_option maxHeartbeats 2000000
/-! Drawn rows make a good plan: the plain part. -/
namespace SB
open PySem PySem.Spec PyProof.Rows L2
theorem fm_snoc {α : Type} (f : RD → Option α) (rs : List RD) (r : RD) : (rs ++ [r]).filterMap f = rs.filterMap f ++ (f r).toList := by
  have e : [r].filterMap f = (f r).toList := by
    cases h : f r with
    | none => rw [List.filterMap_cons, h]; rfl
    | some x => rw [List.filterMap_cons, h]; rfl
  rw [List.filterMap_append, e]
theorem firsts_snoc (rs : List RD) (r : RD) : firstsOf (rs ++ [r]) = firstsOf rs ++ (firstOf r).toList := fm_snoc _ _ _
theorem modes_snoc (rs : List RD) (r : RD) : modesOf (rs ++ [r]) = modesOf rs ++ (modeOf r).toList := fm_snoc _ _ _
theorem turns_snoc (rs : List RD) (r : RD) : turnsOf (rs ++ [r]) = turnsOf rs ++ (turnOf r).toList := fm_snoc _ _ _
theorem leads_snoc (rs : List RD) (r : RD) : leadsM (rs ++ [r]) = leadsM rs ++ (leadMOf r).toList := fm_snoc _ _ _
theorem names_snoc (rs : List RD) (r : RD) : namesOf (rs ++ [r]) = namesOf rs ++ ((modeOf r).toList).map (·.1) := by
  unfold namesOf; rw [modes_snoc, List.map_append]
theorem idx_at : ∀ {l : List Str} {a : Nat} {z : Str}, l.Nodup → l[a]? = some z → l.idxOf z = a
  | [], _, _, _, h => by simp at h
  | x :: l, 0, z, _, h => by
    have e : x = z := Option.some.inj h
    subst e
    rw [List.idxOf_cons, beq_self_eq_true]; rfl
  | x :: l, a + 1, z, nd, h => by
    obtain ⟨hx, nd'⟩ := List.nodup_cons.mp nd
    have h' : l[a]? = some z := h
    have hne : (x == z) = false := beq_eq_false_iff_ne.mpr fun e => hx (e ▸ List.mem_of_getElem? h')
    rw [List.idxOf_cons, hne, idx_at nd' h']; rfl
/-- the modes' rows are drawn -/
structure PM1 (modes : List Str) (i : Nat) (kvs : List (Key × V)) (rs : List RD) : Prop where
  n : namesOf rs = modes.take i
  f : firstsOf rs = []
  t : turnsOf rs = []
  l : leadsM rs = []
  len : rs.length = i
  kv : ∀ n q, (n, q) ∈ modesOf rs → valV kvs (.inr n) = some (optV q)
theorem PM1.put {modes : List Str} {i : Nat} {kvs : List (Key × V)} {rs : List RD} {n : Str} {q : Option Str} {es : List Str} (h : PM1 modes i kvs rs) (nd : modes.Nodup) (hn : modes[i]? = some n) : PM1 modes (i + 1) (putK kvs (.inr n) (optV q)) (rs ++ [.mode n q es]) := by
  refine ⟨?_, by rw [firsts_snoc, h.f]; rfl, by rw [turns_snoc, h.t]; rfl, by rw [leads_snoc, h.l]; rfl, by rw [List.length_append, h.len]; rfl, fun n' q' hm => ?_⟩
  · rw [names_snoc, h.n, take_more hn]; rfl
  · rw [valV_put]
    rw [modes_snoc] at hm
    rcases List.mem_append.mp hm with hm | hm
    · have hin : n' ∈ modes.take i := by rw [← h.n]; exact List.mem_map_of_mem (f := fun p : Str × Option Str => p.1) hm
      have hne : ¬ (Sum.inr n' : Key) = .inr n := fun e => by
        have e' := Sum.inr.inj e
        subst e'
        obtain ⟨j, hj, ej⟩ := List.getElem_of_mem hin
        rw [List.length_take] at hj
        rw [List.getElem_take] at ej
        have hj2 : j < modes.length := by omega
        have a1 := idx_at nd (show modes[j]? = some n' by rw [List.getElem?_eq_getElem hj2, ej])
        have a2 := idx_at nd hn
        omega
      rw [if_neg hne]
      exact h.kv n' q' hm
    · have e : (n', q') = (n, q) := List.mem_singleton.mp hm
      cases e
      rw [if_pos rfl]
/-- all modes stand -/
structure PGo (modes : List Str) (kvs : List (Key × V)) (F : List Str) (k : Nat) (rs : List RD) : Prop where
  n : namesOf rs = modes
  f : firstsOf rs = F
  t : ∀ p ∈ turnsOf rs, (∃ (a b : Nat), a < b ∧ modes[a]? = some p.1 ∧ modes[b]? = some p.2) ∧ (p.1, none) ∈ modesOf rs
  l : ∀ m ∈ leadsM rs, m ∈ modes
  len : rs.length ≤ k
  kv : ∀ n q, (n, q) ∈ modesOf rs → valV kvs (.inr n) = some (optV q)
theorem PM1.all {modes : List Str} {kvs : List (Key × V)} {rs : List RD} (h : PM1 modes modes.length kvs rs) : PGo modes kvs [] modes.length rs := by
  obtain ⟨n, f, t, l, len, kv⟩ := h
  rw [List.take_length] at n
  exact ⟨n, f, by rw [t]; exact fun _ h => (nomatch h), by rw [l]; exact fun _ h => (nomatch h), Nat.le_of_eq len, kv⟩
section
variable {modes : List Str} {kvs : List (Key × V)} {F : List Str} {k : Nat} {rs : List RD}
theorem PGo.first (h : PGo modes kvs F k rs) (p : Str) : PGo modes kvs (F ++ [p]) (k + 1) (rs ++ [.first p]) := by
  have em : modesOf (rs ++ [.first p]) = modesOf rs := by rw [modes_snoc]; exact List.append_nil _
  have et : turnsOf (rs ++ [.first p]) = turnsOf rs := by rw [turns_snoc]; exact List.append_nil _
  have el : leadsM (rs ++ [.first p]) = leadsM rs := by rw [leads_snoc]; exact List.append_nil _
  refine ⟨by unfold namesOf; rw [em]; exact h.n, by rw [firsts_snoc, h.f]; rfl, by rw [et, em]; exact h.t, by rw [el]; exact h.l, by rw [List.length_append]; exact Nat.succ_le_succ h.len, by rw [em]; exact h.kv⟩
theorem PGo.turn (h : PGo modes kvs F k rs) {a b : Nat} {m t w : Str} {ps : List Str} (hab : a < b) (ha : modes[a]? = some m) (hb : modes[b]? = some t) (hv : valV kvs (.inr m) = some .non) : PGo modes kvs F (k + 1) (rs ++ [.turn m w ps t]) := by
  have em : modesOf (rs ++ [.turn m w ps t]) = modesOf rs := by rw [modes_snoc]; exact List.append_nil _
  have el : leadsM (rs ++ [.turn m w ps t]) = leadsM rs := by rw [leads_snoc]; exact List.append_nil _
  have hmm : (m, none) ∈ modesOf rs := by
    have hin : m ∈ namesOf rs := by rw [h.n]; exact List.mem_of_getElem? ha
    obtain ⟨⟨m', q⟩, hm, e⟩ := List.mem_map.mp hin
    have e' : m' = m := e
    subst e'
    have z := h.kv m' q hm
    rw [hv] at z
    cases q with
    | none => exact hm
    | some q => cases z
  refine ⟨by unfold namesOf; rw [em]; exact h.n, by rw [firsts_snoc, h.f]; exact List.append_nil _, fun p hp => ?_, by rw [el]; exact h.l, by rw [List.length_append]; exact Nat.succ_le_succ h.len, by rw [em]; exact h.kv⟩
  rw [turns_snoc] at hp
  rw [em]
  rcases List.mem_append.mp hp with hp | hp
  · exact h.t p hp
  · have e : p = (m, t) := List.mem_singleton.mp hp
    subst e
    exact ⟨⟨a, b, hab, ha, hb⟩, hmm⟩
theorem PGo.more (h : PGo modes kvs F k rs) {r : RD} (hr : (∃ m p e t ss, r = .lead m p e t ss ∧ (m ∈ modes ∨ m = ("any" : Str))) ∨ isHouse r = true) : PGo modes kvs F (k + 1) (rs ++ [r]) := by
  have hf : firstOf r = none ∧ modeOf r = none ∧ turnOf r = none ∧ ∀ m ∈ (leadMOf r).toList, m ∈ modes := by
    rcases hr with ⟨m, p, e, t, ss, rfl, hm⟩ | hr
    · refine ⟨rfl, rfl, rfl, fun z hz => ?_⟩
      have e : leadMOf (.lead m p e t ss) = if m = "any" then none else some m := rfl
      rw [e] at hz
      by_cases q : m = "any"
      · rw [if_pos q] at hz; cases hz
      · rw [if_neg q] at hz
        rw [List.mem_singleton.mp hz]
        exact hm.resolve_right q
    · cases r with
      | house _ _ _ => exact ⟨rfl, rfl, rfl, fun _ h => nomatch h⟩
      | first _ => cases hr
      | mode _ _ _ => cases hr
      | turn _ _ _ _ => cases hr
      | lead _ _ _ _ _ => cases hr
  obtain ⟨h1, h2, h3, h4⟩ := hf
  have em : modesOf (rs ++ [r]) = modesOf rs := by rw [modes_snoc, h2]; exact List.append_nil _
  refine ⟨by unfold namesOf; rw [em]; exact h.n, by rw [firsts_snoc, h1, h.f]; exact List.append_nil _, ?_, fun m hm => ?_, by rw [List.length_append]; exact Nat.succ_le_succ h.len, by rw [em]; exact h.kv⟩
  · rw [turns_snoc, h3, em]
    intro p hp
    exact h.t p ((List.mem_append.mp hp).elim id fun q => nomatch q)
  · rw [leads_snoc] at hm
    exact (List.mem_append.mp hm).elim (h.l m) (h4 m)
theorem PGo.weak {k' : Nat} (h : PGo modes kvs F k rs) (hk : k ≤ k') : PGo modes kvs F k' rs := ⟨h.n, h.f, h.t, h.l, Nat.le_trans h.len hk, h.kv⟩
theorem PGo.good (h : PGo modes kvs F k rs) (nd : modes.Nodup) (ne : modes ≠ []) (fd : F.Nodup) (fe : F ≠ []) : Good rs := by
  refine ⟨by rw [h.f]; exact fe, by rw [h.f]; exact fd, by rw [h.n]; exact ne, by rw [h.n]; exact nd, fun p hp => ?_, by rw [h.n]; exact h.l, fun p hp => (h.t p hp).2, ⟨fun z => modes.idxOf z, fun p hp => ?_⟩⟩
  · obtain ⟨⟨a, b, _, ha, hb⟩, _⟩ := h.t p hp
    rw [h.n]
    exact ⟨List.mem_of_getElem? ha, List.mem_of_getElem? hb⟩
  · obtain ⟨⟨a, b, hab, ha, hb⟩, _⟩ := h.t p hp
    show modes.idxOf p.1 < modes.idxOf p.2
    rw [idx_at nd ha, idx_at nd hb]
    exact hab
end
theorem good_perm {rs rs' : List RD} (p : rs.Perm rs') (G : Good rs) : Good rs' := by
  have pf : (firstsOf rs).Perm (firstsOf rs') := p.filterMap _
  have pm : (modesOf rs).Perm (modesOf rs') := p.filterMap _
  have pt : (turnsOf rs).Perm (turnsOf rs') := p.filterMap _
  have pl : (leadsM rs).Perm (leadsM rs') := p.filterMap _
  have pn : (namesOf rs).Perm (namesOf rs') := pm.map _
  obtain ⟨f1, f2, m1, m2, t1, l1, u, ⟨rank, r⟩⟩ := G
  refine ⟨fun e => f1 ?_, pf.nodup_iff.mp f2, fun e => m1 ?_, pn.nodup_iff.mp m2, fun q hq => ?_, fun m hm => pn.mem_iff.mp (l1 m (pl.mem_iff.mpr hm)), fun q hq => pm.mem_iff.mp (u q (pt.mem_iff.mpr hq)), ⟨rank, fun q hq => r q (pt.mem_iff.mpr hq)⟩⟩
  · rw [e] at pf; exact pf.eq_nil
  · rw [e] at pn; exact pn.eq_nil
  · obtain ⟨a, b⟩ := t1 q (pt.mem_iff.mpr hq)
    exact ⟨pn.mem_iff.mp a, pn.mem_iff.mp b⟩
/-- so many turns at most, behind so many modes -/
def tri (n : Nat) : Nat → Nat
  | 0 => 0
  | a + 1 => tri n a + (n - 1 - a)
theorem tri_le {n : Nat} (h : n ≤ 4) : tri n n ≤ 6 := by
  match n, h with
  | 0, _ => decide
  | 1, _ => decide
  | 2, _ => decide
  | 3, _ => decide
  | 4, _ => decide
/-! ### the lists of a plan that is drawn -/
structure LP (D G Mo Pl Wd R : Addr) (modes places words : List Str) (H : Hp) (zs : List VR) : Prop where
  m : LsAt D G H Mo (sv modes)
  p : LsAt D G H Pl (sv places)
  w : LsAt D G H Wd (sv words)
  r : LsAt D G H R (zs.map (·.1))
  rm : R ≠ Mo
  rp : R ≠ Pl
  rw : R ≠ Wd
  z : DrRs D G R H zs
section
variable {D G Mo Pl Wd R : Addr} {modes places words : List Str} {H H' : Hp} {zs : List VR}
theorem LP.step (h : LP D G Mo Pl Wd R modes places words H zs) (hd : DealAt D G H) (s : Step D G H H') : LP D G Mo Pl Wd R modes places words H' zs := ⟨h.m.step s, h.p.step s, h.w.step s, h.r.step s, h.rm, h.rp, h.rw, fun q hq => (h.z q hq).step hd s⟩
theorem LP.sm (h : LP D G Mo Pl Wd R modes places words H zs) (s : Same H H') : LP D G Mo Pl Wd R modes places words H' zs := ⟨h.m.sm s, h.p.sm s, h.w.sm s, h.r.sm s, h.rm, h.rp, h.rw, fun q hq => (h.z q hq).sm s⟩
theorem LsAt.updN {L x : Addr} {xs : List V} {o : HO} (h : LsAt D G H L xs) (n : L ≠ x) : LsAt D G (upd H x o) L xs := ⟨by rw [upd_ne n]; exact h.l, h.nd, h.ng⟩
theorem LP.put (h : LP D G Mo Pl Wd R modes places words H zs) {v : V} {r : RD} (hr : DrR D G R H v r) : LP D G Mo Pl Wd R modes places words (upd H R (.lst (zs.map (·.1) ++ [v]))) (zs ++ [(v, r)]) := by
  have one : ∀ {v : V} {r : RD} (o : HO), DrR D G R H v r → DrR D G R (upd H R o) v r := fun {v r} o hr => by
    obtain ⟨⟨a, t, u, e, h1, h2, h3⟩, ok⟩ := hr
    refine ⟨⟨a, t, u, e, ?_, fun q => ⟨(h2 q).1.updN (h2 q).2, (h2 q).2⟩, fun q => ⟨(h3 q).1.updN (h3 q).2, (h3 q).2⟩⟩, ok⟩
    rw [upd_ne (fun q => by rw [q, h.r.l] at h1; cases h1)]; exact h1
  refine ⟨h.m.updN (Ne.symm h.rm), h.p.updN (Ne.symm h.rp), h.w.updN (Ne.symm h.rw), ⟨by rw [upd_same, List.map_append]; rfl, h.r.nd, h.r.ng⟩, h.rm, h.rp, h.rw, fun q hq => ?_⟩
  rcases List.mem_append.mp hq with hq | hq
  · exact one _ (h.z q hq)
  · rw [List.mem_singleton.mp hq]; exact one _ hr
theorem LP.dict (h : LP D G Mo Pl Wd R modes places words H zs) {x : Addr} {kvs : List (Key × V)} {o : HO} (hx : H x = some (.dK kvs)) : LP D G Mo Pl Wd R modes places words (upd H x o) zs := by
  have ne : ∀ {L : Addr} {xs : List V}, LsAt D G H L xs → L ≠ x := fun {L xs} hL q => by
    have z := hL.l
    rw [q, hx] at z; cases z
  refine ⟨h.m.updN (ne h.m), h.p.updN (ne h.p), h.w.updN (ne h.w), h.r.updN (ne h.r), h.rm, h.rp, h.rw, fun q hq => ?_⟩
  obtain ⟨⟨a, t, u, e, h1, h2, h3⟩, ok⟩ := h.z q hq
  refine ⟨⟨a, t, u, e, ?_, fun q => ⟨(h2 q).1.updN (ne (h2 q).1), (h2 q).2⟩, fun q => ⟨(h3 q).1.updN (ne (h3 q).1), (h3 q).2⟩⟩, ok⟩
  rw [upd_ne (fun q => by rw [q, hx] at h1; cases h1)]; exact h1
end
end SB

set_option maxHeartbeats 2000000
namespace SB
open PySem PySem.Spec PyProof.Rows L2
open C8 (Cal Mak Met pe_c pe_mk pe_mt pe_mt0 pe_gc InsC call_isC)

section
variable {P : Program} {w : World} {K : PySem.W.Frag} {mg : Str → Option Value} {base : Heap}
variable {c : Cs}
def spLPlan (_ : Cs) (K : PySem.W.Frag) : Sp := fun vs H Q _ => ∃ (D G : Addr), vs = [.ref D, .int 16] ∧ DealAt D G H ∧ ∀ H' L R zs, Step D G H H' → LsAt D G H' L (zs.map (·.1)) → DrRs D G R H' zs → Good (zs.map (·.2)) → zs.length ≤ 16 → Q (.ref L) H'
/-- the names of a plan that is drawn -/
structure Gd (modes places words : List Str) : Prop where
  nd : modes.Nodup
  ne : modes ≠ []
  lm : modes.length ≤ 4
  fm : From pool modes
  pd : places.Nodup
  lp : places.length = 5
  fp : From pool places
  wn : words ≠ []
  lw : words.length ≤ 4
  fw : From pool words
theorem cut_mids {α : Type} (xs : List α) (a b : Nat) (ha : a ≤ xs.length) (hb : b ≤ xs.length) : cutW xs (some (a : Int)) (some (b : Int)) = (xs.drop a).take (b - a) := by
  unfold cutW
  rw [HT.sIx_nat, HT.sIx_nat, Nat.min_eq_left ha, Nat.min_eq_left hb]
theorem gd_of {nm : List Str} (p : nm.Perm pool) {i : Nat} (hi : i < 4) : Gd (nm.take (1 + i)) ((nm.drop 4).take 5) ((nm.drop 9).take 4) := by
  have nd : nm.Nodup := p.nodup_iff.mpr (by decide +kernel)
  have ln : nm.length = 15 := p.length_eq
  have f : ∀ {l : List Str}, l.Sublist nm → From pool l := fun h z hz => p.mem_iff.mp (h.subset hz)
  have s1 : (nm.take (1 + i)).Sublist nm := List.take_sublist _ _
  have s2 : ((nm.drop 4).take 5).Sublist nm := (List.take_sublist _ _).trans (List.drop_sublist _ _)
  have s3 : ((nm.drop 9).take 4).Sublist nm := (List.take_sublist _ _).trans (List.drop_sublist _ _)
  have l1 : (nm.take (1 + i)).length = 1 + i := by rw [List.length_take]; omega
  have l2 : ((nm.drop 4).take 5).length = 5 := by rw [List.length_take, List.length_drop]; omega
  have l3 : ((nm.drop 9).take 4).length = 4 := by rw [List.length_take, List.length_drop]; omega
  exact ⟨nd.sublist s1, fun e => (by rw [e] at l1; have l1' : 0 = 1 + i := l1; omega), by omega, f s1, nd.sublist s2, l2, f s2, fun e => (by rw [e] at l3; cases l3), by omega, f s3⟩
theorem cut_one {D G : Addr} {H : Hp} {q : Addr} {l : List Str} {i : Nat} (hd : DealAt D G H) (nq : H q = none) : LsAt D G (upd H q (.lst (cutV (sv l) none (some (1 + (i : Int)))))) q (sv (l.take (1 + i))) := by
  refine ls_of hd nq ?_
  rw [upd_same]
  exact congrArg (fun l => some (HO.lst l)) ((cutV_map V.str l none (some (1 + (i : Int)))).trans (congrArg sv (cut_to l (1 + i))))
theorem cut_facts {modes places words l : List Str} (g : Gd modes places words) (p : l.Perm places) (i : Nat) : l.take (1 + i) ≠ [] ∧ (l.take (1 + i)).length ≤ 5 ∧ From pool (l.take (1 + i)) ∧ (l.take (1 + i)).Nodup := by
  have ll : l.length = 5 := p.length_eq.trans g.lp
  refine ⟨fun e => ?_, by rw [List.length_take]; omega, fun z hz => g.fp z (p.mem_iff.mp (List.mem_of_mem_take hz)), (p.nodup_iff.mpr g.pd).sublist (List.take_sublist _ _)⟩
  have h := congrArg List.length e
  rw [List.length_take] at h
  have h' : min (1 + i) l.length = 0 := h
  omega
theorem len_putK_le (kvs : List (Key × V)) (k : Key) (v : V) : (putK kvs k v).length ≤ kvs.length + 1 := by
  unfold putK
  split
  · rw [List.length_map]; exact Nat.le_succ _
  · rw [List.length_append]; exact Nat.le_refl _
theorem opt_of {x : V} (h : x ∈ [V.non, .non, .str "made", .str "gone"]) : ∃ q : Option Str, x = optV q ∧ (q = none ∨ ∃ z, q = some z ∧ z ∈ w_PROMISES) := by
  rcases List.mem_cons.mp h with h | h
  · exact ⟨none, h, .inl rfl⟩
  rcases List.mem_cons.mp h with h | h
  · exact ⟨none, h, .inl rfl⟩
  rcases List.mem_cons.mp h with h | h
  · exact ⟨some "made", h, .inr ⟨_, rfl, by decide +kernel⟩⟩
  · exact ⟨some "gone", List.mem_singleton.mp h, .inr ⟨_, rfl, by decide +kernel⟩⟩
theorem Step.free {D G : Addr} {H H1 : Hp} {a : Addr} (s : Step D G H H1) (na : H1 a = none) : H a = none := by
  cases q : H a with
  | none => rfl
  | some o =>
    obtain ⟨n1, n2⟩ := s.deal.off na
    rw [s.ex a o n1 n2 q] at na; cases na
/-- for i, x in enumerate(xs): over a list that the body leaves as it is -/
theorem for_en {K : PySem.W.Frag} {a : Addr} {xs : List V} {g : TG} {tb : TS} {D : Ends} {σ : Sg} {H : Hp} (Pv : Nat → Sg → Hp → Prop) (h0 : Pv 0 σ H) (hl : ∀ i σ H, i ≤ xs.length → Pv i σ H → SqL K H a xs)
    (hs : ∀ (i : Nat) x σ H T, xs[i]? = some x → Pv i σ H → H T = none → g (.ref T) σ (upd H T (.tup [.int (i : Int), x])) fun σ2 H2 => tb { D with nx := Pv (i + 1), ct := Pv (i + 1), bk := D.nx } σ2 H2) (hd : ∀ σ H, Pv xs.length σ H → D.nx σ H) :
    ∃ W : Nat → Nat → Sg → Hp → Prop, (∃ m, W 0 m σ H) ∧ ∀ i m σ H, W i m σ H →
      ((Ite K a).stop i H ∧ D.nx σ H) ∨ ((Ite K a).go i H ∧ ∃ N : Sg → Hp → Prop, (∀ σ' H', N σ' H' → ∃ m', m' < m ∧ W (i + 1) m' σ' H') ∧ ∀ x H', (Ite K a).yld i H x H' → g x σ H' fun σ2 H2 => tb { D with nx := N, ct := N, bk := D.nx } σ2 H2) := by
  refine ⟨fun i m σ H => m = xs.length - i ∧ i ≤ xs.length ∧ Pv i σ H, ⟨xs.length, rfl, Nat.zero_le _, h0⟩, ?_⟩
  rintro i m σ H ⟨rfl, hi, p⟩
  have q := hl i σ H hi p
  by_cases hlt : i < xs.length
  · refine .inr ⟨⟨xs, xs[i], q, List.getElem?_eq_getElem hlt⟩, Pv (i + 1), fun σ' H' p' => ⟨xs.length - (i + 1), by omega, rfl, hlt, p'⟩, fun v H' y => ?_⟩
    obtain ⟨T, x, rfl, nT, rfl, hy⟩ := y
    exact hs i x σ H T (hy xs q) p nT
  · have e : i = xs.length := by omega
    subst e
    exact .inl ⟨⟨xs, q, Nat.le_refl _⟩, hd σ H p⟩
theorem PGo.val {modes F : List Str} {kvs : List (Key × V)} {k : Nat} {rs : List RD} {n : Str} (h : PGo modes kvs F k rs) (hn : n ∈ modes) : ∃ q, valV kvs (.inr n) = some (optV q) := by
  rw [← h.n] at hn
  obtain ⟨⟨n', q⟩, hm, e⟩ := List.mem_map.mp hn
  have e' : n' = n := e
  subst e'
  exact ⟨q, h.kv _ _ hm⟩
theorem way_of {x : V} (h : x ∈ [V.str "some", .str "all", .str "time"]) : ∃ w : Str, x = .str w ∧ (w = ("time" : Str) ∨ (w = ("some" : Str) ∨ w = ("all" : Str))) := by
  rcases List.mem_cons.mp h with h | h
  · exact ⟨_, h, .inr (.inl rfl)⟩
  rcases List.mem_cons.mp h with h | h
  · exact ⟨_, h, .inr (.inr rfl)⟩
  · exact ⟨_, List.mem_singleton.mp h, .inl rfl⟩
theorem upd_id {H : Hp} {a : Addr} {o : HO} (h : H a = some o) : upd H a o = H := funext fun b => by
  by_cases e : b = a
  · subst e; rw [upd_same, h]
  · rw [upd_ne e]
theorem PGo.self {modes F : List Str} {kvs : List (Key × V)} {k : Nat} {rs : List RD} (h : PGo modes kvs F k rs) : PGo modes kvs F rs.length rs := ⟨h.n, h.f, h.t, h.l, Nat.le_refl _, h.kv⟩
theorem perm_of_map {α β : Type} (f : α → β) : ∀ {ys : List β} {zs : List α}, ys.Perm (zs.map f) → ∃ zs' : List α, zs'.Perm zs ∧ ys = zs'.map f
  | [], zs, h => by
    have e : zs = [] := by
      have q := h.length_eq
      rw [List.length_map] at q
      exact List.length_eq_zero_iff.mp q.symm
    subst e
    exact ⟨[], .refl _, rfl⟩
  | y :: ys, zs, h => by
    obtain ⟨z, hz, rfl⟩ := List.mem_map.mp (h.mem_iff.mp List.mem_cons_self)
    obtain ⟨l1, l2, rfl⟩ := List.append_of_mem hz
    have p : (l1 ++ z :: l2).Perm (z :: (l1 ++ l2)) := List.perm_middle
    have q : (f z :: ys).Perm (f z :: (l1 ++ l2).map f) := h.trans (p.map f)
    obtain ⟨zs', p', rfl⟩ := perm_of_map f q.cons_inv
    exact ⟨z :: zs', (p'.cons z).trans p.symm, rfl⟩
theorem c_law_plan (T : Tx K mg) : Cal P w K mg base 5 "_law_plan" (spLPlan c K) [] := by
  refine T.g_law_plan.cal sc_law_plan (fun vs H Q E h => ?_) (fun f cdv A outer s H vs Q E hr h => ?_) (fun _ _ _ _ _ _ us hl => match us, hl with | [_, _], _ => rfl)
  · obtain ⟨D, G, rfl, hd, k⟩ := h
    rfl
  · obtain ⟨D, G, rfl, hd, k⟩ := h
    refine ⟨_, (C8.pss_cut (ps_set (i := 2) sc_law_plan.nd rfl (Or.inl rfl) (pe_c (c_law_names T) hr (by decide) (by rfl) (pa_cons (pv 0) (pa_cons pe_int pa_nil)))) (C8.pss_cut (ps_par3 (i := 3) (j := 4) (l := 5) rfl sc_law_plan.nd rfl rfl rfl (by decide) (by decide) (by decide) rfl rfl rfl (pa_cons (pe_slice (r := rSlL K) sl_list (pv 2) po_none (po_some (pe_op op_add pe_int (pe_c (c_law_draw T) hr (by decide) (by rfl) (pa_cons (pv 0) (pa_cons pe_int pa_nil)))))) (pa_cons (pe_slice (r := rSlL K) sl_list (pv 2) (po_some pe_int) (po_some pe_int)) (pa_cons (pe_slice (r := rSlL K) sl_list (pv 2) (po_some pe_int) (po_some pe_int)) pa_nil))) rfl) (C8.pss_cut (ps_par (i := 6) (j := 7) rfl sc_law_plan.nd rfl rfl (by decide) rfl rfl (pa_cons (pe_lst pa_nil) (pa_cons pe_dnewK pa_nil)) rfl) (C8.pss_cut (ps_for PassesOwn.never rfl (pi_seq (pv 3)) (pg_name (i := 8) sc_law_plan.nd rfl (Or.inl rfl)) (C8.pss_cut (ps_set (i := 9) sc_law_plan.nd rfl (Or.inl rfl) (pe_c (c_law_pick T) hr (by decide) (by rfl) (pa_cons (pv 0) (pa_cons (pe_lst (pa_cons pe_non (pa_cons pe_non (pa_cons pe_str (pa_cons pe_str pa_nil))))) pa_nil)))) (C8.pss_cut (ps_dput (hu_of hr) (pv 7) (pv 8) (pv 9) (by rfl)) (C8.pss_cut (ps_set (i := 10) sc_law_plan.nd rfl (Or.inl rfl) (pe_ifExp (pt_cmp (pc_isN (pv 9))) (pe_lst pa_nil) (pe_slice (r := rSlL K) sl_list (pe_c (c_law_mixed T) hr (by decide) (by rfl) (pa_cons (pv 0) (pa_cons (pv 4) pa_nil))) po_none (po_some (pe_op op_add pe_int (pe_c (c_law_draw T) hr (by decide) (by rfl) (pa_cons (pv 0) (pa_cons pe_int pa_nil)))))))) (pss_one (ps_expr (pe_bm PySem.F.plainAttrs_list PySem.F.slot_list_append PySem.F.type_list_append mt_append (pv 6) (pa_cons (pe_tup (pa_cons pe_str (pa_cons (pv 8) (pa_cons (pv 9) (pa_cons (pv 10) pa_nil))))) pa_nil)))))))) (C8.pss_cut (ps_for PassesOwn.never rfl (pi_seq (pe_slice (r := rSlL K) sl_list (pe_c (c_law_mixed T) hr (by decide) (by rfl) (pa_cons (pv 0) (pa_cons (pv 4) pa_nil))) po_none (po_some (pe_op op_add pe_int (pe_c (c_law_draw T) hr (by decide) (by rfl) (pa_cons (pv 0) (pa_cons pe_int pa_nil))))))) (pg_name (i := 11) sc_law_plan.nd rfl (Or.inl rfl)) (pss_one (ps_expr (pe_bm PySem.F.plainAttrs_list PySem.F.slot_list_append PySem.F.type_list_append mt_append (pv 6) (pa_cons (pe_tup (pa_cons pe_str (pa_cons (pv 11) pa_nil))) pa_nil))))) (C8.pss_cut (ps_for PassesOwn.never rfl (pi_enum (by rfl) T.m_enumerate (pa_cons (pv 3) pa_nil)) (pg_tup rfl (pgs_cons (pg_name (i := 12) sc_law_plan.nd rfl (Or.inl rfl)) (pgs_cons (pg_name (i := 8) sc_law_plan.nd rfl (Or.inl rfl)) pgs_nil))) (pss_one (ps_for PassesOwn.never rfl (pi_seq (pe_ifExp (pt_cmp (pc_isN (pe_dget (hu_of hr) (pv 7) (pv 8) (fun _ _ => rfl)))) (pe_slice (r := rSlL K) sl_list (pv 3) (po_some (pe_op op_add (pv 12) pe_int)) po_none) (pe_lst pa_nil))) (pg_name (i := 13) sc_law_plan.nd rfl (Or.inl rfl)) (C8.pss_cut (ps_set (i := 14) sc_law_plan.nd rfl (Or.inl rfl) (pe_c (c_law_pick T) hr (by decide) (by rfl) (pa_cons (pv 0) (pa_cons (pe_lst (pa_cons pe_str (pa_cons pe_str (pa_cons pe_str pa_nil)))) pa_nil)))) (C8.pss_cut (ps_set (i := 15) sc_law_plan.nd rfl (Or.inl rfl) (pe_slice (r := rSlL K) sl_list (pe_c (c_law_mixed T) hr (by decide) (by rfl) (pa_cons (pv 0) (pa_cons (pv 4) pa_nil))) po_none (po_some (pe_op op_add pe_int (pe_c (c_law_draw T) hr (by decide) (by rfl) (pa_cons (pv 0) (pa_cons pe_int pa_nil))))))) (C8.pss_cut (ps_set (i := 16) sc_law_plan.nd rfl (Or.inl rfl) (pe_tup (pa_cons pe_str (pa_cons (pv 8) (pa_cons (pv 14) (pa_cons (pe_ifExp (pt_cmpR op_eq (pv 14) pe_str (nomark _)) (pe_lst pa_nil) (pv 15)) (pa_cons (pv 13) pa_nil))))))) (pss_one (ps_expr (pe_bm PySem.F.plainAttrs_list PySem.F.slot_list_extend PySem.F.type_list_extend mt_extend (pv 6) (pa_cons (pe_ifExp (pt_cmpR op_gt (pe_c (c_law_draw T) hr (by decide) (by rfl) (pa_cons (pv 0) (pa_cons pe_int pa_nil))) pe_int (nomark _)) (pe_lst (pa_cons (pv 16) pa_nil)) (pe_lst pa_nil)) pa_nil)))))))))) (C8.pss_cut (ps_while PassesOwn.never (PW.pt (pw_and (pt_cmpR op_lt (pe_callB call_len_seq (by rfl) T.m_len (by decide +kernel) (pa_cons (pv 6) pa_nil)) (pv 1) (nomark _)) (pw_and1 (pt_cmpR op_gt (pe_c (c_law_draw T) hr (by decide) (by rfl) (pa_cons (pv 0) (pa_cons pe_int pa_nil))) pe_int (nomark _))))) (pss_one (ps_expr (pe_bm PySem.F.plainAttrs_list PySem.F.slot_list_append PySem.F.type_list_append mt_append (pv 6) (pa_cons (pe_c (c_law_lead_or_house (c := c) T) hr (by decide) (by rfl) (pa_cons (pv 0) (pa_cons (pv 3) (pa_cons (pv 4) (pa_cons (pv 5) pa_nil))))) pa_nil))))) (pss_one (ps_ret (pe_c (c_law_mixed T) hr (by decide) (by rfl) (pa_cons (pv 0) (pa_cons (pe_slice (r := rSlL K) sl_list (pv 6) po_none (po_some (pv 1))) pa_nil)))))))))))), ?_⟩
    refine ⟨fun σ H1 => ∃ N nm, σ = [some (.ref D), some (.int 16), some (.ref N), none, none, none, none, none, none, none, none, none, none, none, none, none, none] ∧ Step D G H H1 ∧ LsAt D G H1 N (sv nm) ∧ nm.Perm pool, ⟨_, rfl, D, G, rfl, hd, fun H1 p l st np hp pp => ⟨p, l, rfl, st, hp, pp⟩⟩, ?_⟩
    rintro σ H1 ⟨N, nm, rfl, st1, hN, pN⟩
    have lN : nm.length = 15 := pN.length_eq
    refine ⟨fun σ H2 => ∃ Mo Pl Wd modes places words, σ = [some (.ref D), some (.int 16), some (.ref N), some (.ref Mo), some (.ref Pl), some (.ref Wd), none, none, none, none, none, none, none, none, none, none, none] ∧ Step D G H H2 ∧ LsAt D G H2 Mo (sv modes) ∧ LsAt D G H2 Pl (sv places) ∧ LsAt D G H2 Wd (sv words) ∧ Gd modes places words, ?_, ?_⟩
    · refine ⟨_, rfl, _, rfl, D, G, 4, rfl, st1.deal, by decide, by decide, fun H2 i hi st2 => ⟨1, (i : Int), rfl, rfl, _, rfl, N, _, rfl, SqL.of (hN.step st2).l, fun q nq => ?_⟩⟩
      have st3 := st1.trans st2
      have hN2 := hN.step st2
      have a1 := cut_one (l := nm) (i := i) st3.deal nq
      have sq : Same H2 (upd H2 q (.lst (cutV (sv nm) none (some (1 + (i : Int)))))) := Sn nq
      have st4 := st3.sm sq
      have hN3 := hN2.sm sq
      generalize upd H2 q (.lst (cutV (sv nm) none (some (1 + (i : Int))))) = H3 at a1 st4 hN3 ⊢
      refine ⟨_, rfl, 4, rfl, 9, rfl, N, _, rfl, SqL.of hN3.l, fun q2 nq2 => ?_⟩
      have a2 : LsAt D G (upd H3 q2 (.lst (cutV (sv nm) (some 4) (some 9)))) q2 (sv ((nm.drop 4).take 5)) := by
        refine ls_of st4.deal nq2 ?_
        rw [upd_same]
        exact congrArg (fun l => some (HO.lst l)) ((cutV_map V.str nm (some 4) (some 9)).trans (congrArg sv (cut_mids nm 4 9 (by omega) (by omega))))
      have sq2 : Same H3 (upd H3 q2 (.lst (cutV (sv nm) (some 4) (some 9)))) := Sn nq2
      have st5 := st4.sm sq2
      have hN4 := hN3.sm sq2
      have a1 := a1.sm sq2
      generalize upd H3 q2 (.lst (cutV (sv nm) (some 4) (some 9))) = H4 at a1 a2 st5 hN4 ⊢
      refine ⟨_, rfl, 9, rfl, 13, rfl, N, _, rfl, SqL.of hN4.l, fun q3 nq3 => ?_⟩
      have a3 : LsAt D G (upd H4 q3 (.lst (cutV (sv nm) (some 9) (some 13)))) q3 (sv ((nm.drop 9).take 4)) := by
        refine ls_of st5.deal nq3 ?_
        rw [upd_same]
        exact congrArg (fun l => some (HO.lst l)) ((cutV_map V.str nm (some 9) (some 13)).trans (congrArg sv (cut_mids nm 9 13 (by omega) (by omega))))
      have sq3 : Same H4 (upd H4 q3 (.lst (cutV (sv nm) (some 9) (some 13)))) := Sn nq3
      exact ⟨_, _, _, rfl, q, q2, q3, _, _, _, rfl, st5.sm sq3, a1.sm sq3, a2.sm sq3, a3, gd_of pN hi⟩
    clear hN lN pN st1
    rintro σ H1 ⟨Mo, Pl, Wd, modes, places, words, rfl, st1, hMo, hPl, hWd, g⟩
    refine ⟨fun σ H2 => ∃ R P, σ = [some (.ref D), some (.int 16), some (.ref N), some (.ref Mo), some (.ref Pl), some (.ref Wd), some (.ref R), some (.ref P), none, none, none, none, none, none, none, none, none] ∧ Step D G H H2 ∧ H R = none ∧ H P = none ∧ R ≠ P ∧ LP D G Mo Pl Wd R modes places words H2 [] ∧ H2 P = some (.dK []), ?_, ?_⟩
    · refine ⟨Nat.zero_le _, fun R nR P nP => ⟨_, _, rfl, R, P, rfl, ?_⟩⟩
      have s2 : Same H1 (upd H1 R (.lst [])) := Sn nR
      have s3 : Same (upd H1 R (.lst [])) (upd (upd H1 R (.lst [])) P (.dK [])) := Sn nP
      have hRP : R ≠ P := fun e => by rw [← e, upd_same] at nP; cases nP
      have hr2 : LsAt D G (upd H1 R (.lst [])) R [] := ls_of st1.deal nR upd_same
      have ne : ∀ {L : Addr} {xs : List V}, LsAt D G H1 L xs → R ≠ L := fun h e => by
        rw [e, h.l] at nR; cases nR
      have hx : Same H1 (upd (upd H1 R (.lst [])) P (.dK [])) := s2.trans s3
      exact ⟨st1.sm hx, st1.free nR, st1.free (s2.free nP), hRP, ⟨hMo.sm hx, hPl.sm hx, hWd.sm hx, hr2.sm s3, ne hMo, ne hPl, ne hWd, fun _ h => nomatch h⟩, upd_same⟩
    rintro σ H2 ⟨R, P, rfl, st2, nR, nP, hRP, hL2, hP⟩
    have oR := hd.off nR
    have oP := hd.off nP
    refine ⟨fun σ H3 => ∃ s8 s9 s10 zs kvs, σ = [some (.ref D), some (.int 16), some (.ref N), some (.ref Mo), some (.ref Pl), some (.ref Wd), some (.ref R), some (.ref P), s8, s9, s10, none, none, none, none, none, none] ∧ Step D G H H3 ∧ LP D G Mo Pl Wd R modes places words H3 zs ∧ H3 P = some (.dK kvs) ∧ kvs.length ≤ 4 ∧ PGo modes kvs [] 4 (zs.map (fun p : VR => p.2)), ?_, ?_⟩
    · refine ⟨_, rfl, Mo, rfl, .inl ⟨⟨_, SqL.of hL2.m.l⟩, for_list (fun i σ H3 => ∃ s8 s9 s10 zs kvs, σ = [some (.ref D), some (.int 16), some (.ref N), some (.ref Mo), some (.ref Pl), some (.ref Wd), some (.ref R), some (.ref P), s8, s9, s10, none, none, none, none, none, none] ∧ Step D G H H3 ∧ LP D G Mo Pl Wd R modes places words H3 zs ∧ H3 P = some (.dK kvs) ∧ kvs.length ≤ i ∧ i ≤ 4 ∧ PM1 modes i kvs (zs.map (fun p : VR => p.2))) ⟨none, none, none, [], [], rfl, st2, hL2, hP, Nat.le_refl _, Nat.zero_le _, rfl, rfl, rfl, rfl, rfl, fun _ _ h => nomatch h⟩ (fun i σ H3 _ ⟨_, _, _, _, _, _, _, l, _⟩ => SqL.of l.m.l) ?_ ?_⟩⟩
      · rintro i x σ H3 hx ⟨s8, s9, s10, zs, kvs, rfl, st3, hL3, hP3, lk, i4, pm⟩
        obtain ⟨n, hn, rfl⟩ := get_str hx
        have hi4 : i < 4 := Nat.lt_of_lt_of_le (List.getElem?_eq_some_iff.mp hn).1 g.lm
        refine ⟨fun σ H4 => ∃ q, σ = [some (.ref D), some (.int 16), some (.ref N), some (.ref Mo), some (.ref Pl), some (.ref Wd), some (.ref R), some (.ref P), some (.str n), some (optV q), s10, none, none, none, none, none, none] ∧ (q = none ∨ ∃ z, q = some z ∧ z ∈ w_PROMISES) ∧ Step D G H3 H4, ?_, ?_⟩
        · refine ⟨_, rfl, by show 4 ≤ sizeLine; decide, fun e ne => ?_⟩
          have se : Same H3 (upd H3 e (.lst [.non, .non, .str "made", .str "gone"])) := Sn ne
          refine ⟨D, G, e, _, rfl, st3.deal.same se, ls_of st3.deal ne upd_same, List.cons_ne_nil _ _, by show 4 ≤ 1000000; decide, fun H4 x hx4 st4 => ?_⟩
          obtain ⟨q, rfl, hq⟩ := opt_of hx4
          exact ⟨q, rfl, hq, sm_step se st4⟩
        rintro σ H4 ⟨q, rfl, hq, st4⟩
        have st34 := st3.trans st4
        have hL4 := hL3.step st3.deal st4
        have hP4 : H4 P = some (.dK kvs) := st4.ex _ _ oP.1 oP.2 hP3
        refine ⟨fun σ H5 => σ = [some (.ref D), some (.int 16), some (.ref N), some (.ref Mo), some (.ref Pl), some (.ref Wd), some (.ref R), some (.ref P), some (.str n), some (optV q), s10, none, none, none, none, none, none] ∧ Step D G H H5 ∧ LP D G Mo Pl Wd R modes places words H5 zs ∧ H5 P = some (.dK (putK kvs (.inr n) (optV q))), ?_, ?_⟩
        · refine ⟨_, rfl, _, rfl, _, rfl, P, _, rfl, DPut.k (k := .inr n) hP4 (Nat.lt_of_le_of_lt (show kvs.length ≤ 4 by omega) (by decide)), rfl, st34.updN nP oP.1 oP.2, hL4.dict hP4, upd_same⟩
        clear hL4 hP4 st34 st4 hL3 hP3 st3
        rintro σ H5 ⟨rfl, st5, hL5, hP5⟩
        refine ⟨fun σ H6 => ∃ E es, σ = [some (.ref D), some (.int 16), some (.ref N), some (.ref Mo), some (.ref Pl), some (.ref Wd), some (.ref R), some (.ref P), some (.str n), some (optV q), some (.ref E), none, none, none, none, none, none] ∧ Step D G H5 H6 ∧ H5 E = none ∧ LsAt D G H6 E (sv es) ∧ ((q = none ∧ es = []) ∨ (∃ z, q = some z ∧ z ∈ w_PROMISES ∧ es ≠ [] ∧ es.length ≤ 5 ∧ From pool es ∧ es.Nodup)), ?_, ?_⟩
        · refine ⟨_, rfl, _, rfl, ite2 (fun hc => ?_) (fun hc => ?_)⟩
          · have hq0 : q = none := by
              cases q with
              | none => rfl
              | some z => cases of_decide_eq_true hc
            exact ⟨Nat.zero_le _, fun e ne => ⟨e, [], rfl, step_same st5.deal (Sn ne), ne, ls_of st5.deal ne upd_same, .inl ⟨hq0, rfl⟩⟩⟩
          · have hq1 : q ≠ none := fun e => hc (by rw [e]; rfl)
            refine ⟨_, rfl, _, rfl, D, G, Pl, _, rfl, st5.deal, .inl (SqL.of hL5.p.l), by rw [List.length_map, g.lp]; decide, fun H6 p ys st6 np hp pm => ?_⟩
            obtain ⟨l, rfl, pl⟩ := perm_strs pm
            refine ⟨_, rfl, D, G, 3, rfl, st6.deal, by decide, by decide, fun H7 j hj st7 => ⟨1, (j : Int), rfl, rfl, _, rfl, p, _, rfl, SqL.of (hp.step st7).l, fun e ne => ?_⟩⟩
            have st67 := st6.trans st7
            obtain ⟨f1, f2, f3, f4⟩ := cut_facts g pl j
            exact ⟨e, _, rfl, st67.sm (Sn ne), st67.free ne, cut_one st67.deal ne, .inr (let ⟨z, hz, hp⟩ := hq.resolve_left hq1; ⟨z, hz, hp, f1, f2, f3, f4⟩)⟩
        rintro σ H6 ⟨E1, es, rfl, st6, nE, hE, he⟩
        have st56 := st5.trans st6
        have hL6 := hL5.step st5.deal st6
        have hP6 : H6 P = some (.dK (putK kvs (.inr n) (optV q))) := st6.ex _ _ oP.1 oP.2 hP5
        refine ⟨_, rfl, .inl ⟨rfl, _, SqL.of hL6.r.l⟩, _, rfl, _, rfl, _, rfl, by show 4 ≤ sizeLine; decide, fun a na => ?_⟩
        have s7 : Same H6 (upd H6 a (.tup [.str "mode", .str n, optV q, .ref E1])) := Sn na
        have st57 := st56.sm s7
        have hL7 := hL6.sm s7
        have hP7 := s7 _ _ hP6
        have hE7 := hE.sm s7
        have hE1 : E1 ≠ R := fun e => by rw [e, hL5.r.l] at nE; cases nE
        have dr : DrR D G R (upd H6 a (.tup [.str "mode", .str n, optV q, .ref E1])) (.ref a) (.mode n q es) := ⟨⟨a, E1, E1, rfl, upd_same, fun _ => ⟨hE7, hE1⟩, fun h => nomatch h⟩, g.fm n (memi hn), he⟩
        generalize upd H6 a (.tup [.str "mode", .str n, optV q, .ref E1]) = H7 at st57 hL7 hP7 dr ⊢
        have lz : zs.length = i := by
          have := pm.len
          rw [List.length_map] at this
          exact this
        refine ⟨R, _, _, rfl, rfl, hL7.r.l, by rw [List.length_map, lz]; exact Nat.lt_of_lt_of_le hi4 (by decide), _, _, _, zs ++ [(.ref a, .mode n q es)], putK kvs (.inr n) (optV q), rfl, st57.updN nR oR.1 oR.2, hL7.put dr, by rw [upd_ne (Ne.symm hRP)]; exact hP7, Nat.le_trans (len_putK_le _ _ _) (Nat.succ_le_succ lk), hi4, ?_⟩
        rw [List.map_append]
        exact pm.put g.nd hn
      · rintro σ H3 ⟨s8, s9, s10, zs, kvs, rfl, st3, hL3, hP3, lk, i4, pm⟩
        rw [List.length_map] at lk i4 pm
        exact ⟨_, _, _, zs, kvs, rfl, st3, hL3, hP3, Nat.le_trans lk i4, pm.all.weak i4⟩
    rintro σ H3 ⟨s8, s9, s10, zs, kvs, rfl, st3, hL3, hP3, lk, pg⟩
    refine ⟨fun σ H3 => ∃ s8 s9 s10 s11 zs kvs F, σ = [some (.ref D), some (.int 16), some (.ref N), some (.ref Mo), some (.ref Pl), some (.ref Wd), some (.ref R), some (.ref P), s8, s9, s10, s11, none, none, none, none, none] ∧ Step D G H H3 ∧ LP D G Mo Pl Wd R modes places words H3 zs ∧ H3 P = some (.dK kvs) ∧ PGo modes kvs F 6 (zs.map (fun p : VR => p.2)) ∧ F.Nodup ∧ F ≠ [], ?_, ?_⟩
    · refine ⟨_, rfl, _, rfl, D, G, Pl, _, rfl, st3.deal, .inl (SqL.of hL3.p.l), by rw [List.length_map, g.lp]; decide, fun H6 p ys st6 np hp pm => ?_⟩
      obtain ⟨l, rfl, pl⟩ := perm_strs pm
      refine ⟨_, rfl, D, G, 2, rfl, st6.deal, by decide, by decide, fun H7 j hj st7 => ⟨1, (j : Int), rfl, rfl, _, rfl, p, _, rfl, SqL.of (hp.step st7).l, fun e ne => ?_⟩⟩
      have st67 := st6.trans st7
      obtain ⟨f1, f2, f3, f4⟩ := cut_facts g pl j
      have hE := cut_one (l := l) (i := j) st67.deal ne
      have st68 := st67.sm (H' := upd H7 e (.lst (cutV (sv l) none (some (1 + (j : Int)))))) (Sn ne)
      have nE := st67.free ne
      have el : (l.take (1 + j)).length ≤ 2 := by rw [List.length_take]; omega
      generalize upd H7 e (.lst (cutV (sv l) none (some (1 + (j : Int))))) = H8 at hE st68 ⊢
      generalize l.take (1 + j) = es at f1 f2 f3 f4 hE el
      have eR : e ≠ R := fun q => by rw [q, hL3.r.l] at nE; cases nE
      have st8 := st3.trans st68
      have hL8 := hL3.step st3.deal st68
      have hP8 := st68.ex _ _ oP.1 oP.2 hP3
      refine ⟨e, rfl, .inl ⟨⟨_, SqL.of hE.l⟩, for_list (fun i σ H3 => ∃ (s11 : Option V) (zs : List VR), σ = [some (.ref D), some (.int 16), some (.ref N), some (.ref Mo), some (.ref Pl), some (.ref Wd), some (.ref R), some (.ref P), s8, s9, s10, s11, none, none, none, none, none] ∧ Step D G H H3 ∧ LP D G Mo Pl Wd R modes places words H3 zs ∧ H3 P = some (.dK kvs) ∧ LsAt D G H3 e (sv es) ∧ PGo modes kvs (es.take i) (4 + i) (zs.map (fun p : VR => p.2))) ⟨none, zs, rfl, st8, hL8, hP8, hE, pg⟩ (fun i σ H3 _ ⟨_, _, _, _, _, _, l, _⟩ => SqL.of l.l) ?_ ?_⟩⟩
      · rintro i x σ H9 hx ⟨s11, zs, rfl, st9, hL9, hP9, hE9, pg9⟩
        obtain ⟨n, hn, rfl⟩ := get_str hx
        refine ⟨_, rfl, .inl ⟨rfl, _, SqL.of hL9.r.l⟩, _, rfl, by show 2 ≤ sizeLine; decide, fun a na => ?_⟩
        have s10 : Same H9 (upd H9 a (.tup [.str "first", .str n])) := Sn na
        have st10 := st9.sm s10
        have hL10 := hL9.sm s10
        have hP10 := s10 _ _ hP9
        have hE10 := hE9.sm s10
        have dr : DrR D G R (upd H9 a (.tup [.str "first", .str n])) (.ref a) (.first n) := ⟨⟨a, R, R, rfl, upd_same, fun h => (nomatch h), fun h => (nomatch h)⟩, f3 n (memi hn)⟩
        generalize upd H9 a (.tup [.str "first", .str n]) = H10 at st10 hL10 hP10 hE10 dr ⊢
        have lz : zs.length ≤ 4 + i := by
          have := pg9.len
          rw [List.length_map] at this
          exact this
        have hi2 : i < 2 := Nat.lt_of_lt_of_le (List.getElem?_eq_some_iff.mp hn).1 el
        refine ⟨R, _, _, rfl, rfl, hL10.r.l, Nat.lt_of_le_of_lt (by rw [List.length_map]; exact Nat.le_trans lz (show 4 + i ≤ 100 by omega)) (by decide), _, zs ++ [(.ref a, .first n)], rfl, st10.updN nR oR.1 oR.2, hL10.put dr, by rw [upd_ne (Ne.symm hRP)]; exact hP10, hE10.updN eR, ?_⟩
        rw [List.map_append, take_more hn]
        exact pg9.first n
      · rintro σ H9 ⟨s11, zs, rfl, st9, hL9, hP9, hE9, pg9⟩
        rw [List.length_map, List.take_length] at pg9
        exact ⟨_, _, _, _, zs, kvs, es, rfl, st9, hL9, hP9, pg9.weak (Nat.add_le_add_left el 4), f4, f1⟩
    clear pg lk hP3 hL3 st3 hP hL2 st2 hMo hPl hWd st1
    rintro σ H3 ⟨s8, s9, s10, s11, zs, kvs, F, rfl, st3, hL3, hP3, pg, fnd, fne⟩
    refine ⟨fun σ H3 => ∃ s8 s11 s12 s13 s14 s15 s16 s9 s10 zs kvs, σ = [some (.ref D), some (.int 16), some (.ref N), some (.ref Mo), some (.ref Pl), some (.ref Wd), some (.ref R), some (.ref P), s8, s9, s10, s11, s12, s13, s14, s15, s16] ∧ Step D G H H3 ∧ LP D G Mo Pl Wd R modes places words H3 zs ∧ H3 P = some (.dK kvs) ∧ PGo modes kvs F 12 (zs.map (fun p : VR => p.2)), ?_, ?_⟩
    · refine ⟨_, rfl, Mo, _, rfl, SqL.of hL3.m.l, for_en (fun i σ H3 => ∃ (s8 s12 s13 s14 s15 s16 : Option V) (zs : List VR), σ = [some (.ref D), some (.int 16), some (.ref N), some (.ref Mo), some (.ref Pl), some (.ref Wd), some (.ref R), some (.ref P), s8, s9, s10, s11, s12, s13, s14, s15, s16] ∧ Step D G H H3 ∧ LP D G Mo Pl Wd R modes places words H3 zs ∧ H3 P = some (.dK kvs) ∧ PGo modes kvs F (6 + tri modes.length i) (zs.map (fun p : VR => p.2))) ⟨s8, none, none, none, none, none, zs, rfl, st3, hL3, hP3, pg⟩ (fun i σ H3 _ ⟨_, _, _, _, _, _, _, _, _, l, _⟩ => SqL.of l.m.l) ?_ ?_⟩
      · clear pg hP3 hL3 st3
        rintro i x σ H3 T2 hx ⟨s8, s12, s13, s14, s15, s16, zs, rfl, st3, hL3, hP3, pg⟩ nT
        obtain ⟨n, hn, rfl⟩ := get_str hx
        have s4 : Same H3 (upd H3 T2 (.tup [.int (i : Int), .str n])) := Sn nT
        have hT : (upd H3 T2 (.tup [.int (i : Int), .str n])) T2 = some (.tup [.int (i : Int), .str n]) := upd_same
        have st4 := st3.sm s4
        have hL4 := hL3.sm s4
        have hP4 := s4 _ _ hP3
        generalize upd H3 T2 (.tup [.int (i : Int), .str n]) = H4 at s4 hT st4 hL4 hP4 ⊢
        refine ⟨T2, _, rfl, SqT.of hT, rfl, _, _, rfl, _, _, rfl, rfl, ?_⟩
        obtain ⟨q, hv⟩ := pg.val (memi hn)
        have hi : i < modes.length := (List.getElem?_eq_some_iff.mp hn).1
        have ltri : tri modes.length (i + 1) = tri modes.length i + (modes.length - 1 - i) := rfl
        refine ⟨_, rfl, _, rfl, P, optV q, rfl, hv ▸ DGet.k (k := .inr n) hP4, _, rfl, ite2 (fun hc => ?_) (fun hc => ?_)⟩
        · have hq0 : q = none := by
            cases q with
            | none => rfl
            | some z => cases of_decide_eq_true hc
          subst hq0
          refine ⟨_, rfl, _, rfl, i, 1, rfl, rfl, _, rfl, Mo, _, rfl, SqL.of hL4.m.l, fun e ne => ?_⟩
          have se : Same H4 (upd H4 e (.lst (cutV (sv modes) (some ((i : Int) + 1)) none))) := Sn ne
          have hE : LsAt D G (upd H4 e (.lst (cutV (sv modes) (some ((i : Int) + 1)) none))) e (sv (modes.drop (i + 1))) := by
            refine ls_of st4.deal ne ?_
            rw [upd_same]
            exact congrArg (fun l => some (HO.lst l)) ((cutV_map V.str modes (some ((i : Int) + 1)) none).trans (congrArg sv (cut_from modes (i + 1))))
          have eR : e ≠ R := fun q => by rw [q, hL4.r.l] at ne; cases ne
          have st5 := st4.sm se
          have hL5 := hL4.sm se
          have hP5 := se _ _ hP4
          generalize upd H4 e (.lst (cutV (sv modes) (some ((i : Int) + 1)) none)) = H5 at hE st5 hL5 hP5 ⊢
          refine ⟨e, rfl, .inl ⟨⟨_, SqL.of hE.l⟩, for_list (fun j σ H3 => ∃ (s13 s14 s15 s16 : Option V) (zs : List VR), σ = [some (.ref D), some (.int 16), some (.ref N), some (.ref Mo), some (.ref Pl), some (.ref Wd), some (.ref R), some (.ref P), some (.str n), s9, s10, s11, some (.int (i : Int)), s13, s14, s15, s16] ∧ Step D G H H3 ∧ LP D G Mo Pl Wd R modes places words H3 zs ∧ H3 P = some (.dK kvs) ∧ LsAt D G H3 e (sv (modes.drop (i + 1))) ∧ PGo modes kvs F (6 + tri modes.length i + j) (zs.map (fun p : VR => p.2))) ⟨s13, s14, s15, s16, zs, rfl, st5, hL5, hP5, hE, pg⟩ (fun i σ H3 _ ⟨_, _, _, _, _, _, _, _, _, l, _⟩ => SqL.of l.l) ?_ ?_⟩⟩
          · clear pg hP5 hL5 st5 hE
            rintro j x σ H5 hxj ⟨s13, s14, s15, s16, zs, rfl, st5, hL5, hP5, hE5, pg5⟩
            obtain ⟨th, hth, rfl⟩ := get_str hxj
            rw [List.getElem?_drop] at hth
            have hj : i + 1 + j < modes.length := (List.getElem?_eq_some_iff.mp hth).1
            refine ⟨fun σ H6 => ∃ w : Str, σ = [some (.ref D), some (.int 16), some (.ref N), some (.ref Mo), some (.ref Pl), some (.ref Wd), some (.ref R), some (.ref P), some (.str n), s9, s10, s11, some (.int (i : Int)), some (.str th), some (.str w), s15, s16] ∧ (w = ("time" : Str) ∨ (w = ("some" : Str) ∨ w = ("all" : Str))) ∧ Step D G H5 H6, ?_, ?_⟩
            · refine ⟨_, rfl, by show 3 ≤ sizeLine; decide, fun e ne => ?_⟩
              have se : Same H5 (upd H5 e (.lst [.str "some", .str "all", .str "time"])) := Sn ne
              refine ⟨D, G, e, _, rfl, st5.deal.same se, ls_of st5.deal ne upd_same, List.cons_ne_nil _ _, by show 3 ≤ 1000000; decide, fun H4 x hx4 st4 => ?_⟩
              obtain ⟨w, rfl, hw⟩ := way_of hx4
              exact ⟨w, rfl, hw, sm_step se st4⟩
            rintro σ H6 ⟨w, rfl, hw, st6⟩
            have st56 := st5.trans st6
            have hL6 := hL5.step st5.deal st6
            have hP6 := st6.ex _ _ oP.1 oP.2 hP5
            have hE6 := hE5.step st6
            clear st5 st6 hL5 hP5 hE5
            refine ⟨fun σ H7 => ∃ (E : Addr) (es : List Str), σ = [some (.ref D), some (.int 16), some (.ref N), some (.ref Mo), some (.ref Pl), some (.ref Wd), some (.ref R), some (.ref P), some (.str n), s9, s10, s11, some (.int (i : Int)), some (.str th), some (.str w), some (.ref E), s16] ∧ Step D G H6 H7 ∧ E ≠ R ∧ LsAt D G H7 E (sv es) ∧ es ≠ [] ∧ es.length ≤ 5 ∧ From pool es ∧ es.Nodup, ?_, ?_⟩
            · refine ⟨_, rfl, _, rfl, D, G, Pl, _, rfl, st56.deal, .inl (SqL.of hL6.p.l), by rw [List.length_map, g.lp]; decide, fun H7 p ys st7 np hp pm => ?_⟩
              obtain ⟨l, rfl, pl⟩ := perm_strs pm
              refine ⟨_, rfl, D, G, 3, rfl, st7.deal, by decide, by decide, fun H8 j hj st8 => ⟨1, (j : Int), rfl, rfl, _, rfl, p, _, rfl, SqL.of (hp.step st8).l, fun e ne => ?_⟩⟩
              have st78 := st7.trans st8
              have n6 := st78.free ne
              exact ⟨e, _, rfl, st78.sm (Sn ne), (fun q => by rw [q, hL6.r.l] at n6; cases n6), cut_one st78.deal ne, cut_facts g pl j⟩
            rintro σ H7 ⟨E2, es, rfl, st7, eR2, hE7, f1, f2, f3, f4⟩
            have st67 := st56.trans st7
            have hL7 := hL6.step st56.deal st7
            have hP7 := st7.ex _ _ oP.1 oP.2 hP6
            have hE07 := hE6.step st7
            clear st56 st7 hL6 hP6 hE6
            refine ⟨fun σ H8 => ∃ (U : Addr) (ps : List Str), σ = [some (.ref D), some (.int 16), some (.ref N), some (.ref Mo), some (.ref Pl), some (.ref Wd), some (.ref R), some (.ref P), some (.str n), s9, s10, s11, some (.int (i : Int)), some (.str th), some (.str w), some (.ref E2), some (.ref U)] ∧ Same H7 H8 ∧ DrR D G R H8 (.ref U) (.turn n w ps th), ?_, ?_⟩
            · refine ⟨_, rfl, _, rfl, _, rfl, rfl, _, rfl, ite2 (fun hc => ?_) (fun hc => ?_)⟩
              · have hw0 : w = ("time" : Str) := V.str.inj (of_decide_eq_true hc)
                refine ⟨Nat.zero_le _, fun a na => ⟨_, rfl, by show 5 ≤ sizeLine; decide, fun b nb => ?_⟩⟩
                have sa : Same H7 (upd H7 a (.lst [])) := Sn na
                have ha : LsAt D G (upd H7 a (.lst [])) a (sv []) := ls_of st67.deal na upd_same
                have aR : a ≠ R := fun q => by rw [q, hL7.r.l] at na; cases na
                have sb : Same (upd H7 a (.lst [])) (upd (upd H7 a (.lst [])) b (.tup [.str "turn", .str n, .str w, .ref a, .str th])) := Sn nb
                exact ⟨b, [], rfl, sa.trans sb, ⟨b, a, a, rfl, upd_same, fun _ => ⟨ha.sm sb, aR⟩, fun h => nomatch h⟩, g.fm n (memi hn), g.fm th (memi hth), .inl ⟨hw0, rfl⟩⟩
              · have hw1 : w ≠ ("time" : Str) := fun q => hc (decide_eq_true (by rw [q]))
                refine ⟨_, rfl, _, rfl, by show 5 ≤ sizeLine; decide, fun b nb => ?_⟩
                have sb : Same H7 (upd H7 b (.tup [.str "turn", .str n, .str w, .ref E2, .str th])) := Sn nb
                exact ⟨b, es, rfl, sb, ⟨b, E2, E2, rfl, upd_same, fun _ => ⟨hE7.sm sb, eR2⟩, fun h => nomatch h⟩, g.fm n (memi hn), g.fm th (memi hth), .inr ⟨hw.resolve_left hw1, f1, f2, f3, f4⟩⟩
            rintro σ H8 ⟨U, ps, rfl, s8', dr⟩
            have st8 := st67.sm s8'
            have hL8 := hL7.sm s8'
            have hP8 := s8' _ _ hP7
            have hE8 := hE07.sm s8'
            clear st67 s8' hL7 hP7 hE07 hE7 hL4 hP4 hL3 hP3
            refine ⟨_, rfl, .inl ⟨rfl, _, SqL.of hL8.r.l⟩, _, rfl, D, G, 3, rfl, st8.deal, by decide, by decide, fun H9 m hm st9 => ⟨(m : Int), 0, rfl, rfl, _, rfl, ite2 (fun _ => ?_) (fun _ => ?_)⟩⟩
            · refine ⟨_, rfl, by show 1 ≤ sizeLine; decide, fun e2 ne2 => ?_⟩
              have se : Same H9 (upd H9 e2 (.lst [.ref U])) := Sn ne2
              have he2 : (upd H9 e2 (.lst [.ref U])) e2 = some (.lst [.ref U]) := upd_same
              have st10 := (st8.trans st9).sm se
              have hL10 := (hL8.step st8.deal st9).sm se
              have hP10 := se _ _ (st9.ex _ _ oP.1 oP.2 hP8)
              have hE10 := (hE8.step st9).sm se
              have dr10 := (dr.step st8.deal st9).sm se
              generalize upd H9 e2 (.lst [.ref U]) = H10 at se he2 st10 hL10 hP10 hE10 dr10 ⊢
              have lz : zs.length ≤ 6 + tri modes.length i + j := by
                have := pg5.len
                rw [List.length_map] at this
                exact this
              have lt : tri modes.length i ≤ 6 := by
                have h4 := g.lm
                have : ∀ n, n ≤ 4 → ∀ i, i < n → tri n i ≤ 6 := by decide
                exact this _ h4 _ hi
              have l4 := g.lm
              refine ⟨R, e2, _, _, rfl, rfl, hL10.r.l, he2, Nat.le_trans (by rw [List.length_map]; exact Nat.add_le_add_right (show zs.length ≤ 100 by omega) _) (by show 100 + 1 ≤ sizeLine; decide), some (.str th), some (.str w), some (.ref E2), some (.ref U), zs ++ [(.ref U, .turn n w ps th)], rfl, st10.updN nR oR.1 oR.2, hL10.put dr10, by rw [upd_ne (Ne.symm hRP)]; exact hP10, hE10.updN eR, ?_⟩
              rw [List.map_append]
              exact pg5.turn (show i < i + 1 + j by omega) hn hth hv
            · refine ⟨Nat.zero_le _, fun e2 ne2 => ?_⟩
              have se : Same H9 (upd H9 e2 (.lst [])) := Sn ne2
              have he2 : (upd H9 e2 (.lst [])) e2 = some (.lst []) := upd_same
              have st10 := (st8.trans st9).sm se
              have hL10 := (hL8.step st8.deal st9).sm se
              have hP10 := se _ _ (st9.ex _ _ oP.1 oP.2 hP8)
              have hE10 := (hE8.step st9).sm se
              generalize upd H9 e2 (.lst []) = H10 at se he2 st10 hL10 hP10 hE10 ⊢
              have lz : zs.length ≤ 6 + tri modes.length i + j := by
                have := pg5.len
                rw [List.length_map] at this
                exact this
              have lt : tri modes.length i ≤ 6 := by
                have h4 := g.lm
                have : ∀ n, n ≤ 4 → ∀ i, i < n → tri n i ≤ 6 := by decide
                exact this _ h4 _ hi
              have l4 := g.lm
              have eU : upd H10 R (.lst (zs.map (·.1) ++ [])) = H10 := by rw [List.append_nil]; exact upd_id hL10.r.l
              refine ⟨R, e2, _, _, rfl, rfl, hL10.r.l, he2, Nat.le_trans (by rw [List.length_map]; exact Nat.add_le_add_right (show zs.length ≤ 100 by omega) _) (by show 100 + 0 ≤ sizeLine; decide), ?_⟩
              rw [eU]
              exact ⟨some (.str th), some (.str w), some (.ref E2), some (.ref U), zs, rfl, st10, hL10, hP10, hE10, pg5.weak (Nat.le_succ _)⟩
          · rintro σ H3 ⟨s13, s14, s15, s16, zs, rfl, st3, hL3, hP3, hE3, pg⟩
            rw [List.length_map, List.length_drop] at pg
            exact ⟨_, _, s13, s14, s15, s16, zs, rfl, st3, hL3, hP3, pg.weak (by omega)⟩
        · refine ⟨Nat.zero_le _, fun e ne => ⟨e, rfl, .inl ⟨⟨[], SqL.of upd_same⟩, for_list (xs := []) (fun j σ H3 => σ = [some (.ref D), some (.int 16), some (.ref N), some (.ref Mo), some (.ref Pl), some (.ref Wd), some (.ref R), some (.ref P), some (.str n), s9, s10, s11, some (.int (i : Int)), s13, s14, s15, s16] ∧ H3 = upd H4 e (.lst [])) ⟨rfl, rfl⟩ (fun i σ H3 _ h => by rw [h.2]; exact SqL.of upd_same) (fun i x σ H3 h => nomatch h) ?_⟩⟩⟩
          rintro σ H3 ⟨rfl, rfl⟩
          exact ⟨_, _, s13, s14, s15, s16, zs, rfl, st4.sm (Sn ne), hL4.sm (Sn ne), (Sn ne) _ _ hP4, pg.weak (by omega)⟩
      · rintro σ H3 ⟨s8, s12, s13, s14, s15, s16, zs, rfl, st3, hL3, hP3, pg⟩
        rw [List.length_map] at pg
        exact ⟨s8, s11, s12, s13, s14, s15, s16, s9, s10, zs, kvs, rfl, st3, hL3, hP3, pg.weak (Nat.add_le_add_left (tri_le g.lm) 6)⟩
    clear pg hP3 hL3 st3
    rintro σ H3 ⟨s8, s11, s12, s13, s14, s15, s16, s9, s10, zs, kvs, rfl, st3, hL3, _, pg⟩
    refine ⟨fun σ H4 => ∃ zs : List VR, σ = [some (.ref D), some (.int 16), some (.ref N), some (.ref Mo), some (.ref Pl), some (.ref Wd), some (.ref R), some (.ref P), s8, s9, s10, s11, s12, s13, s14, s15, s16] ∧ Step D G H H4 ∧ LP D G Mo Pl Wd R modes places words H4 zs ∧ PGo modes kvs F 16 (zs.map (fun p : VR => p.2)), ?_, ?_⟩
    · refine ⟨fun q σ H4 => ∃ zs : List VR, σ = [some (.ref D), some (.int 16), some (.ref N), some (.ref Mo), some (.ref Pl), some (.ref Wd), some (.ref R), some (.ref P), s8, s9, s10, s11, s12, s13, s14, s15, s16] ∧ Step D G H H4 ∧ LP D G Mo Pl Wd R modes places words H4 zs ∧ PGo modes kvs F 16 (zs.map (fun p : VR => p.2)) ∧ q = 16 - zs.length, ⟨_, zs, rfl, st3, hL3, pg.weak (by decide), rfl⟩, ?_⟩
      clear pg hL3 st3
      rintro q σ H4 ⟨zs, rfl, st4, hL4, pg4, rfl⟩
      refine ⟨_, rfl, R, _, rfl, .inl (SqL.of hL4.r.l), _, rfl, _, _, rfl, rfl, _, rfl, ?_⟩
      refine ite2 (fun hc => ?_) (fun _ => iteF ⟨zs, rfl, st4, hL4, pg4⟩)
      have hlt : (((zs.map (·.1)).length : Nat) : Int) < 16 := of_decide_eq_true hc
      rw [List.length_map] at hlt
      refine ⟨_, rfl, D, G, 9, rfl, st4.deal, by decide, by decide, fun H5 m hm st5 => ⟨(m : Int), 0, rfl, rfl, _, rfl, ?_⟩⟩
      have st45 := st4.trans st5
      have hL5 := hL4.step st4.deal st5
      refine ite2 (fun _ => ?_) (fun _ => ⟨zs, rfl, st45, hL5, pg4⟩)
      refine ⟨fun σ H6 => ∃ zs' : List VR, σ = [some (.ref D), some (.int 16), some (.ref N), some (.ref Mo), some (.ref Pl), some (.ref Wd), some (.ref R), some (.ref P), s8, s9, s10, s11, s12, s13, s14, s15, s16] ∧ Step D G H H6 ∧ LP D G Mo Pl Wd R modes places words H6 zs' ∧ PGo modes kvs F 16 (zs'.map (fun p : VR => p.2)) ∧ 16 - zs'.length < 16 - zs.length, ?_, ?_⟩
      · rintro σ' H6 ⟨zs', rfl, st6, hL6, pg6, hm6⟩
        exact ⟨_, hm6, zs', rfl, st6, hL6, pg6, rfl⟩
      refine ⟨_, rfl, .inl ⟨rfl, _, SqL.of hL5.r.l⟩, _, rfl, _, rfl, _, rfl, _, rfl, D, G, R, Mo, Pl, Wd, modes, places, words, rfl, (fun e => by rw [hL5.r.l] at e; cases e), st45.deal, hL5.m, hL5.p, hL5.w, g.fm, g.fp, g.fw, g.wn, Nat.le_trans g.lm (by decide), by rw [g.lp]; decide, Nat.le_trans g.lw (by decide), fun H6 v r st6 dr hr6 => ?_⟩
      have st46 := st45.trans st6
      have hL6 := hL5.step st45.deal st6
      have hl16 : zs.length < 16 := by omega
      refine ⟨R, _, _, rfl, rfl, hL6.r.l, Nat.lt_of_lt_of_le (by rw [List.length_map]; exact hl16) (by decide), zs ++ [(v, r)], rfl, st46.updN nR oR.1 oR.2, hL6.put dr, ?_, by rw [List.length_append]; show 16 - (zs.length + 1) < _; omega⟩
      rw [List.map_append]
      exact (pg4.self.more hr6).weak (by rw [List.length_map]; exact hl16)
    clear pg hL3 st3
    rintro σ H3 ⟨zs, rfl, st3, hL3, pg⟩
    have lz : zs.length ≤ 16 := by
      have := pg.len
      rw [List.length_map] at this
      exact this
    have ec : cutV (zs.map (·.1)) none (some 16) = zs.map (·.1) := (cut_to (zs.map (fun p : VR => p.1)) 16).trans (List.take_of_length_le (by rw [List.length_map]; exact lz))
    refine ⟨_, rfl, _, rfl, _, rfl, 16, rfl, R, _, rfl, SqL.of hL3.r.l, ?_⟩
    rw [ec]
    intro q nq
    have sq : Same H3 (upd H3 q (.lst (zs.map (·.1)))) := Sn nq
    have st4 := st3.sm sq
    refine ⟨D, G, q, _, rfl, st4.deal, .inl (SqL.of upd_same), by rw [List.length_map]; exact Nat.le_trans lz (by decide), fun H5 p ys st5 np hp pm => ?_⟩
    obtain ⟨zs', pz, rfl⟩ := perm_of_map _ pm
    refine k H5 p R zs' (st4.trans st5) hp (fun x hx => ((hL3.z x (pz.mem_iff.mp hx)).sm sq).step st4.deal st5) (good_perm (pz.symm.map _) (pg.good g.nd g.ne fnd fne)) ?_
    rw [pz.length_eq]; exact lz
end
end SB

set_option maxHeartbeats 2000000
namespace SB
open PySem PySem.Spec PyProof.Rows L2
open C8 (Cal Mak Met pe_c pe_mk pe_mt pe_mt0 pe_gc InsC call_isC)

theorem dkv_merge (G : Addr) (a b c : Int) : mergeK [] (dkv G a b c) = dkv G a b c := by
  unfold dkv
  rfl
section
variable {P : Program} {w : World} {K : PySem.W.Frag} {mg : Str → Option Value} {base : Heap}

def spDeal (K : PySem.W.Frag) : Sp := fun vs H Q _ => ∃ (S : Addr) (ns : List Int), vs = [.ref S, .int 0] ∧ SqL K H S (ns.map V.int) ∧ ∀ H' D G, Same H H' → H D = none → DealAt D G H' → Q (.ref D) H'
theorem c_law_deal (T : Tx K mg) : Cal P w K mg base 1 "_law_deal" (spDeal K) [] := by
  refine T.g_law_deal.cal sc_law_deal (fun vs H Q E h => ?_) (fun f cdv A outer s H vs Q E hr h => ?_) (fun _ _ _ _ _ _ us hl => match us, hl with | [_, _], _ => rfl)
  · obtain ⟨S, ns, rfl, hS, k⟩ := h
    rfl
  · obtain ⟨S, ns, rfl, hS, k⟩ := h
    refine ⟨_, (C8.pss_cut (ps_setLx (i := 3) (own := [("_law_cell", 2)]) (g := gName 2) (tt := tYes) (by rfl) sc_law_deal.nd rfl rfl (sw_true rfl rfl rfl (by decide +kernel)) (pi_seq (pe_slice (r := rSlL K) sl_list (pv 0) (po_some (pv 1)) (po_some pe_int))) (blkOk_by (N := n_law_deal) (sc := defScope s_law_deal) (by decide +kernel)) (fun _ _ _ _ _ => pg_name (i := 2) sc_law_deal.nd rfl (Or.inl rfl)) (fun _ _ _ _ _ => pts_nil) (fun _ _ _ _ _ => (pe_callB call_abs (by rfl) T.m_abs (by decide +kernel) (pa_cons (pv 2) pa_nil)))) (C8.pss_cut (ps_set (i := 4) sc_law_deal.nd rfl (Or.inl rfl) (pe_op op_add pe_int (pv 1))) (C8.pss_cut (ps_for PassesOwn.never rfl (pi_seq (pv 3)) (pg_name (i := 2) sc_law_deal.nd rfl (Or.inl rfl)) (pss_one (ps_set (i := 4) sc_law_deal.nd rfl (Or.inl rfl) (pe_op op_mod (pe_callTy call_int1 (by rfl) T.m_int (by decide +kernel) (pa_cons (pe_op op_add (pe_op op_mul (pv 4) pe_int) (pv 2)) pa_nil)) pe_int)))) (C8.pss_cut (ps_setLx (i := 5) (own := [("_law_cell", 2)]) (g := gName 2) (by rfl) sc_law_deal.nd rfl rfl (sw_true rfl rfl rfl (by decide +kernel)) (pi_seq (pv 3)) (blkOk_by (N := n_law_deal) (sc := defScope s_law_deal) (by decide +kernel)) (fun _ _ _ _ _ => pg_name (i := 2) sc_law_deal.nd rfl (Or.inl rfl)) (fun _ _ _ _ _ => pts_one (pt_cmpR op_ge (pv 2) (pe_op op_pow pe_int pe_int) (nomark _))) (fun _ _ _ _ _ => (pv 2))) (pss_one (ps_ret (pe_disp (pps_cons pe_str (pe_revL (pv 5)) (pps_cons pe_str pe_int (pps_cons pe_str (pe_op op_add (pv 4) pe_int) (pps_cons pe_str pe_int pps_nil)))) (by decide) rfl (List.cons_ne_nil _ _) (by decide)))))))), ?_⟩
    refine ⟨fun σ H1 => ∃ (L : Addr) (as : List Int), σ = [some (.ref S), some (.int 0), none, some (.ref L), none, none] ∧ Same H H1 ∧ H1 L = some (.lst (as.map V.int)) ∧ as.length ≤ 100, ?_, ?_⟩
    · refine ⟨_, rfl, _, rfl, 0, rfl, 63, rfl, S, _, rfl, hS, fun q nq => ?_⟩
      have eq : cutV (ns.map V.int) (some 0) (some 63) = (cutW ns (some 0) (some 63)).map V.int := cutV_map V.int ns (some 0) (some 63)
      have l63 : (cutW ns (some 0) (some 63)).length ≤ 63 := by
        unfold cutW
        have h : HT.sIx ns.length ns.length (some 63) = min 63 ns.length := HT.sIx_nat _ _ 63
        rw [List.length_take, h]; omega
      have sq : Same H (upd H q (.lst (cutV (ns.map V.int) (some 0) (some 63)))) := Sn nq
      have hq : (upd H q (.lst (cutV (ns.map V.int) (some 0) (some 63)))) q = some (.lst ((cutW ns (some 0) (some 63)).map V.int)) := by rw [upd_same, eq]
      generalize upd H q (.lst (cutV (ns.map V.int) (some 0) (some 63))) = H1 at sq hq ⊢
      refine it_use (cutW ns (some 0) (some 63)) V.int (fun z => some (.int (if z < 0 then -z else z))) (.inl (SqL.of hq)) (Nat.le_trans l63 (by decide)) ?_ ?_
      · intro z H2 N M hz s2 kN kM
        exact ⟨rfl, _, rfl, z, rfl, kN _ _ (Same.refl _) rfl⟩
      intro L H2 nL s2 hL
      obtain ⟨as, ea⟩ := ints_of (l := (cutW ns (some 0) (some 63)).filterMap fun z => some (V.int (if z < 0 then -z else z))) fun y hy => by
        obtain ⟨z, _, e⟩ := List.mem_filterMap.mp hy
        exact ⟨_, (Option.some.inj e).symm⟩
      have la : as.length ≤ 63 := by
        have h := List.length_filterMap_le (fun z : Int => some (V.int (if z < 0 then -z else z))) (cutW ns (some 0) (some 63))
        rw [ea, List.length_map] at h
        exact Nat.le_trans h l63
      rw [ea] at hL
      exact ⟨L, as, rfl, sq.trans s2, hL, Nat.le_trans la (by decide)⟩
    rintro σ H1 ⟨L, as, rfl, s1, hL, la⟩
    refine ⟨fun σ H2 => ∃ (n : Nat), σ = [some (.ref S), some (.int 0), none, some (.ref L), some (.int (n : Int)), none] ∧ H2 = H1 ∧ n < 2147483647, ⟨_, rfl, _, _, rfl, rfl, 15485863, rfl, rfl, by decide⟩, ?_⟩
    rintro σ H2 ⟨n, rfl, rfl, hn⟩
    refine ⟨fun σ H3 => ∃ (s2 : Option V) (n : Nat), σ = [some (.ref S), some (.int 0), s2, some (.ref L), some (.int (n : Int)), none] ∧ H3 = H2 ∧ n < 2147483647, ?_, ?_⟩
    · refine ⟨_, rfl, L, rfl, .inl ⟨⟨_, SqL.of hL⟩, for_list (fun i σ H3 => ∃ (s2 : Option V) (n : Nat), σ = [some (.ref S), some (.int 0), s2, some (.ref L), some (.int (n : Int)), none] ∧ H3 = H2 ∧ n < 2147483647) ⟨none, n, rfl, rfl, hn⟩ (fun i σ H3 _ ⟨_, _, _, e, _⟩ => by rw [e]; exact SqL.of hL) ?_ ?_⟩⟩
      · rintro i x σ H3 hx ⟨s2, n, rfl, rfl, hn⟩
        rw [List.getElem?_map] at hx
        obtain ⟨z, hz, rfl⟩ := Option.map_eq_some_iff.mp hx
        refine ⟨_, rfl, _, _, rfl, rfl, .inl ⟨by omega, by omega⟩, _, rfl, _, _, rfl, rfl, .inl ⟨_, rfl, _, _, rfl, rfl, (by show (0:Int) < 2147483647; decide), ?_⟩⟩
        obtain ⟨k, ek, hk⟩ := emod_nat (x := (n : Int) * 16807 + z) (n := 2147483647) (by decide)
        exact ⟨_, k, by rw [← ek]; rfl, rfl, hk⟩
      · rintro σ H3 ⟨s2, n, rfl, rfl, hn⟩
        exact ⟨_, n, rfl, rfl, hn⟩
    clear hn n
    rintro σ H3 ⟨s2, n, rfl, rfl, hn⟩
    refine ⟨fun σ H4 => ∃ (s2 : Option V) (B : Addr) (bs : List Int), σ = [some (.ref S), some (.int 0), s2, some (.ref L), some (.int (n : Int)), some (.ref B)] ∧ Same H3 H4 ∧ H4 B = some (.lst (bs.map V.int)), ?_, ?_⟩
    · refine ⟨_, rfl, it_use as V.int (fun z => if (decide ((10 : Int) ^ 18 ≤ z)) = true then some (.int z) else none) (.inl (SqL.of hL)) (Nat.le_trans la (by decide)) ?_ ?_⟩
      · intro z H4 N M hz s4 kN kM
        refine ⟨rfl, _, rfl, _, _, rfl, rfl, ⟨by decide, by decide, by decide⟩, _, _, rfl, rfl, _, rfl, ?_⟩
        refine ite2 (fun hc => ?_) (fun hc => ?_)
        · exact ⟨_, rfl, kN _ _ (Same.refl _) (if_pos hc)⟩
        · exact kM _ (Same.refl _) (if_neg hc)
      intro B H4 nB s4 hB
      obtain ⟨bs, eb⟩ := ints_of (l := as.filterMap fun z => if (decide ((10 : Int) ^ 18 ≤ z)) = true then some (V.int z) else none) fun y hy => by
        obtain ⟨z, _, e⟩ := List.mem_filterMap.mp hy
        by_cases q : (decide ((10 : Int) ^ 18 ≤ z)) = true
        · rw [if_pos q] at e; exact ⟨_, (Option.some.inj e).symm⟩
        · rw [if_neg q] at e; cases e
      rw [eb] at hB
      exact ⟨_, B, bs, rfl, s4, hB⟩
    rintro σ H4 ⟨s2, B, bs, rfl, s4, hB⟩
    intro D nD
    have sD : Same H4 (upd H4 D (.dK [])) := Sn nD
    have hD : (upd H4 D (.dK [])) D = some (.dK []) := upd_same
    have s34 := (s1.trans s4).trans sD
    have nD0 : H D = none := (s1.trans s4).free nD
    have hB2 := sD _ _ hB
    clear sD
    refine ⟨_, rfl, B, _, rfl, SqL.of hB2, fun R nR => ?_⟩
    have sR : Same (upd H4 D (.dK [])) (upd (upd H4 D (.dK [])) R (.lst (bs.map V.int).reverse)) := Sn nR
    have hDR : D ≠ R := fun e => by rw [← e, hD] at nR; cases nR
    have hD2 := sR _ _ hD
    have hR2 : (upd (upd H4 D (.dK [])) R (.lst (bs.map V.int).reverse)) R = some (.lst (bs.reverse.map V.int)) := by rw [upd_same, List.map_reverse]
    have s5 := s34.trans sR
    generalize upd (upd H4 D (.dK [])) R (.lst (bs.map V.int).reverse) = H5 at hD2 hR2 s5 ⊢
    refine ⟨_, rfl, _, _, rfl, rfl, hD2, dkv R 0 ((n : Int) + 1) 0, rfl, (by show 4 ≤ 15; decide), ?_⟩
    rw [dkv_merge]
    exact k _ D R (sameD nD0 s5) nD0 ⟨⟨_, _, _, upd_same⟩, bs.reverse, by rw [upd_ne (Ne.symm hDR)]; exact hR2⟩
end
end SB

set_option maxHeartbeats 2000000
namespace SB
open PySem PySem.Spec PyProof.Rows L2

/-! ### what a plan gathers, in plain lists -/
theorem asc_mem {ws ys : List Str} (h : Asc ws ys) (z : Str) : z ∈ ys ↔ z ∈ ws := by rw [h.1.mem_iff, keysD_mem]
theorem asc_from {f : RD → List Str} {rs : List RD} {ys : List Str} (hf : ∀ r ∈ rs, From pool (f r)) (h : Asc (rs.flatMap f) ys) : From pool ys := fun z hz => by
  obtain ⟨r, hr, hz⟩ := List.mem_flatMap.mp ((asc_mem h z).mp hz)
  exact hf r hr z hz
theorem asc_len {f : RD → List Str} {rs : List RD} {ys : List Str} (hf : ∀ r ∈ rs, From pool (f r)) (h : Asc (rs.flatMap f) ys) : ys.length ≤ 1000 := by
  have q := len_of_sub (l := ys) (m := pool) (h.1.nodup_iff.mpr (keysD_nd _)) (asc_from hf h)
  exact Nat.le_trans q (by decide +kernel)
theorem asc_sub {f : RD → List Str} {rs qs : List RD} {ys xs : List Str} (hs : ∀ r ∈ qs, ∃ r' ∈ rs, ∀ z ∈ f r, z ∈ f r') (h : Asc (qs.flatMap f) xs) (h2 : Asc (rs.flatMap f) ys) : From ys xs := fun z hz => by
  obtain ⟨r, hr, hz⟩ := List.mem_flatMap.mp ((asc_mem h z).mp hz)
  obtain ⟨r', hr', hz'⟩ := hs r hr
  exact (asc_mem h2 z).mpr (List.mem_flatMap.mpr ⟨r', hr', hz' z hz⟩)
theorem heed_sub (ms : List Str) {r r' : RD} (e : heedD ms r = some r') : (∀ z ∈ placesD r', z ∈ placesD r) ∧ (∀ z ∈ phasesD r', z ∈ phasesD r) ∧ (∀ z ∈ marksD r', z ∈ marksD r) ∧ (∀ z ∈ lettersD r', z ∈ lettersD r) := by
  cases r with
  | house ev ts ds =>
    have e' : (if ts.any (tbad ms) = true then none else some (RD.house ev (ts.filter (tkeep ms)) (ds.filter (dkeep ms)))) = some r' := e
    by_cases q : ts.any (tbad ms) = true
    · rw [if_pos q] at e'; cases e'
    · rw [if_neg q] at e'
      cases e'
      have nbm : ∀ (ws xs ys : List Str), (∀ z ∈ xs, z ∈ ys) → ∀ z ∈ nb ws xs, z ∈ nb ws ys := fun ws xs ys h z hz => by
        obtain ⟨t, ht, e⟩ := List.mem_filterMap.mp hz
        exact List.mem_filterMap.mpr ⟨t, h t ht, e⟩
      have both : ∀ z ∈ ts.filter (tkeep ms) ++ ds.filter (dkeep ms), z ∈ ts ++ ds := fun z hz => by
        rcases List.mem_append.mp hz with hz | hz
        · exact List.mem_append_left _ (List.mem_filter.mp hz).1
        · exact List.mem_append_right _ (List.mem_filter.mp hz).1
      refine ⟨fun z hz => hz, fun z hz => ?_, fun z hz => nbm _ _ _ both z hz, fun z hz => ?_⟩
      · obtain ⟨h1, h2⟩ := List.mem_filter.mp hz
        exact List.mem_filter.mpr ⟨nbm _ _ _ both z h1, h2⟩
      · obtain ⟨h1, h2⟩ := List.mem_filter.mp hz
        refine List.mem_filter.mpr ⟨?_, h2⟩
        rcases List.mem_cons.mp h1 with h1 | h1
        · rw [h1]; exact List.mem_cons_self
        · exact List.mem_cons_of_mem _ (nbm _ _ _ (fun z hz => (List.mem_filter.mp hz).1) z h1)
  | first _ => cases e; exact ⟨fun _ h => h, fun _ h => h, fun _ h => h, fun _ h => h⟩
  | mode _ _ _ => cases e; exact ⟨fun _ h => h, fun _ h => h, fun _ h => h, fun _ h => h⟩
  | turn _ _ _ _ => cases e; exact ⟨fun _ h => h, fun _ h => h, fun _ h => h, fun _ h => h⟩
  | lead _ _ _ _ _ => cases e; exact ⟨fun _ h => h, fun _ h => h, fun _ h => h, fun _ h => h⟩
/-! ### heeding twice -/
theorem both_has (xs ys : List Str) (z : Str) : (xs.filter fun z => ys.contains z).contains z = (xs.contains z && ys.contains z) := by
  rw [Bool.eq_iff_iff, Bool.and_eq_true, List.contains_iff_mem, List.mem_filter, List.contains_iff_mem, List.contains_iff_mem]
theorem tbad_both (xs ys : List Str) (t : Str) : tbad (xs.filter fun z => ys.contains z) t = (tbad xs t || tbad ys t) := by
  unfold tbad
  rw [both_has]
  cases decide (Txt.slice t none (some 7) = "marked ") <;> cases xs.contains (Txt.slice t (some 7) none) <;> cases ys.contains (Txt.slice t (some 7) none) <;> rfl
theorem tkeep_both (xs ys : List Str) (t : Str) : tkeep (xs.filter fun z => ys.contains z) t = (tkeep xs t && tkeep ys t) := by
  unfold tkeep
  rw [both_has]
  cases decide (Txt.slice t none (some 11) = "not marked ") <;> cases xs.contains (Txt.slice t (some 11) none) <;> cases ys.contains (Txt.slice t (some 11) none) <;> rfl
theorem dkeep_both (xs ys : List Str) (t : Str) : dkeep (xs.filter fun z => ys.contains z) t = (dkeep xs t && dkeep ys t) := by
  unfold dkeep
  split
  · rename_i a n _
    rw [both_has]
    cases (["mark", "clear"] : List Str).contains a <;> cases xs.contains n <;> cases ys.contains n <;> rfl
  · rfl
def notBoth (t : Str) : Bool := !(decide (Txt.slice t none (some 7) = "marked ") && decide (Txt.slice t none (some 11) = "not marked "))
theorem tests_both : ∀ t ∈ tests, notBoth t = true := List.all_eq_true.mp (by decide +kernel)
theorem any_keep (xs ys : List Str) : ∀ ts : List Str, From tests ts → (ts.filter (tkeep xs)).any (tbad ys) = ts.any (tbad ys)
  | [], _ => rfl
  | t :: ts, h => by
    have ih := any_keep xs ys ts fun z hz => h z (List.mem_cons_of_mem _ hz)
    have nbt := tests_both t (h t List.mem_cons_self)
    rw [List.filter_cons]
    by_cases q : tkeep xs t = true
    · rw [if_pos q, List.any_cons, List.any_cons, ih]
    · rw [if_neg q, List.any_cons, ih]
      have e : tbad ys t = false := by
        unfold tbad
        unfold notBoth at nbt
        unfold tkeep at q
        cases e1 : decide (Txt.slice t none (some 7) = ("marked " : Str)) with
        | false => rfl
        | true =>
          cases e2 : decide (Txt.slice t none (some 11) = ("not marked " : Str)) with
          | false => rw [e2] at q; exact (q rfl).elim
          | true => rw [e1, e2] at nbt; exact nomatch nbt
      rw [e]; rfl
theorem heed_two (xs ys : List Str) {r : RD} (h : Ok r) : (heedD xs r).bind (heedD ys) = heedD (xs.filter fun z => ys.contains z) r := by
  cases r with
  | house ev ts ds =>
    have e1 : heedD xs (.house ev ts ds) = if ts.any (tbad xs) = true then none else some (RD.house ev (ts.filter (tkeep xs)) (ds.filter (dkeep xs))) := rfl
    have e2 : ∀ ms ts ds, heedD ms (.house ev ts ds) = if ts.any (tbad ms) = true then none else some (RD.house ev (ts.filter (tkeep ms)) (ds.filter (dkeep ms))) := fun _ _ _ => rfl
    have ea : ts.any (tbad (xs.filter fun z => ys.contains z)) = (ts.any (tbad xs) || ts.any (tbad ys)) := by
      rw [show tbad (xs.filter fun z => ys.contains z) = fun t => tbad xs t || tbad ys t from funext (tbad_both xs ys)]
      clear e1 e2 h
      induction ts with
      | nil => rfl
      | cons t ts ih => rw [List.any_cons, List.any_cons, List.any_cons, ih]; cases tbad xs t <;> cases tbad ys t <;> cases ts.any (tbad xs) <;> rfl
    rw [e2, e2, ea]
    cases q1 : ts.any (tbad xs) with
    | true => rfl
    | false =>
      show heedD ys (.house ev (ts.filter (tkeep xs)) (ds.filter (dkeep xs))) = if ts.any (tbad ys) = true then none else _
      rw [e2, any_keep xs ys ts h.2.2.1, List.filter_filter, List.filter_filter]
      rw [show tkeep (xs.filter fun z => ys.contains z) = fun t => tkeep ys t && tkeep xs t from funext fun t => (tkeep_both xs ys t).trans (Bool.and_comm _ _), show dkeep (xs.filter fun z => ys.contains z) = fun t => dkeep ys t && dkeep xs t from funext fun t => (dkeep_both xs ys t).trans (Bool.and_comm _ _)]
  | first _ => rfl
  | mode _ _ _ => rfl
  | turn _ _ _ _ => rfl
  | lead _ _ _ _ _ => rfl
theorem heed_both (xs ys : List Str) : ∀ rs : List RD, (∀ r ∈ rs, Ok r) → (rs.filterMap (heedD xs)).filterMap (heedD ys) = rs.filterMap (heedD (xs.filter fun z => ys.contains z))
  | [], _ => rfl
  | r :: rs, h => by
    have ih := heed_both xs ys rs fun q hq => h q (List.mem_cons_of_mem _ hq)
    have e := heed_two xs ys (h r List.mem_cons_self)
    cases q : heedD xs r with
    | none =>
      have e2 : heedD (xs.filter fun z => ys.contains z) r = none := by rw [← e, q]; rfl
      rw [List.filterMap_cons_none q, List.filterMap_cons_none e2]
      exact ih
    | some r' =>
      cases q3 : heedD ys r' with
      | none =>
        have e2 : heedD (xs.filter fun z => ys.contains z) r = none := by rw [← e, q]; exact q3
        rw [List.filterMap_cons_some q, List.filterMap_cons_none q3, List.filterMap_cons_none e2]
        exact ih
      | some b =>
        have e2 : heedD (xs.filter fun z => ys.contains z) r = some b := by rw [← e, q]; exact q3
        rw [List.filterMap_cons_some q, List.filterMap_cons_some q3, List.filterMap_cons_some e2, ih]
/-! ### two rows of texts with the same members, both ascending -/
def ltB (x y : Str) : Bool := ltCps x.cps.toList y.cps.toList
theorem pool_tri : ∀ x ∈ pool, ∀ y ∈ pool, ltB x y = false → ltB y x = false → x = y := by
  have h : pool.all (fun x => pool.all fun y => ltB x y || ltB y x || decide (x = y)) = true := by decide +kernel
  intro x hx y hy h1 h2
  have q := List.all_eq_true.mp (List.all_eq_true.mp h x hx) y hy
  rw [h1, h2] at q
  exact of_decide_eq_true q
theorem pool_tr : ∀ x ∈ pool, ∀ y ∈ pool, ∀ z ∈ pool, ltB y x = false → ltB z y = false → ltB z x = false := by
  have h : pool.all (fun x => pool.all fun y => pool.all fun z => ltB y x || ltB z y || !ltB z x) = true := by decide +kernel
  intro x hx y hy z hz h1 h2
  have q := List.all_eq_true.mp (List.all_eq_true.mp (List.all_eq_true.mp h x hx) y hy) z hz
  rw [h1, h2] at q
  cases e : ltB z x with
  | false => rfl
  | true => rw [e] at q; exact nomatch q
theorem rising_least : ∀ (x : Str) (l : List Str), From pool (x :: l) → risingS x l = true → ∀ y ∈ l, ltB y x = false
  | _, [], _, _ => fun _ h => nomatch h
  | x, y :: l, hf, hr => by
    have hr' : (!ltB y x && risingS y l) = true := hr
    rw [Bool.and_eq_true, Bool.not_eq_true'] at hr'
    have hx := hf x List.mem_cons_self
    have hy := hf y (List.mem_cons_of_mem _ List.mem_cons_self)
    intro z hz
    rcases List.mem_cons.mp hz with rfl | hz
    · exact hr'.1
    · have ih := rising_least y l (fun q hq => hf q (List.mem_cons_of_mem _ hq)) hr'.2 z hz
      exact pool_tr x hx y hy z (hf z (List.mem_cons_of_mem _ (List.mem_cons_of_mem _ hz))) hr'.1 ih
theorem sorted_tl {x : Str} {l : List Str} (h : sortedS (x :: l) = true) : sortedS l = true := by
  cases l with
  | nil => rfl
  | cons y l =>
    have h' : (!ltB y x && risingS y l) = true := h
    rw [Bool.and_eq_true] at h'
    exact h'.2
theorem sorted_one : ∀ {a b : List Str}, From pool a → a.Perm b → sortedS a = true → sortedS b = true → a = b
  | [], b, _, p, _, _ => (List.nil_perm.mp p).symm
  | x :: a, [], _, p, _, _ => (List.perm_nil.mp p)
  | x :: a, y :: b, hf, p, h1, h2 => by
    have hfb : From pool (y :: b) := fun z hz => hf z (p.mem_iff.mpr hz)
    have e : x = y := by
      by_cases e : x = y
      · exact e
      · have hx : x ∈ b := (List.mem_cons.mp (p.mem_iff.mp List.mem_cons_self)).resolve_left e
        have hy : y ∈ a := (List.mem_cons.mp (p.mem_iff.mpr List.mem_cons_self)).resolve_left fun q => e q.symm
        exact pool_tri x (hf x List.mem_cons_self) y (hfb y List.mem_cons_self) (rising_least y b hfb h2 x hx) (rising_least x a hf h1 y hy)
    subst e
    rw [sorted_one (fun z hz => hf z (List.mem_cons_of_mem _ hz)) ((List.perm_cons x).mp p) (sorted_tl h1) (sorted_tl h2)]
theorem asc_one {f : RD → List Str} {rs qs : List RD} {ys xs : List Str} (hf : ∀ r ∈ qs, From pool (f r)) (p : qs.Perm rs) (h : Asc (qs.flatMap f) xs) (h2 : Asc (rs.flatMap f) ys) : xs = ys := by
  have hp : xs.Perm ys := (List.perm_ext_iff_of_nodup (h.1.nodup_iff.mpr (keysD_nd _)) (h2.1.nodup_iff.mpr (keysD_nd _))).mpr fun z => by
    rw [asc_mem h, asc_mem h2, List.mem_flatMap, List.mem_flatMap]
    exact ⟨fun ⟨r, a, b⟩ => ⟨r, p.mem_iff.mp a, b⟩, fun ⟨r, a, b⟩ => ⟨r, p.mem_iff.mpr a, b⟩⟩
  exact sorted_one (asc_from hf h) hp h.2 h2.2
section
variable {K : PySem.W.Frag} {c : Cs} {H H' : Hp} {u v : V} {zs ys : List VR} {o o' : PV}
theorem plan_pv (h : PlanAt c K H v zs o) : PVok (zs.map (fun p : VR => p.2)) o ∧ ∀ r ∈ zs.map (fun p : VR => p.2), Ok r := by
  obtain ⟨_, _, _, _, _, _, _, R, ho⟩ := h
  exact ⟨ho, rowsOk R⟩
theorem lens_le (h : PlanAt c K H v zs o) (l : zs.length ≤ 16) : o.pl.length ≤ 1000 ∧ o.ph.length ≤ 1000 ∧ o.mr.length ≤ 1000 ∧ o.lt.length ≤ 1000 := by
  obtain ⟨a, b⟩ := plan_pv h
  exact ⟨asc_len (fun r hr => places_from (b r hr)) a.pl, asc_len (fun r hr => phases_from (b r hr)) a.ph, asc_len (fun r hr => marks_from (b r hr)) a.mr, asc_len (fun r hr => letters_from (b r hr)) a.lt⟩
theorem sub_off {j : Nat} (h : PlanAt c K H u (offAt ys j) o') (h2 : PlanAt c K H v ys o) : PVsub o' o := by
  obtain ⟨a, _⟩ := plan_pv h
  obtain ⟨b, _⟩ := plan_pv h2
  have m : ∀ r ∈ (offAt ys j).map (fun p : VR => p.2), r ∈ ys.map (fun p : VR => p.2) := fun r hr => by
    obtain ⟨p, hp, rfl⟩ := List.mem_map.mp hr
    exact List.mem_map_of_mem (f := fun p : VR => p.2) (off_mem hp)
  exact ⟨asc_sub (fun r hr => ⟨r, m r hr, fun _ q => q⟩) a.pl b.pl, asc_sub (fun r hr => ⟨r, m r hr, fun _ q => q⟩) a.ph b.ph, asc_sub (fun r hr => ⟨r, m r hr, fun _ q => q⟩) a.mr b.mr, asc_sub (fun r hr => ⟨r, m r hr, fun _ q => q⟩) a.lt b.lt⟩
theorem sub_heed {ms : List Str} (e : zs.map (·.2) = (ys.map (·.2)).filterMap (heedD ms)) (h : PlanAt c K H u zs o') (h2 : PlanAt c K H' v ys o) : PVsub o' o := by
  obtain ⟨a, _⟩ := plan_pv h
  obtain ⟨b, _⟩ := plan_pv h2
  have m : ∀ r ∈ zs.map (fun p : VR => p.2), ∃ r' ∈ ys.map (fun p : VR => p.2), heedD ms r' = some r := fun r hr => by
    have hr' : r ∈ (ys.map (fun p : VR => p.2)).filterMap (heedD ms) := by rw [← e]; exact hr
    obtain ⟨r', a, b⟩ := List.mem_filterMap.mp hr'
    exact ⟨r', a, b⟩
  exact ⟨asc_sub (fun r hr => let ⟨r', q, w⟩ := m r hr; ⟨r', q, (heed_sub ms w).1⟩) a.pl b.pl, asc_sub (fun r hr => let ⟨r', q, w⟩ := m r hr; ⟨r', q, (heed_sub ms w).2.1⟩) a.ph b.ph,
    asc_sub (fun r hr => let ⟨r', q, w⟩ := m r hr; ⟨r', q, (heed_sub ms w).2.2.1⟩) a.mr b.mr, asc_sub (fun r hr => let ⟨r', q, w⟩ := m r hr; ⟨r', q, (heed_sub ms w).2.2.2⟩) a.lt b.lt⟩
theorem cp_names (h : PlanAt c K H v zs o) : Cp (namesOf (zs.map (fun p : VR => p.2))) := by
  refine cp_pool fun z hz => ?_
  obtain ⟨q, hq, rfl⟩ := List.mem_map.mp hz
  obtain ⟨r, hr, e⟩ := List.mem_filterMap.mp hq
  have ok := (plan_pv h).2 r hr
  cases r with
  | mode n pr es => cases e; exact ok.1
  | first _ => cases e
  | turn _ _ _ _ => cases e
  | lead _ _ _ _ _ => cases e
  | house _ _ _ => cases e
theorem cp_firsts (h : PlanAt c K H v zs o) : Cp (firstsOf (zs.map (fun p : VR => p.2))) := by
  refine cp_pool fun z hz => ?_
  obtain ⟨r, hr, e⟩ := List.mem_filterMap.mp hz
  have ok := (plan_pv h).2 r hr
  cases r with
  | first p => cases e; exact ok
  | mode _ _ _ => cases e
  | turn _ _ _ _ => cases e
  | lead _ _ _ _ _ => cases e
  | house _ _ _ => cases e
theorem cp_letters (h : PlanAt c K H v zs o) : Cp o.lt := by
  obtain ⟨a, b⟩ := plan_pv h
  exact cp_pool (asc_from (fun r hr => letters_from (b r hr)) a.lt)
theorem letters_apart {qs : List VR} (h : PlanAt c K H u qs o') (h2 : PlanAt c K H v ys o) (p : (qs.map (fun p : VR => p.2)).Perm (ys.map (fun p : VR => p.2))) : o'.lt = o.lt := by
  obtain ⟨a, b⟩ := plan_pv h
  exact asc_one (fun r hr => letters_from (b r hr)) p a.lt (plan_pv h2).1.lt
end
end SB

set_option maxHeartbeats 2000000
namespace SB
open PySem PySem.Spec PyProof.Rows L2
open C8 (Cal Mak Met pe_c pe_mk pe_mt pe_mt0 pe_gc InsC call_isC)

section
variable {P : Program} {w : World} {K : PySem.W.Frag} {mg : Str → Option Value} {base : Heap}
variable {c : Cs}
/-- what stands in one turn of the law -/
structure Cur (c : Cs) (K : PySem.W.Frag) (D G L R : Addr) (v : V) (zs ys : List VR) (o : PV) (H : Hp) : Prop where
  deal : DealAt D G H
  l : LsAt D G H L (zs.map (·.1))
  z : DrRs D G R H zs
  good : Good (zs.map (·.2))
  len : zs.length ≤ 16
  p : PlanAt c K H v ys o
  e : ys.map (·.2) = zs.map (·.2)
def LawSg (S D : Addr) (r : List (Option V)) (σ : Sg) : Prop := ∃ (s2 s3 s4 s5 s6 s7 s8 s9 s10 s11 s12 s13 s14 s15 : Option V), σ = [some (.ref S), some (.ref D), s2, s3, s4, s5, s6, s7, s8, s9, s10, s11, s12, s13, s14, s15]
section
variable {D G L R : Addr} {v : V} {zs ys : List VR} {o : PV} {H H' : Hp}
theorem Cur.sm (h : Cur c K D G L R v zs ys o H) (s : Same H H') : Cur c K D G L R v zs ys o H' := ⟨h.deal.same s, h.l.sm s, fun q hq => (h.z q hq).sm s, h.good, h.len, h.p.sm s, h.e⟩
theorem Cur.step (h : Cur c K D G L R v zs ys o H) (s : Step D G H H') : Cur c K D G L R v zs ys o H' := ⟨s.deal, h.l.step s, fun q hq => (h.z q hq).step h.deal s, h.good, h.len, h.p.im (s.im h.deal), h.e⟩
end
theorem planE_go {H1 : Hp} {zs : List VR} {Q : VK} {x dx : Addr} {o : HO} (nx : H1 x = none) (nd : H1 dx = none) (R : RowsAt c K H1 zs) (k : ∀ o H', Same H1 H' → PlanAt c K H' (.ref x) zs o → Q .non H') :
    PlanE c K x dx (upd (upd H1 dx (.own x)) x o) zs Q := fun H' ts o' b hx hl ht ho => by
  have s : Same H1 H' := fun z oz e => b z oz (ne_of_none e nx) (by rw [upd_ne (ne_of_none e nx), upd_ne (ne_of_none e nd)]; exact e)
  exact k o' H' s ⟨x, dx, ts, rfl, hx, hl, ht, R.sm s, ho⟩
theorem prs_rows {H : Hp} : ∀ {xs ys : List VR}, RowsAt c K H xs → RowsAt c K H ys → xs.map (·.2) = ys.map (·.2) → Prs (DRow c K) (xs.map (·.1)) (ys.map (·.1)) H
  | [], [], _, _, _ => .nil
  | [], _ :: _, _, _, e => nomatch e
  | _ :: _, [], _, _, e => nomatch e
  | x :: xs, y :: ys, h1, h2, e => by
    have e' : x.2 :: xs.map (·.2) = y.2 :: ys.map (·.2) := e
    obtain ⟨q, r⟩ := List.cons.inj e'
    have a := h1 x List.mem_cons_self
    have b := h2 y List.mem_cons_self
    rw [← q] at b
    exact .cons ⟨x.2, a.2, a.1, b.1⟩ (prs_rows (fun p hp => h1 p (List.mem_cons_of_mem _ hp)) (fun p hp => h2 p (List.mem_cons_of_mem _ hp)) r)
theorem catA_use {H : Hp} {Q : VK} {a b : Addr} {xs ys : List V} (S1 : SqT K H a xs) (S2 : SqT K H b ys) (l : xs.length + ys.length ≤ sizeLine) (k : ∀ p H', Same H H' → SqT K H' p (xs ++ ys) → Q (.ref p) H') : rCatA K (.ref a) (.ref b) H Q :=
  ⟨a, b, xs, ys, rfl, rfl, S1, S2, l, fun e => k b H (Same.refl _) (by rw [e]; exact S2), fun _ e => k a H (Same.refl _) (by rw [e, List.append_nil]; exact S1), fun _ _ p np => k p _ (Sn np) (SqT.of upd_same)⟩
theorem refs_of {H : Hp} {zs : List VR} (h : RowsAt c K H zs) : ∀ x ∈ zs.map (·.1), ∃ p, x = V.ref p := fun x hx => by
  obtain ⟨q, hq, rfl⟩ := List.mem_map.mp hx
  obtain ⟨a, _, _, _, e, _⟩ := (h q hq).1
  exact ⟨a, e⟩
theorem LsAt.off {D G L x : Addr} {H : Hp} {xs : List V} {o : HO} (h : LsAt D G H L xs) (n : L ≠ x) : LsAt D G (upd H x o) L xs := ⟨by rw [upd_ne n]; exact h.l, h.nd, h.ng⟩
/-- [.. for k in range(n)], each element a new list of texts -/
theorem lc_lists {D G : Addr} {g : TG} {tt : TT} {te : TE} {vs : List Nat} {σ : Sg} {H1 : Hp} {Q : VK} {n : Nat} (hd : DealAt D G H1) (hn : n ≤ 1000)
    (hs : ∀ (L : Addr) (i : Nat) H (N : VK) (M : Hp → Prop), H L ≠ none → Step D G H1 H → (∀ (A : Addr) (ws : List Str) H', Step D G H H' → A ≠ L → LsAt D G H' A (sv ws) → ws.length ≤ 1000 → N (.ref A) H') → g (.int (0 + (i : Int))) (wipe σ vs) H fun σ2 H2 => wipe σ2 vs = wipe σ vs ∧ tt σ2 H2 fun b H3 => if b = true then te σ2 H3 N else M H3)
    (hq : ∀ L acc H, H1 L = none → Step D G H1 H → LsAt D G H L acc → acc.length = n → (∀ y ∈ acc, ∃ (A : Addr) (ws : List Str), y = .ref A ∧ LsAt D G H A (sv ws) ∧ ws.length ≤ 1000) → Q (.ref L) H) : LcR g tt te vs σ Q (Itr 0 n) H1 := by
  intro L nL
  obtain ⟨o1, o2⟩ := hd.off nL
  refine ⟨fun i m H => m = n - i ∧ i ≤ n ∧ Step D G H1 H ∧ ∃ acc, H L = some (.lst acc) ∧ acc.length = i ∧ ∀ y ∈ acc, ∃ (A : Addr) (ws : List Str), y = .ref A ∧ A ≠ L ∧ LsAt D G H A (sv ws) ∧ ws.length ≤ 1000, ⟨n, rfl, Nat.zero_le _, (step_same hd (Sn nL)), [], upd_same, rfl, fun _ h => (nomatch h)⟩, ?_⟩
  rintro i m H ⟨rfl, hi, st, acc, hL, hl, hp⟩
  by_cases hlt : i < n
  · refine .inr ⟨hlt, fun H' => Step D G H1 H' ∧ ∃ acc, H' L = some (.lst acc) ∧ acc.length = i + 1 ∧ ∀ y ∈ acc, ∃ (A : Addr) (ws : List Str), y = .ref A ∧ A ≠ L ∧ LsAt D G H' A (sv ws) ∧ ws.length ≤ 1000, fun H' h' => ⟨n - (i + 1), by omega, rfl, hlt, h'⟩, ?_⟩
    rintro x H' ⟨rfl, rfl⟩
    refine hs L i H' _ _ (by rw [hL]; exact Option.some_ne_none _) st fun A ws H2 s2 neA hA lA => ⟨acc, s2.ex _ _ o1 o2 hL, by rw [hl]; exact Nat.lt_of_le_of_lt (Nat.le_trans (Nat.le_of_lt hlt) hn) (by decide), (st.trans s2).updN nL o1 o2, acc ++ [.ref A], upd_same, by rw [List.length_append, hl]; rfl, fun z hz => ?_⟩
    rcases List.mem_append.mp hz with hz | hz
    · obtain ⟨A', ws', e, n', h', l'⟩ := hp z hz
      exact ⟨A', ws', e, n', (h'.step s2).off n', l'⟩
    · exact ⟨A, ws, List.mem_singleton.mp hz, neA, hA.off neA, lA⟩
  · have e : i = n := by omega
    subst e
    exact .inl ⟨Nat.le_refl _, hq L acc H nL st ⟨hL, o1, o2⟩ hl fun y hy => let ⟨A, ws, e, _, h, l⟩ := hp y hy; ⟨A, ws, e, h, l⟩⟩
theorem len_heed {zs ys : List VR} {ms : List Str} {n : Nat} (e : zs.map (·.2) = (ys.map (·.2)).filterMap (heedD ms)) (l : ys.length ≤ n) : zs.length ≤ n := by
  have q := congrArg List.length e
  rw [List.length_map] at q
  have q2 := List.length_filterMap_le (heedD ms) (ys.map (·.2))
  rw [List.length_map] at q2
  omega
def kindS : RD → Str
  | .first _ => "first"
  | .mode _ _ _ => "mode"
  | .turn _ _ _ _ => "turn"
  | .lead _ _ _ _ _ => "lead"
  | .house _ _ _ => "house"
theorem tup0 (t u : Addr) (r : RD) : (tupR t u r)[0]? = some (.str (kindS r)) := by cases r <;> rfl
theorem kind_house (r : RD) : decide (V.str (kindS r) = V.str "house") = isHouse r := by
  cases r with
  | first _ => exact sA (show decide (("first" : Str) = "house") = false by decide +kernel)
  | mode _ _ _ => exact sA (show decide (("mode" : Str) = "house") = false by decide +kernel)
  | turn _ _ _ _ => exact sA (show decide (("turn" : Str) = "house") = false by decide +kernel)
  | lead _ _ _ _ _ => exact sA (show decide (("lead" : Str) = "house") = false by decide +kernel)
  | house _ _ _ => exact decide_eq_true rfl
/-- a list of drawn rows, sifted, becomes a list of rows -/
theorem made_filt {D G : Addr} {g : TG} {tt : TT} {te : TE} {vs : List Nat} {σ : Sg} {H1 : Hp} {Q : VK} {a : Addr} (f : RD → Bool) (zs : List VR) (S : SqA K H1 a (zs.map (fun p : VR => p.1))) (sz : zs.length ≤ 1000) {Rl : Addr} (R : DrRs D G Rl H1 zs)
    (hs : ∀ p H (N : VK) (M : Hp → Prop), p ∈ zs → Same H1 H → (f p.2 = true → ∀ v' H', Same H H' → RowAt c K H' v' p.2 → N v' H') → (f p.2 = false → ∀ H', Same H H' → M H') → g p.1 (wipe σ vs) H fun σ2 H2 => wipe σ2 vs = wipe σ vs ∧ tt σ2 H2 fun b H3 => if b = true then te σ2 H3 N else M H3)
    (hd : ∀ L (ys : List VR) H, H1 L = none → Same H1 H → H L = some (.lst (ys.map (fun p : VR => p.1))) → RowsAt c K H ys → ys.map (fun p : VR => p.2) = (zs.map (fun p : VR => p.2)).filter f → Q (.ref L) H) : SeqR K (LcR g tt te vs σ Q) (.ref a) H1 := by
  refine lc_seq S (by rw [List.length_map]; exact Nat.lt_of_le_of_lt sz (by decide)) (fun D i acc H => ∃ ys : List VR, acc = ys.map (fun p : VR => p.1) ∧ ys.map (fun p : VR => p.2) = ((zs.map (fun p : VR => p.2)).take i).filter f ∧ RowsAt c K H ys) (fun D nD => ⟨[], rfl, rfl, fun _ h => nomatch h⟩) ?_ ?_
  · intro L i x acc H nL hx s1 hL pr N M kN kM
    obtain ⟨ys, rfl, e2, hR⟩ := pr
    rw [List.getElem?_map] at hx
    obtain ⟨p, hp, rfl⟩ := Option.map_eq_some_iff.mp hx
    have hp2 : (zs.map (fun p : VR => p.2))[i]? = some p.2 := by rw [List.getElem?_map, hp]; rfl
    refine hs p H N M (memi hp) s1 (fun hf v' H' s' hv => kN v' H' s' ⟨ys ++ [(v', p.2)], by rw [List.map_append]; rfl, by rw [List.map_append, e2, take_more hp2, List.filter_append, List.filter_cons, if_pos hf]; rfl, fun q hq => ?_⟩) fun hf H' s' => kM H' s' ⟨ys, rfl, by rw [e2, take_more hp2, List.filter_append, List.filter_cons, if_neg (by rw [hf]; exact Bool.false_ne_true)]; exact (List.append_nil _).symm, fun q hq => ⟨((hR q hq).1.sm s'), (hR q hq).2⟩⟩
    rcases List.mem_append.mp hq with hq | hq
    · exact ⟨((hR q hq).1.sm s').im (im_lst (s' _ _ hL)), (hR q hq).2⟩
    · rw [List.mem_singleton.mp hq]
      exact ⟨hv.im (im_lst (s' _ _ hL)), (R p (memi hp)).ok⟩
  · intro L acc H nL s1 hL hl pr
    rw [List.length_map] at pr
    obtain ⟨ys, rfl, e2, hR⟩ := pr
    rw [List.take_of_length_le (by rw [List.length_map]; exact Nat.le_refl _)] at e2
    exact hd L ys H nL s1 hL hR e2
theorem fm_apart {α : Type} (g : RD → Option α) (hg : ∀ r, isHouse r = true → g r = none) (rs : List RD) : (rs.filter (fun r => !isHouse r) ++ rs.filter isHouse).filterMap g = rs.filterMap g := by
  have e1 : (rs.filter isHouse).filterMap g = [] := List.filterMap_eq_nil_iff.mpr fun r hr => hg r (List.mem_filter.mp hr).2
  rw [List.filterMap_append, e1, List.append_nil]
  induction rs with
  | nil => rfl
  | cons r rs ih =>
    have ih := ih (List.filterMap_eq_nil_iff.mpr fun r hr => hg r (List.mem_filter.mp hr).2)
    cases q : isHouse r with
    | true => rw [List.filter_cons, q, List.filterMap_cons, hg r q]; exact ih
    | false =>
      rw [List.filter_cons, q]
      show List.filterMap g (r :: rs.filter _) = _
      rw [List.filterMap_cons, List.filterMap_cons, ih]
theorem names_apart (rs : List RD) : namesOf (rs.filter (fun r => !isHouse r) ++ rs.filter isHouse) = namesOf rs := congrArg (List.map fun p : Str × Option Str => p.1) (fm_apart modeOf (fun r h => by cases r <;> first | rfl | cases h) rs)
theorem firsts_apart (rs : List RD) : firstsOf (rs.filter (fun r => !isHouse r) ++ rs.filter isHouse) = firstsOf rs := fm_apart firstOf (fun r h => by cases r <;> first | rfl | cases h) rs
def spLaw (K : PySem.W.Frag) : Sp := fun vs H Q _ => ∃ (S : Addr) (ns : List Int), vs = [.ref S] ∧ SqL K H S (ns.map V.int) ∧ ∀ H', Q (.bl true) H'
theorem ok_law (Z : Qx P K mg c) {f : Addr} {fd : FuncData} (F : Fun K "law" "law" s_law f fd) : FnOk P w K mg base CX0 10 f fd ["_law_script"] (spLaw K) := by
  refine F.ok sc_law (fun vs H Q E h => ?_) (fun cdv A outer s H vs Q E hr h => ?_)
  · obtain ⟨S, ns, rfl, hS, k⟩ := h
    rfl
  · obtain ⟨S, ns, rfl, hS, k⟩ := h
    have W := Z.r.m.p.w
    have U := W.v.u
    have Y := U.z.y
    have T := Y.x
    obtain ⟨rmc, rp, rg, rfd, rcr, rcm, rF⟩ := Z.r.read
    refine ⟨_, (C8.pss_cut (ps_set (i := 1) sc_law.nd rfl (Or.inr rfl) (pe_c (c_law_deal T) hr (by decide) (by rfl) (pa_cons (pv 0) (pa_cons pe_int pa_nil)))) (C8.pss_cut (ps_for PassesOwn.never rfl (pi_range1 (by rfl) T.m_range (pa_cons pe_int pa_nil)) (pg_name (i := 2) sc_law.nd rfl (Or.inl rfl)) (C8.pss_cut (ps_set (i := 3) sc_law.nd rfl (Or.inl rfl) (pe_c (c_law_plan (c := c) T) hr (by decide) (by rfl) (pa_cons (pv 1) (pa_cons pe_int pa_nil)))) (C8.pss_cut (ps_set (i := 4) sc_law.nd rfl (Or.inr rfl) (pe_c (c_law_plan_of W) hr (by decide) (by rfl) (pa_cons (pv 3) pa_nil))) (C8.pss_cut (ps_if (PW.pt (pw_or (pt_cmpR (op_neP Z.r.m.p (hr.mono (by decide))) (pe_mk (mk_plan W) hr (by decide) (by rfl) (pa_cons (pe_fo (ks := kPlan) 0 (pv 4) W.k_plan.cl (W.k_plan.na "rows" (by decide +kernel)) (by decide +kernel)) pa_nil)) (pv 4) (nomark _)) (pw_or (pt_cmpR (op_neP Z.r.m.p (hr.mono (by decide))) (ClX.pe_cmeth (pe_gc (v := .ref c.plan) (by rfl) ⟨_, Z.r.m.p.n_plan, rfl⟩) rcr rcm (c_plan_read Z.r rF) hr pass0 (pa_cons (pe_callTy (call_strP Z.r.m.p (hr.mono (by decide))) (by rfl) T.m_str (by decide +kernel) (pa_cons (pv 4) pa_nil)) pa_nil)) (pv 4) (nomark _)) (pw_or1 (pt_cmpR (op_neG mon_row (eqG_row U pass0) (hr.mono (by decide))) (pe_fo (ks := kPlan) 0 (ClX.pe_cmeth (pe_gc (v := .ref c.plan) (by rfl) ⟨_, Z.r.m.p.n_plan, rfl⟩) rcr rcm (c_plan_read Z.r rF) hr pass0 (pa_cons (pe_callTy (call_strP Z.r.m.p (hr.mono (by decide))) (by rfl) T.m_str (by decide +kernel) (pa_cons (pv 4) pa_nil)) pa_nil)) W.k_plan.cl (W.k_plan.na "rows" (by decide +kernel)) (by decide +kernel)) (pe_fo (ks := kPlan) 0 (pv 4) W.k_plan.cl (W.k_plan.na "rows" (by decide +kernel)) (by decide +kernel)) (nomark _)))))) (pss_one (ps_ret pe_bl)) pss_nil) (C8.pss_cut (ps_for PassesOwn.never rfl (pi_range1 (by rfl) T.m_range (pa_cons (pe_callB (call_lenP Z.r.m.p (hr.mono (by decide))) (by rfl) T.m_len (by decide +kernel) (pa_cons (pv 4) pa_nil)) pa_nil)) (pg_name (i := 5) sc_law.nd rfl (Or.inl rfl)) (C8.pss_cut (ps_set (i := 6) sc_law.nd rfl (Or.inl rfl) (pe_c (c_law_less Z) hr (by decide) (by rfl) (pa_cons (pv 4) (pa_cons (pv 5) pa_nil)))) (C8.pss_cut (ps_if (pt_cmp (pc_isN (pv 6))) (pss_one ps_continue) pss_nil) (C8.pss_cut (ps_if (PW.pt (pw_or (pt_cmpR op_ne (pe_callB (call_lenP Z.r.m.p (hr.mono (by decide))) (by rfl) T.m_len (by decide +kernel) (pa_cons (pv 6) pa_nil)) (pe_op op_sub (pe_callB (call_lenP Z.r.m.p (hr.mono (by decide))) (by rfl) T.m_len (by decide +kernel) (pa_cons (pv 4) pa_nil)) pe_int) (nomark _)) (pw_or1 (pt_cmpR (op_neSame (Nat.lt_of_succ_lt (hu_of hr))) (pe_fo (ks := kPlan) 0 (pv 6) W.k_plan.cl (W.k_plan.na "rows" (by decide +kernel)) (by decide +kernel)) (pe_op op_catA (pe_slice sl_tupS (pe_fo (ks := kPlan) 0 (pv 4) W.k_plan.cl (W.k_plan.na "rows" (by decide +kernel)) (by decide +kernel)) po_none (po_some (pv 5))) (pe_slice sl_tupS (pe_fo (ks := kPlan) 0 (pv 4) W.k_plan.cl (W.k_plan.na "rows" (by decide +kernel)) (by decide +kernel)) (po_some (pe_op op_add (pv 5) pe_int)) po_none)) (nomark _))))) (pss_one (ps_ret pe_bl)) pss_nil) (pss_one (ps_if (pt_not (pt_val (pe_c (c_law_within W) hr (by decide) (by rfl) (pa_cons (pv 6) (pa_cons (pv 4) pa_nil))))) (pss_one (ps_ret pe_bl)) pss_nil)))))) (C8.pss_cut (ps_asg (pe_lx (own := [("_law_k", 13)]) (g := gName 13) (tt := tYes) (by rfl) sc_law.nd (pi_range1 (by rfl) T.m_range (pa_cons pe_int pa_nil)) (blkOk_by (N := n_law) (sc := defScope s_law) (by decide +kernel)) (fun _ _ _ _ _ => pg_name (i := 13) sc_law.nd rfl (Or.inl rfl)) (fun _ _ _ _ _ => pts_nil) (fun _ _ _ _ _ => (pe_slice (r := rSlL K) sl_list (pe_c (c_law_mixed T) hr (by decide) (by rfl) (pa_cons (pv 1) (pa_cons (pe_fo (ks := kPlan) 6 (pv 4) W.k_plan.cl (W.k_plan.na "marks" (by decide +kernel)) (by decide +kernel)) pa_nil))) po_none (po_some (pe_c (c_law_draw T) hr (by decide) (by rfl) (pa_cons (pv 1) (pa_cons pe_int pa_nil))))))) (pg_unl rfl (pgs_cons (pg_name (i := 7) sc_law.nd rfl (Or.inl rfl)) (pgs_cons (pg_name (i := 8) sc_law.nd rfl (Or.inr rfl)) pgs_nil)))) (C8.pss_cut (ps_setLx (i := 9) (own := [("_law_mark", 14)]) (g := gName 14) (by rfl) sc_law.nd rfl rfl (sw_true rfl rfl rfl (by decide +kernel)) (pi_seq (pv 7)) (blkOk_by (N := n_law) (sc := defScope s_law) (by decide +kernel)) (fun _ _ _ _ _ => pg_name (i := 14) sc_law.nd rfl (Or.inl rfl)) (fun _ _ _ _ _ => pts_one (pt_cmpR (r := rInW K false) op_inW (pv 14) (pv 8) (by rfl))) (fun _ _ _ _ _ => (pv 14))) (C8.pss_cut (ps_if (PW.pt (pw_or (pt_cmpR (op_neP Z.r.m.p (hr.mono (by decide))) (pe_mt (m_heeding Z.r.m) hr (by decide) (pe_mt (m_heeding Z.r.m) hr (by decide) (pv 4) (pa_cons (pv 7) pa_nil)) (pa_cons (pv 8) pa_nil)) (pe_mt (m_heeding Z.r.m) hr (by decide) (pv 4) (pa_cons (pv 9) pa_nil)) (nomark _)) (pw_or1 (pt_not (pt_val (pe_c (c_law_within W) hr (by decide) (by rfl) (pa_cons (pe_mt (m_heeding Z.r.m) hr (by decide) (pv 4) (pa_cons (pv 7) pa_nil)) (pa_cons (pv 4) pa_nil)))))))) (pss_one (ps_ret pe_bl)) pss_nil) (C8.pss_cut (ps_if (pt_cmpR (op_neSame (Nat.lt_of_succ_lt (hu_of hr))) (pe_callTy call_listA (by rfl) T.m_list (by decide +kernel) (pa_cons (pe_fo (ks := kPlan) 3 (pv 4) W.k_plan.cl (W.k_plan.na "turns" (by decide +kernel)) (by decide +kernel)) pa_nil)) (pe_lx (own := [("_law_row", 15)]) (g := gName 15) (by rfl) sc_law.nd (pi_seq (pe_callTy call_listA (by rfl) T.m_list (by decide +kernel) (pa_cons (pe_fo (ks := kPlan) 0 (pv 4) W.k_plan.cl (W.k_plan.na "rows" (by decide +kernel)) (by decide +kernel)) pa_nil))) (blkOk_by (N := n_law) (sc := defScope s_law) (by decide +kernel)) (fun _ _ _ _ _ => pg_name (i := 15) sc_law.nd rfl (Or.inl rfl)) (fun _ _ _ _ _ => pts_one (pt_val (pe_callB (r := rIsR K c c.turn isTurn) (call_isR U U.of_turn) (by rfl) T.m_isinstance (by decide +kernel) (pa_cons (pv 15) (pa_cons (pe_gc (v := .ref c.turn) (by rfl) ⟨_, U.n_turn, rfl⟩) pa_nil))))) (fun _ _ _ _ _ => (pv 15))) (nomark _)) (pss_one (ps_ret pe_bl)) pss_nil) (C8.pss_cut (ps_setLx (i := 10) (own := [("_law_row", 15)]) (g := gName 15) (by rfl) sc_law.nd rfl rfl (sw_true rfl rfl rfl (by decide +kernel)) (pi_seq (pv 3)) (blkOk_by (N := n_law) (sc := defScope s_law) (by decide +kernel)) (fun _ _ _ _ _ => pg_name (i := 15) sc_law.nd rfl (Or.inl rfl)) (fun _ _ _ _ _ => pts_one (pt_cmpR op_ne (pe_ix (r := rIxU K) ix_U (pv 15) pe_int (fun _ _ => rfl)) pe_str (nomark _))) (fun _ _ _ _ _ => (pv 15))) (C8.pss_cut (ps_setLx (i := 11) (own := [("_law_row", 15)]) (g := gName 15) (by rfl) sc_law.nd rfl rfl (sw_true rfl rfl rfl (by decide +kernel)) (pi_seq (pv 3)) (blkOk_by (N := n_law) (sc := defScope s_law) (by decide +kernel)) (fun _ _ _ _ _ => pg_name (i := 15) sc_law.nd rfl (Or.inl rfl)) (fun _ _ _ _ _ => pts_one (pt_cmpR op_eq (pe_ix (r := rIxU K) ix_U (pv 15) pe_int (fun _ _ => rfl)) pe_str (nomark _))) (fun _ _ _ _ _ => (pe_c (c_law_made Y) hr (by decide) (by rfl) (pa_cons (pv 15) pa_nil)))) (C8.pss_cut (ps_set (i := 12) sc_law.nd rfl (Or.inl rfl) (pe_mk (mk_plan W) hr (by decide) (by rfl) (pa_cons (pe_op op_cat (pe_lx (own := [("_law_row", 15)]) (g := gName 15) (tt := tYes) (by rfl) sc_law.nd (pi_seq (pv 10)) (blkOk_by (N := n_law) (sc := defScope s_law) (by decide +kernel)) (fun _ _ _ _ _ => pg_name (i := 15) sc_law.nd rfl (Or.inl rfl)) (fun _ _ _ _ _ => pts_nil) (fun _ _ _ _ _ => (pe_c (c_law_made Y) hr (by decide) (by rfl) (pa_cons (pv 15) pa_nil)))) (pv 11)) pa_nil))) (pss_one (ps_if (PW.pt (pw_or (pt_cmpR (op_neSS hr.units) (pe_fo (ks := kPlan) 1 (pv 12) W.k_plan.cl (W.k_plan.na "modes" (by decide +kernel)) (by decide +kernel)) (pe_fo (ks := kPlan) 1 (pv 4) W.k_plan.cl (W.k_plan.na "modes" (by decide +kernel)) (by decide +kernel)) (nomark _)) (pw_or (pt_cmpR (op_neSS hr.units) (pe_fo (ks := kPlan) 2 (pv 12) W.k_plan.cl (W.k_plan.na "firsts" (by decide +kernel)) (by decide +kernel)) (pe_fo (ks := kPlan) 2 (pv 4) W.k_plan.cl (W.k_plan.na "firsts" (by decide +kernel)) (by decide +kernel)) (nomark _)) (pw_or1 (pt_cmpR (op_neSS hr.units) (pe_fo (ks := kPlan) 7 (pv 12) W.k_plan.cl (W.k_plan.na "letters" (by decide +kernel)) (by decide +kernel)) (pe_fo (ks := kPlan) 7 (pv 4) W.k_plan.cl (W.k_plan.na "letters" (by decide +kernel)) (by decide +kernel)) (nomark _)))))) (pss_one (ps_ret pe_bl)) pss_nil)))))))))))))) (pss_one (ps_ret pe_bl)))), ?_⟩
    refine ⟨fun σ H1 => ∃ (D G : Addr), LawSg S D [] σ ∧ DealAt D G H1, ⟨_, rfl, S, ns, rfl, hS, fun H1 D G s1 nD hd => ⟨D, G, ⟨_, _, _, _, _, _, _, _, _, _, _, _, _, _, rfl⟩, hd⟩⟩, ?_⟩
    rintro σ H1 ⟨D, G, hσ, hd⟩
    refine ⟨fun _ _ => True, ?_, fun _ _ _ => k _⟩
    refine ⟨4, rfl, by decide, by decide, for_range (fun _ σ H1 => LawSg S D [] σ ∧ DealAt D G H1) ⟨hσ, hd⟩ ?_ (fun _ _ _ => trivial)⟩
    clear hσ hd hS H1 σ
    rintro i σ H1 - ⟨⟨s2, s3, s4, s5, s6, s7, s8, s9, s10, s11, s12, s13, s14, s15, rfl⟩, hd⟩
    refine ⟨fun σ H2 => ∃ (L R : Addr) (zs : List VR), σ = [some (.ref S), some (.ref D), some (.int (0 + (i : Int))), some (.ref L), s4, s5, s6, s7, s8, s9, s10, s11, s12, s13, s14, s15] ∧ DealAt D G H2 ∧ LsAt D G H2 L (zs.map (fun p : VR => p.1)) ∧ DrRs D G R H2 zs ∧ Good (zs.map (fun p : VR => p.2)) ∧ zs.length ≤ 16, ⟨_, rfl, D, G, rfl, hd, fun H2 L R zs st hL hz g hl => ⟨L, R, zs, rfl, st.deal, hL, hz, g, hl⟩⟩, ?_⟩
    clear hd
    rintro σ H2 ⟨L, R, zs, rfl, hd, hL, hz, g, hl⟩
    refine ⟨fun σ H3 => ∃ (v : V) (ys : List VR) (o : PV), σ = [some (.ref S), some (.ref D), some (.int (0 + (i : Int))), some (.ref L), some v, s5, s6, s7, s8, s9, s10, s11, s12, s13, s14, s15] ∧ Cur c K D G L R v zs ys o H3, ⟨_, rfl, L, zs, D, G, R, rfl, .inl (SqL.of hL.l), hz, Nat.le_trans hl (by decide), g, fun v ys o H3 s hp e => ⟨v, ys, o, rfl, hd.same s, hL.sm s, fun q hq => (hz q hq).sm s, g, hl, hp, e⟩⟩, ?_⟩
    clear hd hL hz g hl
    rintro σ H3 ⟨v, ys, o, rfl, C⟩
    have ly : ys.length ≤ 16 := by
      have q := congrArg List.length C.e
      rw [List.length_map, List.length_map] at q
      rw [q]; exact C.len
    have gy : Good (ys.map (·.2)) := by rw [C.e]; exact C.good
    have oky : ∀ r ∈ ys.map (·.2), Ok r := fun r hr => by
      obtain ⟨p, hp, rfl⟩ := List.mem_map.mp hr
      obtain ⟨_, _, _, _, _, _, _, _, hR⟩ := plan_rows C.p
      exact (hR p hp).2
    have ney : ys.map (·.2) ≠ [] := fun e => gy.f1 (by rw [e]; rfl)
    refine ⟨fun σ H4 => σ = [some (.ref S), some (.ref D), some (.int (0 + (i : Int))), some (.ref L), some v, s5, s6, s7, s8, s9, s10, s11, s12, s13, s14, s15] ∧ Cur c K D G L R v zs ys o H4, ?_, ?_⟩
    · obtain ⟨_, _, _, _, _, _, _, _, hR⟩ := plan_rows C.p
      obtain ⟨a, dx, t0, t1, t2, t3, t4, t5, t6, t7, ev, ha, A0, -⟩ := plan8 C.p
      refine ⟨_, rfl, a, dx, _, _, ev, ha, rfl, ?_⟩
      intro x dx2 nx nd hne
      refine ⟨x, dx2, t0, ys, rfl, upd_same, samA (same_mk nx nd) (.inr A0), hR.sm (same_mk nx nd), Nat.le_trans ly (by decide), gy, planE_go nx nd hR fun o2 H4 s4 hv => ⟨rfl, ?_⟩⟩
      refine ⟨_, rfl, ys, ys, o2, o, hv, C.p.sm s4, rfl, Nat.le_trans ly (by decide), fun H5 s5 => ⟨_, rfl, iteF ?_⟩⟩
      have C5 := C.sm (s4.trans s5)
      clear hv A0 ha ev hR nx nd hne s4 s5 C
      refine ⟨rfl, _, rfl, v, ys, o, rfl, C5.p, Nat.le_trans ly (by decide), fun H6 s6 => ?_⟩
      refine ⟨ys.map (·.2), rfl, ney, oky, by rw [List.length_map]; exact Nat.le_trans ly (by decide), gy, fun v3 zs3 o3 H7 s7 hp3 e3 => ?_⟩
      have l3 : zs3.length ≤ 100 := by
        have q := congrArg List.length e3
        rw [List.length_map, List.length_map] at q
        rw [q]; exact Nat.le_trans ly (by decide)
      have C7 := C5.sm (s6.trans s7)
      refine ⟨_, rfl, zs3, ys, o3, o, hp3, C7.p, e3, l3, fun H8 s8 => ⟨_, rfl, iteF ?_⟩⟩
      have Ce := C7.sm s8
      clear s6 s7 s8 C5 C7 hp3
      refine ⟨rfl, _, rfl, v, ys, o, rfl, Ce.p, Nat.le_trans ly (by decide), fun H6 s6 => ?_⟩
      refine ⟨ys.map (·.2), rfl, ney, oky, by rw [List.length_map]; exact Nat.le_trans ly (by decide), gy, fun v3 zs3 o3 H7 s7 hp3 e3 => ?_⟩
      have C7 := Ce.sm (s6.trans s7)
      obtain ⟨_, _, _, _, _, _, _, _, hR1⟩ := plan_rows hp3
      obtain ⟨_, _, _, _, _, _, _, _, hR2⟩ := plan_rows C7.p
      obtain ⟨a, dx, t0, t1, t2, t3, t4, t5, t6, t7, ev, ha, A0, -⟩ := plan8 hp3
      obtain ⟨b, dy, u0, u1, u2, u3, u4, u5, u6, u7, eb, hb, B0, -⟩ := plan8 C7.p
      refine ⟨a, dx, _, _, ev, ha, rfl, _, rfl, b, dy, _, _, eb, hb, rfl, t0, u0, _, _, rfl, rfl, A0, B0, ?_, fun H8 s8 => ⟨_, rfl, rfl, C7.sm s8⟩⟩
      exact prs_rows hR1 hR2 e3
    rintro σ H4 ⟨rfl, C⟩
    refine ⟨fun σ H5 => ∃ (s5 s6 : Option V), σ = [some (.ref S), some (.ref D), some (.int (0 + (i : Int))), some (.ref L), some v, s5, s6, s7, s8, s9, s10, s11, s12, s13, s14, s15] ∧ Cur c K D G L R v zs ys o H5, ?_, ?_⟩
    · refine ⟨_, rfl, v, ys, o, rfl, C.p, Nat.le_trans ly (by decide), fun H5 s5' => ⟨((ys.length : Nat) : Int), rfl, by omega, by omega, ?_⟩⟩
      refine for_range (fun _ σ H5 => ∃ (s5 s6 : Option V), σ = [some (.ref S), some (.ref D), some (.int (0 + (i : Int))), some (.ref L), some v, s5, s6, s7, s8, s9, s10, s11, s12, s13, s14, s15] ∧ Cur c K D G L R v zs ys o H5) ⟨_, _, rfl, C.sm s5'⟩ ?_ (fun σ H ⟨_, _, e, C⟩ => ⟨_, _, e, C⟩)
      clear s5' C s5 s6
      rintro j σ H6 hj ⟨s5, s6, rfl, C6⟩
      have hj : j < ys.length := by omega
      have e0 : V.int (0 + (j : Int)) = V.int (j : Int) := by rw [Int.zero_add]
      rw [e0]
      refine ⟨fun σ H7 => ∃ (u : V), σ = [some (.ref S), some (.ref D), some (.int (0 + (i : Int))), some (.ref L), some v, some (.int (j : Int)), some u, s7, s8, s9, s10, s11, s12, s13, s14, s15] ∧ (u = .non ∨ ∃ o', PlanAt c K H7 u (offAt ys j) o') ∧ Cur c K D G L R v zs ys o H7, ?_, ?_⟩
      · exact ⟨_, rfl, _, rfl, v, ys, o, j, rfl, C6.p, hj, Nat.le_trans ly (by decide), fun H7 s7 => ⟨.non, rfl, .inl rfl, C6.sm s7⟩, fun u o' H7 s7 hp => ⟨u, rfl, .inr ⟨o', hp⟩, C6.sm s7⟩⟩
      clear C6
      rintro σ H7 ⟨u, rfl, hu, C7⟩
      refine ⟨fun σ H7 => σ = [some (.ref S), some (.ref D), some (.int (0 + (i : Int))), some (.ref L), some v, some (.int (j : Int)), some u, s7, s8, s9, s10, s11, s12, s13, s14, s15] ∧ (∃ o', PlanAt c K H7 u (offAt ys j) o') ∧ Cur c K D G L R v zs ys o H7, ?_, ?_⟩
      · refine ⟨_, rfl, _, rfl, ite2 (fun hc => ?_) (fun hc => ?_)⟩
        · exact ⟨_, _, rfl, C7⟩
        · exact ⟨rfl, hu.resolve_left (fun e => hc (decide_eq_true e)), C7⟩
      clear hu C7
      rintro σ H7 ⟨rfl, ⟨o', hp⟩, C7⟩
      have loff : (offAt ys j).length = ys.length - 1 := by
        unfold offAt
        rw [List.length_append, List.length_take, List.length_drop]; omega
      refine ⟨fun σ H7 => σ = [some (.ref S), some (.ref D), some (.int (0 + (i : Int))), some (.ref L), some v, some (.int (j : Int)), some u, s7, s8, s9, s10, s11, s12, s13, s14, s15] ∧ PlanAt c K H7 u (offAt ys j) o' ∧ Cur c K D G L R v zs ys o H7, ?_, ?_⟩
      · refine ⟨_, rfl, u, _, o', rfl, hp, by omega, fun H8 s8 => ?_⟩
        refine ⟨_, rfl, v, ys, o, rfl, C7.p.sm s8, Nat.le_trans ly (by decide), fun H9 s9 => ?_⟩
        have C9 := C7.sm (s8.trans s9)
        have hp9 := hp.sm (s8.trans s9)
        clear s8 s9 C7 hp
        have e1 : V.int (((offAt ys j).length : Nat) : Int) = V.int (((ys.length : Nat) : Int) - 1) := by rw [loff]; congr 1; omega
        refine ⟨_, _, rfl, rfl, rfl, _, rfl, ite2 (fun hc => ?_) (fun _ => ?_)⟩
        · rw [decide_eq_true e1] at hc; cases hc
        obtain ⟨_, _, _, _, _, _, _, _, hR1⟩ := plan_rows hp9
        obtain ⟨a, dx, t0, t1, t2, t3, t4, t5, t6, t7, ev, ha, A0, -⟩ := plan8 hp9
        obtain ⟨b, dy, u0, u1, u2, u3, u4, u5, u6, u7, eb, hb, B0, -⟩ := plan8 C9.p
        refine ⟨_, rfl, a, dx, _, _, ev, ha, rfl, _, rfl, b, dy, _, _, eb, hb, rfl, _, rfl, (j : Int), rfl, u0, _, rfl, B0, fun t8 H10 s10 S8 => ?_⟩
        refine ⟨_, rfl, b, dy, _, _, eb, s10 _ _ hb, rfl, _, rfl, (j : Int), 1, rfl, rfl, _, rfl, u0, _, rfl, samT s10 B0, fun t9 H11 s11 S9 => ?_⟩
        have eo : cutW (ys.map (·.1)) none (some (j : Int)) ++ cutW (ys.map (·.1)) (some ((j : Int) + 1)) none = (offAt ys j).map (·.1) := by
          rw [cut_to]
          have e2 : cutW (ys.map (·.1)) (some ((j : Int) + 1)) none = (ys.map (·.1)).drop (j + 1) := cut_from _ (j + 1)
          rw [e2, off_map]; rfl
        have l1 : (cutW (ys.map (·.1)) none (some (j : Int))).length + (cutW (ys.map (·.1)) (some ((j : Int) + 1)) none).length ≤ sizeLine := by
          rw [← List.length_append, eo, List.length_map, loff]
          exact Nat.le_trans (Nat.sub_le _ _) (Nat.le_trans ly (by decide))
        refine catA_use (samT s11 S8) S9 l1 fun t10 H12 s12 S10 => ?_
        rw [eo] at S10
        have s912 := (s10.trans s11).trans s12
        exact ⟨t0, t10, _, rfl, rfl, .inl ⟨samT s912 A0, S10⟩, refs_of hR1, _, rfl, rfl, hp9.sm s912, C9.sm s912⟩
      clear hp C7
      rintro σ H7 ⟨rfl, hp, C7⟩
      refine ⟨_, rfl, _, rfl, u, v, _, _, o', o, rfl, hp, C7.p, sub_off hp C7.p, lens_le hp (by omega), fun H8 s8 => ⟨_, rfl, _, _, rfl, C7.sm s8⟩⟩
    rintro σ H5 ⟨s5, s6, rfl, C⟩
    refine ⟨fun σ H6 => ∃ (A1 B1 : Addr) (as bs : List Str), σ = [some (.ref S), some (.ref D), some (.int (0 + (i : Int))), some (.ref L), some v, s5, s6, some (.ref A1), some (.ref B1), s9, s10, s11, s12, s13, s14, s15] ∧ LsAt D G H6 A1 (sv as) ∧ LsAt D G H6 B1 (sv bs) ∧ as.length ≤ 1000 ∧ bs.length ≤ 1000 ∧ Cur c K D G L R v zs ys o H6, ?_, ?_⟩
    · refine ⟨2, rfl, by decide, by decide, lc_lists C.deal (by decide) ?_ ?_⟩
      · intro L2 j H6 N M hL2 st6 kN
        have C6 := C.step st6
        obtain ⟨a, dx, t0, t1, t2, t3, t4, t5, t6, t7, ev, ha, _, _, _, _, _, _, A6, _⟩ := plan8 C6.p
        have lm := (lens_le C6.p ly).2.2.1
        refine ⟨rfl, _, rfl, _, rfl, a, dx, _, _, ev, ha, rfl, D, G, t6, _, rfl, C6.deal, .inr A6, by rw [List.length_map]; exact Nat.le_trans lm (by decide), fun H7 p xs st7 np hp pm => ?_⟩
        obtain ⟨l, rfl, pl⟩ := perm_strs pm
        refine ⟨_, rfl, D, G, 4, rfl, st7.deal, by decide, by decide, fun H8 m hm st8 => ⟨(m : Int), rfl, p, _, rfl, SqL.of (hp.step st8).l, fun q nq => ?_⟩⟩
        have st68 := st7.trans st8
        have hq : LsAt D G (upd H8 q (.lst (cutV (sv l) none (some (m : Int))))) q (sv (l.take m)) := by
          refine ls_of st68.deal nq ?_
          rw [upd_same]
          exact congrArg (fun l => some (HO.lst l)) ((cutV_map V.str l none (some (m : Int))).trans (congrArg sv (cut_to l m)))
        refine kN q (l.take m) _ (st68.sm (Sn nq)) ?_ hq (Nat.le_trans (List.length_take_le _ _) (by omega))
        intro e
        exact st68.ne_of hL2 nq e
      intro L2 acc H6 nL2 st6 hL2 hl2 hy
      match acc, hl2, hy, hL2 with
      | [x1, x2], _, hy, hL2 =>
        obtain ⟨A1, as, rfl, hA1, la⟩ := hy x1 List.mem_cons_self
        obtain ⟨B1, bs, rfl, hB1, lb⟩ := hy x2 (List.mem_cons_of_mem _ List.mem_cons_self)
        exact ⟨L2, _, rfl, SqL.of hL2.l, rfl, _, _, rfl, _, _, rfl, rfl, A1, B1, as, bs, rfl, hA1, hB1, la, lb, C.step st6⟩
    clear C H5
    rintro σ H5 ⟨A1, B1, as, bs, rfl, hA, hB, la, lb, C⟩
    refine ⟨fun σ H6 => ∃ (C1 : Addr), σ = [some (.ref S), some (.ref D), some (.int (0 + (i : Int))), some (.ref L), some v, s5, s6, some (.ref A1), some (.ref B1), some (.ref C1), s10, s11, s12, s13, s14, s15] ∧ LsAt D G H6 A1 (sv as) ∧ LsAt D G H6 B1 (sv bs) ∧ H6 C1 = some (.lst (sv (as.filter fun z => bs.contains z))) ∧ Cur c K D G L R v zs ys o H6, ?_, ?_⟩
    · refine ⟨_, rfl, filt_use (ws := as) (fun z => bs.contains z) (.inl (SqL.of hA.l)) (Nat.le_trans la (by decide)) ?_ ?_⟩
      · intro z H6 N M hz s6 kN kM
        refine ⟨rfl, _, rfl, _, rfl, z, B1, bs, rfl, rfl, .inl (SqL.of (s6 _ _ hB.l)), _, rfl, ?_⟩
        refine ite2 (fun hc => ?_) (fun hc => ?_)
        · exact ⟨_, rfl, kN _ (Same.refl _) hc⟩
        · exact kM _ (Same.refl _) (Bool.eq_false_iff.mpr hc)
      intro C1 H6 nC s6 hC
      exact ⟨C1, rfl, hA.sm s6, hB.sm s6, hC, C.sm s6⟩
    clear hA hB C H5
    rintro σ H5 ⟨C1, rfl, hA, hB, hC, C⟩
    have lC : (as.filter fun z => bs.contains z).length ≤ 1000 := Nat.le_trans (List.length_filter_le _ _) la
    refine ⟨fun σ H6 => σ = [some (.ref S), some (.ref D), some (.int (0 + (i : Int))), some (.ref L), some v, s5, s6, some (.ref A1), some (.ref B1), some (.ref C1), s10, s11, s12, s13, s14, s15] ∧ Cur c K D G L R v zs ys o H6, ?_, ?_⟩
    · have hno : ∀ (t0 t1 t2 t3 t4 t5 t6 t7 : Addr), (ob kPlan [.ref t0, .ref t1, .ref t2, .ref t3, .ref t4, .ref t5, .ref t6, .ref t7]).lookup ("heeding" : Str) = none := fun _ _ _ _ _ _ _ _ => ob_no (by decide +kernel)
      obtain ⟨a, dx, t0, t1, t2, t3, t4, t5, t6, t7, ev, ha, -⟩ := plan8 C.p
      refine ⟨_, rfl, a, dx, _, ev, ha, hno _ _ _ _ _ _ _ _, _, rfl, v, A1, ys, o, as, (by rw [ev]; rfl), C.p, .inl (SqL.of hA.l), Nat.le_trans ly (by decide), gy, fun v1 zs1 o1 H6 s6 hp1 e1 => ?_⟩
      obtain ⟨b, dy, u0, u1, u2, u3, u4, u5, u6, u7, eb, hb, -⟩ := plan8 hp1
      have l1 : zs1.length ≤ 100 := len_heed e1 (Nat.le_trans ly (by decide))
      refine ⟨b, dy, _, eb, hb, hno _ _ _ _ _ _ _ _, _, rfl, v1, B1, zs1, o1, bs, (by rw [eb]; rfl), hp1, .inl (SqL.of (s6 _ _ hB.l)), l1, (by rw [e1]; exact good_heed _ gy), fun v2 zs2 o2 H7 s7 hp2 e2 => ?_⟩
      have l2 : zs2.length ≤ 100 := len_heed e2 l1
      have s57 := s6.trans s7
      refine ⟨_, rfl, a, dx, _, ev, s57 _ _ ha, hno _ _ _ _ _ _ _ _, _, rfl, v, C1, ys, o, _, (by rw [ev]; rfl), C.p.sm s57, .inl (SqL.of (s57 _ _ hC)), Nat.le_trans ly (by decide), gy, fun v3 zs3 o3 H8 s8 hp3 e3 => ?_⟩
      refine ⟨zs2, zs3, o2, o3, hp2.sm s8, hp3, (by rw [e2, e1, e3]; exact heed_both _ _ _ (plan_pv C.p).2), l2, fun H9 s9 => ⟨_, rfl, iteF ?_⟩⟩
      have s59 := s57.trans (s8.trans s9)
      have C9 := C.sm s59
      obtain ⟨a, dx, t0, t1, t2, t3, t4, t5, t6, t7, ev, ha, -⟩ := plan8 C9.p
      refine ⟨_, rfl, a, dx, _, ev, ha, hno _ _ _ _ _ _ _ _, _, rfl, v, A1, ys, o, as, (by rw [ev]; rfl), C9.p, .inl (SqL.of (s59 _ _ hA.l)), Nat.le_trans ly (by decide), gy, fun v4 zs4 o4 H10 s10 hp4 e4 => ?_⟩
      refine ⟨_, rfl, v4, v, _, _, o4, o, rfl, hp4, C9.p.sm s10, sub_heed e4 hp4 C9.p, lens_le hp4 (len_heed e4 ly), fun H11 s11 => ⟨_, rfl, rfl, C9.sm (s10.trans s11)⟩⟩
    clear hA hB hC C H5
    rintro σ H5 ⟨rfl, C⟩
    refine ⟨fun σ H6 => ∃ (s15 : Option V), σ = [some (.ref S), some (.ref D), some (.int (0 + (i : Int))), some (.ref L), some v, s5, s6, some (.ref A1), some (.ref B1), some (.ref C1), s10, s11, s12, s13, s14, s15] ∧ Cur c K D G L R v zs ys o H6, ?_, ?_⟩
    · obtain ⟨a, dx, t0, t1, t2, t3, t4, t5, t6, t7, ev, ha, A0, _, _, A3, -⟩ := plan8 C.p
      obtain ⟨_, _, _, _, _, _, _, _, hR⟩ := plan_rows C.p
      refine ⟨_, rfl, a, dx, _, _, ev, ha, rfl, t3, _, rfl, .inr A3, fun q nq => ?_⟩
      have s6 : Same H5 (upd H5 q (.lst ((ys.filter fun p => isTurn p.2).map (·.1)))) := Sn nq
      have hq : (upd H5 q (.lst ((ys.filter fun p => isTurn p.2).map (·.1)))) q = some (.lst ((ys.filter fun p => isTurn p.2).map (·.1))) := upd_same
      generalize upd H5 q (.lst ((ys.filter fun p => isTurn p.2).map (·.1))) = H6 at s6 hq ⊢
      refine ⟨_, rfl, a, dx, _, _, ev, s6 _ _ ha, rfl, t0, _, rfl, .inr (samT s6 A0), fun q2 nq2 => ?_⟩
      have s7 : Same H6 (upd H6 q2 (.lst (ys.map (·.1)))) := Sn nq2
      have hq2 : (upd H6 q2 (.lst (ys.map (·.1)))) q2 = some (.lst (ys.map (·.1))) := upd_same
      generalize upd H6 q2 (.lst (ys.map (·.1))) = H7 at s7 hq2 ⊢
      have s67 := s6.trans s7
      refine it_use ys (fun p : VR => p.1) (fun p => if isTurn p.2 = true then some p.1 else none) (.inl (SqL.of hq2)) (Nat.le_trans ly (by decide)) ?_ ?_
      · intro p H8 N M hp s8 kN kM
        refine ⟨rfl, _, rfl, p.1, p.2, rfl, (hR p hp).1.sm (s67.trans s8), _, rfl, ?_⟩
        refine ite2 (fun hc => ?_) (fun hc => ?_)
        · exact ⟨_, rfl, kN _ _ (Same.refl _) (if_pos hc)⟩
        · exact kM _ (Same.refl _) (if_neg hc)
      intro D2 H8 n2 s8 hD2
      have ef : ∀ l : List VR, (l.filterMap fun p => if isTurn p.2 = true then some p.1 else none) = (l.filter fun p => isTurn p.2).map (·.1) := fun l => by
        induction l with
        | nil => rfl
        | cons x l ih =>
          by_cases q : isTurn x.2 = true
          · rw [List.filterMap_cons, if_pos q, List.filter_cons, if_pos q, List.map_cons, ← ih]
          · rw [List.filterMap_cons, if_neg q, List.filter_cons, if_neg q, ← ih]
      rw [ef] at hD2
      have hR8 : RowsAt c K H8 (ys.filter fun p => isTurn p.2) := fun p hp => ⟨(hR p (List.mem_filter.mp hp).1).1.sm (s67.trans s8), (hR p (List.mem_filter.mp hp).1).2⟩
      exact ⟨q, D2, _, rfl, rfl, .inr ⟨SqL.of (s8 _ _ (s7 _ _ hq)), SqL.of hD2⟩, refs_of hR8, _, rfl, iteF ⟨_, rfl, C.sm (s67.trans s8)⟩⟩
    clear C H5
    rintro σ H5 ⟨s15, rfl, C⟩
    refine ⟨fun σ H6 => ∃ (Hd : Addr) (s15 : Option V), σ = [some (.ref S), some (.ref D), some (.int (0 + (i : Int))), some (.ref L), some v, s5, s6, some (.ref A1), some (.ref B1), some (.ref C1), some (.ref Hd), s11, s12, s13, s14, s15] ∧ H6 Hd = some (.lst ((zs.filter fun p => !isHouse p.2).map (fun p : VR => p.1))) ∧ Cur c K D G L R v zs ys o H6, ?_, ?_⟩
    · refine ⟨_, rfl, it_use zs (fun p : VR => p.1) (fun p => if (!isHouse p.2) = true then some p.1 else none) (.inl (SqL.of C.l.l)) (Nat.le_trans C.len (by decide)) ?_ ?_⟩
      · intro p H8 N M hp s8 kN kM
        obtain ⟨a, t, u, e, ha, -⟩ := ((C.z p hp).sm s8).ex
        refine ⟨rfl, _, rfl, a, _, 0, _, e, rfl, .inl (.inl ha), tup0 _ _ _, rfl, _, rfl, ?_⟩
        rw [kind_house]
        refine ite2 (fun hc => ?_) (fun hc => ?_)
        · exact ⟨_, rfl, kN _ _ (Same.refl _) (if_pos hc)⟩
        · exact kM _ (Same.refl _) (if_neg hc)
      intro Hd H8 n2 s8 hD2
      have ef : ∀ l : List VR, (l.filterMap fun p => if (!isHouse p.2) = true then some p.1 else none) = (l.filter fun p => !isHouse p.2).map (·.1) := fun l => by
        induction l with
        | nil => rfl
        | cons x l ih =>
          by_cases q : (!isHouse x.2) = true
          · rw [List.filterMap_cons, if_pos q, List.filter_cons, if_pos q, List.map_cons, ← ih]
          · rw [List.filterMap_cons, if_neg q, List.filter_cons, if_neg q, ← ih]
      rw [ef] at hD2
      exact ⟨Hd, _, rfl, hD2, C.sm s8⟩
    clear C H5
    rintro σ H5 ⟨Hd, s15, rfl, hHd, C⟩
    refine ⟨fun σ H6 => ∃ (Tl : Addr) (ws : List VR) (s15 : Option V), σ = [some (.ref S), some (.ref D), some (.int (0 + (i : Int))), some (.ref L), some v, s5, s6, some (.ref A1), some (.ref B1), some (.ref C1), some (.ref Hd), some (.ref Tl), s12, s13, s14, s15] ∧ H6 Hd = some (.lst ((zs.filter fun p => !isHouse p.2).map (fun p : VR => p.1))) ∧ H6 Tl = some (.lst (ws.map (fun p : VR => p.1))) ∧ RowsAt c K H6 ws ∧ ws.map (fun p : VR => p.2) = (zs.map (fun p : VR => p.2)).filter isHouse ∧ Cur c K D G L R v zs ys o H6, ?_, ?_⟩
    · refine ⟨_, rfl, made_filt (c := c) isHouse zs (.inl (SqL.of C.l.l)) (Nat.le_trans C.len (by decide)) C.z ?_ ?_⟩
      · intro p H8 N M hp s8 kN kM
        obtain ⟨a, t, u, e, ha, -⟩ := ((C.z p hp).sm s8).ex
        refine ⟨rfl, _, rfl, a, _, 0, _, e, rfl, .inl (.inl ha), tup0 _ _ _, rfl, _, rfl, ?_⟩
        rw [kind_house]
        refine ite2 (fun hc => ?_) (fun hc => ?_)
        · exact ⟨_, rfl, p.1, p.2, D, G, R, rfl, (C.z p hp).sm s8, fun v' H' s' hv => kN hc _ _ s' hv⟩
        · exact kM (Bool.eq_false_iff.mpr hc) _ (Same.refl _)
      intro Tl ws H8 n2 s8 hT hR hw
      exact ⟨Tl, ws, _, rfl, s8 _ _ hHd, hT, hR, hw, C.sm s8⟩
    clear C hHd H5
    rintro σ H5 ⟨Tl, ws, s15, rfl, hHd, hTl, hRw, hw, C⟩
    refine ⟨fun σ H6 => ∃ (u : V) (qs : List VR) (o' : PV) (s15 : Option V), σ = [some (.ref S), some (.ref D), some (.int (0 + (i : Int))), some (.ref L), some v, s5, s6, some (.ref A1), some (.ref B1), some (.ref C1), some (.ref Hd), some (.ref Tl), some u, s13, s14, s15] ∧ PlanAt c K H6 u qs o' ∧ qs.map (fun p : VR => p.2) = (zs.map (fun p : VR => p.2)).filter (fun r => !isHouse r) ++ (zs.map (fun p : VR => p.2)).filter isHouse ∧ Cur c K D G L R v zs ys o H6, ?_, ?_⟩
    · have pm : ((zs.map (fun p : VR => p.2)).filter (fun r => !isHouse r) ++ (zs.map (fun p : VR => p.2)).filter isHouse).Perm (zs.map (fun p : VR => p.2)) := List.perm_append_comm.trans (List.filter_append_perm _ _)
      have lh : (zs.filter fun p => !isHouse p.2).length ≤ 16 := Nat.le_trans (List.length_filter_le _ _) C.len
      refine ⟨_, rfl, made_use (c := c) (D := D) (G := G) (zs.filter fun p => !isHouse p.2) (.inl (SqL.of hHd)) (Nat.le_trans lh (by decide)) (Rl := R) (fun q hq => C.z q (List.mem_filter.mp hq).1) ?_ ?_⟩
      · intro p H8 N hp s8 kN
        exact ⟨rfl, _, rfl, p.1, p.2, D, G, R, rfl, (C.z p (List.mem_filter.mp hp).1).sm s8, fun v' H' s' hv => kN v' H' s' hv⟩
      intro L2 xs H8 n2 s8 hL2 hRx ex
      have eA : (xs ++ ws).map (fun p : VR => p.2) = (zs.map (fun p : VR => p.2)).filter (fun r => !isHouse r) ++ (zs.map (fun p : VR => p.2)).filter isHouse := by
        rw [List.map_append, ex, hw]; congr 1; rw [List.filter_map]; rfl
      have lA : (xs ++ ws).length ≤ 16 := by
        have q := congrArg List.length eA
        rw [List.length_map, pm.length_eq, List.length_map] at q
        rw [q]; exact C.len
      have gA : Good ((xs ++ ws).map (fun p : VR => p.2)) := by rw [eA]; exact good_perm pm.symm C.good
      have lA2 := lA
      rw [List.length_append] at lA2
      refine ⟨_, rfl, L2, Tl, _, _, rfl, rfl, hL2, s8 _ _ hTl, Nat.le_trans (by rw [List.length_map, List.length_map]; exact lA2) (by decide), fun p np => ?_⟩
      have s9 : Same H8 (upd H8 p (.lst (xs.map (·.1) ++ ws.map (·.1)))) := Sn np
      have hp9 : (upd H8 p (.lst (xs.map (·.1) ++ ws.map (·.1)))) p = some (.lst ((xs ++ ws).map (·.1))) := by rw [upd_same, List.map_append]
      have hRA : RowsAt c K (upd H8 p (.lst (xs.map (·.1) ++ ws.map (·.1)))) (xs ++ ws) := fun q hq => (List.mem_append.mp hq).elim (fun h => (hRx.sm s9) q h) fun h => (hRw.sm (s8.trans s9)) q h
      intro x dx nx nd hne
      exact ⟨x, dx, p, xs ++ ws, rfl, upd_same, samA (same_mk nx nd) (lstA hp9), hRA.sm (same_mk nx nd), Nat.le_trans lA (by decide), gA, planE_go nx nd hRA fun o' H9 s10 hp => ⟨rfl, _, xs ++ ws, o', _, rfl, hp, eA, C.sm ((s8.trans s9).trans s10)⟩⟩
    clear C hHd hTl hRw hw H5
    rintro σ H5 ⟨u, qs, o', s15, rfl, hq, eq, C⟩
    have pm : (qs.map (fun p : VR => p.2)).Perm (ys.map (fun p : VR => p.2)) := by
      rw [eq, C.e]; exact List.perm_append_comm.trans (List.filter_append_perm _ _)
    have en : namesOf (qs.map (fun p : VR => p.2)) = namesOf (ys.map (fun p : VR => p.2)) := by rw [eq, names_apart, C.e]
    have ef : firstsOf (qs.map (fun p : VR => p.2)) = firstsOf (ys.map (fun p : VR => p.2)) := by rw [eq, firsts_apart, C.e]
    have el := letters_apart hq C.p pm
    have c1 := cp_names hq
    have c2 := cp_names C.p
    have c3 := cp_firsts hq
    have c4 := cp_firsts C.p
    have c5 := cp_letters hq
    have c6 := cp_letters C.p
    obtain ⟨a, dx, t0, t1, t2, t3, t4, t5, t6, t7, ev, ha, _, A1', A2', _, _, _, _, A7'⟩ := plan8 hq
    obtain ⟨b, dy, u0, u1, u2, u3, u4, u5, u6, u7, eb, hb, _, B1', B2', _, _, _, _, B7'⟩ := plan8 C.p
    refine ⟨_, rfl, a, dx, _, _, ev, ha, rfl, _, rfl, b, dy, _, _, eb, hb, rfl, t1, u1, _, _, rfl, rfl, .inl ⟨A1', B1'⟩, c1, c2, _, rfl, ite2 (fun hc => ?_) (fun _ => ?_)⟩
    · rw [en] at hc; simp at hc
    refine ⟨_, rfl, a, dx, _, _, ev, ha, rfl, _, rfl, b, dy, _, _, eb, hb, rfl, t2, u2, _, _, rfl, rfl, .inl ⟨A2', B2'⟩, c3, c4, _, rfl, ite2 (fun hc => ?_) (fun _ => ?_)⟩
    · rw [ef] at hc; simp at hc
    refine ⟨_, rfl, a, dx, _, _, ev, ha, rfl, _, rfl, b, dy, _, _, eb, hb, rfl, t7, u7, _, _, rfl, rfl, .inl ⟨A7', B7'⟩, c5, c6, _, rfl, ite2 (fun hc => ?_) (fun _ => ?_)⟩
    · rw [el] at hc; simp at hc
    exact ⟨⟨_, _, _, _, _, _, _, _, _, _, _, _, _, _, rfl⟩, C.deal⟩
end
end SB

set_option maxHeartbeats 2000000
/-! The facts of the walks, from what is looked at. -/
namespace SB
open PySem PySem.Spec PyProof.Rows L2

def csOf (K : PySem.W.Frag) : Cs := ⟨He.ga K "Row", He.ga K "First", He.ga K "Mode", He.ga K "Turn", He.ga K "Lead", He.ga K "House", He.ga K "Plan", He.ga K "InvalidPlan"⟩
def and2 {a b : Bool} (h : (a && b) = true) : a = true ∧ b = true := Bool.and_eq_true_iff.mp h
theorem tupAt_ok {K : PySem.W.Frag} {a : Addr} {vs : List V} (h : tupAt K a vs = true) (H : Hp) : SqT K H a vs := by
  unfold tupAt at h
  split at h
  · rename_i n dd its k sl q
    obtain ⟨h1, h2⟩ := and2 h
    obtain ⟨h3, h4⟩ := and2 h2
    have e := of_decide_eq_true h1
    exact .inr ⟨_, its, k, q, by rw [e], rfl, of_decide_eq_true h3, He.relAll_ok h4⟩
  · cases h
theorem kKcl_ok {x : Str} {ks : List Str} {K : PySem.W.Frag} (h : kKcl x ks K = true) : KCl K (He.ga K x) ks := by
  obtain ⟨h1, h2⟩ := and2 h
  exact ⟨He.cls_ok h1, fun f hf => He.noat_ok (List.all_eq_true.mp h2 f (List.contains_iff_mem.mp hf))⟩
theorem kKit_ok {x y : Str} {b : Bool} {K : PySem.W.Frag} (h : kKit x y b K = true) : KitD K (He.ga K x) (He.ga K y) b := (of_decide_eq_true h : PySem.W.kitOne K (.ref (He.ga K x)) (.ref (He.ga K y)) = some b)
theorem kIns_ok {x : Str} {K : PySem.W.Frag} (h : kIns x K = true) : C8.InsC K (He.ga K x) := by
  obtain ⟨h1, h⟩ := and2 h
  obtain ⟨h2, h⟩ := and2 h
  obtain ⟨h3, h⟩ := and2 h
  obtain ⟨h4, h⟩ := and2 h
  obtain ⟨h5, h6⟩ := and2 h
  exact ⟨He.cls_ok h1, He.eqO_ok h2, He.eqO_ok h3, of_decide_eq_true h4, of_decide_eq_true h5, of_decide_eq_true h6⟩
theorem kRead_ok {x m : Str} {K : PySem.W.Frag} (h : kRead x m K = true) : ClX.CRead K (He.ga K x) (.type "type") ∧ ClX.CMet K (He.ga K x) (.type "type") m (He.ma K (He.ga K x) m) (He5.wf K (He.ga K x) "classmethod" m) := by
  obtain ⟨h1, h⟩ := and2 h
  obtain ⟨h2, h⟩ := and2 h
  obtain ⟨h3, h4⟩ := and2 h
  exact ⟨⟨h1, He.eqO_ok h2⟩, He5.cmet_of h3 h4⟩
theorem clsB_ok {K : PySem.W.Frag} {C : Addr} {p : List Value → Bool → String → Bool} (h : clsB K C p = true) :
    ∃ nm q bs bm hd sn sub ab col dd k0 k1 k2 k3 k5 ni, K.lookup C = some (excClassObj nm q C (nsA K C) bs bm hd sn sub ab col dd k0 k1 k2 k3 k5 ni) ∧ p bm hd ni = true := by
  have hN : ∀ cl dd cd sl, K.lookup C = some ⟨cl, dd, .cls cd, sl⟩ → nsA K C = cd.ns := fun cl dd cd sl q => by unfold nsA; rw [q]
  unfold clsB at h
  split at h
  · rename_i n dd cd sl q
    split at h
    · rename_i D bm k0 k1 k2 k3 k k5 hm hs
      obtain ⟨h1, h⟩ := and2 h
      obtain ⟨h2, h⟩ := and2 h
      obtain ⟨h3, h4⟩ := and2 h
      have hN := hN _ _ _ _ q
      obtain ⟨n1, n2, n3, n4, n5, n6, n7, n8, n9, n10, n11⟩ := cd
      obtain ⟨ls⟩ := sl
      have e1 := of_decide_eq_true h1
      have e2 := of_decide_eq_true h2
      have e3 : n11 = false := by
        have z : (!n11) = true := h3
        cases n11 with
        | false => rfl
        | true => cases z
      have e4 : n3 = .ref D :: bm := hm
      have e5 : ls = [k0, k1, k2, k3, some (.builtin k), k5] := hs
      subst e1 e2 e3 e4 e5
      exact ⟨_, _, _, _, _, _, _, _, _, _, _, _, _, _, _, _, by rw [hN]; exact q, h4⟩
    · cases h
  · cases h
theorem isFn_ex {K : PySem.W.Frag} {f : Addr} (h : PySem.W.isFn K (.ref f) = true) : ∃ of : Obj, K.lookup f = some of ∧ of.cls = .type "function" := by
  have e := beq_iff_eq.mp h
  have e2 : (K.lookup f).map (·.cls) = some (.type "function") := e
  obtain ⟨o, ho, hc⟩ := Option.map_eq_some_iff.mp e2
  exact ⟨o, ho, hc⟩
theorem kNe_ok {x : Str} {K : PySem.W.Frag} (h : kNe x K = true) : NeC K (He.ga K x) (He.ma K (He.ga K x) "__eq__") := by
  obtain ⟨h1, h⟩ := and2 h
  obtain ⟨h2, h⟩ := and2 h
  obtain ⟨h3, h⟩ := and2 h
  obtain ⟨h4, h5⟩ := and2 h
  obtain ⟨nm, q, bs, bm, hd, sn, sub, ab, col, dd, k0, k1, k2, k3, k5, ni, e, hp⟩ := clsB_ok h1
  have eb := of_decide_eq_true hp
  subst eb
  exact ⟨⟨nm, q, nsA K (He.ga K x), bs, hd, sn, sub, ab, col, dd, k0, k1, k2, k3, k5, ni, e, h2, He.eqO_ok h3, He.eqO_ok h4⟩, isFn_ex h5⟩
theorem noneB_ok {v : Value} (h : noneB v = true) : v = .none := by cases v <;> first | rfl | cases h
theorem ipFn_ok {K : PySem.W.Frag} (h : ipFn K = true) (e : ipObs K = ipVal) : ∃ (oc : Value) (od : Option Addr) (doc pm : Value) (an : Option Addr) (ct : Value) (osl : Array (Option Value)),
    K.lookup (ipI K) = some ⟨oc, od, .func (PySem.W.ksFn "__init__" "InvalidPlan.__init__" (L2.defArgs s_InvalidPlan_init) (L2.defBody s_InvalidPlan_init) (L2.defScope s_InvalidPlan_init) .none .none doc pm an (.ref (ipCode K)) ct (ipCell K)), osl⟩ := by
  unfold ipObs at e
  unfold ipFn at h
  split at h
  · rename_i oc od fd osl q
    rw [q] at e
    obtain ⟨h1, h⟩ := and2 h
    obtain ⟨h2, h⟩ := and2 h
    obtain ⟨h3, h4⟩ := and2 h
    have g1 := noneB_ok h1
    have g2 := noneB_ok h2
    clear h1 h2
    split at h3
    · rename_i x a ec
      obtain ⟨h5, h6⟩ := and2 h3
      have e5 := of_decide_eq_true h5
      have e6 := of_decide_eq_true h6
      rw [e5, e6] at ec
      split at h4
      · rename_i b ed
        have e7 := of_decide_eq_true h4
        rw [e7] at ed
        generalize ipCode K = c1 at ed ⊢
        generalize ipCell K = c2 at ec ⊢
        obtain ⟨m1, m2, m3, m4, m5, m6, m7, m8, m9, m10, m11, m12, m13, m14, m15⟩ := fd
        have e2 : (some (m1, m2, m3, m4, m5, m6, m15) : IpV) = ipVal := e
        unfold ipVal at e2
        simp only [Option.some.injEq, Prod.mk.injEq] at e2
        obtain ⟨r1, r2, r3, r4, r5, r6, r7⟩ := e2
        dsimp only at g1 g2 ec ed
        subst r1 r2 r3 r4 r5 r6 r7 g1 g2 ec ed
        exact ⟨_, _, _, _, _, _, _, q⟩
      · cases h4
    · cases h3
  · cases h
theorem ipCellB_ok {K : PySem.W.Frag} (h : ipCellB K = true) : ∃ (cl : Value) (cld : Option Addr) (csl : Array (Option Value)), K.lookup (ipCell K) = some ⟨cl, cld, .cell (some (.ref (ipC K))), csl⟩ := by
  unfold ipCellB at h
  split at h
  · rename_i cl cld a csl q
    have e := of_decide_eq_true h
    rw [e] at q
    exact ⟨cl, cld, csl, q⟩
  · cases h
theorem ipFile_ok {K : PySem.W.Frag} (h : ipFile K = true) : ∃ (ccl : Value) (cdd : Option Addr) (vs : Array Value) (ccs : Array (Option Value)) (file : Str) (tf : Tok), K.lookup (ipCode K) = some ⟨ccl, cdd, .fields vs, ccs⟩ ∧ vs[2]? = some (.str file tf) ∧ ((theP.main.file : Str) == file) = true := by
  unfold ipFile at h
  split at h
  · rename_i ccl cdd vs ccs q
    split at h
    · rename_i z t e
      exact ⟨ccl, cdd, vs, ccs, z, t, q, e, h⟩
    · cases h
  · cases h
theorem ip_ok {K : PySem.W.Frag} {mg : Str → Option Value} (g1 : mg "InvalidPlan" = some (.ref (He.ga K "InvalidPlan"))) (g2 : mg "super" = none) (h : kIp K = true) (e : ipObs K = ipVal) : ∃ fI cc cda, SBX.IpTxt theP K mg (He.ga K "InvalidPlan") fI cc cda := by
  obtain ⟨h1, h⟩ := and2 h
  obtain ⟨h2, h⟩ := and2 h
  obtain ⟨h3, h⟩ := and2 h
  obtain ⟨h4, h⟩ := and2 h
  obtain ⟨h5, h⟩ := and2 h
  obtain ⟨h6, h⟩ := and2 h
  obtain ⟨h7, h⟩ := and2 h
  obtain ⟨h8, h⟩ := and2 h
  obtain ⟨h9, h⟩ := and2 h
  obtain ⟨h10, h⟩ := and2 h
  obtain ⟨h11, h⟩ := and2 h
  obtain ⟨h12, h⟩ := and2 h
  obtain ⟨h13, h⟩ := and2 h
  obtain ⟨h14, h⟩ := and2 h
  obtain ⟨h15, h⟩ := and2 h
  obtain ⟨h16, h17⟩ := and2 h
  obtain ⟨nm, q, bs, bm, hd, sn, sub, ab, col, dd, k0, k1, k2, k3, k5, ni, ec, hp⟩ := clsB_ok h1
  obtain ⟨p1, hp⟩ := and2 hp
  obtain ⟨p2, p3⟩ := and2 hp
  have e3 := of_decide_eq_true p3
  subst p2 e3
  obtain ⟨oc, od, doc, pm, an, ct, osl, ef⟩ := ipFn_ok h14 e
  exact ⟨ipI K, ipCell K, ipCode K, { gC := g1, gS := g2, cls := ⟨nm, q, _, bs, bm, sn, sub, ab, col, dd, k0, k1, k2, k3, k5, ec, p1⟩, sa := He.eqO_ok h2, noW := He.eqO_ok h3, iC := He.eqO_ok h4, tC := of_decide_eq_true h5, kC := h6, exC := of_decide_eq_true h7, tyC := of_decide_eq_true h8, te := of_decide_eq_true h9, sup := He.eqO_ok h10, ve := of_decide_eq_true h11, st := He.eqO_ok h12, me := of_decide_eq_true h13, fn := ⟨oc, od, doc, pm, an, ct, osl, ef, h15⟩, cell := ipCellB_ok h16, code := ipFile_ok h17, top := by first | rfl | kernel_rfl }⟩
section
variable {K : PySem.W.Frag} {h : Heap} {mg : Str → Option Value}
theorem obL_eq : ∀ l : List He5.DefA, obL K l = l.map fun d => He5.fnA K (d.at_ K)
  | [] => rfl
  | d :: r => congrArg _ (obL_eq r)
theorem vaL_eq : ∀ l : List He5.DefA, vaL l = l.map He5.DefA.val
  | [] => rfl
  | d :: r => congrArg _ (vaL_eq r)
theorem okL_all : ∀ {l : List He5.DefA}, okL K l = true → ∀ d ∈ l, d.ok K = true
  | [], _, _, hd => nomatch hd
  | _ :: _, h, d, hd => by
    obtain ⟨h1, h2⟩ := and2 h
    rcases List.mem_cons.mp hd with rfl | hd
    · exact h1
    · exact okL_all h2 d hd
theorem okC_all : ∀ {l : List (PySem.W.Frag → Bool)}, okC K l = true → ∀ f ∈ l, f K = true
  | [], _, _, hd => nomatch hd
  | _ :: _, h, d, hd => by
    obtain ⟨h1, h2⟩ := and2 h
    rcases List.mem_cons.mp hd with rfl | hd
    · exact h1
    · exact okC_all h2 d hd
theorem SaysS.bools (W : SaysS K) : (okC K ckAll && okL K deAll) = true := congrArg (fun z : AlS => z.1.1) W.e
theorem SaysS.ipv (W : SaysS K) : ipObs K = ipVal := congrArg (fun z : AlS => z.2) W.e
theorem SaysS.fact (W : SaysS K) (i : Nat) {f : PySem.W.Frag → Bool} (hi : ckAll[i]? = some f) : f K = true := okC_all (and2 W.bools).1 f (List.mem_of_getElem? hi)
theorem SaysS.def_ (W : SaysS K) (i : Nat) {d : He5.DefA} (hi : deAll[i]? = some d) : ∃ fd, FunD K d.name d.qual d.params d.body d.scope (d.dvs K) (d.kws K) (d.at_ K) fd := by
  have e : deAll.map (fun d => He5.fnA K (d.at_ K)) = deAll.map He5.DefA.val := by rw [← obL_eq, ← vaL_eq]; exact congrArg (fun z : AlS => z.1.2) W.e
  have e2 : (deAll.map fun d => He5.fnA K (d.at_ K))[i]? = (deAll.map He5.DefA.val)[i]? := by rw [e]
  rw [List.getElem?_map, List.getElem?_map, hi] at e2
  exact He5.DefA.funD (Option.some.inj e2) (okL_all (and2 W.bools).2 d (List.mem_of_getElem? hi))
/-- a def of no defaults -/
theorem SaysS.fun_ (W : SaysS K) (i : Nat) {at_ : PySem.W.Frag → Addr} {name qual : Str} {st : Stmt} (hi : deAll[i]? = some ⟨at_, name, qual, L2.defArgs st, L2.defBody st, L2.defScope st, [], []⟩) : ∃ fd, Fun K name qual st (at_ K) fd := by
  obtain ⟨fd, F⟩ := W.def_ i hi
  exact ⟨fd, He5.fun_of F⟩
theorem SaysS.glo (W : SaysS K) (X : K.In h) (G : h.Ns mainGlobals mg) (i : Nat) {x : Str} (hi : ckAll[i]? = some (kFa (.glo x))) : mg x = some (.ref (He.ga K x)) := He.glo_ok X G (W.fact i hi)
theorem kTup_ok {x : Str} {ws : List Str} (X : K.In h) (G : h.Ns mainGlobals mg) (q : kTup x ws K = true) : Gtu K mg x ws := by
  obtain ⟨h1, h2⟩ := and2 q
  exact ⟨_, He.glo_ok X G h1, tupAt_ok h2⟩
end
section
variable {P : Program} {K : PySem.W.Frag} {h : Heap} {mg : Str → Option Value}
theorem t_facts (X : K.In h) (G : h.Ns mainGlobals mg) (W : SaysS K) : Tx K mg where
  m_len := He.free_ok X G (W.fact 0 rfl)
  m_isinstance := He.free_ok X G (W.fact 1 rfl)
  m_str := He.free_ok X G (W.fact 2 rfl)
  m_all := He.free_ok X G (W.fact 3 rfl)
  m_any := He.free_ok X G (W.fact 4 rfl)
  m_list := He.free_ok X G (W.fact 5 rfl)
  m_tuple := He.free_ok X G (W.fact 6 rfl)
  m_sorted := He.free_ok X G (W.fact 7 rfl)
  m_int := He.free_ok X G (W.fact 8 rfl)
  m_enumerate := He.free_ok X G (W.fact 9 rfl)
  m_range := He.free_ok X G (W.fact 10 rfl)
  m_abs := He.free_ok X G (W.fact 11 rfl)
  k_SMALL := He.str_ok X G (W.fact 13 rfl)
  k_BARRED := kTup_ok X G (W.fact 14 rfl)
  k_PROMISES := kTup_ok X G (W.fact 15 rfl)
  k_WAYS := kTup_ok X G (W.fact 16 rfl)
  k_PLAIN_EVENTS := kTup_ok X G (W.fact 17 rfl)
  k_PLAIN_TESTS := kTup_ok X G (W.fact 18 rfl)
  k_PLAIN_DEEDS := kTup_ok X G (W.fact 19 rfl)
  k_NAMED_DEEDS := kTup_ok X G (W.fact 20 rfl)
  k_PLACELESS := kTup_ok X G (W.fact 21 rfl)
  k_EVENTS := kTup_ok X G (W.fact 22 rfl)
  g_is_name := let ⟨_, q⟩ := (W.fun_ 0 rfl); ⟨_, _, (W.glo X G 23 rfl), q⟩
  g_is_sequence := let ⟨_, q⟩ := (W.fun_ 1 rfl); ⟨_, _, (W.glo X G 24 rfl), q⟩
  g_are_names := let ⟨_, q⟩ := (W.fun_ 2 rfl); ⟨_, _, (W.glo X G 25 rfl), q⟩
  g_are_unlike_names := let ⟨_, q⟩ := (W.fun_ 3 rfl); ⟨_, _, (W.glo X G 26 rfl), q⟩
  g_ascending := let ⟨_, q⟩ := (W.fun_ 4 rfl); ⟨_, _, (W.glo X G 27 rfl), q⟩
  g_is_word := let ⟨_, q⟩ := (W.fun_ 5 rfl); ⟨_, _, (W.glo X G 28 rfl), q⟩
  g_is_phase := let ⟨_, q⟩ := (W.fun_ 6 rfl); ⟨_, _, (W.glo X G 29 rfl), q⟩
  g_is_test := let ⟨_, q⟩ := (W.fun_ 7 rfl); ⟨_, _, (W.glo X G 30 rfl), q⟩
  g_is_deed := let ⟨_, q⟩ := (W.fun_ 8 rfl); ⟨_, _, (W.glo X G 31 rfl), q⟩
  g_parted := let ⟨_, q⟩ := (W.fun_ 9 rfl); ⟨_, _, (W.glo X G 32 rfl), q⟩
  g_joined := let ⟨_, q⟩ := (W.fun_ 10 rfl); ⟨_, _, (W.glo X G 33 rfl), q⟩
  g_row_in := let ⟨_, q⟩ := (W.fun_ 11 rfl); ⟨_, _, (W.glo X G 34 rfl), q⟩
  g_lead_in := let ⟨_, q⟩ := (W.fun_ 12 rfl); ⟨_, _, (W.glo X G 35 rfl), q⟩
  g_house_in := let ⟨_, q⟩ := (W.fun_ 13 rfl); ⟨_, _, (W.glo X G 36 rfl), q⟩
  g_has_twins := let ⟨_, q⟩ := (W.fun_ 14 rfl); ⟨_, _, (W.glo X G 37 rfl), q⟩
  g_is_ring := let ⟨_, q⟩ := (W.fun_ 15 rfl); ⟨_, _, (W.glo X G 38 rfl), q⟩
  g_fault_of := let ⟨_, q⟩ := (W.fun_ 16 rfl); ⟨_, _, (W.glo X G 39 rfl), q⟩
  g_places_in := let ⟨_, q⟩ := (W.fun_ 17 rfl); ⟨_, _, (W.glo X G 40 rfl), q⟩
  g_letters_in := let ⟨_, q⟩ := (W.fun_ 18 rfl); ⟨_, _, (W.glo X G 41 rfl), q⟩
  g_names_behind := let ⟨_, q⟩ := (W.fun_ 19 rfl); ⟨_, _, (W.glo X G 42 rfl), q⟩
  g_phases_in := let ⟨_, q⟩ := (W.fun_ 20 rfl); ⟨_, _, (W.glo X G 43 rfl), q⟩
  g_marks_in := let ⟨_, q⟩ := (W.fun_ 21 rfl); ⟨_, _, (W.glo X G 44 rfl), q⟩
  g_heeding_row := let ⟨_, q⟩ := (W.fun_ 22 rfl); ⟨_, _, (W.glo X G 45 rfl), q⟩
  g_law_deal := let ⟨_, q⟩ := (W.fun_ 23 rfl); ⟨_, _, (W.glo X G 46 rfl), q⟩
  g_law_draw := let ⟨_, q⟩ := (W.fun_ 24 rfl); ⟨_, _, (W.glo X G 47 rfl), q⟩
  g_law_pick := let ⟨_, q⟩ := (W.fun_ 25 rfl); ⟨_, _, (W.glo X G 48 rfl), q⟩
  g_law_mixed := let ⟨_, q⟩ := (W.fun_ 26 rfl); ⟨_, _, (W.glo X G 49 rfl), q⟩
  g_law_pool := let ⟨_, q⟩ := (W.fun_ 27 rfl); ⟨_, _, (W.glo X G 50 rfl), q⟩
  g_law_names := let ⟨_, q⟩ := (W.fun_ 28 rfl); ⟨_, _, (W.glo X G 51 rfl), q⟩
  g_law_test := let ⟨_, q⟩ := (W.fun_ 29 rfl); ⟨_, _, (W.glo X G 52 rfl), q⟩
  g_law_deed := let ⟨_, q⟩ := (W.fun_ 30 rfl); ⟨_, _, (W.glo X G 53 rfl), q⟩
  g_law_made := let ⟨_, q⟩ := (W.fun_ 31 rfl); ⟨_, _, (W.glo X G 54 rfl), q⟩
  g_law_plan := let ⟨_, q⟩ := (W.fun_ 32 rfl); ⟨_, _, (W.glo X G 55 rfl), q⟩
  g_law_few := let ⟨_, q⟩ := (W.fun_ 33 rfl); ⟨_, _, (W.glo X G 56 rfl), q⟩
  g_law_lead_or_house := let ⟨_, q⟩ := (W.fun_ 34 rfl); ⟨_, _, (W.glo X G 57 rfl), q⟩
  g_law_plan_of := let ⟨_, q⟩ := (W.fun_ 35 rfl); ⟨_, _, (W.glo X G 58 rfl), q⟩
  g_law_less := let ⟨_, q⟩ := (W.fun_ 36 rfl); ⟨_, _, (W.glo X G 59 rfl), q⟩
  g_law_within := let ⟨_, q⟩ := (W.fun_ 37 rfl); ⟨_, _, (W.glo X G 60 rfl), q⟩
  g_law := let ⟨_, q⟩ := (W.fun_ 38 rfl); ⟨_, _, (W.glo X G 61 rfl), q⟩
theorem y_facts (X : K.In h) (G : h.Ns mainGlobals mg) (W : SaysS K) : Ty K mg (csOf K) where
  x := t_facts X G W
  k_first := kKcl_ok (W.fact 70 rfl)
  k_mode := kKcl_ok (W.fact 71 rfl)
  k_turn := kKcl_ok (W.fact 72 rfl)
  k_lead := kKcl_ok (W.fact 73 rfl)
  k_house := kKcl_ok (W.fact 74 rfl)
  i_first := let ⟨_, q⟩ := (W.def_ 39 rfl); ⟨_, _, (W.glo X G 63 rfl), He.mkr_ok (W.fact 76 rfl), q⟩
  i_mode := let ⟨_, q⟩ := (W.def_ 40 rfl); ⟨_, rfl, _, _, (W.glo X G 64 rfl), He.mkr_ok (W.fact 77 rfl), q⟩
  i_turn := let ⟨_, q⟩ := (W.def_ 41 rfl); ⟨_, _, (W.glo X G 65 rfl), He.mkr_ok (W.fact 78 rfl), q⟩
  i_lead := let ⟨_, q⟩ := (W.def_ 42 rfl); ⟨_, tupAt_ok (W.fact 139 rfl), _, _, (W.glo X G 66 rfl), He.mkr_ok (W.fact 79 rfl), q⟩
  i_house := let ⟨_, q⟩ := (W.def_ 43 rfl); ⟨_, rfl, _, _, (W.glo X G 67 rfl), He.mkr_ok (W.fact 80 rfl), q⟩
theorem s_facts (X : K.In h) (G : h.Ns mainGlobals mg) (W : SaysS K) : Sx K mg (csOf K) where
  y := y_facts X G W
  s_first := let ⟨_, q⟩ := (W.fun_ 44 rfl); let m := He.meth_ok (W.fact 82 rfl); ⟨_, _, m.at_, m.fn, q⟩
  s_mode := let ⟨_, q⟩ := (W.fun_ 45 rfl); let m := He.meth_ok (W.fact 83 rfl); ⟨_, _, m.at_, m.fn, q⟩
  s_turn := let ⟨_, q⟩ := (W.fun_ 46 rfl); let m := He.meth_ok (W.fact 84 rfl); ⟨_, _, m.at_, m.fn, q⟩
  s_lead := let ⟨_, q⟩ := (W.fun_ 47 rfl); let m := He.meth_ok (W.fact 85 rfl); ⟨_, _, m.at_, m.fn, q⟩
  s_house := let ⟨_, q⟩ := (W.fun_ 48 rfl); let m := He.meth_ok (W.fact 86 rfl); ⟨_, _, m.at_, m.fn, q⟩
  row_eq := let ⟨_, q⟩ := (W.fun_ 49 rfl); ⟨_, _, (He.meth_ok (W.fact 92 rfl)).fn, q, fun r => match r with
    | .first _ => He.eqO_ok (W.fact 93 rfl)
    | .mode _ _ _ => He.eqO_ok (W.fact 94 rfl)
    | .turn _ _ _ _ => He.eqO_ok (W.fact 95 rfl)
    | .lead _ _ _ _ _ => He.eqO_ok (W.fact 96 rfl)
    | .house _ _ _ => He.eqO_ok (W.fact 97 rfl)⟩
theorem u_facts (X : K.In h) (G : h.Ns mainGlobals mg) (W : SaysS K) : Ux K mg (csOf K) where
  z := s_facts X G W
  ins := fun r => match r with
    | .first _ => kIns_ok (W.fact 98 rfl)
    | .mode _ _ _ => kIns_ok (W.fact 99 rfl)
    | .turn _ _ _ _ => kIns_ok (W.fact 100 rfl)
    | .lead _ _ _ _ _ => kIns_ok (W.fact 101 rfl)
    | .house _ _ _ => kIns_ok (W.fact 102 rfl)
  of_row := fun r => match r with
    | .first _ => kKit_ok (W.fact 104 rfl)
    | .mode _ _ _ => kKit_ok (W.fact 110 rfl)
    | .turn _ _ _ _ => kKit_ok (W.fact 116 rfl)
    | .lead _ _ _ _ _ => kKit_ok (W.fact 122 rfl)
    | .house _ _ _ => kKit_ok (W.fact 128 rfl)
  of_first := fun r => match r with
    | .first _ => kKit_ok (W.fact 105 rfl)
    | .mode _ _ _ => kKit_ok (W.fact 111 rfl)
    | .turn _ _ _ _ => kKit_ok (W.fact 117 rfl)
    | .lead _ _ _ _ _ => kKit_ok (W.fact 123 rfl)
    | .house _ _ _ => kKit_ok (W.fact 129 rfl)
  of_mode := fun r => match r with
    | .first _ => kKit_ok (W.fact 106 rfl)
    | .mode _ _ _ => kKit_ok (W.fact 112 rfl)
    | .turn _ _ _ _ => kKit_ok (W.fact 118 rfl)
    | .lead _ _ _ _ _ => kKit_ok (W.fact 124 rfl)
    | .house _ _ _ => kKit_ok (W.fact 130 rfl)
  of_turn := fun r => match r with
    | .first _ => kKit_ok (W.fact 107 rfl)
    | .mode _ _ _ => kKit_ok (W.fact 113 rfl)
    | .turn _ _ _ _ => kKit_ok (W.fact 119 rfl)
    | .lead _ _ _ _ _ => kKit_ok (W.fact 125 rfl)
    | .house _ _ _ => kKit_ok (W.fact 131 rfl)
  of_lead := fun r => match r with
    | .first _ => kKit_ok (W.fact 108 rfl)
    | .mode _ _ _ => kKit_ok (W.fact 114 rfl)
    | .turn _ _ _ _ => kKit_ok (W.fact 120 rfl)
    | .lead _ _ _ _ _ => kKit_ok (W.fact 126 rfl)
    | .house _ _ _ => kKit_ok (W.fact 132 rfl)
  of_house := fun r => match r with
    | .first _ => kKit_ok (W.fact 109 rfl)
    | .mode _ _ _ => kKit_ok (W.fact 115 rfl)
    | .turn _ _ _ _ => kKit_ok (W.fact 121 rfl)
    | .lead _ _ _ _ _ => kKit_ok (W.fact 127 rfl)
    | .house _ _ _ => kKit_ok (W.fact 133 rfl)
  n_row := (W.glo X G 62 rfl)
  n_first := (W.glo X G 63 rfl)
  n_mode := (W.glo X G 64 rfl)
  n_turn := (W.glo X G 65 rfl)
  n_lead := (W.glo X G 66 rfl)
  n_house := (W.glo X G 67 rfl)
theorem v_facts (X : K.In h) (G : h.Ns mainGlobals mg) (W : SaysS K) : Vx K mg (csOf K) where
  u := u_facts X G W
  read := let ⟨_, q⟩ := (W.fun_ 57 rfl); let m := kRead_ok (W.fact 134 rfl); ⟨_, _, _, _, m.1, m.2, q⟩
theorem w_facts (X : K.In h) (G : h.Ns mainGlobals mg) (W : SaysS K) : Wx K mg (csOf K) where
  v := v_facts X G W
  k_plan := kKcl_ok (W.fact 75 rfl)
  i_plan := let ⟨_, q⟩ := (W.def_ 50 rfl); ⟨_, _, (W.glo X G 68 rfl), He.mkr_ok (W.fact 81 rfl), q⟩
theorem p_facts (X : K.In h) (G : h.Ns mainGlobals mg) (W : SaysS K) : Px K mg (csOf K) where
  w := w_facts X G W
  n_plan := (W.glo X G 68 rfl)
  ins := kIns_ok (W.fact 103 rfl)
  s_str := let ⟨_, q⟩ := (W.fun_ 51 rfl); let m := He.meth_ok (W.fact 87 rfl); ⟨_, _, m.at_, m.fn, q⟩
  s_len := let ⟨_, q⟩ := (W.fun_ 52 rfl); let m := He.meth_ok (W.fact 88 rfl); ⟨_, _, m.at_, m.fn, q⟩
  eq := let ⟨_, q⟩ := (W.fun_ 53 rfl); ⟨_, _, kNe_ok (W.fact 136 rfl), q⟩
theorem m_facts (X : K.In h) (G : h.Ns mainGlobals mg) (W : SaysS K) : Mx K mg (csOf K) where
  p := p_facts X G W
  need := let ⟨_, q⟩ := (W.fun_ 54 rfl); ⟨_, _, He.meth_ok (W.fact 89 rfl), q⟩
  heeding := let ⟨_, q⟩ := (W.fun_ 55 rfl); ⟨_, _, He.meth_ok (W.fact 90 rfl), q⟩
theorem r_facts (X : K.In h) (G : h.Ns mainGlobals mg) (W : SaysS K) : Rx K mg (csOf K) where
  m := m_facts X G W
  read := let ⟨_, q⟩ := (W.fun_ 58 rfl); let m := kRead_ok (W.fact 135 rfl); ⟨_, _, _, _, m.1, m.2, q⟩
theorem q_facts (X : K.In h) (G : h.Ns mainGlobals mg) (W : SaysS K) : Qx theP K mg (csOf K) where
  r := r_facts X G W
  ip := ip_ok (W.glo X G 69 rfl) (He.free_ok X G (W.fact 12 rfl)) (W.fact 137 rfl) W.ipv
  without := let ⟨_, q⟩ := (W.fun_ 56 rfl); ⟨_, _, He.meth_ok (W.fact 91 rfl), q⟩
end
end SB

set_option maxHeartbeats 0
/-! The law, from the walk and from what stands behind the top. -/
namespace SB
open PySem PySem.Spec PyProof.Rows L2
theorem law_facts {w : World} {K : PySem.W.Frag} {h : Heap} {mg : Str → Option Value} {f : Addr} (X : K.In h) (G : h.Ns mainGlobals mg) (hf : mg ("law" : Str) = some (.ref f)) (W : SaysS K) :
    ∃ fd : FuncData, (∀ (s : Shared) (v : Value), BindsTo s fd ⟨[v], []⟩ [("_law_script", v)]) ∧ ∀ base : Heap, K.In base → base.Ns mainGlobals mg → FnOk theP w K mg base CX0 10 f fd ["_law_script"] (spLaw K) := by
  obtain ⟨fd, F⟩ := W.def_ 38 (d := ⟨fun K => He.ga K "law", "law", "law", L2.defArgs s_law, L2.defBody s_law, L2.defScope s_law, [], []⟩) rfl
  have e := hf.symm.trans (W.glo X G 61 (x := "law") rfl)
  cases e
  have b := FunD.bindsA (ps := ["_law_script"]) F fun _ _ _ _ _ _ us hl => match us, hl with | [_], _ => rfl
  exact ⟨fd, fun s v => b s [v] rfl, fun base _ _ => ok_law (q_facts X G W) (He5.fun_of F)⟩
end SB
open PySem PySem.W PySem.Calls PyProof.Rows
theorem PySem.Challenge.cw_stepsback_k19_whole_plans_and_their_part_holds : PySem.Challenge.rw_stepsback_k19_whole_plans_and_their_part.Holds := by
  w_on; o_law
  refine HandSHeadRun.head_any (r := SB.theR) (q := view SB.theR.prog [83]) (H := SB.theHk) (ob := SB.theOb) (M := 20000) (loose := SB.loose) (d := HandSHeadRun.topDef SB.theR.prog 83) (kwd := []) SB.theOb_eq
    (by kernel_rfl) (fun s => by kernel_rfl) SB.theRun (by kernel_rfl) (by kernel_rfl) (by kernel_rfl) (by rfl) (by first | assumption | decide +kernel) (by decide +kernel) ⟨rfl, rfl, rfl, rfl, rfl, by decide +kernel⟩ ?hw ?hc
  case hw => w_witness2
  case hc =>
    refine L2.walk_ofE (l := PySem.Challenge.rw_stepsback_k19_whole_plans_and_their_part) (n := 63) (k := 10) (x := "_law_script") (CX := L2.CX0) rfl (by decide) (by kernel_rfl) ⟨rfl, by decide, by decide⟩ ?F (fun _ _ _ _ z => z)
    intro w mg fa h Y G hmg0
    obtain ⟨K, KX, W⟩ := Y
    have hmg : mg ("law" : PySem.Str) = some (.ref fa) := by
      have e : (HandSHeadRun.topDef SB.theR.prog 83).name = ("law" : PySem.Str) := by kernel_rfl
      rw [← e]
      exact hmg0
    obtain ⟨fd, hb, hF⟩ := SB.law_facts (w := w) KX G hmg W
    exact ⟨K, fd, SB.spLaw K, KX, hb, fun H a ns hl _ hS => ⟨a, ns, rfl, hS, fun _ => rfl⟩, hF⟩

