import PyProof.Rows.All
import Wide.All
import OpenK.AllK
import Wide.FinOn
import KE.KStateDown
import Lean
import HandS.ForMost
import HandS.SortInts
import HandS.Conv
import HandS.NoneIn
import HandS.IsInst
import HandS.DictEq
import HandS.More
import HandS.Defaults
import HandS.Head0
import HandS.Head1
import HandS.Head2
import HandS.HeadEnd
import HandS.HeadHook1
import HandS.HeadHook2
import PySem.Challenge.RW_cellkeep_k16_whole_slid
import HandS.Walk
set_option Elab.async false
set_option linter.all false
set_option maxRecDepth 100000
set_option maxHeartbeats 4000000
/-! the text by places, the scopes, the facts that the top leaves (printed by gen.py) -/
namespace Km
open PySem PySem.Spec PyProof.Rows L2
def top (i : Nat) : Stmt := PySem.Challenge.pw_cellkeep_k16_whole_slid.main.body.getD i (.Pass ⟨0, 0, 0, 0⟩)
abbrev s_is_whole : Stmt := top 15
abbrev N_is_whole : List Str := ["thing"]
theorem sc_is_whole : FnScope N_is_whole ["thing"] (defScope s_is_whole) := ⟨rfl, rfl, rfl, by decide +kernel, rfl, by decide +kernel, by decide +kernel⟩
abbrev s_number_word : Stmt := top 16
abbrev N_number_word : List Str := ["number"]
theorem sc_number_word : FnScope N_number_word ["number"] (defScope s_number_word) := ⟨rfl, rfl, rfl, by decide +kernel, rfl, by decide +kernel, by decide +kernel⟩
abbrev s_place_word : Stmt := top 17
abbrev N_place_word : List Str := ["at"]
theorem sc_place_word : FnScope N_place_word ["at"] (defScope s_place_word) := ⟨rfl, rfl, rfl, by decide +kernel, rfl, by decide +kernel, by decide +kernel⟩
abbrev s_kind : Stmt := top 18
abbrev N_kind : List Str := ["word"]
theorem sc_kind : FnScope N_kind ["word"] (defScope s_kind) := ⟨rfl, rfl, rfl, by decide +kernel, rfl, by decide +kernel, by decide +kernel⟩
abbrev s_worth : Stmt := top 19
abbrev N_worth : List Str := ["word"]
theorem sc_worth : FnScope N_worth ["word"] (defScope s_worth) := ⟨rfl, rfl, rfl, by decide +kernel, rfl, by decide +kernel, by decide +kernel⟩
abbrev s_need_slots : Stmt := top 23
abbrev N_need_slots : List Str := ["slots"]
theorem sc_need_slots : FnScope N_need_slots ["slots"] (defScope s_need_slots) := ⟨rfl, rfl, rfl, by decide +kernel, rfl, by decide +kernel, by decide +kernel⟩
abbrev s_lay : Stmt := top 24
abbrev N_lay : List Str := ["memory", "at", "slots", "slot"]
theorem sc_lay : FnScope N_lay ["memory", "at", "slots"] (defScope s_lay) := ⟨rfl, rfl, rfl, by decide +kernel, rfl, by decide +kernel, by decide +kernel⟩
abbrev s_head_of : Stmt := top 25
abbrev N_head_of : List Str := ["memory", "at", "word"]
theorem sc_head_of : FnScope N_head_of ["memory", "at"] (defScope s_head_of) := ⟨rfl, rfl, rfl, by decide +kernel, rfl, by decide +kernel, by decide +kernel⟩
abbrev s_slots_of : Stmt := top 26
abbrev N_slots_of : List Str := ["memory", "at"]
theorem sc_slots_of : FnScope N_slots_of ["memory", "at"] (defScope s_slots_of) := ⟨rfl, rfl, rfl, by decide +kernel, rfl, by decide +kernel, by decide +kernel⟩
abbrev s_words_of : Stmt := top 27
abbrev N_words_of : List Str := ["memory", "at"]
theorem sc_words_of : FnScope N_words_of ["memory", "at"] (defScope s_words_of) := ⟨rfl, rfl, rfl, by decide +kernel, rfl, by decide +kernel, by decide +kernel⟩
abbrev s_aged : Stmt := top 28
abbrev N_aged : List Str := ["memory", "at", "age", "slots"]
theorem sc_aged : FnScope N_aged ["memory", "at", "age"] (defScope s_aged) := ⟨rfl, rfl, rfl, by decide +kernel, rfl, by decide +kernel, by decide +kernel⟩
abbrev s_slot_place : Stmt := top 29
abbrev N_slot_place : List Str := ["memory", "at", "slot", "slots"]
theorem sc_slot_place : FnScope N_slot_place ["memory", "at", "slot"] (defScope s_slot_place) := ⟨rfl, rfl, rfl, by decide +kernel, rfl, by decide +kernel, by decide +kernel⟩
abbrev s_children : Stmt := top 30
abbrev N_children : List Str := ["memory", "at", "found", "slot", "word"]
theorem sc_children : FnScope N_children ["memory", "at"] (defScope s_children) := ⟨rfl, rfl, rfl, by decide +kernel, rfl, by decide +kernel, by decide +kernel⟩
abbrev s_reached : Stmt := top 32
abbrev N_reached : List Str := ["memory", "starts", "found", "met", "at", "turn"]
theorem sc_reached : FnScope N_reached ["memory", "starts"] (defScope s_reached) := ⟨rfl, rfl, rfl, by decide +kernel, rfl, by decide +kernel, by decide +kernel⟩
abbrev s_goals : Stmt := top 34
abbrev N_goals : List Str := ["areas", "kept", "found", "top", "at"]
theorem sc_goals : FnScope N_goals ["areas", "kept"] (defScope s_goals) := ⟨rfl, rfl, rfl, by decide +kernel, rfl, by decide +kernel, by decide +kernel⟩
abbrev s_turned : Stmt := top 35
abbrev N_turned : List Str := ["word", "where"]
theorem sc_turned : FnScope N_turned ["word", "where"] (defScope s_turned) := ⟨rfl, rfl, rfl, by decide +kernel, rfl, by decide +kernel, by decide +kernel⟩
abbrev s_turn_slots : Stmt := top 36
abbrev N_turn_slots : List Str := ["memory", "at", "where", "slot", "place"]
theorem sc_turn_slots : FnScope N_turn_slots ["memory", "at", "where"] (defScope s_turn_slots) := ⟨rfl, rfl, rfl, by decide +kernel, rfl, by decide +kernel, by decide +kernel⟩
abbrev s_turn_roots : Stmt := top 37
abbrev N_turn_roots : List Str := ["roots", "where", "words", "hand", "name", "at", "ticket", "number"]
theorem sc_turn_roots : FnScope N_turn_roots ["roots", "where"] (defScope s_turn_roots) := ⟨rfl, rfl, rfl, by decide +kernel, rfl, by decide +kernel, by decide +kernel⟩
abbrev s_collect_all : Stmt := top 38
abbrev N_collect_all : List Str := ["areas", "roots", "memory", "kept", "where", "at", "top", "many"]
theorem sc_collect_all : FnScope N_collect_all ["areas", "roots"] (defScope s_collect_all) := ⟨rfl, rfl, rfl, by decide +kernel, rfl, by decide +kernel, by decide +kernel⟩
abbrev s_Memory_init : Stmt := inClass (top 41) 0
abbrev N_Memory_init : List Str := ["self", "size", "at"]
theorem sc_Memory_init : FnScope N_Memory_init ["self", "size"] (defScope s_Memory_init) := ⟨rfl, rfl, rfl, by decide +kernel, rfl, by decide +kernel, by decide +kernel⟩
abbrev s_Memory_need : Stmt := inClass (top 41) 1
abbrev N_Memory_need : List Str := ["self", "at"]
theorem sc_Memory_need : FnScope N_Memory_need ["self", "at"] (defScope s_Memory_need) := ⟨rfl, rfl, rfl, by decide +kernel, rfl, by decide +kernel, by decide +kernel⟩
abbrev s_Memory_read : Stmt := inClass (top 41) 2
abbrev N_Memory_read : List Str := ["self", "at"]
theorem sc_Memory_read : FnScope N_Memory_read ["self", "at"] (defScope s_Memory_read) := ⟨rfl, rfl, rfl, by decide +kernel, rfl, by decide +kernel, by decide +kernel⟩
abbrev s_Memory_write : Stmt := inClass (top 41) 3
abbrev N_Memory_write : List Str := ["self", "at", "word"]
theorem sc_Memory_write : FnScope N_Memory_write ["self", "at", "word"] (defScope s_Memory_write) := ⟨rfl, rfl, rfl, by decide +kernel, rfl, by decide +kernel, by decide +kernel⟩
abbrev s_Memory_need_stretch : Stmt := inClass (top 41) 4
abbrev N_Memory_need_stretch : List Str := ["self", "at", "many"]
theorem sc_Memory_need_stretch : FnScope N_Memory_need_stretch ["self", "at", "many"] (defScope s_Memory_need_stretch) := ⟨rfl, rfl, rfl, by decide +kernel, rfl, by decide +kernel, by decide +kernel⟩
abbrev s_Memory_copy : Stmt := inClass (top 41) 5
abbrev N_Memory_copy : List Str := ["self", "start", "goal", "many", "row", "turn"]
theorem sc_Memory_copy : FnScope N_Memory_copy ["self", "start", "goal", "many"] (defScope s_Memory_copy) := ⟨rfl, rfl, rfl, by decide +kernel, rfl, by decide +kernel, by decide +kernel⟩
abbrev s_Space_init : Stmt := inClass (top 43) 0
abbrev N_Space_init : List Str := ["self", "begin", "end"]
theorem sc_Space_init : FnScope N_Space_init ["self", "begin", "end"] (defScope s_Space_init) := ⟨rfl, rfl, rfl, by decide +kernel, rfl, by decide +kernel, by decide +kernel⟩
abbrev s_Space_room : Stmt := inClass (top 43) 1
abbrev N_Space_room : List Str := ["self"]
theorem sc_Space_room : FnScope N_Space_room ["self"] (defScope s_Space_room) := ⟨rfl, rfl, rfl, by decide +kernel, rfl, by decide +kernel, by decide +kernel⟩
abbrev s_Space_used : Stmt := inClass (top 43) 2
abbrev N_Space_used : List Str := ["self"]
theorem sc_Space_used : FnScope N_Space_used ["self"] (defScope s_Space_used) := ⟨rfl, rfl, rfl, by decide +kernel, rfl, by decide +kernel, by decide +kernel⟩
abbrev s_Space_has : Stmt := inClass (top 43) 3
abbrev N_Space_has : List Str := ["self", "at"]
theorem sc_Space_has : FnScope N_Space_has ["self", "at"] (defScope s_Space_has) := ⟨rfl, rfl, rfl, by decide +kernel, rfl, by decide +kernel, by decide +kernel⟩
abbrev s_Space_take : Stmt := inClass (top 43) 4
abbrev N_Space_take : List Str := ["self", "many", "at"]
theorem sc_Space_take : FnScope N_Space_take ["self", "many"] (defScope s_Space_take) := ⟨rfl, rfl, rfl, by decide +kernel, rfl, by decide +kernel, by decide +kernel⟩
abbrev s_Space_empty : Stmt := inClass (top 43) 5
abbrev N_Space_empty : List Str := ["self"]
theorem sc_Space_empty : FnScope N_Space_empty ["self"] (defScope s_Space_empty) := ⟨rfl, rfl, rfl, by decide +kernel, rfl, by decide +kernel, by decide +kernel⟩
abbrev s_Space_cut : Stmt := inClass (top 43) 6
abbrev N_Space_cut : List Str := ["self", "top"]
theorem sc_Space_cut : FnScope N_Space_cut ["self", "top"] (defScope s_Space_cut) := ⟨rfl, rfl, rfl, by decide +kernel, rfl, by decide +kernel, by decide +kernel⟩
abbrev s_Space_cells : Stmt := inClass (top 43) 7
abbrev N_Space_cells : List Str := ["self", "memory", "found", "at"]
theorem sc_Space_cells : FnScope N_Space_cells ["self", "memory"] (defScope s_Space_cells) := ⟨rfl, rfl, rfl, by decide +kernel, rfl, by decide +kernel, by decide +kernel⟩
abbrev s_Areas_init : Stmt := inClass (top 49) 0
abbrev N_Areas_init : List Str := ["self", "old_words", "young_words"]
theorem sc_Areas_init : FnScope N_Areas_init ["self", "old_words", "young_words"] (defScope s_Areas_init) := ⟨rfl, rfl, rfl, by decide +kernel, rfl, by decide +kernel, by decide +kernel⟩
abbrev s_Areas_flip : Stmt := inClass (top 49) 1
abbrev N_Areas_flip : List Str := ["self", "kept"]
theorem sc_Areas_flip : FnScope N_Areas_flip ["self"] (defScope s_Areas_flip) := ⟨rfl, rfl, rfl, by decide +kernel, rfl, by decide +kernel, by decide +kernel⟩
abbrev s_Areas_area_of : Stmt := inClass (top 49) 2
abbrev N_Areas_area_of : List Str := ["self", "at"]
theorem sc_Areas_area_of : FnScope N_Areas_area_of ["self", "at"] (defScope s_Areas_area_of) := ⟨rfl, rfl, rfl, by decide +kernel, rfl, by decide +kernel, by decide +kernel⟩
abbrev s_Areas_lay_young : Stmt := inClass (top 49) 3
abbrev N_Areas_lay_young : List Str := ["self", "slots", "at"]
theorem sc_Areas_lay_young : FnScope N_Areas_lay_young ["self", "slots"] (defScope s_Areas_lay_young) := ⟨rfl, rfl, rfl, by decide +kernel, rfl, by decide +kernel, by decide +kernel⟩
abbrev s_Areas_lay_old : Stmt := inClass (top 49) 4
abbrev N_Areas_lay_old : List Str := ["self", "slots", "at"]
theorem sc_Areas_lay_old : FnScope N_Areas_lay_old ["self", "slots"] (defScope s_Areas_lay_old) := ⟨rfl, rfl, rfl, by decide +kernel, rfl, by decide +kernel, by decide +kernel⟩
abbrev s_Book_init : Stmt := inClass (top 51) 0
abbrev N_Book_init : List Str := ["self"]
theorem sc_Book_init : FnScope N_Book_init ["self"] (defScope s_Book_init) := ⟨rfl, rfl, rfl, by decide +kernel, rfl, by decide +kernel, by decide +kernel⟩
abbrev s_Book_write : Stmt := inClass (top 51) 1
abbrev N_Book_write : List Str := ["self", "place"]
theorem sc_Book_write : FnScope N_Book_write ["self", "place"] (defScope s_Book_write) := ⟨rfl, rfl, rfl, by decide +kernel, rfl, by decide +kernel, by decide +kernel⟩
abbrev s_Book_rub : Stmt := inClass (top 51) 2
abbrev N_Book_rub : List Str := ["self", "place"]
theorem sc_Book_rub : FnScope N_Book_rub ["self", "place"] (defScope s_Book_rub) := ⟨rfl, rfl, rfl, by decide +kernel, rfl, by decide +kernel, by decide +kernel⟩
abbrev s_Book_has : Stmt := inClass (top 51) 3
abbrev N_Book_has : List Str := ["self", "place"]
theorem sc_Book_has : FnScope N_Book_has ["self", "place"] (defScope s_Book_has) := ⟨rfl, rfl, rfl, by decide +kernel, rfl, by decide +kernel, by decide +kernel⟩
abbrev s_Book_places : Stmt := inClass (top 51) 4
abbrev N_Book_places : List Str := ["self"]
theorem sc_Book_places : FnScope N_Book_places ["self"] (defScope s_Book_places) := ⟨rfl, rfl, rfl, by decide +kernel, rfl, by decide +kernel, by decide +kernel⟩
abbrev s_Book_clear : Stmt := inClass (top 51) 5
abbrev N_Book_clear : List Str := ["self"]
theorem sc_Book_clear : FnScope N_Book_clear ["self"] (defScope s_Book_clear) := ⟨rfl, rfl, rfl, by decide +kernel, rfl, by decide +kernel, by decide +kernel⟩
abbrev s_Hands_init : Stmt := inClass (top 54) 0
abbrev N_Hands_init : List Str := ["self", "many", "hand"]
theorem sc_Hands_init : FnScope N_Hands_init ["self", "many"] (defScope s_Hands_init) := ⟨rfl, rfl, rfl, by decide +kernel, rfl, by decide +kernel, by decide +kernel⟩
abbrev s_Hands_need : Stmt := inClass (top 54) 1
abbrev N_Hands_need : List Str := ["self", "hand"]
theorem sc_Hands_need : FnScope N_Hands_need ["self", "hand"] (defScope s_Hands_need) := ⟨rfl, rfl, rfl, by decide +kernel, rfl, by decide +kernel, by decide +kernel⟩
abbrev s_Hands_get : Stmt := inClass (top 54) 2
abbrev N_Hands_get : List Str := ["self", "hand"]
theorem sc_Hands_get : FnScope N_Hands_get ["self", "hand"] (defScope s_Hands_get) := ⟨rfl, rfl, rfl, by decide +kernel, rfl, by decide +kernel, by decide +kernel⟩
abbrev s_Hands_put : Stmt := inClass (top 54) 3
abbrev N_Hands_put : List Str := ["self", "hand", "word"]
theorem sc_Hands_put : FnScope N_Hands_put ["self", "hand", "word"] (defScope s_Hands_put) := ⟨rfl, rfl, rfl, by decide +kernel, rfl, by decide +kernel, by decide +kernel⟩
abbrev s_Hands_row : Stmt := inClass (top 54) 4
abbrev N_Hands_row : List Str := ["self"]
theorem sc_Hands_row : FnScope N_Hands_row ["self"] (defScope s_Hands_row) := ⟨rfl, rfl, rfl, by decide +kernel, rfl, by decide +kernel, by decide +kernel⟩
abbrev s_Lasts_init : Stmt := inClass (top 56) 0
abbrev N_Lasts_init : List Str := ["self"]
theorem sc_Lasts_init : FnScope N_Lasts_init ["self"] (defScope s_Lasts_init) := ⟨rfl, rfl, rfl, by decide +kernel, rfl, by decide +kernel, by decide +kernel⟩
abbrev s_Lasts_give : Stmt := inClass (top 56) 1
abbrev N_Lasts_give : List Str := ["self", "at", "number"]
theorem sc_Lasts_give : FnScope N_Lasts_give ["self", "at", "number"] (defScope s_Lasts_give) := ⟨rfl, rfl, rfl, by decide +kernel, rfl, by decide +kernel, by decide +kernel⟩
abbrev s_Lasts_need : Stmt := inClass (top 56) 2
abbrev N_Lasts_need : List Str := ["self", "ticket"]
theorem sc_Lasts_need : FnScope N_Lasts_need ["self", "ticket"] (defScope s_Lasts_need) := ⟨rfl, rfl, rfl, by decide +kernel, rfl, by decide +kernel, by decide +kernel⟩
abbrev s_Lasts_move : Stmt := inClass (top 56) 3
abbrev N_Lasts_move : List Str := ["self", "ticket", "at"]
theorem sc_Lasts_move : FnScope N_Lasts_move ["self", "ticket", "at"] (defScope s_Lasts_move) := ⟨rfl, rfl, rfl, by decide +kernel, rfl, by decide +kernel, by decide +kernel⟩
abbrev s_Lasts_say : Stmt := inClass (top 56) 4
abbrev N_Lasts_say : List Str := ["self", "ticket"]
theorem sc_Lasts_say : FnScope N_Lasts_say ["self", "ticket"] (defScope s_Lasts_say) := ⟨rfl, rfl, rfl, by decide +kernel, rfl, by decide +kernel, by decide +kernel⟩
abbrev s_Lasts_pending : Stmt := inClass (top 56) 5
abbrev N_Lasts_pending : List Str := ["self", "found", "ticket", "pair"]
theorem sc_Lasts_pending : FnScope N_Lasts_pending ["self"] (defScope s_Lasts_pending) := ⟨rfl, rfl, rfl, by decide +kernel, rfl, by decide +kernel, by decide +kernel⟩
abbrev s_Lasts_said : Stmt := inClass (top 56) 6
abbrev N_Lasts_said : List Str := ["self"]
theorem sc_Lasts_said : FnScope N_Lasts_said ["self"] (defScope s_Lasts_said) := ⟨rfl, rfl, rfl, by decide +kernel, rfl, by decide +kernel, by decide +kernel⟩
abbrev s_Weak_init : Stmt := inClass (top 58) 0
abbrev N_Weak_init : List Str := ["self"]
theorem sc_Weak_init : FnScope N_Weak_init ["self"] (defScope s_Weak_init) := ⟨rfl, rfl, rfl, by decide +kernel, rfl, by decide +kernel, by decide +kernel⟩
abbrev s_Weak_name : Stmt := inClass (top 58) 1
abbrev N_Weak_name : List Str := ["self", "at"]
theorem sc_Weak_name : FnScope N_Weak_name ["self", "at"] (defScope s_Weak_name) := ⟨rfl, rfl, rfl, by decide +kernel, rfl, by decide +kernel, by decide +kernel⟩
abbrev s_Weak_need : Stmt := inClass (top 58) 2
abbrev N_Weak_need : List Str := ["self", "name"]
theorem sc_Weak_need : FnScope N_Weak_need ["self", "name"] (defScope s_Weak_need) := ⟨rfl, rfl, rfl, by decide +kernel, rfl, by decide +kernel, by decide +kernel⟩
abbrev s_Weak_at : Stmt := inClass (top 58) 3
abbrev N_Weak_at : List Str := ["self", "name"]
theorem sc_Weak_at : FnScope N_Weak_at ["self", "name"] (defScope s_Weak_at) := ⟨rfl, rfl, rfl, by decide +kernel, rfl, by decide +kernel, by decide +kernel⟩
abbrev s_Weak_need_there : Stmt := inClass (top 58) 4
abbrev N_Weak_need_there : List Str := ["self", "name"]
theorem sc_Weak_need_there : FnScope N_Weak_need_there ["self", "name"] (defScope s_Weak_need_there) := ⟨rfl, rfl, rfl, by decide +kernel, rfl, by decide +kernel, by decide +kernel⟩
abbrev s_Weak_move : Stmt := inClass (top 58) 5
abbrev N_Weak_move : List Str := ["self", "name", "at"]
theorem sc_Weak_move : FnScope N_Weak_move ["self", "name", "at"] (defScope s_Weak_move) := ⟨rfl, rfl, rfl, by decide +kernel, rfl, by decide +kernel, by decide +kernel⟩
abbrev s_Weak_gone : Stmt := inClass (top 58) 6
abbrev N_Weak_gone : List Str := ["self", "name"]
theorem sc_Weak_gone : FnScope N_Weak_gone ["self", "name"] (defScope s_Weak_gone) := ⟨rfl, rfl, rfl, by decide +kernel, rfl, by decide +kernel, by decide +kernel⟩
abbrev s_Weak_names : Stmt := inClass (top 58) 7
abbrev N_Weak_names : List Str := ["self", "name", "at"]
theorem sc_Weak_names : FnScope N_Weak_names ["self"] (defScope s_Weak_names) := ⟨rfl, rfl, rfl, by decide +kernel, rfl, by decide +kernel, by decide +kernel⟩
abbrev s_Roots_init : Stmt := inClass (top 60) 0
abbrev N_Roots_init : List Str := ["self", "many"]
theorem sc_Roots_init : FnScope N_Roots_init ["self", "many"] (defScope s_Roots_init) := ⟨rfl, rfl, rfl, by decide +kernel, rfl, by decide +kernel, by decide +kernel⟩
abbrev s_Roots_starts : Stmt := inClass (top 60) 1
abbrev N_Roots_starts : List Str := ["self", "word"]
theorem sc_Roots_starts : FnScope N_Roots_starts ["self"] (defScope s_Roots_starts) := ⟨rfl, rfl, rfl, by decide +kernel, rfl, by decide +kernel, by decide +kernel⟩
abbrev s_law_cell_at : Stmt := top 62
abbrev N_law_cell_at : List Str := ["_law_script", "_law_k"]
theorem sc_law_cell_at : FnScope N_law_cell_at ["_law_script", "_law_k"] (defScope s_law_cell_at) := ⟨rfl, rfl, rfl, by decide +kernel, rfl, by decide +kernel, by decide +kernel⟩
abbrev s_law_next : Stmt := top 63
abbrev N_law_next : List Str := ["_law_seed"]
theorem sc_law_next : FnScope N_law_next ["_law_seed"] (defScope s_law_next) := ⟨rfl, rfl, rfl, by decide +kernel, rfl, by decide +kernel, by decide +kernel⟩
abbrev s_law_lay : Stmt := top 64
abbrev N_law_lay : List Str := ["_law_areas", "_law_side", "_law_slots", "_law_cells", "_law_at", "_law_slot"]
theorem sc_law_lay : FnScope N_law_lay ["_law_areas", "_law_side", "_law_slots", "_law_cells"] (defScope s_law_lay) := ⟨rfl, rfl, rfl, by decide +kernel, rfl, by decide +kernel, by decide +kernel⟩
abbrev s_law_laid : Stmt := top 65
abbrev N_law_laid : List Str := ["_law_areas", "_law_rooms", "_law_script", "_law_cells", "_law_seed", "_law_used", "_law_k", "_law_slots", "_law_side", "_law_at"]
theorem sc_law_laid : FnScope N_law_laid ["_law_areas", "_law_rooms", "_law_script"] (defScope s_law_laid) := ⟨rfl, rfl, rfl, by decide +kernel, rfl, by decide +kernel, by decide +kernel⟩
abbrev s_law_word : Stmt := top 66
abbrev N_law_word : List Str := ["_law_cells", "_law_seed", "_law_pick"]
theorem sc_law_word : FnScope N_law_word ["_law_cells", "_law_seed"] (defScope s_law_word) := ⟨rfl, rfl, rfl, by decide +kernel, rfl, by decide +kernel, by decide +kernel⟩
abbrev s_law_write : Stmt := top 67
abbrev N_law_write : List Str := ["_law_areas", "_law_roots", "_law_cells", "_law_at", "_law_slot", "_law_word_here"]
theorem sc_law_write : FnScope N_law_write ["_law_areas", "_law_roots", "_law_cells", "_law_at", "_law_slot", "_law_word_here"] (defScope s_law_write) := ⟨rfl, rfl, rfl, by decide +kernel, rfl, by decide +kernel, by decide +kernel⟩
abbrev s_law_filled : Stmt := top 68
abbrev N_law_filled : List Str := ["_law_areas", "_law_roots", "_law_cells", "_law_seed", "_law_at", "_law_slot"]
theorem sc_law_filled : FnScope N_law_filled ["_law_areas", "_law_roots", "_law_cells", "_law_seed"] (defScope s_law_filled) := ⟨rfl, rfl, rfl, by decide +kernel, rfl, by decide +kernel, by decide +kernel⟩
abbrev s_law_tabled : Stmt := top 69
abbrev N_law_tabled : List Str := ["_law_roots", "_law_cells", "_law_script", "_law_names", "_law_tickets", "_law_some", "_law_cell", "_law_at"]
theorem sc_law_tabled : FnScope N_law_tabled ["_law_roots", "_law_cells", "_law_script", "_law_names", "_law_tickets"] (defScope s_law_tabled) := ⟨rfl, rfl, rfl, by decide +kernel, rfl, by decide +kernel, by decide +kernel⟩
abbrev s_law_reached : Stmt := top 70
abbrev N_law_reached : List Str := ["_law_cells", "_law_hands", "_law_found", "_law_row", "_law_at", "_law_word_here"]
theorem sc_law_reached : FnScope N_law_reached ["_law_cells", "_law_hands"] (defScope s_law_reached) := ⟨rfl, rfl, rfl, by decide +kernel, rfl, by decide +kernel, by decide +kernel⟩
abbrev s_law_turned : Stmt := top 71
abbrev N_law_turned : List Str := ["_law_word_here", "_law_where"]
theorem sc_law_turned : FnScope N_law_turned ["_law_word_here", "_law_where"] (defScope s_law_turned) := ⟨rfl, rfl, rfl, by decide +kernel, rfl, by decide +kernel, by decide +kernel⟩
abbrev s_law_moved : Stmt := top 72
abbrev N_law_moved : List Str := ["_law_s", "_law_kept", "_law_where", "_law_top", "_law_at", "_law_cells", "_law_names", "_law_name", "_law_word_here", "_law_one"]
theorem sc_law_moved : FnScope N_law_moved ["_law_s"] (defScope s_law_moved) := ⟨rfl, rfl, rfl, by decide +kernel, rfl, by decide +kernel, by decide +kernel⟩
abbrev s_law_stands : Stmt := top 73
abbrev N_law_stands : List Str := ["_law_areas", "_law_roots", "_law_s", "_law_top", "_law_at", "_law_row", "_law_name", "_law_due", "_law_k"]
theorem sc_law_stands : FnScope N_law_stands ["_law_areas", "_law_roots", "_law_s", "_law_top"] (defScope s_law_stands) := ⟨rfl, rfl, rfl, by decide +kernel, rfl, by decide +kernel, by decide +kernel⟩
abbrev s_law_collected : Stmt := top 74
abbrev N_law_collected : List Str := ["_law_areas", "_law_roots", "_law_s", "_law_top", "_law_found"]
theorem sc_law_collected : FnScope N_law_collected ["_law_areas", "_law_roots", "_law_s"] (defScope s_law_collected) := ⟨rfl, rfl, rfl, by decide +kernel, rfl, by decide +kernel, by decide +kernel⟩
abbrev s_law_changed : Stmt := top 75
abbrev N_law_changed : List Str := ["_law_areas", "_law_roots", "_law_s", "_law_cell", "_law_rooms", "_law_seed", "_law_hand", "_law_slots", "_law_at", "_law_wide", "_law_slot"]
theorem sc_law_changed : FnScope N_law_changed ["_law_areas", "_law_roots", "_law_s", "_law_cell", "_law_rooms"] (defScope s_law_changed) := ⟨rfl, rfl, rfl, by decide +kernel, rfl, by decide +kernel, by decide +kernel⟩
abbrev s_law : Stmt := top 76
abbrev N_law : List Str := ["_law_script", "_law_rooms", "_law_areas", "_law_many", "_law_roots", "_law_s", "_law_hand", "_law_k"]
theorem sc_law : FnScope N_law ["_law_script"] (defScope s_law) := ⟨rfl, rfl, rfl, by decide +kernel, rfl, by decide +kernel, by decide +kernel⟩
def d_is_whole : He.DefD := ⟨("is_whole", none), "is_whole", "is_whole", defArgs s_is_whole, defBody s_is_whole, defScope s_is_whole, [], []⟩
def d_number_word : He.DefD := ⟨("number_word", none), "number_word", "number_word", defArgs s_number_word, defBody s_number_word, defScope s_number_word, [], []⟩
def d_place_word : He.DefD := ⟨("place_word", none), "place_word", "place_word", defArgs s_place_word, defBody s_place_word, defScope s_place_word, [], []⟩
def d_kind : He.DefD := ⟨("kind", none), "kind", "kind", defArgs s_kind, defBody s_kind, defScope s_kind, [], []⟩
def d_worth : He.DefD := ⟨("worth", none), "worth", "worth", defArgs s_worth, defBody s_worth, defScope s_worth, [], []⟩
def d_need_slots : He.DefD := ⟨("need_slots", none), "need_slots", "need_slots", defArgs s_need_slots, defBody s_need_slots, defScope s_need_slots, [], []⟩
def d_lay : He.DefD := ⟨("lay", none), "lay", "lay", defArgs s_lay, defBody s_lay, defScope s_lay, [], []⟩
def d_head_of : He.DefD := ⟨("head_of", none), "head_of", "head_of", defArgs s_head_of, defBody s_head_of, defScope s_head_of, [], []⟩
def d_slots_of : He.DefD := ⟨("slots_of", none), "slots_of", "slots_of", defArgs s_slots_of, defBody s_slots_of, defScope s_slots_of, [], []⟩
def d_words_of : He.DefD := ⟨("words_of", none), "words_of", "words_of", defArgs s_words_of, defBody s_words_of, defScope s_words_of, [], []⟩
def d_aged : He.DefD := ⟨("aged", none), "aged", "aged", defArgs s_aged, defBody s_aged, defScope s_aged, [], []⟩
def d_slot_place : He.DefD := ⟨("slot_place", none), "slot_place", "slot_place", defArgs s_slot_place, defBody s_slot_place, defScope s_slot_place, [], []⟩
def d_children : He.DefD := ⟨("children", none), "children", "children", defArgs s_children, defBody s_children, defScope s_children, [], []⟩
def d_reached : He.DefD := ⟨("reached", none), "reached", "reached", defArgs s_reached, defBody s_reached, defScope s_reached, [], []⟩
def d_goals : He.DefD := ⟨("goals", none), "goals", "goals", defArgs s_goals, defBody s_goals, defScope s_goals, [], []⟩
def d_turned : He.DefD := ⟨("turned", none), "turned", "turned", defArgs s_turned, defBody s_turned, defScope s_turned, [], []⟩
def d_turn_slots : He.DefD := ⟨("turn_slots", none), "turn_slots", "turn_slots", defArgs s_turn_slots, defBody s_turn_slots, defScope s_turn_slots, [], []⟩
def d_turn_roots : He.DefD := ⟨("turn_roots", none), "turn_roots", "turn_roots", defArgs s_turn_roots, defBody s_turn_roots, defScope s_turn_roots, [], []⟩
def d_collect_all : He.DefD := ⟨("collect_all", none), "collect_all", "collect_all", defArgs s_collect_all, defBody s_collect_all, defScope s_collect_all, [], []⟩
def d_Memory_init : He.DefD := ⟨("Memory", some "__init__"), "__init__", "Memory.__init__", defArgs s_Memory_init, defBody s_Memory_init, defScope s_Memory_init, [], []⟩
def d_Memory_need : He.DefD := ⟨("Memory", some "need"), "need", "Memory.need", defArgs s_Memory_need, defBody s_Memory_need, defScope s_Memory_need, [], []⟩
def d_Memory_read : He.DefD := ⟨("Memory", some "read"), "read", "Memory.read", defArgs s_Memory_read, defBody s_Memory_read, defScope s_Memory_read, [], []⟩
def d_Memory_write : He.DefD := ⟨("Memory", some "write"), "write", "Memory.write", defArgs s_Memory_write, defBody s_Memory_write, defScope s_Memory_write, [], []⟩
def d_Memory_need_stretch : He.DefD := ⟨("Memory", some "need_stretch"), "need_stretch", "Memory.need_stretch", defArgs s_Memory_need_stretch, defBody s_Memory_need_stretch, defScope s_Memory_need_stretch, [], []⟩
def d_Memory_copy : He.DefD := ⟨("Memory", some "copy"), "copy", "Memory.copy", defArgs s_Memory_copy, defBody s_Memory_copy, defScope s_Memory_copy, [], []⟩
def d_Space_init : He.DefD := ⟨("Space", some "__init__"), "__init__", "Space.__init__", defArgs s_Space_init, defBody s_Space_init, defScope s_Space_init, [], []⟩
def d_Space_room : He.DefD := ⟨("Space", some "room"), "room", "Space.room", defArgs s_Space_room, defBody s_Space_room, defScope s_Space_room, [], []⟩
def d_Space_used : He.DefD := ⟨("Space", some "used"), "used", "Space.used", defArgs s_Space_used, defBody s_Space_used, defScope s_Space_used, [], []⟩
def d_Space_has : He.DefD := ⟨("Space", some "has"), "has", "Space.has", defArgs s_Space_has, defBody s_Space_has, defScope s_Space_has, [], []⟩
def d_Space_take : He.DefD := ⟨("Space", some "take"), "take", "Space.take", defArgs s_Space_take, defBody s_Space_take, defScope s_Space_take, [], []⟩
def d_Space_empty : He.DefD := ⟨("Space", some "empty"), "empty", "Space.empty", defArgs s_Space_empty, defBody s_Space_empty, defScope s_Space_empty, [], []⟩
def d_Space_cut : He.DefD := ⟨("Space", some "cut"), "cut", "Space.cut", defArgs s_Space_cut, defBody s_Space_cut, defScope s_Space_cut, [], []⟩
def d_Space_cells : He.DefD := ⟨("Space", some "cells"), "cells", "Space.cells", defArgs s_Space_cells, defBody s_Space_cells, defScope s_Space_cells, [], []⟩
def d_Areas_init : He.DefD := ⟨("Areas", some "__init__"), "__init__", "Areas.__init__", defArgs s_Areas_init, defBody s_Areas_init, defScope s_Areas_init, [], []⟩
def d_Areas_flip : He.DefD := ⟨("Areas", some "flip"), "flip", "Areas.flip", defArgs s_Areas_flip, defBody s_Areas_flip, defScope s_Areas_flip, [], []⟩
def d_Areas_area_of : He.DefD := ⟨("Areas", some "area_of"), "area_of", "Areas.area_of", defArgs s_Areas_area_of, defBody s_Areas_area_of, defScope s_Areas_area_of, [], []⟩
def d_Areas_lay_young : He.DefD := ⟨("Areas", some "lay_young"), "lay_young", "Areas.lay_young", defArgs s_Areas_lay_young, defBody s_Areas_lay_young, defScope s_Areas_lay_young, [], []⟩
def d_Areas_lay_old : He.DefD := ⟨("Areas", some "lay_old"), "lay_old", "Areas.lay_old", defArgs s_Areas_lay_old, defBody s_Areas_lay_old, defScope s_Areas_lay_old, [], []⟩
def d_Book_init : He.DefD := ⟨("Book", some "__init__"), "__init__", "Book.__init__", defArgs s_Book_init, defBody s_Book_init, defScope s_Book_init, [], []⟩
def d_Book_write : He.DefD := ⟨("Book", some "write"), "write", "Book.write", defArgs s_Book_write, defBody s_Book_write, defScope s_Book_write, [], []⟩
def d_Book_rub : He.DefD := ⟨("Book", some "rub"), "rub", "Book.rub", defArgs s_Book_rub, defBody s_Book_rub, defScope s_Book_rub, [], []⟩
def d_Book_has : He.DefD := ⟨("Book", some "has"), "has", "Book.has", defArgs s_Book_has, defBody s_Book_has, defScope s_Book_has, [], []⟩
def d_Book_places : He.DefD := ⟨("Book", some "places"), "places", "Book.places", defArgs s_Book_places, defBody s_Book_places, defScope s_Book_places, [], []⟩
def d_Book_clear : He.DefD := ⟨("Book", some "clear"), "clear", "Book.clear", defArgs s_Book_clear, defBody s_Book_clear, defScope s_Book_clear, [], []⟩
def d_Hands_init : He.DefD := ⟨("Hands", some "__init__"), "__init__", "Hands.__init__", defArgs s_Hands_init, defBody s_Hands_init, defScope s_Hands_init, [], []⟩
def d_Hands_need : He.DefD := ⟨("Hands", some "need"), "need", "Hands.need", defArgs s_Hands_need, defBody s_Hands_need, defScope s_Hands_need, [], []⟩
def d_Hands_get : He.DefD := ⟨("Hands", some "get"), "get", "Hands.get", defArgs s_Hands_get, defBody s_Hands_get, defScope s_Hands_get, [], []⟩
def d_Hands_put : He.DefD := ⟨("Hands", some "put"), "put", "Hands.put", defArgs s_Hands_put, defBody s_Hands_put, defScope s_Hands_put, [], []⟩
def d_Hands_row : He.DefD := ⟨("Hands", some "row"), "row", "Hands.row", defArgs s_Hands_row, defBody s_Hands_row, defScope s_Hands_row, [], []⟩
def d_Lasts_init : He.DefD := ⟨("Lasts", some "__init__"), "__init__", "Lasts.__init__", defArgs s_Lasts_init, defBody s_Lasts_init, defScope s_Lasts_init, [], []⟩
def d_Lasts_give : He.DefD := ⟨("Lasts", some "give"), "give", "Lasts.give", defArgs s_Lasts_give, defBody s_Lasts_give, defScope s_Lasts_give, [], []⟩
def d_Lasts_need : He.DefD := ⟨("Lasts", some "need"), "need", "Lasts.need", defArgs s_Lasts_need, defBody s_Lasts_need, defScope s_Lasts_need, [], []⟩
def d_Lasts_move : He.DefD := ⟨("Lasts", some "move"), "move", "Lasts.move", defArgs s_Lasts_move, defBody s_Lasts_move, defScope s_Lasts_move, [], []⟩
def d_Lasts_say : He.DefD := ⟨("Lasts", some "say"), "say", "Lasts.say", defArgs s_Lasts_say, defBody s_Lasts_say, defScope s_Lasts_say, [], []⟩
def d_Lasts_pending : He.DefD := ⟨("Lasts", some "pending"), "pending", "Lasts.pending", defArgs s_Lasts_pending, defBody s_Lasts_pending, defScope s_Lasts_pending, [], []⟩
def d_Lasts_said : He.DefD := ⟨("Lasts", some "said"), "said", "Lasts.said", defArgs s_Lasts_said, defBody s_Lasts_said, defScope s_Lasts_said, [], []⟩
def d_Weak_init : He.DefD := ⟨("Weak", some "__init__"), "__init__", "Weak.__init__", defArgs s_Weak_init, defBody s_Weak_init, defScope s_Weak_init, [], []⟩
def d_Weak_name : He.DefD := ⟨("Weak", some "name"), "name", "Weak.name", defArgs s_Weak_name, defBody s_Weak_name, defScope s_Weak_name, [], []⟩
def d_Weak_need : He.DefD := ⟨("Weak", some "need"), "need", "Weak.need", defArgs s_Weak_need, defBody s_Weak_need, defScope s_Weak_need, [], []⟩
def d_Weak_at : He.DefD := ⟨("Weak", some "at"), "at", "Weak.at", defArgs s_Weak_at, defBody s_Weak_at, defScope s_Weak_at, [], []⟩
def d_Weak_need_there : He.DefD := ⟨("Weak", some "need_there"), "need_there", "Weak.need_there", defArgs s_Weak_need_there, defBody s_Weak_need_there, defScope s_Weak_need_there, [], []⟩
def d_Weak_move : He.DefD := ⟨("Weak", some "move"), "move", "Weak.move", defArgs s_Weak_move, defBody s_Weak_move, defScope s_Weak_move, [], []⟩
def d_Weak_gone : He.DefD := ⟨("Weak", some "gone"), "gone", "Weak.gone", defArgs s_Weak_gone, defBody s_Weak_gone, defScope s_Weak_gone, [], []⟩
def d_Weak_names : He.DefD := ⟨("Weak", some "names"), "names", "Weak.names", defArgs s_Weak_names, defBody s_Weak_names, defScope s_Weak_names, [], []⟩
def d_Roots_init : He.DefD := ⟨("Roots", some "__init__"), "__init__", "Roots.__init__", defArgs s_Roots_init, defBody s_Roots_init, defScope s_Roots_init, [], []⟩
def d_Roots_starts : He.DefD := ⟨("Roots", some "starts"), "starts", "Roots.starts", defArgs s_Roots_starts, defBody s_Roots_starts, defScope s_Roots_starts, [], []⟩
def d_law_cell_at : He.DefD := ⟨("_law_cell_at", none), "_law_cell_at", "_law_cell_at", defArgs s_law_cell_at, defBody s_law_cell_at, defScope s_law_cell_at, [], []⟩
def d_law_next : He.DefD := ⟨("_law_next", none), "_law_next", "_law_next", defArgs s_law_next, defBody s_law_next, defScope s_law_next, [], []⟩
def d_law_lay : He.DefD := ⟨("_law_lay", none), "_law_lay", "_law_lay", defArgs s_law_lay, defBody s_law_lay, defScope s_law_lay, [], []⟩
def d_law_laid : He.DefD := ⟨("_law_laid", none), "_law_laid", "_law_laid", defArgs s_law_laid, defBody s_law_laid, defScope s_law_laid, [], []⟩
def d_law_word : He.DefD := ⟨("_law_word", none), "_law_word", "_law_word", defArgs s_law_word, defBody s_law_word, defScope s_law_word, [], []⟩
def d_law_write : He.DefD := ⟨("_law_write", none), "_law_write", "_law_write", defArgs s_law_write, defBody s_law_write, defScope s_law_write, [], []⟩
def d_law_filled : He.DefD := ⟨("_law_filled", none), "_law_filled", "_law_filled", defArgs s_law_filled, defBody s_law_filled, defScope s_law_filled, [], []⟩
def d_law_tabled : He.DefD := ⟨("_law_tabled", none), "_law_tabled", "_law_tabled", defArgs s_law_tabled, defBody s_law_tabled, defScope s_law_tabled, [], []⟩
def d_law_reached : He.DefD := ⟨("_law_reached", none), "_law_reached", "_law_reached", defArgs s_law_reached, defBody s_law_reached, defScope s_law_reached, [], []⟩
def d_law_turned : He.DefD := ⟨("_law_turned", none), "_law_turned", "_law_turned", defArgs s_law_turned, defBody s_law_turned, defScope s_law_turned, [], []⟩
def d_law_moved : He.DefD := ⟨("_law_moved", none), "_law_moved", "_law_moved", defArgs s_law_moved, defBody s_law_moved, defScope s_law_moved, [], []⟩
def d_law_stands : He.DefD := ⟨("_law_stands", none), "_law_stands", "_law_stands", defArgs s_law_stands, defBody s_law_stands, defScope s_law_stands, [], []⟩
def d_law_collected : He.DefD := ⟨("_law_collected", none), "_law_collected", "_law_collected", defArgs s_law_collected, defBody s_law_collected, defScope s_law_collected, [], []⟩
def d_law_changed : He.DefD := ⟨("_law_changed", none), "_law_changed", "_law_changed", defArgs s_law_changed, defBody s_law_changed, defScope s_law_changed, [], []⟩
def d_law : He.DefD := ⟨("law", none), "law", "law", defArgs s_law, defBody s_law, defScope s_law, [], []⟩
def fn : List He.DefD := [d_is_whole, d_number_word, d_place_word, d_kind, d_worth, d_need_slots, d_lay, d_head_of, d_slots_of, d_words_of, d_aged, d_slot_place, d_children, d_reached, d_goals, d_turned, d_turn_slots, d_turn_roots, d_collect_all, d_Memory_init, d_Memory_need, d_Memory_read, d_Memory_write, d_Memory_need_stretch, d_Memory_copy, d_Space_init, d_Space_room, d_Space_used, d_Space_has, d_Space_take, d_Space_empty, d_Space_cut, d_Space_cells, d_Areas_init, d_Areas_flip, d_Areas_area_of, d_Areas_lay_young, d_Areas_lay_old, d_Book_init, d_Book_write, d_Book_rub, d_Book_has, d_Book_places, d_Book_clear, d_Hands_init, d_Hands_need, d_Hands_get, d_Hands_put, d_Hands_row, d_Lasts_init, d_Lasts_give, d_Lasts_need, d_Lasts_move, d_Lasts_say, d_Lasts_pending, d_Lasts_said, d_Weak_init, d_Weak_name, d_Weak_need, d_Weak_at, d_Weak_need_there, d_Weak_move, d_Weak_gone, d_Weak_names, d_Roots_init, d_Roots_starts, d_law_cell_at, d_law_next, d_law_lay, d_law_laid, d_law_word, d_law_write, d_law_filled, d_law_tabled, d_law_reached, d_law_turned, d_law_moved, d_law_stands, d_law_collected, d_law_changed, d_law]
def fa : List He.Fa := [.glo "is_whole", .glo "number_word", .glo "place_word", .glo "kind", .glo "worth", .glo "need_slots", .glo "lay", .glo "head_of", .glo "slots_of", .glo "words_of", .glo "aged", .glo "slot_place", .glo "children", .glo "reached", .glo "goals", .glo "turned", .glo "turn_slots", .glo "turn_roots", .glo "collect_all", .mkr "Memory", .meth "Memory" "need", .meth "Memory" "read", .meth "Memory" "write", .meth "Memory" "need_stretch", .meth "Memory" "copy", .mkr "Space", .meth "Space" "room", .meth "Space" "used", .meth "Space" "has", .meth "Space" "take", .meth "Space" "empty", .meth "Space" "cut", .meth "Space" "cells", .mkr "Areas", .meth "Areas" "flip", .meth "Areas" "area_of", .meth "Areas" "lay_young", .meth "Areas" "lay_old", .mkr "Book", .meth "Book" "write", .meth "Book" "rub", .meth "Book" "has", .meth "Book" "places", .meth "Book" "clear", .mkr "Hands", .meth "Hands" "need", .meth "Hands" "get", .meth "Hands" "put", .meth "Hands" "row", .mkr "Lasts", .meth "Lasts" "give", .meth "Lasts" "need", .meth "Lasts" "move", .meth "Lasts" "say", .meth "Lasts" "pending", .meth "Lasts" "said", .mkr "Weak", .meth "Weak" "name", .meth "Weak" "need", .meth "Weak" "at", .meth "Weak" "need_there", .meth "Weak" "move", .meth "Weak" "gone", .meth "Weak" "names", .mkr "Roots", .meth "Roots" "starts", .glo "_law_cell_at", .glo "_law_next", .glo "_law_lay", .glo "_law_laid", .glo "_law_word", .glo "_law_write", .glo "_law_filled", .glo "_law_tabled", .glo "_law_reached", .glo "_law_turned", .glo "_law_moved", .glo "_law_stands", .glo "_law_collected", .glo "_law_changed", .glo "law", .glo "Memory", .cls "Memory", .noat "Memory" "size", .noat "Memory" "words", .glo "Space", .cls "Space", .noat "Space" "begin", .noat "Space" "end", .noat "Space" "top", .glo "Areas", .cls "Areas", .noat "Areas" "memory", .noat "Areas" "old", .noat "Areas" "young", .noat "Areas" "spare", .glo "Book", .cls "Book", .noat "Book" "marks", .glo "Hands", .cls "Hands", .noat "Hands" "kept", .glo "Lasts", .cls "Lasts", .noat "Lasts" "waiting", .noat "Lasts" "spoken", .glo "Weak", .cls "Weak", .noat "Weak" "told", .glo "Roots", .cls "Roots", .noat "Roots" "hands", .noat "Roots" "book", .noat "Roots" "weaks", .noat "Roots" "lasts", .int "MOST_NUMBER" (1000000000000), .int "MOST_PLACE" (9999), .int "NOTHING" (-1), .int "MOST_SLOTS" (8), .int "MOST_AGE" (2), .int "MOST_SIZE" (4000), .int "LEAST_OLD" (4), .int "MOST_OLD" (2000), .int "LEAST_YOUNG" (2), .int "MOST_YOUNG" (500), .int "MOST_HANDS" (6), .free "abs", .free "bool", .free "enumerate", .free "int", .free "isinstance", .free "len", .free "list", .free "range", .free "sorted"]
/-- what all defs lean on: the facts that the top leaves -/
structure Tx (K : PySem.W.Frag) (mg : Str → Option Value) : Prop where
  ex : ∃ h : Heap, K.In h ∧ h.Ns mainGlobals mg
  c : He.SaysD fa fn K
section
variable {K : PySem.W.Frag} {mg : Str → Option Value}
theorem Tx.g_is_whole (T : Tx K mg) : mg "is_whole" = some (.ref (He.ga K "is_whole")) := by
  obtain ⟨⟨h, X, G⟩, c⟩ := T
  exact He.glo_ok X G (c.fact 0 (f := .glo "is_whole") rfl)
theorem Tx.g_number_word (T : Tx K mg) : mg "number_word" = some (.ref (He.ga K "number_word")) := by
  obtain ⟨⟨h, X, G⟩, c⟩ := T
  exact He.glo_ok X G (c.fact 1 (f := .glo "number_word") rfl)
theorem Tx.g_place_word (T : Tx K mg) : mg "place_word" = some (.ref (He.ga K "place_word")) := by
  obtain ⟨⟨h, X, G⟩, c⟩ := T
  exact He.glo_ok X G (c.fact 2 (f := .glo "place_word") rfl)
theorem Tx.g_kind (T : Tx K mg) : mg "kind" = some (.ref (He.ga K "kind")) := by
  obtain ⟨⟨h, X, G⟩, c⟩ := T
  exact He.glo_ok X G (c.fact 3 (f := .glo "kind") rfl)
theorem Tx.g_worth (T : Tx K mg) : mg "worth" = some (.ref (He.ga K "worth")) := by
  obtain ⟨⟨h, X, G⟩, c⟩ := T
  exact He.glo_ok X G (c.fact 4 (f := .glo "worth") rfl)
theorem Tx.g_need_slots (T : Tx K mg) : mg "need_slots" = some (.ref (He.ga K "need_slots")) := by
  obtain ⟨⟨h, X, G⟩, c⟩ := T
  exact He.glo_ok X G (c.fact 5 (f := .glo "need_slots") rfl)
theorem Tx.g_lay (T : Tx K mg) : mg "lay" = some (.ref (He.ga K "lay")) := by
  obtain ⟨⟨h, X, G⟩, c⟩ := T
  exact He.glo_ok X G (c.fact 6 (f := .glo "lay") rfl)
theorem Tx.g_head_of (T : Tx K mg) : mg "head_of" = some (.ref (He.ga K "head_of")) := by
  obtain ⟨⟨h, X, G⟩, c⟩ := T
  exact He.glo_ok X G (c.fact 7 (f := .glo "head_of") rfl)
theorem Tx.g_slots_of (T : Tx K mg) : mg "slots_of" = some (.ref (He.ga K "slots_of")) := by
  obtain ⟨⟨h, X, G⟩, c⟩ := T
  exact He.glo_ok X G (c.fact 8 (f := .glo "slots_of") rfl)
theorem Tx.g_words_of (T : Tx K mg) : mg "words_of" = some (.ref (He.ga K "words_of")) := by
  obtain ⟨⟨h, X, G⟩, c⟩ := T
  exact He.glo_ok X G (c.fact 9 (f := .glo "words_of") rfl)
theorem Tx.g_aged (T : Tx K mg) : mg "aged" = some (.ref (He.ga K "aged")) := by
  obtain ⟨⟨h, X, G⟩, c⟩ := T
  exact He.glo_ok X G (c.fact 10 (f := .glo "aged") rfl)
theorem Tx.g_slot_place (T : Tx K mg) : mg "slot_place" = some (.ref (He.ga K "slot_place")) := by
  obtain ⟨⟨h, X, G⟩, c⟩ := T
  exact He.glo_ok X G (c.fact 11 (f := .glo "slot_place") rfl)
theorem Tx.g_children (T : Tx K mg) : mg "children" = some (.ref (He.ga K "children")) := by
  obtain ⟨⟨h, X, G⟩, c⟩ := T
  exact He.glo_ok X G (c.fact 12 (f := .glo "children") rfl)
theorem Tx.g_reached (T : Tx K mg) : mg "reached" = some (.ref (He.ga K "reached")) := by
  obtain ⟨⟨h, X, G⟩, c⟩ := T
  exact He.glo_ok X G (c.fact 13 (f := .glo "reached") rfl)
theorem Tx.g_goals (T : Tx K mg) : mg "goals" = some (.ref (He.ga K "goals")) := by
  obtain ⟨⟨h, X, G⟩, c⟩ := T
  exact He.glo_ok X G (c.fact 14 (f := .glo "goals") rfl)
theorem Tx.g_turned (T : Tx K mg) : mg "turned" = some (.ref (He.ga K "turned")) := by
  obtain ⟨⟨h, X, G⟩, c⟩ := T
  exact He.glo_ok X G (c.fact 15 (f := .glo "turned") rfl)
theorem Tx.g_turn_slots (T : Tx K mg) : mg "turn_slots" = some (.ref (He.ga K "turn_slots")) := by
  obtain ⟨⟨h, X, G⟩, c⟩ := T
  exact He.glo_ok X G (c.fact 16 (f := .glo "turn_slots") rfl)
theorem Tx.g_turn_roots (T : Tx K mg) : mg "turn_roots" = some (.ref (He.ga K "turn_roots")) := by
  obtain ⟨⟨h, X, G⟩, c⟩ := T
  exact He.glo_ok X G (c.fact 17 (f := .glo "turn_roots") rfl)
theorem Tx.g_collect_all (T : Tx K mg) : mg "collect_all" = some (.ref (He.ga K "collect_all")) := by
  obtain ⟨⟨h, X, G⟩, c⟩ := T
  exact He.glo_ok X G (c.fact 18 (f := .glo "collect_all") rfl)
theorem Tx.mk_Memory (T : Tx K mg) : Mk K (He.ga K "Memory") (He.ma K (He.ga K "Memory") "__init__") := by
  obtain ⟨⟨h, X, G⟩, c⟩ := T
  exact He.mkr_ok (c.fact 19 (f := .mkr "Memory") rfl)
theorem Tx.m_Memory_need (T : Tx K mg) : Meth K (He.ga K "Memory") "need" (He.ma K (He.ga K "Memory") "need") := by
  obtain ⟨⟨h, X, G⟩, c⟩ := T
  exact He.meth_ok (c.fact 20 (f := .meth "Memory" "need") rfl)
theorem Tx.m_Memory_read (T : Tx K mg) : Meth K (He.ga K "Memory") "read" (He.ma K (He.ga K "Memory") "read") := by
  obtain ⟨⟨h, X, G⟩, c⟩ := T
  exact He.meth_ok (c.fact 21 (f := .meth "Memory" "read") rfl)
theorem Tx.m_Memory_write (T : Tx K mg) : Meth K (He.ga K "Memory") "write" (He.ma K (He.ga K "Memory") "write") := by
  obtain ⟨⟨h, X, G⟩, c⟩ := T
  exact He.meth_ok (c.fact 22 (f := .meth "Memory" "write") rfl)
theorem Tx.m_Memory_need_stretch (T : Tx K mg) : Meth K (He.ga K "Memory") "need_stretch" (He.ma K (He.ga K "Memory") "need_stretch") := by
  obtain ⟨⟨h, X, G⟩, c⟩ := T
  exact He.meth_ok (c.fact 23 (f := .meth "Memory" "need_stretch") rfl)
theorem Tx.m_Memory_copy (T : Tx K mg) : Meth K (He.ga K "Memory") "copy" (He.ma K (He.ga K "Memory") "copy") := by
  obtain ⟨⟨h, X, G⟩, c⟩ := T
  exact He.meth_ok (c.fact 24 (f := .meth "Memory" "copy") rfl)
theorem Tx.mk_Space (T : Tx K mg) : Mk K (He.ga K "Space") (He.ma K (He.ga K "Space") "__init__") := by
  obtain ⟨⟨h, X, G⟩, c⟩ := T
  exact He.mkr_ok (c.fact 25 (f := .mkr "Space") rfl)
theorem Tx.m_Space_room (T : Tx K mg) : Meth K (He.ga K "Space") "room" (He.ma K (He.ga K "Space") "room") := by
  obtain ⟨⟨h, X, G⟩, c⟩ := T
  exact He.meth_ok (c.fact 26 (f := .meth "Space" "room") rfl)
theorem Tx.m_Space_used (T : Tx K mg) : Meth K (He.ga K "Space") "used" (He.ma K (He.ga K "Space") "used") := by
  obtain ⟨⟨h, X, G⟩, c⟩ := T
  exact He.meth_ok (c.fact 27 (f := .meth "Space" "used") rfl)
theorem Tx.m_Space_has (T : Tx K mg) : Meth K (He.ga K "Space") "has" (He.ma K (He.ga K "Space") "has") := by
  obtain ⟨⟨h, X, G⟩, c⟩ := T
  exact He.meth_ok (c.fact 28 (f := .meth "Space" "has") rfl)
theorem Tx.m_Space_take (T : Tx K mg) : Meth K (He.ga K "Space") "take" (He.ma K (He.ga K "Space") "take") := by
  obtain ⟨⟨h, X, G⟩, c⟩ := T
  exact He.meth_ok (c.fact 29 (f := .meth "Space" "take") rfl)
theorem Tx.m_Space_empty (T : Tx K mg) : Meth K (He.ga K "Space") "empty" (He.ma K (He.ga K "Space") "empty") := by
  obtain ⟨⟨h, X, G⟩, c⟩ := T
  exact He.meth_ok (c.fact 30 (f := .meth "Space" "empty") rfl)
theorem Tx.m_Space_cut (T : Tx K mg) : Meth K (He.ga K "Space") "cut" (He.ma K (He.ga K "Space") "cut") := by
  obtain ⟨⟨h, X, G⟩, c⟩ := T
  exact He.meth_ok (c.fact 31 (f := .meth "Space" "cut") rfl)
theorem Tx.m_Space_cells (T : Tx K mg) : Meth K (He.ga K "Space") "cells" (He.ma K (He.ga K "Space") "cells") := by
  obtain ⟨⟨h, X, G⟩, c⟩ := T
  exact He.meth_ok (c.fact 32 (f := .meth "Space" "cells") rfl)
theorem Tx.mk_Areas (T : Tx K mg) : Mk K (He.ga K "Areas") (He.ma K (He.ga K "Areas") "__init__") := by
  obtain ⟨⟨h, X, G⟩, c⟩ := T
  exact He.mkr_ok (c.fact 33 (f := .mkr "Areas") rfl)
theorem Tx.m_Areas_flip (T : Tx K mg) : Meth K (He.ga K "Areas") "flip" (He.ma K (He.ga K "Areas") "flip") := by
  obtain ⟨⟨h, X, G⟩, c⟩ := T
  exact He.meth_ok (c.fact 34 (f := .meth "Areas" "flip") rfl)
theorem Tx.m_Areas_area_of (T : Tx K mg) : Meth K (He.ga K "Areas") "area_of" (He.ma K (He.ga K "Areas") "area_of") := by
  obtain ⟨⟨h, X, G⟩, c⟩ := T
  exact He.meth_ok (c.fact 35 (f := .meth "Areas" "area_of") rfl)
theorem Tx.m_Areas_lay_young (T : Tx K mg) : Meth K (He.ga K "Areas") "lay_young" (He.ma K (He.ga K "Areas") "lay_young") := by
  obtain ⟨⟨h, X, G⟩, c⟩ := T
  exact He.meth_ok (c.fact 36 (f := .meth "Areas" "lay_young") rfl)
theorem Tx.m_Areas_lay_old (T : Tx K mg) : Meth K (He.ga K "Areas") "lay_old" (He.ma K (He.ga K "Areas") "lay_old") := by
  obtain ⟨⟨h, X, G⟩, c⟩ := T
  exact He.meth_ok (c.fact 37 (f := .meth "Areas" "lay_old") rfl)
theorem Tx.mk_Book (T : Tx K mg) : Mk K (He.ga K "Book") (He.ma K (He.ga K "Book") "__init__") := by
  obtain ⟨⟨h, X, G⟩, c⟩ := T
  exact He.mkr_ok (c.fact 38 (f := .mkr "Book") rfl)
theorem Tx.m_Book_write (T : Tx K mg) : Meth K (He.ga K "Book") "write" (He.ma K (He.ga K "Book") "write") := by
  obtain ⟨⟨h, X, G⟩, c⟩ := T
  exact He.meth_ok (c.fact 39 (f := .meth "Book" "write") rfl)
theorem Tx.m_Book_rub (T : Tx K mg) : Meth K (He.ga K "Book") "rub" (He.ma K (He.ga K "Book") "rub") := by
  obtain ⟨⟨h, X, G⟩, c⟩ := T
  exact He.meth_ok (c.fact 40 (f := .meth "Book" "rub") rfl)
theorem Tx.m_Book_has (T : Tx K mg) : Meth K (He.ga K "Book") "has" (He.ma K (He.ga K "Book") "has") := by
  obtain ⟨⟨h, X, G⟩, c⟩ := T
  exact He.meth_ok (c.fact 41 (f := .meth "Book" "has") rfl)
theorem Tx.m_Book_places (T : Tx K mg) : Meth K (He.ga K "Book") "places" (He.ma K (He.ga K "Book") "places") := by
  obtain ⟨⟨h, X, G⟩, c⟩ := T
  exact He.meth_ok (c.fact 42 (f := .meth "Book" "places") rfl)
theorem Tx.m_Book_clear (T : Tx K mg) : Meth K (He.ga K "Book") "clear" (He.ma K (He.ga K "Book") "clear") := by
  obtain ⟨⟨h, X, G⟩, c⟩ := T
  exact He.meth_ok (c.fact 43 (f := .meth "Book" "clear") rfl)
theorem Tx.mk_Hands (T : Tx K mg) : Mk K (He.ga K "Hands") (He.ma K (He.ga K "Hands") "__init__") := by
  obtain ⟨⟨h, X, G⟩, c⟩ := T
  exact He.mkr_ok (c.fact 44 (f := .mkr "Hands") rfl)
theorem Tx.m_Hands_need (T : Tx K mg) : Meth K (He.ga K "Hands") "need" (He.ma K (He.ga K "Hands") "need") := by
  obtain ⟨⟨h, X, G⟩, c⟩ := T
  exact He.meth_ok (c.fact 45 (f := .meth "Hands" "need") rfl)
theorem Tx.m_Hands_get (T : Tx K mg) : Meth K (He.ga K "Hands") "get" (He.ma K (He.ga K "Hands") "get") := by
  obtain ⟨⟨h, X, G⟩, c⟩ := T
  exact He.meth_ok (c.fact 46 (f := .meth "Hands" "get") rfl)
theorem Tx.m_Hands_put (T : Tx K mg) : Meth K (He.ga K "Hands") "put" (He.ma K (He.ga K "Hands") "put") := by
  obtain ⟨⟨h, X, G⟩, c⟩ := T
  exact He.meth_ok (c.fact 47 (f := .meth "Hands" "put") rfl)
theorem Tx.m_Hands_row (T : Tx K mg) : Meth K (He.ga K "Hands") "row" (He.ma K (He.ga K "Hands") "row") := by
  obtain ⟨⟨h, X, G⟩, c⟩ := T
  exact He.meth_ok (c.fact 48 (f := .meth "Hands" "row") rfl)
theorem Tx.mk_Lasts (T : Tx K mg) : Mk K (He.ga K "Lasts") (He.ma K (He.ga K "Lasts") "__init__") := by
  obtain ⟨⟨h, X, G⟩, c⟩ := T
  exact He.mkr_ok (c.fact 49 (f := .mkr "Lasts") rfl)
theorem Tx.m_Lasts_give (T : Tx K mg) : Meth K (He.ga K "Lasts") "give" (He.ma K (He.ga K "Lasts") "give") := by
  obtain ⟨⟨h, X, G⟩, c⟩ := T
  exact He.meth_ok (c.fact 50 (f := .meth "Lasts" "give") rfl)
theorem Tx.m_Lasts_need (T : Tx K mg) : Meth K (He.ga K "Lasts") "need" (He.ma K (He.ga K "Lasts") "need") := by
  obtain ⟨⟨h, X, G⟩, c⟩ := T
  exact He.meth_ok (c.fact 51 (f := .meth "Lasts" "need") rfl)
theorem Tx.m_Lasts_move (T : Tx K mg) : Meth K (He.ga K "Lasts") "move" (He.ma K (He.ga K "Lasts") "move") := by
  obtain ⟨⟨h, X, G⟩, c⟩ := T
  exact He.meth_ok (c.fact 52 (f := .meth "Lasts" "move") rfl)
theorem Tx.m_Lasts_say (T : Tx K mg) : Meth K (He.ga K "Lasts") "say" (He.ma K (He.ga K "Lasts") "say") := by
  obtain ⟨⟨h, X, G⟩, c⟩ := T
  exact He.meth_ok (c.fact 53 (f := .meth "Lasts" "say") rfl)
theorem Tx.m_Lasts_pending (T : Tx K mg) : Meth K (He.ga K "Lasts") "pending" (He.ma K (He.ga K "Lasts") "pending") := by
  obtain ⟨⟨h, X, G⟩, c⟩ := T
  exact He.meth_ok (c.fact 54 (f := .meth "Lasts" "pending") rfl)
theorem Tx.m_Lasts_said (T : Tx K mg) : Meth K (He.ga K "Lasts") "said" (He.ma K (He.ga K "Lasts") "said") := by
  obtain ⟨⟨h, X, G⟩, c⟩ := T
  exact He.meth_ok (c.fact 55 (f := .meth "Lasts" "said") rfl)
theorem Tx.mk_Weak (T : Tx K mg) : Mk K (He.ga K "Weak") (He.ma K (He.ga K "Weak") "__init__") := by
  obtain ⟨⟨h, X, G⟩, c⟩ := T
  exact He.mkr_ok (c.fact 56 (f := .mkr "Weak") rfl)
theorem Tx.m_Weak_name (T : Tx K mg) : Meth K (He.ga K "Weak") "name" (He.ma K (He.ga K "Weak") "name") := by
  obtain ⟨⟨h, X, G⟩, c⟩ := T
  exact He.meth_ok (c.fact 57 (f := .meth "Weak" "name") rfl)
theorem Tx.m_Weak_need (T : Tx K mg) : Meth K (He.ga K "Weak") "need" (He.ma K (He.ga K "Weak") "need") := by
  obtain ⟨⟨h, X, G⟩, c⟩ := T
  exact He.meth_ok (c.fact 58 (f := .meth "Weak" "need") rfl)
theorem Tx.m_Weak_at (T : Tx K mg) : Meth K (He.ga K "Weak") "at" (He.ma K (He.ga K "Weak") "at") := by
  obtain ⟨⟨h, X, G⟩, c⟩ := T
  exact He.meth_ok (c.fact 59 (f := .meth "Weak" "at") rfl)
theorem Tx.m_Weak_need_there (T : Tx K mg) : Meth K (He.ga K "Weak") "need_there" (He.ma K (He.ga K "Weak") "need_there") := by
  obtain ⟨⟨h, X, G⟩, c⟩ := T
  exact He.meth_ok (c.fact 60 (f := .meth "Weak" "need_there") rfl)
theorem Tx.m_Weak_move (T : Tx K mg) : Meth K (He.ga K "Weak") "move" (He.ma K (He.ga K "Weak") "move") := by
  obtain ⟨⟨h, X, G⟩, c⟩ := T
  exact He.meth_ok (c.fact 61 (f := .meth "Weak" "move") rfl)
theorem Tx.m_Weak_gone (T : Tx K mg) : Meth K (He.ga K "Weak") "gone" (He.ma K (He.ga K "Weak") "gone") := by
  obtain ⟨⟨h, X, G⟩, c⟩ := T
  exact He.meth_ok (c.fact 62 (f := .meth "Weak" "gone") rfl)
theorem Tx.m_Weak_names (T : Tx K mg) : Meth K (He.ga K "Weak") "names" (He.ma K (He.ga K "Weak") "names") := by
  obtain ⟨⟨h, X, G⟩, c⟩ := T
  exact He.meth_ok (c.fact 63 (f := .meth "Weak" "names") rfl)
theorem Tx.mk_Roots (T : Tx K mg) : Mk K (He.ga K "Roots") (He.ma K (He.ga K "Roots") "__init__") := by
  obtain ⟨⟨h, X, G⟩, c⟩ := T
  exact He.mkr_ok (c.fact 64 (f := .mkr "Roots") rfl)
theorem Tx.m_Roots_starts (T : Tx K mg) : Meth K (He.ga K "Roots") "starts" (He.ma K (He.ga K "Roots") "starts") := by
  obtain ⟨⟨h, X, G⟩, c⟩ := T
  exact He.meth_ok (c.fact 65 (f := .meth "Roots" "starts") rfl)
theorem Tx.g_law_cell_at (T : Tx K mg) : mg "_law_cell_at" = some (.ref (He.ga K "_law_cell_at")) := by
  obtain ⟨⟨h, X, G⟩, c⟩ := T
  exact He.glo_ok X G (c.fact 66 (f := .glo "_law_cell_at") rfl)
theorem Tx.g_law_next (T : Tx K mg) : mg "_law_next" = some (.ref (He.ga K "_law_next")) := by
  obtain ⟨⟨h, X, G⟩, c⟩ := T
  exact He.glo_ok X G (c.fact 67 (f := .glo "_law_next") rfl)
theorem Tx.g_law_lay (T : Tx K mg) : mg "_law_lay" = some (.ref (He.ga K "_law_lay")) := by
  obtain ⟨⟨h, X, G⟩, c⟩ := T
  exact He.glo_ok X G (c.fact 68 (f := .glo "_law_lay") rfl)
theorem Tx.g_law_laid (T : Tx K mg) : mg "_law_laid" = some (.ref (He.ga K "_law_laid")) := by
  obtain ⟨⟨h, X, G⟩, c⟩ := T
  exact He.glo_ok X G (c.fact 69 (f := .glo "_law_laid") rfl)
theorem Tx.g_law_word (T : Tx K mg) : mg "_law_word" = some (.ref (He.ga K "_law_word")) := by
  obtain ⟨⟨h, X, G⟩, c⟩ := T
  exact He.glo_ok X G (c.fact 70 (f := .glo "_law_word") rfl)
theorem Tx.g_law_write (T : Tx K mg) : mg "_law_write" = some (.ref (He.ga K "_law_write")) := by
  obtain ⟨⟨h, X, G⟩, c⟩ := T
  exact He.glo_ok X G (c.fact 71 (f := .glo "_law_write") rfl)
theorem Tx.g_law_filled (T : Tx K mg) : mg "_law_filled" = some (.ref (He.ga K "_law_filled")) := by
  obtain ⟨⟨h, X, G⟩, c⟩ := T
  exact He.glo_ok X G (c.fact 72 (f := .glo "_law_filled") rfl)
theorem Tx.g_law_tabled (T : Tx K mg) : mg "_law_tabled" = some (.ref (He.ga K "_law_tabled")) := by
  obtain ⟨⟨h, X, G⟩, c⟩ := T
  exact He.glo_ok X G (c.fact 73 (f := .glo "_law_tabled") rfl)
theorem Tx.g_law_reached (T : Tx K mg) : mg "_law_reached" = some (.ref (He.ga K "_law_reached")) := by
  obtain ⟨⟨h, X, G⟩, c⟩ := T
  exact He.glo_ok X G (c.fact 74 (f := .glo "_law_reached") rfl)
theorem Tx.g_law_turned (T : Tx K mg) : mg "_law_turned" = some (.ref (He.ga K "_law_turned")) := by
  obtain ⟨⟨h, X, G⟩, c⟩ := T
  exact He.glo_ok X G (c.fact 75 (f := .glo "_law_turned") rfl)
theorem Tx.g_law_moved (T : Tx K mg) : mg "_law_moved" = some (.ref (He.ga K "_law_moved")) := by
  obtain ⟨⟨h, X, G⟩, c⟩ := T
  exact He.glo_ok X G (c.fact 76 (f := .glo "_law_moved") rfl)
theorem Tx.g_law_stands (T : Tx K mg) : mg "_law_stands" = some (.ref (He.ga K "_law_stands")) := by
  obtain ⟨⟨h, X, G⟩, c⟩ := T
  exact He.glo_ok X G (c.fact 77 (f := .glo "_law_stands") rfl)
theorem Tx.g_law_collected (T : Tx K mg) : mg "_law_collected" = some (.ref (He.ga K "_law_collected")) := by
  obtain ⟨⟨h, X, G⟩, c⟩ := T
  exact He.glo_ok X G (c.fact 78 (f := .glo "_law_collected") rfl)
theorem Tx.g_law_changed (T : Tx K mg) : mg "_law_changed" = some (.ref (He.ga K "_law_changed")) := by
  obtain ⟨⟨h, X, G⟩, c⟩ := T
  exact He.glo_ok X G (c.fact 79 (f := .glo "_law_changed") rfl)
theorem Tx.g_law (T : Tx K mg) : mg "law" = some (.ref (He.ga K "law")) := by
  obtain ⟨⟨h, X, G⟩, c⟩ := T
  exact He.glo_ok X G (c.fact 80 (f := .glo "law") rfl)
theorem Tx.g_Memory (T : Tx K mg) : mg "Memory" = some (.ref (He.ga K "Memory")) := by
  obtain ⟨⟨h, X, G⟩, c⟩ := T
  exact He.glo_ok X G (c.fact 81 (f := .glo "Memory") rfl)
theorem Tx.cl_Memory (T : Tx K mg) : Cls K (He.ga K "Memory") := by
  obtain ⟨⟨h, X, G⟩, c⟩ := T
  exact He.cls_ok (c.fact 82 (f := .cls "Memory") rfl)
theorem Tx.na_Memory_size (T : Tx K mg) : NoAttr K (He.ga K "Memory") "size" := by
  obtain ⟨⟨h, X, G⟩, c⟩ := T
  exact He.noat_ok (c.fact 83 (f := .noat "Memory" "size") rfl)
theorem Tx.na_Memory_words (T : Tx K mg) : NoAttr K (He.ga K "Memory") "words" := by
  obtain ⟨⟨h, X, G⟩, c⟩ := T
  exact He.noat_ok (c.fact 84 (f := .noat "Memory" "words") rfl)
theorem Tx.g_Space (T : Tx K mg) : mg "Space" = some (.ref (He.ga K "Space")) := by
  obtain ⟨⟨h, X, G⟩, c⟩ := T
  exact He.glo_ok X G (c.fact 85 (f := .glo "Space") rfl)
theorem Tx.cl_Space (T : Tx K mg) : Cls K (He.ga K "Space") := by
  obtain ⟨⟨h, X, G⟩, c⟩ := T
  exact He.cls_ok (c.fact 86 (f := .cls "Space") rfl)
theorem Tx.na_Space_begin (T : Tx K mg) : NoAttr K (He.ga K "Space") "begin" := by
  obtain ⟨⟨h, X, G⟩, c⟩ := T
  exact He.noat_ok (c.fact 87 (f := .noat "Space" "begin") rfl)
theorem Tx.na_Space_end (T : Tx K mg) : NoAttr K (He.ga K "Space") "end" := by
  obtain ⟨⟨h, X, G⟩, c⟩ := T
  exact He.noat_ok (c.fact 88 (f := .noat "Space" "end") rfl)
theorem Tx.na_Space_top (T : Tx K mg) : NoAttr K (He.ga K "Space") "top" := by
  obtain ⟨⟨h, X, G⟩, c⟩ := T
  exact He.noat_ok (c.fact 89 (f := .noat "Space" "top") rfl)
theorem Tx.g_Areas (T : Tx K mg) : mg "Areas" = some (.ref (He.ga K "Areas")) := by
  obtain ⟨⟨h, X, G⟩, c⟩ := T
  exact He.glo_ok X G (c.fact 90 (f := .glo "Areas") rfl)
theorem Tx.cl_Areas (T : Tx K mg) : Cls K (He.ga K "Areas") := by
  obtain ⟨⟨h, X, G⟩, c⟩ := T
  exact He.cls_ok (c.fact 91 (f := .cls "Areas") rfl)
theorem Tx.na_Areas_memory (T : Tx K mg) : NoAttr K (He.ga K "Areas") "memory" := by
  obtain ⟨⟨h, X, G⟩, c⟩ := T
  exact He.noat_ok (c.fact 92 (f := .noat "Areas" "memory") rfl)
theorem Tx.na_Areas_old (T : Tx K mg) : NoAttr K (He.ga K "Areas") "old" := by
  obtain ⟨⟨h, X, G⟩, c⟩ := T
  exact He.noat_ok (c.fact 93 (f := .noat "Areas" "old") rfl)
theorem Tx.na_Areas_young (T : Tx K mg) : NoAttr K (He.ga K "Areas") "young" := by
  obtain ⟨⟨h, X, G⟩, c⟩ := T
  exact He.noat_ok (c.fact 94 (f := .noat "Areas" "young") rfl)
theorem Tx.na_Areas_spare (T : Tx K mg) : NoAttr K (He.ga K "Areas") "spare" := by
  obtain ⟨⟨h, X, G⟩, c⟩ := T
  exact He.noat_ok (c.fact 95 (f := .noat "Areas" "spare") rfl)
theorem Tx.g_Book (T : Tx K mg) : mg "Book" = some (.ref (He.ga K "Book")) := by
  obtain ⟨⟨h, X, G⟩, c⟩ := T
  exact He.glo_ok X G (c.fact 96 (f := .glo "Book") rfl)
theorem Tx.cl_Book (T : Tx K mg) : Cls K (He.ga K "Book") := by
  obtain ⟨⟨h, X, G⟩, c⟩ := T
  exact He.cls_ok (c.fact 97 (f := .cls "Book") rfl)
theorem Tx.na_Book_marks (T : Tx K mg) : NoAttr K (He.ga K "Book") "marks" := by
  obtain ⟨⟨h, X, G⟩, c⟩ := T
  exact He.noat_ok (c.fact 98 (f := .noat "Book" "marks") rfl)
theorem Tx.g_Hands (T : Tx K mg) : mg "Hands" = some (.ref (He.ga K "Hands")) := by
  obtain ⟨⟨h, X, G⟩, c⟩ := T
  exact He.glo_ok X G (c.fact 99 (f := .glo "Hands") rfl)
theorem Tx.cl_Hands (T : Tx K mg) : Cls K (He.ga K "Hands") := by
  obtain ⟨⟨h, X, G⟩, c⟩ := T
  exact He.cls_ok (c.fact 100 (f := .cls "Hands") rfl)
theorem Tx.na_Hands_kept (T : Tx K mg) : NoAttr K (He.ga K "Hands") "kept" := by
  obtain ⟨⟨h, X, G⟩, c⟩ := T
  exact He.noat_ok (c.fact 101 (f := .noat "Hands" "kept") rfl)
theorem Tx.g_Lasts (T : Tx K mg) : mg "Lasts" = some (.ref (He.ga K "Lasts")) := by
  obtain ⟨⟨h, X, G⟩, c⟩ := T
  exact He.glo_ok X G (c.fact 102 (f := .glo "Lasts") rfl)
theorem Tx.cl_Lasts (T : Tx K mg) : Cls K (He.ga K "Lasts") := by
  obtain ⟨⟨h, X, G⟩, c⟩ := T
  exact He.cls_ok (c.fact 103 (f := .cls "Lasts") rfl)
theorem Tx.na_Lasts_waiting (T : Tx K mg) : NoAttr K (He.ga K "Lasts") "waiting" := by
  obtain ⟨⟨h, X, G⟩, c⟩ := T
  exact He.noat_ok (c.fact 104 (f := .noat "Lasts" "waiting") rfl)
theorem Tx.na_Lasts_spoken (T : Tx K mg) : NoAttr K (He.ga K "Lasts") "spoken" := by
  obtain ⟨⟨h, X, G⟩, c⟩ := T
  exact He.noat_ok (c.fact 105 (f := .noat "Lasts" "spoken") rfl)
theorem Tx.g_Weak (T : Tx K mg) : mg "Weak" = some (.ref (He.ga K "Weak")) := by
  obtain ⟨⟨h, X, G⟩, c⟩ := T
  exact He.glo_ok X G (c.fact 106 (f := .glo "Weak") rfl)
theorem Tx.cl_Weak (T : Tx K mg) : Cls K (He.ga K "Weak") := by
  obtain ⟨⟨h, X, G⟩, c⟩ := T
  exact He.cls_ok (c.fact 107 (f := .cls "Weak") rfl)
theorem Tx.na_Weak_told (T : Tx K mg) : NoAttr K (He.ga K "Weak") "told" := by
  obtain ⟨⟨h, X, G⟩, c⟩ := T
  exact He.noat_ok (c.fact 108 (f := .noat "Weak" "told") rfl)
theorem Tx.g_Roots (T : Tx K mg) : mg "Roots" = some (.ref (He.ga K "Roots")) := by
  obtain ⟨⟨h, X, G⟩, c⟩ := T
  exact He.glo_ok X G (c.fact 109 (f := .glo "Roots") rfl)
theorem Tx.cl_Roots (T : Tx K mg) : Cls K (He.ga K "Roots") := by
  obtain ⟨⟨h, X, G⟩, c⟩ := T
  exact He.cls_ok (c.fact 110 (f := .cls "Roots") rfl)
theorem Tx.na_Roots_hands (T : Tx K mg) : NoAttr K (He.ga K "Roots") "hands" := by
  obtain ⟨⟨h, X, G⟩, c⟩ := T
  exact He.noat_ok (c.fact 111 (f := .noat "Roots" "hands") rfl)
theorem Tx.na_Roots_book (T : Tx K mg) : NoAttr K (He.ga K "Roots") "book" := by
  obtain ⟨⟨h, X, G⟩, c⟩ := T
  exact He.noat_ok (c.fact 112 (f := .noat "Roots" "book") rfl)
theorem Tx.na_Roots_weaks (T : Tx K mg) : NoAttr K (He.ga K "Roots") "weaks" := by
  obtain ⟨⟨h, X, G⟩, c⟩ := T
  exact He.noat_ok (c.fact 113 (f := .noat "Roots" "weaks") rfl)
theorem Tx.na_Roots_lasts (T : Tx K mg) : NoAttr K (He.ga K "Roots") "lasts" := by
  obtain ⟨⟨h, X, G⟩, c⟩ := T
  exact He.noat_ok (c.fact 114 (f := .noat "Roots" "lasts") rfl)
theorem Tx.i_MOST_NUMBER (T : Tx K mg) : ∃ t, mg "MOST_NUMBER" = some (.int (1000000000000) t) := by
  obtain ⟨⟨h, X, G⟩, c⟩ := T
  exact He.int_ok X G (c.fact 115 (f := .int "MOST_NUMBER" (1000000000000)) rfl)
theorem Tx.i_MOST_PLACE (T : Tx K mg) : ∃ t, mg "MOST_PLACE" = some (.int (9999) t) := by
  obtain ⟨⟨h, X, G⟩, c⟩ := T
  exact He.int_ok X G (c.fact 116 (f := .int "MOST_PLACE" (9999)) rfl)
theorem Tx.i_NOTHING (T : Tx K mg) : ∃ t, mg "NOTHING" = some (.int (-1) t) := by
  obtain ⟨⟨h, X, G⟩, c⟩ := T
  exact He.int_ok X G (c.fact 117 (f := .int "NOTHING" (-1)) rfl)
theorem Tx.i_MOST_SLOTS (T : Tx K mg) : ∃ t, mg "MOST_SLOTS" = some (.int (8) t) := by
  obtain ⟨⟨h, X, G⟩, c⟩ := T
  exact He.int_ok X G (c.fact 118 (f := .int "MOST_SLOTS" (8)) rfl)
theorem Tx.i_MOST_AGE (T : Tx K mg) : ∃ t, mg "MOST_AGE" = some (.int (2) t) := by
  obtain ⟨⟨h, X, G⟩, c⟩ := T
  exact He.int_ok X G (c.fact 119 (f := .int "MOST_AGE" (2)) rfl)
theorem Tx.i_MOST_SIZE (T : Tx K mg) : ∃ t, mg "MOST_SIZE" = some (.int (4000) t) := by
  obtain ⟨⟨h, X, G⟩, c⟩ := T
  exact He.int_ok X G (c.fact 120 (f := .int "MOST_SIZE" (4000)) rfl)
theorem Tx.i_LEAST_OLD (T : Tx K mg) : ∃ t, mg "LEAST_OLD" = some (.int (4) t) := by
  obtain ⟨⟨h, X, G⟩, c⟩ := T
  exact He.int_ok X G (c.fact 121 (f := .int "LEAST_OLD" (4)) rfl)
theorem Tx.i_MOST_OLD (T : Tx K mg) : ∃ t, mg "MOST_OLD" = some (.int (2000) t) := by
  obtain ⟨⟨h, X, G⟩, c⟩ := T
  exact He.int_ok X G (c.fact 122 (f := .int "MOST_OLD" (2000)) rfl)
theorem Tx.i_LEAST_YOUNG (T : Tx K mg) : ∃ t, mg "LEAST_YOUNG" = some (.int (2) t) := by
  obtain ⟨⟨h, X, G⟩, c⟩ := T
  exact He.int_ok X G (c.fact 123 (f := .int "LEAST_YOUNG" (2)) rfl)
theorem Tx.i_MOST_YOUNG (T : Tx K mg) : ∃ t, mg "MOST_YOUNG" = some (.int (500) t) := by
  obtain ⟨⟨h, X, G⟩, c⟩ := T
  exact He.int_ok X G (c.fact 124 (f := .int "MOST_YOUNG" (500)) rfl)
theorem Tx.i_MOST_HANDS (T : Tx K mg) : ∃ t, mg "MOST_HANDS" = some (.int (6) t) := by
  obtain ⟨⟨h, X, G⟩, c⟩ := T
  exact He.int_ok X G (c.fact 125 (f := .int "MOST_HANDS" (6)) rfl)
theorem Tx.n_abs (T : Tx K mg) : mg "abs" = none := by
  obtain ⟨⟨h, X, G⟩, c⟩ := T
  exact He.free_ok X G (c.fact 126 (f := .free "abs") rfl)
theorem Tx.n_bool (T : Tx K mg) : mg "bool" = none := by
  obtain ⟨⟨h, X, G⟩, c⟩ := T
  exact He.free_ok X G (c.fact 127 (f := .free "bool") rfl)
theorem Tx.n_enumerate (T : Tx K mg) : mg "enumerate" = none := by
  obtain ⟨⟨h, X, G⟩, c⟩ := T
  exact He.free_ok X G (c.fact 128 (f := .free "enumerate") rfl)
theorem Tx.n_int (T : Tx K mg) : mg "int" = none := by
  obtain ⟨⟨h, X, G⟩, c⟩ := T
  exact He.free_ok X G (c.fact 129 (f := .free "int") rfl)
theorem Tx.n_isinstance (T : Tx K mg) : mg "isinstance" = none := by
  obtain ⟨⟨h, X, G⟩, c⟩ := T
  exact He.free_ok X G (c.fact 130 (f := .free "isinstance") rfl)
theorem Tx.n_len (T : Tx K mg) : mg "len" = none := by
  obtain ⟨⟨h, X, G⟩, c⟩ := T
  exact He.free_ok X G (c.fact 131 (f := .free "len") rfl)
theorem Tx.n_list (T : Tx K mg) : mg "list" = none := by
  obtain ⟨⟨h, X, G⟩, c⟩ := T
  exact He.free_ok X G (c.fact 132 (f := .free "list") rfl)
theorem Tx.n_range (T : Tx K mg) : mg "range" = none := by
  obtain ⟨⟨h, X, G⟩, c⟩ := T
  exact He.free_ok X G (c.fact 133 (f := .free "range") rfl)
theorem Tx.n_sorted (T : Tx K mg) : mg "sorted" = none := by
  obtain ⟨⟨h, X, G⟩, c⟩ := T
  exact He.free_ok X G (c.fact 134 (f := .free "sorted") rfl)
theorem Tx.f_is_whole (T : Tx K mg) : ∃ fd, FunD K "is_whole" "is_whole" (defArgs s_is_whole) (defBody s_is_whole) (defScope s_is_whole) [] [] (He.ga K "is_whole") fd := T.c.def_ 0 (d := d_is_whole) rfl
theorem Tx.f_number_word (T : Tx K mg) : ∃ fd, FunD K "number_word" "number_word" (defArgs s_number_word) (defBody s_number_word) (defScope s_number_word) [] [] (He.ga K "number_word") fd := T.c.def_ 1 (d := d_number_word) rfl
theorem Tx.f_place_word (T : Tx K mg) : ∃ fd, FunD K "place_word" "place_word" (defArgs s_place_word) (defBody s_place_word) (defScope s_place_word) [] [] (He.ga K "place_word") fd := T.c.def_ 2 (d := d_place_word) rfl
theorem Tx.f_kind (T : Tx K mg) : ∃ fd, FunD K "kind" "kind" (defArgs s_kind) (defBody s_kind) (defScope s_kind) [] [] (He.ga K "kind") fd := T.c.def_ 3 (d := d_kind) rfl
theorem Tx.f_worth (T : Tx K mg) : ∃ fd, FunD K "worth" "worth" (defArgs s_worth) (defBody s_worth) (defScope s_worth) [] [] (He.ga K "worth") fd := T.c.def_ 4 (d := d_worth) rfl
theorem Tx.f_need_slots (T : Tx K mg) : ∃ fd, FunD K "need_slots" "need_slots" (defArgs s_need_slots) (defBody s_need_slots) (defScope s_need_slots) [] [] (He.ga K "need_slots") fd := T.c.def_ 5 (d := d_need_slots) rfl
theorem Tx.f_lay (T : Tx K mg) : ∃ fd, FunD K "lay" "lay" (defArgs s_lay) (defBody s_lay) (defScope s_lay) [] [] (He.ga K "lay") fd := T.c.def_ 6 (d := d_lay) rfl
theorem Tx.f_head_of (T : Tx K mg) : ∃ fd, FunD K "head_of" "head_of" (defArgs s_head_of) (defBody s_head_of) (defScope s_head_of) [] [] (He.ga K "head_of") fd := T.c.def_ 7 (d := d_head_of) rfl
theorem Tx.f_slots_of (T : Tx K mg) : ∃ fd, FunD K "slots_of" "slots_of" (defArgs s_slots_of) (defBody s_slots_of) (defScope s_slots_of) [] [] (He.ga K "slots_of") fd := T.c.def_ 8 (d := d_slots_of) rfl
theorem Tx.f_words_of (T : Tx K mg) : ∃ fd, FunD K "words_of" "words_of" (defArgs s_words_of) (defBody s_words_of) (defScope s_words_of) [] [] (He.ga K "words_of") fd := T.c.def_ 9 (d := d_words_of) rfl
theorem Tx.f_aged (T : Tx K mg) : ∃ fd, FunD K "aged" "aged" (defArgs s_aged) (defBody s_aged) (defScope s_aged) [] [] (He.ga K "aged") fd := T.c.def_ 10 (d := d_aged) rfl
theorem Tx.f_slot_place (T : Tx K mg) : ∃ fd, FunD K "slot_place" "slot_place" (defArgs s_slot_place) (defBody s_slot_place) (defScope s_slot_place) [] [] (He.ga K "slot_place") fd := T.c.def_ 11 (d := d_slot_place) rfl
theorem Tx.f_children (T : Tx K mg) : ∃ fd, FunD K "children" "children" (defArgs s_children) (defBody s_children) (defScope s_children) [] [] (He.ga K "children") fd := T.c.def_ 12 (d := d_children) rfl
theorem Tx.f_reached (T : Tx K mg) : ∃ fd, FunD K "reached" "reached" (defArgs s_reached) (defBody s_reached) (defScope s_reached) [] [] (He.ga K "reached") fd := T.c.def_ 13 (d := d_reached) rfl
theorem Tx.f_goals (T : Tx K mg) : ∃ fd, FunD K "goals" "goals" (defArgs s_goals) (defBody s_goals) (defScope s_goals) [] [] (He.ga K "goals") fd := T.c.def_ 14 (d := d_goals) rfl
theorem Tx.f_turned (T : Tx K mg) : ∃ fd, FunD K "turned" "turned" (defArgs s_turned) (defBody s_turned) (defScope s_turned) [] [] (He.ga K "turned") fd := T.c.def_ 15 (d := d_turned) rfl
theorem Tx.f_turn_slots (T : Tx K mg) : ∃ fd, FunD K "turn_slots" "turn_slots" (defArgs s_turn_slots) (defBody s_turn_slots) (defScope s_turn_slots) [] [] (He.ga K "turn_slots") fd := T.c.def_ 16 (d := d_turn_slots) rfl
theorem Tx.f_turn_roots (T : Tx K mg) : ∃ fd, FunD K "turn_roots" "turn_roots" (defArgs s_turn_roots) (defBody s_turn_roots) (defScope s_turn_roots) [] [] (He.ga K "turn_roots") fd := T.c.def_ 17 (d := d_turn_roots) rfl
theorem Tx.f_collect_all (T : Tx K mg) : ∃ fd, FunD K "collect_all" "collect_all" (defArgs s_collect_all) (defBody s_collect_all) (defScope s_collect_all) [] [] (He.ga K "collect_all") fd := T.c.def_ 18 (d := d_collect_all) rfl
theorem Tx.f_Memory_init (T : Tx K mg) : ∃ fd, FunD K "__init__" "Memory.__init__" (defArgs s_Memory_init) (defBody s_Memory_init) (defScope s_Memory_init) [] [] (He.ma K (He.ga K "Memory") "__init__") fd := T.c.def_ 19 (d := d_Memory_init) rfl
theorem Tx.f_Memory_need (T : Tx K mg) : ∃ fd, FunD K "need" "Memory.need" (defArgs s_Memory_need) (defBody s_Memory_need) (defScope s_Memory_need) [] [] (He.ma K (He.ga K "Memory") "need") fd := T.c.def_ 20 (d := d_Memory_need) rfl
theorem Tx.f_Memory_read (T : Tx K mg) : ∃ fd, FunD K "read" "Memory.read" (defArgs s_Memory_read) (defBody s_Memory_read) (defScope s_Memory_read) [] [] (He.ma K (He.ga K "Memory") "read") fd := T.c.def_ 21 (d := d_Memory_read) rfl
theorem Tx.f_Memory_write (T : Tx K mg) : ∃ fd, FunD K "write" "Memory.write" (defArgs s_Memory_write) (defBody s_Memory_write) (defScope s_Memory_write) [] [] (He.ma K (He.ga K "Memory") "write") fd := T.c.def_ 22 (d := d_Memory_write) rfl
theorem Tx.f_Memory_need_stretch (T : Tx K mg) : ∃ fd, FunD K "need_stretch" "Memory.need_stretch" (defArgs s_Memory_need_stretch) (defBody s_Memory_need_stretch) (defScope s_Memory_need_stretch) [] [] (He.ma K (He.ga K "Memory") "need_stretch") fd := T.c.def_ 23 (d := d_Memory_need_stretch) rfl
theorem Tx.f_Memory_copy (T : Tx K mg) : ∃ fd, FunD K "copy" "Memory.copy" (defArgs s_Memory_copy) (defBody s_Memory_copy) (defScope s_Memory_copy) [] [] (He.ma K (He.ga K "Memory") "copy") fd := T.c.def_ 24 (d := d_Memory_copy) rfl
theorem Tx.f_Space_init (T : Tx K mg) : ∃ fd, FunD K "__init__" "Space.__init__" (defArgs s_Space_init) (defBody s_Space_init) (defScope s_Space_init) [] [] (He.ma K (He.ga K "Space") "__init__") fd := T.c.def_ 25 (d := d_Space_init) rfl
theorem Tx.f_Space_room (T : Tx K mg) : ∃ fd, FunD K "room" "Space.room" (defArgs s_Space_room) (defBody s_Space_room) (defScope s_Space_room) [] [] (He.ma K (He.ga K "Space") "room") fd := T.c.def_ 26 (d := d_Space_room) rfl
theorem Tx.f_Space_used (T : Tx K mg) : ∃ fd, FunD K "used" "Space.used" (defArgs s_Space_used) (defBody s_Space_used) (defScope s_Space_used) [] [] (He.ma K (He.ga K "Space") "used") fd := T.c.def_ 27 (d := d_Space_used) rfl
theorem Tx.f_Space_has (T : Tx K mg) : ∃ fd, FunD K "has" "Space.has" (defArgs s_Space_has) (defBody s_Space_has) (defScope s_Space_has) [] [] (He.ma K (He.ga K "Space") "has") fd := T.c.def_ 28 (d := d_Space_has) rfl
theorem Tx.f_Space_take (T : Tx K mg) : ∃ fd, FunD K "take" "Space.take" (defArgs s_Space_take) (defBody s_Space_take) (defScope s_Space_take) [] [] (He.ma K (He.ga K "Space") "take") fd := T.c.def_ 29 (d := d_Space_take) rfl
theorem Tx.f_Space_empty (T : Tx K mg) : ∃ fd, FunD K "empty" "Space.empty" (defArgs s_Space_empty) (defBody s_Space_empty) (defScope s_Space_empty) [] [] (He.ma K (He.ga K "Space") "empty") fd := T.c.def_ 30 (d := d_Space_empty) rfl
theorem Tx.f_Space_cut (T : Tx K mg) : ∃ fd, FunD K "cut" "Space.cut" (defArgs s_Space_cut) (defBody s_Space_cut) (defScope s_Space_cut) [] [] (He.ma K (He.ga K "Space") "cut") fd := T.c.def_ 31 (d := d_Space_cut) rfl
theorem Tx.f_Space_cells (T : Tx K mg) : ∃ fd, FunD K "cells" "Space.cells" (defArgs s_Space_cells) (defBody s_Space_cells) (defScope s_Space_cells) [] [] (He.ma K (He.ga K "Space") "cells") fd := T.c.def_ 32 (d := d_Space_cells) rfl
theorem Tx.f_Areas_init (T : Tx K mg) : ∃ fd, FunD K "__init__" "Areas.__init__" (defArgs s_Areas_init) (defBody s_Areas_init) (defScope s_Areas_init) [] [] (He.ma K (He.ga K "Areas") "__init__") fd := T.c.def_ 33 (d := d_Areas_init) rfl
theorem Tx.f_Areas_flip (T : Tx K mg) : ∃ fd, FunD K "flip" "Areas.flip" (defArgs s_Areas_flip) (defBody s_Areas_flip) (defScope s_Areas_flip) [] [] (He.ma K (He.ga K "Areas") "flip") fd := T.c.def_ 34 (d := d_Areas_flip) rfl
theorem Tx.f_Areas_area_of (T : Tx K mg) : ∃ fd, FunD K "area_of" "Areas.area_of" (defArgs s_Areas_area_of) (defBody s_Areas_area_of) (defScope s_Areas_area_of) [] [] (He.ma K (He.ga K "Areas") "area_of") fd := T.c.def_ 35 (d := d_Areas_area_of) rfl
theorem Tx.f_Areas_lay_young (T : Tx K mg) : ∃ fd, FunD K "lay_young" "Areas.lay_young" (defArgs s_Areas_lay_young) (defBody s_Areas_lay_young) (defScope s_Areas_lay_young) [] [] (He.ma K (He.ga K "Areas") "lay_young") fd := T.c.def_ 36 (d := d_Areas_lay_young) rfl
theorem Tx.f_Areas_lay_old (T : Tx K mg) : ∃ fd, FunD K "lay_old" "Areas.lay_old" (defArgs s_Areas_lay_old) (defBody s_Areas_lay_old) (defScope s_Areas_lay_old) [] [] (He.ma K (He.ga K "Areas") "lay_old") fd := T.c.def_ 37 (d := d_Areas_lay_old) rfl
theorem Tx.f_Book_init (T : Tx K mg) : ∃ fd, FunD K "__init__" "Book.__init__" (defArgs s_Book_init) (defBody s_Book_init) (defScope s_Book_init) [] [] (He.ma K (He.ga K "Book") "__init__") fd := T.c.def_ 38 (d := d_Book_init) rfl
theorem Tx.f_Book_write (T : Tx K mg) : ∃ fd, FunD K "write" "Book.write" (defArgs s_Book_write) (defBody s_Book_write) (defScope s_Book_write) [] [] (He.ma K (He.ga K "Book") "write") fd := T.c.def_ 39 (d := d_Book_write) rfl
theorem Tx.f_Book_rub (T : Tx K mg) : ∃ fd, FunD K "rub" "Book.rub" (defArgs s_Book_rub) (defBody s_Book_rub) (defScope s_Book_rub) [] [] (He.ma K (He.ga K "Book") "rub") fd := T.c.def_ 40 (d := d_Book_rub) rfl
theorem Tx.f_Book_has (T : Tx K mg) : ∃ fd, FunD K "has" "Book.has" (defArgs s_Book_has) (defBody s_Book_has) (defScope s_Book_has) [] [] (He.ma K (He.ga K "Book") "has") fd := T.c.def_ 41 (d := d_Book_has) rfl
theorem Tx.f_Book_places (T : Tx K mg) : ∃ fd, FunD K "places" "Book.places" (defArgs s_Book_places) (defBody s_Book_places) (defScope s_Book_places) [] [] (He.ma K (He.ga K "Book") "places") fd := T.c.def_ 42 (d := d_Book_places) rfl
theorem Tx.f_Book_clear (T : Tx K mg) : ∃ fd, FunD K "clear" "Book.clear" (defArgs s_Book_clear) (defBody s_Book_clear) (defScope s_Book_clear) [] [] (He.ma K (He.ga K "Book") "clear") fd := T.c.def_ 43 (d := d_Book_clear) rfl
theorem Tx.f_Hands_init (T : Tx K mg) : ∃ fd, FunD K "__init__" "Hands.__init__" (defArgs s_Hands_init) (defBody s_Hands_init) (defScope s_Hands_init) [] [] (He.ma K (He.ga K "Hands") "__init__") fd := T.c.def_ 44 (d := d_Hands_init) rfl
theorem Tx.f_Hands_need (T : Tx K mg) : ∃ fd, FunD K "need" "Hands.need" (defArgs s_Hands_need) (defBody s_Hands_need) (defScope s_Hands_need) [] [] (He.ma K (He.ga K "Hands") "need") fd := T.c.def_ 45 (d := d_Hands_need) rfl
theorem Tx.f_Hands_get (T : Tx K mg) : ∃ fd, FunD K "get" "Hands.get" (defArgs s_Hands_get) (defBody s_Hands_get) (defScope s_Hands_get) [] [] (He.ma K (He.ga K "Hands") "get") fd := T.c.def_ 46 (d := d_Hands_get) rfl
theorem Tx.f_Hands_put (T : Tx K mg) : ∃ fd, FunD K "put" "Hands.put" (defArgs s_Hands_put) (defBody s_Hands_put) (defScope s_Hands_put) [] [] (He.ma K (He.ga K "Hands") "put") fd := T.c.def_ 47 (d := d_Hands_put) rfl
theorem Tx.f_Hands_row (T : Tx K mg) : ∃ fd, FunD K "row" "Hands.row" (defArgs s_Hands_row) (defBody s_Hands_row) (defScope s_Hands_row) [] [] (He.ma K (He.ga K "Hands") "row") fd := T.c.def_ 48 (d := d_Hands_row) rfl
theorem Tx.f_Lasts_init (T : Tx K mg) : ∃ fd, FunD K "__init__" "Lasts.__init__" (defArgs s_Lasts_init) (defBody s_Lasts_init) (defScope s_Lasts_init) [] [] (He.ma K (He.ga K "Lasts") "__init__") fd := T.c.def_ 49 (d := d_Lasts_init) rfl
theorem Tx.f_Lasts_give (T : Tx K mg) : ∃ fd, FunD K "give" "Lasts.give" (defArgs s_Lasts_give) (defBody s_Lasts_give) (defScope s_Lasts_give) [] [] (He.ma K (He.ga K "Lasts") "give") fd := T.c.def_ 50 (d := d_Lasts_give) rfl
theorem Tx.f_Lasts_need (T : Tx K mg) : ∃ fd, FunD K "need" "Lasts.need" (defArgs s_Lasts_need) (defBody s_Lasts_need) (defScope s_Lasts_need) [] [] (He.ma K (He.ga K "Lasts") "need") fd := T.c.def_ 51 (d := d_Lasts_need) rfl
theorem Tx.f_Lasts_move (T : Tx K mg) : ∃ fd, FunD K "move" "Lasts.move" (defArgs s_Lasts_move) (defBody s_Lasts_move) (defScope s_Lasts_move) [] [] (He.ma K (He.ga K "Lasts") "move") fd := T.c.def_ 52 (d := d_Lasts_move) rfl
theorem Tx.f_Lasts_say (T : Tx K mg) : ∃ fd, FunD K "say" "Lasts.say" (defArgs s_Lasts_say) (defBody s_Lasts_say) (defScope s_Lasts_say) [] [] (He.ma K (He.ga K "Lasts") "say") fd := T.c.def_ 53 (d := d_Lasts_say) rfl
theorem Tx.f_Lasts_pending (T : Tx K mg) : ∃ fd, FunD K "pending" "Lasts.pending" (defArgs s_Lasts_pending) (defBody s_Lasts_pending) (defScope s_Lasts_pending) [] [] (He.ma K (He.ga K "Lasts") "pending") fd := T.c.def_ 54 (d := d_Lasts_pending) rfl
theorem Tx.f_Lasts_said (T : Tx K mg) : ∃ fd, FunD K "said" "Lasts.said" (defArgs s_Lasts_said) (defBody s_Lasts_said) (defScope s_Lasts_said) [] [] (He.ma K (He.ga K "Lasts") "said") fd := T.c.def_ 55 (d := d_Lasts_said) rfl
theorem Tx.f_Weak_init (T : Tx K mg) : ∃ fd, FunD K "__init__" "Weak.__init__" (defArgs s_Weak_init) (defBody s_Weak_init) (defScope s_Weak_init) [] [] (He.ma K (He.ga K "Weak") "__init__") fd := T.c.def_ 56 (d := d_Weak_init) rfl
theorem Tx.f_Weak_name (T : Tx K mg) : ∃ fd, FunD K "name" "Weak.name" (defArgs s_Weak_name) (defBody s_Weak_name) (defScope s_Weak_name) [] [] (He.ma K (He.ga K "Weak") "name") fd := T.c.def_ 57 (d := d_Weak_name) rfl
theorem Tx.f_Weak_need (T : Tx K mg) : ∃ fd, FunD K "need" "Weak.need" (defArgs s_Weak_need) (defBody s_Weak_need) (defScope s_Weak_need) [] [] (He.ma K (He.ga K "Weak") "need") fd := T.c.def_ 58 (d := d_Weak_need) rfl
theorem Tx.f_Weak_at (T : Tx K mg) : ∃ fd, FunD K "at" "Weak.at" (defArgs s_Weak_at) (defBody s_Weak_at) (defScope s_Weak_at) [] [] (He.ma K (He.ga K "Weak") "at") fd := T.c.def_ 59 (d := d_Weak_at) rfl
theorem Tx.f_Weak_need_there (T : Tx K mg) : ∃ fd, FunD K "need_there" "Weak.need_there" (defArgs s_Weak_need_there) (defBody s_Weak_need_there) (defScope s_Weak_need_there) [] [] (He.ma K (He.ga K "Weak") "need_there") fd := T.c.def_ 60 (d := d_Weak_need_there) rfl
theorem Tx.f_Weak_move (T : Tx K mg) : ∃ fd, FunD K "move" "Weak.move" (defArgs s_Weak_move) (defBody s_Weak_move) (defScope s_Weak_move) [] [] (He.ma K (He.ga K "Weak") "move") fd := T.c.def_ 61 (d := d_Weak_move) rfl
theorem Tx.f_Weak_gone (T : Tx K mg) : ∃ fd, FunD K "gone" "Weak.gone" (defArgs s_Weak_gone) (defBody s_Weak_gone) (defScope s_Weak_gone) [] [] (He.ma K (He.ga K "Weak") "gone") fd := T.c.def_ 62 (d := d_Weak_gone) rfl
theorem Tx.f_Weak_names (T : Tx K mg) : ∃ fd, FunD K "names" "Weak.names" (defArgs s_Weak_names) (defBody s_Weak_names) (defScope s_Weak_names) [] [] (He.ma K (He.ga K "Weak") "names") fd := T.c.def_ 63 (d := d_Weak_names) rfl
theorem Tx.f_Roots_init (T : Tx K mg) : ∃ fd, FunD K "__init__" "Roots.__init__" (defArgs s_Roots_init) (defBody s_Roots_init) (defScope s_Roots_init) [] [] (He.ma K (He.ga K "Roots") "__init__") fd := T.c.def_ 64 (d := d_Roots_init) rfl
theorem Tx.f_Roots_starts (T : Tx K mg) : ∃ fd, FunD K "starts" "Roots.starts" (defArgs s_Roots_starts) (defBody s_Roots_starts) (defScope s_Roots_starts) [] [] (He.ma K (He.ga K "Roots") "starts") fd := T.c.def_ 65 (d := d_Roots_starts) rfl
theorem Tx.f_law_cell_at (T : Tx K mg) : ∃ fd, FunD K "_law_cell_at" "_law_cell_at" (defArgs s_law_cell_at) (defBody s_law_cell_at) (defScope s_law_cell_at) [] [] (He.ga K "_law_cell_at") fd := T.c.def_ 66 (d := d_law_cell_at) rfl
theorem Tx.f_law_next (T : Tx K mg) : ∃ fd, FunD K "_law_next" "_law_next" (defArgs s_law_next) (defBody s_law_next) (defScope s_law_next) [] [] (He.ga K "_law_next") fd := T.c.def_ 67 (d := d_law_next) rfl
theorem Tx.f_law_lay (T : Tx K mg) : ∃ fd, FunD K "_law_lay" "_law_lay" (defArgs s_law_lay) (defBody s_law_lay) (defScope s_law_lay) [] [] (He.ga K "_law_lay") fd := T.c.def_ 68 (d := d_law_lay) rfl
theorem Tx.f_law_laid (T : Tx K mg) : ∃ fd, FunD K "_law_laid" "_law_laid" (defArgs s_law_laid) (defBody s_law_laid) (defScope s_law_laid) [] [] (He.ga K "_law_laid") fd := T.c.def_ 69 (d := d_law_laid) rfl
theorem Tx.f_law_word (T : Tx K mg) : ∃ fd, FunD K "_law_word" "_law_word" (defArgs s_law_word) (defBody s_law_word) (defScope s_law_word) [] [] (He.ga K "_law_word") fd := T.c.def_ 70 (d := d_law_word) rfl
theorem Tx.f_law_write (T : Tx K mg) : ∃ fd, FunD K "_law_write" "_law_write" (defArgs s_law_write) (defBody s_law_write) (defScope s_law_write) [] [] (He.ga K "_law_write") fd := T.c.def_ 71 (d := d_law_write) rfl
theorem Tx.f_law_filled (T : Tx K mg) : ∃ fd, FunD K "_law_filled" "_law_filled" (defArgs s_law_filled) (defBody s_law_filled) (defScope s_law_filled) [] [] (He.ga K "_law_filled") fd := T.c.def_ 72 (d := d_law_filled) rfl
theorem Tx.f_law_tabled (T : Tx K mg) : ∃ fd, FunD K "_law_tabled" "_law_tabled" (defArgs s_law_tabled) (defBody s_law_tabled) (defScope s_law_tabled) [] [] (He.ga K "_law_tabled") fd := T.c.def_ 73 (d := d_law_tabled) rfl
theorem Tx.f_law_reached (T : Tx K mg) : ∃ fd, FunD K "_law_reached" "_law_reached" (defArgs s_law_reached) (defBody s_law_reached) (defScope s_law_reached) [] [] (He.ga K "_law_reached") fd := T.c.def_ 74 (d := d_law_reached) rfl
theorem Tx.f_law_turned (T : Tx K mg) : ∃ fd, FunD K "_law_turned" "_law_turned" (defArgs s_law_turned) (defBody s_law_turned) (defScope s_law_turned) [] [] (He.ga K "_law_turned") fd := T.c.def_ 75 (d := d_law_turned) rfl
theorem Tx.f_law_moved (T : Tx K mg) : ∃ fd, FunD K "_law_moved" "_law_moved" (defArgs s_law_moved) (defBody s_law_moved) (defScope s_law_moved) [] [] (He.ga K "_law_moved") fd := T.c.def_ 76 (d := d_law_moved) rfl
theorem Tx.f_law_stands (T : Tx K mg) : ∃ fd, FunD K "_law_stands" "_law_stands" (defArgs s_law_stands) (defBody s_law_stands) (defScope s_law_stands) [] [] (He.ga K "_law_stands") fd := T.c.def_ 77 (d := d_law_stands) rfl
theorem Tx.f_law_collected (T : Tx K mg) : ∃ fd, FunD K "_law_collected" "_law_collected" (defArgs s_law_collected) (defBody s_law_collected) (defScope s_law_collected) [] [] (He.ga K "_law_collected") fd := T.c.def_ 78 (d := d_law_collected) rfl
theorem Tx.f_law_changed (T : Tx K mg) : ∃ fd, FunD K "_law_changed" "_law_changed" (defArgs s_law_changed) (defBody s_law_changed) (defScope s_law_changed) [] [] (He.ga K "_law_changed") fd := T.c.def_ 79 (d := d_law_changed) rfl
theorem Tx.f_law (T : Tx K mg) : ∃ fd, FunD K "law" "law" (defArgs s_law) (defBody s_law) (defScope s_law) [] [] (He.ga K "law") fd := T.c.def_ 80 (d := d_law) rfl
theorem gi_MOST_NUMBER {X : Cx} {pos : Pos} (T : Tx X.K X.mg) (hg : Gl X "MOST_NUMBER") : PE X (.Name "MOST_NUMBER" pos) (tC (.int (1000000000000))) := by
  obtain ⟨t, e⟩ := T.i_MOST_NUMBER
  exact pe_glob hg e ⟨_, rfl⟩
theorem gi_MOST_PLACE {X : Cx} {pos : Pos} (T : Tx X.K X.mg) (hg : Gl X "MOST_PLACE") : PE X (.Name "MOST_PLACE" pos) (tC (.int (9999))) := by
  obtain ⟨t, e⟩ := T.i_MOST_PLACE
  exact pe_glob hg e ⟨_, rfl⟩
theorem gi_NOTHING {X : Cx} {pos : Pos} (T : Tx X.K X.mg) (hg : Gl X "NOTHING") : PE X (.Name "NOTHING" pos) (tC (.int (-1))) := by
  obtain ⟨t, e⟩ := T.i_NOTHING
  exact pe_glob hg e ⟨_, rfl⟩
theorem gi_MOST_SLOTS {X : Cx} {pos : Pos} (T : Tx X.K X.mg) (hg : Gl X "MOST_SLOTS") : PE X (.Name "MOST_SLOTS" pos) (tC (.int (8))) := by
  obtain ⟨t, e⟩ := T.i_MOST_SLOTS
  exact pe_glob hg e ⟨_, rfl⟩
theorem gi_MOST_AGE {X : Cx} {pos : Pos} (T : Tx X.K X.mg) (hg : Gl X "MOST_AGE") : PE X (.Name "MOST_AGE" pos) (tC (.int (2))) := by
  obtain ⟨t, e⟩ := T.i_MOST_AGE
  exact pe_glob hg e ⟨_, rfl⟩
theorem gi_MOST_SIZE {X : Cx} {pos : Pos} (T : Tx X.K X.mg) (hg : Gl X "MOST_SIZE") : PE X (.Name "MOST_SIZE" pos) (tC (.int (4000))) := by
  obtain ⟨t, e⟩ := T.i_MOST_SIZE
  exact pe_glob hg e ⟨_, rfl⟩
theorem gi_LEAST_OLD {X : Cx} {pos : Pos} (T : Tx X.K X.mg) (hg : Gl X "LEAST_OLD") : PE X (.Name "LEAST_OLD" pos) (tC (.int (4))) := by
  obtain ⟨t, e⟩ := T.i_LEAST_OLD
  exact pe_glob hg e ⟨_, rfl⟩
theorem gi_MOST_OLD {X : Cx} {pos : Pos} (T : Tx X.K X.mg) (hg : Gl X "MOST_OLD") : PE X (.Name "MOST_OLD" pos) (tC (.int (2000))) := by
  obtain ⟨t, e⟩ := T.i_MOST_OLD
  exact pe_glob hg e ⟨_, rfl⟩
theorem gi_LEAST_YOUNG {X : Cx} {pos : Pos} (T : Tx X.K X.mg) (hg : Gl X "LEAST_YOUNG") : PE X (.Name "LEAST_YOUNG" pos) (tC (.int (2))) := by
  obtain ⟨t, e⟩ := T.i_LEAST_YOUNG
  exact pe_glob hg e ⟨_, rfl⟩
theorem gi_MOST_YOUNG {X : Cx} {pos : Pos} (T : Tx X.K X.mg) (hg : Gl X "MOST_YOUNG") : PE X (.Name "MOST_YOUNG" pos) (tC (.int (500))) := by
  obtain ⟨t, e⟩ := T.i_MOST_YOUNG
  exact pe_glob hg e ⟨_, rfl⟩
theorem gi_MOST_HANDS {X : Cx} {pos : Pos} (T : Tx X.K X.mg) (hg : Gl X "MOST_HANDS") : PE X (.Name "MOST_HANDS" pos) (tC (.int (6))) := by
  obtain ⟨t, e⟩ := T.i_MOST_HANDS
  exact pe_glob hg e ⟨_, rfl⟩
end
end Km
set_option Elab.async false
set_option linter.all false
set_option maxRecDepth 100000
set_option maxHeartbeats 4000000
/-! rules of our own over the hand layer: calls by their promise, equality of int lists, of rows, of a dict with an empty one, get with None -/
namespace Km
open PySem PySem.Spec PyProof.Rows L2
/-- a def keeps its promise: all that a caller needs -/
def FX (P : Program) (w : World) (K : PySem.W.Frag) (mg : Str → Option Value) (base : Heap) (k : Nat) (f : Addr) (ps : List Str) (sp : Sp) : Prop :=
  ∃ fd, FnOk P w K mg base CX0 k f fd ps sp ∧ Binds K fd ps [] ∧ PySem.W.keepIn K (.ref f) = true
section
variable {X : Cx} {k : Nat} {f C : Addr} {ps : List Str} {sp : Sp} {x m : Str} {p pos apos : Pos} {e o : Expr} {es : List Expr} {ta : TE} {t : TA}
theorem pe_callF (F : FX X.prog X.w X.K X.mg X.base k f ps sp) (hr : Room k X.A) (hg : Gl X x) (hm : X.mg x = some (.ref f))
    (ha : PA X (e :: es) t) (hdb : (x == ("__debug__" : Str)) = false := by decide) (he : starEach (e :: es) X.env = (false, eval e X.env) :: starEach es X.env := by rfl) (hpl : (backTo pos (starEach es X.env)).any (·.1) = false := by rfl) :
    PE X (.Call (.Name x p) (e :: es) [] pos) (tCall sp [] E0 t) := by
  obtain ⟨fd, G, b, kp⟩ := F
  exact pe_call G hr hg hm kp b .nil pass0 ha hdb he hpl
theorem pe_methF {pl : Sem Bool} (he : PE X o ta) (c : Cls X.K C) (hm : Meth X.K C m f) (F : FX X.prog X.w X.K X.mg X.base k f ps sp) (hr : Room k X.A) (ha : PA X (e :: es) t)
    (hst : starEach (e :: es) X.env = (false, eval e X.env) :: starEach es X.env := by rfl) (hpl : (backTo pos (starEach es X.env)).any (·.1) = false := by rfl)
    (ht : eval (.Call (.Attribute o m apos) (e :: es) [] pos) X.env = (do
      let ov ← eval o X.env
      standAt apos.atName
      let (f, first) ← holding [ov] (getMethod ov m pl)
      callWith pos f first (backTo pos (starEach (e :: es) X.env)) (backToKw pos (keywordEach [] X.env))) := by rfl) :
    PE X (.Call (.Attribute o m apos) (e :: es) [] pos) (tMeth C m sp [] E0 ta t) := by
  obtain ⟨fd, G, b, kp⟩ := F
  exact pe_meth (pl := pl) he c hm G hr b .nil pass0 ha hst hpl ht
theorem pe_methF0 {pl : Sem Bool} (he : PE X o ta) (c : Cls X.K C) (hm : Meth X.K C m f) (F : FX X.prog X.w X.K X.mg X.base k f ps sp) (hr : Room k X.A)
    (ht : eval (.Call (.Attribute o m apos) [] [] pos) X.env = (do
      let ov ← eval o X.env
      standAt apos.atName
      let (f, first) ← holding [ov] (getMethod ov m pl)
      callWith pos f first (backTo pos (starEach [] X.env)) (backToKw pos (keywordEach [] X.env))) := by rfl) :
    PE X (.Call (.Attribute o m apos) [] [] pos) (tMeth C m sp [] E0 ta tNil) := by
  obtain ⟨fd, G, b, kp⟩ := F
  exact pe_meth0 (pl := pl) he c hm G hr b .nil pass0 ht
theorem pe_makeF (M : Mk X.K C f) (F : FX X.prog X.w X.K X.mg X.base k f ps sp) (hr : Room (k + 1) X.A) (hg : Gl X x) (hm : X.mg x = some (.ref C))
    (ha : PA X (e :: es) t) (hdb : (x == ("__debug__" : Str)) = false := by decide) (he : starEach (e :: es) X.env = (false, eval e X.env) :: starEach es X.env := by rfl) (hpl : (backTo pos (starEach es X.env)).any (·.1) = false := by rfl) :
    PE X (.Call (.Name x p) (e :: es) [] pos) (tMake C sp [] E0 t) := by
  obtain ⟨fd, G, b, kp⟩ := F
  exact pe_make M G hr hg hm b .nil pass0 ha hdb he hpl
theorem pe_makeF0 (M : Mk X.K C f) (F : FX X.prog X.w X.K X.mg X.base k f ps sp) (hr : Room (k + 1) X.A) (hg : Gl X x) (hm : X.mg x = some (.ref C))
    (hdb : (x == ("__debug__" : Str)) = false := by decide) : PE X (.Call (.Name x p) [] [] pos) (tMake C sp [] E0 tNil) := by
  obtain ⟨fd, G, b, kp⟩ := F
  exact pe_make0 M G hr hg hm b .nil pass0 hdb
end
/-- from the def's body to its promise -/
theorem fx_of {P : Program} {w : World} {K : PySem.W.Frag} {mg : Str → Option Value} {base : Heap} {k : Nat} {f : Addr} {ps N : List Str} {sp : Sp} {x qual : Str} {params : Arguments} {body : List Stmt} {scope : Scope}
    (F : ∃ fd, FunD K x qual params body scope [] [] f fd) (S : FnScope N ps scope)
    (hb : ∀ (kV doc pm : Value) (an : Option Addr) (cdv ct : Value) (us : List Value), us.length = ps.length → bindArgs (PySem.W.fnOf x qual params body scope .none kV doc pm an cdv ct) ⟨us, []⟩ = pure (ps.zip us))
    (len : ∀ vs H Q E, sp vs H Q E → vs.length = ps.length)
    (hbody : ∀ (cdv : Value) (A : Around) (outer : List Env) (s : Shared) (H : Hp) (vs : List V) (Q : VK) (E : XK), Room k (A.deeper (envOfC qual scope s.heap.objs.size f cdv)) → sp vs H Q E →
      ∃ t, PSs (cxOf CX0 P w K mg base N qual scope f cdv A outer s H E).nox body t ∧ t { nx := fun _ H' => Q .non H', rt := Q } (start N vs) H) : FX P w K mg base (k + 1) f ps sp := by
  obtain ⟨fd, F⟩ := F
  refine ⟨fd, F.ok S len fun cdv A outer s H vs Q E hr h => ?_, F.bindsN hb, F.kp⟩
  obtain ⟨t, h1, h2⟩ := hbody cdv A outer s H vs Q E hr h
  exact ⟨t, h1.nox, h2⟩
/-! ### == of int lists, of rows of ints -/
section
variable {X : Cx}
theorem dpAll_ints {K : PySem.W.Frag} {H : Hp} : ∀ ns : List Int, DpAll K H (ns.map V.int) (ns.map PyData.int)
  | [] => .nil
  | n :: r => .cons (.int n) (dpAll_ints r)
theorem eqvAll_ints : ∀ ns ms : List Int, PyData.eqvAll (ns.map PyData.int) (ms.map PyData.int) = decide (ns = ms)
  | [], [] => by simp [PyData.eqvAll]
  | [], _ :: _ => by simp [PyData.eqvAll]
  | _ :: _, [] => by simp [PyData.eqvAll]
  | n :: r, m :: q => by
    rw [List.map_cons, List.map_cons, PyData.eqvAll, eqvAll_ints r q]
    by_cases h : n = m
    · subst h
      simp [PyData.eqv]
    · simp [PyData.eqv, h]
theorem shaped_ints (ns : List Int) : SeqAt.shaped (.list (ns.map .int)) = true := by
  have h1 : PyData.depth (.list (ns.map .int)) = 1 := by simp only [PyData.depth, depthAll_ints]
  have h2 : (PyData.list (ns.map .int)).canLay0 = true := by simp only [PyData.canLay0, canLayAll_ints]
  unfold SeqAt.shaped
  rw [h1, h2]
  decide
def rEqLI (K : PySem.W.Frag) : R2 := fun x y H Q => ∃ (a b : Addr) (ns ms : List Int), x = .ref a ∧ y = .ref b ∧ SqL K H a (ns.map V.int) ∧ SqL K H b (ms.map V.int) ∧ Q (.bl (decide (ns = ms))) H
def rNeLI (K : PySem.W.Frag) : R2 := fun x y H Q => ∃ (a b : Addr) (ns ms : List Int), x = .ref a ∧ y = .ref b ∧ SqL K H a (ns.map V.int) ∧ SqL K H b (ms.map V.int) ∧ Q (.bl (!decide (ns = ms))) H
theorem op_eqLI (hu : X.A.units + 64 < cLine) : OpR X (compareOp .Eq) (rEqLI X.K) := by
  intro pins s σ H x y v u Q I rx ry h
  obtain ⟨a, b, ns, ms, rfl, rfl, h1, h2, q⟩ := h
  refine op_eqD hu pins s σ H _ _ v u Q I rx ry ⟨.list (ns.map .int), .list (ms.map .int), .lst h1 (dpAll_ints ns), .lst h2 (dpAll_ints ms), shaped_ints ns, shaped_ints ms, ?_⟩
  rw [show PyData.eqv (.list (ns.map .int)) (.list (ms.map .int)) = decide (ns = ms) by rw [PyData.eqv]; exact eqvAll_ints ns ms]
  exact q
theorem op_neLI (hu : X.A.units + 64 < cLine) : OpR X (compareOp .NotEq) (rNeLI X.K) := by
  intro pins s σ H x y v u Q I rx ry h
  obtain ⟨a, b, ns, ms, rfl, rfl, h1, h2, q⟩ := h
  refine op_neD hu pins s σ H _ _ v u Q I rx ry ⟨.list (ns.map .int), .list (ms.map .int), .lst h1 (dpAll_ints ns), .lst h2 (dpAll_ints ms), shaped_ints ns, shaped_ints ms, ?_⟩
  rw [show PyData.eqv (.list (ns.map .int)) (.list (ms.map .int)) = decide (ns = ms) by rw [PyData.eqv]; exact eqvAll_ints ns ms]
  exact q
/-- a list of tuples of ints -/
def Rows (H : Hp) (xs : List V) (rs : List (List Int)) : Prop := Paired (fun v r => ∃ t, v = V.ref t ∧ H t = some (.tup (r.map V.int))) xs rs
def rowD (r : List Int) : PyData := .tuple (r.map .int)
theorem dpAll_rows {K : PySem.W.Frag} {H : Hp} : ∀ {xs : List V} {rs : List (List Int)}, Rows H xs rs → DpAll K H xs (rs.map rowD)
  | _, _, .nil => .nil
  | _, _, .cons (b := r) ⟨t, e, h⟩ q => by
    subst e
    exact .cons (.tup (SqT.of h) (dpAll_ints r)) (dpAll_rows q)
theorem canLayAll_rows : ∀ rs : List (List Int), PyData.canLayAll0 (rs.map rowD) = true
  | [] => rfl
  | r :: q => by simp only [List.map, PyData.canLayAll0, rowD, PyData.canLay0, canLayAll_ints r, Bool.true_and]; exact canLayAll_rows q
theorem depthAll_rows : ∀ rs : List (List Int), PyData.depthAll (rs.map rowD) ≤ 1
  | [] => Nat.zero_le _
  | r :: q => by
    have := depthAll_rows q
    simp only [List.map, PyData.depthAll, rowD, PyData.depth, depthAll_ints r] at this ⊢
    omega
theorem shaped_rows (rs : List (List Int)) : SeqAt.shaped (.list (rs.map rowD)) = true := by
  have h1 : PyData.depth (.list (rs.map rowD)) ≤ 2 := by
    have := depthAll_rows rs
    simp only [PyData.depth]
    omega
  have h2 : (PyData.list (rs.map rowD)).canLay0 = true := by simp only [PyData.canLay0, canLayAll_rows]
  unfold SeqAt.shaped
  rw [h2, Bool.true_and]
  exact decide_eq_true (by omega)
/-- != of two lists of the same rows -/
def rNeLT (K : PySem.W.Frag) : R2 := fun x y H Q => ∃ (a b : Addr) (xs ys : List V) (rs : List (List Int)), x = .ref a ∧ y = .ref b ∧ SqL K H a xs ∧ SqL K H b ys ∧ Rows H xs rs ∧ Rows H ys rs ∧ Q (.bl false) H
theorem op_neLT (hu : X.A.units + 64 < cLine) : OpR X (compareOp .NotEq) (rNeLT X.K) := by
  intro pins s σ H x y v u Q I rx ry h
  obtain ⟨a, b, xs, ys, rs, rfl, rfl, h1, h2, h3, h4, q⟩ := h
  refine op_neD hu pins s σ H _ _ v u Q I rx ry ⟨.list (rs.map rowD), .list (rs.map rowD), .lst h1 (dpAll_rows h3), .lst h2 (dpAll_rows h4), shaped_rows rs, shaped_rows rs, ?_⟩
  rw [SeqAt.eqv_refl _ (SeqAt.canLay_of_shaped (shaped_rows rs))]
  exact q
/-- a dict compared with an empty one -/
def rEq0 : R2 := fun x y H Q => ∃ (a b : Addr) (kvs : List (Key × V)), x = .ref a ∧ y = .ref b ∧ Rd H a (.dK kvs) ∧ H b = some (.dK []) ∧ Q (.bl kvs.isEmpty) H
theorem op_eq0 (hu : X.A.units + 64 < cLine) : OpR X (compareOp .Eq) rEq0 := by
  intro pins s σ H x y v u Q I rx ry h
  obtain ⟨a, b, kvs, rfl, rfl, h1, h2, q⟩ := h
  obtain rfl : v = Value.ref a := rx
  obtain rfl : u = Value.ref b := ry
  obtain ⟨_, ha, vs, ra, da⟩ := dk_rd I.hok h1
  obtain ⟨_, hb, vs2, rb, db⟩ := dk_of I.hok h2
  have e2 : vs2 = [] := by
    cases rb
    rfl
  subst e2
  have el := ra.length
  refine PySem.W.rcP_dicts (knd := mixKind X.prog X.w) (r := true) ha hb da db (by omega) (fun hl => ?_) _ _ ⟨.bl kvs.isEmpty, H, I, ?_, q⟩
  · have : vs = [] := List.eq_nil_of_length_eq_zero (by simpa using hl)
    subst this
    exact .nil
  · show Value.bool _ = Value.bool _
    rw [← el]
    cases kvs with
    | nil => rfl
    | cons p r => simp
end
/-! ### d.get(x), x an int or None -/
theorem d_getNone {X : Cx} {pins : List (Addr × Obj)} {σ : L2.St} {H : Hp} {s : Shared} {a : Addr} {kvs : List (Key × V)} {A : Around} {E : Value → Shared → Prop} {Q : Value → Shared → Prop} (I : Inv X pins σ H s) (e : Rd H a (.dK kvs)) (h : ∀ s', Inv X pins σ H s' → Q .none s') :
    wpAny (model X.prog X.w) A (call (.builtin "dict.get") [.ref a, .none]) Q E s := by
  obtain ⟨_, hd, vs, _, dd⟩ := dk_rd I.hok e
  obtain ⟨f, hm, hf⟩ := none_map dd
  refine call_meetsIn PySem.F.slot_dict_get dd.typeIs PySem.F.entry_dict_get (PySem.F.args_dict_get_2 _ _) (meets_dict_get (noneKind X.prog X.w) a (k := none) rfl hd) ⟨f, hm, ?_⟩
  rw [hf]
  exact h _ (I.tok _)
def oV : Option Int → V
  | some i => .int i
  | none => .non
def tDGetN (td ty : TE) : TE := fun σ H Q => td σ H fun x H1 => ∃ a kvs, x = .ref a ∧ Rd H1 a (.dK kvs) ∧ ty σ H1 fun y H2 => ∃ (o : Option Int) (kvs2 : List (Key × V)), y = oV o ∧ Rd H2 a (.dK kvs2) ∧ Q ((o.bind fun i => valV kvs2 (Sum.inl i : Key)).getD .non) H2
theorem pe_dgetN {X : Cx} {o e : Expr} {apos cpos : Pos} {td ty : TE} (hu : X.A.units + 1 < cLine) (ho : PE X o td) (he : PE X e ty) (m : M1 X o "get" apos e cpos) : PE X (.Call (.Attribute o "get" apos) [e] [] cpos) (tDGetN td ty) := by
  refine ⟨fun pins s σ H Q I h => ?_⟩
  refine wpAny_Call_method m.base m.few m.line PySem.F.plainAttrs_dict PySem.F.slot_dict_get PySem.F.type_dict_get (thn (ho.run pins s σ H _ I h) fun u s1 ⟨x, H1, I1, rx, a, kvs, ex, d, q1⟩ => ?_)
  subst ex
  obtain rfl : u = Value.ref a := rx
  obtain ⟨t1, t2, _⟩ := isD_at I1 (.inl ⟨kvs, d⟩)
  refine ⟨t1, t2, ?_⟩
  rw [m.trees]
  refine Calls.callWith_builtin rfl (Calls.evalArgs_plain (Calls.spliced_cons (thn (he.run pins s1 σ H1 _ I1 q1) fun iv s2 ⟨y, H2, I2, ry, ov, kvs2, ey, d2, q2⟩ => Calls.spliced_nil ?_)))
  subst ey
  cases ov with
  | none =>
    obtain rfl : iv = Value.none := ry
    exact d_getNone I2 d2 fun s3 I3 => ⟨.non, H2, I3, rfl, q2⟩
  | some i =>
    exact d_get1 hu I2 (show DGet H2 a (V.int i) (valV kvs2 (Sum.inl i : Key)) from .inl ⟨kvs2, Sum.inl i, d2, rfl, rfl⟩) ry fun w' s3 I3 rw' => ⟨_, H2, I3, rw', q2⟩
end Km
set_option Elab.async false
set_option linter.all false
set_option maxRecDepth 100000
set_option maxHeartbeats 0
namespace Km
open PySem PySem.W PySem.Calls PyProof.Rows L2
abbrev R : PySem.W.OpenRow := PySem.W.OpenLaw.row PySem.Challenge.rw_cellkeep_k16_whole_slid
def clsNs (o : Obj) : List Addr := match o.data with
  | .cls cd => [cd.ns]
  | _ => []
def fnCode (o : Obj) : List Addr := match o.data with
  | .func fd => He.refV fd.code
  | _ => []
def dicRefs (o : Obj) : List Addr := match o.data with
  | .dict es _ => es.toList.flatMap fun e => He.refV e.val
  | _ => []
def sub (f : Obj → List Addr) (g : Addr → Option Obj) (as : List Addr) : List Addr := as.flatMap fun a => match g a with
  | some o => f o
  | none => []
/-- where the facts look: the module's names, the classes' own dicts, the methods, their code -/
def as3 (g : Addr → Option Obj) (gl ns ms : List Addr) : List Addr := mainGlobals :: (gl ++ (ns ++ (ms ++ (sub fnCode g gl ++ sub fnCode g ms))))
def as2 (g : Addr → Option Obj) (gl ns : List Addr) : List Addr := as3 g gl ns (sub dicRefs g ns)
def as1 (g : Addr → Option Obj) (gl : List Addr) : List Addr := as2 g gl (sub clsNs g gl)
def asK (g : Addr → Option Obj) : List Addr := as1 g (sub dicRefs g [mainGlobals])
def obsK (g : Addr → Option Obj) : He.AlD := He.obsD fa fn (He.frG g (asK g))
def hk : PySem.W.Hook where
  α := He.AlD
  obs := fun s => obsK s.heap.get?
  val := fun _ => He.valD fn
  says := fun _ h => ∃ K : PySem.W.Frag, K.In h ∧ He.SaysD fa fn K
  of := fun _ _ e => ⟨_, He.frG_in, e⟩
  keeps := fun _ _ _ ⟨K, hK, c⟩ k => ⟨K, PySem.W.Frag.In.keeps hK k, c⟩
def ob (s : PySem.W.SharedT) : He.AlD := obsK (HandSHeadRun.getT s)
theorem ob_eq (s : PySem.W.SharedT) : ob s = hk.obs s.abs := by
  have e : HandSHeadRun.getT s = s.abs.heap.get? := funext (HandSHeadRun.getT_eq s)
  show obsK (HandSHeadRun.getT s) = obsK s.abs.heap.get?
  rw [e]
def nm0 : List PySem.Str := ["KeepError", "BadNumber", "BadWord", "BadCount", "NoPlace", "NoRoom", "NoSlot", "NoCell", "NoHand", "NoName", "MOST_NUMBER", "MOST_PLACE", "NOTHING", "is_whole", "number_word", "place_word", "kind", "worth", "MOST_SLOTS", "MOST_AGE", "need_slots", "lay", "head_of", "slots_of", "words_of", "aged", "slot_place", "children", "reached", "goals"]
def nm1 : List PySem.Str := ["turned", "turn_slots", "turn_roots", "collect_all", "MOST_SIZE", "Memory", "Space", "LEAST_OLD", "MOST_OLD", "LEAST_YOUNG", "MOST_YOUNG", "Areas", "Book", "MOST_HANDS", "Hands", "Lasts", "Weak", "Roots", "_law_cell_at", "_law_next", "_law_lay", "_law_laid", "_law_word", "_law_write", "_law_filled", "_law_tabled", "_law_reached", "_law_turned", "_law_moved", "_law_stands"]
def nm2 : List PySem.Str := ["_law_collected", "_law_changed"]
def names : List PySem.Str := nm0 ++ nm1 ++ nm2
theorem run (w : World) : HandSHeadRun.RunEq R (PySem.W.view R.prog [76]) hk ob 7000 names w := by
  intro os
  kernel_rfl
end Km
set_option Elab.async false
set_option linter.all false
set_option maxRecDepth 100000
set_option maxHeartbeats 4000000
/-! the classes' fields as steps of a reading (printed by gen2.py) -/
namespace Km
open PySem PySem.Spec PyProof.Rows L2
theorem lk_hit {f : Str} {v : V} {r : List (Str × V)} : List.lookup f ((f, v) :: r) = some v := by simp [List.lookup]
theorem lk_miss {f g : Str} {v : V} {r : List (Str × V)} (h : ¬ f = g) : List.lookup f ((g, v) :: r) = List.lookup f r := by
  have e : (f == g) = false := by simpa using h
  simp [List.lookup, e]
theorem pf_hit {f : Str} {v w : V} {r : List (Str × V)} : putF f w ((f, v) :: r) = (f, w) :: r := by simp [putF]
theorem pf_miss {f g : Str} {v w : V} {r : List (Str × V)} (h : ¬ g = f) : putF f w ((g, v) :: r) = (g, v) :: putF f w r := by simp [putF, h]
theorem lk_nil {f : Str} : List.lookup f ([] : List (Str × V)) = none := rfl
def fl_Memory (x1 x2 : V) : List (Str × V) := [("size", x1), ("words", x2)]
theorem lk_Memory_size {x1 x2 : V} : (fl_Memory x1 x2).lookup ("size" : Str) = some x1 := lk_hit
theorem rd_Memory_size {K : PySem.W.Frag} {mg : Str → Option Value} {H : Hp} {a dx : Addr} {x1 x2 : V} {R : V → Prop} (T : Tx K mg) (h : H a = some (.ins (He.ga K "Memory") dx (fl_Memory x1 x2))) (q : R x1) :
    ∃ b C dy gs v, V.ref a = V.ref b ∧ H b = some (.ins C dy gs) ∧ Cls K C ∧ NoAttr K C "size" ∧ gs.lookup ("size" : Str) = some v ∧ R v := ⟨a, _, dx, _, _, rfl, h, T.cl_Memory, T.na_Memory_size, lk_Memory_size, q⟩
theorem pf_Memory_size {x1 x2 y : V} : putF "size" y (fl_Memory x1 x2) = fl_Memory y x2 := pf_hit
theorem st_Memory_size {K : PySem.W.Frag} {mg : Str → Option Value} {H : Hp} {a dx : Addr} {x1 x2 : V} {R : Addr → Addr → Addr → List (Str × V) → Prop} (T : Tx K mg) (h : H a = some (.ins (He.ga K "Memory") dx (fl_Memory x1 x2))) (q : R a (He.ga K "Memory") dx (fl_Memory x1 x2)) :
    ∃ b C dy gs, V.ref a = V.ref b ∧ H b = some (.ins C dy gs) ∧ Cls K C ∧ NoAttr K C "size" ∧ gs.length < 1000 ∧ R b C dy gs := ⟨a, _, dx, _, rfl, h, T.cl_Memory, T.na_Memory_size, (by show 2 < 1000; decide), q⟩
theorem ne_words_size : ¬ ("words" : Str) = "size" := by decide +kernel
theorem lk_Memory_words {x1 x2 : V} : (fl_Memory x1 x2).lookup ("words" : Str) = some x2 := Eq.trans (lk_miss ne_words_size) (lk_hit)
theorem rd_Memory_words {K : PySem.W.Frag} {mg : Str → Option Value} {H : Hp} {a dx : Addr} {x1 x2 : V} {R : V → Prop} (T : Tx K mg) (h : H a = some (.ins (He.ga K "Memory") dx (fl_Memory x1 x2))) (q : R x2) :
    ∃ b C dy gs v, V.ref a = V.ref b ∧ H b = some (.ins C dy gs) ∧ Cls K C ∧ NoAttr K C "words" ∧ gs.lookup ("words" : Str) = some v ∧ R v := ⟨a, _, dx, _, _, rfl, h, T.cl_Memory, T.na_Memory_words, lk_Memory_words, q⟩
theorem ne_size_words : ¬ ("size" : Str) = "words" := by decide +kernel
theorem pf_Memory_words {x1 x2 y : V} : putF "words" y (fl_Memory x1 x2) = fl_Memory x1 y := Eq.trans (pf_miss ne_size_words) (congrArg (List.cons _) (pf_hit))
theorem st_Memory_words {K : PySem.W.Frag} {mg : Str → Option Value} {H : Hp} {a dx : Addr} {x1 x2 : V} {R : Addr → Addr → Addr → List (Str × V) → Prop} (T : Tx K mg) (h : H a = some (.ins (He.ga K "Memory") dx (fl_Memory x1 x2))) (q : R a (He.ga K "Memory") dx (fl_Memory x1 x2)) :
    ∃ b C dy gs, V.ref a = V.ref b ∧ H b = some (.ins C dy gs) ∧ Cls K C ∧ NoAttr K C "words" ∧ gs.length < 1000 ∧ R b C dy gs := ⟨a, _, dx, _, rfl, h, T.cl_Memory, T.na_Memory_words, (by show 2 < 1000; decide), q⟩
theorem in_Memory_size {x1 : V} : putF "size" x1 ([] : List (Str × V)) = ([("size", x1)] : List (Str × V)) := rfl
theorem ini_Memory_size {K : PySem.W.Frag} {mg : Str → Option Value} {H : Hp} {a dx : Addr}  {R : Addr → Addr → Addr → List (Str × V) → Prop} (T : Tx K mg) (h : H a = some (.ins (He.ga K "Memory") dx [])) (q : R a (He.ga K "Memory") dx []) :
    ∃ b C dy gs, V.ref a = V.ref b ∧ H b = some (.ins C dy gs) ∧ Cls K C ∧ NoAttr K C "size" ∧ gs.length < 1000 ∧ R b C dy gs := ⟨a, _, dx, _, rfl, h, T.cl_Memory, T.na_Memory_size, (by show 0 < 1000; decide), q⟩
theorem in_Memory_words {x1 x2 : V} : putF "words" x2 ([("size", x1)] : List (Str × V)) = ([("size", x1), ("words", x2)] : List (Str × V)) := Eq.trans (pf_miss ne_size_words) (congrArg (List.cons _) (rfl))
theorem ini_Memory_words {K : PySem.W.Frag} {mg : Str → Option Value} {H : Hp} {a dx : Addr} {x1 : V} {R : Addr → Addr → Addr → List (Str × V) → Prop} (T : Tx K mg) (h : H a = some (.ins (He.ga K "Memory") dx [("size", x1)])) (q : R a (He.ga K "Memory") dx [("size", x1)]) :
    ∃ b C dy gs, V.ref a = V.ref b ∧ H b = some (.ins C dy gs) ∧ Cls K C ∧ NoAttr K C "words" ∧ gs.length < 1000 ∧ R b C dy gs := ⟨a, _, dx, _, rfl, h, T.cl_Memory, T.na_Memory_words, (by show 1 < 1000; decide), q⟩
theorem ne_need_words : ¬ ("need" : Str) = "words" := by decide +kernel
theorem ne_need_size : ¬ ("need" : Str) = "size" := by decide +kernel
theorem no_Memory_need {x1 x2 : V} : (fl_Memory x1 x2).lookup ("need" : Str) = none := Eq.trans (lk_miss ne_need_size) (Eq.trans (lk_miss ne_need_words) (lk_nil))
theorem me_Memory_need {K : PySem.W.Frag} {H : Hp} {a dx : Addr} {x1 x2 : V} {R : Prop} (h : H a = some (.ins (He.ga K "Memory") dx (fl_Memory x1 x2))) (q : R) :
    ∃ b dy gs, V.ref a = V.ref b ∧ H b = some (.ins (He.ga K "Memory") dy gs) ∧ gs.lookup ("need" : Str) = none ∧ R := ⟨a, dx, _, rfl, h, no_Memory_need, q⟩
theorem ne_read_words : ¬ ("read" : Str) = "words" := by decide +kernel
theorem ne_read_size : ¬ ("read" : Str) = "size" := by decide +kernel
theorem no_Memory_read {x1 x2 : V} : (fl_Memory x1 x2).lookup ("read" : Str) = none := Eq.trans (lk_miss ne_read_size) (Eq.trans (lk_miss ne_read_words) (lk_nil))
theorem me_Memory_read {K : PySem.W.Frag} {H : Hp} {a dx : Addr} {x1 x2 : V} {R : Prop} (h : H a = some (.ins (He.ga K "Memory") dx (fl_Memory x1 x2))) (q : R) :
    ∃ b dy gs, V.ref a = V.ref b ∧ H b = some (.ins (He.ga K "Memory") dy gs) ∧ gs.lookup ("read" : Str) = none ∧ R := ⟨a, dx, _, rfl, h, no_Memory_read, q⟩
theorem ne_write_words : ¬ ("write" : Str) = "words" := by decide +kernel
theorem ne_write_size : ¬ ("write" : Str) = "size" := by decide +kernel
theorem no_Memory_write {x1 x2 : V} : (fl_Memory x1 x2).lookup ("write" : Str) = none := Eq.trans (lk_miss ne_write_size) (Eq.trans (lk_miss ne_write_words) (lk_nil))
theorem me_Memory_write {K : PySem.W.Frag} {H : Hp} {a dx : Addr} {x1 x2 : V} {R : Prop} (h : H a = some (.ins (He.ga K "Memory") dx (fl_Memory x1 x2))) (q : R) :
    ∃ b dy gs, V.ref a = V.ref b ∧ H b = some (.ins (He.ga K "Memory") dy gs) ∧ gs.lookup ("write" : Str) = none ∧ R := ⟨a, dx, _, rfl, h, no_Memory_write, q⟩
theorem ne_need_stretch_words : ¬ ("need_stretch" : Str) = "words" := by decide +kernel
theorem ne_need_stretch_size : ¬ ("need_stretch" : Str) = "size" := by decide +kernel
theorem no_Memory_need_stretch {x1 x2 : V} : (fl_Memory x1 x2).lookup ("need_stretch" : Str) = none := Eq.trans (lk_miss ne_need_stretch_size) (Eq.trans (lk_miss ne_need_stretch_words) (lk_nil))
theorem me_Memory_need_stretch {K : PySem.W.Frag} {H : Hp} {a dx : Addr} {x1 x2 : V} {R : Prop} (h : H a = some (.ins (He.ga K "Memory") dx (fl_Memory x1 x2))) (q : R) :
    ∃ b dy gs, V.ref a = V.ref b ∧ H b = some (.ins (He.ga K "Memory") dy gs) ∧ gs.lookup ("need_stretch" : Str) = none ∧ R := ⟨a, dx, _, rfl, h, no_Memory_need_stretch, q⟩
theorem ne_copy_words : ¬ ("copy" : Str) = "words" := by decide +kernel
theorem ne_copy_size : ¬ ("copy" : Str) = "size" := by decide +kernel
theorem no_Memory_copy {x1 x2 : V} : (fl_Memory x1 x2).lookup ("copy" : Str) = none := Eq.trans (lk_miss ne_copy_size) (Eq.trans (lk_miss ne_copy_words) (lk_nil))
theorem me_Memory_copy {K : PySem.W.Frag} {H : Hp} {a dx : Addr} {x1 x2 : V} {R : Prop} (h : H a = some (.ins (He.ga K "Memory") dx (fl_Memory x1 x2))) (q : R) :
    ∃ b dy gs, V.ref a = V.ref b ∧ H b = some (.ins (He.ga K "Memory") dy gs) ∧ gs.lookup ("copy" : Str) = none ∧ R := ⟨a, dx, _, rfl, h, no_Memory_copy, q⟩
def fl_Space (x1 x2 x3 : V) : List (Str × V) := [("begin", x1), ("end", x2), ("top", x3)]
theorem lk_Space_begin {x1 x2 x3 : V} : (fl_Space x1 x2 x3).lookup ("begin" : Str) = some x1 := lk_hit
theorem rd_Space_begin {K : PySem.W.Frag} {mg : Str → Option Value} {H : Hp} {a dx : Addr} {x1 x2 x3 : V} {R : V → Prop} (T : Tx K mg) (h : H a = some (.ins (He.ga K "Space") dx (fl_Space x1 x2 x3))) (q : R x1) :
    ∃ b C dy gs v, V.ref a = V.ref b ∧ H b = some (.ins C dy gs) ∧ Cls K C ∧ NoAttr K C "begin" ∧ gs.lookup ("begin" : Str) = some v ∧ R v := ⟨a, _, dx, _, _, rfl, h, T.cl_Space, T.na_Space_begin, lk_Space_begin, q⟩
theorem pf_Space_begin {x1 x2 x3 y : V} : putF "begin" y (fl_Space x1 x2 x3) = fl_Space y x2 x3 := pf_hit
theorem st_Space_begin {K : PySem.W.Frag} {mg : Str → Option Value} {H : Hp} {a dx : Addr} {x1 x2 x3 : V} {R : Addr → Addr → Addr → List (Str × V) → Prop} (T : Tx K mg) (h : H a = some (.ins (He.ga K "Space") dx (fl_Space x1 x2 x3))) (q : R a (He.ga K "Space") dx (fl_Space x1 x2 x3)) :
    ∃ b C dy gs, V.ref a = V.ref b ∧ H b = some (.ins C dy gs) ∧ Cls K C ∧ NoAttr K C "begin" ∧ gs.length < 1000 ∧ R b C dy gs := ⟨a, _, dx, _, rfl, h, T.cl_Space, T.na_Space_begin, (by show 3 < 1000; decide), q⟩
theorem ne_end_begin : ¬ ("end" : Str) = "begin" := by decide +kernel
theorem lk_Space_end {x1 x2 x3 : V} : (fl_Space x1 x2 x3).lookup ("end" : Str) = some x2 := Eq.trans (lk_miss ne_end_begin) (lk_hit)
theorem rd_Space_end {K : PySem.W.Frag} {mg : Str → Option Value} {H : Hp} {a dx : Addr} {x1 x2 x3 : V} {R : V → Prop} (T : Tx K mg) (h : H a = some (.ins (He.ga K "Space") dx (fl_Space x1 x2 x3))) (q : R x2) :
    ∃ b C dy gs v, V.ref a = V.ref b ∧ H b = some (.ins C dy gs) ∧ Cls K C ∧ NoAttr K C "end" ∧ gs.lookup ("end" : Str) = some v ∧ R v := ⟨a, _, dx, _, _, rfl, h, T.cl_Space, T.na_Space_end, lk_Space_end, q⟩
theorem ne_begin_end : ¬ ("begin" : Str) = "end" := by decide +kernel
theorem pf_Space_end {x1 x2 x3 y : V} : putF "end" y (fl_Space x1 x2 x3) = fl_Space x1 y x3 := Eq.trans (pf_miss ne_begin_end) (congrArg (List.cons _) (pf_hit))
theorem st_Space_end {K : PySem.W.Frag} {mg : Str → Option Value} {H : Hp} {a dx : Addr} {x1 x2 x3 : V} {R : Addr → Addr → Addr → List (Str × V) → Prop} (T : Tx K mg) (h : H a = some (.ins (He.ga K "Space") dx (fl_Space x1 x2 x3))) (q : R a (He.ga K "Space") dx (fl_Space x1 x2 x3)) :
    ∃ b C dy gs, V.ref a = V.ref b ∧ H b = some (.ins C dy gs) ∧ Cls K C ∧ NoAttr K C "end" ∧ gs.length < 1000 ∧ R b C dy gs := ⟨a, _, dx, _, rfl, h, T.cl_Space, T.na_Space_end, (by show 3 < 1000; decide), q⟩
theorem ne_top_end : ¬ ("top" : Str) = "end" := by decide +kernel
theorem ne_top_begin : ¬ ("top" : Str) = "begin" := by decide +kernel
theorem lk_Space_top {x1 x2 x3 : V} : (fl_Space x1 x2 x3).lookup ("top" : Str) = some x3 := Eq.trans (lk_miss ne_top_begin) (Eq.trans (lk_miss ne_top_end) (lk_hit))
theorem rd_Space_top {K : PySem.W.Frag} {mg : Str → Option Value} {H : Hp} {a dx : Addr} {x1 x2 x3 : V} {R : V → Prop} (T : Tx K mg) (h : H a = some (.ins (He.ga K "Space") dx (fl_Space x1 x2 x3))) (q : R x3) :
    ∃ b C dy gs v, V.ref a = V.ref b ∧ H b = some (.ins C dy gs) ∧ Cls K C ∧ NoAttr K C "top" ∧ gs.lookup ("top" : Str) = some v ∧ R v := ⟨a, _, dx, _, _, rfl, h, T.cl_Space, T.na_Space_top, lk_Space_top, q⟩
theorem ne_end_top : ¬ ("end" : Str) = "top" := by decide +kernel
theorem ne_begin_top : ¬ ("begin" : Str) = "top" := by decide +kernel
theorem pf_Space_top {x1 x2 x3 y : V} : putF "top" y (fl_Space x1 x2 x3) = fl_Space x1 x2 y := Eq.trans (pf_miss ne_begin_top) (congrArg (List.cons _) (Eq.trans (pf_miss ne_end_top) (congrArg (List.cons _) (pf_hit))))
theorem st_Space_top {K : PySem.W.Frag} {mg : Str → Option Value} {H : Hp} {a dx : Addr} {x1 x2 x3 : V} {R : Addr → Addr → Addr → List (Str × V) → Prop} (T : Tx K mg) (h : H a = some (.ins (He.ga K "Space") dx (fl_Space x1 x2 x3))) (q : R a (He.ga K "Space") dx (fl_Space x1 x2 x3)) :
    ∃ b C dy gs, V.ref a = V.ref b ∧ H b = some (.ins C dy gs) ∧ Cls K C ∧ NoAttr K C "top" ∧ gs.length < 1000 ∧ R b C dy gs := ⟨a, _, dx, _, rfl, h, T.cl_Space, T.na_Space_top, (by show 3 < 1000; decide), q⟩
theorem in_Space_begin {x1 : V} : putF "begin" x1 ([] : List (Str × V)) = ([("begin", x1)] : List (Str × V)) := rfl
theorem ini_Space_begin {K : PySem.W.Frag} {mg : Str → Option Value} {H : Hp} {a dx : Addr}  {R : Addr → Addr → Addr → List (Str × V) → Prop} (T : Tx K mg) (h : H a = some (.ins (He.ga K "Space") dx [])) (q : R a (He.ga K "Space") dx []) :
    ∃ b C dy gs, V.ref a = V.ref b ∧ H b = some (.ins C dy gs) ∧ Cls K C ∧ NoAttr K C "begin" ∧ gs.length < 1000 ∧ R b C dy gs := ⟨a, _, dx, _, rfl, h, T.cl_Space, T.na_Space_begin, (by show 0 < 1000; decide), q⟩
theorem in_Space_end {x1 x2 : V} : putF "end" x2 ([("begin", x1)] : List (Str × V)) = ([("begin", x1), ("end", x2)] : List (Str × V)) := Eq.trans (pf_miss ne_begin_end) (congrArg (List.cons _) (rfl))
theorem ini_Space_end {K : PySem.W.Frag} {mg : Str → Option Value} {H : Hp} {a dx : Addr} {x1 : V} {R : Addr → Addr → Addr → List (Str × V) → Prop} (T : Tx K mg) (h : H a = some (.ins (He.ga K "Space") dx [("begin", x1)])) (q : R a (He.ga K "Space") dx [("begin", x1)]) :
    ∃ b C dy gs, V.ref a = V.ref b ∧ H b = some (.ins C dy gs) ∧ Cls K C ∧ NoAttr K C "end" ∧ gs.length < 1000 ∧ R b C dy gs := ⟨a, _, dx, _, rfl, h, T.cl_Space, T.na_Space_end, (by show 1 < 1000; decide), q⟩
theorem in_Space_top {x1 x2 x3 : V} : putF "top" x3 ([("begin", x1), ("end", x2)] : List (Str × V)) = ([("begin", x1), ("end", x2), ("top", x3)] : List (Str × V)) := Eq.trans (pf_miss ne_begin_top) (congrArg (List.cons _) (Eq.trans (pf_miss ne_end_top) (congrArg (List.cons _) (rfl))))
theorem ini_Space_top {K : PySem.W.Frag} {mg : Str → Option Value} {H : Hp} {a dx : Addr} {x1 x2 : V} {R : Addr → Addr → Addr → List (Str × V) → Prop} (T : Tx K mg) (h : H a = some (.ins (He.ga K "Space") dx [("begin", x1), ("end", x2)])) (q : R a (He.ga K "Space") dx [("begin", x1), ("end", x2)]) :
    ∃ b C dy gs, V.ref a = V.ref b ∧ H b = some (.ins C dy gs) ∧ Cls K C ∧ NoAttr K C "top" ∧ gs.length < 1000 ∧ R b C dy gs := ⟨a, _, dx, _, rfl, h, T.cl_Space, T.na_Space_top, (by show 2 < 1000; decide), q⟩
theorem ne_room_top : ¬ ("room" : Str) = "top" := by decide +kernel
theorem ne_room_end : ¬ ("room" : Str) = "end" := by decide +kernel
theorem ne_room_begin : ¬ ("room" : Str) = "begin" := by decide +kernel
theorem no_Space_room {x1 x2 x3 : V} : (fl_Space x1 x2 x3).lookup ("room" : Str) = none := Eq.trans (lk_miss ne_room_begin) (Eq.trans (lk_miss ne_room_end) (Eq.trans (lk_miss ne_room_top) (lk_nil)))
theorem me_Space_room {K : PySem.W.Frag} {H : Hp} {a dx : Addr} {x1 x2 x3 : V} {R : Prop} (h : H a = some (.ins (He.ga K "Space") dx (fl_Space x1 x2 x3))) (q : R) :
    ∃ b dy gs, V.ref a = V.ref b ∧ H b = some (.ins (He.ga K "Space") dy gs) ∧ gs.lookup ("room" : Str) = none ∧ R := ⟨a, dx, _, rfl, h, no_Space_room, q⟩
theorem ne_used_top : ¬ ("used" : Str) = "top" := by decide +kernel
theorem ne_used_end : ¬ ("used" : Str) = "end" := by decide +kernel
theorem ne_used_begin : ¬ ("used" : Str) = "begin" := by decide +kernel
theorem no_Space_used {x1 x2 x3 : V} : (fl_Space x1 x2 x3).lookup ("used" : Str) = none := Eq.trans (lk_miss ne_used_begin) (Eq.trans (lk_miss ne_used_end) (Eq.trans (lk_miss ne_used_top) (lk_nil)))
theorem me_Space_used {K : PySem.W.Frag} {H : Hp} {a dx : Addr} {x1 x2 x3 : V} {R : Prop} (h : H a = some (.ins (He.ga K "Space") dx (fl_Space x1 x2 x3))) (q : R) :
    ∃ b dy gs, V.ref a = V.ref b ∧ H b = some (.ins (He.ga K "Space") dy gs) ∧ gs.lookup ("used" : Str) = none ∧ R := ⟨a, dx, _, rfl, h, no_Space_used, q⟩
theorem ne_has_top : ¬ ("has" : Str) = "top" := by decide +kernel
theorem ne_has_end : ¬ ("has" : Str) = "end" := by decide +kernel
theorem ne_has_begin : ¬ ("has" : Str) = "begin" := by decide +kernel
theorem no_Space_has {x1 x2 x3 : V} : (fl_Space x1 x2 x3).lookup ("has" : Str) = none := Eq.trans (lk_miss ne_has_begin) (Eq.trans (lk_miss ne_has_end) (Eq.trans (lk_miss ne_has_top) (lk_nil)))
theorem me_Space_has {K : PySem.W.Frag} {H : Hp} {a dx : Addr} {x1 x2 x3 : V} {R : Prop} (h : H a = some (.ins (He.ga K "Space") dx (fl_Space x1 x2 x3))) (q : R) :
    ∃ b dy gs, V.ref a = V.ref b ∧ H b = some (.ins (He.ga K "Space") dy gs) ∧ gs.lookup ("has" : Str) = none ∧ R := ⟨a, dx, _, rfl, h, no_Space_has, q⟩
theorem ne_take_top : ¬ ("take" : Str) = "top" := by decide +kernel
theorem ne_take_end : ¬ ("take" : Str) = "end" := by decide +kernel
theorem ne_take_begin : ¬ ("take" : Str) = "begin" := by decide +kernel
theorem no_Space_take {x1 x2 x3 : V} : (fl_Space x1 x2 x3).lookup ("take" : Str) = none := Eq.trans (lk_miss ne_take_begin) (Eq.trans (lk_miss ne_take_end) (Eq.trans (lk_miss ne_take_top) (lk_nil)))
theorem me_Space_take {K : PySem.W.Frag} {H : Hp} {a dx : Addr} {x1 x2 x3 : V} {R : Prop} (h : H a = some (.ins (He.ga K "Space") dx (fl_Space x1 x2 x3))) (q : R) :
    ∃ b dy gs, V.ref a = V.ref b ∧ H b = some (.ins (He.ga K "Space") dy gs) ∧ gs.lookup ("take" : Str) = none ∧ R := ⟨a, dx, _, rfl, h, no_Space_take, q⟩
theorem ne_empty_top : ¬ ("empty" : Str) = "top" := by decide +kernel
theorem ne_empty_end : ¬ ("empty" : Str) = "end" := by decide +kernel
theorem ne_empty_begin : ¬ ("empty" : Str) = "begin" := by decide +kernel
theorem no_Space_empty {x1 x2 x3 : V} : (fl_Space x1 x2 x3).lookup ("empty" : Str) = none := Eq.trans (lk_miss ne_empty_begin) (Eq.trans (lk_miss ne_empty_end) (Eq.trans (lk_miss ne_empty_top) (lk_nil)))
theorem me_Space_empty {K : PySem.W.Frag} {H : Hp} {a dx : Addr} {x1 x2 x3 : V} {R : Prop} (h : H a = some (.ins (He.ga K "Space") dx (fl_Space x1 x2 x3))) (q : R) :
    ∃ b dy gs, V.ref a = V.ref b ∧ H b = some (.ins (He.ga K "Space") dy gs) ∧ gs.lookup ("empty" : Str) = none ∧ R := ⟨a, dx, _, rfl, h, no_Space_empty, q⟩
theorem ne_cut_top : ¬ ("cut" : Str) = "top" := by decide +kernel
theorem ne_cut_end : ¬ ("cut" : Str) = "end" := by decide +kernel
theorem ne_cut_begin : ¬ ("cut" : Str) = "begin" := by decide +kernel
theorem no_Space_cut {x1 x2 x3 : V} : (fl_Space x1 x2 x3).lookup ("cut" : Str) = none := Eq.trans (lk_miss ne_cut_begin) (Eq.trans (lk_miss ne_cut_end) (Eq.trans (lk_miss ne_cut_top) (lk_nil)))
theorem me_Space_cut {K : PySem.W.Frag} {H : Hp} {a dx : Addr} {x1 x2 x3 : V} {R : Prop} (h : H a = some (.ins (He.ga K "Space") dx (fl_Space x1 x2 x3))) (q : R) :
    ∃ b dy gs, V.ref a = V.ref b ∧ H b = some (.ins (He.ga K "Space") dy gs) ∧ gs.lookup ("cut" : Str) = none ∧ R := ⟨a, dx, _, rfl, h, no_Space_cut, q⟩
theorem ne_cells_top : ¬ ("cells" : Str) = "top" := by decide +kernel
theorem ne_cells_end : ¬ ("cells" : Str) = "end" := by decide +kernel
theorem ne_cells_begin : ¬ ("cells" : Str) = "begin" := by decide +kernel
theorem no_Space_cells {x1 x2 x3 : V} : (fl_Space x1 x2 x3).lookup ("cells" : Str) = none := Eq.trans (lk_miss ne_cells_begin) (Eq.trans (lk_miss ne_cells_end) (Eq.trans (lk_miss ne_cells_top) (lk_nil)))
theorem me_Space_cells {K : PySem.W.Frag} {H : Hp} {a dx : Addr} {x1 x2 x3 : V} {R : Prop} (h : H a = some (.ins (He.ga K "Space") dx (fl_Space x1 x2 x3))) (q : R) :
    ∃ b dy gs, V.ref a = V.ref b ∧ H b = some (.ins (He.ga K "Space") dy gs) ∧ gs.lookup ("cells" : Str) = none ∧ R := ⟨a, dx, _, rfl, h, no_Space_cells, q⟩
def fl_Areas (x1 x2 x3 x4 : V) : List (Str × V) := [("memory", x1), ("old", x2), ("young", x3), ("spare", x4)]
theorem lk_Areas_memory {x1 x2 x3 x4 : V} : (fl_Areas x1 x2 x3 x4).lookup ("memory" : Str) = some x1 := lk_hit
theorem rd_Areas_memory {K : PySem.W.Frag} {mg : Str → Option Value} {H : Hp} {a dx : Addr} {x1 x2 x3 x4 : V} {R : V → Prop} (T : Tx K mg) (h : H a = some (.ins (He.ga K "Areas") dx (fl_Areas x1 x2 x3 x4))) (q : R x1) :
    ∃ b C dy gs v, V.ref a = V.ref b ∧ H b = some (.ins C dy gs) ∧ Cls K C ∧ NoAttr K C "memory" ∧ gs.lookup ("memory" : Str) = some v ∧ R v := ⟨a, _, dx, _, _, rfl, h, T.cl_Areas, T.na_Areas_memory, lk_Areas_memory, q⟩
theorem pf_Areas_memory {x1 x2 x3 x4 y : V} : putF "memory" y (fl_Areas x1 x2 x3 x4) = fl_Areas y x2 x3 x4 := pf_hit
theorem st_Areas_memory {K : PySem.W.Frag} {mg : Str → Option Value} {H : Hp} {a dx : Addr} {x1 x2 x3 x4 : V} {R : Addr → Addr → Addr → List (Str × V) → Prop} (T : Tx K mg) (h : H a = some (.ins (He.ga K "Areas") dx (fl_Areas x1 x2 x3 x4))) (q : R a (He.ga K "Areas") dx (fl_Areas x1 x2 x3 x4)) :
    ∃ b C dy gs, V.ref a = V.ref b ∧ H b = some (.ins C dy gs) ∧ Cls K C ∧ NoAttr K C "memory" ∧ gs.length < 1000 ∧ R b C dy gs := ⟨a, _, dx, _, rfl, h, T.cl_Areas, T.na_Areas_memory, (by show 4 < 1000; decide), q⟩
theorem ne_old_memory : ¬ ("old" : Str) = "memory" := by decide +kernel
theorem lk_Areas_old {x1 x2 x3 x4 : V} : (fl_Areas x1 x2 x3 x4).lookup ("old" : Str) = some x2 := Eq.trans (lk_miss ne_old_memory) (lk_hit)
theorem rd_Areas_old {K : PySem.W.Frag} {mg : Str → Option Value} {H : Hp} {a dx : Addr} {x1 x2 x3 x4 : V} {R : V → Prop} (T : Tx K mg) (h : H a = some (.ins (He.ga K "Areas") dx (fl_Areas x1 x2 x3 x4))) (q : R x2) :
    ∃ b C dy gs v, V.ref a = V.ref b ∧ H b = some (.ins C dy gs) ∧ Cls K C ∧ NoAttr K C "old" ∧ gs.lookup ("old" : Str) = some v ∧ R v := ⟨a, _, dx, _, _, rfl, h, T.cl_Areas, T.na_Areas_old, lk_Areas_old, q⟩
theorem ne_memory_old : ¬ ("memory" : Str) = "old" := by decide +kernel
theorem pf_Areas_old {x1 x2 x3 x4 y : V} : putF "old" y (fl_Areas x1 x2 x3 x4) = fl_Areas x1 y x3 x4 := Eq.trans (pf_miss ne_memory_old) (congrArg (List.cons _) (pf_hit))
theorem st_Areas_old {K : PySem.W.Frag} {mg : Str → Option Value} {H : Hp} {a dx : Addr} {x1 x2 x3 x4 : V} {R : Addr → Addr → Addr → List (Str × V) → Prop} (T : Tx K mg) (h : H a = some (.ins (He.ga K "Areas") dx (fl_Areas x1 x2 x3 x4))) (q : R a (He.ga K "Areas") dx (fl_Areas x1 x2 x3 x4)) :
    ∃ b C dy gs, V.ref a = V.ref b ∧ H b = some (.ins C dy gs) ∧ Cls K C ∧ NoAttr K C "old" ∧ gs.length < 1000 ∧ R b C dy gs := ⟨a, _, dx, _, rfl, h, T.cl_Areas, T.na_Areas_old, (by show 4 < 1000; decide), q⟩
theorem ne_young_old : ¬ ("young" : Str) = "old" := by decide +kernel
theorem ne_young_memory : ¬ ("young" : Str) = "memory" := by decide +kernel
theorem lk_Areas_young {x1 x2 x3 x4 : V} : (fl_Areas x1 x2 x3 x4).lookup ("young" : Str) = some x3 := Eq.trans (lk_miss ne_young_memory) (Eq.trans (lk_miss ne_young_old) (lk_hit))
theorem rd_Areas_young {K : PySem.W.Frag} {mg : Str → Option Value} {H : Hp} {a dx : Addr} {x1 x2 x3 x4 : V} {R : V → Prop} (T : Tx K mg) (h : H a = some (.ins (He.ga K "Areas") dx (fl_Areas x1 x2 x3 x4))) (q : R x3) :
    ∃ b C dy gs v, V.ref a = V.ref b ∧ H b = some (.ins C dy gs) ∧ Cls K C ∧ NoAttr K C "young" ∧ gs.lookup ("young" : Str) = some v ∧ R v := ⟨a, _, dx, _, _, rfl, h, T.cl_Areas, T.na_Areas_young, lk_Areas_young, q⟩
theorem ne_old_young : ¬ ("old" : Str) = "young" := by decide +kernel
theorem ne_memory_young : ¬ ("memory" : Str) = "young" := by decide +kernel
theorem pf_Areas_young {x1 x2 x3 x4 y : V} : putF "young" y (fl_Areas x1 x2 x3 x4) = fl_Areas x1 x2 y x4 := Eq.trans (pf_miss ne_memory_young) (congrArg (List.cons _) (Eq.trans (pf_miss ne_old_young) (congrArg (List.cons _) (pf_hit))))
theorem st_Areas_young {K : PySem.W.Frag} {mg : Str → Option Value} {H : Hp} {a dx : Addr} {x1 x2 x3 x4 : V} {R : Addr → Addr → Addr → List (Str × V) → Prop} (T : Tx K mg) (h : H a = some (.ins (He.ga K "Areas") dx (fl_Areas x1 x2 x3 x4))) (q : R a (He.ga K "Areas") dx (fl_Areas x1 x2 x3 x4)) :
    ∃ b C dy gs, V.ref a = V.ref b ∧ H b = some (.ins C dy gs) ∧ Cls K C ∧ NoAttr K C "young" ∧ gs.length < 1000 ∧ R b C dy gs := ⟨a, _, dx, _, rfl, h, T.cl_Areas, T.na_Areas_young, (by show 4 < 1000; decide), q⟩
theorem ne_spare_young : ¬ ("spare" : Str) = "young" := by decide +kernel
theorem ne_spare_old : ¬ ("spare" : Str) = "old" := by decide +kernel
theorem ne_spare_memory : ¬ ("spare" : Str) = "memory" := by decide +kernel
theorem lk_Areas_spare {x1 x2 x3 x4 : V} : (fl_Areas x1 x2 x3 x4).lookup ("spare" : Str) = some x4 := Eq.trans (lk_miss ne_spare_memory) (Eq.trans (lk_miss ne_spare_old) (Eq.trans (lk_miss ne_spare_young) (lk_hit)))
theorem rd_Areas_spare {K : PySem.W.Frag} {mg : Str → Option Value} {H : Hp} {a dx : Addr} {x1 x2 x3 x4 : V} {R : V → Prop} (T : Tx K mg) (h : H a = some (.ins (He.ga K "Areas") dx (fl_Areas x1 x2 x3 x4))) (q : R x4) :
    ∃ b C dy gs v, V.ref a = V.ref b ∧ H b = some (.ins C dy gs) ∧ Cls K C ∧ NoAttr K C "spare" ∧ gs.lookup ("spare" : Str) = some v ∧ R v := ⟨a, _, dx, _, _, rfl, h, T.cl_Areas, T.na_Areas_spare, lk_Areas_spare, q⟩
theorem ne_young_spare : ¬ ("young" : Str) = "spare" := by decide +kernel
theorem ne_old_spare : ¬ ("old" : Str) = "spare" := by decide +kernel
theorem ne_memory_spare : ¬ ("memory" : Str) = "spare" := by decide +kernel
theorem pf_Areas_spare {x1 x2 x3 x4 y : V} : putF "spare" y (fl_Areas x1 x2 x3 x4) = fl_Areas x1 x2 x3 y := Eq.trans (pf_miss ne_memory_spare) (congrArg (List.cons _) (Eq.trans (pf_miss ne_old_spare) (congrArg (List.cons _) (Eq.trans (pf_miss ne_young_spare) (congrArg (List.cons _) (pf_hit))))))
theorem st_Areas_spare {K : PySem.W.Frag} {mg : Str → Option Value} {H : Hp} {a dx : Addr} {x1 x2 x3 x4 : V} {R : Addr → Addr → Addr → List (Str × V) → Prop} (T : Tx K mg) (h : H a = some (.ins (He.ga K "Areas") dx (fl_Areas x1 x2 x3 x4))) (q : R a (He.ga K "Areas") dx (fl_Areas x1 x2 x3 x4)) :
    ∃ b C dy gs, V.ref a = V.ref b ∧ H b = some (.ins C dy gs) ∧ Cls K C ∧ NoAttr K C "spare" ∧ gs.length < 1000 ∧ R b C dy gs := ⟨a, _, dx, _, rfl, h, T.cl_Areas, T.na_Areas_spare, (by show 4 < 1000; decide), q⟩
theorem in_Areas_memory {x1 : V} : putF "memory" x1 ([] : List (Str × V)) = ([("memory", x1)] : List (Str × V)) := rfl
theorem ini_Areas_memory {K : PySem.W.Frag} {mg : Str → Option Value} {H : Hp} {a dx : Addr}  {R : Addr → Addr → Addr → List (Str × V) → Prop} (T : Tx K mg) (h : H a = some (.ins (He.ga K "Areas") dx [])) (q : R a (He.ga K "Areas") dx []) :
    ∃ b C dy gs, V.ref a = V.ref b ∧ H b = some (.ins C dy gs) ∧ Cls K C ∧ NoAttr K C "memory" ∧ gs.length < 1000 ∧ R b C dy gs := ⟨a, _, dx, _, rfl, h, T.cl_Areas, T.na_Areas_memory, (by show 0 < 1000; decide), q⟩
theorem in_Areas_old {x1 x2 : V} : putF "old" x2 ([("memory", x1)] : List (Str × V)) = ([("memory", x1), ("old", x2)] : List (Str × V)) := Eq.trans (pf_miss ne_memory_old) (congrArg (List.cons _) (rfl))
theorem ini_Areas_old {K : PySem.W.Frag} {mg : Str → Option Value} {H : Hp} {a dx : Addr} {x1 : V} {R : Addr → Addr → Addr → List (Str × V) → Prop} (T : Tx K mg) (h : H a = some (.ins (He.ga K "Areas") dx [("memory", x1)])) (q : R a (He.ga K "Areas") dx [("memory", x1)]) :
    ∃ b C dy gs, V.ref a = V.ref b ∧ H b = some (.ins C dy gs) ∧ Cls K C ∧ NoAttr K C "old" ∧ gs.length < 1000 ∧ R b C dy gs := ⟨a, _, dx, _, rfl, h, T.cl_Areas, T.na_Areas_old, (by show 1 < 1000; decide), q⟩
theorem in_Areas_young {x1 x2 x3 : V} : putF "young" x3 ([("memory", x1), ("old", x2)] : List (Str × V)) = ([("memory", x1), ("old", x2), ("young", x3)] : List (Str × V)) := Eq.trans (pf_miss ne_memory_young) (congrArg (List.cons _) (Eq.trans (pf_miss ne_old_young) (congrArg (List.cons _) (rfl))))
theorem ini_Areas_young {K : PySem.W.Frag} {mg : Str → Option Value} {H : Hp} {a dx : Addr} {x1 x2 : V} {R : Addr → Addr → Addr → List (Str × V) → Prop} (T : Tx K mg) (h : H a = some (.ins (He.ga K "Areas") dx [("memory", x1), ("old", x2)])) (q : R a (He.ga K "Areas") dx [("memory", x1), ("old", x2)]) :
    ∃ b C dy gs, V.ref a = V.ref b ∧ H b = some (.ins C dy gs) ∧ Cls K C ∧ NoAttr K C "young" ∧ gs.length < 1000 ∧ R b C dy gs := ⟨a, _, dx, _, rfl, h, T.cl_Areas, T.na_Areas_young, (by show 2 < 1000; decide), q⟩
theorem in_Areas_spare {x1 x2 x3 x4 : V} : putF "spare" x4 ([("memory", x1), ("old", x2), ("young", x3)] : List (Str × V)) = ([("memory", x1), ("old", x2), ("young", x3), ("spare", x4)] : List (Str × V)) := Eq.trans (pf_miss ne_memory_spare) (congrArg (List.cons _) (Eq.trans (pf_miss ne_old_spare) (congrArg (List.cons _) (Eq.trans (pf_miss ne_young_spare) (congrArg (List.cons _) (rfl))))))
theorem ini_Areas_spare {K : PySem.W.Frag} {mg : Str → Option Value} {H : Hp} {a dx : Addr} {x1 x2 x3 : V} {R : Addr → Addr → Addr → List (Str × V) → Prop} (T : Tx K mg) (h : H a = some (.ins (He.ga K "Areas") dx [("memory", x1), ("old", x2), ("young", x3)])) (q : R a (He.ga K "Areas") dx [("memory", x1), ("old", x2), ("young", x3)]) :
    ∃ b C dy gs, V.ref a = V.ref b ∧ H b = some (.ins C dy gs) ∧ Cls K C ∧ NoAttr K C "spare" ∧ gs.length < 1000 ∧ R b C dy gs := ⟨a, _, dx, _, rfl, h, T.cl_Areas, T.na_Areas_spare, (by show 3 < 1000; decide), q⟩
theorem ne_flip_spare : ¬ ("flip" : Str) = "spare" := by decide +kernel
theorem ne_flip_young : ¬ ("flip" : Str) = "young" := by decide +kernel
theorem ne_flip_old : ¬ ("flip" : Str) = "old" := by decide +kernel
theorem ne_flip_memory : ¬ ("flip" : Str) = "memory" := by decide +kernel
theorem no_Areas_flip {x1 x2 x3 x4 : V} : (fl_Areas x1 x2 x3 x4).lookup ("flip" : Str) = none := Eq.trans (lk_miss ne_flip_memory) (Eq.trans (lk_miss ne_flip_old) (Eq.trans (lk_miss ne_flip_young) (Eq.trans (lk_miss ne_flip_spare) (lk_nil))))
theorem me_Areas_flip {K : PySem.W.Frag} {H : Hp} {a dx : Addr} {x1 x2 x3 x4 : V} {R : Prop} (h : H a = some (.ins (He.ga K "Areas") dx (fl_Areas x1 x2 x3 x4))) (q : R) :
    ∃ b dy gs, V.ref a = V.ref b ∧ H b = some (.ins (He.ga K "Areas") dy gs) ∧ gs.lookup ("flip" : Str) = none ∧ R := ⟨a, dx, _, rfl, h, no_Areas_flip, q⟩
theorem ne_area_of_spare : ¬ ("area_of" : Str) = "spare" := by decide +kernel
theorem ne_area_of_young : ¬ ("area_of" : Str) = "young" := by decide +kernel
theorem ne_area_of_old : ¬ ("area_of" : Str) = "old" := by decide +kernel
theorem ne_area_of_memory : ¬ ("area_of" : Str) = "memory" := by decide +kernel
theorem no_Areas_area_of {x1 x2 x3 x4 : V} : (fl_Areas x1 x2 x3 x4).lookup ("area_of" : Str) = none := Eq.trans (lk_miss ne_area_of_memory) (Eq.trans (lk_miss ne_area_of_old) (Eq.trans (lk_miss ne_area_of_young) (Eq.trans (lk_miss ne_area_of_spare) (lk_nil))))
theorem me_Areas_area_of {K : PySem.W.Frag} {H : Hp} {a dx : Addr} {x1 x2 x3 x4 : V} {R : Prop} (h : H a = some (.ins (He.ga K "Areas") dx (fl_Areas x1 x2 x3 x4))) (q : R) :
    ∃ b dy gs, V.ref a = V.ref b ∧ H b = some (.ins (He.ga K "Areas") dy gs) ∧ gs.lookup ("area_of" : Str) = none ∧ R := ⟨a, dx, _, rfl, h, no_Areas_area_of, q⟩
theorem ne_lay_young_spare : ¬ ("lay_young" : Str) = "spare" := by decide +kernel
theorem ne_lay_young_young : ¬ ("lay_young" : Str) = "young" := by decide +kernel
theorem ne_lay_young_old : ¬ ("lay_young" : Str) = "old" := by decide +kernel
theorem ne_lay_young_memory : ¬ ("lay_young" : Str) = "memory" := by decide +kernel
theorem no_Areas_lay_young {x1 x2 x3 x4 : V} : (fl_Areas x1 x2 x3 x4).lookup ("lay_young" : Str) = none := Eq.trans (lk_miss ne_lay_young_memory) (Eq.trans (lk_miss ne_lay_young_old) (Eq.trans (lk_miss ne_lay_young_young) (Eq.trans (lk_miss ne_lay_young_spare) (lk_nil))))
theorem me_Areas_lay_young {K : PySem.W.Frag} {H : Hp} {a dx : Addr} {x1 x2 x3 x4 : V} {R : Prop} (h : H a = some (.ins (He.ga K "Areas") dx (fl_Areas x1 x2 x3 x4))) (q : R) :
    ∃ b dy gs, V.ref a = V.ref b ∧ H b = some (.ins (He.ga K "Areas") dy gs) ∧ gs.lookup ("lay_young" : Str) = none ∧ R := ⟨a, dx, _, rfl, h, no_Areas_lay_young, q⟩
theorem ne_lay_old_spare : ¬ ("lay_old" : Str) = "spare" := by decide +kernel
theorem ne_lay_old_young : ¬ ("lay_old" : Str) = "young" := by decide +kernel
theorem ne_lay_old_old : ¬ ("lay_old" : Str) = "old" := by decide +kernel
theorem ne_lay_old_memory : ¬ ("lay_old" : Str) = "memory" := by decide +kernel
theorem no_Areas_lay_old {x1 x2 x3 x4 : V} : (fl_Areas x1 x2 x3 x4).lookup ("lay_old" : Str) = none := Eq.trans (lk_miss ne_lay_old_memory) (Eq.trans (lk_miss ne_lay_old_old) (Eq.trans (lk_miss ne_lay_old_young) (Eq.trans (lk_miss ne_lay_old_spare) (lk_nil))))
theorem me_Areas_lay_old {K : PySem.W.Frag} {H : Hp} {a dx : Addr} {x1 x2 x3 x4 : V} {R : Prop} (h : H a = some (.ins (He.ga K "Areas") dx (fl_Areas x1 x2 x3 x4))) (q : R) :
    ∃ b dy gs, V.ref a = V.ref b ∧ H b = some (.ins (He.ga K "Areas") dy gs) ∧ gs.lookup ("lay_old" : Str) = none ∧ R := ⟨a, dx, _, rfl, h, no_Areas_lay_old, q⟩
def fl_Book (x1 : V) : List (Str × V) := [("marks", x1)]
theorem lk_Book_marks {x1 : V} : (fl_Book x1).lookup ("marks" : Str) = some x1 := lk_hit
theorem rd_Book_marks {K : PySem.W.Frag} {mg : Str → Option Value} {H : Hp} {a dx : Addr} {x1 : V} {R : V → Prop} (T : Tx K mg) (h : H a = some (.ins (He.ga K "Book") dx (fl_Book x1))) (q : R x1) :
    ∃ b C dy gs v, V.ref a = V.ref b ∧ H b = some (.ins C dy gs) ∧ Cls K C ∧ NoAttr K C "marks" ∧ gs.lookup ("marks" : Str) = some v ∧ R v := ⟨a, _, dx, _, _, rfl, h, T.cl_Book, T.na_Book_marks, lk_Book_marks, q⟩
theorem pf_Book_marks {x1 y : V} : putF "marks" y (fl_Book x1) = fl_Book y := pf_hit
theorem st_Book_marks {K : PySem.W.Frag} {mg : Str → Option Value} {H : Hp} {a dx : Addr} {x1 : V} {R : Addr → Addr → Addr → List (Str × V) → Prop} (T : Tx K mg) (h : H a = some (.ins (He.ga K "Book") dx (fl_Book x1))) (q : R a (He.ga K "Book") dx (fl_Book x1)) :
    ∃ b C dy gs, V.ref a = V.ref b ∧ H b = some (.ins C dy gs) ∧ Cls K C ∧ NoAttr K C "marks" ∧ gs.length < 1000 ∧ R b C dy gs := ⟨a, _, dx, _, rfl, h, T.cl_Book, T.na_Book_marks, (by show 1 < 1000; decide), q⟩
theorem in_Book_marks {x1 : V} : putF "marks" x1 ([] : List (Str × V)) = ([("marks", x1)] : List (Str × V)) := rfl
theorem ini_Book_marks {K : PySem.W.Frag} {mg : Str → Option Value} {H : Hp} {a dx : Addr}  {R : Addr → Addr → Addr → List (Str × V) → Prop} (T : Tx K mg) (h : H a = some (.ins (He.ga K "Book") dx [])) (q : R a (He.ga K "Book") dx []) :
    ∃ b C dy gs, V.ref a = V.ref b ∧ H b = some (.ins C dy gs) ∧ Cls K C ∧ NoAttr K C "marks" ∧ gs.length < 1000 ∧ R b C dy gs := ⟨a, _, dx, _, rfl, h, T.cl_Book, T.na_Book_marks, (by show 0 < 1000; decide), q⟩
theorem ne_write_marks : ¬ ("write" : Str) = "marks" := by decide +kernel
theorem no_Book_write {x1 : V} : (fl_Book x1).lookup ("write" : Str) = none := Eq.trans (lk_miss ne_write_marks) (lk_nil)
theorem me_Book_write {K : PySem.W.Frag} {H : Hp} {a dx : Addr} {x1 : V} {R : Prop} (h : H a = some (.ins (He.ga K "Book") dx (fl_Book x1))) (q : R) :
    ∃ b dy gs, V.ref a = V.ref b ∧ H b = some (.ins (He.ga K "Book") dy gs) ∧ gs.lookup ("write" : Str) = none ∧ R := ⟨a, dx, _, rfl, h, no_Book_write, q⟩
theorem ne_rub_marks : ¬ ("rub" : Str) = "marks" := by decide +kernel
theorem no_Book_rub {x1 : V} : (fl_Book x1).lookup ("rub" : Str) = none := Eq.trans (lk_miss ne_rub_marks) (lk_nil)
theorem me_Book_rub {K : PySem.W.Frag} {H : Hp} {a dx : Addr} {x1 : V} {R : Prop} (h : H a = some (.ins (He.ga K "Book") dx (fl_Book x1))) (q : R) :
    ∃ b dy gs, V.ref a = V.ref b ∧ H b = some (.ins (He.ga K "Book") dy gs) ∧ gs.lookup ("rub" : Str) = none ∧ R := ⟨a, dx, _, rfl, h, no_Book_rub, q⟩
theorem ne_has_marks : ¬ ("has" : Str) = "marks" := by decide +kernel
theorem no_Book_has {x1 : V} : (fl_Book x1).lookup ("has" : Str) = none := Eq.trans (lk_miss ne_has_marks) (lk_nil)
theorem me_Book_has {K : PySem.W.Frag} {H : Hp} {a dx : Addr} {x1 : V} {R : Prop} (h : H a = some (.ins (He.ga K "Book") dx (fl_Book x1))) (q : R) :
    ∃ b dy gs, V.ref a = V.ref b ∧ H b = some (.ins (He.ga K "Book") dy gs) ∧ gs.lookup ("has" : Str) = none ∧ R := ⟨a, dx, _, rfl, h, no_Book_has, q⟩
theorem ne_places_marks : ¬ ("places" : Str) = "marks" := by decide +kernel
theorem no_Book_places {x1 : V} : (fl_Book x1).lookup ("places" : Str) = none := Eq.trans (lk_miss ne_places_marks) (lk_nil)
theorem me_Book_places {K : PySem.W.Frag} {H : Hp} {a dx : Addr} {x1 : V} {R : Prop} (h : H a = some (.ins (He.ga K "Book") dx (fl_Book x1))) (q : R) :
    ∃ b dy gs, V.ref a = V.ref b ∧ H b = some (.ins (He.ga K "Book") dy gs) ∧ gs.lookup ("places" : Str) = none ∧ R := ⟨a, dx, _, rfl, h, no_Book_places, q⟩
theorem ne_clear_marks : ¬ ("clear" : Str) = "marks" := by decide +kernel
theorem no_Book_clear {x1 : V} : (fl_Book x1).lookup ("clear" : Str) = none := Eq.trans (lk_miss ne_clear_marks) (lk_nil)
theorem me_Book_clear {K : PySem.W.Frag} {H : Hp} {a dx : Addr} {x1 : V} {R : Prop} (h : H a = some (.ins (He.ga K "Book") dx (fl_Book x1))) (q : R) :
    ∃ b dy gs, V.ref a = V.ref b ∧ H b = some (.ins (He.ga K "Book") dy gs) ∧ gs.lookup ("clear" : Str) = none ∧ R := ⟨a, dx, _, rfl, h, no_Book_clear, q⟩
def fl_Hands (x1 : V) : List (Str × V) := [("kept", x1)]
theorem lk_Hands_kept {x1 : V} : (fl_Hands x1).lookup ("kept" : Str) = some x1 := lk_hit
theorem rd_Hands_kept {K : PySem.W.Frag} {mg : Str → Option Value} {H : Hp} {a dx : Addr} {x1 : V} {R : V → Prop} (T : Tx K mg) (h : H a = some (.ins (He.ga K "Hands") dx (fl_Hands x1))) (q : R x1) :
    ∃ b C dy gs v, V.ref a = V.ref b ∧ H b = some (.ins C dy gs) ∧ Cls K C ∧ NoAttr K C "kept" ∧ gs.lookup ("kept" : Str) = some v ∧ R v := ⟨a, _, dx, _, _, rfl, h, T.cl_Hands, T.na_Hands_kept, lk_Hands_kept, q⟩
theorem pf_Hands_kept {x1 y : V} : putF "kept" y (fl_Hands x1) = fl_Hands y := pf_hit
theorem st_Hands_kept {K : PySem.W.Frag} {mg : Str → Option Value} {H : Hp} {a dx : Addr} {x1 : V} {R : Addr → Addr → Addr → List (Str × V) → Prop} (T : Tx K mg) (h : H a = some (.ins (He.ga K "Hands") dx (fl_Hands x1))) (q : R a (He.ga K "Hands") dx (fl_Hands x1)) :
    ∃ b C dy gs, V.ref a = V.ref b ∧ H b = some (.ins C dy gs) ∧ Cls K C ∧ NoAttr K C "kept" ∧ gs.length < 1000 ∧ R b C dy gs := ⟨a, _, dx, _, rfl, h, T.cl_Hands, T.na_Hands_kept, (by show 1 < 1000; decide), q⟩
theorem in_Hands_kept {x1 : V} : putF "kept" x1 ([] : List (Str × V)) = ([("kept", x1)] : List (Str × V)) := rfl
theorem ini_Hands_kept {K : PySem.W.Frag} {mg : Str → Option Value} {H : Hp} {a dx : Addr}  {R : Addr → Addr → Addr → List (Str × V) → Prop} (T : Tx K mg) (h : H a = some (.ins (He.ga K "Hands") dx [])) (q : R a (He.ga K "Hands") dx []) :
    ∃ b C dy gs, V.ref a = V.ref b ∧ H b = some (.ins C dy gs) ∧ Cls K C ∧ NoAttr K C "kept" ∧ gs.length < 1000 ∧ R b C dy gs := ⟨a, _, dx, _, rfl, h, T.cl_Hands, T.na_Hands_kept, (by show 0 < 1000; decide), q⟩
theorem ne_need_kept : ¬ ("need" : Str) = "kept" := by decide +kernel
theorem no_Hands_need {x1 : V} : (fl_Hands x1).lookup ("need" : Str) = none := Eq.trans (lk_miss ne_need_kept) (lk_nil)
theorem me_Hands_need {K : PySem.W.Frag} {H : Hp} {a dx : Addr} {x1 : V} {R : Prop} (h : H a = some (.ins (He.ga K "Hands") dx (fl_Hands x1))) (q : R) :
    ∃ b dy gs, V.ref a = V.ref b ∧ H b = some (.ins (He.ga K "Hands") dy gs) ∧ gs.lookup ("need" : Str) = none ∧ R := ⟨a, dx, _, rfl, h, no_Hands_need, q⟩
theorem ne_get_kept : ¬ ("get" : Str) = "kept" := by decide +kernel
theorem no_Hands_get {x1 : V} : (fl_Hands x1).lookup ("get" : Str) = none := Eq.trans (lk_miss ne_get_kept) (lk_nil)
theorem me_Hands_get {K : PySem.W.Frag} {H : Hp} {a dx : Addr} {x1 : V} {R : Prop} (h : H a = some (.ins (He.ga K "Hands") dx (fl_Hands x1))) (q : R) :
    ∃ b dy gs, V.ref a = V.ref b ∧ H b = some (.ins (He.ga K "Hands") dy gs) ∧ gs.lookup ("get" : Str) = none ∧ R := ⟨a, dx, _, rfl, h, no_Hands_get, q⟩
theorem ne_put_kept : ¬ ("put" : Str) = "kept" := by decide +kernel
theorem no_Hands_put {x1 : V} : (fl_Hands x1).lookup ("put" : Str) = none := Eq.trans (lk_miss ne_put_kept) (lk_nil)
theorem me_Hands_put {K : PySem.W.Frag} {H : Hp} {a dx : Addr} {x1 : V} {R : Prop} (h : H a = some (.ins (He.ga K "Hands") dx (fl_Hands x1))) (q : R) :
    ∃ b dy gs, V.ref a = V.ref b ∧ H b = some (.ins (He.ga K "Hands") dy gs) ∧ gs.lookup ("put" : Str) = none ∧ R := ⟨a, dx, _, rfl, h, no_Hands_put, q⟩
theorem ne_row_kept : ¬ ("row" : Str) = "kept" := by decide +kernel
theorem no_Hands_row {x1 : V} : (fl_Hands x1).lookup ("row" : Str) = none := Eq.trans (lk_miss ne_row_kept) (lk_nil)
theorem me_Hands_row {K : PySem.W.Frag} {H : Hp} {a dx : Addr} {x1 : V} {R : Prop} (h : H a = some (.ins (He.ga K "Hands") dx (fl_Hands x1))) (q : R) :
    ∃ b dy gs, V.ref a = V.ref b ∧ H b = some (.ins (He.ga K "Hands") dy gs) ∧ gs.lookup ("row" : Str) = none ∧ R := ⟨a, dx, _, rfl, h, no_Hands_row, q⟩
def fl_Lasts (x1 x2 : V) : List (Str × V) := [("waiting", x1), ("spoken", x2)]
theorem lk_Lasts_waiting {x1 x2 : V} : (fl_Lasts x1 x2).lookup ("waiting" : Str) = some x1 := lk_hit
theorem rd_Lasts_waiting {K : PySem.W.Frag} {mg : Str → Option Value} {H : Hp} {a dx : Addr} {x1 x2 : V} {R : V → Prop} (T : Tx K mg) (h : H a = some (.ins (He.ga K "Lasts") dx (fl_Lasts x1 x2))) (q : R x1) :
    ∃ b C dy gs v, V.ref a = V.ref b ∧ H b = some (.ins C dy gs) ∧ Cls K C ∧ NoAttr K C "waiting" ∧ gs.lookup ("waiting" : Str) = some v ∧ R v := ⟨a, _, dx, _, _, rfl, h, T.cl_Lasts, T.na_Lasts_waiting, lk_Lasts_waiting, q⟩
theorem pf_Lasts_waiting {x1 x2 y : V} : putF "waiting" y (fl_Lasts x1 x2) = fl_Lasts y x2 := pf_hit
theorem st_Lasts_waiting {K : PySem.W.Frag} {mg : Str → Option Value} {H : Hp} {a dx : Addr} {x1 x2 : V} {R : Addr → Addr → Addr → List (Str × V) → Prop} (T : Tx K mg) (h : H a = some (.ins (He.ga K "Lasts") dx (fl_Lasts x1 x2))) (q : R a (He.ga K "Lasts") dx (fl_Lasts x1 x2)) :
    ∃ b C dy gs, V.ref a = V.ref b ∧ H b = some (.ins C dy gs) ∧ Cls K C ∧ NoAttr K C "waiting" ∧ gs.length < 1000 ∧ R b C dy gs := ⟨a, _, dx, _, rfl, h, T.cl_Lasts, T.na_Lasts_waiting, (by show 2 < 1000; decide), q⟩
theorem ne_spoken_waiting : ¬ ("spoken" : Str) = "waiting" := by decide +kernel
theorem lk_Lasts_spoken {x1 x2 : V} : (fl_Lasts x1 x2).lookup ("spoken" : Str) = some x2 := Eq.trans (lk_miss ne_spoken_waiting) (lk_hit)
theorem rd_Lasts_spoken {K : PySem.W.Frag} {mg : Str → Option Value} {H : Hp} {a dx : Addr} {x1 x2 : V} {R : V → Prop} (T : Tx K mg) (h : H a = some (.ins (He.ga K "Lasts") dx (fl_Lasts x1 x2))) (q : R x2) :
    ∃ b C dy gs v, V.ref a = V.ref b ∧ H b = some (.ins C dy gs) ∧ Cls K C ∧ NoAttr K C "spoken" ∧ gs.lookup ("spoken" : Str) = some v ∧ R v := ⟨a, _, dx, _, _, rfl, h, T.cl_Lasts, T.na_Lasts_spoken, lk_Lasts_spoken, q⟩
theorem ne_waiting_spoken : ¬ ("waiting" : Str) = "spoken" := by decide +kernel
theorem pf_Lasts_spoken {x1 x2 y : V} : putF "spoken" y (fl_Lasts x1 x2) = fl_Lasts x1 y := Eq.trans (pf_miss ne_waiting_spoken) (congrArg (List.cons _) (pf_hit))
theorem st_Lasts_spoken {K : PySem.W.Frag} {mg : Str → Option Value} {H : Hp} {a dx : Addr} {x1 x2 : V} {R : Addr → Addr → Addr → List (Str × V) → Prop} (T : Tx K mg) (h : H a = some (.ins (He.ga K "Lasts") dx (fl_Lasts x1 x2))) (q : R a (He.ga K "Lasts") dx (fl_Lasts x1 x2)) :
    ∃ b C dy gs, V.ref a = V.ref b ∧ H b = some (.ins C dy gs) ∧ Cls K C ∧ NoAttr K C "spoken" ∧ gs.length < 1000 ∧ R b C dy gs := ⟨a, _, dx, _, rfl, h, T.cl_Lasts, T.na_Lasts_spoken, (by show 2 < 1000; decide), q⟩
theorem in_Lasts_waiting {x1 : V} : putF "waiting" x1 ([] : List (Str × V)) = ([("waiting", x1)] : List (Str × V)) := rfl
theorem ini_Lasts_waiting {K : PySem.W.Frag} {mg : Str → Option Value} {H : Hp} {a dx : Addr}  {R : Addr → Addr → Addr → List (Str × V) → Prop} (T : Tx K mg) (h : H a = some (.ins (He.ga K "Lasts") dx [])) (q : R a (He.ga K "Lasts") dx []) :
    ∃ b C dy gs, V.ref a = V.ref b ∧ H b = some (.ins C dy gs) ∧ Cls K C ∧ NoAttr K C "waiting" ∧ gs.length < 1000 ∧ R b C dy gs := ⟨a, _, dx, _, rfl, h, T.cl_Lasts, T.na_Lasts_waiting, (by show 0 < 1000; decide), q⟩
theorem in_Lasts_spoken {x1 x2 : V} : putF "spoken" x2 ([("waiting", x1)] : List (Str × V)) = ([("waiting", x1), ("spoken", x2)] : List (Str × V)) := Eq.trans (pf_miss ne_waiting_spoken) (congrArg (List.cons _) (rfl))
theorem ini_Lasts_spoken {K : PySem.W.Frag} {mg : Str → Option Value} {H : Hp} {a dx : Addr} {x1 : V} {R : Addr → Addr → Addr → List (Str × V) → Prop} (T : Tx K mg) (h : H a = some (.ins (He.ga K "Lasts") dx [("waiting", x1)])) (q : R a (He.ga K "Lasts") dx [("waiting", x1)]) :
    ∃ b C dy gs, V.ref a = V.ref b ∧ H b = some (.ins C dy gs) ∧ Cls K C ∧ NoAttr K C "spoken" ∧ gs.length < 1000 ∧ R b C dy gs := ⟨a, _, dx, _, rfl, h, T.cl_Lasts, T.na_Lasts_spoken, (by show 1 < 1000; decide), q⟩
theorem ne_give_spoken : ¬ ("give" : Str) = "spoken" := by decide +kernel
theorem ne_give_waiting : ¬ ("give" : Str) = "waiting" := by decide +kernel
theorem no_Lasts_give {x1 x2 : V} : (fl_Lasts x1 x2).lookup ("give" : Str) = none := Eq.trans (lk_miss ne_give_waiting) (Eq.trans (lk_miss ne_give_spoken) (lk_nil))
theorem me_Lasts_give {K : PySem.W.Frag} {H : Hp} {a dx : Addr} {x1 x2 : V} {R : Prop} (h : H a = some (.ins (He.ga K "Lasts") dx (fl_Lasts x1 x2))) (q : R) :
    ∃ b dy gs, V.ref a = V.ref b ∧ H b = some (.ins (He.ga K "Lasts") dy gs) ∧ gs.lookup ("give" : Str) = none ∧ R := ⟨a, dx, _, rfl, h, no_Lasts_give, q⟩
theorem ne_need_spoken : ¬ ("need" : Str) = "spoken" := by decide +kernel
theorem ne_need_waiting : ¬ ("need" : Str) = "waiting" := by decide +kernel
theorem no_Lasts_need {x1 x2 : V} : (fl_Lasts x1 x2).lookup ("need" : Str) = none := Eq.trans (lk_miss ne_need_waiting) (Eq.trans (lk_miss ne_need_spoken) (lk_nil))
theorem me_Lasts_need {K : PySem.W.Frag} {H : Hp} {a dx : Addr} {x1 x2 : V} {R : Prop} (h : H a = some (.ins (He.ga K "Lasts") dx (fl_Lasts x1 x2))) (q : R) :
    ∃ b dy gs, V.ref a = V.ref b ∧ H b = some (.ins (He.ga K "Lasts") dy gs) ∧ gs.lookup ("need" : Str) = none ∧ R := ⟨a, dx, _, rfl, h, no_Lasts_need, q⟩
theorem ne_move_spoken : ¬ ("move" : Str) = "spoken" := by decide +kernel
theorem ne_move_waiting : ¬ ("move" : Str) = "waiting" := by decide +kernel
theorem no_Lasts_move {x1 x2 : V} : (fl_Lasts x1 x2).lookup ("move" : Str) = none := Eq.trans (lk_miss ne_move_waiting) (Eq.trans (lk_miss ne_move_spoken) (lk_nil))
theorem me_Lasts_move {K : PySem.W.Frag} {H : Hp} {a dx : Addr} {x1 x2 : V} {R : Prop} (h : H a = some (.ins (He.ga K "Lasts") dx (fl_Lasts x1 x2))) (q : R) :
    ∃ b dy gs, V.ref a = V.ref b ∧ H b = some (.ins (He.ga K "Lasts") dy gs) ∧ gs.lookup ("move" : Str) = none ∧ R := ⟨a, dx, _, rfl, h, no_Lasts_move, q⟩
theorem ne_say_spoken : ¬ ("say" : Str) = "spoken" := by decide +kernel
theorem ne_say_waiting : ¬ ("say" : Str) = "waiting" := by decide +kernel
theorem no_Lasts_say {x1 x2 : V} : (fl_Lasts x1 x2).lookup ("say" : Str) = none := Eq.trans (lk_miss ne_say_waiting) (Eq.trans (lk_miss ne_say_spoken) (lk_nil))
theorem me_Lasts_say {K : PySem.W.Frag} {H : Hp} {a dx : Addr} {x1 x2 : V} {R : Prop} (h : H a = some (.ins (He.ga K "Lasts") dx (fl_Lasts x1 x2))) (q : R) :
    ∃ b dy gs, V.ref a = V.ref b ∧ H b = some (.ins (He.ga K "Lasts") dy gs) ∧ gs.lookup ("say" : Str) = none ∧ R := ⟨a, dx, _, rfl, h, no_Lasts_say, q⟩
theorem ne_pending_spoken : ¬ ("pending" : Str) = "spoken" := by decide +kernel
theorem ne_pending_waiting : ¬ ("pending" : Str) = "waiting" := by decide +kernel
theorem no_Lasts_pending {x1 x2 : V} : (fl_Lasts x1 x2).lookup ("pending" : Str) = none := Eq.trans (lk_miss ne_pending_waiting) (Eq.trans (lk_miss ne_pending_spoken) (lk_nil))
theorem me_Lasts_pending {K : PySem.W.Frag} {H : Hp} {a dx : Addr} {x1 x2 : V} {R : Prop} (h : H a = some (.ins (He.ga K "Lasts") dx (fl_Lasts x1 x2))) (q : R) :
    ∃ b dy gs, V.ref a = V.ref b ∧ H b = some (.ins (He.ga K "Lasts") dy gs) ∧ gs.lookup ("pending" : Str) = none ∧ R := ⟨a, dx, _, rfl, h, no_Lasts_pending, q⟩
theorem ne_said_spoken : ¬ ("said" : Str) = "spoken" := by decide +kernel
theorem ne_said_waiting : ¬ ("said" : Str) = "waiting" := by decide +kernel
theorem no_Lasts_said {x1 x2 : V} : (fl_Lasts x1 x2).lookup ("said" : Str) = none := Eq.trans (lk_miss ne_said_waiting) (Eq.trans (lk_miss ne_said_spoken) (lk_nil))
theorem me_Lasts_said {K : PySem.W.Frag} {H : Hp} {a dx : Addr} {x1 x2 : V} {R : Prop} (h : H a = some (.ins (He.ga K "Lasts") dx (fl_Lasts x1 x2))) (q : R) :
    ∃ b dy gs, V.ref a = V.ref b ∧ H b = some (.ins (He.ga K "Lasts") dy gs) ∧ gs.lookup ("said" : Str) = none ∧ R := ⟨a, dx, _, rfl, h, no_Lasts_said, q⟩
def fl_Weak (x1 : V) : List (Str × V) := [("told", x1)]
theorem lk_Weak_told {x1 : V} : (fl_Weak x1).lookup ("told" : Str) = some x1 := lk_hit
theorem rd_Weak_told {K : PySem.W.Frag} {mg : Str → Option Value} {H : Hp} {a dx : Addr} {x1 : V} {R : V → Prop} (T : Tx K mg) (h : H a = some (.ins (He.ga K "Weak") dx (fl_Weak x1))) (q : R x1) :
    ∃ b C dy gs v, V.ref a = V.ref b ∧ H b = some (.ins C dy gs) ∧ Cls K C ∧ NoAttr K C "told" ∧ gs.lookup ("told" : Str) = some v ∧ R v := ⟨a, _, dx, _, _, rfl, h, T.cl_Weak, T.na_Weak_told, lk_Weak_told, q⟩
theorem pf_Weak_told {x1 y : V} : putF "told" y (fl_Weak x1) = fl_Weak y := pf_hit
theorem st_Weak_told {K : PySem.W.Frag} {mg : Str → Option Value} {H : Hp} {a dx : Addr} {x1 : V} {R : Addr → Addr → Addr → List (Str × V) → Prop} (T : Tx K mg) (h : H a = some (.ins (He.ga K "Weak") dx (fl_Weak x1))) (q : R a (He.ga K "Weak") dx (fl_Weak x1)) :
    ∃ b C dy gs, V.ref a = V.ref b ∧ H b = some (.ins C dy gs) ∧ Cls K C ∧ NoAttr K C "told" ∧ gs.length < 1000 ∧ R b C dy gs := ⟨a, _, dx, _, rfl, h, T.cl_Weak, T.na_Weak_told, (by show 1 < 1000; decide), q⟩
theorem in_Weak_told {x1 : V} : putF "told" x1 ([] : List (Str × V)) = ([("told", x1)] : List (Str × V)) := rfl
theorem ini_Weak_told {K : PySem.W.Frag} {mg : Str → Option Value} {H : Hp} {a dx : Addr}  {R : Addr → Addr → Addr → List (Str × V) → Prop} (T : Tx K mg) (h : H a = some (.ins (He.ga K "Weak") dx [])) (q : R a (He.ga K "Weak") dx []) :
    ∃ b C dy gs, V.ref a = V.ref b ∧ H b = some (.ins C dy gs) ∧ Cls K C ∧ NoAttr K C "told" ∧ gs.length < 1000 ∧ R b C dy gs := ⟨a, _, dx, _, rfl, h, T.cl_Weak, T.na_Weak_told, (by show 0 < 1000; decide), q⟩
theorem ne_name_told : ¬ ("name" : Str) = "told" := by decide +kernel
theorem no_Weak_name {x1 : V} : (fl_Weak x1).lookup ("name" : Str) = none := Eq.trans (lk_miss ne_name_told) (lk_nil)
theorem me_Weak_name {K : PySem.W.Frag} {H : Hp} {a dx : Addr} {x1 : V} {R : Prop} (h : H a = some (.ins (He.ga K "Weak") dx (fl_Weak x1))) (q : R) :
    ∃ b dy gs, V.ref a = V.ref b ∧ H b = some (.ins (He.ga K "Weak") dy gs) ∧ gs.lookup ("name" : Str) = none ∧ R := ⟨a, dx, _, rfl, h, no_Weak_name, q⟩
theorem ne_need_told : ¬ ("need" : Str) = "told" := by decide +kernel
theorem no_Weak_need {x1 : V} : (fl_Weak x1).lookup ("need" : Str) = none := Eq.trans (lk_miss ne_need_told) (lk_nil)
theorem me_Weak_need {K : PySem.W.Frag} {H : Hp} {a dx : Addr} {x1 : V} {R : Prop} (h : H a = some (.ins (He.ga K "Weak") dx (fl_Weak x1))) (q : R) :
    ∃ b dy gs, V.ref a = V.ref b ∧ H b = some (.ins (He.ga K "Weak") dy gs) ∧ gs.lookup ("need" : Str) = none ∧ R := ⟨a, dx, _, rfl, h, no_Weak_need, q⟩
theorem ne_at_told : ¬ ("at" : Str) = "told" := by decide +kernel
theorem no_Weak_at {x1 : V} : (fl_Weak x1).lookup ("at" : Str) = none := Eq.trans (lk_miss ne_at_told) (lk_nil)
theorem me_Weak_at {K : PySem.W.Frag} {H : Hp} {a dx : Addr} {x1 : V} {R : Prop} (h : H a = some (.ins (He.ga K "Weak") dx (fl_Weak x1))) (q : R) :
    ∃ b dy gs, V.ref a = V.ref b ∧ H b = some (.ins (He.ga K "Weak") dy gs) ∧ gs.lookup ("at" : Str) = none ∧ R := ⟨a, dx, _, rfl, h, no_Weak_at, q⟩
theorem ne_need_there_told : ¬ ("need_there" : Str) = "told" := by decide +kernel
theorem no_Weak_need_there {x1 : V} : (fl_Weak x1).lookup ("need_there" : Str) = none := Eq.trans (lk_miss ne_need_there_told) (lk_nil)
theorem me_Weak_need_there {K : PySem.W.Frag} {H : Hp} {a dx : Addr} {x1 : V} {R : Prop} (h : H a = some (.ins (He.ga K "Weak") dx (fl_Weak x1))) (q : R) :
    ∃ b dy gs, V.ref a = V.ref b ∧ H b = some (.ins (He.ga K "Weak") dy gs) ∧ gs.lookup ("need_there" : Str) = none ∧ R := ⟨a, dx, _, rfl, h, no_Weak_need_there, q⟩
theorem ne_move_told : ¬ ("move" : Str) = "told" := by decide +kernel
theorem no_Weak_move {x1 : V} : (fl_Weak x1).lookup ("move" : Str) = none := Eq.trans (lk_miss ne_move_told) (lk_nil)
theorem me_Weak_move {K : PySem.W.Frag} {H : Hp} {a dx : Addr} {x1 : V} {R : Prop} (h : H a = some (.ins (He.ga K "Weak") dx (fl_Weak x1))) (q : R) :
    ∃ b dy gs, V.ref a = V.ref b ∧ H b = some (.ins (He.ga K "Weak") dy gs) ∧ gs.lookup ("move" : Str) = none ∧ R := ⟨a, dx, _, rfl, h, no_Weak_move, q⟩
theorem ne_gone_told : ¬ ("gone" : Str) = "told" := by decide +kernel
theorem no_Weak_gone {x1 : V} : (fl_Weak x1).lookup ("gone" : Str) = none := Eq.trans (lk_miss ne_gone_told) (lk_nil)
theorem me_Weak_gone {K : PySem.W.Frag} {H : Hp} {a dx : Addr} {x1 : V} {R : Prop} (h : H a = some (.ins (He.ga K "Weak") dx (fl_Weak x1))) (q : R) :
    ∃ b dy gs, V.ref a = V.ref b ∧ H b = some (.ins (He.ga K "Weak") dy gs) ∧ gs.lookup ("gone" : Str) = none ∧ R := ⟨a, dx, _, rfl, h, no_Weak_gone, q⟩
theorem ne_names_told : ¬ ("names" : Str) = "told" := by decide +kernel
theorem no_Weak_names {x1 : V} : (fl_Weak x1).lookup ("names" : Str) = none := Eq.trans (lk_miss ne_names_told) (lk_nil)
theorem me_Weak_names {K : PySem.W.Frag} {H : Hp} {a dx : Addr} {x1 : V} {R : Prop} (h : H a = some (.ins (He.ga K "Weak") dx (fl_Weak x1))) (q : R) :
    ∃ b dy gs, V.ref a = V.ref b ∧ H b = some (.ins (He.ga K "Weak") dy gs) ∧ gs.lookup ("names" : Str) = none ∧ R := ⟨a, dx, _, rfl, h, no_Weak_names, q⟩
def fl_Roots (x1 x2 x3 x4 : V) : List (Str × V) := [("hands", x1), ("book", x2), ("weaks", x3), ("lasts", x4)]
theorem lk_Roots_hands {x1 x2 x3 x4 : V} : (fl_Roots x1 x2 x3 x4).lookup ("hands" : Str) = some x1 := lk_hit
theorem rd_Roots_hands {K : PySem.W.Frag} {mg : Str → Option Value} {H : Hp} {a dx : Addr} {x1 x2 x3 x4 : V} {R : V → Prop} (T : Tx K mg) (h : H a = some (.ins (He.ga K "Roots") dx (fl_Roots x1 x2 x3 x4))) (q : R x1) :
    ∃ b C dy gs v, V.ref a = V.ref b ∧ H b = some (.ins C dy gs) ∧ Cls K C ∧ NoAttr K C "hands" ∧ gs.lookup ("hands" : Str) = some v ∧ R v := ⟨a, _, dx, _, _, rfl, h, T.cl_Roots, T.na_Roots_hands, lk_Roots_hands, q⟩
theorem pf_Roots_hands {x1 x2 x3 x4 y : V} : putF "hands" y (fl_Roots x1 x2 x3 x4) = fl_Roots y x2 x3 x4 := pf_hit
theorem st_Roots_hands {K : PySem.W.Frag} {mg : Str → Option Value} {H : Hp} {a dx : Addr} {x1 x2 x3 x4 : V} {R : Addr → Addr → Addr → List (Str × V) → Prop} (T : Tx K mg) (h : H a = some (.ins (He.ga K "Roots") dx (fl_Roots x1 x2 x3 x4))) (q : R a (He.ga K "Roots") dx (fl_Roots x1 x2 x3 x4)) :
    ∃ b C dy gs, V.ref a = V.ref b ∧ H b = some (.ins C dy gs) ∧ Cls K C ∧ NoAttr K C "hands" ∧ gs.length < 1000 ∧ R b C dy gs := ⟨a, _, dx, _, rfl, h, T.cl_Roots, T.na_Roots_hands, (by show 4 < 1000; decide), q⟩
theorem ne_book_hands : ¬ ("book" : Str) = "hands" := by decide +kernel
theorem lk_Roots_book {x1 x2 x3 x4 : V} : (fl_Roots x1 x2 x3 x4).lookup ("book" : Str) = some x2 := Eq.trans (lk_miss ne_book_hands) (lk_hit)
theorem rd_Roots_book {K : PySem.W.Frag} {mg : Str → Option Value} {H : Hp} {a dx : Addr} {x1 x2 x3 x4 : V} {R : V → Prop} (T : Tx K mg) (h : H a = some (.ins (He.ga K "Roots") dx (fl_Roots x1 x2 x3 x4))) (q : R x2) :
    ∃ b C dy gs v, V.ref a = V.ref b ∧ H b = some (.ins C dy gs) ∧ Cls K C ∧ NoAttr K C "book" ∧ gs.lookup ("book" : Str) = some v ∧ R v := ⟨a, _, dx, _, _, rfl, h, T.cl_Roots, T.na_Roots_book, lk_Roots_book, q⟩
theorem ne_hands_book : ¬ ("hands" : Str) = "book" := by decide +kernel
theorem pf_Roots_book {x1 x2 x3 x4 y : V} : putF "book" y (fl_Roots x1 x2 x3 x4) = fl_Roots x1 y x3 x4 := Eq.trans (pf_miss ne_hands_book) (congrArg (List.cons _) (pf_hit))
theorem st_Roots_book {K : PySem.W.Frag} {mg : Str → Option Value} {H : Hp} {a dx : Addr} {x1 x2 x3 x4 : V} {R : Addr → Addr → Addr → List (Str × V) → Prop} (T : Tx K mg) (h : H a = some (.ins (He.ga K "Roots") dx (fl_Roots x1 x2 x3 x4))) (q : R a (He.ga K "Roots") dx (fl_Roots x1 x2 x3 x4)) :
    ∃ b C dy gs, V.ref a = V.ref b ∧ H b = some (.ins C dy gs) ∧ Cls K C ∧ NoAttr K C "book" ∧ gs.length < 1000 ∧ R b C dy gs := ⟨a, _, dx, _, rfl, h, T.cl_Roots, T.na_Roots_book, (by show 4 < 1000; decide), q⟩
theorem ne_weaks_book : ¬ ("weaks" : Str) = "book" := by decide +kernel
theorem ne_weaks_hands : ¬ ("weaks" : Str) = "hands" := by decide +kernel
theorem lk_Roots_weaks {x1 x2 x3 x4 : V} : (fl_Roots x1 x2 x3 x4).lookup ("weaks" : Str) = some x3 := Eq.trans (lk_miss ne_weaks_hands) (Eq.trans (lk_miss ne_weaks_book) (lk_hit))
theorem rd_Roots_weaks {K : PySem.W.Frag} {mg : Str → Option Value} {H : Hp} {a dx : Addr} {x1 x2 x3 x4 : V} {R : V → Prop} (T : Tx K mg) (h : H a = some (.ins (He.ga K "Roots") dx (fl_Roots x1 x2 x3 x4))) (q : R x3) :
    ∃ b C dy gs v, V.ref a = V.ref b ∧ H b = some (.ins C dy gs) ∧ Cls K C ∧ NoAttr K C "weaks" ∧ gs.lookup ("weaks" : Str) = some v ∧ R v := ⟨a, _, dx, _, _, rfl, h, T.cl_Roots, T.na_Roots_weaks, lk_Roots_weaks, q⟩
theorem ne_book_weaks : ¬ ("book" : Str) = "weaks" := by decide +kernel
theorem ne_hands_weaks : ¬ ("hands" : Str) = "weaks" := by decide +kernel
theorem pf_Roots_weaks {x1 x2 x3 x4 y : V} : putF "weaks" y (fl_Roots x1 x2 x3 x4) = fl_Roots x1 x2 y x4 := Eq.trans (pf_miss ne_hands_weaks) (congrArg (List.cons _) (Eq.trans (pf_miss ne_book_weaks) (congrArg (List.cons _) (pf_hit))))
theorem st_Roots_weaks {K : PySem.W.Frag} {mg : Str → Option Value} {H : Hp} {a dx : Addr} {x1 x2 x3 x4 : V} {R : Addr → Addr → Addr → List (Str × V) → Prop} (T : Tx K mg) (h : H a = some (.ins (He.ga K "Roots") dx (fl_Roots x1 x2 x3 x4))) (q : R a (He.ga K "Roots") dx (fl_Roots x1 x2 x3 x4)) :
    ∃ b C dy gs, V.ref a = V.ref b ∧ H b = some (.ins C dy gs) ∧ Cls K C ∧ NoAttr K C "weaks" ∧ gs.length < 1000 ∧ R b C dy gs := ⟨a, _, dx, _, rfl, h, T.cl_Roots, T.na_Roots_weaks, (by show 4 < 1000; decide), q⟩
theorem ne_lasts_weaks : ¬ ("lasts" : Str) = "weaks" := by decide +kernel
theorem ne_lasts_book : ¬ ("lasts" : Str) = "book" := by decide +kernel
theorem ne_lasts_hands : ¬ ("lasts" : Str) = "hands" := by decide +kernel
theorem lk_Roots_lasts {x1 x2 x3 x4 : V} : (fl_Roots x1 x2 x3 x4).lookup ("lasts" : Str) = some x4 := Eq.trans (lk_miss ne_lasts_hands) (Eq.trans (lk_miss ne_lasts_book) (Eq.trans (lk_miss ne_lasts_weaks) (lk_hit)))
theorem rd_Roots_lasts {K : PySem.W.Frag} {mg : Str → Option Value} {H : Hp} {a dx : Addr} {x1 x2 x3 x4 : V} {R : V → Prop} (T : Tx K mg) (h : H a = some (.ins (He.ga K "Roots") dx (fl_Roots x1 x2 x3 x4))) (q : R x4) :
    ∃ b C dy gs v, V.ref a = V.ref b ∧ H b = some (.ins C dy gs) ∧ Cls K C ∧ NoAttr K C "lasts" ∧ gs.lookup ("lasts" : Str) = some v ∧ R v := ⟨a, _, dx, _, _, rfl, h, T.cl_Roots, T.na_Roots_lasts, lk_Roots_lasts, q⟩
theorem ne_weaks_lasts : ¬ ("weaks" : Str) = "lasts" := by decide +kernel
theorem ne_book_lasts : ¬ ("book" : Str) = "lasts" := by decide +kernel
theorem ne_hands_lasts : ¬ ("hands" : Str) = "lasts" := by decide +kernel
theorem pf_Roots_lasts {x1 x2 x3 x4 y : V} : putF "lasts" y (fl_Roots x1 x2 x3 x4) = fl_Roots x1 x2 x3 y := Eq.trans (pf_miss ne_hands_lasts) (congrArg (List.cons _) (Eq.trans (pf_miss ne_book_lasts) (congrArg (List.cons _) (Eq.trans (pf_miss ne_weaks_lasts) (congrArg (List.cons _) (pf_hit))))))
theorem st_Roots_lasts {K : PySem.W.Frag} {mg : Str → Option Value} {H : Hp} {a dx : Addr} {x1 x2 x3 x4 : V} {R : Addr → Addr → Addr → List (Str × V) → Prop} (T : Tx K mg) (h : H a = some (.ins (He.ga K "Roots") dx (fl_Roots x1 x2 x3 x4))) (q : R a (He.ga K "Roots") dx (fl_Roots x1 x2 x3 x4)) :
    ∃ b C dy gs, V.ref a = V.ref b ∧ H b = some (.ins C dy gs) ∧ Cls K C ∧ NoAttr K C "lasts" ∧ gs.length < 1000 ∧ R b C dy gs := ⟨a, _, dx, _, rfl, h, T.cl_Roots, T.na_Roots_lasts, (by show 4 < 1000; decide), q⟩
theorem in_Roots_hands {x1 : V} : putF "hands" x1 ([] : List (Str × V)) = ([("hands", x1)] : List (Str × V)) := rfl
theorem ini_Roots_hands {K : PySem.W.Frag} {mg : Str → Option Value} {H : Hp} {a dx : Addr}  {R : Addr → Addr → Addr → List (Str × V) → Prop} (T : Tx K mg) (h : H a = some (.ins (He.ga K "Roots") dx [])) (q : R a (He.ga K "Roots") dx []) :
    ∃ b C dy gs, V.ref a = V.ref b ∧ H b = some (.ins C dy gs) ∧ Cls K C ∧ NoAttr K C "hands" ∧ gs.length < 1000 ∧ R b C dy gs := ⟨a, _, dx, _, rfl, h, T.cl_Roots, T.na_Roots_hands, (by show 0 < 1000; decide), q⟩
theorem in_Roots_book {x1 x2 : V} : putF "book" x2 ([("hands", x1)] : List (Str × V)) = ([("hands", x1), ("book", x2)] : List (Str × V)) := Eq.trans (pf_miss ne_hands_book) (congrArg (List.cons _) (rfl))
theorem ini_Roots_book {K : PySem.W.Frag} {mg : Str → Option Value} {H : Hp} {a dx : Addr} {x1 : V} {R : Addr → Addr → Addr → List (Str × V) → Prop} (T : Tx K mg) (h : H a = some (.ins (He.ga K "Roots") dx [("hands", x1)])) (q : R a (He.ga K "Roots") dx [("hands", x1)]) :
    ∃ b C dy gs, V.ref a = V.ref b ∧ H b = some (.ins C dy gs) ∧ Cls K C ∧ NoAttr K C "book" ∧ gs.length < 1000 ∧ R b C dy gs := ⟨a, _, dx, _, rfl, h, T.cl_Roots, T.na_Roots_book, (by show 1 < 1000; decide), q⟩
theorem in_Roots_weaks {x1 x2 x3 : V} : putF "weaks" x3 ([("hands", x1), ("book", x2)] : List (Str × V)) = ([("hands", x1), ("book", x2), ("weaks", x3)] : List (Str × V)) := Eq.trans (pf_miss ne_hands_weaks) (congrArg (List.cons _) (Eq.trans (pf_miss ne_book_weaks) (congrArg (List.cons _) (rfl))))
theorem ini_Roots_weaks {K : PySem.W.Frag} {mg : Str → Option Value} {H : Hp} {a dx : Addr} {x1 x2 : V} {R : Addr → Addr → Addr → List (Str × V) → Prop} (T : Tx K mg) (h : H a = some (.ins (He.ga K "Roots") dx [("hands", x1), ("book", x2)])) (q : R a (He.ga K "Roots") dx [("hands", x1), ("book", x2)]) :
    ∃ b C dy gs, V.ref a = V.ref b ∧ H b = some (.ins C dy gs) ∧ Cls K C ∧ NoAttr K C "weaks" ∧ gs.length < 1000 ∧ R b C dy gs := ⟨a, _, dx, _, rfl, h, T.cl_Roots, T.na_Roots_weaks, (by show 2 < 1000; decide), q⟩
theorem in_Roots_lasts {x1 x2 x3 x4 : V} : putF "lasts" x4 ([("hands", x1), ("book", x2), ("weaks", x3)] : List (Str × V)) = ([("hands", x1), ("book", x2), ("weaks", x3), ("lasts", x4)] : List (Str × V)) := Eq.trans (pf_miss ne_hands_lasts) (congrArg (List.cons _) (Eq.trans (pf_miss ne_book_lasts) (congrArg (List.cons _) (Eq.trans (pf_miss ne_weaks_lasts) (congrArg (List.cons _) (rfl))))))
theorem ini_Roots_lasts {K : PySem.W.Frag} {mg : Str → Option Value} {H : Hp} {a dx : Addr} {x1 x2 x3 : V} {R : Addr → Addr → Addr → List (Str × V) → Prop} (T : Tx K mg) (h : H a = some (.ins (He.ga K "Roots") dx [("hands", x1), ("book", x2), ("weaks", x3)])) (q : R a (He.ga K "Roots") dx [("hands", x1), ("book", x2), ("weaks", x3)]) :
    ∃ b C dy gs, V.ref a = V.ref b ∧ H b = some (.ins C dy gs) ∧ Cls K C ∧ NoAttr K C "lasts" ∧ gs.length < 1000 ∧ R b C dy gs := ⟨a, _, dx, _, rfl, h, T.cl_Roots, T.na_Roots_lasts, (by show 3 < 1000; decide), q⟩
theorem ne_starts_lasts : ¬ ("starts" : Str) = "lasts" := by decide +kernel
theorem ne_starts_weaks : ¬ ("starts" : Str) = "weaks" := by decide +kernel
theorem ne_starts_book : ¬ ("starts" : Str) = "book" := by decide +kernel
theorem ne_starts_hands : ¬ ("starts" : Str) = "hands" := by decide +kernel
theorem no_Roots_starts {x1 x2 x3 x4 : V} : (fl_Roots x1 x2 x3 x4).lookup ("starts" : Str) = none := Eq.trans (lk_miss ne_starts_hands) (Eq.trans (lk_miss ne_starts_book) (Eq.trans (lk_miss ne_starts_weaks) (Eq.trans (lk_miss ne_starts_lasts) (lk_nil))))
theorem me_Roots_starts {K : PySem.W.Frag} {H : Hp} {a dx : Addr} {x1 x2 x3 x4 : V} {R : Prop} (h : H a = some (.ins (He.ga K "Roots") dx (fl_Roots x1 x2 x3 x4))) (q : R) :
    ∃ b dy gs, V.ref a = V.ref b ∧ H b = some (.ins (He.ga K "Roots") dy gs) ∧ gs.lookup ("starts" : Str) = none ∧ R := ⟨a, dx, _, rfl, h, no_Roots_starts, q⟩
theorem ifY {c A B : Prop} [Decidable c] (h : c) (a : A) : if decide c = true then A else B := by
  rw [decide_eq_true h]
  exact iteT a
theorem ifN {c A B : Prop} [Decidable c] (h : ¬ c) (b : B) : if decide c = true then A else B := by
  rw [decide_eq_false h]
  exact iteF b
theorem ifNN {c A B : Prop} [Decidable c] (h : ¬ c) (a : A) : if (!decide c) = true then A else B := by
  rw [decide_eq_false h]
  exact iteT a
theorem ifC {c A B : Prop} [Decidable c] (h1 : c → A) (h2 : ¬ c → B) : if decide c = true then A else B := by
  by_cases h : c
  · exact ifY h (h1 h)
  · exact ifN h (h2 h)
theorem ifB {b : Bool} {A B : Prop} (h1 : b = true → A) (h2 : b = false → B) : if b = true then A else B := by
  cases b with
  | true => exact iteT (h1 rfl)
  | false => exact iteF (h2 rfl)
end Km
set_option maxHeartbeats 400000
/-! plain mathematics: memories, cells, what is reached (no program) -/
set_option linter.all false
namespace Km
def isP (w : Int) : Bool := decide (0 < w ∧ w % 2 = 1)
def OkW (w : Int) : Prop := w = -1 ∨ (w % 2 = 0 ∧ -2000000000000 ≤ w ∧ w ≤ 2000000000000) ∨ (w % 2 = 1 ∧ 0 < w ∧ w ≤ 19999)
theorem OkW.not_num {w : Int} (h : OkW w) (p : isP w = true) : 0 < w ∧ w % 2 = 1 ∧ w ≤ 19999 := by
  have p := of_decide_eq_true p
  rcases h with h | h | h <;> omega
def mget (M : List Int) (i : Int) : Int := M.getD i.toNat 0
def mset (M : List Int) (i w : Int) : List Int := M.set i.toNat w
theorem mset_len {M : List Int} {i w : Int} : (mset M i w).length = M.length := by simp [mset]
theorem mget_some {M : List Int} {i : Int} (h0 : 0 ≤ i) (h : i < M.length) : M[i.toNat]? = some (mget M i) := by
  have h1 : i.toNat < M.length := by omega
  simp [mget, List.getD, List.getElem?_eq_getElem h1]
theorem mget_same {M : List Int} {i w : Int} (h0 : 0 ≤ i) (h : i < M.length) : mget (mset M i w) i = w := by
  have h1 : i.toNat < M.length := by omega
  simp [mget, mset, List.getD, h1]
theorem mget_ne {M : List Int} {i j w : Int} (h0 : 0 ≤ i) (h : 0 ≤ j) (n : i ≠ j) : mget (mset M i w) j = mget M j := by
  have h1 : i.toNat ≠ j.toNat := by omega
  simp [mget, mset, List.getD, h1]
theorem mget_ext {M N : List Int} (hl : M.length = N.length) (h : ∀ i : Int, 0 ≤ i → i < M.length → mget M i = mget N i) : M = N := by
  apply List.ext_getElem? 
  intro k
  by_cases hk : k < M.length
  · have e := h k (by omega) (by omega)
    have e1 := mget_some (M := M) (i := k) (by omega) (by omega)
    have e2 := mget_some (M := N) (i := k) (by omega) (by omega)
    simp only [Int.toNat_natCast] at e1 e2
    rw [e1, e2, e]
  · rw [List.getElem?_eq_none (by omega), List.getElem?_eq_none (by omega)]
/-- a cell stands at a -/
structure CellAt (M : List Int) (a : Int) (ws : List Int) : Prop where
  pos : 0 ≤ a
  fit : a + ws.length < M.length
  len : ws.length ≤ 8
  hd : ∃ g : Int, 0 ≤ g ∧ g ≤ 2 ∧ mget M a = 8 * ws.length + 2 * g
  sl : ∀ (k : Nat) (w : Int), ws[k]? = some w → mget M (a + 1 + k) = w
theorem CellAt.frame {M N : List Int} {a : Int} {ws : List Int} (c : CellAt M a ws) (hl : N.length = M.length) (h : ∀ i, a ≤ i → i ≤ a + ws.length → mget N i = mget M i) : CellAt N a ws := by
  refine ⟨c.pos, by have := c.fit; omega, c.len, ?_, fun k w e => ?_⟩
  · obtain ⟨g, h0, h1, e⟩ := c.hd
    exact ⟨g, h0, h1, by rw [h a (by omega) (by omega), e]⟩
  · have hk : k < ws.length := (List.getElem?_eq_some_iff.mp e).1
    rw [h _ (by omega) (by omega)]
    exact c.sl k w e
theorem CellAt.set {M : List Int} {a : Int} {ws : List Int} {k : Nat} {w : Int} (c : CellAt M a ws) (hk : k < ws.length) : CellAt (mset M (a + 1 + k) w) a (ws.set k w) := by
  have h0 := c.pos
  have hf := c.fit
  refine ⟨c.pos, by rw [mset_len, List.length_set]; exact c.fit, by rw [List.length_set]; exact c.len, ?_, fun j v e => ?_⟩
  · obtain ⟨g, g0, g1, e⟩ := c.hd
    refine ⟨g, g0, g1, ?_⟩
    rw [mget_ne (by omega) (by omega) (by omega), List.length_set, e]
  · by_cases hj : j = k
    · subst hj
      rw [List.getElem?_set_self hk] at e
      rw [mget_same (by omega) (by omega)]
      exact Option.some.inj e
    · rw [List.getElem?_set_ne (fun z => hj z.symm)] at e
      rw [mget_ne (by omega) (by omega) (by omega)]
      exact c.sl j v e
abbrev Cells := List (Int × List Int)
def Mem (M : List Int) (cs : Cells) : Prop := ∀ c ∈ cs, CellAt M c.1 c.2
def Apart (c d : Int × List Int) : Prop := c.1 + c.2.length < d.1 ∨ d.1 + d.2.length < c.1
def Disj (cs : Cells) : Prop := cs.Pairwise Apart
theorem Apart.symm {c d : Int × List Int} (h : Apart c d) : Apart d c := Or.symm h
theorem Disj.apart {cs : Cells} (D : Disj cs) : ∀ {c d : Int × List Int}, c ∈ cs → d ∈ cs → c.1 ≠ d.1 → Apart c d := by
  unfold Disj at D
  induction D with
  | nil => intro c d h; cases h
  | cons h1 h2 ih =>
    intro c d hc hd n
    rcases List.mem_cons.mp hc with e | hc'
    · rcases List.mem_cons.mp hd with e2 | hd'
      · exact absurd (by rw [e, e2]) n
      · rw [e]
        exact h1 _ hd'
    · rcases List.mem_cons.mp hd with e2 | hd'
      · rw [e2]
        exact (h1 _ hc').symm
      · exact ih hc' hd' n
theorem Disj.nodup {cs : Cells} (D : Disj cs) : (cs.map (·.1)).Nodup := by
  unfold Disj at D
  induction D with
  | nil => exact List.nodup_nil
  | cons h1 h2 ih =>
    rw [List.map_cons, List.nodup_cons]
    refine ⟨fun m => ?_, ih⟩
    obtain ⟨d, hd, e⟩ := List.mem_map.mp m
    rcases h1 d hd with h | h <;> omega
theorem Disj.uniq {cs : Cells} (D : Disj cs) : ∀ {a : Int} {ws vs : List Int}, (a, ws) ∈ cs → (a, vs) ∈ cs → ws = vs := by
  unfold Disj at D
  induction D with
  | nil => intro a ws vs h; cases h
  | cons h1 h2 ih =>
    intro a ws vs hc hd
    rcases List.mem_cons.mp hc with e | hc
    · rcases List.mem_cons.mp hd with e2 | hd
      · rw [← e] at e2
        exact (Prod.mk.inj e2).2.symm
      · have := h1 _ hd
        rw [← e] at this
        rcases this with h | h <;> (simp only at h; omega)
    · rcases List.mem_cons.mp hd with e2 | hd
      · have := h1 _ hc
        rw [← e2] at this
        rcases this with h | h <;> (simp only at h; omega)
      · exact ih hc hd
/-- a slot is written -/
def csSet (cs : Cells) (a : Int) (k : Nat) (w : Int) : Cells := cs.map fun c => if c.1 = a then (c.1, c.2.set k w) else c
theorem csSet_keys {cs : Cells} {a : Int} {k : Nat} {w : Int} : (csSet cs a k w).map (·.1) = cs.map (·.1) := by
  unfold csSet
  rw [List.map_map]
  apply List.map_congr_left
  intro c _
  show (if c.1 = a then (c.1, c.2.set k w) else c).1 = c.1
  split <;> rfl
theorem mem_csSet {cs : Cells} {a : Int} {k : Nat} {w : Int} {d : Int × List Int} (h : d ∈ csSet cs a k w) : ∃ c ∈ cs, d.1 = c.1 ∧ d.2.length = c.2.length ∧ ((c.1 = a ∧ d.2 = c.2.set k w) ∨ (c.1 ≠ a ∧ d = c)) := by
  obtain ⟨c, hc, e⟩ := List.mem_map.mp h
  refine ⟨c, hc, ?_⟩
  by_cases q : c.1 = a
  · simp only [if_pos q] at e
    subst e
    exact ⟨rfl, by simp, .inl ⟨q, rfl⟩⟩
  · simp only [if_neg q] at e
    subst e
    exact ⟨rfl, rfl, .inr ⟨q, rfl⟩⟩
theorem Disj.set {cs : Cells} {a : Int} {k : Nat} {w : Int} (D : Disj cs) : Disj (csSet cs a k w) := by
  unfold Disj csSet at *
  refine D.map _ fun c d h => ?_
  have e : ∀ c : Int × List Int, (if c.1 = a then (c.1, c.2.set k w) else c).1 = c.1 ∧ (if c.1 = a then (c.1, c.2.set k w) else c).2.length = c.2.length := fun c => by
    split
    · exact ⟨rfl, by simp⟩
    · exact ⟨rfl, rfl⟩
  unfold Apart at *
  rw [(e c).1, (e c).2, (e d).1, (e d).2]
  exact h
theorem Mem.set {M : List Int} {cs : Cells} {a : Int} {ws : List Int} {k : Nat} {w : Int} (m : Mem M cs) (D : Disj cs) (ha : (a, ws) ∈ cs) (hk : k < ws.length) : Mem (mset M (a + 1 + k) w) (csSet cs a k w) := by
  intro d hd
  obtain ⟨c, hc, e1, e2, h⟩ := mem_csSet hd
  have c0 := m _ ha
  have p0 : 0 ≤ a := c0.pos
  rcases h with ⟨q, e⟩ | ⟨q, e⟩
  · have e3 : c.2 = ws := D.uniq (a := a) (by rw [← q]; exact hc) ha
    rw [e1, e, q, e3]
    exact c0.set hk
  · subst e
    have cd := m _ hc
    have ap := D.apart ha hc (by simpa using fun z => q z.symm)
    refine cd.frame mset_len fun i h1 h2 => mget_ne (by omega) (by have := cd.pos; omega) ?_
    rcases ap with h | h <;> (simp only at h; omega)
theorem Mem.frame {M N : List Int} {cs : Cells} (m : Mem M cs) (hl : N.length = M.length) (h : ∀ c ∈ cs, ∀ i, c.1 ≤ i → i ≤ c.1 + c.2.length → mget N i = mget M i) : Mem N cs := fun c hc => (m c hc).frame hl (h c hc)
end Km
namespace Km
/-- the places that stand in a row of words -/
def kids (ws : List Int) : List Int := (ws.filter isP).map (· / 2)
theorem kids_take {ws : List Int} {k : Nat} {w : Int} (h : ws[k]? = some w) : kids (ws.take (k + 1)) = kids (ws.take k) ++ (if isP w then [w / 2] else []) := by
  unfold kids
  rw [List.take_add_one, h, List.filter_append, List.map_append]
  congr 1
  by_cases p : isP w = true
  · simp [p]
  · have p : isP w = false := by simpa using p
    simp [p]
theorem mem_kids {ws : List Int} {x : Int} : x ∈ kids ws ↔ ∃ w ∈ ws, isP w = true ∧ w / 2 = x := by
  unfold kids
  simp only [List.mem_map, List.mem_filter]
  constructor
  · rintro ⟨w, ⟨h1, h2⟩, e⟩
    exact ⟨w, h1, h2, e⟩
  · rintro ⟨w, h1, h2, e⟩
    exact ⟨w, ⟨h1, h2⟩, e⟩
end Km
namespace Km
theorem lk_cons {α : Type} {a b : Int} {v : α} {r : List (Int × α)} : List.lookup a ((b, v) :: r) = if a = b then some v else List.lookup a r := by
  by_cases h : a = b
  · subst h
    simp [List.lookup]
  · have : (a == b) = false := by simpa using h
    simp [List.lookup, this, h]
theorem lk_const {α : Type} {a : Int} {v : α} : ∀ {F : List Int}, List.lookup a (F.map fun x => (x, v)) = if a ∈ F then some v else none
  | [] => by simp
  | x :: r => by
    rw [List.map_cons, lk_cons, lk_const]
    by_cases h : a = x
    · simp [h]
    · simp [h]
theorem lk_map {α β : Type} {a : Int} {f : Int → α → β} : ∀ {xs : List (Int × α)}, List.lookup a (xs.map fun c => (c.1, f c.1 c.2)) = (List.lookup a xs).map (f a)
  | [] => rfl
  | (b, v) :: r => by
    rw [List.map_cons, lk_cons, lk_cons, lk_map]
    by_cases h : a = b
    · subst h
      simp
    · simp [h]
theorem lk_some {α : Type} {a : Int} {v : α} : ∀ {xs : List (Int × α)}, List.lookup a xs = some v → (a, v) ∈ xs
  | [], h => by cases h
  | (b, u) :: r, h => by
    rw [lk_cons] at h
    by_cases e : a = b
    · rw [if_pos e] at h
      rw [e, Option.some.inj h]
      exact List.mem_cons_self
    · rw [if_neg e] at h
      exact List.mem_cons_of_mem _ (lk_some h)
theorem lk_mem {α : Type} {a : Int} {v : α} : ∀ {xs : List (Int × α)}, (xs.map (·.1)).Nodup → (a, v) ∈ xs → List.lookup a xs = some v
  | [], _, h => by cases h
  | (b, u) :: r, n, h => by
    obtain ⟨n1, n2⟩ := List.nodup_cons.mp (show (b :: r.map (·.1)).Nodup from n)
    rw [lk_cons]
    rcases List.mem_cons.mp h with e | h
    · obtain ⟨rfl, rfl⟩ := Prod.mk.inj e
      rw [if_pos rfl]
    · have : a ≠ b := fun e => n1 (by rw [← e]; exact List.mem_map.mpr ⟨_, h, rfl⟩)
      rw [if_neg this]
      exact lk_mem n2 h
theorem lk_none {α : Type} {a : Int} : ∀ {xs : List (Int × α)}, a ∉ xs.map (·.1) → List.lookup a xs = none
  | [], _ => rfl
  | (b, u) :: r, h => by
    have h : ¬ a ∈ b :: r.map (·.1) := h
    rw [lk_cons, if_neg (fun e => h (by rw [e]; exact List.mem_cons_self))]
    exact lk_none fun q => h (List.mem_cons_of_mem _ q)
end Km
set_option maxHeartbeats 400000
/-! plain mathematics: what is reached -/
set_option linter.all false
namespace Km
theorem nodup_len {α : Type} : ∀ {l l' : List α}, l.Nodup → (∀ x ∈ l, x ∈ l') → l.length ≤ l'.length
  | [], _, _, _ => Nat.zero_le _
  | x :: r, l', h, hs => by
    obtain ⟨s, t, rfl⟩ := List.append_of_mem (hs x (List.mem_cons_self))
    obtain ⟨h1, h2⟩ := List.nodup_cons.mp h
    have ih := nodup_len (l := r) (l' := s ++ t) h2 fun y hy => by
      have := hs y (List.mem_cons_of_mem _ hy)
      rcases List.mem_append.mp this with q | q
      · exact List.mem_append_left _ q
      · rcases List.mem_cons.mp q with e | q
        · subst e
          exact absurd hy h1
        · exact List.mem_append_right _ q
    simp only [List.length_append, List.length_cons] at *
    omega
inductive Reach (cs : Cells) (st : List Int) : Int → Prop where
  | root {x : Int} : x ∈ st → Reach cs st x
  | step {x z : Int} {ws : List Int} : Reach cs st x → (x, ws) ∈ cs → z ∈ kids ws → Reach cs st z
def keys (cs : Cells) : List Int := cs.map (·.1)
theorem keys_mem {cs : Cells} {x : Int} (h : x ∈ keys cs) : ∃ ws, (x, ws) ∈ cs := by
  obtain ⟨c, hc, e⟩ := List.mem_map.mp h
  exact ⟨c.2, by rw [← e]; exact hc⟩
theorem mem_keys {cs : Cells} {x : Int} {ws : List Int} (h : (x, ws) ∈ cs) : x ∈ keys cs := List.mem_map.mpr ⟨_, h, rfl⟩
/-- a word whose place, if it tells one, is a cell's -/
def OkIn (cs : Cells) (w : Int) : Prop := OkW w ∧ (isP w = true → w / 2 ∈ keys cs)
/-- all slots hold such words -/
def Closed (cs : Cells) : Prop := ∀ c ∈ cs, ∀ w ∈ c.2, OkIn cs w
theorem Closed.kid {cs : Cells} (C : Closed cs) {x z : Int} {ws : List Int} (h : (x, ws) ∈ cs) (hz : z ∈ kids ws) : z ∈ keys cs := by
  obtain ⟨w, hw, p, e⟩ := mem_kids.mp hz
  rw [← e]
  exact (C _ h w hw).2 p
theorem Reach.key {cs : Cells} {st : List Int} (C : Closed cs) (hs : ∀ x ∈ st, x ∈ keys cs) {x : Int} (h : Reach cs st x) : x ∈ keys cs := by
  induction h with
  | root h => exact hs _ h
  | step _ h1 h2 _ => exact C.kid h1 h2
/-- a list is closed: it is what is reached -/
theorem reach_iff {cs : Cells} {st F : List Int} (h1 : ∀ x ∈ F, Reach cs st x) (h2 : ∀ x ∈ st, x ∈ F) (h3 : ∀ x ws, x ∈ F → (x, ws) ∈ cs → ∀ z ∈ kids ws, z ∈ F) {x : Int} : x ∈ F ↔ Reach cs st x := by
  refine ⟨h1 x, fun h => ?_⟩
  induction h with
  | root h => exact h2 _ h
  | step _ hm hz ih => exact h3 _ _ ih hm _ hz
/-- rising lists of the same members are one -/
theorem rising_uniq : ∀ {a b : List Int}, a.Pairwise (· < ·) → b.Pairwise (· < ·) → (∀ x, x ∈ a ↔ x ∈ b) → a = b
  | [], [], _, _, _ => rfl
  | [], y :: s, _, _, h => absurd ((h y).mpr List.mem_cons_self) (by simp)
  | x :: r, [], _, _, h => absurd ((h x).mp List.mem_cons_self) (by simp)
  | x :: r, y :: s, ha, hb, h => by
    obtain ⟨a1, a2⟩ := List.pairwise_cons.mp ha
    obtain ⟨b1, b2⟩ := List.pairwise_cons.mp hb
    have e : x = y := by
      have h1 : x ∈ y :: s := (h x).mp List.mem_cons_self
      have h2 : y ∈ x :: r := (h y).mpr List.mem_cons_self
      rcases List.mem_cons.mp h1 with q | q
      · exact q
      · rcases List.mem_cons.mp h2 with q2 | q2
        · exact q2.symm
        · have := b1 x q
          have := a1 y q2
          omega
    subst e
    congr 1
    refine rising_uniq a2 b2 fun z => ⟨fun hz => ?_, fun hz => ?_⟩
    · have := a1 z hz
      rcases List.mem_cons.mp ((h z).mp (List.mem_cons_of_mem _ hz)) with q | q
      · omega
      · exact q
    · have := b1 z hz
      rcases List.mem_cons.mp ((h z).mpr (List.mem_cons_of_mem _ hz)) with q | q
      · omega
      · exact q
theorem rising_of {ns ms : List Int} (hp : ms.Perm ns) (hn : ns.Nodup) (hs : ms.Pairwise (· ≤ ·)) : ms.Pairwise (· < ·) := by
  have hm : ms.Pairwise (· ≠ ·) := hp.nodup_iff.mpr hn
  refine (hs.and hm).imp fun {a b} h => ?_
  have := h.1
  have := h.2
  omega
/-- the reached places, rising -/
structure Kept (cs : Cells) (st S : List Int) : Prop where
  up : S.Pairwise (· < ·)
  re : ∀ x, x ∈ S ↔ Reach cs st x
theorem Kept.uniq {cs : Cells} {st S S' : List Int} (h : Kept cs st S) (h' : Kept cs st S') : S = S' := rising_uniq h.up h'.up fun x => (h.re x).trans (h'.re x).symm
theorem kept_of {cs : Cells} {st ks S : List Int} (hn : ks.Nodup) (hr : ∀ x, x ∈ ks ↔ Reach cs st x) (hp : S.Perm ks) (hs : S.Pairwise (· ≤ ·)) : Kept cs st S := ⟨rising_of hp hn hs, fun x => (hp.mem_iff).trans (hr x)⟩
end Km
set_option maxHeartbeats 400000
/-! plain mathematics: weak names, last words, told in order -/
set_option linter.all false
namespace Km
def namesFrom : Nat → List (Option Int) → List (List Int)
  | _, [] => []
  | n, none :: r => namesFrom (n + 1) r
  | n, some a :: r => [(n : Int), a] :: namesFrom (n + 1) r
theorem namesFrom_snoc : ∀ {l : List (Option Int)} {n : Nat} {o : Option Int}, namesFrom n (l ++ [o]) = namesFrom n l ++ (match o with | none => [] | some a => [[((n + l.length : Nat) : Int), a]])
  | [], n, none => rfl
  | [], n, some a => rfl
  | none :: r, n, o => by
    show namesFrom (n + 1) (r ++ [o]) = namesFrom (n + 1) r ++ _
    rw [namesFrom_snoc, List.length_cons, show n + (r.length + 1) = n + 1 + r.length by omega]
  | some a :: r, n, o => by
    show [(n : Int), a] :: namesFrom (n + 1) (r ++ [o]) = ([(n : Int), a] :: namesFrom (n + 1) r) ++ _
    rw [namesFrom_snoc, List.length_cons, show n + (r.length + 1) = n + 1 + r.length by omega]
    rfl
abbrev Tick := Option (Int × Int)
def pendFrom : Nat → List Tick → List (List Int)
  | _, [] => []
  | n, none :: r => pendFrom (n + 1) r
  | n, some (a, k) :: r => [(n : Int), a, k] :: pendFrom (n + 1) r
theorem pendFrom_snoc : ∀ {l : List Tick} {n : Nat} {o : Tick}, pendFrom n (l ++ [o]) = pendFrom n l ++ (match o with | none => [] | some (a, k) => [[((n + l.length : Nat) : Int), a, k]])
  | [], n, none => rfl
  | [], n, some (a, k) => rfl
  | none :: r, n, o => by
    show pendFrom (n + 1) (r ++ [o]) = pendFrom (n + 1) r ++ _
    rw [pendFrom_snoc, List.length_cons, show n + (r.length + 1) = n + 1 + r.length by omega]
  | some (a, k) :: r, n, o => by
    show [(n : Int), a, k] :: pendFrom (n + 1) (r ++ [o]) = ([(n : Int), a, k] :: pendFrom (n + 1) r) ++ _
    rw [pendFrom_snoc, List.length_cons, show n + (r.length + 1) = n + 1 + r.length by omega]
    rfl
end Km
set_option maxHeartbeats 400000
/-! plain mathematics: goals, turning, sliding -/
set_option linter.all false
namespace Km
def csGet (cs : Cells) (a : Int) : List Int := (cs.lookup a).getD []
theorem csGet_mem {cs : Cells} (D : Disj cs) {a : Int} {ws : List Int} (h : (a, ws) ∈ cs) : csGet cs a = ws := by
  unfold csGet
  rw [lk_mem D.nodup h]
  rfl
theorem csGet_in {cs : Cells} (D : Disj cs) {a : Int} (h : a ∈ keys cs) : (a, csGet cs a) ∈ cs := by
  obtain ⟨ws, hw⟩ := keys_mem h
  rw [csGet_mem D hw]
  exact hw
/-- where each goes, from t on -/
def goalsL (cs : Cells) : Int → List Int → List (Int × Int)
  | _, [] => []
  | t, a :: r => (a, t) :: goalsL cs (t + 1 + (csGet cs a).length) r
def topOf (cs : Cells) : Int → List Int → Int
  | t, [] => t
  | t, a :: r => topOf cs (t + 1 + (csGet cs a).length) r
theorem goalsL_snoc {cs : Cells} {a : Int} : ∀ {l : List Int} {t : Int}, goalsL cs t (l ++ [a]) = goalsL cs t l ++ [(a, topOf cs t l)]
  | [], t => rfl
  | b :: r, t => by
    show (b, t) :: goalsL cs (t + 1 + (csGet cs b).length) (r ++ [a]) = _
    rw [goalsL_snoc]
    rfl
theorem topOf_snoc {cs : Cells} {a : Int} : ∀ {l : List Int} {t : Int}, topOf cs t (l ++ [a]) = topOf cs t l + 1 + (csGet cs a).length
  | [], t => rfl
  | b :: r, t => by
    show topOf cs (t + 1 + (csGet cs b).length) (r ++ [a]) = _
    rw [topOf_snoc]
    rfl
theorem goalsL_keys {cs : Cells} : ∀ {l : List Int} {t : Int}, (goalsL cs t l).map (·.1) = l
  | [], _ => rfl
  | a :: r, t => by
    show a :: (goalsL cs (t + 1 + (csGet cs a).length) r).map (·.1) = a :: r
    rw [goalsL_keys]
theorem goalsL_len {cs : Cells} {l : List Int} {t : Int} : (goalsL cs t l).length = l.length := by
  have := congrArg List.length (goalsL_keys (cs := cs) (l := l) (t := t))
  rw [List.length_map] at this
  exact this
theorem goalsL_mem {cs : Cells} {l : List Int} {t : Int} {j : Nat} {a : Int} (h : l[j]? = some a) : (a, topOf cs t (l.take j)) ∈ goalsL cs t l := by
  have e : l = l.take j ++ a :: l.drop (j + 1) := by
    have hj := (List.getElem?_eq_some_iff.mp h).1
    have h2 := (List.getElem?_eq_some_iff.mp h).2
    rw [← h2]
    simp
  have key : ∀ (p q : List Int) (t : Int), (a, topOf cs t p) ∈ goalsL cs t (p ++ a :: q) := by
    intro p
    induction p with
    | nil =>
      intro q t
      exact List.mem_cons_self
    | cons b r ih =>
      intro q t
      exact List.mem_cons_of_mem _ (ih q _)
  have := key (l.take j) (l.drop (j + 1)) t
  rw [← e] at this
  exact this
theorem goalsL_look {cs : Cells} {l : List Int} {t : Int} (hn : l.Nodup) {j : Nat} {a : Int} (h : l[j]? = some a) : (goalsL cs t l).lookup a = some (topOf cs t (l.take j)) :=
  lk_mem (by rw [goalsL_keys]; exact hn) (goalsL_mem h)
theorem goalsL_none {cs : Cells} {l : List Int} {t : Int} {a : Int} (h : a ∉ l) : (goalsL cs t l).lookup a = none := lk_none (by rw [goalsL_keys]; exact h)
theorem topOf_le {cs : Cells} : ∀ {l : List Int} {t : Int}, t ≤ topOf cs t l
  | [], t => Int.le_refl _
  | a :: r, t => by
    have := topOf_le (cs := cs) (l := r) (t := t + 1 + (csGet cs a).length)
    show t ≤ topOf cs (t + 1 + (csGet cs a).length) r
    omega
theorem topOf_append {cs : Cells} : ∀ {p q : List Int} {t : Int}, topOf cs t (p ++ q) = topOf cs (topOf cs t p) q
  | [], q, t => rfl
  | a :: r, q, t => topOf_append (p := r) (q := q) (t := t + 1 + (csGet cs a).length)
theorem rising_nodup {l : List Int} (h : l.Pairwise (· < ·)) : l.Nodup := h.imp fun {a b} hlt => by omega
theorem rising_get {l : List Int} (h : l.Pairwise (· < ·)) {i j : Nat} {a b : Int} (hi : l[i]? = some a) (hj : l[j]? = some b) (hij : i < j) : a < b := by
  obtain ⟨h1, e1⟩ := List.getElem?_eq_some_iff.mp hi
  obtain ⟨h2, e2⟩ := List.getElem?_eq_some_iff.mp hj
  rw [← e1, ← e2]
  exact List.pairwise_iff_getElem.mp h i j h1 h2 hij
theorem take_succ' {α : Type} {l : List α} {i : Nat} {a : α} (h : l[i]? = some a) : l.take (i + 1) = l.take i ++ [a] := by
  rw [List.take_add_one, h]
  rfl
/-- rising cells lie apart, one behind the other -/
theorem slid_apart {M : List Int} {cs : Cells} (D : Disj cs) (m : Mem M cs) {a b : Int} (ha : a ∈ keys cs) (hb : b ∈ keys cs) (h : a < b) : a + (csGet cs a).length < b := by
  have h1 := csGet_in D ha
  have h2 := csGet_in D hb
  rcases D.apart h1 h2 (by simp only; omega) with q | q
  · simp only at q
    omega
  · simp only at q
    omega
theorem goal_le {M : List Int} {cs : Cells} (D : Disj cs) (m : Mem M cs) {S : List Int} (up : S.Pairwise (· < ·)) (hk : ∀ x ∈ S, x ∈ keys cs) : ∀ (i : Nat) (a : Int), S[i]? = some a → topOf cs 0 (S.take i) ≤ a := by
  intro i
  induction i with
  | zero =>
    intro a h
    have := (m _ (csGet_in D (hk a (List.mem_of_getElem? h)))).pos
    simpa [topOf] using this
  | succ i ih =>
    intro a h
    have hi : i < S.length := by have := (List.getElem?_eq_some_iff.mp h).1; omega
    have e : S[i]? = some S[i] := List.getElem?_eq_getElem hi
    have h1 := ih _ e
    have h2 := slid_apart D m (hk _ (List.getElem_mem hi)) (hk a (List.mem_of_getElem? h)) (rising_get up e h (by omega))
    rw [take_succ' e, topOf_snoc]
    omega
theorem goal_mono {cs : Cells} {S : List Int} {i j : Nat} {a : Int} (h : S[j]? = some a) (hij : j < i) : topOf cs 0 (S.take j) + 1 + (csGet cs a).length ≤ topOf cs 0 (S.take i) := by
  have e : S.take i = S.take (j + 1) ++ (S.take i).drop (j + 1) := by
    have : S.take (j + 1) = (S.take i).take (j + 1) := by rw [List.take_take, Nat.min_eq_left (by omega)]
    rw [this, List.take_append_drop]
  rw [e, topOf_append, take_succ' h, topOf_snoc]
  exact topOf_le
/-! ### turning words -/
def turnW (wh : List (Int × Int)) (w : Int) : Int := if isP w then 2 * ((wh.lookup (w / 2)).getD 0) + 1 else w
/-- the kept cells where they go -/
def newCs (cs : Cells) (wh : List (Int × Int)) (S : List Int) : Cells := S.map fun a => ((wh.lookup a).getD 0, (csGet cs a).map (turnW wh))
/-- one behind the other, from b to t -/
def Tiled (M : List Int) : Int → Int → Cells → Prop
  | b, t, [] => b = t
  | b, t, c :: r => c.1 = b ∧ CellAt M c.1 c.2 ∧ Tiled M (b + 1 + c.2.length) t r
/-- all that the law asks of a cell behind a collection -/
structure CellOld (M : List Int) (a : Int) (ws : List Int) : Prop where
  c : CellAt M a ws
  h : mget M a = 8 * ws.length + 4
/-! ### names and tickets -/
def toldN (wh : List (Int × Int)) (told : List (Option Int)) : List (Option Int) := told.map (·.bind (wh.lookup ·))
def tickN (wh : List (Int × Int)) (W : List Tick) : List Tick := W.map fun t => t.bind fun p => (wh.lookup p.1).map fun g => (g, p.2)
/-- the numbers of the tickets whose cells go nowhere -/
def dropN (wh : List (Int × Int)) (W : List Tick) : List Int := W.filterMap fun t => t.bind fun p => if (wh.lookup p.1).isNone then some p.2 else none
theorem names_cons : ∀ {post : List (Option Int)} {n : Nat} {row : List Int} {rest : List (List Int)}, namesFrom n post = row :: rest →
    ∃ (ns : List (Option Int)) (a : Int) (r : List (Option Int)), post = ns ++ some a :: r ∧ (∀ x ∈ ns, x = none) ∧ row = [((n + ns.length : Nat) : Int), a] ∧ rest = namesFrom (n + ns.length + 1) r
  | [], _, _, _, h => by cases h
  | some a :: r, n, row, rest, h => by
    have h : [(n : Int), a] :: namesFrom (n + 1) r = row :: rest := h
    injection h with h1 h2
    exact ⟨[], a, r, rfl, (fun x hx => by cases hx), h1.symm, h2.symm⟩
  | none :: r, n, row, rest, h => by
    have h : namesFrom (n + 1) r = row :: rest := h
    obtain ⟨ns, a, q, e1, e2, e3, e4⟩ := names_cons h
    refine ⟨none :: ns, a, q, by rw [e1]; rfl, fun x hx => ?_, by rw [e3, List.length_cons, show n + 1 + ns.length = n + (ns.length + 1) by omega], by rw [e4, List.length_cons, show n + 1 + ns.length = n + (ns.length + 1) by omega]⟩
    rcases List.mem_cons.mp hx with h | h
    · exact h
    · exact e2 x h
theorem names_nil : ∀ {post : List (Option Int)} {n : Nat}, namesFrom n post = [] → ∀ x ∈ post, x = none
  | [], _, _ => fun x hx => by cases hx
  | some a :: r, n, h => by
    have h : [(n : Int), a] :: namesFrom (n + 1) r = [] := h
    cases h
  | none :: r, n, h => fun x hx => by
    rcases List.mem_cons.mp hx with e | e
    · exact e
    · exact names_nil (show namesFrom (n + 1) r = [] from h) x e
theorem toldN_none {wh : List (Int × Int)} {ns : List (Option Int)} (h : ∀ x ∈ ns, x = none) : toldN wh ns = ns := by
  unfold toldN
  conv => rhs; rw [← List.map_id ns]
  apply List.map_congr_left
  intro x hx
  rw [h x hx]
  rfl
theorem pend_cons : ∀ {post : List Tick} {n : Nat} {row : List Int} {rest : List (List Int)}, pendFrom n post = row :: rest →
    ∃ (ns : List Tick) (a k : Int) (r : List Tick), post = ns ++ some (a, k) :: r ∧ (∀ x ∈ ns, x = none) ∧ row = [((n + ns.length : Nat) : Int), a, k] ∧ rest = pendFrom (n + ns.length + 1) r
  | [], _, _, _, h => by cases h
  | some (a, k) :: r, n, row, rest, h => by
    have h : [(n : Int), a, k] :: pendFrom (n + 1) r = row :: rest := h
    injection h with h1 h2
    exact ⟨[], a, k, r, rfl, (fun x hx => by cases hx), h1.symm, h2.symm⟩
  | none :: r, n, row, rest, h => by
    have h : pendFrom (n + 1) r = row :: rest := h
    obtain ⟨ns, a, k, q, e1, e2, e3, e4⟩ := pend_cons h
    refine ⟨none :: ns, a, k, q, by rw [e1]; rfl, fun x hx => ?_, by rw [e3, List.length_cons, show n + 1 + ns.length = n + (ns.length + 1) by omega], by rw [e4, List.length_cons, show n + 1 + ns.length = n + (ns.length + 1) by omega]⟩
    rcases List.mem_cons.mp hx with h | h
    · exact h
    · exact e2 x h
theorem pend_nil : ∀ {post : List Tick} {n : Nat}, pendFrom n post = [] → ∀ x ∈ post, x = none
  | [], _, _ => fun x hx => by cases hx
  | some (a, k) :: r, n, h => by
    have h : [(n : Int), a, k] :: pendFrom (n + 1) r = [] := h
    cases h
  | none :: r, n, h => fun x hx => by
    rcases List.mem_cons.mp hx with e | e
    · exact e
    · exact pend_nil (show pendFrom (n + 1) r = [] from h) x e
theorem tickN_none {wh : List (Int × Int)} {ns : List Tick} (h : ∀ x ∈ ns, x = none) : tickN wh ns = ns ∧ dropN wh ns = [] := by
  constructor
  · unfold tickN
    conv => rhs; rw [← List.map_id ns]
    apply List.map_congr_left
    intro x hx
    rw [h x hx]
    rfl
  · unfold dropN
    rw [List.filterMap_eq_nil_iff]
    intro x hx
    rw [h x hx]
    rfl
theorem set_mid {α : Type} {p q : List α} {x y : α} : (p ++ x :: q).set p.length y = p ++ y :: q := by
  rw [List.set_append_right _ _ (Nat.le_refl _), Nat.sub_self]
  rfl
theorem get_mid {α : Type} {p q : List α} {x : α} : (p ++ x :: q)[p.length]? = some x := by
  rw [List.getElem?_append_right (Nat.le_refl _), Nat.sub_self]
  rfl
end Km
set_option maxHeartbeats 400000
/-! plain mathematics: the slide as a whole -/
set_option linter.all false
namespace Km
theorem nodup_sum {α : Type} (g : α → Nat) : ∀ {l l' : List α}, l.Nodup → (∀ x ∈ l, x ∈ l') → (l.map g).sum ≤ (l'.map g).sum
  | [], _, _, _ => Nat.zero_le _
  | x :: r, l', h, hs => by
    obtain ⟨s, t, rfl⟩ := List.append_of_mem (hs x (List.mem_cons_self))
    obtain ⟨h1, h2⟩ := List.nodup_cons.mp h
    have ih := nodup_sum g (l := r) (l' := s ++ t) h2 fun y hy => by
      have := hs y (List.mem_cons_of_mem _ hy)
      rcases List.mem_append.mp this with q | q
      · exact List.mem_append_left _ q
      · rcases List.mem_cons.mp q with e | q
        · subst e
          exact absurd hy h1
        · exact List.mem_append_right _ q
    simp only [List.map_cons, List.map_append, List.sum_cons, List.sum_append] at *
    omega
/-- all words of the cells -/
def size (cs : Cells) : Nat := (cs.map fun c => c.2.length + 1).sum
theorem topOf_sum {cs : Cells} : ∀ {S : List Int} {t : Int}, topOf cs t S = t + ((S.map fun a => (csGet cs a).length + 1).sum : Nat)
  | [], t => by simp [topOf]
  | a :: r, t => by
    show topOf cs (t + 1 + (csGet cs a).length) r = _
    rw [topOf_sum, List.map_cons, List.sum_cons]
    omega
theorem keys_sum {cs : Cells} (D : Disj cs) : ((keys cs).map fun a => (csGet cs a).length + 1).sum = size cs := by
  unfold keys size
  rw [List.map_map]
  congr 1
  apply List.map_congr_left
  intro c hc
  show (csGet cs c.1).length + 1 = c.2.length + 1
  rw [csGet_mem D (ws := c.2) hc]
theorem top_le_size {cs : Cells} (D : Disj cs) {S : List Int} (hn : S.Nodup) (hk : ∀ x ∈ S, x ∈ keys cs) : topOf cs 0 S ≤ size cs := by
  rw [topOf_sum]
  have := nodup_sum (fun a => (csGet cs a).length + 1) hn hk
  rw [keys_sum D] at this
  omega
/-- the slide, i cells done -/
structure Slid (cs : Cells) (S : List Int) (f : Int → List Int) (N : List Int) (i : Nat) : Prop where
  done : ∀ j a, j < i → S[j]? = some a → CellOld N (topOf cs 0 (S.take j)) (f a)
  rest : ∀ j a, i ≤ j → S[j]? = some a → CellAt N a (f a)
theorem CellOld.frame {M N : List Int} {a : Int} {ws : List Int} (c : CellOld M a ws) (hl : N.length = M.length) (h : ∀ i, a ≤ i → i ≤ a + ws.length → mget N i = mget M i) : CellOld N a ws :=
  ⟨c.c.frame hl h, by rw [h a (by omega) (by omega)]; exact c.h⟩
theorem Slid.turn {M0 : List Int} {cs : Cells} {S : List Int} {f : Int → List Int} {N N1 : List Int} {i : Nat} {a : Int} (sl : Slid cs S f N i) (D : Disj cs) (m : Mem M0 cs) (up : S.Pairwise (· < ·)) (hk : ∀ x ∈ S, x ∈ keys cs) (hf : ∀ a, (f a).length = (csGet cs a).length)
    (ha : S[i]? = some a) (hl : N1.length = N.length) (c1 : ∀ k : Int, 0 ≤ k → k < (f a).length + 1 → mget N1 (topOf cs 0 (S.take i) + k) = mget N (a + k)) (c2 : ∀ k : Int, 0 ≤ k → (k < topOf cs 0 (S.take i) ∨ topOf cs 0 (S.take i) + ((f a).length + 1) ≤ k) → mget N1 k = mget N k) :
    CellAt N1 (topOf cs 0 (S.take i)) (f a) ∧ Slid cs S f (mset N1 (topOf cs 0 (S.take i)) (8 * (f a).length + 4)) (i + 1) := by
  have ca := sl.rest i a (Nat.le_refl _) ha
  have gle := goal_le D m up hk i a ha
  have g0 : 0 ≤ topOf cs 0 (S.take i) := topOf_le (t := 0)
  have hfit := ca.fit
  have cg : CellAt N1 (topOf cs 0 (S.take i)) (f a) := by
    refine ⟨g0, by omega, ca.len, ?_, fun k w e => ?_⟩
    · obtain ⟨g, h0, h1, e⟩ := ca.hd
      refine ⟨g, h0, h1, ?_⟩
      have := c1 0 (by omega) (by omega)
      rw [Int.add_zero, Int.add_zero] at this
      rw [this, e]
    · have hkl := (List.getElem?_eq_some_iff.mp e).1
      have := c1 (1 + k) (by omega) (by omega)
      rw [show topOf cs 0 (S.take i) + 1 + (k : Int) = topOf cs 0 (S.take i) + (1 + k) by omega, this, show a + (1 + (k : Int)) = a + 1 + k by omega]
      exact ca.sl k w e
  refine ⟨cg, fun j b hj hb => ?_, fun j b hj hb => ?_⟩
  · by_cases e : j = i
    · subst e
      rw [ha] at hb
      have eb := Option.some.inj hb
      subst eb
      refine ⟨⟨g0, by rw [mset_len]; omega, ca.len, ⟨2, by omega, by omega, ?_⟩, fun k w e => ?_⟩, ?_⟩
      · rw [mget_same g0 (by omega)]
        omega
      · rw [mget_ne g0 (by omega) (by omega)]
        exact cg.sl k w e
      · exact mget_same g0 (by omega)
    · have dj := sl.done j b (by omega) hb
      have gm := goal_mono (cs := cs) hb (show j < i by omega)
      have hfb := hf b
      have p0 := dj.c.pos
      refine dj.frame (by rw [mset_len, hl]) fun x x0 x1 => ?_
      rw [mget_ne g0 (by omega) (by omega)]
      exact c2 x (by omega) (.inl (by omega))
  · have cb := sl.rest j b (by omega) hb
    have hlt := rising_get up ha hb (show i < j by omega)
    have ap := slid_apart D m (hk a (List.mem_of_getElem? ha)) (hk b (List.mem_of_getElem? hb)) hlt
    have hfa := hf a
    refine cb.frame (by rw [mset_len, hl]) fun x x0 x1 => ?_
    rw [mget_ne g0 (by omega) (by omega)]
    exact c2 x (by omega) (.inr (by omega))
/-- what lies there behind it all -/
theorem tiled_of {cs : Cells} {N : List Int} {S : List Int} {wh : List (Int × Int)} (hw : wh = goalsL cs 0 S) (hn : S.Nodup) (h : ∀ j a, S[j]? = some a → CellOld N (topOf cs 0 (S.take j)) ((csGet cs a).map (turnW wh))) :
    Tiled N 0 (topOf cs 0 S) (newCs cs wh S) ∧ ∀ c ∈ newCs cs wh S, CellOld N c.1 c.2 := by
  have look : ∀ j a, S[j]? = some a → (wh.lookup a).getD 0 = topOf cs 0 (S.take j) := fun j a e => by
    rw [hw, goalsL_look hn e]
    rfl
  constructor
  · have key : ∀ (post pre : List Int), S = pre ++ post → Tiled N (topOf cs 0 pre) (topOf cs 0 S) (newCs cs wh post) := by
      intro post
      induction post with
      | nil =>
        intro pre e
        rw [List.append_nil] at e
        rw [e]
        rfl
      | cons a r ih =>
        intro pre e
        have ea : S[pre.length]? = some a := by
          rw [e, List.getElem?_append_right (Nat.le_refl _), Nat.sub_self]
          rfl
        have et : S.take pre.length = pre := by rw [e, List.take_left]
        have l := look _ _ ea
        have c := (h _ _ ea).c
        rw [et] at l c
        refine ⟨l, ?_, ?_⟩
        · show CellAt N ((wh.lookup a).getD 0) _
          rw [l]
          exact c
        · have := ih (pre ++ [a]) (by rw [e]; simp)
          rw [topOf_snoc] at this
          rw [List.length_map]
          exact this
    exact key S [] rfl
  · intro c hc
    obtain ⟨a, ha, e⟩ := List.mem_map.mp hc
    obtain ⟨j, hj, ej⟩ := List.mem_iff_getElem.mp ha
    have ea : S[j]? = some a := by rw [List.getElem?_eq_getElem hj, ej]
    have := h j a ea
    rw [← look j a ea] at this
    rw [← e]
    exact this
end Km
set_option maxHeartbeats 400000
/-! plain mathematics: cells laid anew -/
set_option linter.all false
namespace Km
/-- every cell lies in old's used part or in young's -/
def Placed (ot yb yt : Int) (cs : Cells) : Prop := ∀ c ∈ cs, (0 ≤ c.1 ∧ c.1 + c.2.length < ot) ∨ (yb ≤ c.1 ∧ c.1 + c.2.length < yt)
theorem Mem.append {M : List Int} {cs ds : Cells} (h : Mem M cs) (h2 : Mem M ds) : Mem M (cs ++ ds) := fun c hc => (List.mem_append.mp hc).elim (h c) (h2 c)
theorem Disj.snoc {cs : Cells} {d : Int × List Int} (h : Disj cs) (h2 : ∀ c ∈ cs, Apart c d) : Disj (cs ++ [d]) := by
  unfold Disj at *
  rw [List.pairwise_append]
  exact ⟨h, List.pairwise_singleton _ _, fun c hc e he => by rw [List.mem_singleton.mp he]; exact h2 c hc⟩
theorem keys_snoc {cs : Cells} {a : Int} {ws : List Int} : keys (cs ++ [(a, ws)]) = keys cs ++ [a] := by
  unfold keys
  rw [List.map_append]
  rfl
theorem size_snoc {cs : Cells} {a : Int} {ws : List Int} : size (cs ++ [(a, ws)]) = size cs + (ws.length + 1) := by
  unfold size
  rw [List.map_append, List.sum_append]
  simp
theorem OkIn.mono {cs ds : Cells} {w : Int} (h : OkIn cs w) (hk : ∀ x ∈ keys cs, x ∈ keys ds) : OkIn ds w := ⟨h.1, fun p => hk _ (h.2 p)⟩
theorem okIn_nothing {cs : Cells} : OkIn cs (-1) := ⟨.inl rfl, fun p => by have := of_decide_eq_true p; omega⟩
theorem okIn_number {cs : Cells} {n : Int} (h1 : -1000000000000 ≤ n) (h2 : n ≤ 1000000000000) : OkIn cs (2 * n) := ⟨.inr (.inl ⟨by omega, by omega, by omega⟩), fun p => by have := of_decide_eq_true p; omega⟩
theorem okIn_place {cs : Cells} {a : Int} (h : a ∈ keys cs) (h0 : 0 ≤ a) (h1 : a ≤ 9999) : OkIn cs (2 * a + 1) := ⟨.inr (.inr ⟨by omega, by omega, by omega⟩), fun _ => by rw [show (2 * a + 1) / 2 = a by omega]; exact h⟩
theorem Closed.snoc {cs : Cells} {a : Int} {n : Nat} (h : Closed cs) : Closed (cs ++ [(a, List.replicate n (-1))]) := by
  intro c hc w hw
  rcases List.mem_append.mp hc with q | q
  · exact (h c q w hw).mono fun x hx => by rw [keys_snoc]; exact List.mem_append_left _ hx
  · rw [List.mem_singleton.mp q] at hw
    rw [List.eq_of_mem_replicate hw]
    exact okIn_nothing
theorem Closed.set {cs : Cells} {a : Int} {k : Nat} {w : Int} (h : Closed cs) (hw : OkIn cs w) : Closed (csSet cs a k w) := by
  intro d hd v hv
  obtain ⟨c, hc, e1, e2, hh⟩ := mem_csSet hd
  have hk : ∀ x ∈ keys cs, x ∈ keys (csSet cs a k w) := fun x hx => by unfold keys at *; rw [csSet_keys]; exact hx
  rcases hh with ⟨q, e⟩ | ⟨q, e⟩
  · rw [e] at hv
    rcases List.mem_or_eq_of_mem_set hv with h3 | h3
    · exact (h c hc v h3).mono hk
    · rw [h3]
      exact hw.mono hk
  · subst e
    exact (h _ hc v hv).mono hk
theorem keys_set {cs : Cells} {a : Int} {k : Nat} {w : Int} : keys (csSet cs a k w) = keys cs := csSet_keys
theorem size_set {cs : Cells} {a : Int} {k : Nat} {w : Int} : size (csSet cs a k w) = size cs := by
  unfold size csSet
  rw [List.map_map]
  congr 1
  apply List.map_congr_left
  intro c _
  show (if c.1 = a then (c.1, c.2.set k w) else c).2.length + 1 = c.2.length + 1
  split
  · simp
  · rfl
theorem len_set {cs : Cells} {a : Int} {k : Nat} {w : Int} : (csSet cs a k w).length = cs.length := by unfold csSet; rw [List.length_map]
theorem Placed.set {ot yb yt : Int} {cs : Cells} {a : Int} {k : Nat} {w : Int} (h : Placed ot yb yt cs) : Placed ot yb yt (csSet cs a k w) := by
  intro d hd
  obtain ⟨c, hc, e1, e2, _⟩ := mem_csSet hd
  rw [e1, e2]
  exact h c hc
theorem Placed.mono {ot yb yt ot' yt' : Int} {cs : Cells} (h : Placed ot yb yt cs) (h1 : ot ≤ ot') (h2 : yt ≤ yt') : Placed ot' yb yt' cs := fun c hc => (h c hc).imp (fun q => ⟨q.1, by omega⟩) fun q => ⟨q.1, by omega⟩
/-- a new cell at a top lies apart from all -/
theorem Placed.apart_old {ot yb yt oe : Int} {cs : Cells} {n : Nat} (h : Placed ot yb yt cs) (h1 : ot + n < oe) (h2 : oe ≤ yb) : ∀ c ∈ cs, Apart c (ot, List.replicate n (-1)) := fun c hc => by
  unfold Apart
  rw [List.length_replicate]
  rcases h c hc with q | q
  · exact .inl q.2
  · exact .inr (by simp only; omega)
theorem Placed.apart_young {ot yb yt oe : Int} {cs : Cells} {n : Nat} (h : Placed ot yb yt cs) (h1 : ot ≤ oe) (h2 : oe ≤ yb) (h3 : yb ≤ yt) : ∀ c ∈ cs, Apart c (yt, List.replicate n (-1)) := fun c hc => by
  unfold Apart
  rw [List.length_replicate]
  rcases h c hc with q | q
  · exact .inl (by simp only; omega)
  · exact .inl q.2
theorem placed_snoc {ot yb yt : Int} {cs : Cells} {d : Int × List Int} (h : Placed ot yb yt cs) (hd : (0 ≤ d.1 ∧ d.1 + d.2.length < ot) ∨ (yb ≤ d.1 ∧ d.1 + d.2.length < yt)) : Placed ot yb yt (cs ++ [d]) := fun c hc => by
  rcases List.mem_append.mp hc with q | q
  · exact h c q
  · rw [List.mem_singleton.mp q]
    exact hd
theorem Mem.aged {M : List Int} {cs : Cells} {a g : Int} {ws : List Int} (m : Mem M cs) (D : Disj cs) (h : (a, ws) ∈ cs) (ca : CellAt (mset M a (8 * ws.length + 2 * g)) a ws) : Mem (mset M a (8 * ws.length + 2 * g)) cs := by
  intro c hc
  by_cases e : c.1 = a
  · have e2 : c.2 = ws := D.uniq (a := a) (by rw [← e]; exact hc) h
    rw [e, e2]
    exact ca
  · have h0 := (m _ h).pos
    have hc0 := (m _ hc).pos
    refine (m c hc).frame mset_len fun i i0 i1 => mget_ne h0 (by omega) ?_
    rcases D.apart hc h (by simpa using e) with q | q
    · simp only at q
      omega
    · simp only at q
      omega
theorem mem_csSet_self {cs : Cells} {a : Int} {ws : List Int} {k : Nat} {w : Int} (h : (a, ws) ∈ cs) : (a, ws.set k w) ∈ csSet cs a k w := by
  unfold csSet
  exact List.mem_map.mpr ⟨_, h, by simp⟩
theorem mem_csSet_other {cs : Cells} {a b : Int} {ws : List Int} {k : Nat} {w : Int} (h : (b, ws) ∈ cs) (n : b ≠ a) : (b, ws) ∈ csSet cs a k w := by
  unfold csSet
  exact List.mem_map.mpr ⟨_, h, by simp [n]⟩
end Km
set_option maxHeartbeats 400000
/-! plain mathematics: cells of one shape -/
set_option linter.all false
namespace Km
def shape (cs : Cells) : List (Int × Nat) := cs.map fun c => (c.1, c.2.length)
theorem shape_set {cs : Cells} {a : Int} {k : Nat} {w : Int} : shape (csSet cs a k w) = shape cs := by
  unfold shape csSet
  rw [List.map_map]
  apply List.map_congr_left
  intro c _
  show ((if c.1 = a then (c.1, c.2.set k w) else c).1, (if c.1 = a then (c.1, c.2.set k w) else c).2.length) = (c.1, c.2.length)
  split
  · simp
  · rfl
theorem shape_keys {cs ds : Cells} (h : shape ds = shape cs) : keys ds = keys cs := by
  have e : ∀ cs : Cells, keys cs = (shape cs).map (·.1) := fun cs => by
    unfold keys shape
    rw [List.map_map]
    rfl
  rw [e, e, h]
theorem shape_len {cs ds : Cells} (h : shape ds = shape cs) : ds.length = cs.length := by
  have := congrArg List.length h
  unfold shape at this
  rw [List.length_map, List.length_map] at this
  exact this
theorem shape_size {cs ds : Cells} (h : shape ds = shape cs) : size ds = size cs := by
  have e : ∀ cs : Cells, size cs = ((shape cs).map fun p => p.2 + 1).sum := fun cs => by
    unfold size shape
    rw [List.map_map]
    rfl
  rw [e, e, h]
theorem shape_mem {cs ds : Cells} (h : shape ds = shape cs) {a : Int} {ws : List Int} (hm : (a, ws) ∈ cs) : ∃ vs, (a, vs) ∈ ds ∧ vs.length = ws.length := by
  have : (a, ws.length) ∈ shape ds := by
    rw [h]
    exact List.mem_map.mpr ⟨_, hm, rfl⟩
  obtain ⟨c, hc, e⟩ := List.mem_map.mp this
  obtain ⟨e1, e2⟩ := Prod.mk.inj e
  exact ⟨c.2, by rw [← e1]; exact hc, e2⟩
theorem shape_placed {cs ds : Cells} (h : shape ds = shape cs) {ot yb yt : Int} (p : Placed ot yb yt cs) : Placed ot yb yt ds := fun c hc => by
  obtain ⟨vs, hv, e⟩ := shape_mem (cs := ds) (ds := cs) h.symm (a := c.1) (ws := c.2) hc
  have := p _ hv
  simp only [e] at this
  exact this
end Km
set_option maxHeartbeats 400000
/-! plain mathematics: behind a collection all fits again -/
set_option linter.all false
namespace Km
theorem tiled_in {M : List Int} : ∀ {cs : Cells} {b t : Int}, Tiled M b t cs → b ≤ t ∧ ∀ c ∈ cs, b ≤ c.1 ∧ c.1 + c.2.length < t
  | [], b, t, h => ⟨by have h : b = t := h; omega, fun c hc => by cases hc⟩
  | d :: r, b, t, h => by
    obtain ⟨e, _, h3⟩ := h
    obtain ⟨i1, i2⟩ := tiled_in h3
    refine ⟨by omega, fun c hc => ?_⟩
    rcases List.mem_cons.mp hc with q | q
    · rw [q]
      omega
    · have := i2 c q
      omega
theorem tiled_disj {M : List Int} : ∀ {cs : Cells} {b t : Int}, Tiled M b t cs → Disj cs
  | [], b, t, _ => List.Pairwise.nil
  | d :: r, b, t, h => by
    obtain ⟨e, _, h3⟩ := h
    refine List.Pairwise.cons (fun c hc => ?_) (tiled_disj h3)
    have := (tiled_in h3).2 c hc
    exact .inl (by omega)
theorem key_new {cs : Cells} {wh : List (Int × Int)} {S : List Int} {a g : Int} (ha : a ∈ S) (h : wh.lookup a = some g) : g ∈ keys (newCs cs wh S) := by
  unfold keys newCs
  rw [List.map_map]
  refine List.mem_map.mpr ⟨a, ha, ?_⟩
  show (wh.lookup a).getD 0 = g
  rw [h]
  rfl
theorem goals_in {cs : Cells} {S : List Int} {t a g : Int} (h : (goalsL cs t S).lookup a = some g) : a ∈ S := by
  apply Classical.byContradiction
  intro n
  rw [goalsL_none n] at h
  cases h
theorem okIn_turn {cs : Cells} {wh : List (Int × Int)} {S : List Int} {w : Int} (hw : OkW w) (hS : isP w = true → w / 2 ∈ S) (hl : ∀ a ∈ S, ∃ g, wh.lookup a = some g ∧ 0 ≤ g ∧ g ≤ 9999) : OkIn (newCs cs wh S) (turnW wh w) := by
  unfold turnW
  by_cases p : isP w = true
  · obtain ⟨g, e, g0, g1⟩ := hl _ (hS p)
    rw [if_pos p, e]
    exact okIn_place (key_new (hS p) e) g0 g1
  · rw [if_neg p]
    exact ⟨hw, fun q => absurd q p⟩
theorem size_new {cs : Cells} {wh : List (Int × Int)} {S : List Int} : (size (newCs cs wh S) : Int) = topOf cs 0 S := by
  rw [topOf_sum]
  unfold size newCs
  rw [List.map_map, Int.zero_add]
  congr 2
  apply List.map_congr_left
  intro a _
  show ((csGet cs a).map (turnW wh)).length + 1 = _
  rw [List.length_map]
theorem len_size : ∀ {cs : Cells}, cs.length ≤ size cs
  | [] => Nat.le_refl _
  | c :: r => by
    have := len_size (cs := r)
    unfold size at this ⊢
    rw [List.map_cons, List.sum_cons, List.length_cons]
    omega
/-- the tickets that still wait -/
def live : List Tick → Nat
  | [] => 0
  | none :: r => live r
  | some _ :: r => live r + 1
theorem live_le : ∀ {W : List Tick}, live W ≤ W.length
  | [] => Nat.le_refl _
  | none :: r => Nat.le_succ_of_le (live_le (W := r))
  | some _ :: r => Nat.succ_le_succ (live_le (W := r))
theorem live_turn {wh : List (Int × Int)} : ∀ {W : List Tick}, (dropN wh W).length + live (tickN wh W) = live W
  | [] => rfl
  | none :: r => live_turn (W := r)
  | some (a, k) :: r => by
    have ih := live_turn (wh := wh) (W := r)
    unfold dropN tickN at ih ⊢
    rw [List.filterMap_cons, List.map_cons]
    simp only [Option.bind_some]
    show _ = live r + 1
    cases h : wh.lookup a with
    | none =>
      simp only [Option.isNone_none, if_true, Option.map_none, List.length_cons]
      have e : ∀ x : List Tick, live (none :: x) = live x := fun _ => rfl
      rw [e]
      omega
    | some g =>
      simp only [Option.isNone_some, Bool.false_eq_true, if_false, Option.map_some]
      have e : ∀ (y : Int × Int) (x : List Tick), live (some y :: x) = live x + 1 := fun _ _ => rfl
      rw [e]
      omega
theorem tickN_len {wh : List (Int × Int)} {W : List Tick} : (tickN wh W).length = W.length := by unfold tickN; rw [List.length_map]
theorem toldN_len {wh : List (Int × Int)} {l : List (Option Int)} : (toldN wh l).length = l.length := by unfold toldN; rw [List.length_map]
theorem toldN_in {wh : List (Int × Int)} {l : List (Option Int)} {a : Int} (h : some a ∈ toldN wh l) : ∃ b, wh.lookup b = some a := by
  obtain ⟨o, _, e⟩ := List.mem_map.mp h
  cases o with
  | none => cases e
  | some b => exact ⟨b, e⟩
theorem tickN_in {wh : List (Int × Int)} {W : List Tick} {a n : Int} (h : some (a, n) ∈ tickN wh W) : ∃ b, wh.lookup b = some a := by
  obtain ⟨o, _, e⟩ := List.mem_map.mp h
  cases o with
  | none => cases e
  | some p =>
    obtain ⟨b, k⟩ := p
    have e : (wh.lookup b).map (fun g => (g, k)) = some (a, n) := e
    cases h2 : wh.lookup b with
    | none => rw [h2] at e; cases e
    | some g =>
      rw [h2] at e
      have := Option.some.inj e
      exact ⟨b, by rw [h2, (Prod.mk.inj this).1]⟩
end Km
set_option Elab.async false
set_option linter.all false
set_option maxRecDepth 100000
set_option maxHeartbeats 4000000
/-! words -/
namespace Km
open PySem PySem.Spec PyProof.Rows L2
def kindS (w : Int) : Str := if w = -1 then "nothing" else if w % 2 = 0 then "number" else "place"
theorem str_np : ¬ (("nothing" : Str) = "place") := by decide +kernel
theorem str_nn : ¬ (("number" : Str) = "place") := by decide +kernel
theorem str_nN : ¬ (("nothing" : Str) = "number") := by decide +kernel
theorem str_pN : ¬ (("place" : Str) = "number") := by decide +kernel
theorem str_pn : ¬ (("place" : Str) = "nothing") := by decide +kernel
theorem str_Nn : ¬ (("number" : Str) = "nothing") := by decide +kernel
theorem dstr {a b : Str} : decide (V.str a = V.str b) = decide (a = b) := decide_eq_decide.mpr ⟨fun h => V.str.inj h, fun h => by rw [h]⟩
theorem kind_place {w : Int} (h : OkW w) : decide (V.str (kindS w) = V.str "place") = isP w := by
  rw [dstr]
  unfold kindS isP
  rcases h with h | h | h
  · subst h
    rfl
  · rw [if_neg (by omega), if_pos h.1, decide_eq_false str_nn, decide_eq_false (by omega)]
  · rw [if_neg (by omega), if_neg (by omega), decide_eq_true rfl, decide_eq_true (by omega)]
theorem kind_number {w : Int} (h : w % 2 = 0) : kindS w = "number" := by
  unfold kindS
  rw [if_neg (by omega), if_pos h]
theorem kind_nothing {w : Int} (h : w ≠ -1) : decide (V.str (kindS w) = V.str "nothing") = false := by
  rw [dstr]
  unfold kindS
  rw [if_neg h]
  split
  · exact decide_eq_false str_Nn
  · exact decide_eq_false str_pn
theorem ifNN' {c A B : Prop} [Decidable c] (h : c) (b : B) : if (!decide c) = true then A else B := by
  rw [decide_eq_true h]
  exact iteF b
/-- is_whole(i) -/
def sp_is_whole (K : PySem.W.Frag) : Sp := fun vs H Q _ => ∃ i : Int, vs = [.int i] ∧ Q (.bl true) H
theorem ok_is_whole {P : Program} {w : World} {K : PySem.W.Frag} {mg : Str → Option Value} {base : Heap} (T : Tx K mg) : FX P w K mg base 1 (He.ga K "is_whole") ["thing"] (sp_is_whole K) := by
  refine fx_of T.f_is_whole sc_is_whole (fun _ _ _ _ _ _ us hl => match us, hl with | [_], _ => rfl) (fun vs H Q E h => ?_) (fun cdv A outer s H vs Q E hr h => ?_)
  · obtain ⟨_, rfl, _⟩ := h
    rfl
  · obtain ⟨i, rfl, q⟩ := h
    refine ⟨_, (pss_one (ps_ret (pe_and (pe_callB call_isi (by rfl) T.n_isinstance (by decide +kernel) (pa_cons (pv 0) (pa_cons (pe_bltn (v := .ty "int") (by rfl) T.n_int (by decide +kernel) rfl) pa_nil))) (pe_one (pe_not (pe_callB call_isi (by rfl) T.n_isinstance (by decide +kernel) (pa_cons (pv 0) (pa_cons (pe_bltn (v := .ty "bool") (by rfl) T.n_bool (by decide +kernel) rfl) pa_nil)))))))), ?_⟩
    refine ⟨.int i, rfl, .int i, .ty "int", .type "int", .type "int", true, rfl, .ty _, .base (.int i), kit_ty (by decide +kernel), true, rfl, ?_⟩
    refine iteT ?_
    exact ⟨.int i, rfl, .int i, .ty "bool", .type "int", .type "bool", false, rfl, .ty _, .base (.int i), kit_ty (by decide +kernel), false, rfl, q⟩
/-- abs -/
theorem abs_le {n b : Int} (h1 : -b ≤ n) (h2 : n ≤ b) : (if n < 0 then -n else n) ≤ b := by
  split <;> omega
def sp_number_word (K : PySem.W.Frag) : Sp := fun vs H Q _ => ∃ n : Int, vs = [.int n] ∧ -1000000000000 ≤ n ∧ n ≤ 1000000000000 ∧ Q (.int (2 * n)) H
theorem ok_number_word {P : Program} {w : World} {K : PySem.W.Frag} {mg : Str → Option Value} {base : Heap} (T : Tx K mg) : FX P w K mg base 2 (He.ga K "number_word") ["number"] (sp_number_word K) := by
  refine fx_of T.f_number_word sc_number_word (fun _ _ _ _ _ _ us hl => match us, hl with | [_], _ => rfl) (fun vs H Q E h => ?_) (fun cdv A outer s H vs Q E hr h => ?_)
  · obtain ⟨_, rfl, _⟩ := h
    rfl
  · obtain ⟨n, rfl, h1, h2, q⟩ := h
    refine ⟨_, (pss_cons (ps_if (PW.pt (pw_or (pt_not (pt_val (pe_callF (ok_is_whole (K := K) T) (hr.mono (by decide)) (by rfl) T.g_is_whole (pa_cons (pv 0) pa_nil)))) (pw_or1 (pt_cmpR op_gt (pe_callB call_abs (by rfl) T.n_abs (by decide +kernel) (pa_cons (pv 0) pa_nil)) (gi_MOST_NUMBER T rfl) (nomark _))))) (pss_one ps_never) pss_nil)
      (pss_one (ps_ret (pe_op op_mul pe_int (pv 0))))), ?_⟩
    refine ⟨_, rfl, n, rfl, true, rfl, iteF ?_⟩
    have ha := abs_le (b := 1000000000000) h1 h2
    refine ⟨_, rfl, n, rfl, _, _, rfl, rfl, _, rfl, ifN (by omega) ?_⟩
    exact ⟨_, rfl, _, _, rfl, rfl, .inl ⟨by decide, by decide⟩, q⟩
def sp_place_word (K : PySem.W.Frag) : Sp := fun vs H Q _ => ∃ n : Int, vs = [.int n] ∧ 0 ≤ n ∧ n ≤ 9999 ∧ Q (.int (2 * n + 1)) H
theorem ok_place_word {P : Program} {w : World} {K : PySem.W.Frag} {mg : Str → Option Value} {base : Heap} (T : Tx K mg) : FX P w K mg base 2 (He.ga K "place_word") ["at"] (sp_place_word K) := by
  refine fx_of T.f_place_word sc_place_word (fun _ _ _ _ _ _ us hl => match us, hl with | [_], _ => rfl) (fun vs H Q E h => ?_) (fun cdv A outer s H vs Q E hr h => ?_)
  · obtain ⟨_, rfl, _⟩ := h
    rfl
  · obtain ⟨n, rfl, h1, h2, q⟩ := h
    refine ⟨_, (pss_cons (ps_if (PW.pt (pw_or (pt_not (pt_val (pe_callF (ok_is_whole (K := K) T) (hr.mono (by decide)) (by rfl) T.g_is_whole (pa_cons (pv 0) pa_nil)))) (pw_or1 (pt_not (pt_chain op_le op_le pe_int (pv 0) (gi_MOST_PLACE T rfl)))))) (pss_one ps_never) pss_nil)
      (pss_one (ps_ret (pe_op op_add (pe_op op_mul pe_int (pv 0)) pe_int)))), ?_⟩
    refine ⟨_, rfl, n, rfl, true, rfl, iteF ?_⟩
    refine ⟨_, rfl, _, _, rfl, rfl, _, rfl, ifY h1 ⟨_, _, rfl, rfl, _, rfl, ifNN' h2 ?_⟩⟩
    exact ⟨_, rfl, _, _, rfl, rfl, .inl ⟨by decide, by decide⟩, _, _, rfl, rfl, q⟩
def sp_kind (K : PySem.W.Frag) : Sp := fun vs H Q _ => ∃ n : Int, vs = [.int n] ∧ OkW n ∧ Q (.str (kindS n)) H
theorem ok_kind {P : Program} {w : World} {K : PySem.W.Frag} {mg : Str → Option Value} {base : Heap} (T : Tx K mg) : FX P w K mg base 2 (He.ga K "kind") ["word"] (sp_kind K) := by
  refine fx_of T.f_kind sc_kind (fun _ _ _ _ _ _ us hl => match us, hl with | [_], _ => rfl) (fun vs H Q E h => ?_) (fun cdv A outer s H vs Q E hr h => ?_)
  · obtain ⟨_, rfl, _⟩ := h
    rfl
  · obtain ⟨n, rfl, h, q⟩ := h
    refine ⟨_, (pss_cons (ps_if (pt_not (pt_val (pe_callF (ok_is_whole (K := K) T) (hr.mono (by decide)) (by rfl) T.g_is_whole (pa_cons (pv 0) pa_nil)))) (pss_one ps_never) pss_nil)
      (pss_cons (ps_if (pt_cmpR op_eq (pv 0) (gi_NOTHING T rfl) (nomark _)) (pss_one (ps_ret pe_str)) pss_nil)
      (pss_cons (ps_if (PW.pt (pw_and (pt_cmpR op_eq (pe_op op_mod (pv 0) pe_int) pe_int (nomark _)) (pw_and1 (pt_cmpR op_le (pe_callB call_abs (by rfl) T.n_abs (by decide +kernel) (pa_cons (pv 0) pa_nil)) (pe_op op_mul pe_int (gi_MOST_NUMBER T rfl)) (nomark _))))) (pss_one (ps_ret pe_str)) pss_nil)
      (pss_cons (ps_if (PW.pt (pw_and (pt_cmpR op_eq (pe_op op_mod (pv 0) pe_int) pe_int (nomark _)) (pw_and1 (pt_chain op_lt op_le pe_int (pv 0) (pe_op op_add (pe_op op_mul pe_int (gi_MOST_PLACE T rfl)) pe_int))))) (pss_one (ps_ret pe_str)) pss_nil)
      (pss_one ps_never))))), ?_⟩
    refine ⟨_, rfl, n, rfl, true, rfl, iteF ?_⟩
    refine ⟨_, rfl, rfl, _, rfl, ?_⟩
    unfold kindS at q
    by_cases h0 : n = -1
    · subst h0
      refine iteT ?_
      exact q
    · rw [if_neg h0] at q
      refine ifN (fun e => h0 (V.int.inj e)) ?_
      refine ⟨_, rfl, _, _, rfl, rfl, (by show (0 : Int) < 2; decide), rfl, _, rfl, ?_⟩
      by_cases h2 : n % 2 = 0
      · rw [if_pos h2] at q
        refine ifY (congrArg V.int h2) ?_
        have ha := abs_le (n := n) (b := 2000000000000) (by rcases h with h | h | h <;> omega) (by rcases h with h | h | h <;> omega)
        exact ⟨_, rfl, n, rfl, _, _, rfl, rfl, .inl ⟨by decide, by decide⟩, _, _, rfl, rfl, _, rfl, ifY (by omega) q⟩
      · rw [if_neg h2] at q
        refine ifN (fun e => h2 (V.int.inj e)) (iteF ?_)
        refine ⟨_, rfl, _, _, rfl, rfl, (by show (0 : Int) < 2; decide), rfl, _, rfl, ifY (congrArg V.int (show n % 2 = 1 by omega)) ?_⟩
        exact ⟨_, rfl, _, _, rfl, rfl, _, rfl, ifY (by rcases h with h | h | h <;> omega) ⟨_, _, rfl, rfl, .inl ⟨by decide, by decide⟩, _, _, rfl, rfl, _, _, rfl, rfl, _, rfl, ifY (by rcases h with h | h | h <;> omega) q⟩⟩
def sp_worth (K : PySem.W.Frag) : Sp := fun vs H Q _ => ∃ n : Int, vs = [.int n] ∧ OkW n ∧ n ≠ -1 ∧ Q (.int (n / 2)) H
theorem ok_worth {P : Program} {w : World} {K : PySem.W.Frag} {mg : Str → Option Value} {base : Heap} (T : Tx K mg) : FX P w K mg base 3 (He.ga K "worth") ["word"] (sp_worth K) := by
  refine fx_of T.f_worth sc_worth (fun _ _ _ _ _ _ us hl => match us, hl with | [_], _ => rfl) (fun vs H Q E h => ?_) (fun cdv A outer s H vs Q E hr h => ?_)
  · obtain ⟨_, rfl, _⟩ := h
    rfl
  · obtain ⟨n, rfl, h, h1, q⟩ := h
    refine ⟨_, (pss_cons (ps_if (pt_cmpR op_eq (pe_callF (ok_kind (K := K) T) (hr.mono (by decide)) (by rfl) T.g_kind (pa_cons (pv 0) pa_nil)) pe_str (nomark _)) (pss_one (ps_ret pe_non)) pss_nil)
      (pss_one (ps_ret (pe_op op_fdiv (pv 0) pe_int)))), ?_⟩
    refine ⟨_, rfl, n, rfl, h, rfl, _, rfl, ?_⟩
    rw [kind_nothing h1]
    refine iteF ?_
    exact ⟨_, rfl, _, _, rfl, rfl, ⟨by decide, by decide⟩, q⟩
end Km
set_option Elab.async false
set_option linter.all false
set_option maxRecDepth 100000
set_option maxHeartbeats 4000000
/-! the memory -/
namespace Km
open PySem PySem.Spec PyProof.Rows L2
structure MemO (K : PySem.W.Frag) (H : Hp) (m l : Addr) (M : List Int) : Prop where
  o : ∃ dx, H m = some (.ins (He.ga K "Memory") dx (fl_Memory (.int (M.length : Int)) (.ref l)))
  w : H l = some (.lst (M.map V.int))
theorem MemO.ne {K : PySem.W.Frag} {H : Hp} {m l : Addr} {M : List Int} (h : MemO K H m l M) : m ≠ l := by
  obtain ⟨dx, h1⟩ := h.o
  exact ne_of h1 h.w (by intro z; cases z)
theorem MemO.upd {K : PySem.W.Frag} {H : Hp} {m l : Addr} {M N : List Int} (h : MemO K H m l M) (hl : N.length = M.length) : MemO K (upd H l (.lst (N.map V.int))) m l N := by
  obtain ⟨dx, h1⟩ := h.o
  exact ⟨⟨dx, by rw [upd_ne h.ne, hl]; exact h1⟩, upd_same⟩
theorem MemO.get {K : PySem.W.Frag} {H : Hp} {m l : Addr} {M : List Int} (h : MemO K H m l M) {i : Int} (h0 : 0 ≤ i) (h1 : i < M.length) : atI (M.map V.int) i = some (.int (mget M i)) := by
  have e := mget_some h0 h1
  refine at_of (j := i.toNat) (by omega) ?_
  rw [List.getElem?_map, e]
  rfl
theorem ixN_of {n : Nat} {i : Int} (h0 : 0 ≤ i) (h1 : i < n) : ixN n i = some i.toNat := by
  unfold ixN
  rw [if_pos h0, if_pos h1]
theorem map_mset {M : List Int} {i w : Int} : (M.map V.int).set i.toNat (.int w) = (mset M i w).map V.int := by
  unfold mset
  rw [List.map_set]
theorem MemO.small {K : PySem.W.Frag} {H : Hp} {m l : Addr} {M : List Int} (h : MemO K H m l M) : SqL K H l (M.map V.int) := SqL.of h.w
/-- need(at), read(at), write(at, word) -/
def sp_Memory_need (K : PySem.W.Frag) : Sp := fun vs H Q _ => ∃ (m l : Addr) (M : List Int) (at_ : Int), vs = [.ref m, .int at_] ∧ MemO K H m l M ∧ 0 ≤ at_ ∧ at_ < M.length ∧ Q .non H
theorem ok_Memory_need {P : Program} {w : World} {K : PySem.W.Frag} {mg : Str → Option Value} {base : Heap} (T : Tx K mg) : FX P w K mg base 2 (He.ma K (He.ga K "Memory") "need") ["self", "at"] (sp_Memory_need K) := by
  refine fx_of T.f_Memory_need sc_Memory_need (fun _ _ _ _ _ _ us hl => match us, hl with | [_, _], _ => rfl) (fun vs H Q E h => ?_) (fun cdv A outer s H vs Q E hr h => ?_)
  · obtain ⟨_, _, _, _, rfl, _⟩ := h
    rfl
  · obtain ⟨m, l, M, i, rfl, hm, h0, h1, q⟩ := h
    obtain ⟨dx, ho⟩ := hm.o
    refine ⟨_, (pss_one (ps_if (PW.pt (pw_or (pt_not (pt_val (pe_callF (ok_is_whole (K := K) T) (hr.mono (by decide)) (by rfl) T.g_is_whole (pa_cons (pv 1) pa_nil)))) (pw_or1 (pt_not (pt_chain op_le op_lt pe_int (pv 1) (pe_fld (pv 0) rfl)))))) (pss_one ps_never) pss_nil)), ?_⟩
    refine ⟨_, rfl, i, rfl, true, rfl, iteF ?_⟩
    exact ⟨_, rfl, _, _, rfl, rfl, _, rfl, ifY h0 ⟨_, rfl, rd_Memory_size T ho ⟨_, _, rfl, rfl, _, rfl, ifNN' h1 q⟩⟩⟩
def sp_Memory_read (K : PySem.W.Frag) : Sp := fun vs H Q _ => ∃ (m l : Addr) (M : List Int) (at_ : Int), vs = [.ref m, .int at_] ∧ MemO K H m l M ∧ 0 ≤ at_ ∧ at_ < M.length ∧ Q (.int (mget M at_)) H
theorem ok_Memory_read {P : Program} {w : World} {K : PySem.W.Frag} {mg : Str → Option Value} {base : Heap} (T : Tx K mg) : FX P w K mg base 3 (He.ma K (He.ga K "Memory") "read") ["self", "at"] (sp_Memory_read K) := by
  refine fx_of T.f_Memory_read sc_Memory_read (fun _ _ _ _ _ _ us hl => match us, hl with | [_, _], _ => rfl) (fun vs H Q E h => ?_) (fun cdv A outer s H vs Q E hr h => ?_)
  · obtain ⟨_, _, _, _, rfl, _⟩ := h
    rfl
  · obtain ⟨m, l, M, i, rfl, hm, h0, h1, q⟩ := h
    obtain ⟨dx, ho⟩ := hm.o
    refine ⟨_, (pss_cons (ps_expr (pe_methF (pv 0) T.cl_Memory T.m_Memory_need (ok_Memory_need (K := K) T) (hr.mono (by decide)) (pa_cons (pv 1) pa_nil)))
      (pss_one (ps_ret (pe_ix ix_list (pe_fld (pv 0) rfl) (pv 1) (fun _ _ => rfl))))), ?_⟩
    refine ⟨_, rfl, me_Memory_need ho ⟨_, rfl, m, l, M, i, rfl, hm, h0, h1, ?_⟩⟩
    exact ⟨_, rfl, rd_Memory_words T ho ⟨_, rfl, l, _, i, _, rfl, rfl, hm.small, hm.get h0 h1, q⟩⟩
def sp_Memory_write (K : PySem.W.Frag) : Sp := fun vs H Q _ => ∃ (m l : Addr) (M : List Int) (at_ w : Int), vs = [.ref m, .int at_, .int w] ∧ MemO K H m l M ∧ 0 ≤ at_ ∧ at_ < M.length ∧ OkW w ∧ Q .non (upd H l (.lst ((mset M at_ w).map V.int)))
theorem ok_Memory_write {P : Program} {w : World} {K : PySem.W.Frag} {mg : Str → Option Value} {base : Heap} (T : Tx K mg) : FX P w K mg base 3 (He.ma K (He.ga K "Memory") "write") ["self", "at", "word"] (sp_Memory_write K) := by
  refine fx_of T.f_Memory_write sc_Memory_write (fun _ _ _ _ _ _ us hl => match us, hl with | [_, _, _], _ => rfl) (fun vs H Q E h => ?_) (fun cdv A outer s H vs Q E hr h => ?_)
  · obtain ⟨_, _, _, _, _, rfl, _⟩ := h
    rfl
  · obtain ⟨m, l, M, i, w, rfl, hm, h0, h1, hw, q⟩ := h
    obtain ⟨dx, ho⟩ := hm.o
    refine ⟨_, (pss_cons (ps_expr (pe_methF (pv 0) T.cl_Memory T.m_Memory_need (ok_Memory_need (K := K) T) (hr.mono (by decide)) (pa_cons (pv 1) pa_nil)))
      (pss_cons (ps_expr (pe_callF (ok_kind (K := K) T) (hr.mono (by decide)) (by rfl) T.g_kind (pa_cons (pv 2) pa_nil)))
      (pss_one (ps_asg (pv 2) (pg_sub (pe_fld (pv 0) rfl) (pv 1) set_list))))), ?_⟩
    refine ⟨_, rfl, me_Memory_need ho ⟨_, rfl, m, l, M, i, rfl, hm, h0, h1, ?_⟩⟩
    refine ⟨_, rfl, w, rfl, hw, ?_⟩
    refine ⟨_, rfl, _, rfl, rd_Memory_words T ho ⟨_, rfl, l, _, i, _, rfl, rfl, hm.w, ixN_of h0 (by rw [List.length_map]; exact h1), ?_⟩⟩
    show Q .non _
    rw [map_mset]
    exact q
def sp_Memory_need_stretch (K : PySem.W.Frag) : Sp := fun vs H Q _ => ∃ (m l : Addr) (M : List Int) (at_ n : Int), vs = [.ref m, .int at_, .int n] ∧ MemO K H m l M ∧ 0 ≤ at_ ∧ at_ + n ≤ M.length ∧ Q .non H
theorem ok_Memory_need_stretch {P : Program} {w : World} {K : PySem.W.Frag} {mg : Str → Option Value} {base : Heap} (T : Tx K mg) : FX P w K mg base 2 (He.ma K (He.ga K "Memory") "need_stretch") ["self", "at", "many"] (sp_Memory_need_stretch K) := by
  refine fx_of T.f_Memory_need_stretch sc_Memory_need_stretch (fun _ _ _ _ _ _ us hl => match us, hl with | [_, _, _], _ => rfl) (fun vs H Q E h => ?_) (fun cdv A outer s H vs Q E hr h => ?_)
  · obtain ⟨_, _, _, _, _, rfl, _⟩ := h
    rfl
  · obtain ⟨m, l, M, i, n, rfl, hm, h0, h1, q⟩ := h
    obtain ⟨dx, ho⟩ := hm.o
    refine ⟨_, (pss_one (ps_if (PW.pt (pw_or (pt_not (pt_val (pe_callF (ok_is_whole (K := K) T) (hr.mono (by decide)) (by rfl) T.g_is_whole (pa_cons (pv 1) pa_nil)))) (pw_or (pt_cmpR op_lt (pv 1) pe_int (nomark _)) (pw_or1 (pt_cmpR op_gt (pe_op op_add (pv 1) (pv 2)) (pe_fld (pv 0) rfl) (nomark _)))))) (pss_one ps_never) pss_nil)), ?_⟩
    refine ⟨_, rfl, i, rfl, true, rfl, iteF ?_⟩
    refine ⟨_, rfl, _, _, rfl, rfl, _, rfl, ifN (by omega) ?_⟩
    exact ⟨_, rfl, _, rfl, _, _, rfl, rfl, _, rfl, rd_Memory_size T ho ⟨_, _, rfl, rfl, _, rfl, ifN (by omega) q⟩⟩
theorem ints_at {M : List Int} {i : Int} (h0 : 0 ≤ i) (h1 : i < M.length) : atI (M.map V.int) i = some (.int (mget M i)) := by
  have e := mget_some h0 h1
  refine at_of (j := i.toNat) (by omega) ?_
  rw [List.getElem?_map, e]
  rfl
def cutI (M : List Int) (i n : Int) : List Int := (M.drop i.toNat).take n.toNat
theorem cutI_len {M : List Int} {i n : Int} (h0 : 0 ≤ i) (n0 : 0 ≤ n) (h1 : i + n ≤ M.length) : (cutI M i n).length = n.toNat := by
  unfold cutI
  rw [List.length_take, List.length_drop]
  omega
theorem cutI_get {M : List Int} {i n k : Int} (h0 : 0 ≤ i) (n0 : 0 ≤ n) (h1 : i + n ≤ M.length) (k0 : 0 ≤ k) (k1 : k < n) : mget (cutI M i n) k = mget M (i + k) := by
  have e1 := mget_some (M := cutI M i n) k0 (by rw [cutI_len h0 n0 h1]; omega)
  have e2 := mget_some (M := M) (i := i + k) (by omega) (by omega)
  unfold cutI at e1
  rw [List.getElem?_take_of_lt (by omega), List.getElem?_drop, show i.toNat + k.toNat = (i + k).toNat by omega, e2] at e1
  exact (Option.some.inj e1).symm
theorem cut_map {M : List Int} {i n : Int} (h0 : 0 ≤ i) (n0 : 0 ≤ n) (h1 : i + n ≤ M.length) : cutV (M.map V.int) (some i) (some (i + n)) = (cutI M i n).map V.int := by
  obtain ⟨a, rfl⟩ : ∃ a : Nat, i = a := ⟨i.toNat, by omega⟩
  obtain ⟨b, rfl⟩ : ∃ b : Nat, n = b := ⟨n.toNat, by omega⟩
  unfold cutV cutI
  rw [show ((a : Int) + (b : Int)) = ((a + b : Nat) : Int) by omega, HT.sIx_nat, HT.sIx_nat, List.length_map, List.map_take, List.map_drop, Nat.min_eq_left (by omega), Nat.min_eq_left (by omega), show a + b - a = b by omega]
  simp
/-- copy(start, goal, many) -/
def sp_Memory_copy (K : PySem.W.Frag) : Sp := fun vs H Q _ => ∃ (m l : Addr) (M : List Int) (i g n : Int), vs = [.ref m, .int i, .int g, .int n] ∧ MemO K H m l M ∧ 0 ≤ i ∧ i + n ≤ M.length ∧ 0 ≤ g ∧ g + n ≤ M.length ∧ 0 ≤ n ∧ n ≤ 1000 ∧ M.length ≤ 100000 ∧
  ∀ (N : List Int) (H' : Hp), N.length = M.length → (∀ k : Int, 0 ≤ k → k < n → mget N (g + k) = mget M (i + k)) → (∀ k : Int, 0 ≤ k → (k < g ∨ g + n ≤ k) → mget N k = mget M k) → MemO K H' m l N → (∀ b o, H b = some o → b ≠ l → H' b = some o) → Q .non H'
theorem ok_Memory_copy {P : Program} {w : World} {K : PySem.W.Frag} {mg : Str → Option Value} {base : Heap} (T : Tx K mg) : FX P w K mg base 3 (He.ma K (He.ga K "Memory") "copy") ["self", "start", "goal", "many"] (sp_Memory_copy K) := by
  refine fx_of T.f_Memory_copy sc_Memory_copy (fun _ _ _ _ _ _ us hl => match us, hl with | [_, _, _, _], _ => rfl) (fun vs H Q E h => ?_) (fun cdv A outer s H vs Q E hr h => ?_)
  · obtain ⟨_, _, _, _, _, _, rfl, _⟩ := h
    rfl
  · obtain ⟨m, l, M, i, g, n, rfl, hm, h0, h1, g0, g1, n0, n1, hl, q⟩ := h
    obtain ⟨dx, ho⟩ := hm.o
    refine ⟨_, (pss_cons (ps_if (PW.pt (pw_or (pt_not (pt_val (pe_callF (ok_is_whole (K := K) T) (hr.mono (by decide)) (by rfl) T.g_is_whole (pa_cons (pv 3) pa_nil)))) (pw_or1 (pt_cmpR op_lt (pv 3) pe_int (nomark _))))) (pss_one ps_never) pss_nil)
      (pss_cons (ps_expr (pe_methF (pv 0) T.cl_Memory T.m_Memory_need_stretch (ok_Memory_need_stretch (K := K) T) (hr.mono (by decide)) (pa_cons (pv 1) (pa_cons (pv 3) pa_nil))))
      (pss_cons (ps_expr (pe_methF (pv 0) T.cl_Memory T.m_Memory_need_stretch (ok_Memory_need_stretch (K := K) T) (hr.mono (by decide)) (pa_cons (pv 2) (pa_cons (pv 3) pa_nil))))
      (pss_cons (ps_set (i := 4) sc_Memory_copy.nd rfl (Or.inl rfl) (pe_slice sl_list (pe_fld (pv 0) rfl) (po_some (pv 1)) (po_some (pe_op op_add (pv 1) (pv 3)))))
      (pss_one (ps_for PassesOwn.never rfl (pi_range1 (by rfl) T.n_range (pa_cons (pv 3) pa_nil)) (pg_name (i := 5) sc_Memory_copy.nd rfl (Or.inl rfl)) (pss_one (ps_asg (pe_ix ix_list (pv 4) (pv 5) (fun _ _ => rfl)) (pg_sub (pe_fld (pv 0) rfl) (pe_op op_add (pv 2) (pv 5)) set_list))))))))), ?_⟩
    refine ⟨_, rfl, n, rfl, true, rfl, iteF ?_⟩
    refine ⟨_, rfl, _, _, rfl, rfl, _, rfl, ifN (by omega) ?_⟩
    refine ⟨_, rfl, me_Memory_need_stretch ho ⟨_, rfl, _, rfl, m, l, M, i, n, rfl, hm, h0, h1, ?_⟩⟩
    refine ⟨_, rfl, me_Memory_need_stretch ho ⟨_, rfl, _, rfl, m, l, M, g, n, rfl, hm, g0, g1, ?_⟩⟩
    refine ⟨_, rfl, rd_Memory_words T ho ⟨_, rfl, _, rfl, _, rfl, _, rfl, _, _, rfl, rfl, _, rfl, l, _, rfl, hm.small, fun p np => ?_⟩⟩
    rw [cut_map h0 n0 h1]
    have lp : p ≠ l := (ne_of_none hm.w np).symm
    refine ⟨_, rfl, n, rfl, by omega, by omega, for_range (lo := 0) (n := n.toNat) (fun k σ H1 => ∃ (N : List Int) (v : Option V), σ = [some (.ref m), some (.int i), some (.int g), some (.int n), some (.ref p), v] ∧ N.length = M.length ∧
      (∀ j : Int, 0 ≤ j → j < k → mget N (g + j) = mget M (i + j)) ∧ (∀ j : Int, 0 ≤ j → (j < g ∨ g + k ≤ j) → mget N j = mget M j) ∧ MemO K H1 m l N ∧ H1 p = some (.lst ((cutI M i n).map V.int)) ∧ ∀ b o, H b = some o → b ≠ l → H1 b = some o)
      ⟨M, none, rfl, rfl, fun j _ _ => by omega, fun j _ _ => rfl, ⟨by obtain ⟨d, e⟩ := hm.o; exact ⟨d, by rw [upd_ne (ne_of_none e np)]; exact e⟩, by rw [upd_ne lp.symm]; exact hm.w⟩, upd_same, fun b o e _ => by rw [upd_ne (ne_of_none e np)]; exact e⟩ ?_ ?_⟩
    · rintro k σ H1 hk ⟨N, v, rfl, hN, a1, a2, hm1, hp, fr⟩
      obtain ⟨dy, ho1⟩ := hm1.o
      have hk1 : (k : Int) < n := by omega
      have hk0 : (0 : Int) ≤ (0 : Int) + (k : Nat) := by omega
      refine ⟨_, rfl, _, rfl, p, _, _, _, rfl, rfl, SqL.of hp, ints_at (by omega) (by rw [cutI_len h0 n0 h1]; omega), ?_⟩
      refine ⟨_, rfl, rd_Memory_words T ho1 ⟨_, rfl, _, rfl, _, _, rfl, rfl, l, _, _, _, rfl, rfl, hm1.w, ixN_of (by omega) (by rw [List.length_map]; omega), ?_⟩⟩
      rw [map_mset]
      refine ⟨_, _, rfl, mset_len.trans hN, fun j j0 j1 => ?_, fun j j0 j1 => ?_, hm1.upd mset_len, by rw [upd_ne lp]; exact hp, fun b o e nb => by rw [upd_ne nb]; exact fr b o e nb⟩
      · by_cases ej : j = (k : Int)
        · subst ej
          rw [show g + (0 + (k : Int)) = g + k by omega, mget_same (by omega) (by omega), cutI_get h0 n0 h1 (by omega) (by omega)]
          rw [show i + (0 + (k : Int)) = i + k by omega]
        · rw [mget_ne (by omega) (by omega) (by omega)]
          exact a1 j j0 (by omega)
      · rw [mget_ne (by omega) (by omega) (by omega)]
        exact a2 j j0 (by omega)
    · rintro σ H1 ⟨N, v, rfl, hN, a1, a2, hm1, hp, fr⟩
      exact q N H1 hN (fun j j0 j1 => a1 j j0 (by omega)) (fun j j0 j1 => a2 j j0 (by omega)) hm1 fr
end Km
set_option Elab.async false
set_option linter.all false
set_option maxRecDepth 100000
set_option maxHeartbeats 4000000
/-! cells -/
namespace Km
open PySem PySem.Spec PyProof.Rows L2
theorem MemO.same {K : PySem.W.Frag} {H H' : Hp} {m l : Addr} {M : List Int} (h : MemO K H m l M) (s : Same H H') : MemO K H' m l M := by
  obtain ⟨dx, e⟩ := h.o
  exact ⟨⟨dx, s _ _ e⟩, s _ _ h.w⟩
theorem same_new {H : Hp} {p : Addr} {o : HO} (h : H p = none) : Same H (upd H p o) := fun b x e => by
  rw [upd_ne (ne_of_none e h)]
  exact e
theorem same_mut {H H' : Hp} {p : Addr} {o : HO} (s : Same H H') (h : H p = none) : Same H (upd H' p o) := fun b x e => by
  rw [upd_ne (ne_of_none e h)]
  exact s _ _ e
def sp_need_slots (K : PySem.W.Frag) : Sp := fun vs H Q _ => ∃ n : Int, vs = [.int n] ∧ 0 ≤ n ∧ n ≤ 8 ∧ Q .non H
theorem ok_need_slots {P : Program} {w : World} {K : PySem.W.Frag} {mg : Str → Option Value} {base : Heap} (T : Tx K mg) : FX P w K mg base 2 (He.ga K "need_slots") ["slots"] (sp_need_slots K) := by
  refine fx_of T.f_need_slots sc_need_slots (fun _ _ _ _ _ _ us hl => match us, hl with | [_], _ => rfl) (fun vs H Q E h => ?_) (fun cdv A outer s H vs Q E hr h => ?_)
  · obtain ⟨_, rfl, _⟩ := h
    rfl
  · obtain ⟨n, rfl, h0, h1, q⟩ := h
    refine ⟨_, (pss_one (ps_if (PW.pt (pw_or (pt_not (pt_val (pe_callF (ok_is_whole (K := K) T) (hr.mono (by decide)) (by rfl) T.g_is_whole (pa_cons (pv 0) pa_nil)))) (pw_or1 (pt_not (pt_chain op_le op_le pe_int (pv 0) (gi_MOST_SLOTS T rfl)))))) (pss_one ps_never) pss_nil)), ?_⟩
    refine ⟨_, rfl, n, rfl, true, rfl, iteF ?_⟩
    exact ⟨_, rfl, _, _, rfl, rfl, _, rfl, ifY h0 ⟨_, _, rfl, rfl, _, rfl, ifNN' h1 q⟩⟩
def sp_lay (K : PySem.W.Frag) : Sp := fun vs H Q _ => ∃ (m l : Addr) (M : List Int) (a : Int) (n : Nat), vs = [.ref m, .int a, .int (n : Int)] ∧ MemO K H m l M ∧ n ≤ 8 ∧ 0 ≤ a ∧ a + n < M.length ∧
  ∀ N : List Int, N.length = M.length → mget N a = 8 * n → (∀ k : Nat, k < n → mget N (a + 1 + k) = -1) → (∀ i : Int, 0 ≤ i → (i < a ∨ a + n < i) → mget N i = mget M i) → Q .non (upd H l (.lst (N.map V.int)))
theorem ok_lay {P : Program} {w : World} {K : PySem.W.Frag} {mg : Str → Option Value} {base : Heap} (T : Tx K mg) : FX P w K mg base 4 (He.ga K "lay") ["memory", "at", "slots"] (sp_lay K) := by
  refine fx_of T.f_lay sc_lay (fun _ _ _ _ _ _ us hl => match us, hl with | [_, _, _], _ => rfl) (fun vs H Q E h => ?_) (fun cdv A outer s H vs Q E hr h => ?_)
  · obtain ⟨_, _, _, _, _, rfl, _⟩ := h
    rfl
  · obtain ⟨m, l, M, a, n, rfl, hm, hn, h0, h1, q⟩ := h
    obtain ⟨dx, ho⟩ := hm.o
    refine ⟨_, (pss_cons (ps_expr (pe_callF (ok_need_slots (K := K) T) (hr.mono (by decide)) (by rfl) T.g_need_slots (pa_cons (pv 2) pa_nil)))
      (pss_cons (ps_if (PW.pt (pw_or (pt_not (pt_val (pe_callF (ok_is_whole (K := K) T) (hr.mono (by decide)) (by rfl) T.g_is_whole (pa_cons (pv 1) pa_nil)))) (pw_or (pt_cmpR op_lt (pv 1) pe_int (nomark _)) (pw_or1 (pt_cmpR op_ge (pe_op op_add (pv 1) (pv 2)) (pe_fld (pv 0) rfl) (nomark _)))))) (pss_one ps_never) pss_nil)
      (pss_cons (ps_expr (pe_methF (pv 0) T.cl_Memory T.m_Memory_write (ok_Memory_write (K := K) T) (hr.mono (by decide)) (pa_cons (pv 1) (pa_cons (pe_callF (ok_number_word (K := K) T) (hr.mono (by decide)) (by rfl) T.g_number_word (pa_cons (pe_op op_mul pe_int (pv 2)) pa_nil)) pa_nil))))
      (pss_one (ps_for PassesOwn.never rfl (pi_range1 (by rfl) T.n_range (pa_cons (pv 2) pa_nil)) (pg_name (i := 3) sc_lay.nd rfl (Or.inl rfl)) (pss_one (ps_expr (pe_methF (pv 0) T.cl_Memory T.m_Memory_write (ok_Memory_write (K := K) T) (hr.mono (by decide)) (pa_cons (pe_op op_add (pe_op op_add (pv 1) pe_int) (pv 3)) (pa_cons (gi_NOTHING T rfl) pa_nil)))))))))), ?_⟩
    refine ⟨_, rfl, (n : Int), rfl, by omega, by omega, ?_⟩
    refine ⟨_, rfl, a, rfl, true, rfl, iteF ?_⟩
    refine ⟨_, rfl, _, _, rfl, rfl, _, rfl, ifN (by omega) ?_⟩
    refine ⟨_, rfl, _, rfl, _, _, rfl, rfl, _, rfl, rd_Memory_size T ho ⟨_, _, rfl, rfl, _, rfl, ifN (by omega) ?_⟩⟩
    refine ⟨_, rfl, me_Memory_write ho ⟨_, rfl, _, rfl, _, _, rfl, rfl, .inl ⟨by decide, by decide⟩, _, rfl, by omega, by omega, ?_⟩⟩
    refine ⟨m, l, M, a, _, rfl, hm, h0, by omega, .inr (.inl ⟨by omega, by omega, by omega⟩), ?_⟩
    have hm1 : MemO K (upd H l (.lst ((mset M a (2 * (4 * (n : Int)))).map V.int))) m l (mset M a (2 * (4 * (n : Int)))) := hm.upd mset_len
    refine ⟨_, rfl, (n : Int), rfl, by omega, by omega, for_range (lo := 0) (n := (n : Int).toNat) (fun k σ H1 => ∃ (N : List Int) (v : Option V), σ = [some (.ref m), some (.int a), some (.int (n : Int)), v] ∧ N.length = M.length ∧ mget N a = 8 * n ∧
      (∀ j : Nat, j < k → mget N (a + 1 + j) = -1) ∧ (∀ i : Int, 0 ≤ i → (i < a ∨ a + n < i) → mget N i = mget M i) ∧ H1 = upd H l (.lst (N.map V.int)))
      ⟨_, none, rfl, mset_len, by rw [mget_same h0 (by omega)]; omega, fun j hj => by omega, fun i i0 i1 => mget_ne h0 i0 (by omega), rfl⟩ ?_ ?_⟩
    · rintro k σ H1 hk ⟨N, v, rfl, hN, a1, a2, a3, rfl⟩
      have hm2 : MemO K (upd H l (.lst (N.map V.int))) m l N := hm.upd hN
      obtain ⟨dy, ho2⟩ := hm2.o
      refine ⟨_, rfl, me_Memory_write ho2 ⟨_, rfl, _, _, rfl, rfl, _, rfl, _, _, rfl, rfl, ?_⟩⟩
      refine ⟨m, l, N, _, -1, rfl, hm2, by omega, by omega, .inl rfl, ?_⟩
      rw [upd_upd]
      refine ⟨_, _, rfl, mset_len.trans hN, ?_, fun j hj => ?_, fun i i0 i1 => ?_, rfl⟩
      · rw [mget_ne (by omega) (by omega) (by omega)]
        exact a1
      · by_cases e : j = k
        · subst e
          rw [show a + 1 + (0 + (j : Int)) = a + 1 + j by omega]
          exact mget_same (by omega) (by omega)
        · rw [mget_ne (by omega) (by omega) (by omega)]
          exact a2 j (by omega)
      · rw [mget_ne (by omega) (by omega) (by omega)]
        exact a3 i i0 i1
    · rintro σ H1 ⟨N, v, rfl, hN, a1, a2, a3, rfl⟩
      exact q N hN a1 (fun k hk => a2 k (by omega)) a3
def sp_head_of (K : PySem.W.Frag) : Sp := fun vs H Q _ => ∃ (m l : Addr) (M : List Int) (a : Int) (ws : List Int), vs = [.ref m, .int a] ∧ MemO K H m l M ∧ CellAt M a ws ∧ ∀ g : Int, 0 ≤ g → g ≤ 2 → Q (.int (4 * ws.length + g)) H
theorem ok_head_of {P : Program} {w : World} {K : PySem.W.Frag} {mg : Str → Option Value} {base : Heap} (T : Tx K mg) : FX P w K mg base 4 (He.ga K "head_of") ["memory", "at"] (sp_head_of K) := by
  refine fx_of T.f_head_of sc_head_of (fun _ _ _ _ _ _ us hl => match us, hl with | [_, _], _ => rfl) (fun vs H Q E h => ?_) (fun cdv A outer s H vs Q E hr h => ?_)
  · obtain ⟨_, _, _, _, _, rfl, _⟩ := h
    rfl
  · obtain ⟨m, l, M, a, ws, rfl, hm, c, q⟩ := h
    obtain ⟨dx, ho⟩ := hm.o
    obtain ⟨g, g0, g1, eg⟩ := c.hd
    have hl := c.len
    have hf := c.fit
    have hw : OkW (mget M a) := .inr (.inl ⟨by omega, by omega, by omega⟩)
    have hwo : mget M a / 2 = 4 * ws.length + g := by omega
    refine ⟨_, (pss_cons (ps_set (i := 2) sc_head_of.nd rfl (Or.inl rfl) (pe_methF (pv 0) T.cl_Memory T.m_Memory_read (ok_Memory_read (K := K) T) (hr.mono (by decide)) (pa_cons (pv 1) pa_nil)))
      (pss_cons (ps_if (PW.pt (pw_or (pt_cmpR op_ne (pe_callF (ok_kind (K := K) T) (hr.mono (by decide)) (by rfl) T.g_kind (pa_cons (pv 2) pa_nil)) pe_str (nomark _)) (pw_or (pt_not (pt_chain op_le op_le pe_int (pe_callF (ok_worth (K := K) T) (hr.mono (by decide)) (by rfl) T.g_worth (pa_cons (pv 2) pa_nil)) (pe_op op_add (pe_op op_mul pe_int (gi_MOST_SLOTS T rfl)) (gi_MOST_AGE T rfl)))) (pw_or1 (pt_cmpR op_gt (pe_op op_mod (pe_callF (ok_worth (K := K) T) (hr.mono (by decide)) (by rfl) T.g_worth (pa_cons (pv 2) pa_nil)) pe_int) (gi_MOST_AGE T rfl) (nomark _)))))) (pss_one ps_never) pss_nil)
      (pss_one (ps_ret (pe_callF (ok_worth (K := K) T) (hr.mono (by decide)) (by rfl) T.g_worth (pa_cons (pv 2) pa_nil)))))), ?_⟩
    refine ⟨_, rfl, me_Memory_read ho ⟨_, rfl, m, l, M, a, rfl, hm, c.pos, by omega, ?_⟩⟩
    refine ⟨_, rfl, _, rfl, hw, rfl, _, rfl, ?_⟩
    rw [kind_number (show mget M a % 2 = 0 by omega)]
    refine ifNN' rfl ?_
    refine ⟨_, rfl, _, rfl, hw, by omega, _, _, rfl, rfl, _, rfl, ifY (by omega) ⟨_, _, rfl, rfl, .inl ⟨by decide, by decide⟩, _, _, rfl, rfl, _, _, rfl, rfl, _, rfl, ifNN' (by omega) ?_⟩⟩
    refine ⟨_, rfl, _, rfl, hw, by omega, _, _, rfl, rfl, (by show (0 : Int) < 4; decide), _, _, rfl, rfl, _, rfl, ifN (by omega) ?_⟩
    refine ⟨_, rfl, _, rfl, hw, by omega, ?_⟩
    rw [hwo]
    exact q g g0 g1
def sp_slots_of (K : PySem.W.Frag) : Sp := fun vs H Q _ => ∃ (m l : Addr) (M : List Int) (a : Int) (ws : List Int), vs = [.ref m, .int a] ∧ MemO K H m l M ∧ CellAt M a ws ∧ Q (.int ws.length) H
theorem ok_slots_of {P : Program} {w : World} {K : PySem.W.Frag} {mg : Str → Option Value} {base : Heap} (T : Tx K mg) : FX P w K mg base 5 (He.ga K "slots_of") ["memory", "at"] (sp_slots_of K) := by
  refine fx_of T.f_slots_of sc_slots_of (fun _ _ _ _ _ _ us hl => match us, hl with | [_, _], _ => rfl) (fun vs H Q E h => ?_) (fun cdv A outer s H vs Q E hr h => ?_)
  · obtain ⟨_, _, _, _, _, rfl, _⟩ := h
    rfl
  · obtain ⟨m, l, M, a, ws, rfl, hm, c, q⟩ := h
    refine ⟨_, (pss_one (ps_ret (pe_op op_fdiv (pe_callF (ok_head_of (K := K) T) (hr.mono (by decide)) (by rfl) T.g_head_of (pa_cons (pv 0) (pa_cons (pv 1) pa_nil))) pe_int))), ?_⟩
    refine ⟨_, rfl, _, rfl, m, l, M, a, ws, rfl, hm, c, fun g g0 g1 => ?_⟩
    refine ⟨_, _, rfl, rfl, ⟨by decide, by decide⟩, ?_⟩
    show Q (.int ((4 * (ws.length : Int) + g) / 4)) H
    rw [show (4 * (ws.length : Int) + g) / 4 = ws.length by omega]
    exact q
def sp_words_of (K : PySem.W.Frag) : Sp := fun vs H Q _ => ∃ (m l : Addr) (M : List Int) (a : Int) (ws : List Int), vs = [.ref m, .int a] ∧ MemO K H m l M ∧ CellAt M a ws ∧ Q (.int (ws.length + 1)) H
theorem ok_words_of {P : Program} {w : World} {K : PySem.W.Frag} {mg : Str → Option Value} {base : Heap} (T : Tx K mg) : FX P w K mg base 6 (He.ga K "words_of") ["memory", "at"] (sp_words_of K) := by
  refine fx_of T.f_words_of sc_words_of (fun _ _ _ _ _ _ us hl => match us, hl with | [_, _], _ => rfl) (fun vs H Q E h => ?_) (fun cdv A outer s H vs Q E hr h => ?_)
  · obtain ⟨_, _, _, _, _, rfl, _⟩ := h
    rfl
  · obtain ⟨m, l, M, a, ws, rfl, hm, c, q⟩ := h
    refine ⟨_, (pss_one (ps_ret (pe_op op_add (pe_callF (ok_slots_of (K := K) T) (hr.mono (by decide)) (by rfl) T.g_slots_of (pa_cons (pv 0) (pa_cons (pv 1) pa_nil))) pe_int))), ?_⟩
    exact ⟨_, rfl, _, rfl, m, l, M, a, ws, rfl, hm, c, _, _, rfl, rfl, q⟩
def sp_aged (K : PySem.W.Frag) : Sp := fun vs H Q _ => ∃ (m l : Addr) (M : List Int) (a g : Int) (ws : List Int), vs = [.ref m, .int a, .int g] ∧ MemO K H m l M ∧ CellAt M a ws ∧ 0 ≤ g ∧ g ≤ 2 ∧ Q .non (upd H l (.lst ((mset M a (8 * ws.length + 2 * g)).map V.int)))
theorem ok_aged {P : Program} {w : World} {K : PySem.W.Frag} {mg : Str → Option Value} {base : Heap} (T : Tx K mg) : FX P w K mg base 6 (He.ga K "aged") ["memory", "at", "age"] (sp_aged K) := by
  refine fx_of T.f_aged sc_aged (fun _ _ _ _ _ _ us hl => match us, hl with | [_, _, _], _ => rfl) (fun vs H Q E h => ?_) (fun cdv A outer s H vs Q E hr h => ?_)
  · obtain ⟨_, _, _, _, _, _, rfl, _⟩ := h
    rfl
  · obtain ⟨m, l, M, a, g, ws, rfl, hm, c, g0, g1, q⟩ := h
    obtain ⟨dx, ho⟩ := hm.o
    have hl := c.len
    have hf := c.fit
    refine ⟨_, (pss_cons (ps_set (i := 3) sc_aged.nd rfl (Or.inl rfl) (pe_callF (ok_slots_of (K := K) T) (hr.mono (by decide)) (by rfl) T.g_slots_of (pa_cons (pv 0) (pa_cons (pv 1) pa_nil))))
      (pss_cons (ps_if (PW.pt (pw_or (pt_not (pt_val (pe_callF (ok_is_whole (K := K) T) (hr.mono (by decide)) (by rfl) T.g_is_whole (pa_cons (pv 2) pa_nil)))) (pw_or1 (pt_not (pt_chain op_le op_le pe_int (pv 2) (gi_MOST_AGE T rfl)))))) (pss_one ps_never) pss_nil)
      (pss_one (ps_expr (pe_methF (pv 0) T.cl_Memory T.m_Memory_write (ok_Memory_write (K := K) T) (hr.mono (by decide)) (pa_cons (pv 1) (pa_cons (pe_callF (ok_number_word (K := K) T) (hr.mono (by decide)) (by rfl) T.g_number_word (pa_cons (pe_op op_add (pe_op op_mul pe_int (pv 3)) (pv 2)) pa_nil)) pa_nil))))))), ?_⟩
    refine ⟨_, rfl, _, rfl, m, l, M, a, ws, rfl, hm, c, ?_⟩
    refine ⟨_, rfl, g, rfl, true, rfl, iteF ?_⟩
    refine ⟨_, rfl, _, _, rfl, rfl, _, rfl, ifY g0 ⟨_, _, rfl, rfl, _, rfl, ifNN' g1 ?_⟩⟩
    refine ⟨_, rfl, me_Memory_write ho ⟨_, rfl, _, rfl, _, _, rfl, rfl, .inl ⟨by decide, by decide⟩, _, rfl, _, _, rfl, rfl, _, rfl, by omega, by omega, ?_⟩⟩
    refine ⟨m, l, M, a, _, rfl, hm, c.pos, by omega, .inr (.inl ⟨by omega, by omega, by omega⟩), ?_⟩
    rw [show 2 * (4 * (ws.length : Int) + g) = 8 * ws.length + 2 * g by omega]
    exact q
def sp_slot_place (K : PySem.W.Frag) : Sp := fun vs H Q _ => ∃ (m l : Addr) (M : List Int) (a k : Int) (ws : List Int), vs = [.ref m, .int a, .int k] ∧ MemO K H m l M ∧ CellAt M a ws ∧ 0 ≤ k ∧ k < ws.length ∧ Q (.int (a + 1 + k)) H
theorem ok_slot_place {P : Program} {w : World} {K : PySem.W.Frag} {mg : Str → Option Value} {base : Heap} (T : Tx K mg) : FX P w K mg base 6 (He.ga K "slot_place") ["memory", "at", "slot"] (sp_slot_place K) := by
  refine fx_of T.f_slot_place sc_slot_place (fun _ _ _ _ _ _ us hl => match us, hl with | [_, _, _], _ => rfl) (fun vs H Q E h => ?_) (fun cdv A outer s H vs Q E hr h => ?_)
  · obtain ⟨_, _, _, _, _, _, rfl, _⟩ := h
    rfl
  · obtain ⟨m, l, M, a, k, ws, rfl, hm, c, g0, g1, q⟩ := h
    refine ⟨_, (pss_cons (ps_set (i := 3) sc_slot_place.nd rfl (Or.inl rfl) (pe_callF (ok_slots_of (K := K) T) (hr.mono (by decide)) (by rfl) T.g_slots_of (pa_cons (pv 0) (pa_cons (pv 1) pa_nil))))
      (pss_cons (ps_if (PW.pt (pw_or (pt_not (pt_val (pe_callF (ok_is_whole (K := K) T) (hr.mono (by decide)) (by rfl) T.g_is_whole (pa_cons (pv 2) pa_nil)))) (pw_or1 (pt_not (pt_chain op_le op_lt pe_int (pv 2) (pv 3)))))) (pss_one ps_never) pss_nil)
      (pss_one (ps_ret (pe_op op_add (pe_op op_add (pv 1) pe_int) (pv 2)))))), ?_⟩
    refine ⟨_, rfl, _, rfl, m, l, M, a, ws, rfl, hm, c, ?_⟩
    refine ⟨_, rfl, k, rfl, true, rfl, iteF ?_⟩
    refine ⟨_, rfl, _, _, rfl, rfl, _, rfl, ifY g0 ⟨_, rfl, _, _, rfl, rfl, _, rfl, ifNN' g1 ?_⟩⟩
    exact ⟨_, rfl, _, _, rfl, rfl, _, rfl, _, _, rfl, rfl, q⟩
def sp_children (K : PySem.W.Frag) : Sp := fun vs H Q _ => ∃ (m l : Addr) (M : List Int) (a : Int) (ws : List Int), vs = [.ref m, .int a] ∧ MemO K H m l M ∧ CellAt M a ws ∧ (∀ w ∈ ws, OkW w) ∧
  ∀ p H', H p = none → Same H H' → H' p = some (.lst ((kids ws).map V.int)) → Q (.ref p) H'
theorem ok_children {P : Program} {w : World} {K : PySem.W.Frag} {mg : Str → Option Value} {base : Heap} (T : Tx K mg) : FX P w K mg base 6 (He.ga K "children") ["memory", "at"] (sp_children K) := by
  refine fx_of T.f_children sc_children (fun _ _ _ _ _ _ us hl => match us, hl with | [_, _], _ => rfl) (fun vs H Q E h => ?_) (fun cdv A outer s H vs Q E hr h => ?_)
  · obtain ⟨_, _, _, _, _, rfl, _⟩ := h
    rfl
  · obtain ⟨m, l, M, a, ws, rfl, hm, c, hw, q⟩ := h
    have hl := c.len
    have hf := c.fit
    have h0 := c.pos
    refine ⟨_, (pss_cons (ps_set (i := 2) sc_children.nd rfl (Or.inl rfl) (pe_lst pa_nil))
      (pss_cons (ps_for PassesOwn.never rfl (pi_range1 (by rfl) T.n_range (pa_cons (pe_callF (ok_slots_of (K := K) T) (hr.mono (by decide)) (by rfl) T.g_slots_of (pa_cons (pv 0) (pa_cons (pv 1) pa_nil))) pa_nil)) (pg_name (i := 3) sc_children.nd rfl (Or.inl rfl)) (pss_cons (ps_set (i := 4) sc_children.nd rfl (Or.inl rfl) (pe_methF (pv 0) T.cl_Memory T.m_Memory_read (ok_Memory_read (K := K) T) (hr.mono (by decide)) (pa_cons (pe_op op_add (pe_op op_add (pv 1) pe_int) (pv 3)) pa_nil)))
      (pss_one (ps_if (pt_cmpR op_eq (pe_callF (ok_kind (K := K) T) (hr.mono (by decide)) (by rfl) T.g_kind (pa_cons (pv 4) pa_nil)) pe_str (nomark _)) (pss_one (ps_expr (pe_bm PySem.F.plainAttrs_list PySem.F.slot_list_append PySem.F.type_list_append mt_append (pv 2) (pa_cons (pe_callF (ok_worth (K := K) T) (hr.mono (by decide)) (by rfl) T.g_worth (pa_cons (pv 4) pa_nil)) pa_nil)))) pss_nil))))
      (pss_one (ps_ret (pv 2))))), ?_⟩
    refine ⟨Nat.zero_le _, fun p np => ?_⟩
    have hm1 := hm.same (same_new (o := .lst []) np)
    refine ⟨_, rfl, _, rfl, m, l, M, a, ws, rfl, hm1, c, ?_⟩
    refine ⟨_, rfl, by omega, by omega, for_range (lo := 0) (n := (ws.length : Int).toNat) (fun k σ H1 => ∃ (v w : Option V), σ = [some (.ref m), some (.int a), some (.ref p), v, w] ∧ Same H H1 ∧ H1 p = some (.lst ((kids (ws.take k)).map V.int)))
      ⟨none, none, rfl, same_new np, upd_same⟩ ?_ ?_⟩
    · rintro k σ H1 hk ⟨v, w, rfl, sm, hp⟩
      have hm2 := hm.same sm
      obtain ⟨dy, ho2⟩ := hm2.o
      have hk1 : k < ws.length := by omega
      have ew : ws[k]? = some ws[k] := List.getElem?_eq_getElem hk1
      have okw := hw _ (List.getElem_mem hk1)
      have eg := c.sl k _ ew
      refine ⟨_, rfl, me_Memory_read ho2 ⟨_, rfl, _, _, rfl, rfl, _, rfl, _, _, rfl, rfl, m, l, M, _, rfl, hm2, by omega, by omega, ?_⟩⟩
      rw [show a + 1 + (0 + (k : Int)) = a + 1 + k by omega, eg]
      refine ⟨_, rfl, _, rfl, okw, rfl, _, rfl, ?_⟩
      rw [kind_place okw]
      refine ifB (fun hp1 => ?_) (fun hp1 => ?_)
      · have hpp := okw.not_num hp1
        refine ⟨_, rfl, .inl ⟨rfl, _, SqL.of hp⟩, _, rfl, _, rfl, okw, by omega, p, _, _, rfl, rfl, hp, ?_, ?_⟩
        · have := List.length_filter_le isP (ws.take k)
          have := List.length_take_le k ws
          rw [List.length_map]
          unfold kids
          rw [List.length_map]
          exact small1000 (by omega)
        · refine ⟨_, _, rfl, same_mut sm np, ?_⟩
          rw [upd_same, kids_take ew, if_pos hp1, List.map_append]
          rfl
      · refine ⟨_, _, rfl, sm, ?_⟩
        rw [kids_take ew, if_neg (by rw [hp1]; exact Bool.false_ne_true), List.append_nil]
        exact hp
    · rintro σ H1 ⟨v, w, rfl, sm, hp⟩
      rw [List.take_of_length_le (by omega)] at hp
      exact ⟨_, rfl, q p H1 np sm hp⟩
end Km
set_option Elab.async false
set_option linter.all false
set_option maxRecDepth 100000
set_option maxHeartbeats 4000000
/-! dicts with int keys; marking -/
namespace Km
open PySem PySem.Spec PyProof.Rows L2
/-- a dict's pairs, its keys ints -/
def kI (xs : List (Int × V)) : List (Key × V) := xs.map fun c => ((Sum.inl c.1 : Key), c.2)
theorem kI_len {xs : List (Int × V)} : (kI xs).length = xs.length := by unfold kI; rw [List.length_map]
theorem valV_kI {a : Int} : ∀ {xs : List (Int × V)}, valV (kI xs) (Sum.inl a : Key) = xs.lookup a
  | [] => rfl
  | (b, v) :: r => by
    rw [lk_cons]
    show valV (((Sum.inl b : Key), v) :: kI r) (Sum.inl a : Key) = _
    by_cases h : a = b
    · subst h
      rw [if_pos rfl, valV_pos rfl]
    · rw [if_neg h, valV_neg (fun e => h (Sum.inl.inj e).symm), valV_kI]
theorem putK_kI {a : Int} {v : V} {xs : List (Int × V)} (h : xs.lookup a = none) : putK (kI xs) (Sum.inl a : Key) v = kI (xs ++ [(a, v)]) := by
  rw [putK_new v (by rw [valV_kI]; exact h)]
  unfold kI
  rw [List.map_append]
  rfl
theorem dgetI {H : Hp} {d : Addr} {xs : List (Int × V)} {a : Int} {o : Option V} (h : Rd H d (.dK (kI xs))) (e : xs.lookup a = o) : DGet H d (.int a) o := .inl ⟨kI xs, Sum.inl a, h, rfl, by rw [valV_kI]; exact e.symm⟩
theorem dputI {H : Hp} {d : Addr} {xs : List (Int × V)} {a : Int} {v : V} (h : H d = some (.dK (kI xs))) (e : xs.lookup a = none) (hl : xs.length ≤ 1000) : DPut H d (.int a) v (upd H d (.dK (kI (xs ++ [(a, v)])))) := by
  rw [← putK_kI e]
  exact DPut.k (k := (Sum.inl a : Key)) h (small1000 (by rw [kI_len]; exact hl))
def metI (F : List Int) : List (Int × V) := F.map fun x => (x, V.bl true)
theorem metI_snoc {F : List Int} {a : Int} : metI F ++ [(a, V.bl true)] = metI (F ++ [a]) := by
  unfold metI
  rw [List.map_append]
  rfl
/-- the state of the walk: what was found, in a list and in a dict -/
structure MetAt (H0 H : Hp) (pf pd : Addr) (F : List Int) : Prop where
  sm : Same H0 H
  nf : H0 pf = none
  nd : H0 pd = none
  f : H pf = some (.lst (F.map V.int))
  d : H pd = some (.dK (kI (metI F)))
theorem MetAt.same {H0 H H' : Hp} {pf pd : Addr} {F : List Int} (m : MetAt H0 H pf pd F) (s : Same H H') : MetAt H0 H' pf pd F := ⟨m.sm.trans s, m.nf, m.nd, s _ _ m.f, s _ _ m.d⟩
theorem MetAt.add {H0 H : Hp} {pf pd : Addr} {F : List Int} {a : Int} (m : MetAt H0 H pf pd F) : MetAt H0 (upd (upd H pd (.dK (kI (metI F ++ [(a, V.bl true)])))) pf (.lst (F.map V.int ++ [V.int a]))) pf pd (F ++ [a]) := by
  have ne : pf ≠ pd := ne_of m.f m.d (by intro z; cases z)
  refine ⟨same_mut (same_mut m.sm m.nd) m.nf, m.nf, m.nd, ?_, ?_⟩
  · rw [upd_same, List.map_append]
    rfl
  · rw [upd_ne ne.symm, upd_same, metI_snoc]
/-- one place is met: the body of both loops -/
theorem met_turn {K : PySem.W.Frag} {H0 H : Hp} {pf pd : Addr} {F : List Int} {a : Int} {v0 v1 v5 : Option V} {D : Ends} (m : MetAt H0 H pf pd F) (hl : F.length ≤ 200)
    (h1 : a ∈ F → D.nx [v0, v1, some (.ref pf), some (.ref pd), some (.int a), v5] H) (h2 : a ∉ F → ∀ H', MetAt H0 H' pf pd (F ++ [a]) → (∀ b o, H b = some o → b ≠ pf → b ≠ pd → H' b = some o) → D.nx [v0, v1, some (.ref pf), some (.ref pd), some (.int a), v5] H') :
    tIfS (tB (tDNotIn (tVar 4) (tVar 3))) (tSeq (sDPut (tVar 3) (tVar 4) (tC (.bl true))) (tDrop (tBM K "list" rAppend (tVar 2) (tCons (tVar 4) tNil)))) tNext D [v0, v1, some (.ref pf), some (.ref pd), some (.int a), v5] H := by
  have ne : pf ≠ pd := ne_of m.f m.d (by intro z; cases z)
  refine ⟨_, rfl, _, rfl, pd, _, rfl, dgetI (.inl m.d) lk_const, _, rfl, ?_⟩
  by_cases h : a ∈ F
  · rw [if_pos h]
    exact iteF (h1 h)
  · rw [if_neg h]
    refine iteT ?_
    refine ⟨_, rfl, _, rfl, pd, _, rfl, dputI m.d (by show List.lookup a (F.map fun x => (x, V.bl true)) = none; rw [lk_const, if_neg h]) (by unfold metI; rw [List.length_map]; omega), ?_⟩
    have hf1 : (upd H pd (.dK (kI (metI F ++ [(a, V.bl true)])))) pf = some (.lst (F.map V.int)) := by rw [upd_ne ne]; exact m.f
    refine ⟨_, rfl, .inl ⟨rfl, _, SqL.of hf1⟩, _, rfl, pf, _, _, rfl, rfl, hf1, small1000 (by rw [List.length_map]; omega), ?_⟩
    exact h2 h _ m.add fun b o e n1 n2 => by rw [upd_ne n1, upd_ne n2]; exact e
structure Grow (cs : Cells) (st F : List Int) : Prop where
  nd : F.Nodup
  re : ∀ x ∈ F, Reach cs st x
theorem nodup_snoc {F : List Int} {a : Int} (h : F.Nodup) (ha : a ∉ F) : (F ++ [a]).Nodup := nd_snoc h ha
theorem Grow.add {cs : Cells} {st F : List Int} {a : Int} (g : Grow cs st F) (ha : a ∉ F) (hr : Reach cs st a) : Grow cs st (F ++ [a]) := by
  refine ⟨nodup_snoc g.nd ha, fun x hx => ?_⟩
  rcases List.mem_append.mp hx with h | h
  · exact g.re x h
  · rw [List.mem_singleton.mp h]
    exact hr
theorem Grow.len {cs : Cells} {st F : List Int} (g : Grow cs st F) (C : Closed cs) (hs : ∀ x ∈ st, x ∈ keys cs) : F.length ≤ cs.length := by
  have := nodup_len g.nd (l' := keys cs) fun x hx => (g.re x hx).key C hs
  rw [keys, List.length_map] at this
  exact this
theorem take_snoc {xs : List Int} {i : Nat} {a x : Int} (h : xs[i]? = some a) : x ∈ xs.take (i + 1) ↔ x ∈ xs.take i ∨ x = a := by
  rw [List.take_add_one, h]
  simp
theorem ints_ix {ns : List Int} {i : Nat} {y : V} (h : (ns.map V.int)[i]? = some y) : ∃ a, y = V.int a ∧ ns[i]? = some a ∧ i < ns.length := by
  rw [List.getElem?_map] at h
  cases e : ns[i]? with
  | none =>
    rw [e] at h
    cases h
  | some a =>
    rw [e] at h
    exact ⟨a, (Option.some.inj h).symm, rfl, (List.getElem?_eq_some_iff.mp e).1⟩
def sp_reached (K : PySem.W.Frag) : Sp := fun vs H Q _ => ∃ (m l sp : Addr) (M st : List Int) (cs : Cells), vs = [.ref m, .ref sp] ∧ MemO K H m l M ∧ SqL K H sp (st.map V.int) ∧ Mem M cs ∧ Disj cs ∧ Closed cs ∧ (∀ x ∈ st, x ∈ keys cs) ∧ cs.length ≤ 100 ∧
  ∀ (ks : List Int) (p : Addr) (H' : Hp), H p = none → Same H H' → H' p = some (.lst (ks.map V.int)) → ks.Nodup → (∀ x, x ∈ ks ↔ Reach cs st x) → Q (.ref p) H'
theorem ok_reached {P : Program} {w : World} {K : PySem.W.Frag} {mg : Str → Option Value} {base : Heap} (T : Tx K mg) : FX P w K mg base 7 (He.ga K "reached") ["memory", "starts"] (sp_reached K) := by
  refine fx_of T.f_reached sc_reached (fun _ _ _ _ _ _ us hl => match us, hl with | [_, _], _ => rfl) (fun vs H Q E h => ?_) (fun cdv A outer s H vs Q E hr h => ?_)
  · obtain ⟨_, _, _, _, _, _, rfl, _⟩ := h
    rfl
  · obtain ⟨m, l, sp, M, st, cs, rfl, hm, hs, hM, DJ, C, hst, hcl, q⟩ := h
    refine ⟨_, (pss_cons (ps_set (i := 2) sc_reached.nd rfl (Or.inl rfl) (pe_lst pa_nil))
      (pss_cons (ps_set (i := 3) sc_reached.nd rfl (Or.inl rfl) pe_dnewK)
      (pss_cons (ps_for PassesOwn.never rfl (pi_list (pv 1)) (pg_name (i := 4) sc_reached.nd rfl (Or.inl rfl)) (pss_one (ps_if (pt_cmp (pc_dnotin (hu_of hr) (pv 4) (pv 3))) (pss_cons (ps_dput (hu_of hr) (pv 3) (pv 4) pe_bl rfl)
      (pss_one (ps_expr (pe_bm PySem.F.plainAttrs_list PySem.F.slot_list_append PySem.F.type_list_append mt_append (pv 2) (pa_cons (pv 4) pa_nil))))) pss_nil)))
      (pss_cons (ps_set (i := 5) sc_reached.nd rfl (Or.inl rfl) pe_int)
      (pss_cons (ps_while PassesOwn.never (pt_cmpR op_lt (pv 5) (pe_callB call_len_seq (by rfl) T.n_len PySem.boot_len (pa_cons (pv 2) pa_nil)) (nomark _)) (pss_cons (ps_for PassesOwn.never rfl (pi_list (pe_callF (ok_children (K := K) T) (hr.mono (by decide)) (by rfl) T.g_children (pa_cons (pv 0) (pa_cons (pe_ix ix_list (pv 2) (pv 5) (fun _ _ => rfl)) pa_nil)))) (pg_name (i := 4) sc_reached.nd rfl (Or.inl rfl)) (pss_one (ps_if (pt_cmp (pc_dnotin (hu_of hr) (pv 4) (pv 3))) (pss_cons (ps_dput (hu_of hr) (pv 3) (pv 4) pe_bl rfl)
      (pss_one (ps_expr (pe_bm PySem.F.plainAttrs_list PySem.F.slot_list_append PySem.F.type_list_append mt_append (pv 2) (pa_cons (pv 4) pa_nil))))) pss_nil)))
      (pss_one (ps_set (i := 5) sc_reached.nd rfl (Or.inl rfl) (pe_op op_add (pv 5) pe_int)))))
      (pss_one (ps_ret (pv 2)))))))), ?_⟩
    refine ⟨Nat.zero_le _, fun pf npf => ?_⟩
    intro pd npd
    have np : pd ≠ pf := fun e => by
      rw [e, upd_same] at npd
      cases npd
    have npd0 : H pd = none := by rw [upd_ne np] at npd; exact npd
    have m0 : MetAt H (upd (upd H pf (.lst [])) pd (.dK [])) pf pd [] := ⟨same_mut (same_new npf) npd0, npf, npd0, by rw [upd_ne np.symm, upd_same]; rfl, by rw [upd_same]; rfl⟩
    refine ⟨_, rfl, sp, rfl, ⟨_, m0.sm.seq hs⟩, for_list (K := K) (a := sp) (xs := st.map V.int) (fun i σ H1 => ∃ (F : List Int) (v : Option V), σ = [some (.ref m), some (.ref sp), some (.ref pf), some (.ref pd), v, none] ∧ MetAt H H1 pf pd F ∧ Grow cs st F ∧ ∀ x ∈ st.take i, x ∈ F)
      ⟨[], none, rfl, m0, ⟨List.nodup_nil, fun x hx => by cases hx⟩, fun x hx => by simp at hx⟩ (fun i σ H1 _ ⟨_, _, _, m1, _⟩ => m1.sm.seq hs) ?_ ?_⟩
    · rintro i y σ H1 hi ⟨F, v, rfl, m1, g, hF⟩
      obtain ⟨a, rfl, ha, hil⟩ := ints_ix hi
      have hr : Reach cs st a := .root (List.mem_of_getElem? ha)
      refine met_turn m1 (by have := g.len C hst; omega) (fun hin => ?_) (fun hin H2 m2 _ => ?_)
      · refine ⟨F, _, rfl, m1, g, fun x hx => ?_⟩
        rcases (take_snoc ha).mp hx with h | h
        · exact hF x h
        · rw [h]
          exact hin
      · refine ⟨F ++ [a], _, rfl, m2, g.add hin hr, fun x hx => ?_⟩
        rcases (take_snoc ha).mp hx with h | h
        · exact List.mem_append_left _ (hF x h)
        · rw [h]
          simp
    rintro σ H1 ⟨F, v, rfl, m1, g, hF⟩
    rw [List.length_map, List.take_length] at hF
    refine ⟨fun μ σ H2 => ∃ (F : List Int) (v : Option V) (t : Nat), σ = [some (.ref m), some (.ref sp), some (.ref pf), some (.ref pd), v, some (.int (t : Int))] ∧ MetAt H H2 pf pd F ∧ Grow cs st F ∧ (∀ x ∈ st, x ∈ F) ∧ t ≤ F.length ∧
      (∀ (i : Nat) (y : Int) (ws : List Int), i < t → F[i]? = some y → (y, ws) ∈ cs → ∀ z ∈ kids ws, z ∈ F) ∧ μ = cs.length - t, ⟨_, F, v, 0, rfl, m1, g, hF, Nat.zero_le _, fun i y ws hi => by omega, rfl⟩, ?_⟩
    rintro μ σ H2 ⟨F, v, t, rfl, m2, g, hF, ht, hk, rfl⟩
    have hFl := g.len C hst
    refine ⟨_, rfl, _, rfl, pf, _, rfl, .inl (SqL.of m2.f), _, _, rfl, rfl, _, rfl, ifC (fun hlt => ?_) (fun hlt => ?_)⟩
    · rw [List.length_map] at hlt
      have htl : t < F.length := by omega
      have ea : F[t]? = some F[t] := List.getElem?_eq_getElem htl
      have hra := g.re _ (List.getElem_mem htl)
      obtain ⟨ws, hws⟩ := keys_mem (hra.key C hst)
      refine ⟨fun σ' H' => ∃ (F : List Int) (v : Option V), σ' = [some (.ref m), some (.ref sp), some (.ref pf), some (.ref pd), v, some (.int ((t : Int) + 1))] ∧ MetAt H H' pf pd F ∧ Grow cs st F ∧ (∀ x ∈ st, x ∈ F) ∧ t + 1 ≤ F.length ∧
        (∀ (i : Nat) (y : Int) (ws : List Int), i < t + 1 → F[i]? = some y → (y, ws) ∈ cs → ∀ z ∈ kids ws, z ∈ F), fun σ' H' ⟨F', v', e, a1, a2, a3, a4, a5⟩ => ⟨cs.length - (t + 1), by omega, F', v', t + 1, e, a1, a2, a3, a4, a5, rfl⟩, ?_⟩
      have atE : atI (F.map V.int) (t : Int) = some (.int F[t]) := by
        refine atI_nat ?_
        rw [List.getElem?_map, ea]
        rfl
      refine ⟨_, rfl, _, rfl, _, rfl, pf, _, _, _, rfl, rfl, SqL.of m2.f, atE, ?_⟩
      refine ⟨m, l, M, _, ws, rfl, hm.same m2.sm, hM _ hws, fun w hw => (C _ hws w hw).1, fun pc H3 npc s3 hpc => ?_⟩
      have m3 := m2.same s3
      refine ⟨pc, rfl, ⟨_, SqL.of hpc⟩, for_list (K := K) (a := pc) (xs := (kids ws).map V.int) (fun j σ H4 => ∃ (G : List Int) (v : Option V), σ = [some (.ref m), some (.ref sp), some (.ref pf), some (.ref pd), v, some (.int (t : Int))] ∧ MetAt H H4 pf pd (F ++ G) ∧ Grow cs st (F ++ G) ∧ (∀ z ∈ (kids ws).take j, z ∈ F ++ G) ∧ H4 pc = some (.lst ((kids ws).map V.int)))
        ⟨[], _, rfl, by rw [List.append_nil]; exact m3, by rw [List.append_nil]; exact g, fun x hx => by simp at hx, hpc⟩ (fun i σ H4 _ ⟨_, _, _, _, _, _, h4⟩ => SqL.of h4) ?_ ?_⟩
      · rintro j y σ H4 hj ⟨G, v4, rfl, m4, g4, hz, hpc4⟩
        obtain ⟨a, rfl, ha, hjl⟩ := ints_ix hj
        have hra' : Reach cs st a := .step hra hws (List.mem_of_getElem? ha)
        have nf : pc ≠ pf := (ne_of_none m2.f npc).symm
        have nd : pc ≠ pd := (ne_of_none m2.d npc).symm
        refine met_turn m4 (by have := g4.len C hst; omega) (fun hin => ?_) (fun hin H5 m5 k5 => ?_)
        · refine ⟨G, _, rfl, m4, g4, fun x hx => ?_, hpc4⟩
          rcases (take_snoc ha).mp hx with h | h
          · exact hz x h
          · rw [h]
            exact hin
        · refine ⟨G ++ [a], _, rfl, by rw [← List.append_assoc]; exact m5, by rw [← List.append_assoc]; exact g4.add hin hra', fun x hx => ?_, k5 _ _ hpc4 nf nd⟩
          rw [← List.append_assoc]
          rcases (take_snoc ha).mp hx with h | h
          · exact List.mem_append_left _ (hz x h)
          · rw [h]
            simp
      · rintro σ H4 ⟨G, v4, rfl, m4, g4, hz, _⟩
        rw [List.length_map, List.take_length] at hz
        refine ⟨_, rfl, _, _, rfl, rfl, F ++ G, v4, rfl, m4, g4, fun x hx => List.mem_append_left _ (hF x hx), by rw [List.length_append]; omega, fun i y vs hi ei hvs z hzz => ?_⟩
        by_cases e : i = t
        · subst e
          rw [List.getElem?_append_left htl, ea] at ei
          have ey : F[i] = y := Option.some.inj ei
          rw [← ey] at hvs
          rw [DJ.uniq hvs hws] at hzz
          exact hz z hzz
        · rw [List.getElem?_append_left (by omega)] at ei
          exact List.mem_append_left _ (hk i y vs (by omega) ei hvs z hzz)
    · rw [List.length_map] at hlt
      have e : t = F.length := by omega
      refine ⟨_, rfl, q F pf H2 m2.nf m2.sm m2.f g.nd fun x => reach_iff g.re hF fun x ws hx hxs z hz => ?_⟩
      obtain ⟨i, hi, ei⟩ := List.mem_iff_getElem.mp hx
      exact hk i x ws (by omega) (by rw [List.getElem?_eq_getElem hi, ei]) hxs z hz
end Km
set_option Elab.async false
set_option linter.all false
set_option maxRecDepth 100000
set_option maxHeartbeats 4000000
/-! spaces, hands, the book -/
namespace Km
open PySem PySem.Spec PyProof.Rows L2
theorem tyes {σ : L2.St} {H : Hp} {Q : Bool → Hp → Prop} (h : Q true H) : tYes σ H Q := h
abbrev spO (K : PySem.W.Frag) (dx : Addr) (b e t : Int) : HO := .ins (He.ga K "Space") dx (fl_Space (.int b) (.int e) (.int t))
def sp_Space_init (K : PySem.W.Frag) : Sp := fun vs H Q _ => ∃ (p dx : Addr) (b e : Int), vs = [.ref p, .int b, .int e] ∧ H p = some (.ins (He.ga K "Space") dx []) ∧ Q .non (upd H p (spO K dx b e b))
theorem ok_Space_init {P : Program} {w : World} {K : PySem.W.Frag} {mg : Str → Option Value} {base : Heap} (T : Tx K mg) : FX P w K mg base 1 (He.ma K (He.ga K "Space") "__init__") ["self", "begin", "end"] (sp_Space_init K) := by
  refine fx_of T.f_Space_init sc_Space_init (fun _ _ _ _ _ _ us hl => match us, hl with | [_, _, _], _ => rfl) (fun vs H Q E h => ?_) (fun cdv A outer s H vs Q E hr h => ?_)
  · obtain ⟨_, _, _, _, rfl, _⟩ := h
    rfl
  · obtain ⟨p, dx, b, e, rfl, hp, q⟩ := h
    refine ⟨_, (pss_cons (ps_fld (pv 0) (pv 1) rfl)
      (pss_cons (ps_fld (pv 0) (pv 2) rfl)
      (pss_one (ps_fld (pv 0) (pv 1) rfl)))), ?_⟩
    refine ⟨_, rfl, _, rfl, ini_Space_begin T hp ?_⟩
    rw [in_Space_begin]
    refine ⟨_, rfl, _, rfl, ini_Space_end T upd_same ?_⟩
    rw [in_Space_end, upd_upd]
    refine ⟨_, rfl, _, rfl, ini_Space_top T upd_same ?_⟩
    rw [in_Space_top, upd_upd]
    exact q
def sp_Space_room (K : PySem.W.Frag) : Sp := fun vs H Q _ => ∃ (o dx : Addr) (b e t : Int), vs = [.ref o] ∧ H o = some (spO K dx b e t) ∧ Q (.int (e - t)) H
theorem ok_Space_room {P : Program} {w : World} {K : PySem.W.Frag} {mg : Str → Option Value} {base : Heap} (T : Tx K mg) : FX P w K mg base 1 (He.ma K (He.ga K "Space") "room") ["self"] (sp_Space_room K) := by
  refine fx_of T.f_Space_room sc_Space_room (fun _ _ _ _ _ _ us hl => match us, hl with | [_], _ => rfl) (fun vs H Q E h => ?_) (fun cdv A outer s H vs Q E hr h => ?_)
  · obtain ⟨_, _, _, _, _, rfl, _⟩ := h
    rfl
  · obtain ⟨o, dx, b, e, t, rfl, ho, q⟩ := h
    refine ⟨_, (pss_one (ps_ret (pe_op op_sub (pe_fld (pv 0) rfl) (pe_fld (pv 0) rfl)))), ?_⟩
    exact ⟨_, rfl, rd_Space_end T ho ⟨_, rfl, rd_Space_top T ho ⟨_, _, rfl, rfl, q⟩⟩⟩
def sp_Space_used (K : PySem.W.Frag) : Sp := fun vs H Q _ => ∃ (o dx : Addr) (b e t : Int), vs = [.ref o] ∧ H o = some (spO K dx b e t) ∧ Q (.int (t - b)) H
theorem ok_Space_used {P : Program} {w : World} {K : PySem.W.Frag} {mg : Str → Option Value} {base : Heap} (T : Tx K mg) : FX P w K mg base 1 (He.ma K (He.ga K "Space") "used") ["self"] (sp_Space_used K) := by
  refine fx_of T.f_Space_used sc_Space_used (fun _ _ _ _ _ _ us hl => match us, hl with | [_], _ => rfl) (fun vs H Q E h => ?_) (fun cdv A outer s H vs Q E hr h => ?_)
  · obtain ⟨_, _, _, _, _, rfl, _⟩ := h
    rfl
  · obtain ⟨o, dx, b, e, t, rfl, ho, q⟩ := h
    refine ⟨_, (pss_one (ps_ret (pe_op op_sub (pe_fld (pv 0) rfl) (pe_fld (pv 0) rfl)))), ?_⟩
    exact ⟨_, rfl, rd_Space_top T ho ⟨_, rfl, rd_Space_begin T ho ⟨_, _, rfl, rfl, q⟩⟩⟩
def sp_Space_has (K : PySem.W.Frag) : Sp := fun vs H Q _ => ∃ (o dx : Addr) (b e t a : Int), vs = [.ref o, .int a] ∧ H o = some (spO K dx b e t) ∧ Q (.bl (decide (b ≤ a ∧ a < t))) H
theorem ok_Space_has {P : Program} {w : World} {K : PySem.W.Frag} {mg : Str → Option Value} {base : Heap} (T : Tx K mg) : FX P w K mg base 1 (He.ma K (He.ga K "Space") "has") ["self", "at"] (sp_Space_has K) := by
  refine fx_of T.f_Space_has sc_Space_has (fun _ _ _ _ _ _ us hl => match us, hl with | [_, _], _ => rfl) (fun vs H Q E h => ?_) (fun cdv A outer s H vs Q E hr h => ?_)
  · obtain ⟨_, _, _, _, _, _, rfl, _⟩ := h
    rfl
  · obtain ⟨o, dx, b, e, t, a, rfl, ho, q⟩ := h
    refine ⟨_, (pss_one (ps_ret (pe_chain op_le op_lt (pe_fld (pv 0) rfl) (pv 1) (pe_fld (pv 0) rfl)))), ?_⟩
    refine ⟨_, rfl, rd_Space_begin T ho ⟨_, rfl, _, _, rfl, rfl, _, rfl, ifC (fun h => ⟨_, rfl, rd_Space_top T ho ⟨_, _, rfl, rfl, ?_⟩⟩) (fun h => ?_)⟩⟩
    · show Q (.bl (decide (a < t))) H
      rw [show decide (a < t) = decide (b ≤ a ∧ a < t) from decide_eq_decide.mpr ⟨fun z => ⟨h, z⟩, fun z => z.2⟩]
      exact q
    · show Q (.bl false) H
      rw [decide_eq_false (fun z => h z.1)] at q
      exact q
def sp_Space_take (K : PySem.W.Frag) : Sp := fun vs H Q _ => ∃ (o dx : Addr) (b e t n : Int), vs = [.ref o, .int n] ∧ H o = some (spO K dx b e t) ∧ 1 ≤ n ∧ n ≤ e - t ∧ Q (.int t) (upd H o (spO K dx b e (t + n)))
theorem ok_Space_take {P : Program} {w : World} {K : PySem.W.Frag} {mg : Str → Option Value} {base : Heap} (T : Tx K mg) : FX P w K mg base 2 (He.ma K (He.ga K "Space") "take") ["self", "many"] (sp_Space_take K) := by
  refine fx_of T.f_Space_take sc_Space_take (fun _ _ _ _ _ _ us hl => match us, hl with | [_, _], _ => rfl) (fun vs H Q E h => ?_) (fun cdv A outer s H vs Q E hr h => ?_)
  · obtain ⟨_, _, _, _, _, _, rfl, _⟩ := h
    rfl
  · obtain ⟨o, dx, b, e, t, n, rfl, ho, h1, h2, q⟩ := h
    refine ⟨_, (pss_cons (ps_if (PW.pt (pw_or (pt_not (pt_val (pe_callF (ok_is_whole (K := K) T) (hr.mono (by decide)) (by rfl) T.g_is_whole (pa_cons (pv 1) pa_nil)))) (pw_or1 (pt_cmpR op_lt (pv 1) pe_int (nomark _))))) (pss_one ps_never) pss_nil)
      (pss_cons (ps_if (pt_cmpR op_gt (pv 1) (pe_methF0 (pv 0) T.cl_Space T.m_Space_room (ok_Space_room (K := K) T) (hr.mono (by decide))) (nomark _)) (pss_one ps_never) pss_nil)
      (pss_cons (ps_set (i := 2) sc_Space_take.nd rfl (Or.inl rfl) (pe_fld (pv 0) rfl))
      (pss_cons (ps_fld (pv 0) (pe_op op_add (pv 2) (pv 1)) rfl)
      (pss_one (ps_ret (pv 2))))))), ?_⟩
    refine ⟨_, rfl, n, rfl, true, rfl, iteF ?_⟩
    refine ⟨_, rfl, _, _, rfl, rfl, _, rfl, ifN (by omega) ?_⟩
    refine ⟨_, rfl, _, rfl, me_Space_room ho ⟨o, dx, b, e, t, rfl, ho, _, _, rfl, rfl, _, rfl, ifN (by omega) ?_⟩⟩
    refine ⟨_, rfl, rd_Space_top T ho ?_⟩
    refine ⟨_, rfl, _, rfl, _, _, rfl, rfl, _, rfl, st_Space_top T ho ?_⟩
    rw [pf_Space_top]
    exact ⟨_, rfl, q⟩
def sp_Space_empty (K : PySem.W.Frag) : Sp := fun vs H Q _ => ∃ (o dx : Addr) (b e t : Int), vs = [.ref o] ∧ H o = some (spO K dx b e t) ∧ Q .non (upd H o (spO K dx b e b))
theorem ok_Space_empty {P : Program} {w : World} {K : PySem.W.Frag} {mg : Str → Option Value} {base : Heap} (T : Tx K mg) : FX P w K mg base 1 (He.ma K (He.ga K "Space") "empty") ["self"] (sp_Space_empty K) := by
  refine fx_of T.f_Space_empty sc_Space_empty (fun _ _ _ _ _ _ us hl => match us, hl with | [_], _ => rfl) (fun vs H Q E h => ?_) (fun cdv A outer s H vs Q E hr h => ?_)
  · obtain ⟨_, _, _, _, _, rfl, _⟩ := h
    rfl
  · obtain ⟨o, dx, b, e, t, rfl, ho, q⟩ := h
    refine ⟨_, (pss_one (ps_fld (pv 0) (pe_fld (pv 0) rfl) rfl)), ?_⟩
    refine ⟨_, rfl, rd_Space_begin T ho ⟨_, rfl, st_Space_top T ho ?_⟩⟩
    rw [pf_Space_top]
    exact q
def sp_Space_cut (K : PySem.W.Frag) : Sp := fun vs H Q _ => ∃ (o dx : Addr) (b e t n : Int), vs = [.ref o, .int n] ∧ H o = some (spO K dx b e t) ∧ b ≤ n ∧ n ≤ e ∧ Q .non (upd H o (spO K dx b e n))
theorem ok_Space_cut {P : Program} {w : World} {K : PySem.W.Frag} {mg : Str → Option Value} {base : Heap} (T : Tx K mg) : FX P w K mg base 2 (He.ma K (He.ga K "Space") "cut") ["self", "top"] (sp_Space_cut K) := by
  refine fx_of T.f_Space_cut sc_Space_cut (fun _ _ _ _ _ _ us hl => match us, hl with | [_, _], _ => rfl) (fun vs H Q E h => ?_) (fun cdv A outer s H vs Q E hr h => ?_)
  · obtain ⟨_, _, _, _, _, _, rfl, _⟩ := h
    rfl
  · obtain ⟨o, dx, b, e, t, n, rfl, ho, h1, h2, q⟩ := h
    refine ⟨_, (pss_cons (ps_if (PW.pt (pw_or (pt_not (pt_val (pe_callF (ok_is_whole (K := K) T) (hr.mono (by decide)) (by rfl) T.g_is_whole (pa_cons (pv 1) pa_nil)))) (pw_or1 (pt_not (pt_chain op_le op_le (pe_fld (pv 0) rfl) (pv 1) (pe_fld (pv 0) rfl)))))) (pss_one ps_never) pss_nil)
      (pss_one (ps_fld (pv 0) (pv 1) rfl))), ?_⟩
    refine ⟨_, rfl, n, rfl, true, rfl, iteF ?_⟩
    refine ⟨_, rfl, rd_Space_begin T ho ⟨_, rfl, _, _, rfl, rfl, _, rfl, ifY h1 ⟨_, rfl, rd_Space_end T ho ⟨_, _, rfl, rfl, _, rfl, ifNN' h2 ?_⟩⟩⟩⟩
    refine ⟨_, rfl, _, rfl, st_Space_top T ho ?_⟩
    rw [pf_Space_top]
    exact q
/-! ### hands -/
structure HandO (K : PySem.W.Frag) (H : Hp) (h hl : Addr) (hs : List Int) : Prop where
  o : ∃ dx, H h = some (.ins (He.ga K "Hands") dx (fl_Hands (.ref hl)))
  w : H hl = some (.lst (hs.map V.int))
theorem HandO.ne {K : PySem.W.Frag} {H : Hp} {h hl : Addr} {hs : List Int} (x : HandO K H h hl hs) : h ≠ hl := by
  obtain ⟨dx, h1⟩ := x.o
  exact ne_of h1 x.w (by intro z; cases z)
theorem HandO.upd {K : PySem.W.Frag} {H : Hp} {h hl : Addr} {hs ks : List Int} (x : HandO K H h hl hs) : HandO K (upd H hl (.lst (ks.map V.int))) h hl ks := by
  obtain ⟨dx, h1⟩ := x.o
  exact ⟨⟨dx, by rw [upd_ne x.ne]; exact h1⟩, upd_same⟩
theorem HandO.same {K : PySem.W.Frag} {H H' : Hp} {h hl : Addr} {hs : List Int} (x : HandO K H h hl hs) (s : Same H H') : HandO K H' h hl hs := by
  obtain ⟨dx, h1⟩ := x.o
  exact ⟨⟨dx, s _ _ h1⟩, s _ _ x.w⟩
theorem rep_snoc {α : Type} {n : Nat} {x : α} : List.replicate n x ++ [x] = List.replicate (n + 1) x := by
  rw [List.replicate_succ']
def sp_Hands_init (K : PySem.W.Frag) : Sp := fun vs H Q _ => ∃ (p dx : Addr) (n : Nat), vs = [.ref p, .int (n : Int)] ∧ H p = some (.ins (He.ga K "Hands") dx []) ∧ 1 ≤ n ∧ n ≤ 6 ∧
  ∀ (hl : Addr) (H' : Hp), H hl = none → HandO K H' p hl (List.replicate n (-1)) → (∀ b o, H b = some o → b ≠ p → H' b = some o) → Q .non H'
theorem ok_Hands_init {P : Program} {w : World} {K : PySem.W.Frag} {mg : Str → Option Value} {base : Heap} (T : Tx K mg) : FX P w K mg base 2 (He.ma K (He.ga K "Hands") "__init__") ["self", "many"] (sp_Hands_init K) := by
  refine fx_of T.f_Hands_init sc_Hands_init (fun _ _ _ _ _ _ us hl => match us, hl with | [_, _], _ => rfl) (fun vs H Q E h => ?_) (fun cdv A outer s H vs Q E hr h => ?_)
  · obtain ⟨_, _, _, rfl, _⟩ := h
    rfl
  · obtain ⟨p, dx, n, rfl, hp, n1, n2, q⟩ := h
    refine ⟨_, (pss_cons (ps_if (PW.pt (pw_or (pt_not (pt_val (pe_callF (ok_is_whole (K := K) T) (hr.mono (by decide)) (by rfl) T.g_is_whole (pa_cons (pv 1) pa_nil)))) (pw_or1 (pt_not (pt_chain op_le op_le pe_int (pv 1) (gi_MOST_HANDS T rfl)))))) (pss_one ps_never) pss_nil)
      (pss_one (ps_fld (pv 0) (pe_lc (own := [("hand", 2)]) rfl sc_Hands_init.nd (pi_range1 (by rfl) T.n_range (pa_cons (pv 1) pa_nil)) (blkOk_by (N := N_Hands_init) (sc := defScope s_Hands_init) (by decide +kernel)) (fun _ _ _ _ _ => (pg_name (i := 2) sc_Hands_init.nd rfl (Or.inl rfl) (Or.inr rfl))) (fun _ _ _ _ _ => pts_nil) (fun _ _ _ _ _ => (gi_NOTHING T rfl))) rfl))), ?_⟩
    refine ⟨_, rfl, (n : Int), rfl, true, rfl, iteF ?_⟩
    refine ⟨_, rfl, _, _, rfl, rfl, _, rfl, ifY (by omega) ⟨_, _, rfl, rfl, _, rfl, ifNN' (by omega) ?_⟩⟩
    refine ⟨_, rfl, (n : Int), rfl, by omega, by omega, fun D nD => ?_⟩
    refine lc_range (lo := 0) (n := (n : Int).toNat) (fun k H1 => H1 = upd H D (.lst ((List.replicate k (-1 : Int)).map V.int))) rfl ?_ ?_
    · rintro k H1 hk rfl
      refine ⟨rfl, tyes (iteT ?_)⟩
      refine ⟨_, upd_same, small1000 (by rw [List.length_map, List.length_replicate]; omega), ?_⟩
      rw [upd_upd, ← rep_snoc, List.map_append]
      rfl
    · rintro H1 rfl
      have np : p ≠ D := ne_of_none hp nD
      have hp1 : (upd H D (.lst ((List.replicate (n : Int).toNat (-1 : Int)).map V.int))) p = some (.ins (He.ga K "Hands") dx []) := by rw [upd_ne np]; exact hp
      refine ⟨_, rfl, ini_Hands_kept T hp1 ?_⟩
      rw [in_Hands_kept]
      refine q D _ nD ⟨⟨dx, upd_same⟩, ?_⟩ fun b o e nb => ?_
      · rw [upd_ne np.symm, upd_same]
        rfl
      · rw [upd_ne nb, upd_ne (ne_of_none e nD)]
        exact e
def sp_Hands_need (K : PySem.W.Frag) : Sp := fun vs H Q _ => ∃ (h hl : Addr) (hs : List Int) (i : Int), vs = [.ref h, .int i] ∧ HandO K H h hl hs ∧ 0 ≤ i ∧ i < hs.length ∧ Q .non H
theorem ok_Hands_need {P : Program} {w : World} {K : PySem.W.Frag} {mg : Str → Option Value} {base : Heap} (T : Tx K mg) : FX P w K mg base 2 (He.ma K (He.ga K "Hands") "need") ["self", "hand"] (sp_Hands_need K) := by
  refine fx_of T.f_Hands_need sc_Hands_need (fun _ _ _ _ _ _ us hl => match us, hl with | [_, _], _ => rfl) (fun vs H Q E h => ?_) (fun cdv A outer s H vs Q E hr h => ?_)
  · obtain ⟨_, _, _, _, rfl, _⟩ := h
    rfl
  · obtain ⟨h, hl, hs, i, rfl, x, i0, i1, q⟩ := h
    obtain ⟨dx, ho⟩ := x.o
    refine ⟨_, (pss_one (ps_if (PW.pt (pw_or (pt_not (pt_val (pe_callF (ok_is_whole (K := K) T) (hr.mono (by decide)) (by rfl) T.g_is_whole (pa_cons (pv 1) pa_nil)))) (pw_or1 (pt_not (pt_chain op_le op_lt pe_int (pv 1) (pe_callB call_len_seq (by rfl) T.n_len PySem.boot_len (pa_cons (pe_fld (pv 0) rfl) pa_nil))))))) (pss_one ps_never) pss_nil)), ?_⟩
    refine ⟨_, rfl, i, rfl, true, rfl, iteF ?_⟩
    exact ⟨_, rfl, _, _, rfl, rfl, _, rfl, ifY i0 ⟨_, rfl, rd_Hands_kept T ho ⟨hl, _, rfl, .inl (SqL.of x.w), _, _, rfl, rfl, _, rfl, ifNN' (by rw [List.length_map]; exact i1) q⟩⟩⟩
def sp_Hands_put (K : PySem.W.Frag) : Sp := fun vs H Q _ => ∃ (h hl : Addr) (hs : List Int) (i w : Int), vs = [.ref h, .int i, .int w] ∧ HandO K H h hl hs ∧ 0 ≤ i ∧ i < hs.length ∧ OkW w ∧ Q .non (upd H hl (.lst ((mset hs i w).map V.int)))
theorem ok_Hands_put {P : Program} {w : World} {K : PySem.W.Frag} {mg : Str → Option Value} {base : Heap} (T : Tx K mg) : FX P w K mg base 3 (He.ma K (He.ga K "Hands") "put") ["self", "hand", "word"] (sp_Hands_put K) := by
  refine fx_of T.f_Hands_put sc_Hands_put (fun _ _ _ _ _ _ us hl => match us, hl with | [_, _, _], _ => rfl) (fun vs H Q E h => ?_) (fun cdv A outer s H vs Q E hr h => ?_)
  · obtain ⟨_, _, _, _, _, rfl, _⟩ := h
    rfl
  · obtain ⟨h, hl, hs, i, w, rfl, x, i0, i1, hw, q⟩ := h
    obtain ⟨dx, ho⟩ := x.o
    refine ⟨_, (pss_cons (ps_expr (pe_methF (pv 0) T.cl_Hands T.m_Hands_need (ok_Hands_need (K := K) T) (hr.mono (by decide)) (pa_cons (pv 1) pa_nil)))
      (pss_cons (ps_expr (pe_callF (ok_kind (K := K) T) (hr.mono (by decide)) (by rfl) T.g_kind (pa_cons (pv 2) pa_nil)))
      (pss_one (ps_asg (pv 2) (pg_sub (pe_fld (pv 0) rfl) (pv 1) set_list))))), ?_⟩
    refine ⟨_, rfl, me_Hands_need ho ⟨_, rfl, h, hl, hs, i, rfl, x, i0, i1, ?_⟩⟩
    refine ⟨_, rfl, w, rfl, hw, ?_⟩
    refine ⟨_, rfl, _, rfl, rd_Hands_kept T ho ⟨_, rfl, hl, _, i, _, rfl, rfl, x.w, ixN_of i0 (by rw [List.length_map]; exact i1), ?_⟩⟩
    rw [map_mset]
    exact q
def sp_Hands_row (K : PySem.W.Frag) : Sp := fun vs H Q _ => ∃ (h hl : Addr) (hs : List Int), vs = [.ref h] ∧ HandO K H h hl hs ∧ ∀ p, H p = none → Q (.ref p) (upd H p (.lst (hs.map V.int)))
theorem ok_Hands_row {P : Program} {w : World} {K : PySem.W.Frag} {mg : Str → Option Value} {base : Heap} (T : Tx K mg) : FX P w K mg base 1 (He.ma K (He.ga K "Hands") "row") ["self"] (sp_Hands_row K) := by
  refine fx_of T.f_Hands_row sc_Hands_row (fun _ _ _ _ _ _ us hl => match us, hl with | [_], _ => rfl) (fun vs H Q E h => ?_) (fun cdv A outer s H vs Q E hr h => ?_)
  · obtain ⟨_, _, _, rfl, _⟩ := h
    rfl
  · obtain ⟨h, hl, hs, rfl, x, q⟩ := h
    obtain ⟨dx, ho⟩ := x.o
    refine ⟨_, (pss_one (ps_ret (pe_callTy call_list_of (by rfl) T.n_list (by decide +kernel) (pa_cons (pe_fld (pv 0) rfl) pa_nil)))), ?_⟩
    exact ⟨_, rfl, rd_Hands_kept T ho ⟨hl, _, rfl, .inl (SqL.of x.w), q⟩⟩
/-! ### the book -/
structure BookOk (kvs : List (Key × V)) : Prop where
  nd : (kvs.map (·.1)).Nodup
  ks : ∀ k ∈ kvs.map (·.1), ∃ n : Nat, k = Sum.inl (n : Int) ∧ n ≤ 9999
theorem BookOk.nil : BookOk [] := ⟨List.nodup_nil, fun k hk => by cases hk⟩
theorem BookOk.len {kvs : List (Key × V)} (b : BookOk kvs) : kvs.length ≤ 10000 := by
  have := nodup_len b.nd (l' := (List.range 10000).map fun n : Nat => (Sum.inl (n : Int) : Key)) fun k hk => by
    obtain ⟨n, e, h⟩ := b.ks k hk
    exact List.mem_map.mpr ⟨n, List.mem_range.mpr (by omega), e.symm⟩
  rw [List.length_map, List.length_map, List.length_range] at this
  exact this
theorem BookOk.put {kvs : List (Key × V)} (b : BookOk kvs) {n : Int} {v : V} (h0 : 0 ≤ n) (h1 : n ≤ 9999) : BookOk (putK kvs (Sum.inl n : Key) v) := by
  cases e : valV kvs (Sum.inl n : Key) with
  | none =>
    refine ⟨nd_putK v b.nd e, fun k hk => ?_⟩
    rw [putK_new v e, List.map_append] at hk
    rcases List.mem_append.mp hk with h | h
    · exact b.ks k h
    · exact ⟨n.toNat, by rw [List.mem_singleton.mp h]; show Sum.inl n = _; rw [show ((n.toNat : Nat) : Int) = n by omega], by omega⟩
  | some u =>
    have em : (putK kvs (Sum.inl n : Key) v).map (·.1) = kvs.map (·.1) := by
      unfold putK
      rw [if_pos (by rw [valV_any, e]; rfl), List.map_map]
      apply List.map_congr_left
      intro c _
      show (if c.1 = _ then (c.1, v) else c).1 = c.1
      split <;> rfl
    exact ⟨by rw [em]; exact b.nd, by rw [em]; exact b.ks⟩
theorem BookOk.drop {kvs : List (Key × V)} (b : BookOk kvs) {k : Key} : BookOk (dropK kvs k) := ⟨nd_dropK b.nd, fun j hj => by
  obtain ⟨p, hp, e⟩ := List.mem_map.mp hj
  exact b.ks j (List.mem_map.mpr ⟨p, dropK_mem hp, e⟩)⟩
structure BookO (K : PySem.W.Frag) (H : Hp) (b d : Addr) (kvs : List (Key × V)) : Prop where
  o : ∃ dx, H b = some (.ins (He.ga K "Book") dx (fl_Book (.ref d)))
  d : H d = some (.dK kvs)
  k : BookOk kvs
theorem BookO.ne {K : PySem.W.Frag} {H : Hp} {b d : Addr} {kvs : List (Key × V)} (x : BookO K H b d kvs) : b ≠ d := by
  obtain ⟨dx, h1⟩ := x.o
  exact ne_of h1 x.d (by intro z; cases z)
theorem BookO.upd {K : PySem.W.Frag} {H : Hp} {b d : Addr} {kvs kvs' : List (Key × V)} (x : BookO K H b d kvs) (k : BookOk kvs') : BookO K (upd H d (.dK kvs')) b d kvs' := by
  obtain ⟨dx, h1⟩ := x.o
  exact ⟨⟨dx, by rw [upd_ne x.ne]; exact h1⟩, upd_same, k⟩
def sp_Book_init (K : PySem.W.Frag) : Sp := fun vs H Q _ => ∃ (p dx : Addr), vs = [.ref p] ∧ H p = some (.ins (He.ga K "Book") dx []) ∧
  ∀ (d : Addr) (H' : Hp), H d = none → BookO K H' p d [] → (∀ b o, H b = some o → b ≠ p → H' b = some o) → Q .non H'
theorem ok_Book_init {P : Program} {w : World} {K : PySem.W.Frag} {mg : Str → Option Value} {base : Heap} (T : Tx K mg) : FX P w K mg base 1 (He.ma K (He.ga K "Book") "__init__") ["self"] (sp_Book_init K) := by
  refine fx_of T.f_Book_init sc_Book_init (fun _ _ _ _ _ _ us hl => match us, hl with | [_], _ => rfl) (fun vs H Q E h => ?_) (fun cdv A outer s H vs Q E hr h => ?_)
  · obtain ⟨_, _, rfl, _⟩ := h
    rfl
  · obtain ⟨p, dx, rfl, hp, q⟩ := h
    refine ⟨_, (pss_one (ps_fld (pv 0) pe_dnewK rfl)), ?_⟩
    intro d nd
    have np : p ≠ d := ne_of_none hp nd
    have hp1 : (upd H d (.dK [])) p = some (.ins (He.ga K "Book") dx []) := by rw [upd_ne np]; exact hp
    refine ⟨_, rfl, ini_Book_marks T hp1 ?_⟩
    rw [in_Book_marks]
    exact q d _ nd ⟨⟨dx, upd_same⟩, by rw [upd_ne np.symm, upd_same], .nil⟩ fun b o e nb => by rw [upd_ne nb, upd_ne (ne_of_none e nd)]; exact e
def sp_Book_write (K : PySem.W.Frag) : Sp := fun vs H Q _ => ∃ (b d : Addr) (kvs : List (Key × V)) (n : Int), vs = [.ref b, .int n] ∧ BookO K H b d kvs ∧ 0 ≤ n ∧ n ≤ 9999 ∧ ∀ kvs', BookOk kvs' → Q .non (upd H d (.dK kvs'))
theorem ok_Book_write {P : Program} {w : World} {K : PySem.W.Frag} {mg : Str → Option Value} {base : Heap} (T : Tx K mg) : FX P w K mg base 3 (He.ma K (He.ga K "Book") "write") ["self", "place"] (sp_Book_write K) := by
  refine fx_of T.f_Book_write sc_Book_write (fun _ _ _ _ _ _ us hl => match us, hl with | [_, _], _ => rfl) (fun vs H Q E h => ?_) (fun cdv A outer s H vs Q E hr h => ?_)
  · obtain ⟨_, _, _, _, rfl, _⟩ := h
    rfl
  · obtain ⟨b, d, kvs, n, rfl, x, h0, h1, q⟩ := h
    obtain ⟨dx, ho⟩ := x.o
    refine ⟨_, (pss_cons (ps_expr (pe_callF (ok_place_word (K := K) T) (hr.mono (by decide)) (by rfl) T.g_place_word (pa_cons (pv 1) pa_nil)))
      (pss_one (ps_dput (hu_of hr) (pe_fld (pv 0) rfl) (pv 1) pe_bl rfl))), ?_⟩
    refine ⟨_, rfl, n, rfl, h0, h1, ?_⟩
    have hl := x.k.len
    refine ⟨_, rfl, rd_Book_marks T ho ⟨_, rfl, d, _, rfl, DPut.k (k := (Sum.inl n : Key)) x.d (Nat.lt_of_le_of_lt hl (by decide)), ?_⟩⟩
    exact q _ (x.k.put h0 h1)
def sp_Book_rub (K : PySem.W.Frag) : Sp := fun vs H Q _ => ∃ (b d : Addr) (kvs : List (Key × V)) (n : Int), vs = [.ref b, .int n] ∧ BookO K H b d kvs ∧ 0 ≤ n ∧ n ≤ 9999 ∧ (∀ kvs', BookOk kvs' → Q .non (upd H d (.dK kvs'))) ∧ Q .non H
theorem ok_Book_rub {P : Program} {w : World} {K : PySem.W.Frag} {mg : Str → Option Value} {base : Heap} (T : Tx K mg) : FX P w K mg base 3 (He.ma K (He.ga K "Book") "rub") ["self", "place"] (sp_Book_rub K) := by
  refine fx_of T.f_Book_rub sc_Book_rub (fun _ _ _ _ _ _ us hl => match us, hl with | [_, _], _ => rfl) (fun vs H Q E h => ?_) (fun cdv A outer s H vs Q E hr h => ?_)
  · obtain ⟨_, _, _, _, rfl, _⟩ := h
    rfl
  · obtain ⟨b, d, kvs, n, rfl, x, h0, h1, q, q2⟩ := h
    obtain ⟨dx, ho⟩ := x.o
    refine ⟨_, (pss_cons (ps_expr (pe_callF (ok_place_word (K := K) T) (hr.mono (by decide)) (by rfl) T.g_place_word (pa_cons (pv 1) pa_nil)))
      (pss_one (ps_expr (pe_dpop2 (pe_fld (pv 0) rfl) (pv 1) pe_non ⟨rfl, rfl, rfl, rfl⟩)))), ?_⟩
    refine ⟨_, rfl, n, rfl, h0, h1, ?_⟩
    refine ⟨_, rfl, rd_Book_marks T ho ⟨d, rfl, .inl ⟨_, .inl x.d⟩, _, rfl, kvs, Sum.inl n, x.d, rfl, fun v e => ?_, fun e => ?_⟩⟩
    · exact q _ x.k.drop
    · exact q2
/-- places(), of an empty book -/
def sp_Book_places (K : PySem.W.Frag) : Sp := fun vs H Q _ => ∃ (b d : Addr), vs = [.ref b] ∧ BookO K H b d [] ∧ ∀ (p : Addr) (H' : Hp), H p = none → Same H H' → H' p = some (.lst []) → Q (.ref p) H'
theorem ok_Book_places {P : Program} {w : World} {K : PySem.W.Frag} {mg : Str → Option Value} {base : Heap} (T : Tx K mg) : FX P w K mg base 1 (He.ma K (He.ga K "Book") "places") ["self"] (sp_Book_places K) := by
  refine fx_of T.f_Book_places sc_Book_places (fun _ _ _ _ _ _ us hl => match us, hl with | [_], _ => rfl) (fun vs H Q E h => ?_) (fun cdv A outer s H vs Q E hr h => ?_)
  · obtain ⟨_, _, rfl, _⟩ := h
    rfl
  · obtain ⟨b, d, rfl, x, q⟩ := h
    obtain ⟨dx, ho⟩ := x.o
    refine ⟨_, (pss_one (ps_ret (pe_callB cr_sortedI (by rfl) T.n_sorted (by decide +kernel) (pa_cons (pe_callTy (call_list_dK rfl) (by rfl) T.n_list (by decide +kernel) (pa_cons (pe_fld (pv 0) rfl) pa_nil)) pa_nil)))), ?_⟩
    refine ⟨_, rfl, rd_Book_marks T ho ⟨d, [], rfl, x.d, fun r nr => ?_⟩⟩
    refine ⟨r, [], rfl, SqL.of upd_same, fun ns' p hp _ np => ?_⟩
    have e : ns' = [] := hp.eq_nil
    subst e
    have nr2 : p ≠ r := fun e => by
      rw [e, upd_same] at np
      cases np
    rw [upd_ne nr2] at np
    exact q p _ np (same_mut (same_new nr) np) upd_same
def sp_Book_clear (K : PySem.W.Frag) : Sp := fun vs H Q _ => ∃ (b d : Addr) (kvs : List (Key × V)), vs = [.ref b] ∧ BookO K H b d kvs ∧
  ∀ (d' : Addr) (H' : Hp), H d' = none → BookO K H' b d' [] → (∀ c o, H c = some o → c ≠ b → H' c = some o) → Q .non H'
theorem ok_Book_clear {P : Program} {w : World} {K : PySem.W.Frag} {mg : Str → Option Value} {base : Heap} (T : Tx K mg) : FX P w K mg base 1 (He.ma K (He.ga K "Book") "clear") ["self"] (sp_Book_clear K) := by
  refine fx_of T.f_Book_clear sc_Book_clear (fun _ _ _ _ _ _ us hl => match us, hl with | [_], _ => rfl) (fun vs H Q E h => ?_) (fun cdv A outer s H vs Q E hr h => ?_)
  · obtain ⟨_, _, _, rfl, _⟩ := h
    rfl
  · obtain ⟨b, d, kvs, rfl, x, q⟩ := h
    obtain ⟨dx, ho⟩ := x.o
    refine ⟨_, (pss_one (ps_fld (pv 0) pe_dnewK rfl)), ?_⟩
    intro d' nd
    have np : b ≠ d' := ne_of_none ho nd
    have ho1 : (upd H d' (.dK [])) b = some (.ins (He.ga K "Book") dx (fl_Book (.ref d))) := by rw [upd_ne np]; exact ho
    refine ⟨_, rfl, st_Book_marks T ho1 ?_⟩
    rw [pf_Book_marks]
    exact q d' _ nd ⟨⟨dx, upd_same⟩, by rw [upd_ne np.symm, upd_same], .nil⟩ fun c o e nb => by rw [upd_ne nb, upd_ne (ne_of_none e nd)]; exact e
end Km
set_option Elab.async false
set_option linter.all false
set_option maxRecDepth 100000
set_option maxHeartbeats 4000000
/-! weak names, last words -/
namespace Km
open PySem PySem.Spec PyProof.Rows L2
/-! ### enumerate, over a list that stands still -/
theorem for_enum {K : PySem.W.Frag} {a : Addr} {xs : List V} {g : TG} {tb : TS} {D : Ends} {σ : L2.St} {H : Hp} (Pv : Nat → L2.St → Hp → Prop) (h0 : Pv 0 σ H) (hl : ∀ i σ H, i ≤ xs.length → Pv i σ H → SqL K H a xs)
    (hs : ∀ i x T σ H, xs[i]? = some x → Pv i σ H → H T = none → g (.ref T) σ (upd H T (.tup [.int (i : Nat), x])) fun σ2 H2 => tb { D with nx := Pv (i + 1), ct := Pv (i + 1), bk := D.nx } σ2 H2) (hd : ∀ σ H, Pv xs.length σ H → D.nx σ H) :
    ∃ W : Nat → Nat → L2.St → Hp → Prop, (∃ m, W 0 m σ H) ∧ ∀ i m σ H, W i m σ H →
      ((Ite K a).stop i H ∧ D.nx σ H) ∨ ((Ite K a).go i H ∧ ∃ N : L2.St → Hp → Prop, (∀ σ' H', N σ' H' → ∃ m', m' < m ∧ W (i + 1) m' σ' H') ∧ ∀ x H', (Ite K a).yld i H x H' → g x σ H' fun σ2 H2 => tb { D with nx := N, ct := N, bk := D.nx } σ2 H2) := by
  refine ⟨fun i m σ H => m = xs.length - i ∧ i ≤ xs.length ∧ Pv i σ H, ⟨xs.length, by simp, Nat.zero_le _, h0⟩, ?_⟩
  rintro i m σ H ⟨rfl, hi, p⟩
  have q := hl i σ H hi p
  by_cases hlt : i < xs.length
  · refine .inr ⟨⟨xs, xs[i], q, by simp [hlt]⟩, Pv (i + 1), fun σ' H' p' => ⟨xs.length - (i + 1), by omega, rfl, hlt, p'⟩, fun x H' y => ?_⟩
    obtain ⟨t, v, rfl, ht, rfl, y⟩ := y
    exact hs i v t σ _ (y xs q) p ht
  · have e : i = xs.length := by omega
    subst e
    exact .inl ⟨⟨xs, q, Nat.le_refl _⟩, hd σ H p⟩
theorem lc_enum {K : PySem.W.Frag} {a : Addr} {xs : List V} {g : TG} {tt : TT} {te : TE} {vs : List Nat} {σ : L2.St} {H1 : Hp} {D : Addr} {Qd : Hp → Prop} (Pv : Nat → Hp → Prop) (h0 : Pv 0 (upd H1 D (.lst []))) (hl : ∀ i H, i ≤ xs.length → Pv i H → SqL K H a xs)
    (hs : ∀ i x T H, xs[i]? = some x → Pv i H → H T = none → g (.ref T) (wipe σ vs) (upd H T (.tup [.int (i : Nat), x])) fun σ2 H2 => wipe σ2 vs = wipe σ vs ∧ tt σ2 H2 fun b H3 =>
      if b = true then te σ2 H3 fun y H4 => ∃ acc, H4 D = some (.lst acc) ∧ acc.length < sizeLine ∧ Pv (i + 1) (upd H4 D (.lst (acc ++ [y]))) else Pv (i + 1) H3) (hd : ∀ H, Pv xs.length H → Qd H) :
    ∃ W : Nat → Nat → Hp → Prop, (∃ m, W 0 m (upd H1 D (.lst []))) ∧ ∀ i m H, W i m H →
      ((Ite K a).stop i H ∧ Qd H) ∨ ((Ite K a).go i H ∧ ∃ Nx : Hp → Prop, (∀ H', Nx H' → ∃ m', m' < m ∧ W (i + 1) m' H') ∧ ∀ x H', (Ite K a).yld i H x H' → g x (wipe σ vs) H' fun σ2 H2 => wipe σ2 vs = wipe σ vs ∧ tt σ2 H2 fun b H3 =>
        if b = true then te σ2 H3 fun y H4 => ∃ acc, H4 D = some (.lst acc) ∧ acc.length < sizeLine ∧ Nx (upd H4 D (.lst (acc ++ [y]))) else Nx H3) := by
  refine ⟨fun i m H => m = xs.length - i ∧ i ≤ xs.length ∧ Pv i H, ⟨xs.length, by simp, Nat.zero_le _, h0⟩, ?_⟩
  rintro i m H ⟨rfl, hi, p⟩
  have q := hl i H hi p
  by_cases hlt : i < xs.length
  · refine .inr ⟨⟨xs, xs[i], q, by simp [hlt]⟩, Pv (i + 1), fun H' p' => ⟨xs.length - (i + 1), by omega, rfl, hlt, p'⟩, fun x H' y => ?_⟩
    obtain ⟨t, v, rfl, ht, rfl, y⟩ := y
    exact hs i v t _ (y xs q) p ht
  · have e : i = xs.length := by omega
    subst e
    exact .inl ⟨⟨xs, q, Nat.le_refl _⟩, hd H p⟩
theorem pg_tupK {X : Cx} {K : PySem.W.Frag} {es : List Expr} {k : Nat} {t : TGs} {n : Nat} {pos : Pos} (hc : X.calm = true) (hK : X.K = K) (h : PGs X es t) (hn : (assignEach es X.env).length = n) (hst : (assignEach es X.env).findIdx? (·.1) = none) : PG X (.Tuple es k pos) (gTup K n t) := by
  subst hK
  exact pg_tup hc h hn hst
/-! ### rows -/
theorem Rows.same {H H' : Hp} : ∀ {xs : List V} {rs : List (List Int)}, Rows H xs rs → Same H H' → Rows H' xs rs
  | _, _, .nil, _ => .nil
  | _, _, .cons ⟨t, e, h⟩ q, s => .cons ⟨t, e, s _ _ h⟩ (Rows.same q s)
theorem Rows.keep {H H' : Hp} (k : ∀ t ys, H t = some (.tup ys) → H' t = some (.tup ys)) : ∀ {xs : List V} {rs : List (List Int)}, Rows H xs rs → Rows H' xs rs
  | _, _, .nil => .nil
  | _, _, .cons ⟨t, e, h⟩ q => .cons ⟨t, e, k _ _ h⟩ (Rows.keep k q)
theorem Rows.lst {H : Hp} {p : Addr} {ys zs : List V} (h : H p = some (.lst ys)) {xs : List V} {rs : List (List Int)} (r : Rows H xs rs) : Rows (upd H p (.lst zs)) xs rs :=
  r.keep fun t us e => by rw [upd_ne (ne_of e h (by intro z; cases z))]; exact e
theorem Rows.snoc {H : Hp} {xs : List V} {rs : List (List Int)} {t : Addr} {r : List Int} (a : Rows H xs rs) (h : H t = some (.tup (r.map V.int))) : Rows H (xs ++ [.ref t]) (rs ++ [r]) := Paired.snoc a ⟨t, rfl, h⟩
theorem Rows.len {H : Hp} {xs : List V} {rs : List (List Int)} (r : Rows H xs rs) : xs.length = rs.length := Paired.length r
/-! ### weak names -/
structure WeakO (K : PySem.W.Frag) (H : Hp) (w wl : Addr) (told : List (Option Int)) : Prop where
  o : ∃ dx, H w = some (.ins (He.ga K "Weak") dx (fl_Weak (.ref wl)))
  l : H wl = some (.lst (told.map oV))
theorem WeakO.ne {K : PySem.W.Frag} {H : Hp} {h hl : Addr} {hs : List (Option Int)} (x : WeakO K H h hl hs) : h ≠ hl := by
  obtain ⟨dx, h1⟩ := x.o
  exact ne_of h1 x.l (by intro z; cases z)
theorem WeakO.upd {K : PySem.W.Frag} {H : Hp} {h hl : Addr} {hs ks : List (Option Int)} (x : WeakO K H h hl hs) : WeakO K (upd H hl (.lst (ks.map oV))) h hl ks := by
  obtain ⟨dx, h1⟩ := x.o
  exact ⟨⟨dx, by rw [upd_ne x.ne]; exact h1⟩, upd_same⟩
theorem WeakO.same {K : PySem.W.Frag} {H H' : Hp} {h hl : Addr} {hs : List (Option Int)} (x : WeakO K H h hl hs) (s : Same H H') : WeakO K H' h hl hs := by
  obtain ⟨dx, h1⟩ := x.o
  exact ⟨⟨dx, s _ _ h1⟩, s _ _ x.l⟩
theorem WeakO.at_ {K : PySem.W.Frag} {H : Hp} {h hl : Addr} {hs : List (Option Int)} (x : WeakO K H h hl hs) {i : Nat} {o : Option Int} (e : hs[i]? = some o) : atI (hs.map oV) (i : Int) = some (oV o) := by
  refine atI_nat ?_
  rw [List.getElem?_map, e]
  rfl
theorem lt_of_get {α : Type} {l : List α} {i : Nat} {x : α} (h : l[i]? = some x) : i < l.length := (List.getElem?_eq_some_iff.mp h).1
def sp_Weak_init (K : PySem.W.Frag) : Sp := fun vs H Q _ => ∃ (p dx : Addr), vs = [.ref p] ∧ H p = some (.ins (He.ga K "Weak") dx []) ∧
  ∀ (d : Addr) (H' : Hp), H d = none → WeakO K H' p d [] → (∀ b o, H b = some o → b ≠ p → H' b = some o) → Q .non H'
theorem ok_Weak_init {P : Program} {w : World} {K : PySem.W.Frag} {mg : Str → Option Value} {base : Heap} (T : Tx K mg) : FX P w K mg base 1 (He.ma K (He.ga K "Weak") "__init__") ["self"] (sp_Weak_init K) := by
  refine fx_of T.f_Weak_init sc_Weak_init (fun _ _ _ _ _ _ us hl => match us, hl with | [_], _ => rfl) (fun vs H Q E h => ?_) (fun cdv A outer s H vs Q E hr h => ?_)
  · obtain ⟨_, _, rfl, _⟩ := h
    rfl
  · obtain ⟨p, dx, rfl, hp, q⟩ := h
    refine ⟨_, (pss_one (ps_fld (pv 0) (pe_lst pa_nil) rfl)), ?_⟩
    refine ⟨Nat.zero_le _, fun d nd => ?_⟩
    have np : p ≠ d := ne_of_none hp nd
    have hp1 : (upd H d (.lst [])) p = some (.ins (He.ga K "Weak") dx []) := by rw [upd_ne np]; exact hp
    refine ⟨_, rfl, ini_Weak_told T hp1 ?_⟩
    rw [in_Weak_told]
    exact q d _ nd ⟨⟨dx, upd_same⟩, by rw [upd_ne np.symm, upd_same]; rfl⟩ fun b o e nb => by rw [upd_ne nb, upd_ne (ne_of_none e nd)]; exact e
def sp_Weak_name (K : PySem.W.Frag) : Sp := fun vs H Q _ => ∃ (w wl : Addr) (told : List (Option Int)) (a : Int), vs = [.ref w, .int a] ∧ WeakO K H w wl told ∧ 0 ≤ a ∧ a ≤ 9999 ∧ told.length ≤ 1000 ∧ Q (.int (told.length : Nat)) (upd H wl (.lst ((told ++ [some a]).map oV)))
theorem ok_Weak_name {P : Program} {w : World} {K : PySem.W.Frag} {mg : Str → Option Value} {base : Heap} (T : Tx K mg) : FX P w K mg base 3 (He.ma K (He.ga K "Weak") "name") ["self", "at"] (sp_Weak_name K) := by
  refine fx_of T.f_Weak_name sc_Weak_name (fun _ _ _ _ _ _ us hl => match us, hl with | [_, _], _ => rfl) (fun vs H Q E h => ?_) (fun cdv A outer s H vs Q E hr h => ?_)
  · obtain ⟨_, _, _, _, rfl, _⟩ := h
    rfl
  · obtain ⟨w, wl, told, a, rfl, x, h0, h1, hl, q⟩ := h
    obtain ⟨dx, ho⟩ := x.o
    refine ⟨_, (pss_cons (ps_expr (pe_callF (ok_place_word (K := K) T) (hr.mono (by decide)) (by rfl) T.g_place_word (pa_cons (pv 1) pa_nil)))
      (pss_cons (ps_expr (pe_bm PySem.F.plainAttrs_list PySem.F.slot_list_append PySem.F.type_list_append mt_append (pe_fld (pv 0) rfl) (pa_cons (pv 1) pa_nil)))
      (pss_one (ps_ret (pe_op op_sub (pe_callB call_len_seq (by rfl) T.n_len PySem.boot_len (pa_cons (pe_fld (pv 0) rfl) pa_nil)) pe_int))))), ?_⟩
    refine ⟨_, rfl, a, rfl, h0, h1, ?_⟩
    refine ⟨_, rfl, rd_Weak_told T ho ⟨.inl ⟨rfl, _, SqL.of x.l⟩, _, rfl, wl, _, _, rfl, rfl, x.l, small1000 (by rw [List.length_map]; exact hl), ?_⟩⟩
    have e : told.map oV ++ [V.int a] = (told ++ [some a]).map oV := by rw [List.map_append]; rfl
    rw [e]
    have x2 : WeakO K (upd H wl (.lst ((told ++ [some a]).map oV))) w wl (told ++ [some a]) := x.upd
    obtain ⟨dy, ho2⟩ := x2.o
    refine ⟨_, rfl, rd_Weak_told T ho2 ⟨wl, _, rfl, .inl (SqL.of x2.l), _, _, rfl, rfl, ?_⟩⟩
    show Q (.int (((told ++ [some a]).map oV).length - 1)) _
    rw [List.length_map, List.length_append, List.length_singleton, show ((told.length + 1 : Nat) : Int) - 1 = (told.length : Nat) by omega]
    exact q
def sp_Weak_need (K : PySem.W.Frag) : Sp := fun vs H Q _ => ∃ (w wl : Addr) (told : List (Option Int)) (i : Nat), vs = [.ref w, .int (i : Int)] ∧ WeakO K H w wl told ∧ i < told.length ∧ Q .non H
theorem ok_Weak_need {P : Program} {w : World} {K : PySem.W.Frag} {mg : Str → Option Value} {base : Heap} (T : Tx K mg) : FX P w K mg base 2 (He.ma K (He.ga K "Weak") "need") ["self", "name"] (sp_Weak_need K) := by
  refine fx_of T.f_Weak_need sc_Weak_need (fun _ _ _ _ _ _ us hl => match us, hl with | [_, _], _ => rfl) (fun vs H Q E h => ?_) (fun cdv A outer s H vs Q E hr h => ?_)
  · obtain ⟨_, _, _, _, rfl, _⟩ := h
    rfl
  · obtain ⟨w, wl, told, i, rfl, x, hi, q⟩ := h
    obtain ⟨dx, ho⟩ := x.o
    refine ⟨_, (pss_one (ps_if (PW.pt (pw_or (pt_not (pt_val (pe_callF (ok_is_whole (K := K) T) (hr.mono (by decide)) (by rfl) T.g_is_whole (pa_cons (pv 1) pa_nil)))) (pw_or1 (pt_not (pt_chain op_le op_lt pe_int (pv 1) (pe_callB call_len_seq (by rfl) T.n_len PySem.boot_len (pa_cons (pe_fld (pv 0) rfl) pa_nil))))))) (pss_one ps_never) pss_nil)), ?_⟩
    refine ⟨_, rfl, (i : Int), rfl, true, rfl, iteF ?_⟩
    exact ⟨_, rfl, _, _, rfl, rfl, _, rfl, ifY (by omega) ⟨_, rfl, rd_Weak_told T ho ⟨wl, _, rfl, .inl (SqL.of x.l), _, _, rfl, rfl, _, rfl, ifNN' (by rw [List.length_map]; omega) q⟩⟩⟩
def sp_Weak_at (K : PySem.W.Frag) : Sp := fun vs H Q _ => ∃ (w wl : Addr) (told : List (Option Int)) (i : Nat) (o : Option Int), vs = [.ref w, .int (i : Int)] ∧ WeakO K H w wl told ∧ told[i]? = some o ∧ Q (oV o) H
theorem ok_Weak_at {P : Program} {w : World} {K : PySem.W.Frag} {mg : Str → Option Value} {base : Heap} (T : Tx K mg) : FX P w K mg base 3 (He.ma K (He.ga K "Weak") "at") ["self", "name"] (sp_Weak_at K) := by
  refine fx_of T.f_Weak_at sc_Weak_at (fun _ _ _ _ _ _ us hl => match us, hl with | [_, _], _ => rfl) (fun vs H Q E h => ?_) (fun cdv A outer s H vs Q E hr h => ?_)
  · obtain ⟨_, _, _, _, _, rfl, _⟩ := h
    rfl
  · obtain ⟨w, wl, told, i, o, rfl, x, hi, q⟩ := h
    obtain ⟨dx, ho⟩ := x.o
    refine ⟨_, (pss_cons (ps_expr (pe_methF (pv 0) T.cl_Weak T.m_Weak_need (ok_Weak_need (K := K) T) (hr.mono (by decide)) (pa_cons (pv 1) pa_nil)))
      (pss_one (ps_ret (pe_ix ix_list (pe_fld (pv 0) rfl) (pv 1) (fun _ _ => rfl))))), ?_⟩
    refine ⟨_, rfl, me_Weak_need ho ⟨_, rfl, w, wl, told, i, rfl, x, lt_of_get hi, ?_⟩⟩
    exact ⟨_, rfl, rd_Weak_told T ho ⟨_, rfl, wl, _, _, _, rfl, rfl, SqL.of x.l, x.at_ hi, q⟩⟩
def sp_Weak_need_there (K : PySem.W.Frag) : Sp := fun vs H Q _ => ∃ (w wl : Addr) (told : List (Option Int)) (i : Nat) (a : Int), vs = [.ref w, .int (i : Int)] ∧ WeakO K H w wl told ∧ told[i]? = some (some a) ∧ Q .non H
theorem ok_Weak_need_there {P : Program} {w : World} {K : PySem.W.Frag} {mg : Str → Option Value} {base : Heap} (T : Tx K mg) : FX P w K mg base 3 (He.ma K (He.ga K "Weak") "need_there") ["self", "name"] (sp_Weak_need_there K) := by
  refine fx_of T.f_Weak_need_there sc_Weak_need_there (fun _ _ _ _ _ _ us hl => match us, hl with | [_, _], _ => rfl) (fun vs H Q E h => ?_) (fun cdv A outer s H vs Q E hr h => ?_)
  · obtain ⟨_, _, _, _, _, rfl, _⟩ := h
    rfl
  · obtain ⟨w, wl, told, i, a, rfl, x, hi, q⟩ := h
    obtain ⟨dx, ho⟩ := x.o
    refine ⟨_, (pss_cons (ps_expr (pe_methF (pv 0) T.cl_Weak T.m_Weak_need (ok_Weak_need (K := K) T) (hr.mono (by decide)) (pa_cons (pv 1) pa_nil)))
      (pss_one (ps_if (pt_cmpR op_isN (pe_ix ix_list (pe_fld (pv 0) rfl) (pv 1) (fun _ _ => rfl)) pe_non (nomark _)) (pss_one ps_never) pss_nil))), ?_⟩
    refine ⟨_, rfl, me_Weak_need ho ⟨_, rfl, w, wl, told, i, rfl, x, lt_of_get hi, ?_⟩⟩
    exact ⟨_, rfl, rd_Weak_told T ho ⟨_, rfl, wl, _, _, _, rfl, rfl, SqL.of x.l, x.at_ hi, rfl, _, rfl, ifN (by intro z; cases z) q⟩⟩
def sp_Weak_move (K : PySem.W.Frag) : Sp := fun vs H Q _ => ∃ (w wl : Addr) (told : List (Option Int)) (i : Nat) (a g : Int), vs = [.ref w, .int (i : Int), .int g] ∧ WeakO K H w wl told ∧ told[i]? = some (some a) ∧ 0 ≤ g ∧ g ≤ 9999 ∧ Q .non (upd H wl (.lst ((told.set i (some g)).map oV)))
theorem ok_Weak_move {P : Program} {w : World} {K : PySem.W.Frag} {mg : Str → Option Value} {base : Heap} (T : Tx K mg) : FX P w K mg base 4 (He.ma K (He.ga K "Weak") "move") ["self", "name", "at"] (sp_Weak_move K) := by
  refine fx_of T.f_Weak_move sc_Weak_move (fun _ _ _ _ _ _ us hl => match us, hl with | [_, _, _], _ => rfl) (fun vs H Q E h => ?_) (fun cdv A outer s H vs Q E hr h => ?_)
  · obtain ⟨_, _, _, _, _, _, rfl, _⟩ := h
    rfl
  · obtain ⟨w, wl, told, i, a, g, rfl, x, hi, g0, g1, q⟩ := h
    obtain ⟨dx, ho⟩ := x.o
    refine ⟨_, (pss_cons (ps_expr (pe_methF (pv 0) T.cl_Weak T.m_Weak_need_there (ok_Weak_need_there (K := K) T) (hr.mono (by decide)) (pa_cons (pv 1) pa_nil)))
      (pss_cons (ps_expr (pe_callF (ok_place_word (K := K) T) (hr.mono (by decide)) (by rfl) T.g_place_word (pa_cons (pv 2) pa_nil)))
      (pss_one (ps_asg (pv 2) (pg_sub (pe_fld (pv 0) rfl) (pv 1) set_list))))), ?_⟩
    refine ⟨_, rfl, me_Weak_need_there ho ⟨_, rfl, w, wl, told, i, a, rfl, x, hi, ?_⟩⟩
    refine ⟨_, rfl, g, rfl, g0, g1, ?_⟩
    refine ⟨_, rfl, _, rfl, rd_Weak_told T ho ⟨_, rfl, wl, _, _, i, rfl, rfl, x.l, ?_, ?_⟩⟩
    · rw [ixN_of (by omega) (by rw [List.length_map]; have := lt_of_get hi; omega)]
      rw [Int.toNat_natCast]
    · rw [List.map_set] at q
      exact q
def sp_Weak_gone (K : PySem.W.Frag) : Sp := fun vs H Q _ => ∃ (w wl : Addr) (told : List (Option Int)) (i : Nat) (a : Int), vs = [.ref w, .int (i : Int)] ∧ WeakO K H w wl told ∧ told[i]? = some (some a) ∧ Q .non (upd H wl (.lst ((told.set i none).map oV)))
theorem ok_Weak_gone {P : Program} {w : World} {K : PySem.W.Frag} {mg : Str → Option Value} {base : Heap} (T : Tx K mg) : FX P w K mg base 4 (He.ma K (He.ga K "Weak") "gone") ["self", "name"] (sp_Weak_gone K) := by
  refine fx_of T.f_Weak_gone sc_Weak_gone (fun _ _ _ _ _ _ us hl => match us, hl with | [_, _], _ => rfl) (fun vs H Q E h => ?_) (fun cdv A outer s H vs Q E hr h => ?_)
  · obtain ⟨_, _, _, _, _, rfl, _⟩ := h
    rfl
  · obtain ⟨w, wl, told, i, a, rfl, x, hi, q⟩ := h
    obtain ⟨dx, ho⟩ := x.o
    refine ⟨_, (pss_cons (ps_expr (pe_methF (pv 0) T.cl_Weak T.m_Weak_need_there (ok_Weak_need_there (K := K) T) (hr.mono (by decide)) (pa_cons (pv 1) pa_nil)))
      (pss_one (ps_asg pe_non (pg_sub (pe_fld (pv 0) rfl) (pv 1) set_list)))), ?_⟩
    refine ⟨_, rfl, me_Weak_need_there ho ⟨_, rfl, w, wl, told, i, a, rfl, x, hi, ?_⟩⟩
    refine ⟨_, rfl, rd_Weak_told T ho ⟨_, rfl, wl, _, _, i, rfl, rfl, x.l, ?_, ?_⟩⟩
    · rw [ixN_of (by omega) (by rw [List.length_map]; have := lt_of_get hi; omega)]
      rw [Int.toNat_natCast]
    · rw [List.map_set] at q
      exact q
def sp_Weak_names (K : PySem.W.Frag) : Sp := fun vs H Q _ => ∃ (w wl : Addr) (told : List (Option Int)), vs = [.ref w] ∧ WeakO K H w wl told ∧ told.length ≤ 1000 ∧
  ∀ (p : Addr) (xs : List V) (H' : Hp), H p = none → Same H H' → H' p = some (.lst xs) → Rows H' xs (namesFrom 0 told) → Q (.ref p) H'
theorem ok_Weak_names {P : Program} {w : World} {K : PySem.W.Frag} {mg : Str → Option Value} {base : Heap} (T : Tx K mg) : FX P w K mg base 1 (He.ma K (He.ga K "Weak") "names") ["self"] (sp_Weak_names K) := by
  refine fx_of T.f_Weak_names sc_Weak_names (fun _ _ _ _ _ _ us hl => match us, hl with | [_], _ => rfl) (fun vs H Q E h => ?_) (fun cdv A outer s H vs Q E hr h => ?_)
  · obtain ⟨_, _, _, rfl, _⟩ := h
    rfl
  · obtain ⟨w, wl, told, rfl, x, hl, q⟩ := h
    obtain ⟨dx, ho⟩ := x.o
    refine ⟨_, (pss_one (ps_ret (pe_lc (own := [("name", 1), ("at", 2)]) rfl sc_Weak_names.nd (pi_enum (by rfl) T.n_enumerate (pa_cons (pe_fld (pv 0) rfl) pa_nil)) (blkOk_by (N := N_Weak_names) (sc := defScope s_Weak_names) (by decide +kernel)) (fun _ _ _ _ _ => (pg_tupK (K := K) (n := 2) rfl rfl (pgs_cons (pg_name (i := 1) sc_Weak_names.nd rfl (Or.inl rfl) (Or.inr rfl)) (pgs_cons (pg_name (i := 2) sc_Weak_names.nd rfl (Or.inl rfl) (Or.inr rfl)) pgs_nil)) rfl rfl)) (fun _ _ _ _ _ => (pts_one (pt_cmpR op_notN (pv 2) pe_non (nomark _)))) (fun _ _ _ _ _ => (pe_tup (pa_cons (pv 1) (pa_cons (pv 2) pa_nil))))))), ?_⟩
    refine ⟨_, rfl, rd_Weak_told T ho ⟨wl, _, rfl, SqL.of x.l, fun D nD => ?_⟩⟩
    have nwD : wl ≠ D := ne_of_none x.l nD
    refine lc_enum (K := K) (a := wl) (xs := told.map oV) (fun i H1 => ∃ xs, Same H H1 ∧ H1 D = some (.lst xs) ∧ Rows H1 xs (namesFrom 0 (told.take i)) ∧ xs.length ≤ i) ⟨[], same_new nD, upd_same, .nil, Nat.le_refl _⟩ (fun i H1 _ ⟨_, s, _⟩ => SqL.of (s _ _ x.l)) ?_ ?_
    · rintro i y t H1 hi ⟨xs, s, hD, r, hxl⟩ nt
      rw [List.getElem?_map] at hi
      obtain ⟨o, eo, rfl⟩ := Option.map_eq_some_iff.mp hi
      have hil := lt_of_get eo
      have ntD : D ≠ t := ne_of_none hD nt
      have s2 : Same H (upd H1 t (.tup [.int (i : Nat), oV o])) := s.trans (same_new nt)
      refine ⟨t, _, rfl, SqT.of upd_same, rfl, _, _, rfl, _, _, rfl, rfl, rfl, ?_⟩
      refine ⟨_, rfl, rfl, _, rfl, ?_⟩
      have hr : Rows (upd H1 t (.tup [.int (i : Nat), oV o])) xs (namesFrom 0 (told.take i)) := r.same (same_new nt)
      have hD2 : (upd H1 t (.tup [.int (i : Nat), oV o])) D = some (.lst xs) := by rw [upd_ne ntD]; exact hD
      cases o with
      | none =>
        refine iteF ⟨xs, s2, hD2, ?_, by omega⟩
        rw [List.take_add_one, eo]
        show Rows _ xs (namesFrom 0 (told.take i ++ [none]))
        rw [namesFrom_snoc, List.append_nil]
        exact hr
      | some a =>
        refine iteT ⟨_, rfl, _, rfl, by show 2 ≤ sizeLine; decide, fun u nu => ?_⟩
        have nuD : D ≠ u := ne_of_none hD2 nu
        have hD3 : (upd (upd H1 t (.tup [.int (i : Nat), oV (some a)])) u (.tup [.int (i : Nat), oV (some a)])) D = some (.lst xs) := by rw [upd_ne nuD]; exact hD2
        refine ⟨xs, hD3, small1000 (by omega), xs ++ [.ref u], same_mut (s2.trans (same_new nu)) nD, upd_same, ?_, by rw [List.length_append, List.length_singleton]; omega⟩
        rw [List.take_add_one, eo]
        show Rows _ _ (namesFrom 0 (told.take i ++ [some a]))
        rw [namesFrom_snoc, List.length_take, Nat.min_eq_left (by omega), Nat.zero_add]
        refine ((hr.same (same_new nu)).lst hD3).snoc ?_
        rw [upd_ne nuD.symm, upd_same]
        rfl
    · rintro H1 ⟨xs, s, hD, r, _⟩
      rw [List.length_map, List.take_length] at r
      exact q D xs H1 nD s hD r
end Km
set_option Elab.async false
set_option linter.all false
set_option maxRecDepth 100000
set_option maxHeartbeats 4000000
/-! last words -/
namespace Km
open PySem PySem.Spec PyProof.Rows L2
def WR (H : Hp) (v : V) : Tick → Prop
  | none => v = .non
  | some (a, n) => ∃ t, v = .ref t ∧ H t = some (.tup [.int a, .int n])
abbrev WRel (H : Hp) (vs : List V) (W : List Tick) : Prop := Paired (WR H) vs W
theorem WR.keep {H H' : Hp} {v : V} {o : Tick} (h : WR H v o) (k : ∀ t ys, H t = some (.tup ys) → H' t = some (.tup ys)) : WR H' v o := by
  cases o with
  | none => exact h
  | some p =>
    obtain ⟨t, e, h⟩ := h
    exact ⟨t, e, k _ _ h⟩
theorem WRel.keep {H H' : Hp} (k : ∀ t ys, H t = some (.tup ys) → H' t = some (.tup ys)) : ∀ {vs : List V} {W : List Tick}, WRel H vs W → WRel H' vs W
  | _, _, .nil => .nil
  | _, _, .cons h q => .cons (h.keep k) (WRel.keep k q)
theorem WRel.set {H : Hp} {v : V} {o : Tick} (h : WR H v o) : ∀ {vs : List V} {W : List Tick} (i : Nat), WRel H vs W → WRel H (vs.set i v) (W.set i o)
  | _, _, _, .nil => .nil
  | _, _, 0, .cons _ q => .cons h q
  | _, _, i + 1, .cons p q => .cons p (WRel.set h i q)
theorem WRel.get {H : Hp} : ∀ {vs : List V} {W : List Tick} {i : Nat} {o : Tick}, WRel H vs W → W[i]? = some o → ∃ v, vs[i]? = some v ∧ WR H v o
  | _, _, _, _, .nil, e => by simp at e
  | _, _, 0, _, .cons p _, e => by
    simp at e
    subst e
    exact ⟨_, rfl, p⟩
  | _, _, i + 1, _, .cons _ q, e => by
    obtain ⟨v, h1, h2⟩ := WRel.get (i := i) q (by simpa using e)
    exact ⟨v, by simpa using h1, h2⟩
theorem WRel.lst {H : Hp} {p : Addr} {ys zs : List V} {vs : List V} {W : List Tick} (r : WRel H vs W) (h : H p = some (.lst ys)) : WRel (upd H p (.lst zs)) vs W :=
  r.keep fun t us e => by rw [upd_ne (ne_of e h (by intro z; cases z))]; exact e
structure LastO (K : PySem.W.Frag) (H : Hp) (la ll sl : Addr) (W : List Tick) (S : List Int) : Prop where
  o : ∃ dx, H la = some (.ins (He.ga K "Lasts") dx (fl_Lasts (.ref ll) (.ref sl)))
  w : ∃ vs, H ll = some (.lst vs) ∧ WRel H vs W
  s : H sl = some (.lst (S.map V.int))
  ne : ll ≠ sl
theorem LastO.same {K : PySem.W.Frag} {H H' : Hp} {la ll sl : Addr} {W : List Tick} {S : List Int} (x : LastO K H la ll sl W S) (s : Same H H') : LastO K H' la ll sl W S := by
  obtain ⟨dx, h1⟩ := x.o
  obtain ⟨vs, h2, h3⟩ := x.w
  exact ⟨⟨dx, s _ _ h1⟩, ⟨vs, s _ _ h2, h3.keep fun t ys e => s _ _ e⟩, s _ _ x.s, x.ne⟩
/-- all that is not one of the two lists stands -/
def KeepLL (ll sl : Addr) (H H' : Hp) : Prop := ∀ b o, H b = some o → b ≠ ll → b ≠ sl → H' b = some o
def sp_Lasts_init (K : PySem.W.Frag) : Sp := fun vs H Q _ => ∃ (p dx : Addr), vs = [.ref p] ∧ H p = some (.ins (He.ga K "Lasts") dx []) ∧
  ∀ (ll sl : Addr) (H' : Hp), H ll = none → H sl = none → LastO K H' p ll sl [] [] → (∀ b o, H b = some o → b ≠ p → H' b = some o) → Q .non H'
theorem ok_Lasts_init {P : Program} {w : World} {K : PySem.W.Frag} {mg : Str → Option Value} {base : Heap} (T : Tx K mg) : FX P w K mg base 1 (He.ma K (He.ga K "Lasts") "__init__") ["self"] (sp_Lasts_init K) := by
  refine fx_of T.f_Lasts_init sc_Lasts_init (fun _ _ _ _ _ _ us hl => match us, hl with | [_], _ => rfl) (fun vs H Q E h => ?_) (fun cdv A outer s H vs Q E hr h => ?_)
  · obtain ⟨_, _, rfl, _⟩ := h
    rfl
  · obtain ⟨p, dx, rfl, hp, q⟩ := h
    refine ⟨_, (pss_cons (ps_fld (pv 0) (pe_lst pa_nil) rfl)
      (pss_one (ps_fld (pv 0) (pe_lst pa_nil) rfl))), ?_⟩
    refine ⟨Nat.zero_le _, fun d nd => ?_⟩
    have np : p ≠ d := ne_of_none hp nd
    have hp1 : (upd H d (.lst [])) p = some (.ins (He.ga K "Lasts") dx []) := by rw [upd_ne np]; exact hp
    refine ⟨_, rfl, ini_Lasts_waiting T hp1 ?_⟩
    rw [in_Lasts_waiting]
    refine ⟨Nat.zero_le _, fun d2 nd2 => ?_⟩
    have np2 : p ≠ d2 := ne_of_none upd_same nd2
    have nd12 : d ≠ d2 := ne_of_none (show upd _ _ _ d = some (.lst []) by rw [upd_ne np.symm, upd_same]) nd2
    have nd20 : H d2 = none := by rw [upd_ne np2.symm, upd_ne nd12.symm] at nd2; exact nd2
    refine ⟨_, rfl, ini_Lasts_spoken T (Eq.trans (upd_ne np2) upd_same) ?_⟩
    rw [in_Lasts_spoken]
    refine q d d2 _ nd nd20 ⟨⟨dx, upd_same⟩, ⟨[], by rw [upd_ne np.symm, upd_ne nd12, upd_ne np.symm, upd_same], .nil⟩, by rw [upd_ne np2.symm, upd_same]; rfl, nd12⟩ fun b o e nb => ?_
    rw [upd_ne nb, upd_ne (ne_of_none e nd20), upd_ne nb, upd_ne (ne_of_none e nd)]
    exact e
def sp_Lasts_give (K : PySem.W.Frag) : Sp := fun vs H Q _ => ∃ (la ll sl : Addr) (W : List Tick) (S : List Int) (a n : Int), vs = [.ref la, .int a, .int n] ∧ LastO K H la ll sl W S ∧ 0 ≤ a ∧ a ≤ 9999 ∧ -1000000000000 ≤ n ∧ n ≤ 1000000000000 ∧ W.length ≤ 1000 ∧
  ∀ H', LastO K H' la ll sl (W ++ [some (a, n)]) S → KeepLL ll sl H H' → Q (.int (W.length : Nat)) H'
theorem ok_Lasts_give {P : Program} {w : World} {K : PySem.W.Frag} {mg : Str → Option Value} {base : Heap} (T : Tx K mg) : FX P w K mg base 3 (He.ma K (He.ga K "Lasts") "give") ["self", "at", "number"] (sp_Lasts_give K) := by
  refine fx_of T.f_Lasts_give sc_Lasts_give (fun _ _ _ _ _ _ us hl => match us, hl with | [_, _, _], _ => rfl) (fun vs H Q E h => ?_) (fun cdv A outer s H vs Q E hr h => ?_)
  · obtain ⟨_, _, _, _, _, _, _, rfl, _⟩ := h
    rfl
  · obtain ⟨la, ll, sl, W, S, a, n, rfl, x, a0, a1, n0, n1, hW, q⟩ := h
    obtain ⟨dx, ho⟩ := x.o
    obtain ⟨vs, hw, hr0⟩ := x.w
    have hlen := hr0.length
    refine ⟨_, (pss_cons (ps_expr (pe_callF (ok_place_word (K := K) T) (hr.mono (by decide)) (by rfl) T.g_place_word (pa_cons (pv 1) pa_nil)))
      (pss_cons (ps_expr (pe_callF (ok_number_word (K := K) T) (hr.mono (by decide)) (by rfl) T.g_number_word (pa_cons (pv 2) pa_nil)))
      (pss_cons (ps_expr (pe_bm PySem.F.plainAttrs_list PySem.F.slot_list_append PySem.F.type_list_append mt_append (pe_fld (pv 0) rfl) (pa_cons (pe_tup (pa_cons (pv 1) (pa_cons (pv 2) pa_nil))) pa_nil)))
      (pss_one (ps_ret (pe_op op_sub (pe_callB call_len_seq (by rfl) T.n_len PySem.boot_len (pa_cons (pe_fld (pv 0) rfl) pa_nil)) pe_int)))))), ?_⟩
    refine ⟨_, rfl, a, rfl, a0, a1, ?_⟩
    refine ⟨_, rfl, n, rfl, n0, n1, ?_⟩
    refine ⟨_, rfl, rd_Lasts_waiting T ho ⟨.inl ⟨rfl, _, SqL.of hw⟩, _, rfl, _, rfl, by show 2 ≤ sizeLine; decide, fun t nt => ?_⟩⟩
    have ntl : ll ≠ t := ne_of_none hw nt
    have hw2 : (upd H t (.tup [.int a, .int n])) ll = some (.lst vs) := by rw [upd_ne ntl]; exact hw
    refine ⟨ll, _, _, rfl, rfl, hw2, small1000 (by omega), ?_⟩
    have x2 : LastO K (upd (upd H t (.tup [.int a, .int n])) ll (.lst (vs ++ [.ref t]))) la ll sl (W ++ [some (a, n)]) S := by
      refine ⟨⟨dx, ?_⟩, ⟨_, upd_same, Paired.snoc ((hr0.keep fun u ys e => same_new nt _ _ e).lst hw2) ⟨t, rfl, ?_⟩⟩, ?_, x.ne⟩
      · rw [upd_ne (ne_of ho hw (by intro z; cases z)), upd_ne (ne_of_none ho nt)]
        exact ho
      · rw [upd_ne ntl.symm, upd_same]
      · rw [upd_ne x.ne.symm, upd_ne (ne_of_none x.s nt)]
        exact x.s
    obtain ⟨dy, ho2⟩ := x2.o
    refine ⟨_, rfl, rd_Lasts_waiting T ho2 ⟨ll, _, rfl, .inl (SqL.of upd_same), _, _, rfl, rfl, ?_⟩⟩
    show Q (.int (((vs ++ [V.ref t]).length : Nat) - 1)) _
    rw [List.length_append, List.length_singleton, show ((vs.length + 1 : Nat) : Int) - 1 = (W.length : Nat) by omega]
    exact q _ x2 fun b o e n1 n2 => by rw [upd_ne n1, upd_ne (ne_of_none e nt)]; exact e
def sp_Lasts_need (K : PySem.W.Frag) : Sp := fun vs H Q _ => ∃ (la ll sl : Addr) (W : List Tick) (S : List Int) (i : Nat) (a n : Int), vs = [.ref la, .int (i : Int)] ∧ LastO K H la ll sl W S ∧ W[i]? = some (some (a, n)) ∧ Q .non H
theorem ok_Lasts_need {P : Program} {w : World} {K : PySem.W.Frag} {mg : Str → Option Value} {base : Heap} (T : Tx K mg) : FX P w K mg base 2 (He.ma K (He.ga K "Lasts") "need") ["self", "ticket"] (sp_Lasts_need K) := by
  refine fx_of T.f_Lasts_need sc_Lasts_need (fun _ _ _ _ _ _ us hl => match us, hl with | [_, _], _ => rfl) (fun vs H Q E h => ?_) (fun cdv A outer s H vs Q E hr h => ?_)
  · obtain ⟨_, _, _, _, _, _, _, _, rfl, _⟩ := h
    rfl
  · obtain ⟨la, ll, sl, W, S, i, a, n, rfl, x, hi, q⟩ := h
    obtain ⟨dx, ho⟩ := x.o
    obtain ⟨vs, hw, hr0⟩ := x.w
    obtain ⟨v, hv, t, rfl, ht⟩ := hr0.get hi
    refine ⟨_, (pss_one (ps_if (PW.pt (pw_or (pt_not (pt_val (pe_callF (ok_is_whole (K := K) T) (hr.mono (by decide)) (by rfl) T.g_is_whole (pa_cons (pv 1) pa_nil)))) (pw_or (pt_not (pt_chain op_le op_lt pe_int (pv 1) (pe_callB call_len_seq (by rfl) T.n_len PySem.boot_len (pa_cons (pe_fld (pv 0) rfl) pa_nil)))) (pw_or1 (pt_cmpR op_isN (pe_ix ix_list (pe_fld (pv 0) rfl) (pv 1) (fun _ _ => rfl)) pe_non (nomark _)))))) (pss_one ps_never) pss_nil)), ?_⟩
    refine ⟨_, rfl, (i : Int), rfl, true, rfl, iteF ?_⟩
    refine ⟨_, rfl, _, _, rfl, rfl, _, rfl, ifY (by omega) ⟨_, rfl, rd_Lasts_waiting T ho ⟨ll, _, rfl, .inl (SqL.of hw), _, _, rfl, rfl, _, rfl, ifNN' (by have := lt_of_get hv; omega) ?_⟩⟩⟩
    exact ⟨_, rfl, rd_Lasts_waiting T ho ⟨_, rfl, ll, _, _, _, rfl, rfl, SqL.of hw, atI_nat hv, rfl, _, rfl, ifN (by intro z; cases z) q⟩⟩
def sp_Lasts_move (K : PySem.W.Frag) : Sp := fun vs H Q _ => ∃ (la ll sl : Addr) (W : List Tick) (S : List Int) (i : Nat) (a n g : Int), vs = [.ref la, .int (i : Int), .int g] ∧ LastO K H la ll sl W S ∧ W[i]? = some (some (a, n)) ∧ 0 ≤ g ∧ g ≤ 9999 ∧
  ∀ H', LastO K H' la ll sl (W.set i (some (g, n))) S → KeepLL ll sl H H' → Q .non H'
theorem ok_Lasts_move {P : Program} {w : World} {K : PySem.W.Frag} {mg : Str → Option Value} {base : Heap} (T : Tx K mg) : FX P w K mg base 3 (He.ma K (He.ga K "Lasts") "move") ["self", "ticket", "at"] (sp_Lasts_move K) := by
  refine fx_of T.f_Lasts_move sc_Lasts_move (fun _ _ _ _ _ _ us hl => match us, hl with | [_, _, _], _ => rfl) (fun vs H Q E h => ?_) (fun cdv A outer s H vs Q E hr h => ?_)
  · obtain ⟨_, _, _, _, _, _, _, _, _, rfl, _⟩ := h
    rfl
  · obtain ⟨la, ll, sl, W, S, i, a, n, g, rfl, x, hi, g0, g1, q⟩ := h
    obtain ⟨dx, ho⟩ := x.o
    obtain ⟨vs, hw, hr0⟩ := x.w
    obtain ⟨v, hv, t, rfl, ht⟩ := hr0.get hi
    refine ⟨_, (pss_cons (ps_expr (pe_methF (pv 0) T.cl_Lasts T.m_Lasts_need (ok_Lasts_need (K := K) T) (hr.mono (by decide)) (pa_cons (pv 1) pa_nil)))
      (pss_cons (ps_expr (pe_callF (ok_place_word (K := K) T) (hr.mono (by decide)) (by rfl) T.g_place_word (pa_cons (pv 2) pa_nil)))
      (pss_one (ps_asg (pe_tup (pa_cons (pv 2) (pa_cons (pe_ix ix_tup (pe_ix ix_list (pe_fld (pv 0) rfl) (pv 1) (fun _ _ => rfl)) pe_int (fun _ _ => rfl)) pa_nil))) (pg_sub (pe_fld (pv 0) rfl) (pv 1) set_list))))), ?_⟩
    refine ⟨_, rfl, me_Lasts_need ho ⟨_, rfl, la, ll, sl, W, S, i, a, n, rfl, x, hi, ?_⟩⟩
    refine ⟨_, rfl, g, rfl, g0, g1, ?_⟩
    refine ⟨_, rfl, _, rfl, rd_Lasts_waiting T ho ⟨_, rfl, ll, _, _, _, rfl, rfl, SqL.of hw, atI_nat hv, t, _, _, _, rfl, rfl, SqT.of ht, rfl, by show 2 ≤ sizeLine; decide, fun u nu => ?_⟩⟩
    have nul : ll ≠ u := ne_of_none hw nu
    have hw2 : (upd H u (.tup [.int g, .int n])) ll = some (.lst vs) := by rw [upd_ne nul]; exact hw
    have ho2 : (upd H u (.tup [.int g, .int n])) la = _ := (upd_ne (ne_of_none ho nu)).trans ho
    refine ⟨_, rfl, rd_Lasts_waiting T ho2 ⟨_, rfl, ll, _, _, i, rfl, rfl, hw2, ?_, ?_⟩⟩
    · rw [ixN_of (by omega) (by have := lt_of_get hv; omega), Int.toNat_natCast]
    · refine q _ ⟨⟨dx, ?_⟩, ⟨_, upd_same, WRel.set (v := .ref u) (o := some (g, n)) ⟨u, rfl, ?_⟩ i ((hr0.keep fun u ys e => same_new nu _ _ e).lst hw2)⟩, ?_, x.ne⟩ fun b o e n1 n2 => by rw [upd_ne n1, upd_ne (ne_of_none e nu)]; exact e
      · rw [upd_ne (ne_of ho hw (by intro z; cases z)), upd_ne (ne_of_none ho nu)]
        exact ho
      · rw [upd_ne nul.symm, upd_same]
      · rw [upd_ne x.ne.symm, upd_ne (ne_of_none x.s nu)]
        exact x.s
def sp_Lasts_say (K : PySem.W.Frag) : Sp := fun vs H Q _ => ∃ (la ll sl : Addr) (W : List Tick) (S : List Int) (i : Nat) (a n : Int), vs = [.ref la, .int (i : Int)] ∧ LastO K H la ll sl W S ∧ W[i]? = some (some (a, n)) ∧ S.length ≤ 1000 ∧
  ∀ H', LastO K H' la ll sl (W.set i none) (S ++ [n]) → KeepLL ll sl H H' → Q .non H'
theorem ok_Lasts_say {P : Program} {w : World} {K : PySem.W.Frag} {mg : Str → Option Value} {base : Heap} (T : Tx K mg) : FX P w K mg base 3 (He.ma K (He.ga K "Lasts") "say") ["self", "ticket"] (sp_Lasts_say K) := by
  refine fx_of T.f_Lasts_say sc_Lasts_say (fun _ _ _ _ _ _ us hl => match us, hl with | [_, _], _ => rfl) (fun vs H Q E h => ?_) (fun cdv A outer s H vs Q E hr h => ?_)
  · obtain ⟨_, _, _, _, _, _, _, _, rfl, _⟩ := h
    rfl
  · obtain ⟨la, ll, sl, W, S, i, a, n, rfl, x, hi, hS, q⟩ := h
    obtain ⟨dx, ho⟩ := x.o
    obtain ⟨vs, hw, hr0⟩ := x.w
    obtain ⟨v, hv, t, rfl, ht⟩ := hr0.get hi
    refine ⟨_, (pss_cons (ps_expr (pe_methF (pv 0) T.cl_Lasts T.m_Lasts_need (ok_Lasts_need (K := K) T) (hr.mono (by decide)) (pa_cons (pv 1) pa_nil)))
      (pss_cons (ps_expr (pe_bm PySem.F.plainAttrs_list PySem.F.slot_list_append PySem.F.type_list_append mt_append (pe_fld (pv 0) rfl) (pa_cons (pe_ix ix_tup (pe_ix ix_list (pe_fld (pv 0) rfl) (pv 1) (fun _ _ => rfl)) pe_int (fun _ _ => rfl)) pa_nil)))
      (pss_one (ps_asg pe_non (pg_sub (pe_fld (pv 0) rfl) (pv 1) set_list))))), ?_⟩
    refine ⟨_, rfl, me_Lasts_need ho ⟨_, rfl, la, ll, sl, W, S, i, a, n, rfl, x, hi, ?_⟩⟩
    refine ⟨_, rfl, rd_Lasts_spoken T ho ⟨.inl ⟨rfl, _, SqL.of x.s⟩, _, rfl, rd_Lasts_waiting T ho ⟨_, rfl, ll, _, _, _, rfl, rfl, SqL.of hw, atI_nat hv, t, _, _, _, rfl, rfl, SqT.of ht, rfl, sl, _, _, rfl, rfl, x.s, small1000 (by rw [List.length_map]; exact hS), ?_⟩⟩⟩
    have nos : la ≠ sl := ne_of ho x.s (by intro z; cases z)
    have nol : la ≠ ll := ne_of ho hw (by intro z; cases z)
    have ho2 : (upd H sl (.lst (S.map V.int ++ [.int n]))) la = _ := (upd_ne nos).trans ho
    have hw2 : (upd H sl (.lst (S.map V.int ++ [.int n]))) ll = some (.lst vs) := (upd_ne x.ne).trans hw
    refine ⟨_, rfl, rd_Lasts_waiting T ho2 ⟨_, rfl, ll, _, _, i, rfl, rfl, hw2, ?_, ?_⟩⟩
    · rw [ixN_of (by omega) (by have := lt_of_get hv; omega), Int.toNat_natCast]
    · refine q _ ⟨⟨dx, ?_⟩, ⟨_, upd_same, WRel.set (v := .non) (o := none) rfl i ((hr0.lst x.s).lst hw2)⟩, ?_, x.ne⟩ fun b o e n1 n2 => by rw [upd_ne n1, upd_ne n2]; exact e
      · rw [upd_ne nol, upd_ne nos]
        exact ho
      · rw [upd_ne x.ne.symm, upd_same, List.map_append]
        rfl
def sp_Lasts_pending (K : PySem.W.Frag) : Sp := fun vs H Q _ => ∃ (la ll sl : Addr) (W : List Tick) (S : List Int), vs = [.ref la] ∧ LastO K H la ll sl W S ∧ W.length ≤ 1000 ∧
  ∀ (p : Addr) (xs : List V) (H' : Hp), H p = none → Same H H' → H' p = some (.lst xs) → Rows H' xs (pendFrom 0 W) → Q (.ref p) H'
theorem ok_Lasts_pending {P : Program} {w : World} {K : PySem.W.Frag} {mg : Str → Option Value} {base : Heap} (T : Tx K mg) : FX P w K mg base 1 (He.ma K (He.ga K "Lasts") "pending") ["self"] (sp_Lasts_pending K) := by
  refine fx_of T.f_Lasts_pending sc_Lasts_pending (fun _ _ _ _ _ _ us hl => match us, hl with | [_], _ => rfl) (fun vs H Q E h => ?_) (fun cdv A outer s H vs Q E hr h => ?_)
  · obtain ⟨_, _, _, _, _, rfl, _⟩ := h
    rfl
  · obtain ⟨la, ll, sl, W, S, rfl, x, hl, q⟩ := h
    obtain ⟨dx, ho⟩ := x.o
    obtain ⟨vs, hw, hr0⟩ := x.w
    have hlen := hr0.length
    refine ⟨_, (pss_cons (ps_set (i := 1) sc_Lasts_pending.nd rfl (Or.inl rfl) (pe_lst pa_nil))
      (pss_cons (ps_for PassesOwn.never rfl (pi_enum (by rfl) T.n_enumerate (pa_cons (pe_fld (pv 0) rfl) pa_nil)) (pg_tup rfl (pgs_cons (pg_name (i := 2) sc_Lasts_pending.nd rfl (Or.inl rfl)) (pgs_cons (pg_name (i := 3) sc_Lasts_pending.nd rfl (Or.inl rfl)) pgs_nil))) (pss_one (ps_if (pt_cmpR op_notN (pv 3) pe_non (nomark _)) (pss_one (ps_expr (pe_bm PySem.F.plainAttrs_list PySem.F.slot_list_append PySem.F.type_list_append mt_append (pv 1) (pa_cons (pe_tup (pa_cons (pv 2) (pa_cons (pe_ix ix_tup (pv 3) pe_int (fun _ _ => rfl)) (pa_cons (pe_ix ix_tup (pv 3) pe_int (fun _ _ => rfl)) pa_nil)))) pa_nil)))) pss_nil)))
      (pss_one (ps_ret (pv 1))))), ?_⟩
    refine ⟨Nat.zero_le _, fun D nD => ?_⟩
    have ho1 : (upd H D (.lst [])) la = _ := (upd_ne (ne_of_none ho nD)).trans ho
    have hw1 : (upd H D (.lst [])) ll = _ := (upd_ne (ne_of_none hw nD)).trans hw
    refine ⟨_, rfl, rd_Lasts_waiting T ho1 ⟨ll, _, rfl, SqL.of hw1, ?_⟩⟩
    refine for_enum (K := K) (a := ll) (xs := vs) (fun i σ H1 => ∃ (xs : List V) (v1 v2 : Option V), σ = [some (.ref la), some (.ref D), v1, v2] ∧ Same H H1 ∧ H1 D = some (.lst xs) ∧ Rows H1 xs (pendFrom 0 (W.take i)) ∧ xs.length ≤ i)
      ⟨[], none, none, rfl, same_new nD, upd_same, .nil, Nat.le_refl _⟩ (fun i σ H1 _ ⟨_, _, _, _, s, _⟩ => SqL.of (s _ _ hw)) ?_ ?_
    · rintro i y t σ H1 hi ⟨xs, v1, v2, rfl, s, hD, r, hxl⟩ nt
      have hil := lt_of_get hi
      have eo : W[i]? = some W[i] := List.getElem?_eq_getElem (by omega)
      obtain ⟨v', hv', hwr⟩ := hr0.get eo
      have ey : y = v' := Option.some.inj (hi.symm.trans hv')
      subst ey
      have ntD : D ≠ t := ne_of_none hD nt
      have s2 : Same H (upd H1 t (.tup [.int (i : Nat), y])) := s.trans (same_new nt)
      refine ⟨t, _, rfl, SqT.of upd_same, rfl, _, _, rfl, _, _, rfl, rfl, ?_⟩
      refine ⟨_, rfl, rfl, _, rfl, ?_⟩
      have hr : Rows (upd H1 t (.tup [.int (i : Nat), y])) xs (pendFrom 0 (W.take i)) := r.same (same_new nt)
      have hD2 : (upd H1 t (.tup [.int (i : Nat), y])) D = some (.lst xs) := by rw [upd_ne ntD]; exact hD
      cases eW : W[i] with
      | none =>
        rw [eW] at hwr eo
        obtain rfl : y = .non := hwr
        refine iteF ⟨xs, _, _, rfl, s2, hD2, ?_, by omega⟩
        rw [List.take_add_one, eo]
        show Rows _ xs (pendFrom 0 (W.take i ++ [none]))
        rw [pendFrom_snoc, List.append_nil]
        exact hr
      | some p =>
        obtain ⟨a, k⟩ := p
        rw [eW] at hwr eo
        obtain ⟨u, rfl, hu⟩ := hwr
        have hu2 := s2 _ _ hu
        refine iteT ⟨_, rfl, .inl ⟨rfl, _, SqL.of hD2⟩, _, rfl, _, rfl, u, _, _, _, rfl, rfl, SqT.of hu2, rfl, _, rfl, u, _, _, _, rfl, rfl, SqT.of hu2, rfl, by show 3 ≤ sizeLine; decide, fun z nz => ?_⟩
        have nzD : D ≠ z := ne_of_none hD2 nz
        have hD3 : (upd (upd H1 t (.tup [.int (i : Nat), .ref u])) z (.tup [.int (i : Nat), .int a, .int k])) D = some (.lst xs) := by rw [upd_ne nzD]; exact hD2
        refine ⟨D, _, _, rfl, rfl, hD3, small1000 (by omega), ?_⟩
        refine ⟨xs ++ [.ref z], _, _, rfl, same_mut (s2.trans (same_new nz)) nD, upd_same, ?_, by rw [List.length_append, List.length_singleton]; omega⟩
        rw [List.take_add_one, eo]
        show Rows _ _ (pendFrom 0 (W.take i ++ [some (a, k)]))
        rw [pendFrom_snoc, List.length_take, Nat.min_eq_left (by omega), Nat.zero_add]
        refine ((hr.same (same_new nz)).lst hD3).snoc ?_
        rw [upd_ne nzD.symm, upd_same]
        rfl
    · rintro σ H1 ⟨xs, v1, v2, rfl, s, hD, r, _⟩
      rw [hlen, List.take_length] at r
      exact ⟨_, rfl, q D xs H1 nD s hD r⟩
def sp_Lasts_said (K : PySem.W.Frag) : Sp := fun vs H Q _ => ∃ (la ll sl : Addr) (W : List Tick) (S : List Int), vs = [.ref la] ∧ LastO K H la ll sl W S ∧ ∀ p, H p = none → Q (.ref p) (upd H p (.lst (S.map V.int)))
theorem ok_Lasts_said {P : Program} {w : World} {K : PySem.W.Frag} {mg : Str → Option Value} {base : Heap} (T : Tx K mg) : FX P w K mg base 1 (He.ma K (He.ga K "Lasts") "said") ["self"] (sp_Lasts_said K) := by
  refine fx_of T.f_Lasts_said sc_Lasts_said (fun _ _ _ _ _ _ us hl => match us, hl with | [_], _ => rfl) (fun vs H Q E h => ?_) (fun cdv A outer s H vs Q E hr h => ?_)
  · obtain ⟨_, _, _, _, _, rfl, _⟩ := h
    rfl
  · obtain ⟨la, ll, sl, W, S, rfl, x, q⟩ := h
    obtain ⟨dx, ho⟩ := x.o
    refine ⟨_, (pss_one (ps_ret (pe_callTy call_list_of (by rfl) T.n_list (by decide +kernel) (pa_cons (pe_fld (pv 0) rfl) pa_nil)))), ?_⟩
    exact ⟨_, rfl, rd_Lasts_spoken T ho ⟨sl, _, rfl, .inl (SqL.of x.s), q⟩⟩
end Km
set_option Elab.async false
set_option linter.all false
set_option maxRecDepth 100000
set_option maxHeartbeats 4000000
/-! sliding, without the whole: goals, turned words, roots -/
namespace Km
open PySem PySem.Spec PyProof.Rows L2
def AreaO (K : PySem.W.Frag) (H : Hp) (a m o y s : Addr) : Prop := ∃ dx, H a = some (.ins (He.ga K "Areas") dx (fl_Areas (.ref m) (.ref o) (.ref y) (.ref s)))
def RootO (K : PySem.W.Frag) (H : Hp) (r h b w la : Addr) : Prop := ∃ dx, H r = some (.ins (He.ga K "Roots") dx (fl_Roots (.ref h) (.ref b) (.ref w) (.ref la)))
def whV (wh : List (Int × Int)) : List (Int × V) := wh.map fun c => (c.1, V.int c.2)
theorem whV_look {wh : List (Int × Int)} {a : Int} : (whV wh).lookup a = (wh.lookup a).map V.int := lk_map (f := fun _ g => V.int g)
theorem whV_len {wh : List (Int × Int)} : (whV wh).length = wh.length := by unfold whV; rw [List.length_map]
theorem perm_len {α : Type} {a b : List α} (h : a.Perm b) : a.length = b.length := h.length_eq
def sp_goals (K : PySem.W.Frag) : Sp := fun vs H Q _ => ∃ (a m l o y s sp dxo : Addr) (M ks : List Int) (cs : Cells) (e t : Int), vs = [.ref a, .ref sp] ∧ AreaO K H a m o y s ∧ H o = some (spO K dxo 0 e t) ∧ MemO K H m l M ∧ SqL K H sp (ks.map V.int) ∧ Mem M cs ∧ Disj cs ∧ ks.Nodup ∧ (∀ x ∈ ks, x ∈ keys cs) ∧ ks.length ≤ 100 ∧
  ∀ (S : List Int) (wd : Addr) (H' : Hp), S.Perm ks → S.Pairwise (· < ·) → H wd = none → Same H H' → H' wd = some (.dK (kI (whV (goalsL cs 0 S)))) → Q (.ref wd) H'
theorem ok_goals {P : Program} {w : World} {K : PySem.W.Frag} {mg : Str → Option Value} {base : Heap} (T : Tx K mg) : FX P w K mg base 7 (He.ga K "goals") ["areas", "kept"] (sp_goals K) := by
  refine fx_of T.f_goals sc_goals (fun _ _ _ _ _ _ us hl => match us, hl with | [_, _], _ => rfl) (fun vs H Q E h => ?_) (fun cdv A outer s H vs Q E hr h => ?_)
  · obtain ⟨_, _, _, _, _, _, _, _, _, _, _, _, _, rfl, _⟩ := h
    rfl
  · obtain ⟨a, m, l, o, y, s, sp, dxo, M, ks, cs, e, t, rfl, ⟨dxa, ha⟩, ho, hm, hs, hM, DJ, hn, hk, hl, q⟩ := h
    refine ⟨_, (pss_cons (ps_set (i := 2) sc_goals.nd rfl (Or.inl rfl) pe_dnewK)
      (pss_cons (ps_set (i := 3) sc_goals.nd rfl (Or.inl rfl) (pe_fld (pe_fld (pv 0) rfl) rfl))
      (pss_cons (ps_for PassesOwn.never rfl (pi_list (pe_callB cr_sortedI (by rfl) T.n_sorted (by decide +kernel) (pa_cons (pv 1) pa_nil))) (pg_name (i := 4) sc_goals.nd rfl (Or.inl rfl)) (pss_cons (ps_dput (hu_of hr) (pv 2) (pv 4) (pv 3) rfl)
      (pss_one (ps_set (i := 3) sc_goals.nd rfl (Or.inl rfl) (pe_op op_add (pv 3) (pe_callF (ok_words_of (K := K) T) (hr.mono (by decide)) (by rfl) T.g_words_of (pa_cons (pe_fld (pv 0) rfl) (pa_cons (pv 4) pa_nil))))))))
      (pss_one (ps_ret (pv 2)))))), ?_⟩
    intro wd nwd
    have s1 : Same H (upd H wd (.dK [])) := same_new nwd
    refine ⟨_, rfl, rd_Areas_old T (s1 _ _ ha) (rd_Space_begin T (s1 _ _ ho) ?_)⟩
    refine ⟨_, rfl, sp, ks, rfl, s1.seq hs, fun S p hp hup np => ?_⟩
    have hpl := perm_len hp
    have up : S.Pairwise (· < ·) := rising_of hp hn hup
    have npw : wd ≠ p := fun z => by
      rw [← z, upd_same] at np
      cases np
    have np0 : H p = none := by rw [upd_ne npw.symm] at np; exact np
    refine ⟨p, rfl, ⟨_, SqL.of upd_same⟩, for_list (K := K) (a := p) (xs := S.map V.int) (fun i σ H1 => ∃ (v : Option V), σ = [some (.ref a), some (.ref sp), some (.ref wd), some (.int (topOf cs 0 (S.take i))), v] ∧ Same H H1 ∧ H1 p = some (.lst (S.map V.int)) ∧ H1 wd = some (.dK (kI (whV (goalsL cs 0 (S.take i))))))
      ⟨none, rfl, s1.trans (same_new np), upd_same, by rw [upd_ne npw, upd_same]; rfl⟩ (fun i σ H1 _ ⟨_, _, _, h, _⟩ => SqL.of h) ?_ ?_⟩
    · rintro i z σ H1 hi ⟨v, rfl, sm, hp1, hwd⟩
      obtain ⟨b, rfl, hb, hil⟩ := ints_ix hi
      have hbk : b ∈ keys cs := hk b (hp.mem_iff.mp (List.mem_of_getElem? hb))
      have hbc := csGet_in DJ hbk
      have hbn : b ∉ S.take i := fun hm => by
        obtain ⟨j, hj, ej⟩ := List.mem_iff_getElem.mp hm
        rw [List.length_take] at hj
        have ej2 : S[j]? = some b := by
          rw [List.getElem_take] at ej
          rw [List.getElem?_eq_getElem (by omega), ej]
        have := rising_get up ej2 hb (by omega)
        omega
      have hln : (whV (goalsL cs 0 (S.take i))).lookup b = none := by rw [whV_look, goalsL_none hbn]; rfl
      have nwp : p ≠ wd := npw.symm
      refine ⟨_, rfl, _, rfl, _, rfl, wd, _, rfl, dputI hwd hln (by rw [whV_len, goalsL_len, List.length_take]; omega), ?_⟩
      have hm1 : MemO K (upd H1 wd (.dK (kI (whV (goalsL cs 0 (S.take i)) ++ [(b, V.int (topOf cs 0 (S.take i)))])))) m l M := hm.same (same_mut sm nwd)
      have sm2 := same_mut (o := .dK (kI (whV (goalsL cs 0 (S.take i)) ++ [(b, V.int (topOf cs 0 (S.take i)))]))) sm nwd
      refine ⟨_, rfl, _, rfl, rd_Areas_memory T (sm2 _ _ ha) ⟨_, rfl, m, l, M, b, csGet cs b, rfl, hm1, hM _ hbc, _, _, rfl, rfl, ?_⟩⟩
      refine ⟨some (.int b), ?_, sm2, by rw [upd_ne nwp]; exact hp1, ?_⟩
      · rw [take_succ' hb, topOf_snoc]
        show [_, _, _, some (V.int (topOf cs 0 (S.take i) + (((csGet cs b).length : Int) + 1))), _] = _
        rw [show topOf cs 0 (S.take i) + (((csGet cs b).length : Int) + 1) = topOf cs 0 (S.take i) + 1 + (csGet cs b).length by omega]
      · rw [upd_same, take_succ' hb, goalsL_snoc]
        unfold whV
        rw [List.map_append]
        rfl
    · rintro σ H1 ⟨v, rfl, sm, hp1, hwd⟩
      rw [List.length_map, List.take_length] at hwd
      exact ⟨_, rfl, q S wd H1 hp up nwd sm hwd⟩
/-- a word that can be turned: its place, if it tells one, goes somewhere -/
def Turns (wh : List (Int × Int)) (w : Int) : Prop := OkW w ∧ (isP w = true → ∃ g, wh.lookup (w / 2) = some g ∧ 0 ≤ g ∧ g ≤ 9999)
theorem Turns.ok {wh : List (Int × Int)} {w : Int} (h : Turns wh w) : OkW (turnW wh w) := by
  unfold turnW
  by_cases p : isP w = true
  · obtain ⟨g, e, g0, g1⟩ := h.2 p
    rw [if_pos p, e]
    refine .inr (.inr ⟨?_, ?_, ?_⟩) <;> simp only [Option.getD_some] <;> omega
  · rw [if_neg p]
    exact h.1
def sp_turned (K : PySem.W.Frag) : Sp := fun vs H Q _ => ∃ (wd : Addr) (wh : List (Int × Int)) (w : Int), vs = [.int w, .ref wd] ∧ H wd = some (.dK (kI (whV wh))) ∧ Turns wh w ∧ Q (.int (turnW wh w)) H
theorem ok_turned {P : Program} {w : World} {K : PySem.W.Frag} {mg : Str → Option Value} {base : Heap} (T : Tx K mg) : FX P w K mg base 4 (He.ga K "turned") ["word", "where"] (sp_turned K) := by
  refine fx_of T.f_turned sc_turned (fun _ _ _ _ _ _ us hl => match us, hl with | [_, _], _ => rfl) (fun vs H Q E h => ?_) (fun cdv A outer s H vs Q E hr h => ?_)
  · obtain ⟨_, _, _, rfl, _⟩ := h
    rfl
  · obtain ⟨wd, wh, w, rfl, hwd, ⟨okw, ht⟩, q⟩ := h
    refine ⟨_, (pss_cons (ps_if (pt_cmpR op_eq (pe_callF (ok_kind (K := K) T) (hr.mono (by decide)) (by rfl) T.g_kind (pa_cons (pv 0) pa_nil)) pe_str (nomark _)) (pss_one (ps_ret (pe_callF (ok_place_word (K := K) T) (hr.mono (by decide)) (by rfl) T.g_place_word (pa_cons (pe_dget (hu_of hr) (pv 1) (pe_callF (ok_worth (K := K) T) (hr.mono (by decide)) (by rfl) T.g_worth (pa_cons (pv 0) pa_nil)) (fun _ _ => rfl)) pa_nil)))) pss_nil)
      (pss_one (ps_ret (pv 0)))), ?_⟩
    refine ⟨_, rfl, _, rfl, okw, rfl, _, rfl, ?_⟩
    rw [kind_place okw]
    unfold turnW at q
    refine ifB (fun p => ?_) (fun p => ?_)
    · obtain ⟨g, e, g0, g1⟩ := ht p
      have hpp := okw.not_num p
      rw [if_pos p, e] at q
      refine ⟨_, rfl, _, rfl, _, rfl, okw, by omega, wd, _, rfl, dgetI (.inl hwd) (by rw [whV_look, e]; rfl), _, rfl, g0, g1, q⟩
    · rw [if_neg (by rw [p]; exact Bool.false_ne_true)] at q
      exact ⟨_, rfl, q⟩
def sp_turn_slots (K : PySem.W.Frag) : Sp := fun vs H Q _ => ∃ (m l wd : Addr) (M : List Int) (a : Int) (ws : List Int) (wh : List (Int × Int)), vs = [.ref m, .int a, .ref wd] ∧ MemO K H m l M ∧ CellAt M a ws ∧ H wd = some (.dK (kI (whV wh))) ∧ (∀ w ∈ ws, Turns wh w) ∧
  ∀ N : List Int, N.length = M.length → CellAt N a (ws.map (turnW wh)) → (∀ i : Int, 0 ≤ i → (i < a ∨ a + ws.length < i) → mget N i = mget M i) → Q .non (upd H l (.lst (N.map V.int)))
theorem ok_turn_slots {P : Program} {w : World} {K : PySem.W.Frag} {mg : Str → Option Value} {base : Heap} (T : Tx K mg) : FX P w K mg base 7 (He.ga K "turn_slots") ["memory", "at", "where"] (sp_turn_slots K) := by
  refine fx_of T.f_turn_slots sc_turn_slots (fun _ _ _ _ _ _ us hl => match us, hl with | [_, _, _], _ => rfl) (fun vs H Q E h => ?_) (fun cdv A outer s H vs Q E hr h => ?_)
  · obtain ⟨_, _, _, _, _, _, _, rfl, _⟩ := h
    rfl
  · obtain ⟨m, l, wd, M, a, ws, wh, rfl, hm, c, hwd, hw, q⟩ := h
    have hl := c.len
    have hf := c.fit
    have h0 := c.pos
    have nwl : wd ≠ l := ne_of hwd hm.w (by intro z; cases z)
    refine ⟨_, (pss_one (ps_for PassesOwn.never rfl (pi_range1 (by rfl) T.n_range (pa_cons (pe_callF (ok_slots_of (K := K) T) (hr.mono (by decide)) (by rfl) T.g_slots_of (pa_cons (pv 0) (pa_cons (pv 1) pa_nil))) pa_nil)) (pg_name (i := 3) sc_turn_slots.nd rfl (Or.inl rfl)) (pss_cons (ps_set (i := 4) sc_turn_slots.nd rfl (Or.inl rfl) (pe_callF (ok_slot_place (K := K) T) (hr.mono (by decide)) (by rfl) T.g_slot_place (pa_cons (pv 0) (pa_cons (pv 1) (pa_cons (pv 3) pa_nil)))))
      (pss_one (ps_expr (pe_methF (pv 0) T.cl_Memory T.m_Memory_write (ok_Memory_write (K := K) T) (hr.mono (by decide)) (pa_cons (pv 4) (pa_cons (pe_callF (ok_turned (K := K) T) (hr.mono (by decide)) (by rfl) T.g_turned (pa_cons (pe_methF (pv 0) T.cl_Memory T.m_Memory_read (ok_Memory_read (K := K) T) (hr.mono (by decide)) (pa_cons (pv 4) pa_nil)) (pa_cons (pv 2) pa_nil))) pa_nil)))))))), ?_⟩
    refine ⟨_, rfl, _, rfl, m, l, M, a, ws, rfl, hm, c, ?_⟩
    refine ⟨_, rfl, by omega, by omega, for_range (lo := 0) (n := (ws.length : Int).toNat) (fun k σ H1 => ∃ (N : List Int) (v1 v2 : Option V), σ = [some (.ref m), some (.int a), some (.ref wd), v1, v2] ∧ N.length = M.length ∧ CellAt N a ((ws.take k).map (turnW wh) ++ ws.drop k) ∧
      (∀ i : Int, 0 ≤ i → (i < a ∨ a + ws.length < i) → mget N i = mget M i) ∧ (H1 = upd H l (.lst (N.map V.int)) ∨ (H1 = H ∧ N = M)))
      ⟨M, none, none, rfl, rfl, by simpa using c, fun i _ _ => rfl, .inr ⟨rfl, rfl⟩⟩ ?_ ?_⟩
    · rintro k σ H1 hk ⟨N, v1, v2, rfl, hN, cN, out, hH⟩
      have hk1 : k < ws.length := by omega
      have ew : ws[k]? = some ws[k] := List.getElem?_eq_getElem hk1
      have tw := hw _ (List.getElem_mem hk1)
      have hmN : MemO K H1 m l N ∧ H1 wd = some (.dK (kI (whV wh))) ∧ ∀ X : HO, upd H1 l X = upd H l X := by
        rcases hH with rfl | ⟨rfl, rfl⟩
        · exact ⟨hm.upd hN, by rw [upd_ne nwl]; exact hwd, fun X => upd_upd⟩
        · exact ⟨hm, hwd, fun X => rfl⟩
      obtain ⟨hmN, hwd1, hup⟩ := hmN
      have elen : ((ws.take k).map (turnW wh) ++ ws.drop k).length = ws.length := by
        rw [List.length_append, List.length_map, List.length_take, List.length_drop]
        omega
      have eget : ((ws.take k).map (turnW wh) ++ ws.drop k)[k]? = some ws[k] := by
        rw [List.getElem?_append_right (by rw [List.length_map, List.length_take]; omega), List.length_map, List.length_take, Nat.min_eq_left (by omega), Nat.sub_self, List.getElem?_drop, Nat.add_zero, ew]
      obtain ⟨dy, hoN⟩ := hmN.o
      refine ⟨_, rfl, _, rfl, _, rfl, m, l, N, a, _, _, rfl, hmN, cN, by omega, by rw [elen]; omega, ?_⟩
      refine ⟨_, rfl, me_Memory_write hoN ⟨_, rfl, _, rfl, me_Memory_read hoN ⟨_, rfl, m, l, N, _, rfl, hmN, by omega, by omega, ?_⟩⟩⟩
      rw [show a + 1 + (0 + (k : Int)) = a + 1 + k by omega, cN.sl k _ eget]
      refine ⟨_, rfl, wd, wh, _, rfl, hwd1, tw, ?_⟩
      refine ⟨m, l, N, _, _, rfl, hmN, by omega, by omega, tw.ok, ?_⟩
      rw [hup]
      refine ⟨_, _, _, rfl, mset_len.trans hN, ?_, fun i i0 i1 => ?_, .inl rfl⟩
      · have := cN.set (k := k) (w := turnW wh ws[k]) (by rw [elen]; exact hk1)
        have es : ((ws.take k).map (turnW wh) ++ ws.drop k).set k (turnW wh ws[k]) = (ws.take (k + 1)).map (turnW wh) ++ ws.drop (k + 1) := by
          have ed : ws.drop k = ws[k] :: ws.drop (k + 1) := List.drop_eq_getElem_cons hk1
          have el : ((ws.take k).map (turnW wh)).length = k := by rw [List.length_map, List.length_take]; omega
          rw [ed]
          have := set_mid (p := (ws.take k).map (turnW wh)) (q := ws.drop (k + 1)) (x := ws[k]) (y := turnW wh ws[k])
          rw [el] at this
          rw [this, take_succ' ew, List.map_append, List.append_assoc]
          rfl
        rw [es] at this
        exact this
      · rw [mget_ne (by omega) (by omega) (by omega)]
        exact out i i0 i1
    · rintro σ H1 ⟨N, v1, v2, rfl, hN, cN, out, hH⟩
      rw [Int.toNat_natCast, List.take_length, List.drop_length, List.append_nil] at cN
      have := q N hN cN out
      rcases hH with rfl | ⟨rfl, rfl⟩
      · exact this
      · have e : upd H1 l (.lst (N.map V.int)) = H1 := by
          funext b
          by_cases hb : b = l
          · rw [hb, upd_same, hm.w]
          · rw [upd_ne hb]
        rw [e] at this
        exact this
def sp_Roots_starts (K : PySem.W.Frag) : Sp := fun vs H Q _ => ∃ (r h b w la hl : Addr) (hs : List Int), vs = [.ref r] ∧ RootO K H r h b w la ∧ HandO K H h hl hs ∧ (∀ x ∈ hs, OkW x) ∧ hs.length ≤ 100 ∧
  ∀ (p : Addr) (H' : Hp), H p = none → Same H H' → H' p = some (.lst ((kids hs).map V.int)) → Q (.ref p) H'
theorem ok_Roots_starts {P : Program} {w : World} {K : PySem.W.Frag} {mg : Str → Option Value} {base : Heap} (T : Tx K mg) : FX P w K mg base 4 (He.ma K (He.ga K "Roots") "starts") ["self"] (sp_Roots_starts K) := by
  refine fx_of T.f_Roots_starts sc_Roots_starts (fun _ _ _ _ _ _ us hl => match us, hl with | [_], _ => rfl) (fun vs H Q E h => ?_) (fun cdv A outer s H vs Q E hr h => ?_)
  · obtain ⟨_, _, _, _, _, _, _, rfl, _⟩ := h
    rfl
  · obtain ⟨r, h, b, w, la, hl, hs, rfl, ⟨dx, ho⟩, hh, hok, hlen, q⟩ := h
    obtain ⟨dxh, hho⟩ := hh.o
    refine ⟨_, (pss_one (ps_ret (pe_lc (own := [("word", 1)]) rfl sc_Roots_starts.nd (pi_list (pe_methF0 (pe_fld (pv 0) rfl) T.cl_Hands T.m_Hands_row (ok_Hands_row (K := K) T) (hr.mono (by decide)))) (blkOk_by (N := N_Roots_starts) (sc := defScope s_Roots_starts) (by decide +kernel)) (fun _ _ _ _ _ => (pg_name (i := 1) sc_Roots_starts.nd rfl (Or.inl rfl) (Or.inr rfl))) (fun _ _ _ _ _ => (pts_one (pt_cmpR op_eq (pe_callF (ok_kind (K := K) T) (hr.mono (by decide)) (by rfl) T.g_kind (pa_cons (pv 1) pa_nil)) pe_str (nomark _)))) (fun _ _ _ _ _ => (pe_callF (ok_worth (K := K) T) (hr.mono (by decide)) (by rfl) T.g_worth (pa_cons (pv 1) pa_nil)))))), ?_⟩
    refine ⟨_, rfl, rd_Roots_hands T ho (me_Hands_row hho ⟨h, hl, hs, rfl, hh, fun p np => ?_⟩)⟩
    refine ⟨p, rfl, ⟨_, SqL.of upd_same⟩, fun D nD => ?_⟩
    have nDp : p ≠ D := fun z => by
      rw [← z, upd_same] at nD
      cases nD
    have nD0 : H D = none := by rw [upd_ne nDp.symm] at nD; exact nD
    refine lc_list (K := K) (a := p) (xs := hs.map V.int) (fun i H1 => Same H H1 ∧ H1 p = some (.lst (hs.map V.int)) ∧ H1 D = some (.lst ((kids (hs.take i)).map V.int))) ⟨same_mut (same_new np) nD0, by rw [upd_ne nDp, upd_same], upd_same⟩ (fun i H1 _ ⟨_, h, _⟩ => SqL.of h) ?_ ?_
    · rintro i y H1 hi ⟨sm, hp, hD⟩
      obtain ⟨x, rfl, hx, hil⟩ := ints_ix hi
      have okx := hok x (List.mem_of_getElem? hx)
      refine ⟨rfl, _, rfl, _, rfl, okx, rfl, _, rfl, ?_⟩
      rw [kind_place okx]
      refine ifB (fun pp => ?_) (fun pp => ?_)
      · have hpp := okx.not_num pp
        refine ⟨_, rfl, _, rfl, okx, by omega, _, hD, ?_, same_mut sm nD0, by rw [upd_ne nDp]; exact hp, ?_⟩
        · have := List.length_filter_le isP (hs.take i)
          have := List.length_take_le i hs
          rw [List.length_map]
          unfold kids
          rw [List.length_map]
          exact small1000 (by omega)
        · rw [upd_same, kids_take hx, if_pos pp, List.map_append]
          rfl
      · refine ⟨sm, hp, ?_⟩
        rw [kids_take hx, if_neg (by rw [pp]; exact Bool.false_ne_true), List.append_nil]
        exact hD
    · rintro H1 ⟨sm, hp, hD⟩
      rw [List.length_map, List.take_length] at hD
      exact q D H1 nD0 sm hD
def sp_Space_cells (K : PySem.W.Frag) : Sp := fun vs H Q _ => ∃ (o dxo m l : Addr) (M : List Int) (b e t : Int) (cs : Cells), vs = [.ref o, .ref m] ∧ H o = some (spO K dxo b e t) ∧ MemO K H m l M ∧ Tiled M b t cs ∧ cs.length ≤ 100 ∧
  ∀ (p : Addr) (H' : Hp), H p = none → Same H H' → H' p = some (.lst ((keys cs).map V.int)) → Q (.ref p) H'
theorem Tiled.le {M : List Int} : ∀ {cs : Cells} {b t : Int}, Tiled M b t cs → b ≤ t
  | [], b, t, h => by
    have h : b = t := h
    omega
  | c :: r, b, t, h => by
    obtain ⟨_, _, h3⟩ := h
    have := Tiled.le h3
    omega
theorem ok_Space_cells {P : Program} {w : World} {K : PySem.W.Frag} {mg : Str → Option Value} {base : Heap} (T : Tx K mg) : FX P w K mg base 7 (He.ma K (He.ga K "Space") "cells") ["self", "memory"] (sp_Space_cells K) := by
  refine fx_of T.f_Space_cells sc_Space_cells (fun _ _ _ _ _ _ us hl => match us, hl with | [_, _], _ => rfl) (fun vs H Q E h => ?_) (fun cdv A outer s H vs Q E hr h => ?_)
  · obtain ⟨_, _, _, _, _, _, _, _, _, rfl, _⟩ := h
    rfl
  · obtain ⟨o, dxo, m, l, M, b, e, t, cs, rfl, ho, hm, ti, hl, q⟩ := h
    refine ⟨_, (pss_cons (ps_set (i := 2) sc_Space_cells.nd rfl (Or.inl rfl) (pe_lst pa_nil))
      (pss_cons (ps_set (i := 3) sc_Space_cells.nd rfl (Or.inl rfl) (pe_fld (pv 0) rfl))
      (pss_cons (ps_while PassesOwn.never (pt_cmpR op_lt (pv 3) (pe_fld (pv 0) rfl) (nomark _)) (pss_cons (ps_expr (pe_bm PySem.F.plainAttrs_list PySem.F.slot_list_append PySem.F.type_list_append mt_append (pv 2) (pa_cons (pv 3) pa_nil)))
      (pss_one (ps_set (i := 3) sc_Space_cells.nd rfl (Or.inl rfl) (pe_op op_add (pv 3) (pe_callF (ok_words_of (K := K) T) (hr.mono (by decide)) (by rfl) T.g_words_of (pa_cons (pv 1) (pa_cons (pv 3) pa_nil))))))))
      (pss_one (ps_ret (pv 2)))))), ?_⟩
    refine ⟨Nat.zero_le _, fun D nD => ?_⟩
    have s1 : Same H (upd H D (.lst [])) := same_new nD
    refine ⟨_, rfl, rd_Space_begin T (s1 _ _ ho) ?_⟩
    refine ⟨fun μ σ H1 => ∃ (pre post : Cells) (a : Int), σ = [some (.ref o), some (.ref m), some (.ref D), some (.int a)] ∧ Same H H1 ∧ H1 D = some (.lst ((keys pre).map V.int)) ∧ cs = pre ++ post ∧ Tiled M a t post ∧ μ = post.length, ⟨_, [], cs, b, rfl, s1, upd_same, rfl, ti, rfl⟩, ?_⟩
    rintro μ σ H1 ⟨pre, post, a, rfl, sm, hD, ecs, tp, rfl⟩
    refine ⟨_, rfl, _, rfl, rd_Space_top T (sm _ _ ho) ⟨_, _, rfl, rfl, _, rfl, ifC (fun hlt => ?_) (fun hlt => ?_)⟩⟩
    · cases post with
      | nil =>
        have h : a = t := tp
        omega
      | cons c r =>
        obtain ⟨ec, hc, tr⟩ := tp
        have e2 : cs = (pre ++ [c]) ++ r := by rw [ecs, List.append_assoc]; rfl
        have hpl : pre.length ≤ 100 := by
          rw [ecs, List.length_append] at hl
          omega
        refine ⟨fun σ' H' => ∃ (a : Int), σ' = [some (.ref o), some (.ref m), some (.ref D), some (.int a)] ∧ Same H H' ∧ H' D = some (.lst ((keys (pre ++ [c])).map V.int)) ∧ Tiled M a t r, fun σ' H' ⟨a', h1, h2, h3, h4⟩ => ⟨r.length, by rw [List.length_cons]; omega, pre ++ [c], r, a', h1, h2, h3, e2, h4, rfl⟩, ?_⟩
        subst ec
        refine ⟨_, rfl, .inl ⟨rfl, _, SqL.of hD⟩, _, rfl, D, _, _, rfl, rfl, hD, small1000 (by rw [List.length_map]; unfold keys; rw [List.length_map]; omega), ?_⟩
        have sm2 := same_mut (o := .lst ((keys pre).map V.int ++ [.int c.1])) sm nD
        refine ⟨_, rfl, _, rfl, _, rfl, m, l, M, c.1, c.2, rfl, hm.same sm2, hc, _, _, rfl, rfl, _, rfl, sm2, ?_, ?_⟩
        · rw [upd_same]
          unfold keys
          rw [List.map_append, List.map_append]
          rfl
        · rw [show c.1 + ((c.2.length : Int) + 1) = c.1 + 1 + c.2.length by omega]
          exact tr
    · have := tp.le
      cases post with
      | nil =>
        rw [List.append_nil] at ecs
        subst ecs
        exact ⟨_, rfl, q D H1 nD sm hD⟩
      | cons c r =>
        obtain ⟨ec, hc, tr⟩ := tp
        have := tr.le
        omega
end Km
set_option Elab.async false
set_option linter.all false
set_option maxRecDepth 100000
set_option maxHeartbeats 4000000
/-! the roots are turned -/
namespace Km
open PySem PySem.Spec PyProof.Rows L2
/-- all that is not at D stands -/
def Keep (D : List Addr) (H H' : Hp) : Prop := ∀ b o, H b = some o → b ∉ D → H' b = some o
theorem Keep.refl {D : List Addr} (H : Hp) : Keep D H H := fun _ _ e _ => e
theorem Keep.trans {D : List Addr} {H H1 H2 : Hp} (a : Keep D H H1) (b : Keep D H1 H2) : Keep D H H2 := fun c o e n => b c o (a c o e n) n
theorem Keep.mono {D E : List Addr} {H H' : Hp} (k : Keep D H H') (h : ∀ d ∈ D, d ∈ E) : Keep E H H' := fun c o e n => k c o e fun z => n (h c z)
theorem Keep.same {D : List Addr} {H H1 H2 : Hp} (a : Keep D H H1) (b : Same H1 H2) : Keep D H H2 := fun c o e n => b c o (a c o e n)
theorem keep_upd {D : List Addr} {H H1 : Hp} {d : Addr} {o : HO} (a : Keep D H H1) (h : d ∈ D) : Keep D H (upd H1 d o) := fun c x e n => by
  rw [upd_ne (fun z => n (by rw [z]; exact h))]
  exact a c x e n
theorem Keep.free {D : List Addr} {H H' : Hp} (k : Keep D H H') {p : Addr} (h : H' p = none) (hp : p ∉ D) : H p = none := by
  cases e : H p with
  | none => rfl
  | some o =>
    rw [k p o e hp] at h
    cases h
theorem not1 {a b : Addr} (h : a ≠ b) : a ∉ [b] := by simpa using h
def sp_turn_roots (K : PySem.W.Frag) : Sp := fun vs H Q _ => ∃ (r h b w la hl wl ll sl wd : Addr) (hs : List Int) (told : List (Option Int)) (W : List Tick) (S : List Int) (wh : List (Int × Int)), vs = [.ref r, .ref wd] ∧ RootO K H r h b w la ∧ HandO K H h hl hs ∧ WeakO K H w wl told ∧ LastO K H la ll sl W S ∧
  H wd = some (.dK (kI (whV wh))) ∧ (∀ x ∈ hs, Turns wh x) ∧ (∀ n g, wh.lookup n = some g → 0 ≤ g ∧ g ≤ 9999) ∧ hs.length ≤ 1000 ∧ told.length ≤ 1000 ∧ S.length + W.length ≤ 1000 ∧ [hl, wl, ll, sl].Nodup ∧
  ∀ H', HandO K H' h hl (hs.map (turnW wh)) → WeakO K H' w wl (toldN wh told) → LastO K H' la ll sl (tickN wh W) (S ++ dropN wh W) → Keep [hl, wl, ll, sl] H H' → Q .non H'
theorem ok_turn_roots {P : Program} {w : World} {K : PySem.W.Frag} {mg : Str → Option Value} {base : Heap} (T : Tx K mg) : FX P w K mg base 5 (He.ga K "turn_roots") ["roots", "where"] (sp_turn_roots K) := by
  refine fx_of T.f_turn_roots sc_turn_roots (fun _ _ _ _ _ _ us hl => match us, hl with | [_, _], _ => rfl) (fun vs H Q E h => ?_) (fun cdv A outer s H vs Q E hr h => ?_)
  · obtain ⟨_, _, _, _, _, _, _, _, _, _, _, _, _, _, _, rfl, _⟩ := h
    rfl
  · obtain ⟨r, h, b, w, la, hl, wl, ll, sl, wd, hs, told, W, S, wh, rfl, ⟨dxr, ho⟩, hh, hw, hla, hwd, htu, hg, l1, l2, l3, nd, q⟩ := h
    have nhw : hl ≠ wl := by simp at nd; exact nd.1.1
    have nhl : hl ≠ ll := by simp at nd; exact nd.1.2.1
    have nhs : hl ≠ sl := by simp at nd; exact nd.1.2.2
    have nwl : wl ≠ ll := by simp at nd; exact nd.2.1.1
    have nws : wl ≠ sl := by simp at nd; exact nd.2.1.2
    obtain ⟨dxh, hho⟩ := hh.o
    obtain ⟨dxw, hwo⟩ := hw.o
    obtain ⟨dxl, hlo⟩ := hla.o
    obtain ⟨vsl, hllw, hwr⟩ := hla.w
    -- a thing that is no list stands while the lists change
    have nol : ∀ {H' : Hp} {c : Addr} {o : HO}, Keep [hl, wl, ll, sl] H H' → H c = some o → (∀ xs, o ≠ .lst xs) → H' c = some o := fun k e n => k _ _ e (by
      simp only [List.mem_cons, List.not_mem_nil, or_false, not_or]
      exact ⟨ne_of e hh.w (n _), ne_of e hw.l (n _), ne_of e hllw (n _), ne_of e hla.s (n _)⟩)
    refine ⟨_, (pss_cons (ps_set (i := 2) sc_turn_roots.nd rfl (Or.inl rfl) (pe_methF0 (pe_fld (pv 0) rfl) T.cl_Hands T.m_Hands_row (ok_Hands_row (K := K) T) (hr.mono (by decide))))
      (pss_cons (ps_for PassesOwn.never rfl (pi_range1 (by rfl) T.n_range (pa_cons (pe_callB call_len_seq (by rfl) T.n_len PySem.boot_len (pa_cons (pv 2) pa_nil)) pa_nil)) (pg_name (i := 3) sc_turn_roots.nd rfl (Or.inl rfl)) (pss_one (ps_expr (pe_methF (pe_fld (pv 0) rfl) T.cl_Hands T.m_Hands_put (ok_Hands_put (K := K) T) (hr.mono (by decide)) (pa_cons (pv 3) (pa_cons (pe_callF (ok_turned (K := K) T) (hr.mono (by decide)) (by rfl) T.g_turned (pa_cons (pe_ix ix_list (pv 2) (pv 3) (fun _ _ => rfl)) (pa_cons (pv 1) pa_nil))) pa_nil))))))
      (pss_cons (ps_for PassesOwn.never rfl (pi_list (pe_methF0 (pe_fld (pv 0) rfl) T.cl_Weak T.m_Weak_names (ok_Weak_names (K := K) T) (hr.mono (by decide)))) (pg_tup rfl (pgs_cons (pg_name (i := 4) sc_turn_roots.nd rfl (Or.inl rfl)) (pgs_cons (pg_name (i := 5) sc_turn_roots.nd rfl (Or.inl rfl)) pgs_nil))) (pss_one (ps_if (pt_cmp (pc_din (hu_of hr) (pv 5) (pv 1))) (pss_one (ps_expr (pe_methF (pe_fld (pv 0) rfl) T.cl_Weak T.m_Weak_move (ok_Weak_move (K := K) T) (hr.mono (by decide)) (pa_cons (pv 4) (pa_cons (pe_dget (hu_of hr) (pv 1) (pv 5) (fun _ _ => rfl)) pa_nil))))) (pss_one (ps_expr (pe_methF (pe_fld (pv 0) rfl) T.cl_Weak T.m_Weak_gone (ok_Weak_gone (K := K) T) (hr.mono (by decide)) (pa_cons (pv 4) pa_nil)))))))
      (pss_one (ps_for PassesOwn.never rfl (pi_list (pe_methF0 (pe_fld (pv 0) rfl) T.cl_Lasts T.m_Lasts_pending (ok_Lasts_pending (K := K) T) (hr.mono (by decide)))) (pg_tup rfl (pgs_cons (pg_name (i := 6) sc_turn_roots.nd rfl (Or.inl rfl)) (pgs_cons (pg_name (i := 5) sc_turn_roots.nd rfl (Or.inl rfl)) (pgs_cons (pg_name (i := 7) sc_turn_roots.nd rfl (Or.inl rfl)) pgs_nil)))) (pss_one (ps_if (pt_cmp (pc_din (hu_of hr) (pv 5) (pv 1))) (pss_one (ps_expr (pe_methF (pe_fld (pv 0) rfl) T.cl_Lasts T.m_Lasts_move (ok_Lasts_move (K := K) T) (hr.mono (by decide)) (pa_cons (pv 6) (pa_cons (pe_dget (hu_of hr) (pv 1) (pv 5) (fun _ _ => rfl)) pa_nil))))) (pss_one (ps_expr (pe_methF (pe_fld (pv 0) rfl) T.cl_Lasts T.m_Lasts_say (ok_Lasts_say (K := K) T) (hr.mono (by decide)) (pa_cons (pv 6) pa_nil))))))))))), ?_⟩
    refine ⟨_, rfl, rd_Roots_hands T ho (me_Hands_row hho ⟨h, hl, hs, rfl, hh, fun p np => ?_⟩)⟩
    have s1 : Same H (upd H p (.lst (hs.map V.int))) := same_new np
    refine ⟨_, rfl, p, _, rfl, .inl (SqL.of upd_same), ?_⟩
    refine ⟨_, rfl, by omega, by rw [List.length_map]; omega, for_range (lo := 0) (n := (((hs.map V.int).length : Nat) : Int).toNat) (fun k σ H1 => ∃ (v : Option V), σ = [some (.ref r), some (.ref wd), some (.ref p), v, none, none, none, none] ∧ HandO K H1 h hl ((hs.take k).map (turnW wh) ++ hs.drop k) ∧ H1 p = some (.lst (hs.map V.int)) ∧ Keep [hl] H H1)
      ⟨none, rfl, by simpa using hh.same s1, upd_same, (Keep.refl H).same s1⟩ ?_ ?_⟩
    · rintro k σ H1 hk ⟨v, rfl, hh1, hp1, k1⟩
      rw [List.length_map] at hk
      have hk1 : k < hs.length := by omega
      have ew : hs[k]? = some hs[k] := List.getElem?_eq_getElem hk1
      have tw := htu _ (List.getElem_mem hk1)
      have kk : Keep [hl, wl, ll, sl] H H1 := k1.mono (by simp)
      have hwd1 := nol kk hwd (by intro z; simp)
      obtain ⟨dy, hho1⟩ := hh1.o
      have npl : p ≠ hl := (ne_of_none hh.w np).symm
      refine ⟨_, rfl, rd_Roots_hands T (nol kk ho (by intro z; simp)) (me_Hands_put hho1 ⟨_, rfl, _, rfl, _, rfl, p, _, _, _, rfl, rfl, SqL.of hp1, ints_at (by omega) (by omega), _, rfl, wd, wh, _, rfl, hwd1, ?_, ?_⟩)⟩
      · rw [show mget hs (0 + (k : Int)) = hs[k] by simp [mget, List.getD, ew]]
        exact tw
      · rw [show mget hs (0 + (k : Int)) = hs[k] by simp [mget, List.getD, ew]]
        have el : ((hs.take k).map (turnW wh)).length = k := by rw [List.length_map, List.length_take]; omega
        refine ⟨h, hl, _, _, _, rfl, hh1, by omega, by rw [List.length_append, el, List.length_drop]; omega, tw.ok, ?_⟩
        have es : mset ((hs.take k).map (turnW wh) ++ hs.drop k) (0 + (k : Int)) (turnW wh hs[k]) = (hs.take (k + 1)).map (turnW wh) ++ hs.drop (k + 1) := by
          unfold mset
          rw [show (0 + (k : Int)).toNat = k by omega, List.drop_eq_getElem_cons hk1]
          have := set_mid (p := (hs.take k).map (turnW wh)) (q := hs.drop (k + 1)) (x := hs[k]) (y := turnW wh hs[k])
          rw [el] at this
          rw [this, take_succ' ew, List.map_append, List.append_assoc]
          rfl
        rw [es]
        exact ⟨_, rfl, hh1.upd, by rw [upd_ne npl]; exact hp1, keep_upd k1 (by simp)⟩
    rintro σ H1 ⟨v, rfl, hh1, hp1, k1⟩
    rw [List.length_map, Int.toNat_natCast, List.take_length, List.drop_length, List.append_nil] at hh1
    have kk1 : Keep [hl, wl, ll, sl] H H1 := k1.mono (by simp)
    have hw1 : WeakO K H1 w wl told := ⟨⟨dxw, nol kk1 hwo (by intro z; simp)⟩, k1 _ _ hw.l (not1 nhw.symm)⟩
    have hwo1 := nol kk1 hwo (by intro z; simp)
    refine ⟨_, rfl, rd_Roots_weaks T (nol kk1 ho (by intro z; simp)) (me_Weak_names hwo1 ⟨w, wl, told, rfl, hw1, l2, fun p2 xs H2 np2 s2 hp2 rows => ?_⟩)⟩
    have kk2 : Keep [hl, wl, ll, sl] H H2 := kk1.same s2
    have np2w : p2 ≠ wl := (ne_of_none hw1.l np2).symm
    refine ⟨p2, rfl, ⟨_, SqL.of hp2⟩, for_list (K := K) (a := p2) (xs := xs) (fun j σ H3 => ∃ (v v4 v5 : Option V) (pre post : List (Option Int)), σ = [some (.ref r), some (.ref wd), some (.ref p), v, v4, v5, none, none] ∧ told = pre ++ post ∧ (namesFrom 0 told).drop j = namesFrom pre.length post ∧
        WeakO K H3 w wl (toldN wh pre ++ post) ∧ Keep [wl] H2 H3) ⟨_, none, none, [], told, rfl, rfl, rfl, hw1.same s2, Keep.refl _⟩ (fun j σ H3 _ ⟨_, _, _, _, _, _, _, _, _, k3⟩ => SqL.of (k3 _ _ hp2 (not1 np2w))) ?_ ?_⟩
    · rintro j y σ H3 hj ⟨v, v4, v5, pre, post, rfl, etold, edrop, hw3, k3⟩
      obtain ⟨row, hrow, t, rfl, ht⟩ := paired_get rows hj
      have hjl := lt_of_get hrow
      have er : (namesFrom 0 told)[j] = row := (List.getElem?_eq_some_iff.mp hrow).2
      rw [List.drop_eq_getElem_cons hjl, er] at edrop
      obtain ⟨ns, a, rr, e1, e2, e3, e4⟩ := names_cons edrop.symm
      subst e3
      have tl : (toldN wh pre ++ ns).length = pre.length + ns.length := by
        rw [List.length_append]
        unfold toldN
        rw [List.length_map]
      have ecur : toldN wh pre ++ post = (toldN wh pre ++ ns) ++ some a :: rr := by rw [e1, List.append_assoc]
      rw [ecur] at hw3
      have eget : ((toldN wh pre ++ ns) ++ some a :: rr)[pre.length + ns.length]? = some (some a) := by
        rw [← tl]
        exact get_mid
      have eset : ∀ o, ((toldN wh pre ++ ns) ++ some a :: rr).set (pre.length + ns.length) o = (toldN wh pre ++ ns) ++ o :: rr := fun o => by
        rw [← tl]
        exact set_mid
      have kk3 : Keep [hl, wl, ll, sl] H H3 := kk2.trans (k3.mono (by simp))
      have hwd3 := nol kk3 hwd (by intro z; simp)
      obtain ⟨dy, hwo3⟩ := hw3.o
      have ht3 : H3 t = some (.tup [.int ((pre.length + ns.length : Nat) : Int), .int a]) := k3 _ _ ht (not1 (ne_of ht (s2 _ _ hw1.l) (by intro z; cases z)))
      have etold2 : told = (pre ++ (ns ++ [some a])) ++ rr := by rw [etold, e1]; simp
      have elen2 : (pre ++ (ns ++ [some a])).length = pre.length + ns.length + 1 := by simp; omega
      have etn : ∀ o, o = wh.lookup a → toldN wh (pre ++ (ns ++ [some a])) ++ rr = (toldN wh pre ++ ns) ++ o :: rr := fun o eo => by
        have h1 : toldN wh (pre ++ (ns ++ [some a])) = toldN wh pre ++ (ns ++ [o]) := by
          have := toldN_none (wh := wh) e2
          unfold toldN at this ⊢
          rw [List.map_append, List.map_append, this, eo]
          rfl
        rw [h1]
        simp
      refine ⟨t, _, rfl, SqT.of ht3, rfl, _, _, rfl, _, _, rfl, rfl, ?_⟩
      refine ⟨_, rfl, _, rfl, wd, _, rfl, dgetI (.inl hwd3) whV_look, _, rfl, ?_⟩
      cases el : wh.lookup a with
      | some g =>
        obtain ⟨g0, g1⟩ := hg _ _ el
        refine iteT ⟨_, rfl, rd_Roots_weaks T (nol kk3 ho (by intro z; simp)) (me_Weak_move hwo3 ⟨_, rfl, _, rfl, _, rfl, wd, _, rfl, dgetI (.inl hwd3) (by rw [whV_look, el]; rfl), ?_⟩)⟩
        refine ⟨w, wl, _, pre.length + ns.length, a, g, rfl, hw3, eget, g0, g1, ?_⟩
        rw [eset]
        refine ⟨_, _, _, pre ++ (ns ++ [some a]), rr, rfl, etold2, by rw [e4, elen2], ?_, keep_upd k3 (by simp)⟩
        rw [etn _ el.symm]
        exact hw3.upd
      | none =>
        refine iteF ⟨_, rfl, rd_Roots_weaks T (nol kk3 ho (by intro z; simp)) (me_Weak_gone hwo3 ⟨_, rfl, ?_⟩)⟩
        refine ⟨w, wl, _, pre.length + ns.length, a, rfl, hw3, eget, ?_⟩
        rw [eset]
        refine ⟨_, _, _, pre ++ (ns ++ [some a]), rr, rfl, etold2, by rw [e4, elen2], ?_, keep_upd k3 (by simp)⟩
        rw [etn _ el.symm]
        exact hw3.upd
    rintro σ H3 ⟨v, v4, v5, pre, post, rfl, etold, edrop, hw3, k3⟩
    rw [rows.len, List.drop_length] at edrop
    have hw3' : WeakO K H3 w wl (toldN wh told) := by
      have e1 := toldN_none (wh := wh) (names_nil edrop.symm)
      have : toldN wh told = toldN wh pre ++ post := by
        rw [etold]
        unfold toldN at e1 ⊢
        rw [List.map_append, e1]
      rw [this]
      exact hw3
    have kk3 : Keep [hl, wl, ll, sl] H H3 := kk2.trans (k3.mono (by simp))
    have kw3 : Keep [hl, wl] H H3 := ((k1.mono (by simp)).same s2).trans (k3.mono (by simp))
    have hla3 : LastO K H3 la ll sl W S := ⟨⟨dxl, nol kk3 hlo (by intro z; simp)⟩, ⟨vsl, kw3 _ _ hllw (by simp; exact ⟨nhl.symm, nwl.symm⟩), hwr.keep fun t ys e => nol kk3 e (by intro z; simp)⟩, kw3 _ _ hla.s (by simp; exact ⟨nhs.symm, nws.symm⟩), hla.ne⟩
    have hh3 : HandO K H3 h hl (hs.map (turnW wh)) := by
      have k13 : Keep [wl] H1 H3 := fun c o e n => k3 _ _ (s2 _ _ e) n
      obtain ⟨dz, hz⟩ := hh1.o
      exact ⟨⟨dxh, nol kk3 hho (by intro z; simp)⟩, k13 _ _ hh1.w (not1 nhw)⟩
    have hlo3 := nol kk3 hlo (by intro z; simp)
    refine ⟨_, rfl, rd_Roots_lasts T (nol kk3 ho (by intro z; simp)) (me_Lasts_pending hlo3 ⟨la, ll, sl, W, S, rfl, hla3, by omega, fun p3 xs3 H4 np3 s4 hp3 rows3 => ?_⟩)⟩
    have kk4 : Keep [hl, wl, ll, sl] H H4 := kk3.same s4
    obtain ⟨vs3, hll3, hwr3⟩ := hla3.w
    have np3l : p3 ≠ ll := (ne_of_none hll3 np3).symm
    have np3s : p3 ≠ sl := (ne_of_none hla3.s np3).symm
    refine ⟨p3, rfl, ⟨_, SqL.of hp3⟩, for_list (K := K) (a := p3) (xs := xs3) (fun j σ H5 => ∃ (v v4 v5 v6 v7 : Option V) (pre post : List Tick), σ = [some (.ref r), some (.ref wd), some (.ref p), v, v4, v5, v6, v7] ∧ W = pre ++ post ∧ (pendFrom 0 W).drop j = pendFrom pre.length post ∧
        LastO K H5 la ll sl (tickN wh pre ++ post) (S ++ dropN wh pre) ∧ KeepLL ll sl H4 H5) ⟨_, _, _, none, none, [], W, rfl, rfl, rfl, by simpa [dropN, tickN] using hla3.same s4, fun b o e _ _ => e⟩ (fun j σ H5 _ ⟨_, _, _, _, _, _, _, _, _, _, _, k5⟩ => SqL.of (k5 _ _ hp3 np3l np3s)) ?_ ?_⟩
    · rintro j y σ H5 hj ⟨v, v4, v5, v6, v7, pre, post, rfl, etold, edrop, hw5, k5⟩
      obtain ⟨row, hrow, t, rfl, ht⟩ := paired_get rows3 hj
      have hjl := lt_of_get hrow
      have er : (pendFrom 0 W)[j] = row := (List.getElem?_eq_some_iff.mp hrow).2
      rw [List.drop_eq_getElem_cons hjl, er] at edrop
      obtain ⟨ns, a, n, rr, e1, e2, e3, e4⟩ := pend_cons edrop.symm
      subst e3
      have tl : (tickN wh pre ++ ns).length = pre.length + ns.length := by
        rw [List.length_append]
        unfold tickN
        rw [List.length_map]
      have ecur : tickN wh pre ++ post = (tickN wh pre ++ ns) ++ some (a, n) :: rr := by rw [e1, List.append_assoc]
      rw [ecur] at hw5
      have eget : ((tickN wh pre ++ ns) ++ some (a, n) :: rr)[pre.length + ns.length]? = some (some (a, n)) := by
        rw [← tl]
        exact get_mid
      have eset : ∀ o, ((tickN wh pre ++ ns) ++ some (a, n) :: rr).set (pre.length + ns.length) o = (tickN wh pre ++ ns) ++ o :: rr := fun o => by
        rw [← tl]
        exact set_mid
      have kk5 : Keep [hl, wl, ll, sl] H H5 := kk4.trans fun b o e nb => k5 _ _ e (fun z => nb (by rw [z]; simp)) (fun z => nb (by rw [z]; simp))
      have hwd5 := nol kk5 hwd (by intro z; simp)
      obtain ⟨dy, hlo5⟩ := hw5.o
      have ht5 : H5 t = some (.tup [.int ((pre.length + ns.length : Nat) : Int), .int a, .int n]) := k5 _ _ ht (ne_of ht (s4 _ _ hll3) (by intro z; cases z)) (ne_of ht (s4 _ _ hla3.s) (by intro z; cases z))
      have etold2 : W = (pre ++ (ns ++ [some (a, n)])) ++ rr := by rw [etold, e1]; simp
      have elen2 : (pre ++ (ns ++ [some (a, n)])).length = pre.length + ns.length + 1 := by simp; omega
      obtain ⟨en1, en2⟩ := tickN_none (wh := wh) e2
      have etn : ∀ o, o = (wh.lookup a).map (fun g => (g, n)) → tickN wh (pre ++ (ns ++ [some (a, n)])) ++ rr = (tickN wh pre ++ ns) ++ o :: rr := fun o eo => by
        have h1 : tickN wh (pre ++ (ns ++ [some (a, n)])) = tickN wh pre ++ (ns ++ [o]) := by
          unfold tickN at en1 ⊢
          rw [List.map_append, List.map_append, en1, eo]
          rfl
        rw [h1]
        simp
      have edn : dropN wh (pre ++ (ns ++ [some (a, n)])) = dropN wh pre ++ (if (wh.lookup a).isNone then [n] else []) := by
        unfold dropN at en2 ⊢
        rw [List.filterMap_append, List.filterMap_append, en2]
        cases el : wh.lookup a <;> simp [el]
      refine ⟨t, _, rfl, SqT.of ht5, rfl, _, _, rfl, _, _, rfl, _, _, rfl, rfl, ?_⟩
      refine ⟨_, rfl, _, rfl, wd, _, rfl, dgetI (.inl hwd5) whV_look, _, rfl, ?_⟩
      cases el : wh.lookup a with
      | some g =>
        obtain ⟨g0, g1⟩ := hg _ _ el
        refine iteT ⟨_, rfl, rd_Roots_lasts T (nol kk5 ho (by intro z; simp)) (me_Lasts_move hlo5 ⟨_, rfl, _, rfl, _, rfl, wd, _, rfl, dgetI (.inl hwd5) (by rw [whV_look, el]; rfl), ?_⟩)⟩
        refine ⟨la, ll, sl, _, _, pre.length + ns.length, a, n, g, rfl, hw5, eget, g0, g1, fun H6 hw6 k6 => ?_⟩
        rw [eset] at hw6
        refine ⟨_, _, _, _, _, pre ++ (ns ++ [some (a, n)]), rr, rfl, etold2, by rw [e4, elen2], ?_, fun b o e n1 n2 => k6 _ _ (k5 _ _ e n1 n2) n1 n2⟩
        rw [etn _ (by rw [el] <;> rfl), edn, el]
        have hw6' : LastO K H6 la ll sl _ _ := hw6
        simpa using hw6'
      | none =>
        refine iteF ⟨_, rfl, rd_Roots_lasts T (nol kk5 ho (by intro z; simp)) (me_Lasts_say hlo5 ⟨_, rfl, ?_⟩)⟩
        have hdl : (dropN wh pre).length ≤ W.length := by
          unfold dropN
          have := List.length_filterMap_le (fun (t : Tick) => t.bind fun p => if (wh.lookup p.1).isNone then some p.2 else none) pre
          rw [etold, List.length_append]
          omega
        refine ⟨la, ll, sl, _, _, pre.length + ns.length, a, n, rfl, hw5, eget, by rw [List.length_append]; omega, fun H6 hw6 k6 => ?_⟩
        rw [eset] at hw6
        refine ⟨_, _, _, _, _, pre ++ (ns ++ [some (a, n)]), rr, rfl, etold2, by rw [e4, elen2], ?_, fun b o e n1 n2 => k6 _ _ (k5 _ _ e n1 n2) n1 n2⟩
        rw [etn none (by rw [el]; rfl), edn, el]
        have hw6' : LastO K H6 la ll sl _ _ := hw6
        simpa using hw6'
    rintro σ H5 ⟨v, v4, v5, v6, v7, pre, post, rfl, etold, edrop, hw5, k5⟩
    rw [rows3.len, List.drop_length] at edrop
    obtain ⟨en1, en2⟩ := tickN_none (wh := wh) (pend_nil edrop.symm)
    have k45 : Keep [ll, sl] H4 H5 := fun b o e nb => k5 _ _ e (fun z => nb (by rw [z]; simp)) (fun z => nb (by rw [z]; simp))
    have kk5 : Keep [hl, wl, ll, sl] H H5 := kk4.trans (k45.mono (by simp))
    have hh4 := hh3.same s4
    have hw4 := hw3'.same s4
    refine q H5 ⟨⟨dxh, nol kk5 hho (by intro z; simp)⟩, k45 _ _ hh4.w (by simp; exact ⟨nhl, nhs⟩)⟩ ⟨⟨dxw, nol kk5 hwo (by intro z; simp)⟩, k45 _ _ hw4.l (by simp; exact ⟨nwl, nws⟩)⟩ ?_ kk5
    have e1 : tickN wh W = tickN wh pre ++ post := by
      rw [etold]
      unfold tickN at en1 ⊢
      rw [List.map_append, en1]
    have e2 : dropN wh W = dropN wh pre := by
      rw [etold]
      unfold dropN at en2 ⊢
      rw [List.filterMap_append, en2, List.append_nil]
    rw [e1, e2]
    exact hw5
end Km
set_option Elab.async false
set_option linter.all false
set_option maxRecDepth 100000
set_option maxHeartbeats 4000000
/-! a whole collection -/
namespace Km
open PySem PySem.Spec PyProof.Rows L2
/-- where all things of the program stand -/
structure PL where
  (a m l o y s r h hl b w wl la ll sl : Addr)
/-- what they hold -/
structure PV where
  M : List Int
  (oe ot yb ye yt sb se st : Int)
  hs : List Int
  told : List (Option Int)
  W : List Tick
  S : List Int
structure PAt (K : PySem.W.Frag) (H : Hp) (L : PL) (z : PV) : Prop where
  ar : AreaO K H L.a L.m L.o L.y L.s
  me : MemO K H L.m L.l z.M
  old : ∃ dx, H L.o = some (spO K dx 0 z.oe z.ot)
  yo : ∃ dx, H L.y = some (spO K dx z.yb z.ye z.yt)
  sp : ∃ dx, H L.s = some (spO K dx z.sb z.se z.st)
  ro : RootO K H L.r L.h L.b L.w L.la
  ha : HandO K H L.h L.hl z.hs
  bo : ∃ bd kvs, BookO K H L.b bd kvs
  we : WeakO K H L.w L.wl z.told
  la : LastO K H L.la L.ll L.sl z.W z.S
  nd : [L.l, L.hl, L.wl, L.ll, L.sl].Nodup
  sd : L.o ≠ L.y ∧ L.o ≠ L.s ∧ L.y ≠ L.s
/-- the cells and the roots fit one another -/
structure Fit (z : PV) (cs : Cells) : Prop where
  mem : Mem z.M cs
  dj : Disj cs
  cl : Closed cs
  hs : ∀ w ∈ z.hs, OkIn cs w
  td : ∀ a, some a ∈ z.told → a ∈ keys cs
  tk : ∀ a n, some (a, n) ∈ z.W → a ∈ keys cs
  sz : (size cs : Int) ≤ z.oe
  oe : z.oe ≤ z.M.length
  ml : z.M.length ≤ 1000
  n1 : cs.length ≤ 100
  n2 : z.hs.length ≤ 100
  n3 : z.told.length ≤ 1000
  n4 : z.S.length + z.W.length ≤ 1000
/-- what all that becomes -/
def PV.next (z : PV) (N : List Int) (t : Int) (wh : List (Int × Int)) : PV := { M := N, oe := z.oe, ot := t, yb := z.yb, ye := z.ye, yt := z.yb, sb := z.sb, se := z.se, st := z.sb, hs := z.hs.map (turnW wh), told := toldN wh z.told, W := tickN wh z.W, S := z.S ++ dropN wh z.W }
def PL.all (L : PL) : List Addr := [L.l, L.o, L.y, L.s, L.hl, L.b, L.wl, L.ll, L.sl]
theorem ins_nl {C dx : Addr} {fs : List (Str × V)} {xs : List V} : HO.ins C dx fs ≠ HO.lst xs := fun h => by cases h
theorem tup_nl {ys xs : List V} : HO.tup ys ≠ HO.lst xs := fun h => by cases h
theorem ins_ne1 {C dx C' dx' : Addr} {f g : Str} {x y : V} {r q : List (Str × V)} (h : ¬ f = g) : HO.ins C dx ((f, x) :: r) ≠ HO.ins C' dx' ((g, y) :: q) := fun e => by
  injection e with _ _ e3
  injection e3 with e4 _
  exact h (congrArg Prod.fst e4)
theorem lst_ins {xs : List V} {C dx : Addr} {fs : List (Str × V)} : HO.lst xs ≠ HO.ins C dx fs := fun h => by cases h
theorem tup_ins {xs : List V} {C dx : Addr} {fs : List (Str × V)} : HO.tup xs ≠ HO.ins C dx fs := fun h => by cases h
theorem dk_ins {xs : List (Key × V)} {C dx : Addr} {fs : List (Str × V)} : HO.dK xs ≠ HO.ins C dx fs := fun h => by cases h
theorem dk_nl {ys : List (Key × V)} {xs : List V} : HO.dK ys ≠ HO.lst xs := fun h => by cases h
theorem upd_id {H : Hp} {p : Addr} {o : HO} (h : H p = some o) : upd H p o = H := by
  funext b
  by_cases e : b = p
  · rw [e, upd_same, h]
  · rw [upd_ne e]
def sp_collect_all (K : PySem.W.Frag) : Sp := fun vs H Q _ => ∃ (L : PL) (z : PV) (cs : Cells), vs = [.ref L.a, .ref L.r] ∧ PAt K H L z ∧ Fit z cs ∧
  ∀ (S N : List Int) (H' : Hp), Kept cs (kids z.hs) S → N.length = z.M.length → Tiled N 0 (topOf cs 0 S) (newCs cs (goalsL cs 0 S) S) → (∀ c ∈ newCs cs (goalsL cs 0 S) S, CellOld N c.1 c.2) →
    PAt K H' L (z.next N (topOf cs 0 S) (goalsL cs 0 S)) → (∃ bd, BookO K H' L.b bd [] ∧ ∀ d kv, H d = some (.dK kv) → d ≠ bd) → Keep L.all H H' → Q (.int (topOf cs 0 S)) H'
theorem ok_collect_all {P : Program} {w : World} {K : PySem.W.Frag} {mg : Str → Option Value} {base : Heap} (T : Tx K mg) : FX P w K mg base 8 (He.ga K "collect_all") ["areas", "roots"] (sp_collect_all K) := by
  refine fx_of T.f_collect_all sc_collect_all (fun _ _ _ _ _ _ us hl => match us, hl with | [_, _], _ => rfl) (fun vs H Q E h => ?_) (fun cdv A outer s H vs Q E hr h => ?_)
  · obtain ⟨_, _, _, rfl, _⟩ := h
    rfl
  · obtain ⟨L, z, cs, rfl, p, F, q⟩ := h
    obtain ⟨dxa, hao⟩ := p.ar
    obtain ⟨dxr, hro⟩ := p.ro
    obtain ⟨dxo, holo⟩ := p.old
    obtain ⟨dxy, hyo⟩ := p.yo
    obtain ⟨dxs, hso⟩ := p.sp
    have hst : ∀ x ∈ kids z.hs, x ∈ keys cs := fun x hx => by
      obtain ⟨w, hw, pp, e⟩ := mem_kids.mp hx
      rw [← e]
      exact (F.hs w hw).2 pp
    refine ⟨_, (pss_cons (ps_set (i := 2) sc_collect_all.nd rfl (Or.inl rfl) (pe_fld (pv 0) rfl))
      (pss_cons (ps_set (i := 3) sc_collect_all.nd rfl (Or.inl rfl) (pe_callF (ok_reached (K := K) T) (hr.mono (by decide)) (by rfl) T.g_reached (pa_cons (pv 2) (pa_cons (pe_methF0 (pv 1) T.cl_Roots T.m_Roots_starts (ok_Roots_starts (K := K) T) (hr.mono (by decide))) pa_nil))))
      (pss_cons (ps_set (i := 4) sc_collect_all.nd rfl (Or.inl rfl) (pe_callF (ok_goals (K := K) T) (hr.mono (by decide)) (by rfl) T.g_goals (pa_cons (pv 0) (pa_cons (pv 3) pa_nil))))
      (pss_cons (ps_for PassesOwn.never rfl (pi_list (pv 3)) (pg_name (i := 5) sc_collect_all.nd rfl (Or.inl rfl)) (pss_one (ps_expr (pe_callF (ok_turn_slots (K := K) T) (hr.mono (by decide)) (by rfl) T.g_turn_slots (pa_cons (pv 2) (pa_cons (pv 5) (pa_cons (pv 4) pa_nil)))))))
      (pss_cons (ps_expr (pe_callF (ok_turn_roots (K := K) T) (hr.mono (by decide)) (by rfl) T.g_turn_roots (pa_cons (pv 1) (pa_cons (pv 4) pa_nil))))
      (pss_cons (ps_set (i := 6) sc_collect_all.nd rfl (Or.inl rfl) (pe_fld (pe_fld (pv 0) rfl) rfl))
      (pss_cons (ps_for PassesOwn.never rfl (pi_list (pe_callB cr_sortedI (by rfl) T.n_sorted (by decide +kernel) (pa_cons (pv 3) pa_nil))) (pg_name (i := 5) sc_collect_all.nd rfl (Or.inl rfl)) (pss_cons (ps_set (i := 7) sc_collect_all.nd rfl (Or.inl rfl) (pe_callF (ok_words_of (K := K) T) (hr.mono (by decide)) (by rfl) T.g_words_of (pa_cons (pv 2) (pa_cons (pv 5) pa_nil))))
      (pss_cons (ps_expr (pe_methF (pv 2) T.cl_Memory T.m_Memory_copy (ok_Memory_copy (K := K) T) (hr.mono (by decide)) (pa_cons (pv 5) (pa_cons (pe_dget (hu_of hr) (pv 4) (pv 5) (fun _ _ => rfl)) (pa_cons (pv 7) pa_nil)))))
      (pss_cons (ps_expr (pe_callF (ok_aged (K := K) T) (hr.mono (by decide)) (by rfl) T.g_aged (pa_cons (pv 2) (pa_cons (pe_dget (hu_of hr) (pv 4) (pv 5) (fun _ _ => rfl)) (pa_cons (gi_MOST_AGE T rfl) pa_nil)))))
      (pss_one (ps_set (i := 6) sc_collect_all.nd rfl (Or.inl rfl) (pe_op op_add (pe_dget (hu_of hr) (pv 4) (pv 5) (fun _ _ => rfl)) (pv 7))))))))
      (pss_cons (ps_expr (pe_methF (pe_fld (pv 0) rfl) T.cl_Space T.m_Space_cut (ok_Space_cut (K := K) T) (hr.mono (by decide)) (pa_cons (pv 6) pa_nil)))
      (pss_cons (ps_expr (pe_methF0 (pe_fld (pv 0) rfl) T.cl_Space T.m_Space_empty (ok_Space_empty (K := K) T) (hr.mono (by decide))))
      (pss_cons (ps_expr (pe_methF0 (pe_fld (pv 0) rfl) T.cl_Space T.m_Space_empty (ok_Space_empty (K := K) T) (hr.mono (by decide))))
      (pss_cons (ps_expr (pe_methF0 (pe_fld (pv 1) rfl) T.cl_Book T.m_Book_clear (ok_Book_clear (K := K) T) (hr.mono (by decide))))
      (pss_one (ps_ret (pe_methF0 (pe_fld (pv 0) rfl) T.cl_Space T.m_Space_used (ok_Space_used (K := K) T) (hr.mono (by decide)))))))))))))))), ?_⟩
    refine ⟨_, rfl, rd_Areas_memory T hao ?_⟩
    refine ⟨_, rfl, _, rfl, me_Roots_starts hro ⟨L.r, L.h, L.b, L.w, L.la, L.hl, z.hs, rfl, p.ro, p.ha, fun x hx => (F.hs x hx).1, F.n2, fun p1 H1 np1 s1 hp1 => ?_⟩⟩
    refine ⟨L.m, L.l, p1, z.M, kids z.hs, cs, rfl, p.me.same s1, SqL.of hp1, F.mem, F.dj, F.cl, hst, F.n1, fun ks p2 H2 np2 s2 hp2 nd re => ?_⟩
    have s12 := s1.trans s2
    have hk : ∀ x ∈ ks, x ∈ keys cs := fun x hx => ((re x).mp hx).key F.cl hst
    have hkl : ks.length ≤ 100 := by
      have := nodup_len nd hk
      unfold keys at this
      rw [List.length_map] at this
      have := F.n1
      omega
    refine ⟨_, rfl, _, rfl, L.a, L.m, L.l, L.o, L.y, L.s, p2, dxo, z.M, ks, cs, z.oe, z.ot, rfl, ⟨dxa, s12 _ _ hao⟩, s12 _ _ holo, p.me.same s12, SqL.of hp2, F.mem, F.dj, nd, hk, hkl, fun S wd H3 perm up nwd s3 hwd => ?_⟩
    have s13 := s12.trans s3
    have kp : Kept cs (kids z.hs) S := ⟨up, fun x => perm.mem_iff.trans (re x)⟩
    have hkS : ∀ x ∈ S, x ∈ keys cs := fun x hx => hk x (perm.mem_iff.mp hx)
    have topb : topOf cs 0 S ≤ z.oe := Int.le_trans (top_le_size F.dj (rising_nodup up) hkS) F.sz
    have hml := F.ml
    have hoe := F.oe
    generalize hwh : goalsL cs 0 S = wh at hwd q ⊢
    have hlk : ∀ j a, S[j]? = some a → wh.lookup a = some (topOf cs 0 (S.take j)) := fun j a e => by rw [← hwh]; exact goalsL_look (rising_nodup up) e
    have tkb : ∀ j : Nat, 0 ≤ topOf cs 0 (S.take j) ∧ topOf cs 0 (S.take j) ≤ z.oe := fun j => by
      refine ⟨topOf_le (t := 0), ?_⟩
      have e : topOf cs 0 S = topOf cs (topOf cs 0 (S.take j)) (S.drop j) := by rw [← topOf_append, List.take_append_drop]
      have := topOf_le (cs := cs) (l := S.drop j) (t := topOf cs 0 (S.take j))
      omega
    have hlS : ∀ a ∈ S, ∃ g, wh.lookup a = some g ∧ 0 ≤ g ∧ g ≤ 9999 := fun a ha => by
      obtain ⟨j, hj, e⟩ := List.mem_iff_getElem.mp ha
      have := tkb j
      exact ⟨_, hlk j a (by rw [List.getElem?_eq_getElem hj, e]), this.1, by omega⟩
    have hgb : ∀ n g, wh.lookup n = some g → 0 ≤ g ∧ g ≤ 9999 := fun n g e => by
      by_cases hn : n ∈ S
      · obtain ⟨g', e', h⟩ := hlS n hn
        rw [e] at e'
        rw [Option.some.inj e']
        exact h
      · rw [← hwh, goalsL_none hn] at e
        cases e
    have htH : ∀ w ∈ z.hs, Turns wh w := fun w hw => ⟨(F.hs w hw).1, fun pp => hlS _ ((kp.re _).mpr (.root (mem_kids.mpr ⟨w, hw, pp, rfl⟩)))⟩
    have htS : ∀ a ∈ S, ∀ w ∈ csGet cs a, Turns wh w := fun a ha w hw => by
      have hc := csGet_in F.dj (hkS a ha)
      exact ⟨(F.cl _ hc w hw).1, fun pp => hlS _ ((kp.re _).mpr (.step ((kp.re a).mp ha) hc (mem_kids.mpr ⟨w, hw, pp, rfl⟩)))⟩
    -- the slots
    have me3 := p.me.same s13
    have hp2_3 := s3 _ _ hp2
    have n2l : p2 ≠ L.l := (ne_of_none (p.me.same s1).w np2).symm
    have nwl : wd ≠ L.l := (ne_of_none (p.me.same s12).w nwd).symm
    refine ⟨_, rfl, p2, rfl, ⟨_, SqL.of hp2_3⟩, for_list (K := K) (a := p2) (xs := ks.map V.int) (fun i σ H4 => ∃ (N : List Int) (v : Option V), σ = [some (.ref L.a), some (.ref L.r), some (.ref L.m), some (.ref p2), some (.ref wd), v, none, none] ∧ N.length = z.M.length ∧
      (∀ c ∈ cs, CellAt N c.1 (if c.1 ∈ ks.take i then c.2.map (turnW wh) else c.2)) ∧ H4 = upd H3 L.l (.lst (N.map V.int)))
      ⟨z.M, none, rfl, rfl, fun c hc => by simpa using F.mem c hc, (upd_id me3.w).symm⟩ (fun i σ H4 _ ⟨_, _, _, _, _, e⟩ => SqL.of (by rw [e, upd_ne n2l]; exact hp2_3)) ?_ ?_⟩
    · rintro i y σ H4 hi ⟨N, v, rfl, hN, hc, rfl⟩
      obtain ⟨a, rfl, ha, hil⟩ := ints_ix hi
      have hac := csGet_in F.dj (hk a (List.mem_of_getElem? ha))
      have haS : a ∈ S := perm.mem_iff.mpr (List.mem_of_getElem? ha)
      have hnt : a ∉ ks.take i := fun hm => by
        obtain ⟨j, hj, ej⟩ := List.mem_iff_getElem.mp hm
        rw [List.length_take] at hj
        rw [List.getElem_take] at ej
        have e1 : ks[j]? = some a := by rw [List.getElem?_eq_getElem (by omega), ej]
        have := nd_ix nd e1 ha
        omega
      have ca := hc _ hac
      simp only [if_neg hnt] at ca
      refine ⟨_, rfl, _, rfl, _, rfl, L.m, L.l, wd, N, a, csGet cs a, wh, rfl, me3.upd hN, ca, by rw [upd_ne nwl]; exact hwd, htS a haS, fun N1 hN1 c1 out => ?_⟩
      rw [upd_upd]
      refine ⟨N1, _, rfl, hN1.trans hN, fun c hcc => ?_, rfl⟩
      by_cases e : c.1 = a
      · have e2 : c.2 = csGet cs a := F.dj.uniq (a := a) (by rw [← e]; exact hcc) hac
        rw [if_pos ((take_snoc ha).mpr (.inr e)), e, e2]
        exact c1
      · have hcur := hc c hcc
        have em : (if c.1 ∈ ks.take (i + 1) then c.2.map (turnW wh) else c.2) = (if c.1 ∈ ks.take i then c.2.map (turnW wh) else c.2) := by
          have : c.1 ∈ ks.take (i + 1) ↔ c.1 ∈ ks.take i := by rw [take_snoc ha]; simp [e]
          simp only [this]
        rw [em]
        have el : (if c.1 ∈ ks.take i then c.2.map (turnW wh) else c.2).length = c.2.length := by split <;> simp
        refine hcur.frame hN1 fun x x0 x1 => ?_
        rw [el] at x1
        have := hcur.pos
        refine out x (by omega) ?_
        rcases F.dj.apart hcc hac (by simpa using e) with h | h
        · simp only at h
          exact .inl (by omega)
        · simp only at h
          exact .inr (by omega)
    rintro σ H4 ⟨M1, v, rfl, hM1, hc1, rfl⟩
    rw [List.length_map, List.take_length] at hc1
    have hcS : ∀ a ∈ S, CellAt M1 a ((csGet cs a).map (turnW wh)) := fun a ha => by
      have := hc1 _ (csGet_in F.dj (hkS a ha))
      simp only [if_pos (perm.mem_iff.mp ha)] at this
      exact this
    -- the roots
    have nds := p.nd
    simp only [List.nodup_cons, List.mem_cons, List.not_mem_nil, or_false, not_or, not_false_eq_true, List.nodup_nil, and_true] at nds
    obtain ⟨⟨d1, d2, d3, d4⟩, ⟨d5, d6, d7⟩, ⟨d8, d9⟩, d10⟩ := nds
    have d1 : L.l ≠ L.hl := d1
    have d2 : L.l ≠ L.wl := d2
    have d3 : L.l ≠ L.ll := d3
    have d4 : L.l ≠ L.sl := d4
    have d5 : L.hl ≠ L.wl := d5
    have d6 : L.hl ≠ L.ll := d6
    have d7 : L.hl ≠ L.sl := d7
    have d8 : L.wl ≠ L.ll := d8
    have d9 : L.wl ≠ L.sl := d9
    have k14 : Keep [L.l] H (upd H3 L.l (.lst (M1.map V.int))) := keep_upd ((Keep.refl H).same s13) (by simp)
    have nl : ∀ {c : Addr} {o : HO}, H c = some o → (∀ xs, o ≠ .lst xs) → (upd H3 L.l (.lst (M1.map V.int))) c = some o := fun e n => k14 _ _ e (not1 (ne_of e p.me.w (n _)))
    obtain ⟨dxh, hho⟩ := p.ha.o
    obtain ⟨dxw, hwo⟩ := p.we.o
    obtain ⟨dxl, hlo⟩ := p.la.o
    obtain ⟨vsl, hllw, hwr⟩ := p.la.w
    have ha4 : HandO K (upd H3 L.l (.lst (M1.map V.int))) L.h L.hl z.hs := ⟨⟨dxh, nl hho (fun x => by first | exact ins_nl | exact tup_nl)⟩, k14 _ _ p.ha.w (not1 d1.symm)⟩
    have we4 : WeakO K (upd H3 L.l (.lst (M1.map V.int))) L.w L.wl z.told := ⟨⟨dxw, nl hwo (fun x => by first | exact ins_nl | exact tup_nl)⟩, k14 _ _ p.we.l (not1 d2.symm)⟩
    have la4 : LastO K (upd H3 L.l (.lst (M1.map V.int))) L.la L.ll L.sl z.W z.S := ⟨⟨dxl, nl hlo (fun x => by first | exact ins_nl | exact tup_nl)⟩, ⟨vsl, k14 _ _ hllw (not1 d3.symm), hwr.keep fun t ys e => nl e (fun x => by first | exact ins_nl | exact tup_nl)⟩, k14 _ _ p.la.s (not1 d4.symm), p.la.ne⟩
    refine ⟨_, rfl, _, rfl, L.r, L.h, L.b, L.w, L.la, L.hl, L.wl, L.ll, L.sl, wd, z.hs, z.told, z.W, z.S, wh, rfl, ⟨dxr, nl hro (fun x => by first | exact ins_nl | exact tup_nl)⟩, ha4, we4, la4, by rw [upd_ne nwl]; exact hwd, htH, hgb, by have := F.n2; omega, F.n3, F.n4, ?_, fun H5 ha5 we5 la5 k45 => ?_⟩
    · simp only [List.nodup_cons, List.mem_cons, List.not_mem_nil, or_false, not_or, not_false_eq_true, List.nodup_nil, and_true]
      exact ⟨⟨d5, d6, d7⟩, ⟨d8, d9⟩, d10⟩
    have k15 : Keep [L.l, L.hl, L.wl, L.ll, L.sl] H H5 := (k14.mono (by simp)).trans (k45.mono (by simp))
    have nl5 : ∀ {c : Addr} {o : HO}, H c = some o → (∀ xs, o ≠ .lst xs) → H5 c = some o := fun e n => k15 _ _ e (by
      simp only [List.mem_cons, List.not_mem_nil, or_false, not_or]
      exact ⟨ne_of e p.me.w (n _), ne_of e p.ha.w (n _), ne_of e p.we.l (n _), ne_of e hllw (n _), ne_of e p.la.s (n _)⟩)
    have me5 : MemO K H5 L.m L.l M1 := by
      obtain ⟨dxm, hmo⟩ := p.me.o
      refine ⟨⟨dxm, by rw [hM1]; exact nl5 hmo (fun x => by first | exact ins_nl | exact tup_nl)⟩, k45 _ _ upd_same ?_⟩
      simp only [List.mem_cons, List.not_mem_nil, or_false, not_or]
      exact ⟨d1, d2, d3, d4⟩
    have hmem : ∀ D ∈ [L.hl, L.wl, L.ll, L.sl], p2 ≠ D ∧ wd ≠ D := fun D hD => by
      have h1 : ∃ xs, H1 D = some (.lst xs) := by
        simp only [List.mem_cons, List.not_mem_nil, or_false] at hD
        rcases hD with rfl | rfl | rfl | rfl
        · exact ⟨_, s1 _ _ p.ha.w⟩
        · exact ⟨_, s1 _ _ p.we.l⟩
        · exact ⟨_, s1 _ _ hllw⟩
        · exact ⟨_, s1 _ _ p.la.s⟩
      obtain ⟨xs, h1⟩ := h1
      exact ⟨(ne_of_none h1 np2).symm, (ne_of_none (s2 _ _ h1) nwd).symm⟩
    have hp25 : H5 p2 = some (.lst (ks.map V.int)) := k45 _ _ (by rw [upd_ne n2l]; exact hp2_3) fun z => (hmem _ z).1 rfl
    have hwd5 : H5 wd = some (.dK (kI (whV wh))) := k45 _ _ (by rw [upd_ne nwl]; exact hwd) fun z => (hmem _ z).2 rfl
    -- the slide
    refine ⟨_, rfl, rd_Areas_old T (nl5 hao (fun x => by first | exact ins_nl | exact tup_nl)) (rd_Space_begin T (nl5 holo (fun x => ins_nl)) ?_)⟩
    refine ⟨_, rfl, p2, ks, rfl, SqL.of hp25, fun S2 p4 hp4 hup4 np4 => ?_⟩
    have eS : S2 = S := kept_of nd re hp4 hup4 |>.uniq kp
    subst eS
    have s56 : Same H5 (upd H5 p4 (.lst (S2.map V.int))) := same_new np4
    have n4l : p4 ≠ L.l := (ne_of_none me5.w np4).symm
    have hfl : ∀ a, ((csGet cs a).map (turnW wh)).length = (csGet cs a).length := fun a => List.length_map _
    refine ⟨p4, rfl, ⟨_, SqL.of upd_same⟩, for_list (K := K) (a := p4) (xs := S2.map V.int) (fun i σ H6 => ∃ (N : List Int) (v v2 : Option V), σ = [some (.ref L.a), some (.ref L.r), some (.ref L.m), some (.ref p2), some (.ref wd), v, some (.int (topOf cs 0 (S2.take i))), v2] ∧ N.length = z.M.length ∧
      Slid cs S2 (fun a => (csGet cs a).map (turnW wh)) N i ∧ MemO K H6 L.m L.l N ∧ Keep [L.l] (upd H5 p4 (.lst (S2.map V.int))) H6)
      ⟨M1, _, none, rfl, hM1, ⟨fun j a hj => by omega, fun j a _ h => hcS a (List.mem_of_getElem? h)⟩, me5.same s56, Keep.refl _⟩ (fun i σ H6 _ ⟨_, _, _, _, _, _, _, k⟩ => SqL.of (k _ _ upd_same (not1 n4l))) ?_ ?_⟩
    · rintro i y σ H6 hi ⟨N, v, v2, rfl, hN, sl, me6, k6⟩
      obtain ⟨a, rfl, ha, hil⟩ := ints_ix hi
      have ca := sl.rest i a (Nat.le_refl _) ha
      have hwd6 : H6 wd = some (.dK (kI (whV wh))) := k6 _ _ (s56 _ _ hwd5) (not1 nwl)
      have hg := hlk i a ha
      have gb := tkb i
      have hfit := ca.fit
      have hpos := ca.pos
      have hlen := ca.len
      have dg : DGet H6 wd (.int a) (some (.int (topOf cs 0 (S2.take i)))) := dgetI (.inl hwd6) (by rw [whV_look, hg]; rfl)
      have gle := goal_le F.dj F.mem up hkS i a ha
      obtain ⟨dxm, hmo6⟩ := me6.o
      refine ⟨_, rfl, _, rfl, L.m, L.l, N, a, _, rfl, me6, ca, ?_⟩
      refine ⟨_, rfl, me_Memory_copy hmo6 ⟨_, rfl, _, rfl, _, rfl, wd, _, rfl, dg, _, rfl, ?_⟩⟩
      refine ⟨L.m, L.l, N, a, _, _, rfl, me6, hpos, by omega, gb.1, by omega, by omega, by omega, by omega, fun N1 H7 hN1 e1 e2 me7 k7 => ?_⟩
      have kk7 : Keep [L.l] H6 H7 := fun b o e n => k7 b o e (by simpa using n)
      obtain ⟨cg, sl'⟩ := sl.turn F.dj F.mem up hkS hfl ha hN1 e1 e2
      have hwd7 : H7 wd = some (.dK (kI (whV wh))) := kk7 _ _ hwd6 (not1 nwl)
      have dg7 : DGet H7 wd (.int a) (some (.int (topOf cs 0 (S2.take i)))) := dgetI (.inl hwd7) (by rw [whV_look, hg]; rfl)
      refine ⟨_, rfl, _, rfl, _, rfl, wd, _, rfl, dg7, L.m, L.l, N1, _, 2, _, rfl, me7, cg, by omega, by omega, ?_⟩
      have hwd8 : ∀ X : HO, (upd H7 L.l X) wd = some (.dK (kI (whV wh))) := fun X => by rw [upd_ne nwl]; exact hwd7
      refine ⟨_, rfl, _, rfl, wd, _, rfl, dgetI (.inl (hwd8 _)) (by rw [whV_look, hg]; rfl), _, rfl, _, _, rfl, rfl, ?_⟩
      rw [show 8 * (((csGet cs a).map (turnW wh)).length : Int) + 2 * 2 = 8 * (((csGet cs a).map (turnW wh)).length : Int) + 4 by omega]
      refine ⟨mset N1 (topOf cs 0 (S2.take i)) (8 * (((csGet cs a).map (turnW wh)).length : Int) + 4), some (.int a), some (.int ((((csGet cs a).map (turnW wh)).length : Int) + 1)), ?_, mset_len.trans (hN1.trans hN), sl', me7.upd mset_len, keep_upd (k6.trans kk7) (by simp)⟩
      rw [take_succ' ha, topOf_snoc, hfl]
      show [_, _, _, _, _, _, some (V.int (topOf cs 0 (S2.take i) + (((csGet cs a).length : Int) + 1))), _] = _
      rw [show topOf cs 0 (S2.take i) + (((csGet cs a).length : Int) + 1) = topOf cs 0 (S2.take i) + 1 + (csGet cs a).length by omega]
    rintro σ H6 ⟨N, v, v2, rfl, hN, sl, me6, k6⟩
    rw [List.length_map, List.take_length]
    rw [List.length_map] at sl
    obtain ⟨ti, co⟩ := tiled_of hwh.symm (rising_nodup up) fun j a h => sl.done j a (lt_of_get h) h
    have k16 : Keep [L.l, L.hl, L.wl, L.ll, L.sl] H H6 := ((k15.same s56)).trans (k6.mono (by simp))
    have nl6 : ∀ {c : Addr} {o : HO}, H c = some o → (∀ xs, o ≠ .lst xs) → H6 c = some o := fun e n => k16 _ _ e (by
      simp only [List.mem_cons, List.not_mem_nil, or_false, not_or]
      exact ⟨ne_of e p.me.w (n _), ne_of e p.ha.w (n _), ne_of e p.we.l (n _), ne_of e hllw (n _), ne_of e p.la.s (n _)⟩)
    have k56 : Keep [L.l] H5 H6 := fun c o e n => k6 _ _ (s56 _ _ e) n
    have hao6 := nl6 hao (fun x => by first | exact ins_nl | exact tup_nl)
    have hol6 := nl6 holo (fun x => ins_nl)
    have hyo6 := nl6 hyo (fun x => ins_nl)
    have hso6 := nl6 hso (fun x => ins_nl)
    have hro6 := nl6 hro (fun x => by first | exact ins_nl | exact tup_nl)
    have nao : L.a ≠ L.o := ne_of hao holo (ins_ne1 (by decide +kernel))
    have nay : L.a ≠ L.y := ne_of hao hyo (ins_ne1 (by decide +kernel))
    have nas : L.a ≠ L.s := ne_of hao hso (ins_ne1 (by decide +kernel))
    obtain ⟨sd1, sd2, sd3⟩ := p.sd
    obtain ⟨bd, kvs, bo⟩ := p.bo
    obtain ⟨dxb, hbo⟩ := bo.o
    have nbo : L.b ≠ L.o := ne_of hbo holo (ins_ne1 (by decide +kernel))
    have nby : L.b ≠ L.y := ne_of hbo hyo (ins_ne1 (by decide +kernel))
    have nbs : L.b ≠ L.s := ne_of hbo hso (ins_ne1 (by decide +kernel))
    have nab : L.a ≠ L.b := ne_of hao hbo (ins_ne1 (by decide +kernel))
    have nrb : L.r ≠ L.b := ne_of hro hbo (ins_ne1 (by decide +kernel))
    -- old.cut(top)
    refine ⟨_, rfl, rd_Areas_old T hao6 (me_Space_cut hol6 ⟨_, rfl, L.o, dxo, 0, z.oe, z.ot, topOf cs 0 S2, rfl, hol6, topOf_le (t := 0), topb, ?_⟩)⟩
    have hao7 : (upd H6 L.o (spO K dxo 0 z.oe (topOf cs 0 S2))) L.a = _ := (upd_ne nao).trans hao6
    have hyo7 : (upd H6 L.o (spO K dxo 0 z.oe (topOf cs 0 S2))) L.y = _ := (upd_ne sd1.symm).trans hyo6
    have hso7 : (upd H6 L.o (spO K dxo 0 z.oe (topOf cs 0 S2))) L.s = _ := (upd_ne sd2.symm).trans hso6
    -- young.empty()
    refine ⟨_, rfl, rd_Areas_young T hao7 (me_Space_empty hyo7 ⟨L.y, dxy, z.yb, z.ye, z.yt, rfl, hyo7, ?_⟩)⟩
    have hao8 : (upd (upd H6 L.o (spO K dxo 0 z.oe (topOf cs 0 S2))) L.y (spO K dxy z.yb z.ye z.yb)) L.a = _ := (upd_ne nay).trans hao7
    have hso8 : (upd (upd H6 L.o (spO K dxo 0 z.oe (topOf cs 0 S2))) L.y (spO K dxy z.yb z.ye z.yb)) L.s = _ := (upd_ne sd3.symm).trans hso7
    -- spare.empty()
    refine ⟨_, rfl, rd_Areas_spare T hao8 (me_Space_empty hso8 ⟨L.s, dxs, z.sb, z.se, z.st, rfl, hso8, ?_⟩)⟩
    have k69 : Keep [L.o, L.y, L.s] H6 (upd (upd (upd H6 L.o (spO K dxo 0 z.oe (topOf cs 0 S2))) L.y (spO K dxy z.yb z.ye z.yb)) L.s (spO K dxs z.sb z.se z.sb)) := keep_upd (keep_upd (keep_upd (Keep.refl H6) (by simp)) (by simp)) (by simp)
    have hol9 : (upd (upd (upd H6 L.o (spO K dxo 0 z.oe (topOf cs 0 S2))) L.y (spO K dxy z.yb z.ye z.yb)) L.s (spO K dxs z.sb z.se z.sb)) L.o = some (spO K dxo 0 z.oe (topOf cs 0 S2)) := by rw [upd_ne sd2, upd_ne sd1, upd_same]
    have hyo9 : (upd (upd (upd H6 L.o (spO K dxo 0 z.oe (topOf cs 0 S2))) L.y (spO K dxy z.yb z.ye z.yb)) L.s (spO K dxs z.sb z.se z.sb)) L.y = some (spO K dxy z.yb z.ye z.yb) := by rw [upd_ne sd3, upd_same]
    have hso9 : (upd (upd (upd H6 L.o (spO K dxo 0 z.oe (topOf cs 0 S2))) L.y (spO K dxy z.yb z.ye z.yb)) L.s (spO K dxs z.sb z.se z.sb)) L.s = some (spO K dxs z.sb z.se z.sb) := upd_same
    obtain ⟨H9, e9⟩ : ∃ X, X = (upd (upd (upd H6 L.o (spO K dxo 0 z.oe (topOf cs 0 S2))) L.y (spO K dxy z.yb z.ye z.yb)) L.s (spO K dxs z.sb z.se z.sb)) := ⟨_, rfl⟩
    rw [← e9] at k69 hol9 hyo9 hso9
    have k9 : ∀ {c : Addr} {o : HO}, H6 c = some o → (∀ C dx x y q, o ≠ .ins C dx [("begin", x), ("end", y), ("top", q)]) → H9 c = some o := fun e n => k69 _ _ e (by
      simp only [List.mem_cons, List.not_mem_nil, or_false, not_or]
      exact ⟨ne_of e hol6 (n _ _ _ _ _), ne_of e hyo6 (n _ _ _ _ _), ne_of e hso6 (n _ _ _ _ _)⟩)
    have hao9 : H9 L.a = _ := k9 hao6 fun _ _ _ _ _ => ins_ne1 (by decide +kernel)
    have hro9 : H9 L.r = _ := k9 hro6 fun _ _ _ _ _ => ins_ne1 (by decide +kernel)
    have hbo9 : H9 L.b = _ := k9 (nl6 hbo fun x => ins_nl) fun _ _ _ _ _ => ins_ne1 (by decide +kernel)
    have bo9 : BookO K H9 L.b bd kvs := ⟨⟨dxb, hbo9⟩, k9 (nl6 bo.d fun x => dk_nl) fun _ _ _ _ _ => dk_ins, bo.k⟩
    -- book.clear()
    rw [e9] at hao9 hro9 hbo9 bo9 hol9 hyo9 hso9 k69
    refine ⟨_, rfl, rd_Roots_book T hro9 (me_Book_clear hbo9 ⟨L.b, bd, kvs, rfl, bo9, fun bd' H10 nbd bo10 k910 => ?_⟩)⟩
    have k910 : ∀ c o, H9 c = some o → c ≠ L.b → H10 c = some o := by rw [e9]; exact k910
    have nbd9 : H9 bd' = none := by rw [e9]; exact nbd
    rw [← e9] at hao9 hro9 hbo9 bo9 hol9 hyo9 hso9 k69
    have k10 : ∀ {c : Addr} {o : HO}, H9 c = some o → (∀ C dx x, o ≠ .ins C dx [("marks", x)]) → H10 c = some o := fun e n => k910 _ _ e (ne_of e hbo9 (n _ _ _))
    have hao10 : H10 L.a = _ := k10 hao9 fun _ _ _ => ins_ne1 (by decide +kernel)
    have hol10 : H10 L.o = _ := k10 hol9 fun _ _ _ => ins_ne1 (by decide +kernel)
    refine ⟨_, rfl, rd_Areas_old T hao10 (me_Space_used hol10 ⟨L.o, dxo, 0, z.oe, topOf cs 0 S2, rfl, hol10, ?_⟩)⟩
    rw [show topOf cs 0 S2 - 0 = topOf cs 0 S2 by omega]
    have kL : ∀ {c : Addr} {xs : List V}, H6 c = some (.lst xs) → H10 c = some (.lst xs) := fun e => k10 (k9 e fun _ _ _ _ _ => lst_ins) fun _ _ _ => lst_ins
    have kT : ∀ {c : Addr} {xs : List V}, H6 c = some (.tup xs) → H10 c = some (.tup xs) := fun e => k10 (k9 e fun _ _ _ _ _ => tup_ins) fun _ _ _ => tup_ins
    obtain ⟨dxm6, hmo6⟩ := me6.o
    obtain ⟨dxh5, hho5⟩ := ha5.o
    obtain ⟨dxw5, hwo5⟩ := we5.o
    obtain ⟨dxl5, hlo5⟩ := la5.o
    obtain ⟨vs5, hll5, hwr5⟩ := la5.w
    have n56 : ∀ {c : Addr} {o : HO}, H5 c = some o → (∀ xs, o ≠ .lst xs) → H6 c = some o := fun e n => k56 _ _ e (not1 (ne_of e me5.w (n _)))
    subst hwh
    refine q S2 N H10 kp hN ti co ⟨⟨dxa, hao10⟩, ⟨⟨dxm6, k10 (k9 hmo6 fun _ _ _ _ _ => ins_ne1 (by decide +kernel)) fun _ _ _ => ins_ne1 (by decide +kernel)⟩, kL me6.w⟩, ⟨dxo, hol10⟩, ⟨dxy, k10 hyo9 fun _ _ _ => ins_ne1 (by decide +kernel)⟩, ⟨dxs, k10 hso9 fun _ _ _ => ins_ne1 (by decide +kernel)⟩, ⟨dxr, k10 hro9 fun _ _ _ => ins_ne1 (by decide +kernel)⟩,
      ⟨⟨dxh5, k10 (k9 (n56 hho5 fun x => ins_nl) fun _ _ _ _ _ => ins_ne1 (by decide +kernel)) fun _ _ _ => ins_ne1 (by decide +kernel)⟩, kL (k56 _ _ ha5.w (not1 d1.symm))⟩, ⟨bd', [], bo10⟩,
      ⟨⟨dxw5, k10 (k9 (n56 hwo5 fun x => ins_nl) fun _ _ _ _ _ => ins_ne1 (by decide +kernel)) fun _ _ _ => ins_ne1 (by decide +kernel)⟩, kL (k56 _ _ we5.l (not1 d2.symm))⟩,
      ⟨⟨dxl5, k10 (k9 (n56 hlo5 fun x => ins_nl) fun _ _ _ _ _ => ins_ne1 (by decide +kernel)) fun _ _ _ => ins_ne1 (by decide +kernel)⟩, ⟨vs5, kL (k56 _ _ hll5 (not1 d3.symm)), hwr5.keep fun t ys e => kT (n56 e fun x => tup_nl)⟩, kL (k56 _ _ la5.s (not1 d4.symm)), la5.ne⟩, p.nd, p.sd⟩ ⟨bd', bo10, fun d kv e => ne_of_none (k9 (nl6 e fun x => dk_nl) fun _ _ _ _ _ => dk_ins) nbd9⟩ ?_
    intro c o e n
    unfold PL.all at n
    simp only [List.mem_cons, List.not_mem_nil, or_false, not_or] at n
    obtain ⟨n1, n2, n3, n4, n5, n6, n7, n8, n9⟩ := n
    exact k910 _ _ (k69 _ _ (k16 _ _ e (by simp only [List.mem_cons, List.not_mem_nil, or_false, not_or]; exact ⟨n1, n5, n7, n8, n9⟩)) (by simp only [List.mem_cons, List.not_mem_nil, or_false, not_or]; exact ⟨n2, n3, n4⟩)) n6
end Km
set_option Elab.async false
set_option linter.all false
set_option maxRecDepth 100000
set_option maxHeartbeats 4000000
/-! what is made, what is laid -/
namespace Km
open PySem PySem.Spec PyProof.Rows L2
theorem made_same {H : Hp} {x dx C : Addr} (nx : H x = none) (nd : H dx = none) : Same H (upd (upd H dx (.own x)) x (.ins C dx [])) := fun b o e => by
  rw [upd_ne (ne_of_none e nx), upd_ne (ne_of_none e nd)]
  exact e
def sp_Memory_init (K : PySem.W.Frag) : Sp := fun vs H Q _ => ∃ (p dx : Addr) (n : Nat), vs = [.ref p, .int (n : Int)] ∧ H p = some (.ins (He.ga K "Memory") dx []) ∧ 1 ≤ n ∧ n ≤ 4000 ∧
  ∀ (l : Addr) (H' : Hp), H l = none → MemO K H' p l (List.replicate n (-1)) → Keep [p] H H' → Q .non H'
theorem ok_Memory_init {P : Program} {w : World} {K : PySem.W.Frag} {mg : Str → Option Value} {base : Heap} (T : Tx K mg) : FX P w K mg base 2 (He.ma K (He.ga K "Memory") "__init__") ["self", "size"] (sp_Memory_init K) := by
  refine fx_of T.f_Memory_init sc_Memory_init (fun _ _ _ _ _ _ us hl => match us, hl with | [_, _], _ => rfl) (fun vs H Q E h => ?_) (fun cdv A outer s H vs Q E hr h => ?_)
  · obtain ⟨_, _, _, rfl, _⟩ := h
    rfl
  · obtain ⟨p, dx, n, rfl, hp, n1, n2, q⟩ := h
    refine ⟨_, (pss_cons (ps_if (PW.pt (pw_or (pt_not (pt_val (pe_callF (ok_is_whole (K := K) T) (hr.mono (by decide)) (by rfl) T.g_is_whole (pa_cons (pv 1) pa_nil)))) (pw_or1 (pt_not (pt_chain op_le op_le pe_int (pv 1) (gi_MOST_SIZE T rfl)))))) (pss_one ps_never) pss_nil)
      (pss_cons (ps_fld (pv 0) (pv 1) rfl)
      (pss_one (ps_fld (pv 0) (pe_lc (own := [("at", 2)]) rfl sc_Memory_init.nd (pi_range1 (by rfl) T.n_range (pa_cons (pv 1) pa_nil)) (blkOk_by (N := N_Memory_init) (sc := defScope s_Memory_init) (by decide +kernel)) (fun _ _ _ _ _ => (pg_name (i := 2) sc_Memory_init.nd rfl (Or.inl rfl) (Or.inr rfl))) (fun _ _ _ _ _ => pts_nil) (fun _ _ _ _ _ => (gi_NOTHING T rfl))) rfl)))), ?_⟩
    refine ⟨_, rfl, (n : Int), rfl, true, rfl, iteF ?_⟩
    refine ⟨_, rfl, _, _, rfl, rfl, _, rfl, ifY (by omega) ⟨_, _, rfl, rfl, _, rfl, ifNN' (by omega) ?_⟩⟩
    refine ⟨_, rfl, _, rfl, ini_Memory_size (K := K) T hp ?_⟩
    rw [in_Memory_size]
    refine ⟨_, rfl, (n : Int), rfl, by omega, by omega, fun D nD => ?_⟩
    have np : p ≠ D := ne_of_none upd_same nD
    have nD0 : H D = none := by rw [upd_ne np.symm] at nD; exact nD
    generalize hH2 : upd H p (HO.ins (He.ga K "Memory") dx [("size", V.int (n : Int))]) = H2 at nD
    have hp2 : H2 p = some (HO.ins (He.ga K "Memory") dx [("size", V.int (n : Int))]) := by rw [← hH2, upd_same]
    have k2 : Keep [p] H H2 := by rw [← hH2]; exact keep_upd (Keep.refl H) (by simp)
    have e2 : (upd H p (HO.ins (He.ga K "Memory") dx [("size", V.int (n : Int))])) = H2 := hH2
    refine lc_range (lo := 0) (n := (n : Int).toNat) (fun k H1 => H1 = upd H2 D (.lst ((List.replicate k (-1 : Int)).map V.int))) (by rw [← e2]; rfl) ?_ ?_
    · rintro k H1 hk rfl
      refine ⟨rfl, tyes (iteT ?_)⟩
      refine ⟨_, upd_same, Nat.lt_of_lt_of_le (show _ < 5000 by rw [List.length_map, List.length_replicate]; omega) (by decide), ?_⟩
      rw [upd_upd, ← rep_snoc, List.map_append]
      rfl
    · rintro H1 rfl
      have hp3 : (upd H2 D (.lst ((List.replicate (n : Int).toNat (-1 : Int)).map V.int))) p = some (HO.ins (He.ga K "Memory") dx [("size", V.int (n : Int))]) := by rw [upd_ne np]; exact hp2
      refine ⟨_, rfl, ini_Memory_words (K := K) T hp3 ?_⟩
      rw [in_Memory_words]
      refine q D _ nD0 ⟨⟨dx, ?_⟩, by rw [upd_ne np.symm, upd_same]; rfl⟩ (keep_upd (k2.same (same_new nD)) (by simp))
      rw [upd_same, List.length_replicate]
      rfl
structure AAt (K : PySem.W.Frag) (H : Hp) (L : PL) (z : PV) : Prop where
  ar : AreaO K H L.a L.m L.o L.y L.s
  me : MemO K H L.m L.l z.M
  old : ∃ dx, H L.o = some (spO K dx 0 z.oe z.ot)
  yo : ∃ dx, H L.y = some (spO K dx z.yb z.ye z.yt)
  sp : ∃ dx, H L.s = some (spO K dx z.sb z.se z.st)
  sd : L.o ≠ L.y ∧ L.o ≠ L.s ∧ L.y ≠ L.s
theorem PAt.aat {K : PySem.W.Frag} {H : Hp} {L : PL} {z : PV} (p : PAt K H L z) : AAt K H L z := ⟨p.ar, p.me, p.old, p.yo, p.sp, p.sd⟩
def PL.areas (a m l o y s : Addr) : PL := ⟨a, m, l, o, y, s, 0, 0, 0, 0, 0, 0, 0, 0, 0⟩
def PV.fresh (r0 r1 : Nat) : PV := { M := List.replicate (r0 + 2 * r1) (-1), oe := r0, ot := 0, yb := r0, ye := r0 + r1, yt := r0, sb := r0 + r1, se := r0 + 2 * r1, st := r0 + r1, hs := [], told := [], W := [], S := [] }
def sp_Areas_init (K : PySem.W.Frag) : Sp := fun vs H Q _ => ∃ (p dx : Addr) (r0 r1 : Nat), vs = [.ref p, .int (r0 : Int), .int (r1 : Int)] ∧ H p = some (.ins (He.ga K "Areas") dx []) ∧ 4 ≤ r0 ∧ r0 ≤ 1000 ∧ 2 ≤ r1 ∧ r1 ≤ 500 ∧
  ∀ (m l o y s : Addr) (H' : Hp), AAt K H' (PL.areas p m l o y s) (PV.fresh r0 r1) → H m = none → H l = none → H o = none → H y = none → H s = none → Keep [p] H H' → Q .non H'
theorem ok_Areas_init {P : Program} {w : World} {K : PySem.W.Frag} {mg : Str → Option Value} {base : Heap} (T : Tx K mg) : FX P w K mg base 4 (He.ma K (He.ga K "Areas") "__init__") ["self", "old_words", "young_words"] (sp_Areas_init K) := by
  refine fx_of T.f_Areas_init sc_Areas_init (fun _ _ _ _ _ _ us hl => match us, hl with | [_, _, _], _ => rfl) (fun vs H Q E h => ?_) (fun cdv A outer s H vs Q E hr h => ?_)
  · obtain ⟨_, _, _, _, rfl, _⟩ := h
    rfl
  · obtain ⟨p, dx, r0, r1, rfl, hp, a0, a1, b0, b1, q⟩ := h
    refine ⟨_, (pss_cons (ps_if (PW.pt (pw_or (pt_not (pt_val (pe_callF (ok_is_whole (K := K) T) (hr.mono (by decide)) (by rfl) T.g_is_whole (pa_cons (pv 1) pa_nil)))) (pw_or1 (pt_not (pt_chain op_le op_le (gi_LEAST_OLD T rfl) (pv 1) (gi_MOST_OLD T rfl)))))) (pss_one ps_never) pss_nil)
      (pss_cons (ps_if (PW.pt (pw_or (pt_not (pt_val (pe_callF (ok_is_whole (K := K) T) (hr.mono (by decide)) (by rfl) T.g_is_whole (pa_cons (pv 2) pa_nil)))) (pw_or1 (pt_not (pt_chain op_le op_le (gi_LEAST_YOUNG T rfl) (pv 2) (gi_MOST_YOUNG T rfl)))))) (pss_one ps_never) pss_nil)
      (pss_cons (ps_fld (pv 0) (pe_makeF T.mk_Memory (ok_Memory_init (K := K) T) (hr.mono (by decide)) (by rfl) T.g_Memory (pa_cons (pe_op op_add (pv 1) (pe_op op_mul pe_int (pv 2))) pa_nil)) rfl)
      (pss_cons (ps_fld (pv 0) (pe_makeF T.mk_Space (ok_Space_init (K := K) T) (hr.mono (by decide)) (by rfl) T.g_Space (pa_cons pe_int (pa_cons (pv 1) pa_nil))) rfl)
      (pss_cons (ps_fld (pv 0) (pe_makeF T.mk_Space (ok_Space_init (K := K) T) (hr.mono (by decide)) (by rfl) T.g_Space (pa_cons (pv 1) (pa_cons (pe_op op_add (pv 1) (pv 2)) pa_nil))) rfl)
      (pss_one (ps_fld (pv 0) (pe_makeF T.mk_Space (ok_Space_init (K := K) T) (hr.mono (by decide)) (by rfl) T.g_Space (pa_cons (pe_op op_add (pv 1) (pv 2)) (pa_cons (pe_op op_add (pv 1) (pe_op op_mul pe_int (pv 2))) pa_nil))) rfl))))))), ?_⟩
    refine ⟨_, rfl, (r0 : Int), rfl, true, rfl, iteF ?_⟩
    refine ⟨_, rfl, _, _, rfl, rfl, _, rfl, ifY (by omega) ⟨_, _, rfl, rfl, _, rfl, ifNN' (by omega) ?_⟩⟩
    refine ⟨_, rfl, (r1 : Int), rfl, true, rfl, iteF ?_⟩
    refine ⟨_, rfl, _, _, rfl, rfl, _, rfl, ifY (by omega) ⟨_, _, rfl, rfl, _, rfl, ifNN' (by omega) ?_⟩⟩
    -- the memory
    refine ⟨_, rfl, _, rfl, _, _, rfl, rfl, .inl ⟨by decide, by decide⟩, _, _, rfl, rfl, ?_⟩
    intro m dm nm ndm _
    have s1 := made_same (C := He.ga K "Memory") nm ndm
    refine ⟨m, dm, r0 + 2 * r1, congrArg (fun z => [V.ref m, V.int z]) (show ((r0 : Int) + 2 * (r1 : Int)) = ((r0 + 2 * r1 : Nat) : Int) by omega), upd_same, by omega, by omega, fun l H1 nl1 me1 k1 => ⟨rfl, ?_⟩⟩
    have nl : H l = none := s1.free nl1
    have s2 : Same H H1 := fun b o e => k1 _ _ (s1 _ _ e) (not1 (ne_of_none e nm))
    refine ⟨_, rfl, ini_Areas_memory (K := K) T (s2 _ _ hp) ?_⟩
    rw [in_Areas_memory]
    have npm : m ≠ p := (ne_of_none hp nm).symm
    have npl : l ≠ p := (ne_of_none hp nl).symm
    generalize hH2 : upd H1 p (HO.ins (He.ga K "Areas") dx [("memory", V.ref m)]) = H2
    have hp2 : H2 p = some (HO.ins (He.ga K "Areas") dx [("memory", V.ref m)]) := by rw [← hH2, upd_same]
    have k2 : Keep [p] H H2 := by rw [← hH2]; exact keep_upd ((Keep.refl H).same s2) (by simp)
    have k12 : Keep [p] H1 H2 := by rw [← hH2]; exact keep_upd (Keep.refl H1) (by simp)
    -- old
    refine ⟨_, rfl, ?_⟩
    intro o d0 no nd0 _
    refine ⟨o, d0, 0, (r0 : Int), rfl, upd_same, rfl, ?_⟩
    rw [upd_upd]
    have s3 : Same H2 (upd (upd H2 d0 (.own o)) o (spO K d0 0 (r0 : Int) 0)) := fun b x e => by rw [upd_ne (ne_of_none e no), upd_ne (ne_of_none e nd0)]; exact e
    refine ⟨_, rfl, ini_Areas_old (K := K) T (s3 _ _ hp2) ?_⟩
    rw [in_Areas_old]
    have nop : o ≠ p := (ne_of_none hp2 no).symm
    have no0 : H o = none := k2.free no (not1 nop)
    have k23 : Keep [p] H2 (upd (upd (upd H2 d0 (.own o)) o (spO K d0 0 (r0 : Int) 0)) p (.ins (He.ga K "Areas") dx [("memory", V.ref m), ("old", V.ref o)])) := keep_upd ((Keep.refl H2).same s3) (by simp)
    have ho3 : (upd (upd (upd H2 d0 (.own o)) o (spO K d0 0 (r0 : Int) 0)) p (.ins (He.ga K "Areas") dx [("memory", V.ref m), ("old", V.ref o)])) o = some (spO K d0 0 (r0 : Int) 0) := by rw [upd_ne nop, upd_same]
    have hp3 : (upd (upd (upd H2 d0 (.own o)) o (spO K d0 0 (r0 : Int) 0)) p (.ins (He.ga K "Areas") dx [("memory", V.ref m), ("old", V.ref o)])) p = some (.ins (He.ga K "Areas") dx [("memory", V.ref m), ("old", V.ref o)]) := upd_same
    generalize hH3 : (upd (upd (upd H2 d0 (.own o)) o (spO K d0 0 (r0 : Int) 0)) p (.ins (He.ga K "Areas") dx [("memory", V.ref m), ("old", V.ref o)])) = H3 at k23 ho3 hp3
    -- young
    refine ⟨_, rfl, _, rfl, _, rfl, _, _, rfl, rfl, ?_⟩
    intro y d1 ny nd1 _
    refine ⟨y, d1, (r0 : Int), (r0 : Int) + (r1 : Int), rfl, upd_same, rfl, ?_⟩
    rw [upd_upd]
    have s4 : Same H3 (upd (upd H3 d1 (.own y)) y (spO K d1 (r0 : Int) ((r0 : Int) + (r1 : Int)) (r0 : Int))) := fun b x e => by rw [upd_ne (ne_of_none e ny), upd_ne (ne_of_none e nd1)]; exact e
    refine ⟨_, rfl, ini_Areas_young (K := K) T (s4 _ _ hp3) ?_⟩
    rw [in_Areas_young]
    have nyp : y ≠ p := (ne_of_none hp3 ny).symm
    have noy : o ≠ y := ne_of_none ho3 ny
    have ny0 : H y = none := (k2.trans k23).free ny (not1 nyp)
    have k34 : Keep [p] H3 (upd (upd (upd H3 d1 (.own y)) y (spO K d1 (r0 : Int) ((r0 : Int) + (r1 : Int)) (r0 : Int))) p (.ins (He.ga K "Areas") dx [("memory", V.ref m), ("old", V.ref o), ("young", V.ref y)])) := keep_upd ((Keep.refl H3).same s4) (by simp)
    have hy4 : (upd (upd (upd H3 d1 (.own y)) y (spO K d1 (r0 : Int) ((r0 : Int) + (r1 : Int)) (r0 : Int))) p (.ins (He.ga K "Areas") dx [("memory", V.ref m), ("old", V.ref o), ("young", V.ref y)])) y = some (spO K d1 (r0 : Int) ((r0 : Int) + (r1 : Int)) (r0 : Int)) := by rw [upd_ne nyp, upd_same]
    have hp4 : (upd (upd (upd H3 d1 (.own y)) y (spO K d1 (r0 : Int) ((r0 : Int) + (r1 : Int)) (r0 : Int))) p (.ins (He.ga K "Areas") dx [("memory", V.ref m), ("old", V.ref o), ("young", V.ref y)])) p = some (.ins (He.ga K "Areas") dx [("memory", V.ref m), ("old", V.ref o), ("young", V.ref y)]) := upd_same
    generalize hH4 : (upd (upd (upd H3 d1 (.own y)) y (spO K d1 (r0 : Int) ((r0 : Int) + (r1 : Int)) (r0 : Int))) p (.ins (He.ga K "Areas") dx [("memory", V.ref m), ("old", V.ref o), ("young", V.ref y)])) = H4 at k34 hy4 hp4
    -- spare
    refine ⟨_, rfl, _, rfl, _, _, rfl, rfl, _, rfl, _, rfl, _, _, rfl, rfl, .inl ⟨by decide, by decide⟩, _, _, rfl, rfl, ?_⟩
    intro t d2 nt nd2 _
    refine ⟨t, d2, (r0 : Int) + (r1 : Int), (r0 : Int) + 2 * (r1 : Int), rfl, upd_same, rfl, ?_⟩
    rw [upd_upd]
    have s5 : Same H4 (upd (upd H4 d2 (.own t)) t (spO K d2 ((r0 : Int) + (r1 : Int)) ((r0 : Int) + 2 * (r1 : Int)) ((r0 : Int) + (r1 : Int)))) := fun b x e => by rw [upd_ne (ne_of_none e nt), upd_ne (ne_of_none e nd2)]; exact e
    refine ⟨_, rfl, ini_Areas_spare (K := K) T (s5 _ _ hp4) ?_⟩
    rw [in_Areas_spare]
    have ntp : t ≠ p := (ne_of_none hp4 nt).symm
    have nyt : y ≠ t := ne_of_none hy4 nt
    have ho4 : H4 o = some (spO K d0 0 (r0 : Int) 0) := k34 _ _ ho3 (not1 nop)
    have not_ : o ≠ t := ne_of_none ho4 nt
    have nt0 : H t = none := ((k2.trans k23).trans k34).free nt (not1 ntp)
    have k45 : Keep [p] H4 (upd (upd (upd H4 d2 (.own t)) t (spO K d2 ((r0 : Int) + (r1 : Int)) ((r0 : Int) + 2 * (r1 : Int)) ((r0 : Int) + (r1 : Int)))) p (.ins (He.ga K "Areas") dx [("memory", V.ref m), ("old", V.ref o), ("young", V.ref y), ("spare", V.ref t)])) := keep_upd ((Keep.refl H4).same s5) (by simp)
    obtain ⟨dxm, hm1⟩ := me1.o
    have k15 := ((k12.trans k23).trans k34).trans k45
    refine q m l o y t _ ⟨⟨dx, upd_same⟩, ⟨⟨dxm, k15 _ _ hm1 (not1 npm)⟩, k15 _ _ me1.w (not1 npl)⟩, ⟨d0, k45 _ _ ho4 (not1 nop)⟩, ⟨d1, k45 _ _ hy4 (not1 nyp)⟩, ⟨d2, ?_⟩, ⟨noy, not_, nyt⟩⟩ nm nl no0 ny0 nt0 (((k2.trans k23).trans k34).trans k45)
    show (upd (upd (upd H4 d2 (.own t)) t _) p _) t = _
    rw [upd_ne ntp, upd_same]
    rfl
def PL.flip (L : PL) : PL := { L with y := L.s, s := L.y }
def PV.flip (z : PV) : PV := { z with yb := z.sb, ye := z.se, yt := z.st, sb := z.yb, se := z.ye, st := z.yt }
def sp_Areas_flip (K : PySem.W.Frag) : Sp := fun vs H Q _ => ∃ (L : PL) (z : PV), vs = [.ref L.a] ∧ AAt K H L z ∧ ∀ H', AAt K H' L.flip z.flip → Keep [L.a] H H' → Q .non H'
theorem ok_Areas_flip {P : Program} {w : World} {K : PySem.W.Frag} {mg : Str → Option Value} {base : Heap} (T : Tx K mg) : FX P w K mg base 1 (He.ma K (He.ga K "Areas") "flip") ["self"] (sp_Areas_flip K) := by
  refine fx_of T.f_Areas_flip sc_Areas_flip (fun _ _ _ _ _ _ us hl => match us, hl with | [_], _ => rfl) (fun vs H Q E h => ?_) (fun cdv A outer s H vs Q E hr h => ?_)
  · obtain ⟨_, _, rfl, _⟩ := h
    rfl
  · obtain ⟨L, z, rfl, A, q⟩ := h
    obtain ⟨dxa, hao⟩ := A.ar
    obtain ⟨dxo, holo⟩ := A.old
    obtain ⟨dxy, hyo⟩ := A.yo
    obtain ⟨dxs, hso⟩ := A.sp
    obtain ⟨dxm, hmo⟩ := A.me.o
    refine ⟨_, (pss_cons (ps_set (i := 1) sc_Areas_flip.nd rfl (Or.inl rfl) (pe_fld (pv 0) rfl))
      (pss_cons (ps_fld (pv 0) (pe_fld (pv 0) rfl) rfl)
      (pss_one (ps_fld (pv 0) (pv 1) rfl)))), ?_⟩
    refine ⟨_, rfl, rd_Areas_young T hao ?_⟩
    refine ⟨_, rfl, rd_Areas_spare T hao ⟨_, rfl, st_Areas_young (K := K) T hao ?_⟩⟩
    rw [pf_Areas_young]
    refine ⟨_, rfl, _, rfl, st_Areas_spare (K := K) T upd_same ?_⟩
    rw [pf_Areas_spare, upd_upd]
    have k : Keep [L.a] H (upd H L.a (.ins (He.ga K "Areas") dxa (fl_Areas (.ref L.m) (.ref L.o) (.ref L.s) (.ref L.y)))) := keep_upd (Keep.refl H) (by simp)
    obtain ⟨s1, s2, s3⟩ := A.sd
    exact q _ ⟨⟨dxa, upd_same⟩, ⟨⟨dxm, k _ _ hmo (not1 (ne_of hmo hao (ins_ne1 (by decide +kernel))))⟩, k _ _ A.me.w (not1 (ne_of A.me.w hao lst_ins))⟩, ⟨dxo, k _ _ holo (not1 (ne_of holo hao (ins_ne1 (by decide +kernel))))⟩, ⟨dxs, k _ _ hso (not1 (ne_of hso hao (ins_ne1 (by decide +kernel))))⟩, ⟨dxy, k _ _ hyo (not1 (ne_of hyo hao (ins_ne1 (by decide +kernel))))⟩, ⟨s2, s1, s3.symm⟩⟩ k
def areaV (z : PV) (a : Int) : V := if 0 ≤ a ∧ a < z.ot then .str "old" else if z.yb ≤ a ∧ a < z.yt then .str "young" else .non
def sp_Areas_area_of (K : PySem.W.Frag) : Sp := fun vs H Q _ => ∃ (L : PL) (z : PV) (a : Int), vs = [.ref L.a, .int a] ∧ AAt K H L z ∧ Q (areaV z a) H
theorem ok_Areas_area_of {P : Program} {w : World} {K : PySem.W.Frag} {mg : Str → Option Value} {base : Heap} (T : Tx K mg) : FX P w K mg base 2 (He.ma K (He.ga K "Areas") "area_of") ["self", "at"] (sp_Areas_area_of K) := by
  refine fx_of T.f_Areas_area_of sc_Areas_area_of (fun _ _ _ _ _ _ us hl => match us, hl with | [_, _], _ => rfl) (fun vs H Q E h => ?_) (fun cdv A outer s H vs Q E hr h => ?_)
  · obtain ⟨_, _, _, rfl, _⟩ := h
    rfl
  · obtain ⟨L, z, a, rfl, A, q⟩ := h
    obtain ⟨dxa, hao⟩ := A.ar
    obtain ⟨dxo, holo⟩ := A.old
    obtain ⟨dxy, hyo⟩ := A.yo
    refine ⟨_, (pss_cons (ps_if (pt_val (pe_methF (pe_fld (pv 0) rfl) T.cl_Space T.m_Space_has (ok_Space_has (K := K) T) (hr.mono (by decide)) (pa_cons (pv 1) pa_nil))) (pss_one (ps_ret pe_str)) pss_nil)
      (pss_cons (ps_if (pt_val (pe_methF (pe_fld (pv 0) rfl) T.cl_Space T.m_Space_has (ok_Space_has (K := K) T) (hr.mono (by decide)) (pa_cons (pv 1) pa_nil))) (pss_one (ps_ret pe_str)) pss_nil)
      (pss_one (ps_ret pe_non)))), ?_⟩
    unfold areaV at q
    refine ⟨_, rfl, rd_Areas_old T hao (me_Space_has holo ⟨_, rfl, L.o, dxo, 0, z.oe, z.ot, a, rfl, holo, _, rfl, ifC (fun h => ?_) (fun h => ?_)⟩)⟩
    · rw [if_pos h] at q
      exact q
    · rw [if_neg h] at q
      refine ⟨_, rfl, rd_Areas_young T hao (me_Space_has hyo ⟨_, rfl, L.y, dxy, z.yb, z.ye, z.yt, a, rfl, hyo, _, rfl, ifC (fun h => ?_) (fun h => ?_)⟩)⟩
      · rw [if_pos h] at q
        exact q
      · rw [if_neg h] at q
        exact q
theorem laid_cell {N : List Int} {a : Int} {n : Nat} (h0 : 0 ≤ a) (hf : a + n < N.length) (hn : n ≤ 8) (e1 : mget N a = 8 * n) (e2 : ∀ k : Nat, k < n → mget N (a + 1 + k) = -1) : CellAt N a (List.replicate n (-1)) := by
  refine ⟨h0, by rw [List.length_replicate]; exact hf, by rw [List.length_replicate]; exact hn, ⟨0, by omega, by omega, by rw [List.length_replicate]; omega⟩, fun k w e => ?_⟩
  have hk := lt_of_get e
  rw [List.length_replicate] at hk
  rw [List.getElem?_replicate, if_pos hk] at e
  rw [← Option.some.inj e]
  exact e2 k hk
theorem CellAt.aged {M : List Int} {a g : Int} {ws : List Int} (c : CellAt M a ws) (g0 : 0 ≤ g) (g1 : g ≤ 2) : CellAt (mset M a (8 * ws.length + 2 * g)) a ws := by
  have h0 := c.pos
  have hf := c.fit
  refine ⟨h0, by rw [mset_len]; exact hf, c.len, ⟨g, g0, g1, mget_same h0 (by omega)⟩, fun k w e => ?_⟩
  have hk := lt_of_get e
  rw [mget_ne h0 (by omega) (by omega)]
  exact c.sl k w e
def sp_Areas_lay_young (K : PySem.W.Frag) : Sp := fun vs H Q _ => ∃ (L : PL) (z : PV) (n : Nat) (dx : Addr), vs = [.ref L.a, .int (n : Int)] ∧ AAt K H L z ∧ H L.y = some (spO K dx z.yb z.ye z.yt) ∧ n ≤ 8 ∧ 0 ≤ z.yt ∧ z.yt + n + 1 ≤ z.ye ∧ z.ye ≤ z.M.length ∧
  ∀ N : List Int, N.length = z.M.length → CellAt N z.yt (List.replicate n (-1)) → (∀ i : Int, 0 ≤ i → (i < z.yt ∨ z.yt + n < i) → mget N i = mget z.M i) → Q (.int z.yt) (upd (upd H L.y (spO K dx z.yb z.ye (z.yt + ((n : Int) + 1)))) L.l (.lst (N.map V.int)))
theorem ok_Areas_lay_young {P : Program} {w : World} {K : PySem.W.Frag} {mg : Str → Option Value} {base : Heap} (T : Tx K mg) : FX P w K mg base 5 (He.ma K (He.ga K "Areas") "lay_young") ["self", "slots"] (sp_Areas_lay_young K) := by
  refine fx_of T.f_Areas_lay_young sc_Areas_lay_young (fun _ _ _ _ _ _ us hl => match us, hl with | [_, _], _ => rfl) (fun vs H Q E h => ?_) (fun cdv A outer s H vs Q E hr h => ?_)
  · obtain ⟨_, _, _, _, rfl, _⟩ := h
    rfl
  · obtain ⟨L, z, n, dx, rfl, A, hyo, hn, h0, h1, h2, q⟩ := h
    obtain ⟨dxa, hao⟩ := A.ar
    obtain ⟨dxm, hmo⟩ := A.me.o
    refine ⟨_, (pss_cons (ps_expr (pe_callF (ok_need_slots (K := K) T) (hr.mono (by decide)) (by rfl) T.g_need_slots (pa_cons (pv 1) pa_nil)))
      (pss_cons (ps_set (i := 2) sc_Areas_lay_young.nd rfl (Or.inl rfl) (pe_methF (pe_fld (pv 0) rfl) T.cl_Space T.m_Space_take (ok_Space_take (K := K) T) (hr.mono (by decide)) (pa_cons (pe_op op_add (pv 1) pe_int) pa_nil)))
      (pss_cons (ps_expr (pe_callF (ok_lay (K := K) T) (hr.mono (by decide)) (by rfl) T.g_lay (pa_cons (pe_fld (pv 0) rfl) (pa_cons (pv 2) (pa_cons (pv 1) pa_nil)))))
      (pss_one (ps_ret (pv 2)))))), ?_⟩
    refine ⟨_, rfl, _, rfl, by omega, by omega, ?_⟩
    refine ⟨_, rfl, rd_Areas_young T hao (me_Space_take hyo ⟨_, rfl, _, _, rfl, rfl, L.y, dx, z.yb, z.ye, z.yt, _, rfl, hyo, by omega, by omega, ?_⟩)⟩
    have nay : L.a ≠ L.y := ne_of hao hyo (ins_ne1 (by decide +kernel))
    have hao2 : (upd H L.y (spO K dx z.yb z.ye (z.yt + ((n : Int) + 1)))) L.a = _ := (upd_ne nay).trans hao
    have me2 : MemO K (upd H L.y (spO K dx z.yb z.ye (z.yt + ((n : Int) + 1)))) L.m L.l z.M := ⟨⟨dxm, (upd_ne (ne_of hmo hyo (ins_ne1 (by decide +kernel)))).trans hmo⟩, (upd_ne (ne_of A.me.w hyo lst_ins)).trans A.me.w⟩
    refine ⟨_, rfl, rd_Areas_memory T hao2 ⟨_, rfl, _, rfl, L.m, L.l, z.M, z.yt, n, rfl, me2, hn, h0, by omega, fun N hN e1 e2 e3 => ?_⟩⟩
    exact ⟨_, rfl, q N hN (laid_cell h0 (by omega) hn e1 e2) e3⟩
def sp_Areas_lay_old (K : PySem.W.Frag) : Sp := fun vs H Q _ => ∃ (L : PL) (z : PV) (n : Nat) (dx : Addr), vs = [.ref L.a, .int (n : Int)] ∧ AAt K H L z ∧ H L.o = some (spO K dx 0 z.oe z.ot) ∧ n ≤ 8 ∧ 0 ≤ z.ot ∧ z.ot + n + 1 ≤ z.oe ∧ z.oe ≤ z.M.length ∧
  ∀ N : List Int, N.length = z.M.length → CellAt N z.ot (List.replicate n (-1)) → (∀ i : Int, 0 ≤ i → (i < z.ot ∨ z.ot + n < i) → mget N i = mget z.M i) → Q (.int z.ot) (upd (upd H L.o (spO K dx 0 z.oe (z.ot + ((n : Int) + 1)))) L.l (.lst (N.map V.int)))
theorem ok_Areas_lay_old {P : Program} {w : World} {K : PySem.W.Frag} {mg : Str → Option Value} {base : Heap} (T : Tx K mg) : FX P w K mg base 7 (He.ma K (He.ga K "Areas") "lay_old") ["self", "slots"] (sp_Areas_lay_old K) := by
  refine fx_of T.f_Areas_lay_old sc_Areas_lay_old (fun _ _ _ _ _ _ us hl => match us, hl with | [_, _], _ => rfl) (fun vs H Q E h => ?_) (fun cdv A outer s H vs Q E hr h => ?_)
  · obtain ⟨_, _, _, _, rfl, _⟩ := h
    rfl
  · obtain ⟨L, z, n, dx, rfl, A, hyo, hn, h0, h1, h2, q⟩ := h
    obtain ⟨dxa, hao⟩ := A.ar
    obtain ⟨dxm, hmo⟩ := A.me.o
    refine ⟨_, (pss_cons (ps_expr (pe_callF (ok_need_slots (K := K) T) (hr.mono (by decide)) (by rfl) T.g_need_slots (pa_cons (pv 1) pa_nil)))
      (pss_cons (ps_set (i := 2) sc_Areas_lay_old.nd rfl (Or.inl rfl) (pe_methF (pe_fld (pv 0) rfl) T.cl_Space T.m_Space_take (ok_Space_take (K := K) T) (hr.mono (by decide)) (pa_cons (pe_op op_add (pv 1) pe_int) pa_nil)))
      (pss_cons (ps_expr (pe_callF (ok_lay (K := K) T) (hr.mono (by decide)) (by rfl) T.g_lay (pa_cons (pe_fld (pv 0) rfl) (pa_cons (pv 2) (pa_cons (pv 1) pa_nil)))))
      (pss_cons (ps_expr (pe_callF (ok_aged (K := K) T) (hr.mono (by decide)) (by rfl) T.g_aged (pa_cons (pe_fld (pv 0) rfl) (pa_cons (pv 2) (pa_cons (gi_MOST_AGE T rfl) pa_nil)))))
      (pss_one (ps_ret (pv 2))))))), ?_⟩
    refine ⟨_, rfl, _, rfl, by omega, by omega, ?_⟩
    refine ⟨_, rfl, rd_Areas_old T hao (me_Space_take hyo ⟨_, rfl, _, _, rfl, rfl, L.o, dx, 0, z.oe, z.ot, _, rfl, hyo, by omega, by omega, ?_⟩)⟩
    have nay : L.a ≠ L.o := ne_of hao hyo (ins_ne1 (by decide +kernel))
    have hao2 : (upd H L.o (spO K dx 0 z.oe (z.ot + ((n : Int) + 1)))) L.a = _ := (upd_ne nay).trans hao
    have me2 : MemO K (upd H L.o (spO K dx 0 z.oe (z.ot + ((n : Int) + 1)))) L.m L.l z.M := ⟨⟨dxm, (upd_ne (ne_of hmo hyo (ins_ne1 (by decide +kernel)))).trans hmo⟩, (upd_ne (ne_of A.me.w hyo lst_ins)).trans A.me.w⟩
    refine ⟨_, rfl, rd_Areas_memory T hao2 ⟨_, rfl, _, rfl, L.m, L.l, z.M, z.ot, n, rfl, me2, hn, h0, by omega, fun N hN e1 e2 e3 => ?_⟩⟩
    have c1 := laid_cell h0 (show z.ot + n < N.length by omega) hn e1 e2
    have nal : L.a ≠ L.l := ne_of hao A.me.w ins_nl
    refine ⟨_, rfl, rd_Areas_memory T ((upd_ne nal).trans hao2) ⟨_, rfl, L.m, L.l, N, z.ot, 2, _, rfl, me2.upd hN, c1, by omega, by omega, ?_⟩⟩
    rw [upd_upd]
    refine ⟨_, rfl, q _ (mset_len.trans hN) (c1.aged (by omega) (by omega)) fun i i0 i1 => ?_⟩
    rw [mget_ne h0 i0 (by omega)]
    exact e3 i i0 i1
def sp_Roots_init (K : PySem.W.Frag) : Sp := fun vs H Q _ => ∃ (p dx : Addr) (n : Nat), vs = [.ref p, .int (n : Int)] ∧ H p = some (.ins (He.ga K "Roots") dx []) ∧ 1 ≤ n ∧ n ≤ 6 ∧
  ∀ (h hl b bd w wl la ll sl : Addr) (H' : Hp), RootO K H' p h b w la → HandO K H' h hl (List.replicate n (-1)) → BookO K H' b bd [] → WeakO K H' w wl [] → LastO K H' la ll sl [] [] → [hl, wl, ll, sl].Nodup →
    H hl = none → H wl = none → H ll = none → H sl = none → H bd = none → Keep [p] H H' → Q .non H'
theorem ok_Roots_init {P : Program} {w : World} {K : PySem.W.Frag} {mg : Str → Option Value} {base : Heap} (T : Tx K mg) : FX P w K mg base 4 (He.ma K (He.ga K "Roots") "__init__") ["self", "many"] (sp_Roots_init K) := by
  refine fx_of T.f_Roots_init sc_Roots_init (fun _ _ _ _ _ _ us hl => match us, hl with | [_, _], _ => rfl) (fun vs H Q E h => ?_) (fun cdv A outer s H vs Q E hr h => ?_)
  · obtain ⟨_, _, _, rfl, _⟩ := h
    rfl
  · obtain ⟨p, dx, n, rfl, hp, n1, n2, q⟩ := h
    refine ⟨_, (pss_cons (ps_fld (pv 0) (pe_makeF T.mk_Hands (ok_Hands_init (K := K) T) (hr.mono (by decide)) (by rfl) T.g_Hands (pa_cons (pv 1) pa_nil)) rfl)
      (pss_cons (ps_fld (pv 0) (pe_makeF0 T.mk_Book (ok_Book_init (K := K) T) (hr.mono (by decide)) (by rfl) T.g_Book) rfl)
      (pss_cons (ps_fld (pv 0) (pe_makeF0 T.mk_Weak (ok_Weak_init (K := K) T) (hr.mono (by decide)) (by rfl) T.g_Weak) rfl)
      (pss_one (ps_fld (pv 0) (pe_makeF0 T.mk_Lasts (ok_Lasts_init (K := K) T) (hr.mono (by decide)) (by rfl) T.g_Lasts) rfl))))), ?_⟩
    -- the hands
    refine ⟨_, rfl, ?_⟩
    intro h d1 nh nd1 _
    have s1 := made_same (C := He.ga K "Hands") nh nd1
    refine ⟨h, d1, n, rfl, upd_same, n1, n2, fun hl H1 nhl1 ha1 k1 => ⟨rfl, ?_⟩⟩
    have nhl : H hl = none := s1.free nhl1
    have s2 : Same H H1 := fun b o e => k1 _ _ (s1 _ _ e) (ne_of_none e nh)
    refine ⟨_, rfl, ini_Roots_hands (K := K) T (s2 _ _ hp) ?_⟩
    rw [in_Roots_hands]
    have nhp : h ≠ p := (ne_of_none hp nh).symm
    have nhlp : hl ≠ p := (ne_of_none hp nhl).symm
    have k12 : Keep [p] H1 (upd H1 p (.ins (He.ga K "Roots") dx [("hands", V.ref h)])) := keep_upd (Keep.refl H1) (by simp)
    have hp2 : (upd H1 p (.ins (He.ga K "Roots") dx [("hands", V.ref h)])) p = some (.ins (He.ga K "Roots") dx [("hands", V.ref h)]) := upd_same
    generalize hH2 : (upd H1 p (.ins (He.ga K "Roots") dx [("hands", V.ref h)])) = H2 at k12 hp2
    have k02 : Keep [p] H H2 := ((Keep.refl H).same s2).trans k12
    -- the book
    intro b d2 nb nd2 _
    have s3 := made_same (C := He.ga K "Book") nb nd2
    refine ⟨b, d2, rfl, upd_same, fun bd H3 nbd3 bo3 k3 => ⟨rfl, ?_⟩⟩
    have nbd : H2 bd = none := s3.free nbd3
    have s4 : Same H2 H3 := fun c o e => k3 _ _ (s3 _ _ e) (ne_of_none e nb)
    refine ⟨_, rfl, ini_Roots_book (K := K) T (s4 _ _ hp2) ?_⟩
    rw [in_Roots_book]
    have nbp : b ≠ p := (ne_of_none hp2 nb).symm
    have nbdp : bd ≠ p := (ne_of_none hp2 nbd).symm
    have nbd0 : H bd = none := k02.free nbd (not1 nbdp)
    have k34 : Keep [p] H3 (upd H3 p (.ins (He.ga K "Roots") dx [("hands", V.ref h), ("book", V.ref b)])) := keep_upd (Keep.refl H3) (by simp)
    have hp4 : (upd H3 p (.ins (He.ga K "Roots") dx [("hands", V.ref h), ("book", V.ref b)])) p = some (.ins (He.ga K "Roots") dx [("hands", V.ref h), ("book", V.ref b)]) := upd_same
    generalize hH4 : (upd H3 p (.ins (He.ga K "Roots") dx [("hands", V.ref h), ("book", V.ref b)])) = H4 at k34 hp4
    have k24 : Keep [p] H2 H4 := ((Keep.refl H2).same s4).trans k34
    have k04 := k02.trans k24
    -- the names
    intro w d3 nw nd3 _
    have s5 := made_same (C := He.ga K "Weak") nw nd3
    refine ⟨w, d3, rfl, upd_same, fun wl H5 nwl5 we5 k5 => ⟨rfl, ?_⟩⟩
    have nwl : H4 wl = none := s5.free nwl5
    have s6 : Same H4 H5 := fun c o e => k5 _ _ (s5 _ _ e) (ne_of_none e nw)
    refine ⟨_, rfl, ini_Roots_weaks (K := K) T (s6 _ _ hp4) ?_⟩
    rw [in_Roots_weaks]
    have nwp : w ≠ p := (ne_of_none hp4 nw).symm
    have nwlp : wl ≠ p := (ne_of_none hp4 nwl).symm
    have nwl0 : H wl = none := k04.free nwl (not1 nwlp)
    have k56 : Keep [p] H5 (upd H5 p (.ins (He.ga K "Roots") dx [("hands", V.ref h), ("book", V.ref b), ("weaks", V.ref w)])) := keep_upd (Keep.refl H5) (by simp)
    have hp6 : (upd H5 p (.ins (He.ga K "Roots") dx [("hands", V.ref h), ("book", V.ref b), ("weaks", V.ref w)])) p = some (.ins (He.ga K "Roots") dx [("hands", V.ref h), ("book", V.ref b), ("weaks", V.ref w)]) := upd_same
    generalize hH6 : (upd H5 p (.ins (He.ga K "Roots") dx [("hands", V.ref h), ("book", V.ref b), ("weaks", V.ref w)])) = H6 at k56 hp6
    have k46 : Keep [p] H4 H6 := ((Keep.refl H4).same s6).trans k56
    have k06 := k04.trans k46
    -- the last words
    intro la d4 nla nd4 _
    have s7 := made_same (C := He.ga K "Lasts") nla nd4
    refine ⟨la, d4, rfl, upd_same, fun ll sl H7 nll7 nsl7 la7 k7 => ⟨rfl, ?_⟩⟩
    have nll : H6 ll = none := s7.free nll7
    have nsl : H6 sl = none := s7.free nsl7
    have s8 : Same H6 H7 := fun c o e => k7 _ _ (s7 _ _ e) (ne_of_none e nla)
    refine ⟨_, rfl, ini_Roots_lasts (K := K) T (s8 _ _ hp6) ?_⟩
    rw [in_Roots_lasts]
    have nlap : la ≠ p := (ne_of_none hp6 nla).symm
    have nllp : ll ≠ p := (ne_of_none hp6 nll).symm
    have nslp : sl ≠ p := (ne_of_none hp6 nsl).symm
    have nll0 : H ll = none := k06.free nll (not1 nllp)
    have nsl0 : H sl = none := k06.free nsl (not1 nslp)
    have k78 : Keep [p] H7 (upd H7 p (.ins (He.ga K "Roots") dx (fl_Roots (V.ref h) (V.ref b) (V.ref w) (V.ref la)))) := keep_upd (Keep.refl H7) (by simp)
    have k68 : Keep [p] H6 (upd H7 p (.ins (He.ga K "Roots") dx (fl_Roots (V.ref h) (V.ref b) (V.ref w) (V.ref la)))) := ((Keep.refl H6).same s8).trans k78
    have k18 := k12.trans (k24.trans (k46.trans k68))
    have k38 := k34.trans (k46.trans k68)
    have k58 := k56.trans k68
    obtain ⟨dh, hho⟩ := ha1.o
    obtain ⟨db, hbo⟩ := bo3.o
    obtain ⟨dw, hwo⟩ := we5.o
    obtain ⟨dl, hlo⟩ := la7.o
    obtain ⟨vs, hlv, hwr⟩ := la7.w
    have hhl6 : H6 hl = _ := (k12.trans (k24.trans k46)) _ _ ha1.w (not1 nhlp)
    have hwl6 : H6 wl = _ := k56 _ _ we5.l (not1 nwlp)
    have hhl4 : H4 hl = _ := (k12.trans k24) _ _ ha1.w (not1 nhlp)
    refine q h hl b bd w wl la ll sl _ ⟨dx, upd_same⟩ ⟨⟨dh, k18 _ _ hho (not1 nhp)⟩, k18 _ _ ha1.w (not1 nhlp)⟩ ⟨⟨db, k38 _ _ hbo (not1 nbp)⟩, k38 _ _ bo3.d (not1 nbdp), bo3.k⟩ ⟨⟨dw, k58 _ _ hwo (not1 nwp)⟩, k58 _ _ we5.l (not1 nwlp)⟩
      ⟨⟨dl, k78 _ _ hlo (not1 nlap)⟩, ⟨vs, k78 _ _ hlv (not1 nllp), hwr.keep fun t ys e => k78 _ _ e (not1 (ne_of e (s8 _ _ hp6) tup_ins))⟩, k78 _ _ la7.s (not1 nslp), la7.ne⟩ ?_ nhl nwl0 nll0 nsl0 nbd0 (k06.trans k68)
    simp only [List.nodup_cons, List.mem_cons, List.not_mem_nil, or_false, not_or, not_false_eq_true, List.nodup_nil, and_true]
    exact ⟨⟨ne_of_none hhl4 nwl, ne_of_none hhl6 nll, ne_of_none hhl6 nsl⟩, ⟨ne_of_none hwl6 nll, ne_of_none hwl6 nsl⟩, la7.ne⟩
end Km
set_option Elab.async false
set_option linter.all false
set_option maxRecDepth 100000
set_option maxHeartbeats 4000000
/-! the law's own helpers: cells laid, words drawn, slots written -/
namespace Km
open PySem PySem.Spec PyProof.Rows L2
def csV (ad : Int → Addr) (cs : Cells) : List (Int × V) := cs.map fun c => (c.1, V.ref (ad c.1))
theorem csV_in {ad : Int → Addr} {cs : Cells} {a : Int} (h : a ∈ keys cs) : (csV ad cs).lookup a = some (.ref (ad a)) := by
  have e : csV ad cs = (keys cs).map fun x => (x, V.ref (ad x)) := by
    unfold csV keys
    rw [List.map_map]
    rfl
  rw [e]
  have key : ∀ F : List Int, a ∈ F → List.lookup a (F.map fun x => (x, V.ref (ad x))) = some (.ref (ad a)) := by
    intro F
    induction F with
    | nil => intro h; cases h
    | cons x r ih =>
      intro h
      rw [List.map_cons, lk_cons]
      by_cases q : a = x
      · subst q
        rw [if_pos rfl]
      · rw [if_neg q]
        exact ih ((List.mem_cons.mp h).resolve_left q)
  exact key _ h
theorem csV_out {ad : Int → Addr} {cs : Cells} {a : Int} (h : a ∉ keys cs) : (csV ad cs).lookup a = none := by
  refine lk_none fun m => h ?_
  unfold csV at m
  rw [List.map_map] at m
  exact m
theorem csV_len {ad : Int → Addr} {cs : Cells} : (csV ad cs).length = cs.length := by unfold csV; rw [List.length_map]
theorem csV_keys {ad : Int → Addr} {cs : Cells} : (kI (csV ad cs)).map (fun kv => kV kv.1) = (keys cs).map V.int := by
  unfold kI csV keys
  rw [List.map_map, List.map_map, List.map_map]
  rfl
theorem csV_set {ad : Int → Addr} {cs : Cells} {a : Int} {k : Nat} {w : Int} : csV ad (csSet cs a k w) = csV ad cs := by
  unfold csV csSet
  rw [List.map_map]
  apply List.map_congr_left
  intro c _
  show ((if c.1 = a then (c.1, c.2.set k w) else c).1, V.ref (ad (if c.1 = a then (c.1, c.2.set k w) else c).1)) = (c.1, V.ref (ad c.1))
  split <;> rfl
/-- the law's dict of cells -/
structure CellsO (H : Hp) (cd : Addr) (ad : Int → Addr) (cs : Cells) : Prop where
  d : H cd = some (.dK (kI (csV ad cs)))
  l : ∀ c ∈ cs, H (ad c.1) = some (.lst (c.2.map V.int))
  inj : ∀ a b, a ∈ keys cs → b ∈ keys cs → a ≠ b → ad a ≠ ad b
theorem CellsO.keep {D : List Addr} {H H' : Hp} {cd : Addr} {ad : Int → Addr} {cs : Cells} (x : CellsO H cd ad cs) (k : Keep D H H') (h1 : cd ∉ D) (h2 : ∀ a ∈ keys cs, ad a ∉ D) : CellsO H' cd ad cs :=
  ⟨k _ _ x.d h1, fun c hc => k _ _ (x.l c hc) (h2 _ (mem_keys (ws := c.2) hc)), x.inj⟩
theorem CellsO.same {H H' : Hp} {cd : Addr} {ad : Int → Addr} {cs : Cells} (x : CellsO H cd ad cs) (s : Same H H') : CellsO H' cd ad cs := ⟨s _ _ x.d, fun c hc => s _ _ (x.l c hc), x.inj⟩
theorem AAt.keep {D : List Addr} {K : PySem.W.Frag} {H H' : Hp} {L : PL} {z : PV} (A : AAt K H L z) (k : Keep D H H') (h : ∀ x ∈ [L.a, L.m, L.l, L.o, L.y, L.s], x ∉ D) : AAt K H' L z := by
  simp only [List.mem_cons, List.not_mem_nil, or_false, forall_eq_or_imp, forall_eq] at h
  obtain ⟨h1, h2, h3, h4, h5, h6⟩ := h
  obtain ⟨d1, e1⟩ := A.ar
  obtain ⟨d2, e2⟩ := A.me.o
  obtain ⟨d3, e3⟩ := A.old
  obtain ⟨d4, e4⟩ := A.yo
  obtain ⟨d5, e5⟩ := A.sp
  exact ⟨⟨d1, k _ _ e1 h1⟩, ⟨⟨d2, k _ _ e2 h2⟩, k _ _ A.me.w h3⟩, ⟨d3, k _ _ e3 h4⟩, ⟨d4, k _ _ e4 h5⟩, ⟨d5, k _ _ e5 h6⟩, A.sd⟩
theorem AAt.same {K : PySem.W.Frag} {H H' : Hp} {L : PL} {z : PV} (A : AAt K H L z) (s : Same H H') : AAt K H' L z := A.keep (D := []) (fun b o e _ => s b o e) (fun x _ => by simp)
/-- the sizes fit one another -/
structure Geo (z : PV) : Prop where
  o0 : 0 ≤ z.ot
  o1 : z.ot ≤ z.oe
  o2 : z.oe ≤ z.yb
  y0 : z.yb ≤ z.yt
  y1 : z.yt ≤ z.ye
  y2 : z.ye ≤ z.M.length
  ml : z.M.length ≤ 1000
def sp_law_cell_at (K : PySem.W.Frag) : Sp := fun vs H Q _ => ∃ (a : Addr) (ns : List Int) (k : Nat), vs = [.ref a, .int (k : Int)] ∧ SqL K H a (ns.map V.int) ∧ ∀ n, Q (.int n) H
theorem ok_law_cell_at {P : Program} {w : World} {K : PySem.W.Frag} {mg : Str → Option Value} {base : Heap} (T : Tx K mg) : FX P w K mg base 1 (He.ga K "_law_cell_at") ["_law_script", "_law_k"] (sp_law_cell_at K) := by
  refine fx_of T.f_law_cell_at sc_law_cell_at (fun _ _ _ _ _ _ us hl => match us, hl with | [_, _], _ => rfl) (fun vs H Q E h => ?_) (fun cdv A outer s H vs Q E hr h => ?_)
  · obtain ⟨_, _, _, rfl, _⟩ := h
    rfl
  · obtain ⟨a, ns, k, rfl, hs, q⟩ := h
    refine ⟨_, (pss_cons (ps_if (pt_cmpR op_lt (pv 1) (pe_callB call_len_seq (by rfl) T.n_len PySem.boot_len (pa_cons (pv 0) pa_nil)) (nomark _)) (pss_one (ps_ret (pe_ix ix_list (pv 0) (pv 1) (fun _ _ => rfl)))) pss_nil)
      (pss_one (ps_ret pe_int))), ?_⟩
    refine ⟨_, rfl, _, rfl, a, _, rfl, .inl hs, _, _, rfl, rfl, _, rfl, ifC (fun h => ?_) (fun h => ?_)⟩
    · rw [List.length_map] at h
      exact ⟨_, rfl, _, rfl, a, _, _, _, rfl, rfl, hs, ints_at (by omega) (by omega), q _⟩
    · exact q 0
def sp_law_next (K : PySem.W.Frag) : Sp := fun vs H Q _ => ∃ (s : Int), vs = [.int s] ∧ ∀ n, Q (.int n) H
theorem ok_law_next {P : Program} {w : World} {K : PySem.W.Frag} {mg : Str → Option Value} {base : Heap} (T : Tx K mg) : FX P w K mg base 1 (He.ga K "_law_next") ["_law_seed"] (sp_law_next K) := by
  refine fx_of T.f_law_next sc_law_next (fun _ _ _ _ _ _ us hl => match us, hl with | [_], _ => rfl) (fun vs H Q E h => ?_) (fun cdv A outer s H vs Q E hr h => ?_)
  · obtain ⟨_, rfl, _⟩ := h
    rfl
  · obtain ⟨s, rfl, q⟩ := h
    refine ⟨_, (pss_one (ps_ret (pe_op op_mod (pe_op op_add (pe_op op_mul (pv 0) pe_int) pe_int) pe_int))), ?_⟩
    exact ⟨_, rfl, _, _, rfl, rfl, .inr ⟨by decide, by decide⟩, _, _, rfl, rfl, _, _, rfl, rfl, (by show (0 : Int) < 2147483647; decide), q _⟩
/-- what laying makes of the values -/
def PV.laid (z : PV) (N : List Int) (side : Int) (n : Nat) : PV := { z with M := N, ot := if side = 0 then z.ot + ((n : Int) + 1) else z.ot, yt := if side = 0 then z.yt else z.yt + ((n : Int) + 1) }
def PV.top (z : PV) (side : Int) : Int := if side = 0 then z.ot else z.yt
def sp_law_lay (K : PySem.W.Frag) : Sp := fun vs H Q _ => ∃ (L : PL) (z : PV) (cd : Addr) (ad : Int → Addr) (cs : Cells) (side : Int) (n : Nat), vs = [.ref L.a, .int side, .int (n : Int), .ref cd] ∧ AAt K H L z ∧ Geo z ∧ CellsO H cd ad cs ∧ Mem z.M cs ∧ Disj cs ∧ Placed z.ot z.yb z.yt cs ∧ n ≤ 8 ∧ cs.length ≤ 100 ∧
  (side = 0 ∨ side = 1) ∧ (side = 0 → z.ot + n + 1 ≤ z.oe) ∧ (side = 1 → z.yt + n + 1 ≤ z.ye) ∧ (∀ a ∈ keys cs, ad a ≠ L.l) ∧
  ∀ (N : List Int) (ad' : Int → Addr) (H' : Hp), N.length = z.M.length → AAt K H' L (z.laid N side n) → Geo (z.laid N side n) → CellsO H' cd ad' (cs ++ [(z.top side, List.replicate n (-1))]) → Mem N (cs ++ [(z.top side, List.replicate n (-1))]) → Disj (cs ++ [(z.top side, List.replicate n (-1))]) →
    Placed (z.laid N side n).ot z.yb (z.laid N side n).yt (cs ++ [(z.top side, List.replicate n (-1))]) → (∀ a ∈ keys cs, ad' a = ad a) → H (ad' (z.top side)) = none → z.top side ∉ keys cs → Keep [L.l, L.o, L.y, cd] H H' → Q (.int (z.top side)) H'
/-- the dict's new entry, its list made new -/
theorem lay_put {K : PySem.W.Frag} {H H1 : Hp} {L : PL} {z' : PV} {cd : Addr} {ad : Int → Addr} {cs : Cells} {a0 : Int} {n : Nat} {D : Addr} (k1 : Keep [L.l, L.o, L.y] H H1) (A : AAt K H1 L z') (co : CellsO H cd ad cs) (hl : ∀ a ∈ keys cs, ad a ≠ L.l) (ho : ∃ C dx fs, H L.o = some (.ins C dx fs)) (hy : ∃ C dx fs, H L.y = some (.ins C dx fs)) (hL : ∃ xs, H L.l = some (.lst xs))
    (hn : a0 ∉ keys cs) (nD : H1 D = none) (hlen : cs.length ≤ 1000) :
    ∃ H', DPut (upd H1 D (.lst ((List.replicate n (-1 : Int)).map V.int))) cd (.int a0) (.ref D) H' ∧ AAt K H' L z' ∧ CellsO H' cd (fun x => if x = a0 then D else ad x) (cs ++ [(a0, List.replicate n (-1))]) ∧ H D = none ∧ Keep [L.l, L.o, L.y, cd] H H' := by
  obtain ⟨C1, dx1, fs1, ho⟩ := ho
  obtain ⟨C2, dx2, fs2, hy⟩ := hy
  obtain ⟨xs, hL⟩ := hL
  have c1 : cd ∉ [L.l, L.o, L.y] := by
    simp only [List.mem_cons, List.not_mem_nil, or_false, not_or]
    exact ⟨ne_of co.d hL dk_nl, ne_of co.d ho dk_ins, ne_of co.d hy dk_ins⟩
  have c2 : ∀ a ∈ keys cs, ad a ∉ [L.l, L.o, L.y] := fun a ha => by
    obtain ⟨ws, hw⟩ := keys_mem ha
    simp only [List.mem_cons, List.not_mem_nil, or_false, not_or]
    exact ⟨hl a ha, ne_of (co.l _ hw) ho lst_ins, ne_of (co.l _ hw) hy lst_ins⟩
  have co1 := co.keep k1 c1 c2
  have s2 : Same H1 (upd H1 D (.lst ((List.replicate n (-1 : Int)).map V.int))) := same_new nD
  have co2 := co1.same s2
  have A2 := A.same s2
  have ncd : cd ≠ D := ne_of_none co1.d nD
  have nDl : ∀ a ∈ keys cs, ad a ≠ D := fun a ha => by
    obtain ⟨ws, hw⟩ := keys_mem ha
    exact ne_of_none (co1.l _ hw) nD
  refine ⟨_, dputI co2.d (csV_out hn) (by rw [csV_len]; exact hlen), A2.keep (D := [cd]) (keep_upd (Keep.refl _) (by simp)) ?_, ⟨?_, ?_, ?_⟩, ?_, ?_⟩
  · obtain ⟨d1, e1⟩ := A2.ar
    obtain ⟨d2, e2⟩ := A2.me.o
    obtain ⟨d3, e3⟩ := A2.old
    obtain ⟨d4, e4⟩ := A2.yo
    obtain ⟨d5, e5⟩ := A2.sp
    have h := co2.d
    simp only [List.mem_cons, List.not_mem_nil, or_false, forall_eq_or_imp, forall_eq]
    exact ⟨(ne_of h e1 dk_ins).symm, (ne_of h e2 dk_ins).symm, (ne_of h A2.me.w dk_nl).symm, (ne_of h e3 dk_ins).symm, (ne_of h e4 dk_ins).symm, (ne_of h e5 dk_ins).symm⟩
  · rw [upd_same]
    unfold csV
    rw [List.map_append]
    have e : (cs.map fun c => (c.1, V.ref (if c.1 = a0 then D else ad c.1))) = cs.map fun c => (c.1, V.ref (ad c.1)) := by
      apply List.map_congr_left
      intro c hc
      rw [if_neg fun e => hn (by rw [← e]; exact mem_keys (ws := c.2) hc)]
    rw [e]
    show _ = some (HO.dK (kI (_ ++ [(a0, V.ref (if a0 = a0 then D else ad a0))])))
    rw [if_pos rfl]
  · intro c hc
    rcases List.mem_append.mp hc with h | h
    · have hne : c.1 ≠ a0 := fun e => hn (by rw [← e]; exact mem_keys (ws := c.2) h)
      simp only [if_neg hne]
      rw [upd_ne (ne_of (co2.l c h) co2.d (by intro z; cases z))]
      exact co2.l c h
    · rw [List.mem_singleton.mp h]
      show upd _ _ _ (if a0 = a0 then D else ad a0) = _
      rw [if_pos rfl, upd_ne ncd.symm, upd_same]
  · intro a b ha hb hab
    rw [keys_snoc] at ha hb
    by_cases e1 : a = a0
    · by_cases e2 : b = a0
      · exact absurd (e1.trans e2.symm) hab
      · rw [if_pos e1, if_neg e2]
        have hb' : b ∈ keys cs := by simpa [e2] using hb
        exact (nDl b hb').symm
    · by_cases e2 : b = a0
      · rw [if_neg e1, if_pos e2]
        have ha' : a ∈ keys cs := by simpa [e1] using ha
        exact nDl a ha'
      · rw [if_neg e1, if_neg e2]
        exact co.inj a b (by simpa [e1] using ha) (by simpa [e2] using hb) hab
  · cases e : H D with
    | none => rfl
    | some o =>
      by_cases hD : D ∈ [L.l, L.o, L.y]
      · simp only [List.mem_cons, List.not_mem_nil, or_false] at hD
        obtain ⟨d3, e3⟩ := A.old
        obtain ⟨d4, e4⟩ := A.yo
        rcases hD with h | h | h
        · rw [h, A.me.w] at nD
          cases nD
        · rw [h, e3] at nD
          cases nD
        · rw [h, e4] at nD
          cases nD
      · rw [k1 _ _ e hD] at nD
        cases nD
  · exact keep_upd ((k1.mono (by simp)).same s2) (by simp)
theorem ok_law_lay {P : Program} {w : World} {K : PySem.W.Frag} {mg : Str → Option Value} {base : Heap} (T : Tx K mg) : FX P w K mg base 8 (He.ga K "_law_lay") ["_law_areas", "_law_side", "_law_slots", "_law_cells"] (sp_law_lay K) := by
  refine fx_of T.f_law_lay sc_law_lay (fun _ _ _ _ _ _ us hl => match us, hl with | [_, _, _, _], _ => rfl) (fun vs H Q E h => ?_) (fun cdv A outer s H vs Q E hr h => ?_)
  · obtain ⟨_, _, _, _, _, _, _, rfl, _⟩ := h
    rfl
  · obtain ⟨L, z, cd, ad, cs, side, n, rfl, A, G, co, hM, DJ, PL_, hn, hlen, hs01, hs0, hs1, hal, q⟩ := h
    obtain ⟨dxo, holo⟩ := A.old
    obtain ⟨dxy, hyo⟩ := A.yo
    obtain ⟨dxa, hao⟩ := A.ar
    obtain ⟨dxm, hmo⟩ := A.me.o
    obtain ⟨dxs, hso⟩ := A.sp
    obtain ⟨sd1, sd2, sd3⟩ := A.sd
    obtain ⟨o0, o1, o2, y0, y1, y2, ml⟩ := G
    refine ⟨_, (pss_cons (ps_if (pt_cmpR op_eq (pv 1) pe_int (nomark _)) (pss_one (ps_set (i := 4) sc_law_lay.nd rfl (Or.inl rfl) (pe_methF (pv 0) T.cl_Areas T.m_Areas_lay_old (ok_Areas_lay_old (K := K) T) (hr.mono (by decide)) (pa_cons (pv 2) pa_nil)))) (pss_one (ps_set (i := 4) sc_law_lay.nd rfl (Or.inl rfl) (pe_methF (pv 0) T.cl_Areas T.m_Areas_lay_young (ok_Areas_lay_young (K := K) T) (hr.mono (by decide)) (pa_cons (pv 2) pa_nil)))))
      (pss_cons (ps_dput (hu_of hr) (pv 3) (pv 4) (pe_lc (own := [("_law_slot", 5)]) rfl sc_law_lay.nd (pi_range1 (by rfl) T.n_range (pa_cons (pv 2) pa_nil)) (blkOk_by (N := N_law_lay) (sc := defScope s_law_lay) (by decide +kernel)) (fun _ _ _ _ _ => (pg_name (i := 5) sc_law_lay.nd rfl (Or.inl rfl) (Or.inr rfl))) (fun _ _ _ _ _ => pts_nil) (fun _ _ _ _ _ => (pe_un un_neg pe_int))) rfl)
      (pss_one (ps_ret (pv 4))))), ?_⟩
    refine ⟨_, rfl, rfl, _, rfl, ifC (fun h => ?_) (fun h => ?_)⟩
    · have e0 : side = 0 := V.int.inj h
      subst e0
      have hroom := hs0 rfl
      refine ⟨_, rfl, me_Areas_lay_old hao ⟨_, rfl, L, z, n, dxo, rfl, A, holo, hn, o0, by omega, by omega, fun N hN c1 out => ?_⟩⟩
      have hM2 : Mem N cs := hM.frame hN fun c hc i i0 i1 => out i (by have := (hM c hc).pos; omega) (by rcases PL_ c hc with r | r <;> omega)
      have ap := PL_.apart_old (n := n) (oe := z.oe) (by omega) (by omega)
      have nk : z.ot ∉ keys cs := fun hk => by
        obtain ⟨ws, hw⟩ := keys_mem hk
        rcases ap _ hw with r | r <;> (simp only at r; omega)
      have hA : AAt K (upd (upd H L.o (spO K dxo 0 z.oe (z.ot + ((n : Int) + 1)))) L.l (.lst (N.map V.int))) L (z.laid N 0 n) := by
        have nml : L.m ≠ L.l := A.me.ne
        refine ⟨⟨dxa, ?_⟩, ⟨⟨dxm, ?_⟩, upd_same⟩, ⟨dxo, ?_⟩, ⟨dxy, ?_⟩, ⟨dxs, ?_⟩, A.sd⟩
        · rw [upd_ne (ne_of hao A.me.w ins_nl), upd_ne (ne_of hao holo (ins_ne1 (by decide +kernel)))]
          exact hao
        · rw [upd_ne nml, upd_ne (ne_of hmo holo (ins_ne1 (by decide +kernel)))]
          show _ = some (HO.ins _ _ (fl_Memory (.int (N.length : Int)) _))
          rw [hN]
          exact hmo
        · rw [upd_ne (ne_of holo A.me.w ins_nl), upd_same]
          rfl
        · rw [upd_ne (ne_of hyo A.me.w ins_nl), upd_ne sd1.symm]
          exact hyo
        · rw [upd_ne (ne_of hso A.me.w ins_nl), upd_ne sd2.symm]
          exact hso
      refine ⟨_, rfl, (n : Int), rfl, by omega, by omega, fun D nD => ?_⟩
      refine lc_range (lo := 0) (n := (n : Int).toNat) (fun k H1 => H1 = upd (upd (upd H L.o (spO K dxo 0 z.oe (z.ot + ((n : Int) + 1)))) L.l (.lst (N.map V.int))) D (.lst ((List.replicate k (-1 : Int)).map V.int))) rfl ?_ ?_
      · rintro k H1 hk rfl
        refine ⟨rfl, tyes (iteT ?_)⟩
        refine ⟨_, rfl, _, upd_same, small1000 (by rw [List.length_map, List.length_replicate]; omega), ?_⟩
        rw [upd_upd, ← rep_snoc, List.map_append]
        rfl
      · rintro H1 rfl
        rw [Int.toNat_natCast]
        obtain ⟨H2, dp, A2, co2, hD0, k2⟩ := lay_put (n := n) (a0 := z.ot) (keep_upd (keep_upd (Keep.refl H) (by simp)) (by simp)) hA co hal ⟨_, _, _, holo⟩ ⟨_, _, _, hyo⟩ ⟨_, A.me.w⟩ nk nD (by omega)
        refine ⟨_, rfl, _, rfl, cd, H2, rfl, dp, ?_⟩
        refine ⟨_, rfl, q N _ H2 hN A2 ⟨?_, ?_, o2, y0, y1, by rw [show (z.laid N 0 n).M = N from rfl, hN]; exact y2, by rw [show (z.laid N 0 n).M = N from rfl, hN]; exact ml⟩ co2 (hM2.append fun c hc => by rw [List.mem_singleton.mp hc]; exact c1) (DJ.snoc ap)
          (placed_snoc (PL_.mono ?_ (Int.le_refl _)) (.inl ?_)) (fun a ha => if_neg fun e => nk (by rw [← e]; exact ha)) (by show H (if z.ot = z.ot then D else _) = none; rw [if_pos rfl]; exact hD0) nk k2⟩
        · show 0 ≤ z.ot + ((n : Int) + 1); omega
        · show z.ot + ((n : Int) + 1) ≤ z.oe; omega
        · show z.ot ≤ z.ot + ((n : Int) + 1); omega
        · show 0 ≤ z.ot ∧ z.ot + ((List.replicate n (-1 : Int)).length : Int) < z.ot + ((n : Int) + 1)
          rw [List.length_replicate]; omega
    · have e1 : side = 1 := hs01.resolve_left fun e => h (by rw [e])
      subst e1
      have hroom := hs1 rfl
      refine ⟨_, rfl, me_Areas_lay_young hao ⟨_, rfl, L, z, n, dxy, rfl, A, hyo, hn, by omega, by omega, by omega, fun N hN c1 out => ?_⟩⟩
      have hM2 : Mem N cs := hM.frame hN fun c hc i i0 i1 => out i (by have := (hM c hc).pos; omega) (by rcases PL_ c hc with r | r <;> omega)
      have ap := PL_.apart_young (n := n) (oe := z.oe) o1 o2 y0
      have nk : z.yt ∉ keys cs := fun hk => by
        obtain ⟨ws, hw⟩ := keys_mem hk
        rcases ap _ hw with r | r <;> (simp only at r; omega)
      have hA : AAt K (upd (upd H L.y (spO K dxy z.yb z.ye (z.yt + ((n : Int) + 1)))) L.l (.lst (N.map V.int))) L (z.laid N 1 n) := by
        have nml : L.m ≠ L.l := A.me.ne
        refine ⟨⟨dxa, ?_⟩, ⟨⟨dxm, ?_⟩, upd_same⟩, ⟨dxo, ?_⟩, ⟨dxy, ?_⟩, ⟨dxs, ?_⟩, A.sd⟩
        · rw [upd_ne (ne_of hao A.me.w ins_nl), upd_ne (ne_of hao hyo (ins_ne1 (by decide +kernel)))]
          exact hao
        · rw [upd_ne nml, upd_ne (ne_of hmo hyo (ins_ne1 (by decide +kernel)))]
          show _ = some (HO.ins _ _ (fl_Memory (.int (N.length : Int)) _))
          rw [hN]
          exact hmo
        · rw [upd_ne (ne_of holo A.me.w ins_nl), upd_ne sd1]
          exact holo
        · rw [upd_ne (ne_of hyo A.me.w ins_nl), upd_same]
          rfl
        · rw [upd_ne (ne_of hso A.me.w ins_nl), upd_ne sd3.symm]
          exact hso
      refine ⟨_, rfl, (n : Int), rfl, by omega, by omega, fun D nD => ?_⟩
      refine lc_range (lo := 0) (n := (n : Int).toNat) (fun k H1 => H1 = upd (upd (upd H L.y (spO K dxy z.yb z.ye (z.yt + ((n : Int) + 1)))) L.l (.lst (N.map V.int))) D (.lst ((List.replicate k (-1 : Int)).map V.int))) rfl ?_ ?_
      · rintro k H1 hk rfl
        refine ⟨rfl, tyes (iteT ?_)⟩
        refine ⟨_, rfl, _, upd_same, small1000 (by rw [List.length_map, List.length_replicate]; omega), ?_⟩
        rw [upd_upd, ← rep_snoc, List.map_append]
        rfl
      · rintro H1 rfl
        rw [Int.toNat_natCast]
        obtain ⟨H2, dp, A2, co2, hD0, k2⟩ := lay_put (n := n) (a0 := z.yt) (keep_upd (keep_upd (Keep.refl H) (by simp)) (by simp)) hA co hal ⟨_, _, _, holo⟩ ⟨_, _, _, hyo⟩ ⟨_, A.me.w⟩ nk nD (by omega)
        refine ⟨_, rfl, _, rfl, cd, H2, rfl, dp, ?_⟩
        refine ⟨_, rfl, q N _ H2 hN A2 ⟨o0, o1, o2, ?_, ?_, by rw [show (z.laid N 1 n).M = N from rfl, hN]; exact y2, by rw [show (z.laid N 1 n).M = N from rfl, hN]; exact ml⟩ co2 (hM2.append fun c hc => by rw [List.mem_singleton.mp hc]; exact c1) (DJ.snoc ap)
          (placed_snoc (PL_.mono (Int.le_refl _) ?_) (.inr ?_)) (fun a ha => if_neg fun e => nk (by rw [← e]; exact ha)) (by show H (if z.yt = z.yt then D else _) = none; rw [if_pos rfl]; exact hD0) nk k2⟩
        · show z.yb ≤ z.yt + ((n : Int) + 1); omega
        · show z.yt + ((n : Int) + 1) ≤ z.ye; omega
        · show z.yt ≤ z.yt + ((n : Int) + 1); omega
        · show z.yb ≤ z.yt ∧ z.yt + ((List.replicate n (-1 : Int)).length : Int) < z.yt + ((n : Int) + 1)
          rw [List.length_replicate]; omega
end Km
set_option Elab.async false
set_option linter.all false
set_option maxRecDepth 100000
set_option maxHeartbeats 4000000
/-! words drawn, slots written, slots filled -/
namespace Km
open PySem PySem.Spec PyProof.Rows L2
def sp_law_word (K : PySem.W.Frag) : Sp := fun vs H Q _ => ∃ (cd : Addr) (ad : Int → Addr) (cs : Cells) (s : Int), vs = [.ref cd, .int s] ∧ H cd = some (.dK (kI (csV ad cs))) ∧ (∀ a ∈ keys cs, 0 ≤ a ∧ a ≤ 9999) ∧ ∀ w H', OkIn cs w → Same H H' → Q (.int w) H'
theorem ok_law_word {P : Program} {w : World} {K : PySem.W.Frag} {mg : Str → Option Value} {base : Heap} (T : Tx K mg) : FX P w K mg base 1 (He.ga K "_law_word") ["_law_cells", "_law_seed"] (sp_law_word K) := by
  refine fx_of T.f_law_word sc_law_word (fun _ _ _ _ _ _ us hl => match us, hl with | [_, _], _ => rfl) (fun vs H Q E h => ?_) (fun cdv A outer s H vs Q E hr h => ?_)
  · obtain ⟨_, _, _, _, rfl, _⟩ := h
    rfl
  · obtain ⟨cd, ad, cs, s0, rfl, hd, hb, q⟩ := h
    refine ⟨_, (pss_cons (ps_set (i := 2) sc_law_word.nd rfl (Or.inl rfl) (pe_op op_mod (pe_op op_fdiv (pv 1) pe_int) pe_int))
      (pss_cons (ps_if (PW.pt (pw_or (pt_cmpR op_eq (pv 2) pe_int (nomark _)) (pw_or1 (PW.pt (pw_and (pt_cmpR (op_eq0 hr.units) (pv 0) pe_dnewK (nomark _)) (pw_and1 (pt_cmpR op_gt (pv 2) pe_int (nomark _)))))))) (pss_one (ps_ret (pe_un un_neg pe_int))) pss_nil)
      (pss_cons (ps_if (pt_cmpR op_eq (pv 2) pe_int (nomark _)) (pss_one (ps_ret (pe_op op_mul pe_int (pe_op op_sub (pe_op op_mod (pe_op op_mul (pe_op op_fdiv (pv 1) pe_int) pe_int) pe_int) pe_int)))) pss_nil)
      (pss_one (ps_ret (pe_op op_add (pe_op op_mul pe_int (pe_ix ix_list (pe_callTy (call_list_dK rfl) (by rfl) T.n_list (by decide +kernel) (pa_cons (pv 0) pa_nil)) (pe_op op_mod (pe_op op_fdiv (pv 1) pe_int) (pe_callB call_lenD (by rfl) T.n_len PySem.boot_len (pa_cons (pv 0) pa_nil))) (fun _ _ => rfl))) pe_int)))))), ?_⟩
    refine ⟨_, rfl, _, _, rfl, rfl, ⟨by decide, by decide⟩, _, _, rfl, rfl, (by show (0 : Int) < 6; decide), ?_⟩
    refine ⟨_, rfl, rfl, _, rfl, ifC (fun h => ?_) (fun h => ?_)⟩
    · exact iteT ⟨_, rfl, q (-1) H okIn_nothing (Same.refl H)⟩
    have h0 : ¬ s0 / 11 % 6 = 0 := fun e => h (congrArg V.int e)
    refine ⟨_, rfl, ?_⟩
    intro p np
    have s1 : Same H (upd H p (.dK [])) := same_new np
    refine ⟨cd, p, _, rfl, rfl, .inl (s1 _ _ hd), upd_same, _, rfl, ?_⟩
    have rest : ¬ (keys cs = [] ∧ 1 < s0 / 11 % 6) → (tSeq (tIfS (tTest (tOp rEq (tVar 2) (tC (.int 1)))) (tRet (tOp (rI CMul fun i j => .int (i * j)) (tC (.int 2)) (tOp (rI0 fun i j => .int (i - j)) (tOp (rI (fun _ j => 0 < j) fun i j => .int (i % j)) (tOp (rI CMul fun i j => .int (i * j)) (tOp (rI CDiv fun i j => .int (i / j)) (tVar 1) (tC (.int 66))) (tC (.int 40009))) (tC (.int 2000000000001))) (tC (.int 1000000000000))))) tNext)
        (tRet (tOp (rI0 fun i j => .int (i + j)) (tOp (rI CMul fun i j => .int (i * j)) (tC (.int 2)) (tOp (rIxL K) (tCB rListD (tCons (tVar 0) tNil)) (tOp (rI (fun _ j => 0 < j) fun i j => .int (i % j)) (tOp (rI CDiv fun i j => .int (i / j)) (tVar 1) (tC (.int 66))) (tCB (fun xs H Q => ∃ a kvs, xs = [V.ref a] ∧ H a = some (.dK kvs) ∧ Q (.int kvs.length) H) (tCons (tVar 0) tNil))))) (tC (.int 1)))))
        { nx := fun _ H' => Q .non H', rt := Q } [some (.ref cd), some (.int s0), some (.int (s0 / 11 % 6))] (upd H p (.dK [])) := fun hne => by
      refine ⟨_, rfl, rfl, _, rfl, ifC (fun h1 => ?_) (fun h1 => ?_)⟩
      · refine ⟨_, rfl, _, _, rfl, rfl, ⟨by decide, by decide⟩, _, _, rfl, rfl, .inr ⟨by decide, by decide⟩, _, _, rfl, rfl, (by show (0 : Int) < 2000000000001; decide), _, _, rfl, rfl, _, _, rfl, rfl, .inl ⟨by decide, by decide⟩, ?_⟩
        exact q _ _ (okIn_number (by omega) (by omega)) s1
      · have h1 : ¬ s0 / 11 % 6 = 1 := fun e => h1 (congrArg V.int e)
        have hk : keys cs ≠ [] := fun e => hne ⟨e, by omega⟩
        have hl : 0 < (keys cs).length := List.length_pos_iff.mpr hk
        have hkl : (keys cs).length = cs.length := by unfold keys; rw [List.length_map]
        refine ⟨_, rfl, cd, _, rfl, s1 _ _ hd, fun r nr => ?_⟩
        have s2 := s1.trans (same_new (o := .lst ((kI (csV ad cs)).map fun kv => kV kv.1)) nr)
        have hlen : ((kI (csV ad cs)).length : Int) = (keys cs).length := by rw [kI_len, csV_len, hkl]
        refine ⟨_, rfl, _, _, rfl, rfl, ⟨by decide, by decide⟩, _, rfl, cd, _, rfl, s2 _ _ hd, _, _, rfl, rfl, (by omega), ?_⟩
        have hi0 : 0 ≤ s0 / 66 % ((kI (csV ad cs)).length : Int) := Int.emod_nonneg _ (by omega)
        have hi1 : s0 / 66 % ((kI (csV ad cs)).length : Int) < (keys cs).length := by rw [← hlen]; exact Int.emod_lt_of_pos _ (by omega)
        have hmem : mget (keys cs) (s0 / 66 % ((kI (csV ad cs)).length : Int)) ∈ keys cs := List.mem_of_getElem? (mget_some hi0 hi1)
        refine ⟨r, _, _, _, rfl, rfl, SqL.of upd_same, by rw [csV_keys]; exact ints_at hi0 hi1, _, _, rfl, rfl, .inl ⟨by decide, by decide⟩, _, _, rfl, rfl, ?_⟩
        obtain ⟨b0, b1⟩ := hb _ hmem
        exact q _ _ (okIn_place hmem b0 b1) s2
    cases hc : cs with
    | nil =>
      subst hc
      refine iteT ⟨_, rfl, _, _, rfl, rfl, _, rfl, ifC (fun h2 => ?_) (fun h2 => ?_)⟩
      · exact ⟨_, rfl, q (-1) _ okIn_nothing s1⟩
      · exact rest fun z => h2 z.2
    | cons c r =>
      rw [hc] at rest
      exact iteF (iteF (rest fun z => by have := z.1; unfold keys at this; simp at this))
theorem areaV_scal {z : PV} {a : Int} {s : Str} : scal (areaV z a) (.str s) = true := by
  unfold areaV
  split
  · rfl
  · split <;> rfl
theorem RootO.keep {D : List Addr} {K : PySem.W.Frag} {H H' : Hp} {r h b w la : Addr} (x : RootO K H r h b w la) (k : Keep D H H') (n : r ∉ D) : RootO K H' r h b w la := by
  obtain ⟨d, e⟩ := x
  exact ⟨d, k _ _ e n⟩
theorem BookO.keep {D : List Addr} {K : PySem.W.Frag} {H H' : Hp} {b d : Addr} {kvs : List (Key × V)} (x : BookO K H b d kvs) (k : Keep D H H') (n : b ∉ D) (n2 : d ∉ D) : BookO K H' b d kvs := by
  obtain ⟨dx, e⟩ := x.o
  exact ⟨⟨dx, k _ _ e n⟩, k _ _ x.d n2, x.k⟩
def sp_law_write (K : PySem.W.Frag) : Sp := fun vs H Q _ => ∃ (L : PL) (z : PV) (bd cd : Addr) (kvs : List (Key × V)) (ad : Int → Addr) (cs : Cells) (a : Int) (ws : List Int) (k : Nat) (w : Int), vs = [.ref L.a, .ref L.r, .ref cd, .int a, .int (k : Int), .int w] ∧ AAt K H L z ∧ RootO K H L.r L.h L.b L.w L.la ∧ BookO K H L.b bd kvs ∧ CellsO H cd ad cs ∧
  Mem z.M cs ∧ Disj cs ∧ (a, ws) ∈ cs ∧ k < ws.length ∧ OkW w ∧ z.M.length ≤ 1000 ∧ (∀ x ∈ keys cs, ad x ≠ L.l) ∧ bd ≠ cd ∧
  ∀ (kvs' : List (Key × V)) (H' : Hp), AAt K H' L { z with M := mset z.M (a + 1 + k) w } → BookO K H' L.b bd kvs' → CellsO H' cd ad (csSet cs a k w) → Keep [L.l, bd, ad a] H H' → Q .non H'
theorem ok_law_write {P : Program} {w : World} {K : PySem.W.Frag} {mg : Str → Option Value} {base : Heap} (T : Tx K mg) : FX P w K mg base 4 (He.ga K "_law_write") ["_law_areas", "_law_roots", "_law_cells", "_law_at", "_law_slot", "_law_word_here"] (sp_law_write K) := by
  refine fx_of T.f_law_write sc_law_write (fun _ _ _ _ _ _ us hl => match us, hl with | [_, _, _, _, _, _], _ => rfl) (fun vs H Q E h => ?_) (fun cdv A outer s H vs Q E hr h => ?_)
  · obtain ⟨_, _, _, _, _, _, _, _, _, _, _, rfl, _⟩ := h
    rfl
  · obtain ⟨L, z, bd, cd, kvs, ad, cs, a, ws, k, w, rfl, A, R, B, co, hM, DJ, haw, hk, hw, hml, hal, nbc, q⟩ := h
    have hak := mem_keys haw
    have ca := hM _ haw
    have h0 := ca.pos
    have hf := ca.fit
    simp only at h0 hf
    have hla := co.l _ haw
    obtain ⟨dxa, hao⟩ := A.ar
    obtain ⟨dxm, hmo⟩ := A.me.o
    obtain ⟨dxo, holo⟩ := A.old
    obtain ⟨dxy, hyo⟩ := A.yo
    obtain ⟨dxs, hso⟩ := A.sp
    obtain ⟨dxr, hro⟩ := R
    obtain ⟨dxb, hbo⟩ := B.o
    refine ⟨_, (pss_cons (ps_asg (pv 5) (pg_sub (pe_dget (hu_of hr) (pv 2) (pv 3) (fun _ _ => rfl)) (pv 4) set_list))
      (pss_cons (ps_expr (pe_methF (pe_fld (pv 0) rfl) T.cl_Memory T.m_Memory_write (ok_Memory_write (K := K) T) (hr.mono (by decide)) (pa_cons (pe_op op_add (pe_op op_add (pv 3) pe_int) (pv 4)) (pa_cons (pv 5) pa_nil))))
      (pss_cons (ps_expr (pe_methF (pe_fld (pv 1) rfl) T.cl_Book T.m_Book_rub (ok_Book_rub (K := K) T) (hr.mono (by decide)) (pa_cons (pe_op op_add (pe_op op_add (pv 3) pe_int) (pv 4)) pa_nil)))
      (pss_one (ps_if (PW.pt (pw_and (pt_cmpR op_eq (pe_methF (pv 0) T.cl_Areas T.m_Areas_area_of (ok_Areas_area_of (K := K) T) (hr.mono (by decide)) (pa_cons (pv 3) pa_nil)) pe_str (nomark _)) (pw_and (pt_cmpR op_gt (pv 5) pe_int (nomark _)) (pw_and (pt_cmpR op_eq (pe_op op_mod (pv 5) pe_int) pe_int (nomark _)) (pw_and1 (pt_cmpR op_eq (pe_methF (pv 0) T.cl_Areas T.m_Areas_area_of (ok_Areas_area_of (K := K) T) (hr.mono (by decide)) (pa_cons (pe_op op_fdiv (pv 5) pe_int) pa_nil)) pe_str (nomark _))))))) (pss_one (ps_expr (pe_methF (pe_fld (pv 1) rfl) T.cl_Book T.m_Book_write (ok_Book_write (K := K) T) (hr.mono (by decide)) (pa_cons (pe_op op_add (pe_op op_add (pv 3) pe_int) (pv 4)) pa_nil)))) pss_nil))))), ?_⟩
    refine ⟨_, rfl, _, rfl, _, rfl, cd, _, rfl, dgetI (.inl co.d) (csV_in hak), _, rfl, ad a, _, _, _, rfl, rfl, hla, ixN_of (by omega) (by rw [List.length_map]; show (k : Int) < (ws.length : Int); omega), ?_⟩
    rw [Int.toNat_natCast]
    have es : (ws.map V.int).set k (.int w) = (ws.set k w).map V.int := by rw [List.map_set]
    rw [es]
    have k1 : Keep [ad a] H (upd H (ad a) (.lst ((ws.set k w).map V.int))) := keep_upd (Keep.refl H) (by simp)
    have nl1 : ∀ {c : Addr} {o : HO}, H c = some o → (∀ xs, o ≠ .lst xs) → (upd H (ad a) (.lst ((ws.set k w).map V.int))) c = some o := fun e n => k1 _ _ e (not1 (ne_of e hla (n _)))
    have me1 : MemO K (upd H (ad a) (.lst ((ws.set k w).map V.int))) L.m L.l z.M := ⟨⟨dxm, nl1 hmo fun x => ins_nl⟩, k1 _ _ A.me.w (not1 (hal a hak).symm)⟩
    obtain ⟨dxm1, hmo1⟩ := me1.o
    refine ⟨_, rfl, rd_Areas_memory T (nl1 hao fun x => ins_nl) (me_Memory_write hmo1 ⟨_, rfl, _, _, rfl, rfl, _, rfl, _, _, rfl, rfl, _, rfl, L.m, L.l, z.M, a + 1 + k, w, rfl, me1, by omega, by omega, hw, ?_⟩)⟩
    have k2 : Keep [L.l, ad a] H (upd (upd H (ad a) (.lst ((ws.set k w).map V.int))) L.l (.lst ((mset z.M (a + 1 + k) w).map V.int))) := keep_upd (k1.mono (by simp)) (by simp)
    have me2 : MemO K (upd (upd H (ad a) (.lst ((ws.set k w).map V.int))) L.l (.lst ((mset z.M (a + 1 + k) w).map V.int))) L.m L.l (mset z.M (a + 1 + k) w) := me1.upd mset_len
    have nl2 : ∀ {c : Addr} {o : HO}, H c = some o → (∀ xs, o ≠ .lst xs) → (upd (upd H (ad a) (.lst ((ws.set k w).map V.int))) L.l (.lst ((mset z.M (a + 1 + k) w).map V.int))) c = some o := fun e n => k2 _ _ e (by
      simp only [List.mem_cons, List.not_mem_nil, or_false, not_or]
      exact ⟨ne_of e A.me.w (n _), ne_of e hla (n _)⟩)
    have A2 : AAt K (upd (upd H (ad a) (.lst ((ws.set k w).map V.int))) L.l (.lst ((mset z.M (a + 1 + k) w).map V.int))) L { z with M := mset z.M (a + 1 + k) w } := ⟨⟨dxa, nl2 hao fun x => ins_nl⟩, me2, ⟨dxo, nl2 holo fun x => ins_nl⟩, ⟨dxy, nl2 hyo fun x => ins_nl⟩, ⟨dxs, nl2 hso fun x => ins_nl⟩, A.sd⟩
    have R2 : RootO K (upd (upd H (ad a) (.lst ((ws.set k w).map V.int))) L.l (.lst ((mset z.M (a + 1 + k) w).map V.int))) L.r L.h L.b L.w L.la := ⟨dxr, nl2 hro fun x => ins_nl⟩
    have B2 : BookO K (upd (upd H (ad a) (.lst ((ws.set k w).map V.int))) L.l (.lst ((mset z.M (a + 1 + k) w).map V.int))) L.b bd kvs := ⟨⟨dxb, nl2 hbo fun x => ins_nl⟩, nl2 B.d fun x => dk_nl, B.k⟩
    have co2 : CellsO (upd (upd H (ad a) (.lst ((ws.set k w).map V.int))) L.l (.lst ((mset z.M (a + 1 + k) w).map V.int))) cd ad (csSet cs a k w) := by
      refine ⟨by rw [csV_set]; exact nl2 co.d fun x => dk_nl, fun d hd => ?_, fun x y hx hy => co.inj x y (by rw [keys_set] at hx; exact hx) (by rw [keys_set] at hy; exact hy)⟩
      obtain ⟨c, hc, e1, e2, hh⟩ := mem_csSet hd
      have hck := mem_keys (cs := cs) (x := c.1) (ws := c.2) hc
      rcases hh with ⟨r, e⟩ | ⟨r, e⟩
      · have e3 : c.2 = ws := DJ.uniq (a := a) (by rw [← r]; exact hc) haw
        rw [e1, r, e, e3, upd_ne (hal a hak), upd_same]
      · subst e
        rw [upd_ne (hal _ hck), upd_ne (co.inj _ _ hck hak r)]
        exact co.l _ hc
    generalize (upd (upd H (ad a) (.lst ((ws.set k w).map V.int))) L.l (.lst ((mset z.M (a + 1 + k) w).map V.int))) = H2 at k2 A2 R2 B2 co2 ⊢
    have hlen : (mset z.M (a + 1 + (k : Int)) w).length = z.M.length := mset_len
    -- what is left once the book has turned
    have fin : ∀ (H3 : Hp) (kvs3 : List (Key × V)), BookO K H3 L.b bd kvs3 → Keep [bd] H2 H3 → Q .non H3 := fun H3 kvs3 B3 k3 => by
      refine q kvs3 H3 (A2.keep k3 ?_) B3 (co2.keep k3 (not1 nbc.symm) fun x hx => ?_) ((k2.mono (by simp)).trans (k3.mono (by simp)))
      · obtain ⟨d1, e1⟩ := A2.ar
        obtain ⟨d2, e2⟩ := A2.me.o
        obtain ⟨d3, e3⟩ := A2.old
        obtain ⟨d4, e4⟩ := A2.yo
        obtain ⟨d5, e5⟩ := A2.sp
        have h := B2.d
        simp only [List.mem_cons, List.not_mem_nil, or_false, forall_eq_or_imp, forall_eq]
        exact ⟨(ne_of h e1 dk_ins).symm, (ne_of h e2 dk_ins).symm, (ne_of h A2.me.w dk_nl).symm, (ne_of h e3 dk_ins).symm, (ne_of h e4 dk_ins).symm, (ne_of h e5 dk_ins).symm⟩
      · obtain ⟨vs, hv⟩ := keys_mem hx
        exact not1 (ne_of (co2.l _ hv) B2.d (by intro z; cases z))
    obtain ⟨dr2, hro2⟩ := R2
    obtain ⟨db2, hbo2⟩ := B2.o
    obtain ⟨da2, hao2⟩ := A2.ar
    -- behind the rub
    have rest : ∀ (H3 : Hp) (kvs3 : List (Key × V)), BookO K H3 L.b bd kvs3 → Keep [bd] H2 H3 → AAt K H3 L { z with M := mset z.M (a + 1 + k) w } ∧ H3 L.r = some (.ins (He.ga K "Roots") dr2 (fl_Roots (.ref L.h) (.ref L.b) (.ref L.w) (.ref L.la))) := fun H3 kvs3 B3 k3 => by
      refine ⟨A2.keep k3 ?_, k3 _ _ hro2 (not1 (ne_of hro2 B2.d (by intro z; cases z)))⟩
      obtain ⟨d1, e1⟩ := A2.ar
      obtain ⟨d2, e2⟩ := A2.me.o
      obtain ⟨d3, e3⟩ := A2.old
      obtain ⟨d4, e4⟩ := A2.yo
      obtain ⟨d5, e5⟩ := A2.sp
      have h := B2.d
      simp only [List.mem_cons, List.not_mem_nil, or_false, forall_eq_or_imp, forall_eq]
      exact ⟨(ne_of h e1 dk_ins).symm, (ne_of h e2 dk_ins).symm, (ne_of h A2.me.w dk_nl).symm, (ne_of h e3 dk_ins).symm, (ne_of h e4 dk_ins).symm, (ne_of h e5 dk_ins).symm⟩
    have tail : ∀ (H3 : Hp) (kvs3 : List (Key × V)), BookO K H3 L.b bd kvs3 → Keep [bd] H2 H3 →
        tIfS (tAnd (tTest (tOp rEq (tMeth (He.ga K "Areas") "area_of" (sp_Areas_area_of K) [] E0 (tVar 0) (tCons (tVar 3) tNil)) (tC (.str "old")))) (tAnd (tTest (tOp (rI0 fun i j => .bl (decide (j < i))) (tVar 5) (tC (.int 0)))) (tAnd (tTest (tOp rEq (tOp (rI (fun _ j => 0 < j) fun i j => .int (i % j)) (tVar 5) (tC (.int 2))) (tC (.int 1)))) (tTest (tOp rEq (tMeth (He.ga K "Areas") "area_of" (sp_Areas_area_of K) [] E0 (tVar 0) (tCons (tOp (rI CDiv fun i j => .int (i / j)) (tVar 5) (tC (.int 2))) tNil)) (tC (.str "young")))))))
          (tDrop (tMeth (He.ga K "Book") "write" (sp_Book_write K) [] E0 (tFld K (tVar 1) "book") (tCons (tOp (rI0 fun i j => .int (i + j)) (tOp (rI0 fun i j => .int (i + j)) (tVar 3) (tC (.int 1))) (tVar 4)) tNil))) tNext
          { nx := fun _ H' => Q .non H', rt := Q } [some (.ref L.a), some (.ref L.r), some (.ref cd), some (.int a), some (.int (k : Int)), some (.int w)] H3 := fun H3 kvs3 B3 k3 => by
      obtain ⟨A3, hro3⟩ := rest H3 kvs3 B3 k3
      obtain ⟨da3, hao3⟩ := A3.ar
      obtain ⟨db3, hbo3⟩ := B3.o
      refine ⟨_, rfl, me_Areas_area_of hao3 ⟨_, rfl, L, _, a, rfl, A3, areaV_scal, _, rfl, ifC (fun _ => ?_) (fun _ => iteF (fin H3 kvs3 B3 k3))⟩⟩
      refine ⟨_, rfl, _, _, rfl, rfl, _, rfl, ifC (fun _ => ?_) (fun _ => iteF (fin H3 kvs3 B3 k3))⟩
      refine ⟨_, rfl, _, _, rfl, rfl, (by show (0 : Int) < 2; decide), rfl, _, rfl, ifC (fun _ => ?_) (fun _ => iteF (fin H3 kvs3 B3 k3))⟩
      refine ⟨_, rfl, me_Areas_area_of hao3 ⟨_, rfl, _, _, rfl, rfl, ⟨by decide, by decide⟩, L, _, _, rfl, A3, areaV_scal, _, rfl, ifC (fun _ => ?_) (fun _ => fin H3 kvs3 B3 k3)⟩⟩
      refine ⟨_, rfl, rd_Roots_book T hro3 (me_Book_write hbo3 ⟨_, rfl, _, _, rfl, rfl, _, rfl, _, _, rfl, rfl, L.b, bd, kvs3, _, rfl, B3, by omega, by omega, fun kvs4 hk4 => ?_⟩)⟩
      exact fin _ kvs4 (B3.upd hk4) (keep_upd k3 (by simp))
    refine ⟨_, rfl, rd_Roots_book T hro2 (me_Book_rub hbo2 ⟨_, rfl, _, _, rfl, rfl, _, rfl, _, _, rfl, rfl, L.b, bd, kvs, _, rfl, B2, by omega, by omega, fun kvs3 hk3 => ?_, ?_⟩)⟩
    · exact tail _ kvs3 (B2.upd hk3) (keep_upd (Keep.refl H2) (by simp))
    · exact tail H2 kvs B2 (Keep.refl H2)
end Km
set_option Elab.async false
set_option linter.all false
set_option maxRecDepth 100000
set_option maxHeartbeats 4000000
/-! a memory laid, its slots filled -/
namespace Km
open PySem PySem.Spec PyProof.Rows L2
theorem AAt.word {K : PySem.W.Frag} {H : Hp} {L : PL} {z : PV} {N : List Int} (A : AAt K H L z) (hN : N.length = z.M.length) : AAt K (upd H L.l (.lst (N.map V.int))) L { z with M := N } := by
  obtain ⟨dxa, hao⟩ := A.ar
  obtain ⟨dxo, holo⟩ := A.old
  obtain ⟨dxy, hyo⟩ := A.yo
  obtain ⟨dxs, hso⟩ := A.sp
  have hl := A.me.w
  exact ⟨⟨dxa, by rw [upd_ne (ne_of hao hl ins_nl)]; exact hao⟩, A.me.upd hN, ⟨dxo, by rw [upd_ne (ne_of holo hl ins_nl)]; exact holo⟩, ⟨dxy, by rw [upd_ne (ne_of hyo hl ins_nl)]; exact hyo⟩, ⟨dxs, by rw [upd_ne (ne_of hso hl ins_nl)]; exact hso⟩, A.sd⟩
theorem Geo.word {z : PV} {N : List Int} (G : Geo z) (h : N.length = z.M.length) : Geo { z with M := N } :=
  ⟨G.o0, G.o1, G.o2, G.y0, G.y1, by show z.ye ≤ (N.length : Int); rw [h]; exact G.y2, by show N.length ≤ 1000; rw [h]; exact G.ml⟩
/-- all six addresses are taken -/
theorem AAt.taken {K : PySem.W.Frag} {H : Hp} {L : PL} {z : PV} (A : AAt K H L z) {p : Addr} (h : H p = none) : ∀ x ∈ [L.a, L.m, L.l, L.o, L.y, L.s], x ≠ p := by
  obtain ⟨d1, e1⟩ := A.ar
  obtain ⟨d2, e2⟩ := A.me.o
  obtain ⟨d3, e3⟩ := A.old
  obtain ⟨d4, e4⟩ := A.yo
  obtain ⟨d5, e5⟩ := A.sp
  simp only [List.mem_cons, List.not_mem_nil, or_false, forall_eq_or_imp, forall_eq]
  exact ⟨ne_of_none e1 h, ne_of_none e2 h, ne_of_none A.me.w h, ne_of_none e3 h, ne_of_none e4 h, ne_of_none e5 h⟩
theorem AAt.fresh {K : PySem.W.Frag} {H H1 : Hp} {L : PL} {z : PV} (A : AAt K H1 L z) (k : Keep [L.l, L.o, L.y] H H1) {p : Addr} (h : H1 p = none) : H p = none := by
  have t := A.taken h
  simp only [List.mem_cons, List.not_mem_nil, or_false, forall_eq_or_imp, forall_eq] at t
  refine k.free h ?_
  simp only [List.mem_cons, List.not_mem_nil, or_false, not_or]
  exact ⟨t.2.2.1.symm, t.2.2.2.1.symm, t.2.2.2.2.1.symm⟩
def sp_law_laid (K : PySem.W.Frag) : Sp := fun vs H Q _ => ∃ (L : PL) (z : PV) (rm sc : Addr) (ns : List Int) (ry : Int), vs = [.ref L.a, .ref rm, .ref sc] ∧ AAt K H L z ∧ Geo z ∧ z.ot = 0 ∧ z.yt = z.yb ∧ z.ye = z.yb + ry ∧ H rm = some (.lst [.int z.oe, .int ry]) ∧ rm ≠ L.l ∧
  (∀ H', Keep [L.l, L.o, L.y] H H' → SqL K H' sc (ns.map V.int)) ∧
  ∀ (cd : Addr) (ad : Int → Addr) (cs : Cells) (N : List Int) (t y : Int) (H' : Hp), AAt K H' L { z with M := N, ot := t, yt := y } → Geo { z with M := N, ot := t, yt := y } → CellsO H' cd ad cs → Mem N cs → Disj cs → Placed t z.yb y cs → Closed cs → (size cs : Int) ≤ z.oe → cs.length ≤ 10 → N.length = z.M.length →
    Keep [L.l, L.o, L.y] H H' → H cd = none → (∀ a ∈ keys cs, H (ad a) = none) → Q (.ref cd) H'
theorem ok_law_laid {P : Program} {w : World} {K : PySem.W.Frag} {mg : Str → Option Value} {base : Heap} (T : Tx K mg) : FX P w K mg base 9 (He.ga K "_law_laid") ["_law_areas", "_law_rooms", "_law_script"] (sp_law_laid K) := by
  refine fx_of T.f_law_laid sc_law_laid (fun _ _ _ _ _ _ us hl => match us, hl with | [_, _, _], _ => rfl) (fun vs H Q E h => ?_) (fun cdv A outer s H vs Q E hr h => ?_)
  · obtain ⟨_, _, _, _, _, _, rfl, _⟩ := h
    rfl
  · obtain ⟨L, z, rm, sc, ns, ry, rfl, A, G, e1, e2, e3, hrm, nrl, hsc, q⟩ := h
    have hLl := A.me.w
    obtain ⟨dxo, holo⟩ := A.old
    obtain ⟨dxy, hyo⟩ := A.yo
    refine ⟨_, (pss_cons (ps_set (i := 3) sc_law_laid.nd rfl (Or.inl rfl) pe_dnewK)
      (pss_cons (ps_set (i := 4) sc_law_laid.nd rfl (Or.inl rfl) (pe_callF (ok_law_next (K := K) T) (hr.mono (by decide)) (by rfl) T.g_law_next (pa_cons (pe_callF (ok_law_cell_at (K := K) T) (hr.mono (by decide)) (by rfl) T.g_law_cell_at (pa_cons (pv 2) (pa_cons pe_int pa_nil))) pa_nil)))
      (pss_cons (ps_set (i := 5) sc_law_laid.nd rfl (Or.inl rfl) (pe_lst (pa_cons pe_int (pa_cons pe_int pa_nil))))
      (pss_cons (ps_for PassesOwn.never rfl (pi_range1 (by rfl) T.n_range (pa_cons (pe_op op_add pe_int (pe_op op_mod (pe_op op_fdiv (pe_callF (ok_law_cell_at (K := K) T) (hr.mono (by decide)) (by rfl) T.g_law_cell_at (pa_cons (pv 2) (pa_cons pe_int pa_nil))) pe_int) pe_int)) pa_nil)) (pg_name (i := 6) sc_law_laid.nd rfl (Or.inl rfl)) (pss_cons (ps_set (i := 4) sc_law_laid.nd rfl (Or.inl rfl) (pe_callF (ok_law_next (K := K) T) (hr.mono (by decide)) (by rfl) T.g_law_next (pa_cons (pe_op op_add (pv 4) (pv 6)) pa_nil)))
      (pss_cons (ps_set (i := 7) sc_law_laid.nd rfl (Or.inl rfl) (pe_op op_mod (pe_op op_fdiv (pv 4) pe_int) pe_int))
      (pss_cons (ps_if (pt_cmpR op_eq (pe_op op_mod (pe_op op_fdiv (pv 4) pe_int) pe_int) pe_int (nomark _)) (pss_one (ps_set (i := 7) sc_law_laid.nd rfl (Or.inl rfl) (pe_op op_mod (pe_op op_fdiv (pv 4) pe_int) pe_int))) pss_nil)
      (pss_cons (ps_set (i := 8) sc_law_laid.nd rfl (Or.inl rfl) (pe_op op_mod (pe_op op_fdiv (pv 4) pe_int) pe_int))
      (pss_one (ps_if (PW.pt (pw_and (pt_cmpR op_le (pe_op op_add (pe_op op_add (pe_ix ix_list (pv 5) (pv 8) (fun _ _ => rfl)) (pv 7)) pe_int) (pe_ix ix_list (pv 1) (pv 8) (fun _ _ => rfl)) (nomark _)) (pw_and1 (pt_cmpR op_le (pe_op op_add (pe_op op_add (pe_op op_add (pe_ix ix_list (pv 5) pe_int (fun _ _ => rfl)) (pe_ix ix_list (pv 5) pe_int (fun _ _ => rfl))) (pv 7)) pe_int) (pe_ix ix_list (pv 1) pe_int (fun _ _ => rfl)) (nomark _))))) (pss_cons (ps_set (i := 9) sc_law_laid.nd rfl (Or.inl rfl) (pe_callF (ok_law_lay (K := K) T) (hr.mono (by decide)) (by rfl) T.g_law_lay (pa_cons (pv 0) (pa_cons (pv 8) (pa_cons (pv 7) (pa_cons (pv 3) pa_nil))))))
      (pss_cons (ps_asg (pe_op op_add (pe_op op_add (pe_ix ix_list (pv 5) (pv 8) (fun _ _ => rfl)) (pv 7)) pe_int) (pg_sub (pv 5) (pv 8) set_list))
      (pss_one (ps_if (PW.pt (pw_and (pt_cmpR op_eq (pv 8) pe_int (nomark _)) (pw_and1 (pt_cmpR op_eq (pe_op op_mod (pe_op op_fdiv (pv 4) pe_int) pe_int) pe_int (nomark _))))) (pss_one (ps_expr (pe_callF (ok_aged (K := K) T) (hr.mono (by decide)) (by rfl) T.g_aged (pa_cons (pe_fld (pv 0) rfl) (pa_cons (pv 9) (pa_cons pe_int pa_nil)))))) pss_nil)))) pss_nil)))))))
      (pss_one (ps_ret (pv 3))))))), ?_⟩
    refine fun cd ncd => ?_
    have s1 : Same H (upd H cd (.dK [])) := same_new ncd
    refine ⟨_, rfl, sc, ns, 1, rfl, hsc _ ((Keep.refl H).same s1), fun n1 => ⟨n1, rfl, fun s0 => ?_⟩⟩
    refine ⟨by decide, fun ud nud => ?_⟩
    have s2 := s1.trans (same_new (o := .lst [.int 0, .int 0]) nud)
    refine ⟨_, rfl, sc, ns, 0, rfl, hsc _ ((Keep.refl H).same s2), fun n2 => ⟨_, _, rfl, rfl, ⟨by decide, by decide⟩, _, _, rfl, rfl, (by show (0 : Int) < 10; decide), _, _, rfl, rfl, _, rfl, by omega, by omega, ?_⟩⟩
    have ncu : cd ≠ ud := fun e => by rw [← e, upd_same] at nud; cases nud
    have nud0 : H ud = none := by rw [upd_ne ncu.symm] at nud; exact nud
    refine for_range (lo := 0) (n := (1 + n2 / 1037 % 10).toNat) (fun k σ H1 => ∃ (s : Int) (v6 v7 v8 v9 : Option V) (ad : Int → Addr) (cs : Cells) (N : List Int) (t y : Int), σ = [some (.ref L.a), some (.ref rm), some (.ref sc), some (.ref cd), some (.int s), some (.ref ud), v6, v7, v8, v9] ∧
      AAt K H1 L { z with M := N, ot := t, yt := y } ∧ Geo { z with M := N, ot := t, yt := y } ∧ CellsO H1 cd ad cs ∧ Mem N cs ∧ Disj cs ∧ Placed t z.yb y cs ∧ Closed cs ∧ (size cs : Int) = t + (y - z.yb) ∧ (size cs : Int) ≤ z.oe ∧ cs.length ≤ k ∧ N.length = z.M.length ∧
      H1 ud = some (.lst [.int t, .int (y - z.yb)]) ∧ Keep [L.l, L.o, L.y] H H1 ∧ (∀ a ∈ keys cs, H (ad a) = none ∧ ad a ≠ ud))
      ⟨s0, none, none, none, none, fun _ => 0, [], z.M, z.ot, z.yt, rfl, A.same s2, G, ⟨?_, fun c hc => (by cases hc), fun a b ha => (by cases ha)⟩, fun c hc => (by cases hc), List.Pairwise.nil, fun c hc => (by cases hc), fun c hc => (by cases hc), ?_, ?_, by simp, rfl, ?_, (Keep.refl H).same s2, fun a ha => (by cases ha)⟩ ?_ ?_
    · rw [upd_ne ncu, upd_same]; rfl
    · simp [size]; omega
    · have := G.o0; have := G.o1; simp [size]; omega
    · rw [upd_same, e1, e2, Int.sub_self]
    · rintro k σ H1 hk ⟨s, v6, v7, v8, v9, ad, cs, N, t, y, rfl, A1, G1, co, hM, DJ, pl, cl, sz, szo, hlen, hN, hud, kk, fr⟩
      refine ⟨_, rfl, _, rfl, _, _, rfl, rfl, _, rfl, fun s1 => ?_⟩
      obtain ⟨n, hn, hn8⟩ : ∃ n : Nat, (if s1 / 25 % 7 = 3 then s1 / 175 % 9 else s1 / 5 % 5) = n ∧ n ≤ 8 := by
        split
        · exact ⟨(s1 / 175 % 9).toNat, by omega, by omega⟩
        · exact ⟨(s1 / 5 % 5).toNat, by omega, by omega⟩
      refine ⟨_, rfl, _, _, rfl, rfl, ⟨by decide, by decide⟩, _, _, rfl, rfl, (by show (0 : Int) < 5; decide), ?_⟩
      refine ⟨_, rfl, _, _, rfl, rfl, ⟨by decide, by decide⟩, _, _, rfl, rfl, (by show (0 : Int) < 7; decide), rfl, _, rfl, ifC (fun h3 => ⟨_, rfl, _, _, rfl, rfl, ⟨by decide, by decide⟩, _, _, rfl, rfl, (by show (0 : Int) < 9; decide), ?_⟩) (fun h3 => ?_)⟩
      all_goals first | rw [if_pos (V.int.inj h3)] at hn | rw [if_neg (fun e => h3 (congrArg V.int e))] at hn
      all_goals
        have hsd : s1 / 7 % 2 = 0 ∨ s1 / 7 % 2 = 1 := by omega
        have eu : mget [t, y - z.yb] (s1 / 7 % 2) = if s1 / 7 % 2 = 0 then t else y - z.yb := by rcases hsd with e | e <;> rw [e] <;> rfl
        have er : mget [z.oe, ry] (s1 / 7 % 2) = if s1 / 7 % 2 = 0 then z.oe else ry := by rcases hsd with e | e <;> rw [e] <;> rfl
        have hul : ud ≠ L.l := (ne_of_none hLl nud0).symm
        have hrm1 : H1 rm = some (.lst [.int z.oe, .int ry]) := kk _ _ hrm (by
          simp only [List.mem_cons, List.not_mem_nil, or_false, not_or]
          exact ⟨nrl, ne_of hrm holo lst_ins, ne_of hrm hyo lst_ins⟩)
        refine ⟨_, rfl, _, _, rfl, rfl, ⟨by decide, by decide⟩, _, _, rfl, rfl, (by show (0 : Int) < 2; decide), ?_⟩
        refine ⟨_, rfl, _, rfl, ud, _, _, _, rfl, rfl, SqL.of (xs := [t, y - z.yb].map V.int) hud, ints_at (by omega) (by show _ < ((2 : Nat) : Int); omega), _, rfl, _, _, rfl, rfl, _, _, rfl, rfl, _, rfl, _, rfl, rm, _, _, _, rfl, rfl, SqL.of (xs := [z.oe, ry].map V.int) hrm1, ints_at (by omega) (by show _ < ((2 : Nat) : Int); omega), _, _, rfl, rfl, _, rfl, ifC (fun h4 => ?_) (fun h4 => iteF ⟨s1, _, _, _, _, ad, cs, N, t, y, rfl, A1, G1, co, hM, DJ, pl, cl, sz, szo, by omega, hN, hud, kk, fr⟩)⟩
        refine ⟨_, rfl, ud, _, _, _, rfl, rfl, SqL.of hud, rfl, _, rfl, ud, _, _, _, rfl, rfl, SqL.of hud, rfl, _, _, rfl, rfl, _, rfl, _, _, rfl, rfl, _, _, rfl, rfl, _, rfl, rm, _, _, _, rfl, rfl, SqL.of hrm1, rfl, _, _, rfl, rfl, _, rfl, ifC (fun h5 => ?_) (fun h5 => ⟨s1, _, _, _, _, ad, cs, N, t, y, rfl, A1, G1, co, hM, DJ, pl, cl, sz, szo, by omega, hN, hud, kk, fr⟩)⟩
        rw [eu, er, hn] at h4
        rw [hn] at h5
        refine ⟨_, rfl, _, rfl, _, rfl, _, rfl, L, { z with M := N, ot := t, yt := y }, cd, ad, cs, s1 / 7 % 2, n, (by rw [← hn]; rfl), A1, G1, co, hM, DJ, pl, hn8, by omega, hsd, (fun e => ?_), (fun e => ?_), (fun a ha => (ne_of_none hLl (fr a ha).1).symm), fun N2 ad2 H2 hN2 A2 G2 co2 hM2 DJ2 pl2 ead fr2 nin k2 => ?_⟩
        · rw [if_pos e, if_pos e] at h4
          show t + (n : Int) + 1 ≤ z.oe
          exact h4
        · rw [if_neg (by omega), if_neg (by omega)] at h4
          show y + (n : Int) + 1 ≤ z.ye
          omega
        generalize htop : PV.top { z with M := N, ot := t, yt := y } (s1 / 7 % 2) = tp at co2 hM2 DJ2 pl2 fr2 nin ⊢
        have frn : H (ad2 tp) = none := A1.fresh kk fr2
        have nud2 : ad2 tp ≠ ud := fun e => by rw [e, hud] at fr2; cases fr2
        have hud2 : H2 ud = some (.lst ([t, y - z.yb].map V.int)) := k2 _ _ hud (by
          have tk := A.taken nud0
          simp only [List.mem_cons, List.not_mem_nil, or_false, forall_eq_or_imp, forall_eq, not_or] at tk ⊢
          exact ⟨hul, tk.2.2.2.1.symm, tk.2.2.2.2.1.symm, ncu.symm⟩)
        have cl2 := cl.snoc (a := tp) (n := n)
        have sz2 : size (cs ++ [(tp, List.replicate n (-1))]) = size cs + (n + 1) := by rw [size_snoc, List.length_replicate]
        have len2 : (cs ++ [(tp, List.replicate n (-1))]).length = cs.length + 1 := by rw [List.length_append]; rfl
        have fr3 : ∀ a ∈ keys (cs ++ [(tp, List.replicate n (-1))]), H (ad2 a) = none ∧ ad2 a ≠ ud := fun a ha => by
          rw [keys_snoc] at ha
          rcases List.mem_append.mp ha with h | h
          · rw [ead a h]
            exact fr a h
          · rw [List.mem_singleton.mp h]
            exact ⟨frn, nud2⟩
        refine ⟨_, rfl, _, rfl, ud, _, _, _, rfl, rfl, SqL.of hud2, ints_at (by omega) (by show _ < ((2 : Nat) : Int); omega), _, rfl, _, _, rfl, rfl, _, _, rfl, rfl, _, rfl, _, rfl, ud, _, _, _, rfl, rfl, hud2, ixN_of (by omega) (by show _ < ((2 : Nat) : Int); omega), ?_⟩
        have kk2 : Keep [L.l, L.o, L.y] H H2 := fun b o e nb => k2 _ _ (kk _ _ e nb) fun m => by
          rcases List.mem_append.mp (show b ∈ [L.l, L.o, L.y] ++ [cd] from m) with h | h
          · exact nb h
          · rw [List.mem_singleton.mp h, ncd] at e
            cases e
        have tk := A.taken nud0
        generalize hlv : PV.laid { z with M := N, ot := t, yt := y } N2 (s1 / 7 % 2) n = z2 at A2 G2 pl2
        have ez : z2 = { z with M := N2, ot := z2.ot, yt := z2.yt } := by rw [← hlv]; rfl
        have eot : z2.ot + (z2.yt - z.yb) = t + (y - z.yb) + (n + 1) := by
          rw [← hlv]
          unfold PV.laid
          rcases hsd with e | e <;> (rw [e]; simp; omega)
        have eset : ([t, y - z.yb].map V.int).set (s1 / 7 % 2).toNat (.int (mget [t, y - z.yb] (s1 / 7 % 2) + (n : Int) + 1)) = [.int z2.ot, .int (z2.yt - z.yb)] := by
          rw [eu, ← hlv]
          unfold PV.laid
          rcases hsd with e | e <;> (rw [e]; simp [Int.add_assoc]; try omega)
        rw [hn, eset]
        rw [ez] at A2 G2
        generalize z2.ot = t2 at *
        generalize z2.yt = y2 at *
        have A3 := A2.keep (D := [ud]) (keep_upd (d := ud) (o := .lst [.int t2, .int (y2 - z.yb)]) (Keep.refl H2) (by simp)) fun x hx => not1 (tk x hx)
        have co3 := co2.keep (D := [ud]) (keep_upd (d := ud) (o := .lst [.int t2, .int (y2 - z.yb)]) (Keep.refl H2) (by simp)) (not1 ncu) fun x hx => not1 (fr3 x hx).2
        have hN3 : N2.length = z.M.length := hN2.trans hN
        have hud3 : (upd H2 ud (.lst [.int t2, .int (y2 - z.yb)])) ud = some (.lst [.int t2, .int (y2 - z.yb)]) := upd_same
        have kk3 : Keep [L.l, L.o, L.y] H (upd H2 ud (.lst [.int t2, .int (y2 - z.yb)])) := fun b o e nb => by
          rw [upd_ne (ne_of_none e nud0)]
          exact kk2 _ _ e nb
        generalize upd H2 ud (.lst [.int t2, .int (y2 - z.yb)]) = H3 at *
        refine ⟨_, rfl, rfl, _, rfl, ifC (fun h6 => ?_) (fun h6 => iteF ⟨s1, _, _, _, _, ad2, _, N2, t2, y2, rfl, A3, G2, co3, hM2, DJ2, pl2, cl2, by omega, by omega, by omega, hN3, hud3, kk3, fr3⟩)⟩
        refine ⟨_, rfl, _, _, rfl, rfl, ⟨by decide, by decide⟩, _, _, rfl, rfl, (by show (0 : Int) < 2; decide), rfl, _, rfl, ifC (fun h7 => ?_) (fun h7 => ⟨s1, _, _, _, _, ad2, _, N2, t2, y2, rfl, A3, G2, co3, hM2, DJ2, pl2, cl2, by omega, by omega, by omega, hN3, hud3, kk3, fr3⟩)⟩
        obtain ⟨dxa, hao⟩ := A3.ar
        have cel := hM2 _ (List.mem_append_right _ (List.mem_singleton.mpr rfl))
        refine ⟨_, rfl, rd_Areas_memory T hao ⟨_, rfl, L.m, L.l, N2, tp, 1, List.replicate n (-1), rfl, A3.me, cel, by decide, by decide, ?_⟩⟩
        have A4 := A3.word (N := mset N2 (tp) (8 * (List.replicate n (-1 : Int)).length + 2 * 1)) mset_len
        refine ⟨s1, _, _, _, _, ad2, _, _, t2, y2, rfl, A4, ?_, co3.keep (D := [L.l]) (keep_upd (Keep.refl H3) (by simp)) ?_ ?_, hM2.aged DJ2 (List.mem_append_right _ (List.mem_singleton.mpr rfl)) (cel.aged (by decide) (by decide)), DJ2, pl2, cl2, by omega, by omega, by omega, mset_len.trans hN3, ?_, kk3.trans (keep_upd (Keep.refl H3) (by simp)), fr3⟩
        · exact G2.word mset_len
        · exact not1 (ne_of_none hLl ncd).symm
        · exact fun x hx => not1 (ne_of_none hLl (fr3 x hx).1).symm
        · rw [upd_ne hul]
          exact hud3
    · rintro σ H1 ⟨s, v6, v7, v8, v9, ad, cs, N, t, y, rfl, A1, G1, co, hM, DJ, pl, cl, sz, szo, hlen, hN, hud, kk, fr⟩
      exact ⟨_, rfl, q cd ad cs N t y H1 A1 G1 co hM DJ pl cl szo (by omega) hN kk ncd fun a ha => (fr a ha).1⟩
end Km
set_option Elab.async false
set_option linter.all false
set_option maxRecDepth 100000
set_option maxHeartbeats 4000000
/-! the slots filled -/
namespace Km
open PySem PySem.Spec PyProof.Rows L2
theorem BookO.same {K : PySem.W.Frag} {H H' : Hp} {b d : Addr} {kvs : List (Key × V)} (x : BookO K H b d kvs) (s : Same H H') : BookO K H' b d kvs := x.keep (D := []) (fun c o e _ => s c o e) (by simp) (by simp)
theorem RootO.same {K : PySem.W.Frag} {H H' : Hp} {r h b w la : Addr} (x : RootO K H r h b w la) (s : Same H H') : RootO K H' r h b w la := x.keep (D := []) (fun c o e _ => s c o e) (by simp)
/-- cells of one shape, what is written kept in both places -/
structure FillI (K : PySem.W.Frag) (H : Hp) (L : PL) (z : PV) (bd cd : Addr) (ad : Int → Addr) (cs : Cells) (H1 : Hp) (N : List Int) (ds : Cells) (kvs : List (Key × V)) : Prop where
  sh : shape ds = shape cs
  mem : Mem N ds
  dj : Disj ds
  cl : Closed ds
  len : N.length = z.M.length
  A : AAt K H1 L { z with M := N }
  R : RootO K H1 L.r L.h L.b L.w L.la
  B : BookO K H1 L.b bd kvs
  co : CellsO H1 cd ad ds
  kk : Keep ([L.l, bd] ++ (keys cs).map ad) H H1
theorem FillI.same {K : PySem.W.Frag} {H : Hp} {L : PL} {z : PV} {bd cd : Addr} {ad : Int → Addr} {cs : Cells} {H1 H2 : Hp} {N : List Int} {ds : Cells} {kvs : List (Key × V)} (f : FillI K H L z bd cd ad cs H1 N ds kvs) (s : Same H1 H2) : FillI K H L z bd cd ad cs H2 N ds kvs :=
  ⟨f.sh, f.mem, f.dj, f.cl, f.len, f.A.same s, f.R.same s, f.B.same s, f.co.same s, f.kk.same s⟩
theorem cells_bound {M : List Int} {cs : Cells} (m : Mem M cs) (h : M.length ≤ 1000) : ∀ a ∈ keys cs, 0 ≤ a ∧ a ≤ 9999 := fun a ha => by
  obtain ⟨ws, hw⟩ := keys_mem ha
  have h0 := (m _ hw).pos
  have h1 := (m _ hw).fit
  simp only at h0 h1
  omega
def sp_law_filled (K : PySem.W.Frag) : Sp := fun vs H Q _ => ∃ (L : PL) (z : PV) (bd cd : Addr) (kvs : List (Key × V)) (ad : Int → Addr) (cs : Cells) (s : Int), vs = [.ref L.a, .ref L.r, .ref cd, .int s] ∧ FillI K H L z bd cd ad cs H z.M cs kvs ∧ z.M.length ≤ 1000 ∧ cs.length ≤ 100 ∧ (∀ x ∈ keys cs, ad x ≠ L.l) ∧ bd ≠ cd ∧
  ∀ (N : List Int) (ds : Cells) (kvs' : List (Key × V)) (H' : Hp), FillI K H L z bd cd ad cs H' N ds kvs' → Q .non H'
theorem ok_law_filled {P : Program} {w : World} {K : PySem.W.Frag} {mg : Str → Option Value} {base : Heap} (T : Tx K mg) : FX P w K mg base 5 (He.ga K "_law_filled") ["_law_areas", "_law_roots", "_law_cells", "_law_seed"] (sp_law_filled K) := by
  refine fx_of T.f_law_filled sc_law_filled (fun _ _ _ _ _ _ us hl => match us, hl with | [_, _, _, _], _ => rfl) (fun vs H Q E h => ?_) (fun cdv A outer s H vs Q E hr h => ?_)
  · obtain ⟨_, _, _, _, _, _, _, _, rfl, _⟩ := h
    rfl
  · obtain ⟨L, z, bd, cd, kvs, ad, cs, s0, rfl, F, hml, hcl, hal, nbc, q⟩ := h
    refine ⟨_, (pss_one (ps_for PassesOwn.never rfl (pi_list (pe_callTy (call_list_dK rfl) (by rfl) T.n_list (by decide +kernel) (pa_cons (pv 2) pa_nil))) (pg_name (i := 4) sc_law_filled.nd rfl (Or.inl rfl)) (pss_one (ps_for PassesOwn.never rfl (pi_range1 (by rfl) T.n_range (pa_cons (pe_callB call_len_seq (by rfl) T.n_len PySem.boot_len (pa_cons (pe_dget (hu_of hr) (pv 2) (pv 4) (fun _ _ => rfl)) pa_nil)) pa_nil)) (pg_name (i := 5) sc_law_filled.nd rfl (Or.inl rfl)) (pss_cons (ps_set (i := 3) sc_law_filled.nd rfl (Or.inl rfl) (pe_callF (ok_law_next (K := K) T) (hr.mono (by decide)) (by rfl) T.g_law_next (pa_cons (pe_op op_add (pv 3) (pv 5)) pa_nil)))
      (pss_one (ps_expr (pe_callF (ok_law_write (K := K) T) (hr.mono (by decide)) (by rfl) T.g_law_write (pa_cons (pv 0) (pa_cons (pv 1) (pa_cons (pv 2) (pa_cons (pv 4) (pa_cons (pv 5) (pa_cons (pe_callF (ok_law_word (K := K) T) (hr.mono (by decide)) (by rfl) T.g_law_word (pa_cons (pv 2) (pa_cons (pv 3) pa_nil))) pa_nil)))))))))))))), ?_⟩
    refine ⟨_, rfl, cd, _, rfl, F.co.d, fun p np => ?_⟩
    have npad : ∀ x ∈ keys cs, ad x ≠ p := fun x hx => by
      obtain ⟨ws, hw⟩ := keys_mem hx
      exact ne_of_none (F.co.l _ hw) np
    have npl : L.l ≠ p := ne_of_none F.A.me.w np
    have npb : bd ≠ p := ne_of_none F.B.d np
    have s1 := same_new (o := .lst ((kI (csV ad cs)).map fun kv => kV kv.1)) np
    have hp1 : (upd H p (.lst ((kI (csV ad cs)).map fun kv => kV kv.1))) p = some (.lst ((keys cs).map V.int)) := by rw [upd_same, csV_keys]
    refine ⟨p, rfl, ⟨_, SqL.of hp1⟩, for_list (K := K) (a := p) (xs := (keys cs).map V.int) (fun i σ H1 => ∃ (s : Int) (v4 v5 : Option V) (N : List Int) (ds : Cells) (kvs : List (Key × V)), σ = [some (.ref L.a), some (.ref L.r), some (.ref cd), some (.int s), v4, v5] ∧ FillI K H L z bd cd ad cs H1 N ds kvs ∧ H1 p = some (.lst ((keys cs).map V.int)))
      ⟨s0, none, none, z.M, cs, kvs, rfl, F.same s1, hp1⟩ (fun i σ H1 _ ⟨_, _, _, _, _, _, _, _, h⟩ => SqL.of h) ?_ ?_⟩
    · rintro i x σ H1 hi ⟨s, v4, v5, N, ds, kvs1, rfl, F1, hp⟩
      obtain ⟨a, rfl, ha, _⟩ := ints_ix hi
      have hak : a ∈ keys cs := List.mem_of_getElem? ha
      obtain ⟨ws0, hw0⟩ := keys_mem hak
      obtain ⟨ws1, hw1, el1⟩ := shape_mem F1.sh hw0
      have hl1 := F1.co.l _ hw1
      have hc8 := (F1.mem _ hw1).len
      simp only at hl1 hc8
      refine ⟨_, rfl, _, rfl, cd, _, rfl, dgetI (.inl F1.co.d) (csV_in (mem_keys hw1)), ad a, _, rfl, .inl (SqL.of hl1), _, rfl, by omega, by rw [List.length_map]; omega, ?_⟩
      refine for_range (lo := 0) (n := (((ws1.map V.int).length : Nat) : Int).toNat) (fun k σ H2 => ∃ (s : Int) (v5 : Option V) (N : List Int) (ds : Cells) (kvs : List (Key × V)), σ = [some (.ref L.a), some (.ref L.r), some (.ref cd), some (.int s), some (.int a), v5] ∧ FillI K H L z bd cd ad cs H2 N ds kvs ∧ H2 p = some (.lst ((keys cs).map V.int)))
        ⟨s, v5, N, ds, kvs1, rfl, F1, hp⟩ ?_ ?_
      · rintro k σ H2 hk ⟨s, v5, N, ds, kvs2, rfl, F2, hp2⟩
        obtain ⟨ws2, hw2, el2⟩ := shape_mem F2.sh hw0
        have hk2 : k < ws2.length := by rw [List.length_map] at hk; omega
        refine ⟨_, rfl, _, rfl, _, _, rfl, rfl, _, rfl, fun s2 => ?_⟩
        refine ⟨_, rfl, _, rfl, _, rfl, _, rfl, _, rfl, _, rfl, _, rfl, cd, ad, ds, s2, rfl, F2.co.d, cells_bound F2.mem (by rw [F2.len]; exact hml), fun w H3 okw s3 => ?_⟩
        have F3 := F2.same s3
        have hp3 := s3 _ _ hp2
        refine ⟨L, { z with M := N }, bd, cd, kvs2, ad, ds, a, ws2, k, w, (by rw [Int.zero_add]; rfl), F3.A, F3.R, F3.B, F3.co, F3.mem, F3.dj, hw2, hk2, okw.1, by show N.length ≤ 1000; rw [F3.len]; exact hml, (fun x hx => hal x (by rw [← shape_keys F3.sh]; exact hx)), ?_, fun kvs4 H4 A4 B4 co4 k4 => ?_⟩
        · exact nbc
        · refine ⟨_, _, _, _, _, rfl, ⟨shape_set.trans F3.sh, F3.mem.set F3.dj hw2 hk2, F3.dj.set, F3.cl.set okw, mset_len.trans F3.len, A4, F3.R.keep k4 ?_, B4, co4, F3.kk.trans (k4.mono ?_)⟩, k4 _ _ hp3 ?_⟩
          · obtain ⟨dr, hr⟩ := F3.R
            simp only [List.mem_cons, List.not_mem_nil, or_false, not_or]
            exact ⟨ne_of hr F3.A.me.w ins_nl, (ne_of F3.B.d hr dk_ins).symm, (ne_of (F3.co.l _ hw2) hr lst_ins).symm⟩
          · intro d hd
            simp only [List.mem_cons, List.not_mem_nil, or_false] at hd
            rcases hd with e | e | e
            · rw [e]; simp
            · rw [e]; simp
            · rw [e]
              exact List.mem_append_right _ (List.mem_map.mpr ⟨a, hak, rfl⟩)
          · simp only [List.mem_cons, List.not_mem_nil, or_false, not_or]
            exact ⟨npl.symm, npb.symm, (npad a hak).symm⟩
      · rintro σ H2 ⟨s, v5, N, ds, kvs2, rfl, F2, hp2⟩
        exact ⟨_, _, _, _, _, _, rfl, F2, hp2⟩
    · rintro σ H1 ⟨s, v4, v5, N, ds, kvs1, rfl, F1, hp⟩
      exact q N ds kvs1 H1 F1
end Km
set_option Elab.async false
set_option linter.all false
set_option maxRecDepth 100000
set_option maxHeartbeats 4000000
/-! weak names and last words asked for -/
namespace Km
open PySem PySem.Spec PyProof.Rows L2
theorem sqL_same {K : PySem.W.Frag} {H H' : Hp} {a : Addr} {xs : List V} (h : SqL K H a xs) (s : Same H H') : SqL K H' a xs :=
  Or.elim h (fun h => .inl (Or.elim h (fun h => .inl (s _ _ h)) fun ⟨o, h⟩ => .inr ⟨o, s _ _ h⟩)) fun h => .inr h
/-- all these addresses hold lists and dicts -/
def Bulk (H : Hp) (D : List Addr) : Prop := ∀ d ∈ D, (∃ xs, H d = some (.lst xs)) ∨ ∃ kvs, H d = some (.dK kvs)
theorem Bulk.ins {H : Hp} {D : List Addr} (b : Bulk H D) {p C dx : Addr} {fs : List (Str × V)} (h : H p = some (.ins C dx fs)) : p ∉ D := fun m => by
  rcases b p m with ⟨_, e⟩ | ⟨_, e⟩ <;> (rw [h] at e; cases e)
theorem Bulk.tup {H : Hp} {D : List Addr} (b : Bulk H D) {p : Addr} {xs : List V} (h : H p = some (.tup xs)) : p ∉ D := fun m => by
  rcases b p m with ⟨_, e⟩ | ⟨_, e⟩ <;> (rw [h] at e; cases e)
theorem WeakO.keep {D : List Addr} {K : PySem.W.Frag} {H H' : Hp} {w wl : Addr} {told : List (Option Int)} (x : WeakO K H w wl told) (k : Keep D H H') (b : Bulk H D) (n : wl ∉ D) : WeakO K H' w wl told := by
  obtain ⟨dx, h⟩ := x.o
  exact ⟨⟨dx, k _ _ h (b.ins h)⟩, k _ _ x.l n⟩
theorem LastO.keep {D : List Addr} {K : PySem.W.Frag} {H H' : Hp} {la ll sl : Addr} {W : List Tick} {S : List Int} (x : LastO K H la ll sl W S) (k : Keep D H H') (b : Bulk H D) (n1 : ll ∉ D) (n2 : sl ∉ D) : LastO K H' la ll sl W S := by
  obtain ⟨dx, h⟩ := x.o
  obtain ⟨vs, h2, h3⟩ := x.w
  exact ⟨⟨dx, k _ _ h (b.ins h)⟩, ⟨vs, k _ _ h2 n1, h3.keep fun t ys e => k _ _ e (b.tup e)⟩, k _ _ x.s n2, x.ne⟩
/-- the law's dict of names -/
def nmFrom : Nat → List (Option Int) → List (Int × V)
  | _, [] => []
  | n, o :: r => ((n : Int), oV o) :: nmFrom (n + 1) r
theorem nm_len : ∀ {l : List (Option Int)} {n : Nat}, (nmFrom n l).length = l.length
  | [], _ => rfl
  | _ :: r, n => by
    show (nmFrom (n + 1) r).length + 1 = r.length + 1
    rw [nm_len]
theorem nm_snoc : ∀ {l : List (Option Int)} {n : Nat} {o : Option Int}, nmFrom n (l ++ [o]) = nmFrom n l ++ [(((n + l.length : Nat) : Int), oV o)]
  | [], n, o => rfl
  | x :: r, n, o => by
    show ((n : Int), oV x) :: nmFrom (n + 1) (r ++ [o]) = (((n : Int), oV x) :: nmFrom (n + 1) r) ++ _
    rw [nm_snoc, List.length_cons, show n + (r.length + 1) = n + 1 + r.length by omega]
    rfl
theorem nm_look : ∀ {l : List (Option Int)} {n i : Nat}, (nmFrom n l).lookup (((n + i : Nat) : Int)) = (l[i]?).map oV
  | [], n, i => rfl
  | x :: r, n, 0 => by
    show List.lookup _ (((n : Int), oV x) :: nmFrom (n + 1) r) = _
    rw [lk_cons, if_pos (by rw [Nat.add_zero])]
    rfl
  | x :: r, n, i + 1 => by
    show List.lookup _ (((n : Int), oV x) :: nmFrom (n + 1) r) = _
    rw [lk_cons, if_neg (by omega), show n + (i + 1) = n + 1 + i by omega, nm_look]
    rfl
theorem nm_look0 {l : List (Option Int)} {i : Nat} : (nmFrom 0 l).lookup (i : Int) = (l[i]?).map oV := by
  have := nm_look (l := l) (n := 0) (i := i)
  rw [Nat.zero_add] at this
  exact this
theorem nm_map {m : Nat} {o : Option Int} : ∀ {l : List (Option Int)} {n : Nat}, (kI (nmFrom n l)).map (fun kv => if kv.1 = (Sum.inl (m : Int) : Key) then (kv.1, oV o) else kv) = kI (nmFrom n (if n ≤ m then l.set (m - n) o else l))
  | [], n => by
    split <;> rfl
  | x :: r, n => by
    show (if (Sum.inl (n : Int) : Key) = Sum.inl (m : Int) then ((Sum.inl (n : Int) : Key), oV o) else ((Sum.inl (n : Int) : Key), oV x)) :: (kI (nmFrom (n + 1) r)).map _ = _
    rw [nm_map]
    by_cases h : n ≤ m
    · by_cases h2 : n = m
      · subst h2
        rw [if_pos rfl, if_pos h, if_neg (by omega), Nat.sub_self]
        rfl
      · rw [if_neg (fun e => h2 (by have := Sum.inl.inj e; omega)), if_pos h, if_pos (by omega), show m - n = (m - (n + 1)) + 1 by omega]
        rfl
    · rw [if_neg (fun e => h (by have := Sum.inl.inj e; omega)), if_neg h, if_neg (by omega)]
      rfl
theorem nm_put {l : List (Option Int)} {i : Nat} {o : Option Int} (h : i < l.length) : putK (kI (nmFrom 0 l)) (Sum.inl (i : Int) : Key) (oV o) = kI (nmFrom 0 (l.set i o)) := by
  unfold putK
  rw [valV_any, valV_kI, nm_look0, List.getElem?_eq_getElem h, if_pos (show (Option.map oV (some l[i])).isSome = true from rfl), nm_map, if_pos (Nat.zero_le _), Nat.sub_zero]
theorem cut_ints {ns : List Int} {lo hi : Option Int} : ∃ ms : List Int, cutV (ns.map V.int) lo hi = ms.map V.int ∧ ms.length ≤ ns.length := by
  refine ⟨(ns.drop (HT.sIx ns.length 0 lo)).take (HT.sIx ns.length ns.length hi - HT.sIx ns.length 0 lo), ?_, ?_⟩
  · unfold cutV
    rw [List.length_map, List.map_take, List.map_drop]
  · rw [List.length_take, List.length_drop]
    omega
theorem pend_len : ∀ {l : List Tick} {n : Nat}, (pendFrom n l).length ≤ l.length
  | [], _ => Nat.le_refl _
  | none :: r, n => Nat.le_succ_of_le (pend_len (l := r) (n := n + 1))
  | some (a, k) :: r, n => Nat.succ_le_succ (pend_len (l := r) (n := n + 1))
/-- what the tables tell -/
structure TabI (K : PySem.W.Frag) (L : PL) (cs : Cells) (S : List Int) (nd td : Addr) (told : List (Option Int)) (W : List Tick) (H : Hp) : Prop where
  we : WeakO K H L.w L.wl told
  la : LastO K H L.la L.ll L.sl W S
  nm : H nd = some (.dK (kI (nmFrom 0 told)))
  tk : ∃ xs, H td = some (.lst xs) ∧ Rows H xs (pendFrom 0 W)
  tc : ∀ a, some a ∈ told → a ∈ keys cs
  wc : ∀ a n, some (a, n) ∈ W → a ∈ keys cs
theorem TabI.same {K : PySem.W.Frag} {L : PL} {cs : Cells} {S : List Int} {nd td : Addr} {told : List (Option Int)} {W : List Tick} {H H' : Hp} (t : TabI K L cs S nd td told W H) (s : Same H H') : TabI K L cs S nd td told W H' := by
  obtain ⟨xs, h1, h2⟩ := t.tk
  exact ⟨t.we.same s, t.la.same s, s _ _ t.nm, ⟨xs, s _ _ h1, h2.same s⟩, t.tc, t.wc⟩
/-- a name more -/
theorem TabI.name {K : PySem.W.Frag} {L : PL} {cs : Cells} {S : List Int} {nd td : Addr} {told : List (Option Int)} {W : List Tick} {H : Hp} {a : Int} (t : TabI K L cs S nd td told W H) (ha : a ∈ keys cs) (hdis : [L.wl, L.ll, L.sl, td].Nodup) :
    TabI K L cs S nd td (told ++ [some a]) W (upd (upd H L.wl (.lst ((told ++ [some a]).map oV))) nd (.dK (kI (nmFrom 0 (told ++ [some a]))))) := by
  simp only [List.nodup_cons, List.mem_cons, List.not_mem_nil, or_false, not_or] at hdis
  obtain ⟨⟨d1, d2, d3⟩, ⟨d4, d5⟩, d6, _⟩ := hdis
  obtain ⟨xs, hx, hr⟩ := t.tk
  obtain ⟨vs, hv, _⟩ := t.la.w
  have b : Bulk H [L.wl, nd] := by
    intro d hd
    simp only [List.mem_cons, List.not_mem_nil, or_false] at hd
    rcases hd with e | e
    · rw [e]; exact .inl ⟨_, t.we.l⟩
    · rw [e]; exact .inr ⟨_, t.nm⟩
  have k : Keep [L.wl, nd] H (upd (upd H L.wl (.lst ((told ++ [some a]).map oV))) nd (.dK (kI (nmFrom 0 (told ++ [some a]))))) := keep_upd (keep_upd (Keep.refl H) (by simp)) (by simp)
  have nn : nd ≠ L.wl := ne_of t.nm t.we.l dk_nl
  have mem2 : ∀ {x : Addr}, x ≠ L.wl → x ≠ nd → x ∉ [L.wl, nd] := fun h1 h2 => by simp [h1, h2]
  obtain ⟨dx, hw⟩ := t.we.o
  refine ⟨⟨⟨dx, k _ _ hw (b.ins hw)⟩, by rw [upd_ne nn.symm, upd_same]⟩, t.la.keep k b (mem2 (Ne.symm d1) (ne_of t.nm hv dk_nl).symm) (mem2 (Ne.symm d2) (ne_of t.nm t.la.s dk_nl).symm), upd_same, ⟨xs, k _ _ hx (mem2 (Ne.symm d3) (ne_of t.nm hx dk_nl).symm), hr.keep fun u ys e => k _ _ e (b.tup e)⟩, fun c hc => ?_, t.wc⟩
  rcases List.mem_append.mp hc with h | h
  · exact t.tc c h
  · rw [Option.some.inj (List.mem_singleton.mp h)]
    exact ha
/-- a name gone -/
theorem TabI.gone {K : PySem.W.Frag} {L : PL} {cs : Cells} {S : List Int} {nd td : Addr} {told : List (Option Int)} {W : List Tick} {H : Hp} {i : Nat} (t : TabI K L cs S nd td told W H) (hdis : [L.wl, L.ll, L.sl, td].Nodup) :
    TabI K L cs S nd td (told.set i none) W (upd (upd H L.wl (.lst ((told.set i none).map oV))) nd (.dK (kI (nmFrom 0 (told.set i none))))) := by
  simp only [List.nodup_cons, List.mem_cons, List.not_mem_nil, or_false, not_or] at hdis
  obtain ⟨⟨d1, d2, d3⟩, ⟨d4, d5⟩, d6, _⟩ := hdis
  obtain ⟨xs, hx, hr⟩ := t.tk
  obtain ⟨vs, hv, _⟩ := t.la.w
  have b : Bulk H [L.wl, nd] := by
    intro d hd
    simp only [List.mem_cons, List.not_mem_nil, or_false] at hd
    rcases hd with e | e
    · rw [e]; exact .inl ⟨_, t.we.l⟩
    · rw [e]; exact .inr ⟨_, t.nm⟩
  have k : Keep [L.wl, nd] H (upd (upd H L.wl (.lst ((told.set i none).map oV))) nd (.dK (kI (nmFrom 0 (told.set i none))))) := keep_upd (keep_upd (Keep.refl H) (by simp)) (by simp)
  have nn : nd ≠ L.wl := ne_of t.nm t.we.l dk_nl
  have mem2 : ∀ {x : Addr}, x ≠ L.wl → x ≠ nd → x ∉ [L.wl, nd] := fun h1 h2 => by simp [h1, h2]
  obtain ⟨dx, hw⟩ := t.we.o
  refine ⟨⟨⟨dx, k _ _ hw (b.ins hw)⟩, by rw [upd_ne nn.symm, upd_same]⟩, t.la.keep k b (mem2 (Ne.symm d1) (ne_of t.nm hv dk_nl).symm) (mem2 (Ne.symm d2) (ne_of t.nm t.la.s dk_nl).symm), upd_same, ⟨xs, k _ _ hx (mem2 (Ne.symm d3) (ne_of t.nm hx dk_nl).symm), hr.keep fun u ys e => k _ _ e (b.tup e)⟩, fun c hc => ?_, t.wc⟩
  rcases List.mem_or_eq_of_mem_set hc with h | h
  · exact t.tc c h
  · cases h
/-- a last word more: H' is what give leaves, its tuple and the row's end are laid then -/
theorem TabI.give {K : PySem.W.Frag} {L : PL} {cs : Cells} {S : List Int} {nd td u : Addr} {told : List (Option Int)} {W : List Tick} {H H' : Hp} {a n : Int} {xs : List V} (t : TabI K L cs S nd td told W H) (ha : a ∈ keys cs) (hdis : [L.wl, L.ll, L.sl, td].Nodup)
    (la : LastO K H' L.la L.ll L.sl (W ++ [some (a, n)]) S) (kl : KeepLL L.ll L.sl H H') (nu : H' u = none) (hx : H td = some (.lst xs)) (hr : Rows H xs (pendFrom 0 W)) :
    TabI K L cs S nd td told (W ++ [some (a, n)]) (upd (upd H' u (.tup [.int (W.length : Nat), .int a, .int n])) td (.lst (xs ++ [.ref u]))) := by
  simp only [List.nodup_cons, List.mem_cons, List.not_mem_nil, or_false, not_or] at hdis
  obtain ⟨⟨d1, d2, d3⟩, ⟨d4, d5⟩, d6, _⟩ := hdis
  obtain ⟨vs, hv, _⟩ := t.la.w
  obtain ⟨vs2, hv2, _⟩ := la.w
  have kk : Keep [L.ll, L.sl] H H' := fun b o e nb => by
    simp only [List.mem_cons, List.not_mem_nil, or_false, not_or] at nb
    exact kl b o e nb.1 nb.2
  have bH : Bulk H [L.ll, L.sl] := by
    intro d hd
    simp only [List.mem_cons, List.not_mem_nil, or_false] at hd
    rcases hd with e | e
    · rw [e]; exact .inl ⟨_, hv⟩
    · rw [e]; exact .inl ⟨_, t.la.s⟩
  have mem2 : ∀ {x : Addr}, x ≠ L.ll → x ≠ L.sl → x ∉ [L.ll, L.sl] := fun h1 h2 => by simp [h1, h2]
  have hx1 : H' td = some (.lst xs) := kk _ _ hx (mem2 (Ne.symm d5) (Ne.symm d6))
  have ntu : td ≠ u := ne_of_none hx1 nu
  have s1 : Same H' (upd H' u (.tup [.int (W.length : Nat), .int a, .int n])) := same_new nu
  have b1 : Bulk (upd H' u (.tup [.int (W.length : Nat), .int a, .int n])) [td] := fun d hd => by
    rw [List.mem_singleton.mp hd]
    exact .inl ⟨_, s1 _ _ hx1⟩
  have k1 : Keep [td] (upd H' u (.tup [.int (W.length : Nat), .int a, .int n])) (upd (upd H' u (.tup [.int (W.length : Nat), .int a, .int n])) td (.lst (xs ++ [.ref u]))) := keep_upd (Keep.refl _) (by simp)
  have hnm := s1 _ _ (kk _ _ t.nm (mem2 (ne_of t.nm hv dk_nl) (ne_of t.nm t.la.s dk_nl)))
  refine ⟨((t.we.keep kk bH (mem2 d1 d2)).same s1).keep k1 b1 (not1 d3), (la.same s1).keep k1 b1 (not1 d5) (not1 d6), k1 _ _ hnm (not1 (ne_of hnm (s1 _ _ hx1) dk_nl)), ⟨_, upd_same, ?_⟩, t.tc, fun c m hc => ?_⟩
  · rw [pendFrom_snoc, Nat.zero_add]
    refine (((hr.keep fun v ys e => kk _ _ e (bH.tup e)).same s1).lst (s1 _ _ hx1)).snoc ?_
    rw [upd_ne ntu.symm, upd_same]
    rfl
  · rcases List.mem_append.mp hc with h | h
    · exact t.wc c m h
    · rw [(Prod.mk.inj (Option.some.inj (List.mem_singleton.mp h))).1]
      exact ha
def sp_law_tabled (K : PySem.W.Frag) : Sp := fun vs H Q _ => ∃ (L : PL) (cd sc nd td : Addr) (ad : Int → Addr) (cs : Cells) (ns S : List Int), vs = [.ref L.r, .ref cd, .ref sc, .ref nd, .ref td] ∧ RootO K H L.r L.h L.b L.w L.la ∧ TabI K L cs S nd td [] [] H ∧ H cd = some (.dK (kI (csV ad cs))) ∧ (∀ a ∈ keys cs, 0 ≤ a ∧ a ≤ 9999) ∧ cs.length ≤ 100 ∧
  SqL K H sc (ns.map V.int) ∧ ns.length ≤ 900 ∧ [L.wl, L.ll, L.sl, td].Nodup ∧ cd ≠ nd ∧
  ∀ (told : List (Option Int)) (W : List Tick) (H' : Hp), TabI K L cs S nd td told W H' → told.length ≤ ns.length → W.length ≤ ns.length → Keep [L.wl, L.ll, L.sl, nd, td] H H' → Q .non H'
theorem ok_law_tabled {P : Program} {w : World} {K : PySem.W.Frag} {mg : Str → Option Value} {base : Heap} (T : Tx K mg) : FX P w K mg base 5 (He.ga K "_law_tabled") ["_law_roots", "_law_cells", "_law_script", "_law_names", "_law_tickets"] (sp_law_tabled K) := by
  refine fx_of T.f_law_tabled sc_law_tabled (fun _ _ _ _ _ _ us hl => match us, hl with | [_, _, _, _, _], _ => rfl) (fun vs H Q E h => ?_) (fun cdv A outer s H vs Q E hr h => ?_)
  · obtain ⟨_, _, _, _, _, _, _, _, _, rfl, _⟩ := h
    rfl
  · obtain ⟨L, cd, sc, nd, td, ad, cs, ns, S, rfl, R, T0, hcd, hb, hcl, hsc, hns, hdis, ncn, q⟩ := h
    have hkl : (keys cs).length = cs.length := by unfold keys; rw [List.length_map]
    obtain ⟨dxr, hro⟩ := R
    refine ⟨_, (pss_cons (ps_set (i := 5) sc_law_tabled.nd rfl (Or.inl rfl) (pe_callTy (call_list_dK rfl) (by rfl) T.n_list (by decide +kernel) (pa_cons (pv 1) pa_nil)))
      (pss_cons (ps_for PassesOwn.never rfl (pi_list (pe_slice sl_list (pv 2) (po_some pe_int) (po_some pe_int))) (pg_name (i := 6) sc_law_tabled.nd rfl (Or.inl rfl)) (pss_cons (ps_if (pt_cmpR (op_eqLI hr.units) (pv 5) (pe_lst pa_nil) (nomark _)) (pss_one ps_retN) pss_nil)
      (pss_cons (ps_set (i := 7) sc_law_tabled.nd rfl (Or.inl rfl) (pe_ix ix_list (pv 5) (pe_op op_mod (pe_op op_fdiv (pv 6) pe_int) (pe_callB call_len_seq (by rfl) T.n_len PySem.boot_len (pa_cons (pv 5) pa_nil))) (fun _ _ => rfl)))
      (pss_one (ps_if (pt_cmpR op_eq (pe_op op_mod (pv 6) pe_int) pe_int (nomark _)) (pss_one (ps_dput (hu_of hr) (pv 3) (pe_methF (pe_fld (pv 0) rfl) T.cl_Weak T.m_Weak_name (ok_Weak_name (K := K) T) (hr.mono (by decide)) (pa_cons (pv 7) pa_nil)) (pv 7) rfl)) (pss_one (ps_expr (pe_bm PySem.F.plainAttrs_list PySem.F.slot_list_append PySem.F.type_list_append mt_append (pv 4) (pa_cons (pe_tup (pa_cons (pe_methF (pe_fld (pv 0) rfl) T.cl_Lasts T.m_Lasts_give (ok_Lasts_give (K := K) T) (hr.mono (by decide)) (pa_cons (pv 7) (pa_cons (pe_op op_sub (pe_op op_mod (pe_op op_fdiv (pv 6) pe_int) pe_int) pe_int) pa_nil))) (pa_cons (pv 7) (pa_cons (pe_op op_sub (pe_op op_mod (pe_op op_fdiv (pv 6) pe_int) pe_int) pe_int) pa_nil)))) pa_nil)))))))))
      (pss_one (ps_if (pt_cmpR op_gt (pe_callB call_lenD (by rfl) T.n_len PySem.boot_len (pa_cons (pv 3) pa_nil)) pe_int (nomark _)) (pss_cons (ps_expr (pe_methF (pe_fld (pv 0) rfl) T.cl_Weak T.m_Weak_gone (ok_Weak_gone (K := K) T) (hr.mono (by decide)) (pa_cons pe_int pa_nil)))
      (pss_one (ps_dput (hu_of hr) (pv 3) pe_int pe_non rfl))) pss_nil)))), ?_⟩
    refine ⟨_, rfl, cd, _, rfl, hcd, fun p np => ?_⟩
    have s1 := same_new (o := .lst ((kI (csV ad cs)).map fun kv => kV kv.1)) np
    have hp1 : (upd H p (.lst ((kI (csV ad cs)).map fun kv => kV kv.1))) p = some (.lst ((keys cs).map V.int)) := by rw [upd_same, csV_keys]
    generalize upd H p (.lst ((kI (csV ad cs)).map fun kv => kV kv.1)) = H1 at s1 hp1 ⊢
    refine ⟨_, rfl, 8, rfl, 20, rfl, sc, _, rfl, sqL_same hsc s1, fun p2 np2 => ?_⟩
    obtain ⟨ms, ems, hms⟩ := cut_ints (ns := ns) (lo := some 8) (hi := some 20)
    have s2 := s1.trans (same_new (o := .lst (ms.map V.int)) np2)
    have hp : (upd H1 p2 (.lst (ms.map V.int))) p = some (.lst ((keys cs).map V.int)) := same_new np2 _ _ hp1
    have hp2 : (upd H1 p2 (.lst (ms.map V.int))) p2 = some (.lst (ms.map V.int)) := upd_same
    rw [ems]
    generalize upd H1 p2 (.lst (ms.map V.int)) = H2 at s2 hp hp2 ⊢
    have np2' : H p2 = none := by
      cases e : H p2 with
      | none => rfl
      | some o => rw [s1 _ _ e] at np2; cases np2
    have bD : Bulk H [L.wl, L.ll, L.sl, nd, td] := by
      obtain ⟨vs, hv, _⟩ := T0.la.w
      obtain ⟨xs, hx, _⟩ := T0.tk
      intro d hd
      simp only [List.mem_cons, List.not_mem_nil, or_false] at hd
      rcases hd with e | e | e | e | e <;> rw [e]
      · exact .inl ⟨_, T0.we.l⟩
      · exact .inl ⟨_, hv⟩
      · exact .inl ⟨_, T0.la.s⟩
      · exact .inr ⟨_, T0.nm⟩
      · exact .inl ⟨_, hx⟩
    have newD : ∀ {x : Addr}, H x = none → x ∉ [L.wl, L.ll, L.sl, nd, td] := fun e m => by
      rcases bD _ m with ⟨_, h⟩ | ⟨_, h⟩ <;> (rw [e] at h; cases h)
    refine ⟨p2, rfl, ⟨_, SqL.of hp2⟩, for_list (K := K) (a := p2) (xs := ms.map V.int) (fun i σ H3 => ∃ (v6 v7 : Option V) (told : List (Option Int)) (W : List Tick), σ = [some (.ref L.r), some (.ref cd), some (.ref sc), some (.ref nd), some (.ref td), some (.ref p), v6, v7] ∧ TabI K L cs S nd td told W H3 ∧
      (∀ x ∈ told, ∃ a, x = some a) ∧ told.length ≤ i ∧ W.length ≤ i ∧ Keep [L.wl, L.ll, L.sl, nd, td] H2 H3)
      ⟨none, none, [], [], rfl, T0.same s2, fun x hx => (by cases hx), Nat.le_refl _, Nat.le_refl _, Keep.refl _⟩ (fun i σ H3 _ ⟨_, _, _, _, _, _, _, _, _, k⟩ => SqL.of (k _ _ hp2 (newD np2'))) ?_ ?_⟩
    · rintro i x σ H3 hi ⟨v6, v7, told, W, rfl, t, tall, tl, wl, k⟩
      obtain ⟨cell, rfl, hcell, hilt⟩ := ints_ix hi
      have hp3 := k _ _ hp (newD np)
      have hro3 := k _ _ (s2 _ _ hro) (bD.ins hro)
      refine ⟨_, rfl, by decide, fun e ne => ⟨p, e, keys cs, [], rfl, rfl, SqL.of (same_new ne _ _ hp3), SqL.of upd_same, _, rfl, ifC (fun h0 => ?_) (fun h0 => ?_)⟩⟩
      · exact q told W _ (t.same (same_new ne)) (by omega) (by omega) (Keep.same (fun b o e nb => k b o (s2 b o e) nb) (same_new ne))
      · have s4 := same_new (o := .lst []) ne
        have t4 := t.same s4
        have hp4 := s4 _ _ hp3
        have hro4 := s4 _ _ hro3
        have k4 : Keep [L.wl, L.ll, L.sl, nd, td] H2 (upd H3 e (.lst [])) := k.same s4
        generalize upd H3 e (.lst []) = H4 at s4 t4 hp4 hro4 k4 ⊢
        have hne : keys cs ≠ [] := h0
        have hl0 : 0 < (keys cs).length := List.length_pos_iff.mpr hne
        obtain ⟨dxw, how⟩ := t4.we.o
        obtain ⟨dxl, hol⟩ := t4.la.o
        obtain ⟨xs, hx, hr⟩ := t4.tk
        have hxl := hr.len
        refine ⟨_, rfl, _, rfl, _, _, rfl, rfl, ⟨by decide, by decide⟩, _, rfl, p, _, rfl, .inl (SqL.of hp4), _, _, rfl, rfl, (by rw [List.length_map]; omega), ?_⟩
        rw [List.length_map]
        have hi0 : 0 ≤ cell / 3 % ((keys cs).length : Int) := Int.emod_nonneg _ (by omega)
        have hi1 : cell / 3 % ((keys cs).length : Int) < (keys cs).length := Int.emod_lt_of_pos _ (by omega)
        have hmem : mget (keys cs) (cell / 3 % ((keys cs).length : Int)) ∈ keys cs := List.mem_of_getElem? (mget_some hi0 hi1)
        refine ⟨p, _, _, _, rfl, rfl, SqL.of hp4, ints_at hi0 hi1, ?_⟩
        obtain ⟨b0, b1⟩ := hb _ hmem
        generalize mget (keys cs) (cell / 3 % ((keys cs).length : Int)) = a at hmem b0 b1 ⊢
        refine ⟨_, rfl, _, _, rfl, rfl, (by show (0 : Int) < 3; decide), rfl, _, rfl, ifC (fun h5 => ?_) (fun h5 => ?_)⟩
        · refine ⟨_, rfl, _, rfl, _, rfl, rd_Roots_weaks T hro4 (me_Weak_name how ⟨_, rfl, L.w, L.wl, told, a, rfl, t4.we, b0, b1, by omega, nd, _, rfl, dputI (xs := nmFrom 0 told) ?_ ?_ ?_, ?_⟩)⟩
          · rw [upd_ne (ne_of t4.nm t4.we.l dk_nl)]
            exact t4.nm
          · rw [nm_look0, List.getElem?_eq_none (Nat.le_refl _)]
            rfl
          · rw [nm_len]; omega
          · have e6 : nmFrom 0 told ++ [((told.length : Int), V.int a)] = nmFrom 0 (told ++ [some a]) := by rw [nm_snoc, Nat.zero_add]; rfl
            rw [e6]
            refine ⟨_, _, told ++ [some a], W, rfl, t4.name hmem hdis, fun x hx => ?_, ?_, by omega, keep_upd (keep_upd k4 (by simp)) (by simp)⟩
            · rcases List.mem_append.mp hx with h | h
              · exact tall x h
              · exact ⟨a, List.mem_singleton.mp h⟩
            · rw [List.length_append, List.length_singleton]; omega
        · refine ⟨_, rfl, .inl ⟨rfl, _, SqL.of hx⟩, _, rfl, rd_Roots_lasts T hro4 (me_Lasts_give hol ⟨_, rfl, _, rfl, _, _, rfl, rfl, ⟨by decide, by decide⟩, _, _, rfl, rfl, (by show (0 : Int) < 2001; decide), _, _, rfl, rfl, L.la, L.ll, L.sl, W, S, a, _, rfl, t4.la, b0, b1, (by show -1000000000000 ≤ cell / 30 % 2001 - 1000; omega), (by show cell / 30 % 2001 - 1000 ≤ 1000000000000; omega), by omega, fun H5 la5 kl5 => ?_⟩)⟩
          refine ⟨_, rfl, _, rfl, _, _, rfl, rfl, ⟨by decide, by decide⟩, _, _, rfl, rfl, (by show (0 : Int) < 2001; decide), _, _, rfl, rfl, by show 3 ≤ sizeLine; decide, fun u nu => ?_⟩
          simp only [List.nodup_cons, List.mem_cons, List.not_mem_nil, or_false, not_or] at hdis
          have hx5 : H5 td = some (.lst xs) := kl5 _ _ hx (Ne.symm hdis.2.1.2) (Ne.symm hdis.2.2.1)
          refine ⟨td, _, _, rfl, rfl, same_new nu _ _ hx5, small1000 (by have := pend_len (l := W) (n := 0); omega), ?_⟩
          refine ⟨_, _, told, W ++ [some (a, cell / 30 % 2001 - 1000)], rfl, t4.give hmem (by simp only [List.nodup_cons, List.mem_cons, List.not_mem_nil, or_false, not_or]; exact hdis) la5 kl5 nu hx hr, tall, by omega, by rw [List.length_append, List.length_singleton]; omega, ?_⟩
          refine keep_upd ((k4.trans (fun b o e nb => kl5 b o e ?_ ?_)).same (same_new nu)) (by simp)
          · exact fun z => nb (by rw [z]; simp)
          · exact fun z => nb (by rw [z]; simp)
    · rintro σ H3 ⟨v6, v7, told, W, rfl, t, tall, tl, wl, k⟩
      rw [List.length_map] at tl wl
      have hro3 := k _ _ (s2 _ _ hro) (bD.ins hro)
      have kH : Keep [L.wl, L.ll, L.sl, nd, td] H H3 := fun b o e nb => k b o (s2 b o e) nb
      refine ⟨_, rfl, nd, _, rfl, t.nm, _, _, rfl, rfl, _, rfl, ifC (fun h6 => ?_) (fun h6 => ?_)⟩
      · rw [kI_len, nm_len] at h6
        obtain ⟨dxw, how⟩ := t.we.o
        obtain ⟨a1, e1⟩ := tall _ (List.getElem_mem (n := 1) (show 1 < told.length by omega))
        refine ⟨_, rfl, rd_Roots_weaks T hro3 (me_Weak_gone how ⟨L.w, L.wl, told, 1, a1, rfl, t.we, by rw [List.getElem?_eq_getElem (show 1 < told.length by omega), e1], ?_⟩)⟩
        refine ⟨_, rfl, nd, _, rfl, DPut.k (k := (Sum.inl ((1 : Nat) : Int) : Key)) (by rw [upd_ne (ne_of t.nm t.we.l dk_nl)]; exact t.nm) (small1000 (by rw [kI_len, nm_len]; omega)), ?_⟩
        rw [show V.non = oV none from rfl, nm_put (by omega)]
        refine q _ W _ (t.gone hdis) (by rw [List.length_set]; omega) (by omega) (keep_upd (keep_upd kH (by simp)) (by simp))
      · exact q told W H3 t (by omega) (by omega) kH
end Km
set_option Elab.async false
set_option linter.all false
set_option maxRecDepth 100000
set_option maxHeartbeats 4000000
/-! the law's own walk: what the hands reach; words turned -/
namespace Km
open PySem PySem.Spec PyProof.Rows L2
theorem inV_ints {a : Int} : ∀ {F : List Int}, inV (.int a) (F.map V.int) = decide (a ∈ F)
  | [] => by simp [inV]
  | b :: r => by
    have ih := inV_ints (a := a) (F := r)
    unfold inV at ih ⊢
    rw [List.map_cons, List.any_cons, ih]
    by_cases h : b = a
    · subst h
      simp [eqV]
    · have h2 : ¬ a = b := fun e => h e.symm
      simp [eqV, h, h2]
theorem flat_ints : ∀ {F : List Int}, (F.map V.int).all flatV = true
  | [] => rfl
  | b :: r => by
    rw [List.map_cons, List.all_cons, flat_ints]
    rfl
structure RowI (cs : Cells) (st F row : List Int) : Prop where
  g : Grow cs st F
  re : ∀ x ∈ row, Reach cs st x
  rt : ∀ x ∈ st, x ∈ F ∨ x ∈ row
  cl : ∀ y ws, y ∈ F → (y, ws) ∈ cs → ∀ z ∈ kids ws, z ∈ F ∨ z ∈ row
  len : row.length ≤ st.length + 8 * F.length
theorem RowI.skip {cs : Cells} {st F r : List Int} {a : Int} (h : RowI cs st F (r ++ [a])) (ha : a ∈ F) : RowI cs st F r := by
  refine ⟨h.g, fun x hx => h.re x (List.mem_append_left _ hx), fun x hx => ?_, fun y ws hy hw z hz => ?_, ?_⟩
  · rcases h.rt x hx with q | q
    · exact .inl q
    · rcases List.mem_append.mp q with q | q
      · exact .inr q
      · rw [List.mem_singleton.mp q]; exact .inl ha
  · rcases h.cl y ws hy hw z hz with q | q
    · exact .inl q
    · rcases List.mem_append.mp q with q | q
      · exact .inr q
      · rw [List.mem_singleton.mp q]; exact .inl ha
  · have := h.len
    rw [List.length_append, List.length_singleton] at this
    omega
theorem RowI.take {cs : Cells} {st F r ws : List Int} {a : Int} (h : RowI cs st F (r ++ [a])) (D : Disj cs) (ha : a ∉ F) (hw : (a, ws) ∈ cs) (hl : ws.length ≤ 8) : RowI cs st (F ++ [a]) (r ++ kids ws) := by
  have ra := h.re a (List.mem_append_right _ (List.mem_singleton.mpr rfl))
  have sub : ∀ {x}, (x ∈ F ∨ x ∈ r ++ [a]) → x ∈ F ++ [a] ∨ x ∈ r ++ kids ws := fun {x} q => by
    rcases q with q | q
    · exact .inl (List.mem_append_left _ q)
    · rcases List.mem_append.mp q with q | q
      · exact .inr (List.mem_append_left _ q)
      · exact .inl (List.mem_append_right _ q)
  refine ⟨h.g.add ha ra, fun x hx => ?_, fun x hx => sub (h.rt x hx), fun y vs hy hv z hz => ?_, ?_⟩
  · rcases List.mem_append.mp hx with q | q
    · exact h.re x (List.mem_append_left _ q)
    · exact .step ra hw q
  · rcases List.mem_append.mp hy with q | q
    · exact sub (h.cl y vs q hv z hz)
    · rw [List.mem_singleton.mp q] at hv
      rw [D.uniq hv hw] at hz
      exact .inr (List.mem_append_right _ hz)
  · have := h.len
    have h2 : (kids ws).length ≤ ws.length := by unfold kids; rw [List.length_map]; exact List.length_filter_le _ _
    rw [List.length_append, List.length_singleton] at this
    rw [List.length_append, List.length_append, List.length_singleton]
    omega
theorem RowI.done {cs : Cells} {st F : List Int} (h : RowI cs st F []) (x : Int) : x ∈ F ↔ Reach cs st x :=
  reach_iff h.g.re (fun x hx => (h.rt x hx).resolve_right (by simp)) fun x ws hx hw z hz => (h.cl x ws hx hw z hz).resolve_right (by simp)
def sp_law_reached (K : PySem.W.Frag) : Sp := fun vs H Q _ => ∃ (cd hd : Addr) (ad : Int → Addr) (cs : Cells) (hs : List Int), vs = [.ref cd, .ref hd] ∧ CellsO H cd ad cs ∧ H hd = some (.lst (hs.map V.int)) ∧ Disj cs ∧ Closed cs ∧ (∀ w ∈ hs, OkIn cs w) ∧ (∀ c ∈ cs, c.2.length ≤ 8) ∧ cs.length ≤ 100 ∧ hs.length ≤ 100 ∧
  ∀ (S : List Int) (p : Addr) (H' : Hp), Kept cs (kids hs) S → H p = none → Same H H' → H' p = some (.lst (S.map V.int)) → Q (.ref p) H'
theorem ok_law_reached {P : Program} {w : World} {K : PySem.W.Frag} {mg : Str → Option Value} {base : Heap} (T : Tx K mg) : FX P w K mg base 1 (He.ga K "_law_reached") ["_law_cells", "_law_hands"] (sp_law_reached K) := by
  refine fx_of T.f_law_reached sc_law_reached (fun _ _ _ _ _ _ us hl => match us, hl with | [_, _], _ => rfl) (fun vs H Q E h => ?_) (fun cdv A outer s H vs Q E hr h => ?_)
  · obtain ⟨_, _, _, _, _, rfl, _⟩ := h
    rfl
  · obtain ⟨cd, hd, ad, cs, hs, rfl, co, hh, DJ, C, hok, h8, hcl, hhl, q⟩ := h
    have hst : ∀ x ∈ kids hs, x ∈ keys cs := fun x hx => by
      obtain ⟨w, hw, pp, e⟩ := mem_kids.mp hx
      rw [← e]
      exact (hok w hw).2 pp
    have hkl : (kids hs).length ≤ hs.length := by unfold kids; rw [List.length_map]; exact List.length_filter_le _ _
    refine ⟨_, (pss_cons (ps_set (i := 2) sc_law_reached.nd rfl (Or.inl rfl) (pe_lst pa_nil))
      (pss_cons (ps_setLc (i := 3) (own := [("_law_word_here", 5)]) rfl sc_law_reached.nd rfl rfl (sw_true rfl rfl rfl (by decide +kernel)) (pi_list (pv 1)) (blkOk_by (N := N_law_reached) (sc := defScope s_law_reached) (by decide +kernel)) (fun _ _ _ _ _ => (pg_name (i := 5) sc_law_reached.nd rfl (Or.inl rfl) (Or.inr rfl))) (fun _ _ _ _ _ => (pts_one (PW.pt (pw_and (pt_cmpR op_gt (pv 5) pe_int (nomark _)) (pw_and1 (pt_cmpR op_eq (pe_op op_mod (pv 5) pe_int) pe_int (nomark _))))))) (fun _ _ _ _ _ => (pe_op op_fdiv (pv 5) pe_int)))
      (pss_cons (ps_while PassesOwn.never (pt_cmpR (op_neLI hr.units) (pv 3) (pe_lst pa_nil) (nomark _)) (pss_cons (ps_set (i := 4) sc_law_reached.nd rfl (Or.inl rfl) (pe_bm0 PySem.F.plainAttrs_list PySem.F.slot_list_pop PySem.F.type_list_pop mt_pop (pv 3)))
      (pss_one (ps_if (pt_cmpR op_notIn_seq (pv 4) (pv 2) rfl) (pss_cons (ps_expr (pe_bm PySem.F.plainAttrs_list PySem.F.slot_list_append PySem.F.type_list_append mt_append (pv 2) (pa_cons (pv 4) pa_nil)))
      (pss_one (ps_set (i := 3) sc_law_reached.nd rfl (Or.inl rfl) (pe_op op_cat (pv 3) (pe_lc (own := [("_law_word_here", 5)]) rfl sc_law_reached.nd (pi_list (pe_dget (hu_of hr) (pv 0) (pv 4) (fun _ _ => rfl))) (blkOk_by (N := N_law_reached) (sc := defScope s_law_reached) (by decide +kernel)) (fun _ _ _ _ _ => (pg_name (i := 5) sc_law_reached.nd rfl (Or.inl rfl) (Or.inr rfl))) (fun _ _ _ _ _ => (pts_one (PW.pt (pw_and (pt_cmpR op_gt (pv 5) pe_int (nomark _)) (pw_and1 (pt_cmpR op_eq (pe_op op_mod (pv 5) pe_int) pe_int (nomark _))))))) (fun _ _ _ _ _ => (pe_op op_fdiv (pv 5) pe_int))))))) pss_nil))))
      (pss_one (ps_ret (pe_callB cr_sortedI (by rfl) T.n_sorted (by decide +kernel) (pa_cons (pv 2) pa_nil))))))), ?_⟩
    refine ⟨Nat.zero_le _, fun pf npf => ?_⟩
    have s1 := same_new (o := .lst []) npf
    have hf1 : (upd H pf (.lst [])) pf = some (.lst (([] : List Int).map V.int)) := upd_same
    generalize upd H pf (.lst []) = H1 at s1 hf1 ⊢
    refine ⟨_, rfl, hd, rfl, ⟨_, SqL.of (s1 _ _ hh)⟩, fun D nD => ?_⟩
    refine lc_list (K := K) (a := hd) (xs := hs.map V.int) (fun i H2 => Same H1 H2 ∧ H2 D = some (.lst ((kids (hs.take i)).map V.int))) ⟨same_new nD, upd_same⟩ (fun i H2 _ ⟨s, _⟩ => SqL.of (s _ _ (s1 _ _ hh))) ?_ ?_
    · rintro i y H2 hi ⟨sm, hD⟩
      obtain ⟨x, rfl, hx, hil⟩ := ints_ix hi
      have sk : isP x = false → (Same H1 H2 ∧ H2 D = some (.lst ((kids (hs.take (i + 1))).map V.int))) := fun pp => by
        refine ⟨sm, ?_⟩
        rw [kids_take hx, if_neg (by rw [pp]; exact Bool.false_ne_true), List.append_nil]
        exact hD
      refine ⟨rfl, _, rfl, _, _, rfl, rfl, _, rfl, ifC (fun h1 => ?_) (fun h1 => iteF (sk (decide_eq_false fun z => h1 z.1)))⟩
      refine ⟨_, rfl, _, _, rfl, rfl, (by show (0 : Int) < 2; decide), rfl, _, rfl, ifC (fun h2 => ?_) (fun h2 => sk (decide_eq_false fun z => h2 (congrArg V.int z.2)))⟩
      have pp : isP x = true := decide_eq_true ⟨h1, V.int.inj h2⟩
      refine ⟨_, rfl, _, _, rfl, rfl, ⟨by decide, by decide⟩, _, hD, ?_, same_mut sm nD, ?_⟩
      · have := List.length_filter_le isP (hs.take i)
        have := List.length_take_le i hs
        rw [List.length_map]
        unfold kids
        rw [List.length_map]
        exact small1000 (by omega)
      · rw [upd_same, kids_take hx, if_pos pp, List.map_append]
        rfl
    rintro H2 ⟨s2, hD2⟩
    rw [List.length_map, List.take_length] at hD2
    have nD0 : H D = none := s1.free nD
    have nfD : pf ≠ D := ne_of_none hf1 nD
    refine ⟨fun μ σ H3 => ∃ (F row : List Int) (pr : Addr) (v4 v5 : Option V), σ = [some (.ref cd), some (.ref hd), some (.ref pf), some (.ref pr), v4, v5] ∧ Same H H3 ∧ H3 pf = some (.lst (F.map V.int)) ∧ H3 pr = some (.lst (row.map V.int)) ∧ pf ≠ pr ∧ H pr = none ∧ RowI cs (kids hs) F row ∧ μ = row.length + 9 * (cs.length - F.length),
      ⟨_, [], kids hs, D, none, none, rfl, s1.trans s2, s2 _ _ hf1, hD2, nfD, nD0, ⟨⟨List.nodup_nil, fun x hx => (by cases hx)⟩, fun x hx => .root hx, fun x hx => .inr hx, fun y ws hy => (by cases hy), by omega⟩, rfl⟩, ?_⟩
    rintro μ σ H3 ⟨F, row, pr, v4, v5, rfl, s3, hf3, hr3, nfr, npr, ri, rfl⟩
    have hFl := ri.g.len C hst
    have hrl := ri.len
    refine ⟨_, rfl, Nat.zero_le _, fun e ne => ⟨pr, e, row, [], rfl, rfl, SqL.of (same_new ne _ _ hr3), SqL.of upd_same, _, rfl, ?_⟩⟩
    have s4 : Same H3 (upd H3 e (.lst [])) := same_new ne
    have s34 := s3.trans s4
    have hf4 := s4 _ _ hf3
    have hr4 := s4 _ _ hr3
    generalize upd H3 e (.lst []) = H4 at s4 s34 hf4 hr4 ⊢
    by_cases hrow : row = []
    · rw [decide_eq_true hrow]
      refine iteF ⟨_, rfl, pf, F, rfl, SqL.of hf4, fun S2 p4 hp4 hup4 np4 => ?_⟩
      rw [hrow] at ri
      exact q S2 p4 _ (kept_of ri.g.nd ri.done hp4 hup4) (s34.free np4) (s34.trans (same_new np4)) upd_same
    · rw [decide_eq_false hrow]
      obtain ⟨r, a, rfl⟩ : ∃ r a, row = r ++ [a] := ⟨row.dropLast, row.getLast hrow, (List.dropLast_concat_getLast hrow).symm⟩
      refine iteT ⟨fun σ' H' => ∃ (F2 row2 : List Int) (pr2 : Addr) (v4 v5 : Option V), σ' = [some (.ref cd), some (.ref hd), some (.ref pf), some (.ref pr2), v4, v5] ∧ Same H H' ∧ H' pf = some (.lst (F2.map V.int)) ∧ H' pr2 = some (.lst (row2.map V.int)) ∧ pf ≠ pr2 ∧ H pr2 = none ∧ RowI cs (kids hs) F2 row2 ∧ row2.length + 9 * (cs.length - F2.length) < (r ++ [a]).length + 9 * (cs.length - F.length),
        fun σ' H' ⟨F', row', pr', v4', v5', e, a1, a2, a3, a4, a5, a6, a7⟩ => ⟨_, a7, F', row', pr', v4', v5', e, a1, a2, a3, a4, a5, a6, rfl⟩, ?_⟩
      rw [List.length_append, List.length_singleton] at hrl
      refine ⟨_, rfl, .inl ⟨rfl, _, SqL.of hr4⟩, pr, _, .int a, rfl, rfl, hr4, by simp, ?_⟩
      have e5 : ((r ++ [a]).map V.int).dropLast = r.map V.int := by rw [List.map_append]; simp
      rw [e5]
      have s5 : Same H (upd H4 pr (.lst (r.map V.int))) := same_mut s34 npr
      have hf5 : (upd H4 pr (.lst (r.map V.int))) pf = some (.lst (F.map V.int)) := by rw [upd_ne nfr]; exact hf4
      have hr5 : (upd H4 pr (.lst (r.map V.int))) pr = some (.lst (r.map V.int)) := upd_same
      generalize upd H4 pr (.lst (r.map V.int)) = H5 at s5 hf5 hr5 ⊢
      refine ⟨_, rfl, _, rfl, pf, _, rfl, .inl (SqL.of hf5), rfl, flat_ints, ?_⟩
      rw [inV_ints]
      have ra := ri.re a (List.mem_append_right _ (List.mem_singleton.mpr rfl))
      by_cases ha : a ∈ F
      · rw [decide_eq_true ha]
        refine ⟨_, rfl, iteF ⟨F, r, pr, _, _, rfl, s5, hf5, hr5, nfr, npr, ri.skip ha, ?_⟩⟩
        rw [List.length_append, List.length_singleton]
        omega
      · rw [decide_eq_false ha]
        obtain ⟨ws, hw⟩ := keys_mem (ra.key C hst)
        have hw8 := h8 _ hw
        simp only at hw8
        have co5 := co.same s5
        refine ⟨_, rfl, iteT ?_⟩
        refine ⟨_, rfl, .inl ⟨rfl, _, SqL.of hf5⟩, _, rfl, pf, _, _, rfl, rfl, hf5, small1000 (by rw [List.length_map]; omega), ?_⟩
        have e6 : F.map V.int ++ [V.int a] = (F ++ [a]).map V.int := by rw [List.map_append]; rfl
        rw [e6]
        have npf0 : H pf = none := npf
        have s6 : Same H (upd H5 pf (.lst ((F ++ [a]).map V.int))) := same_mut s5 npf0
        have hf6 : (upd H5 pf (.lst ((F ++ [a]).map V.int))) pf = some (.lst ((F ++ [a]).map V.int)) := upd_same
        have hr6 : (upd H5 pf (.lst ((F ++ [a]).map V.int))) pr = some (.lst (r.map V.int)) := by rw [upd_ne nfr.symm]; exact hr5
        generalize upd H5 pf (.lst ((F ++ [a]).map V.int)) = H6 at s6 hf6 hr6 ⊢
        have co6 := co.same s6
        have hl6 := co6.l _ hw
        simp only at hl6
        refine ⟨_, rfl, _, rfl, _, rfl, cd, _, rfl, dgetI (.inl co6.d) (csV_in (mem_keys hw)), ad a, rfl, ⟨_, SqL.of hl6⟩, fun D6 nD6 => ?_⟩
        refine lc_list (K := K) (a := ad a) (xs := ws.map V.int) (fun i H2 => Same H6 H2 ∧ H2 D6 = some (.lst ((kids (ws.take i)).map V.int))) ⟨same_new nD6, upd_same⟩ (fun i H2 _ ⟨s, _⟩ => SqL.of (s _ _ hl6)) ?_ ?_
        · rintro i y H2 hi ⟨sm, hD⟩
          obtain ⟨x, rfl, hx, hil⟩ := ints_ix hi
          have sk : isP x = false → (Same H6 H2 ∧ H2 D6 = some (.lst ((kids (ws.take (i + 1))).map V.int))) := fun pp => by
            refine ⟨sm, ?_⟩
            rw [kids_take hx, if_neg (by rw [pp]; exact Bool.false_ne_true), List.append_nil]
            exact hD
          refine ⟨rfl, _, rfl, _, _, rfl, rfl, _, rfl, ifC (fun h1 => ?_) (fun h1 => iteF (sk (decide_eq_false fun z => h1 z.1)))⟩
          refine ⟨_, rfl, _, _, rfl, rfl, (by show (0 : Int) < 2; decide), rfl, _, rfl, ifC (fun h2 => ?_) (fun h2 => sk (decide_eq_false fun z => h2 (congrArg V.int z.2)))⟩
          have pp : isP x = true := decide_eq_true ⟨h1, V.int.inj h2⟩
          refine ⟨_, rfl, _, _, rfl, rfl, ⟨by decide, by decide⟩, _, hD, ?_, same_mut sm nD6, ?_⟩
          · have := List.length_filter_le isP (ws.take i)
            have := List.length_take_le i ws
            rw [List.length_map]
            unfold kids
            rw [List.length_map]
            exact small1000 (by omega)
          · rw [upd_same, kids_take hx, if_pos pp, List.map_append]
            rfl
        rintro H7 ⟨s7, hD7⟩
        rw [List.length_map, List.take_length] at hD7
        have hkw : (kids ws).length ≤ ws.length := by unfold kids; rw [List.length_map]; exact List.length_filter_le _ _
        refine ⟨pr, D6, _, _, rfl, rfl, s7 _ _ hr6, hD7, ?_, fun pr2 npr2 => ?_⟩
        · rw [List.length_map, List.length_map]; exact Nat.le_trans (show r.length + (kids ws).length ≤ 1000 by omega) (by decide)
        rw [← List.map_append]
        have s67 := s6.trans s7
        have hlen : (F ++ [a]).length ≤ cs.length := (ri.take DJ ha hw hw8).g.len C hst
        refine ⟨F ++ [a], r ++ kids ws, pr2, _, _, rfl, s67.trans (same_new npr2), same_new npr2 _ _ (s7 _ _ hf6), upd_same, ne_of_none (s7 _ _ hf6) npr2, s67.free npr2, ri.take DJ ha hw hw8, ?_⟩
        rw [List.length_append, List.length_singleton] at hlen
        rw [List.length_append, List.length_append, List.length_append, List.length_singleton]
        omega
/-- a word turned -/
def sp_law_turned (K : PySem.W.Frag) : Sp := fun vs H Q _ => ∃ (wd : Addr) (wh : List (Int × Int)) (w : Int), vs = [.int w, .ref wd] ∧ H wd = some (.dK (kI (whV wh))) ∧ Turns wh w ∧ Q (.int (turnW wh w)) H
theorem ok_law_turned {P : Program} {w : World} {K : PySem.W.Frag} {mg : Str → Option Value} {base : Heap} (T : Tx K mg) : FX P w K mg base 1 (He.ga K "_law_turned") ["_law_word_here", "_law_where"] (sp_law_turned K) := by
  refine fx_of T.f_law_turned sc_law_turned (fun _ _ _ _ _ _ us hl => match us, hl with | [_, _], _ => rfl) (fun vs H Q E h => ?_) (fun cdv A outer s H vs Q E hr h => ?_)
  · obtain ⟨_, _, _, rfl, _⟩ := h
    rfl
  · obtain ⟨wd, wh, w, rfl, hwd, ⟨okw, ht⟩, q⟩ := h
    refine ⟨_, (pss_cons (ps_if (PW.pt (pw_and (pt_cmpR op_gt (pv 0) pe_int (nomark _)) (pw_and1 (pt_cmpR op_eq (pe_op op_mod (pv 0) pe_int) pe_int (nomark _))))) (pss_one (ps_ret (pe_op op_add (pe_op op_mul pe_int (pe_dget (hu_of hr) (pv 1) (pe_op op_fdiv (pv 0) pe_int) (fun _ _ => rfl))) pe_int))) pss_nil)
      (pss_one (ps_ret (pv 0)))), ?_⟩
    unfold turnW at q
    refine ⟨_, rfl, _, _, rfl, rfl, _, rfl, ifC (fun h1 => ?_) (fun h1 => iteF ?_)⟩
    · refine ⟨_, rfl, _, _, rfl, rfl, (by show (0 : Int) < 2; decide), rfl, _, rfl, ifC (fun h2 => ?_) (fun h2 => ?_)⟩
      · have pp : isP w = true := decide_eq_true ⟨h1, V.int.inj h2⟩
        obtain ⟨g, e, g0, g1⟩ := ht pp
        rw [if_pos pp, e] at q
        exact ⟨_, rfl, _, rfl, _, _, rfl, rfl, ⟨by decide, by decide⟩, wd, _, rfl, dgetI (.inl hwd) (by rw [whV_look, e]; rfl), _, _, rfl, rfl, .inl ⟨by decide, by decide⟩, _, _, rfl, rfl, q⟩
      · have pp : isP w = false := decide_eq_false fun z => h2 (congrArg V.int z.2)
        rw [if_neg (by rw [pp]; exact Bool.false_ne_true)] at q
        exact ⟨_, rfl, q⟩
    · have pp : isP w = false := decide_eq_false fun z => h1 z.1
      rw [if_neg (by rw [pp]; exact Bool.false_ne_true)] at q
      exact ⟨_, rfl, q⟩
end Km
set_option Elab.async false
set_option linter.all false
set_option maxRecDepth 100000
set_option maxHeartbeats 4000000
/-! the law's tables -/
namespace Km
open PySem PySem.Spec PyProof.Rows L2
theorem ix_tupK {X : Cx} {K : PySem.W.Frag} (h : X.K = K) : IxR X (rIxT K) := by
  subst h
  exact ix_tup
theorem pe_fldK {X : Cx} {K : PySem.W.Frag} {e : Expr} {ta : TE} {f : Str} {pos : Pos} (h : X.K = K) (he : PE X e ta) (hb : attributeBase e f X.env (eval e X.env) = eval e X.env) : PE X (.Attribute e f pos) (tFld K ta f) := by
  subst h
  exact pe_fld he hb
theorem op_neLIK {X : Cx} {K : PySem.W.Frag} (h : X.K = K) (hu : X.A.units + 64 < cLine) : OpR X (compareOp .NotEq) (rNeLI K) := by
  subst h
  exact op_neLI hu
def sdV (cd hd nd td xd : Addr) : List (Key × V) := [(Sum.inr "cells", .ref cd), (Sum.inr "hands", .ref hd), (Sum.inr "names", .ref nd), (Sum.inr "tickets", .ref td), (Sum.inr "said", .ref xd)]
theorem k_ne {x y : Str} {v : V} (h : ¬ x = y) : ¬ ((Sum.inr x : Key), v).1 = Sum.inr y := fun e => h (Sum.inr.inj e)
theorem sd_cells {H : Hp} {sd cd hd nd td xd : Addr} (h : H sd = some (.dK (sdV cd hd nd td xd))) : DGet H sd (.str "cells") (some (.ref cd)) :=
  .inl ⟨_, Sum.inr "cells", .inl h, rfl, by unfold sdV; rw [valV_pos rfl]⟩
theorem sd_hands {H : Hp} {sd cd hd nd td xd : Addr} (h : H sd = some (.dK (sdV cd hd nd td xd))) : DGet H sd (.str "hands") (some (.ref hd)) :=
  .inl ⟨_, Sum.inr "hands", .inl h, rfl, by unfold sdV; rw [valV_neg (k_ne (by decide +kernel)), valV_pos rfl]⟩
theorem sd_names {H : Hp} {sd cd hd nd td xd : Addr} (h : H sd = some (.dK (sdV cd hd nd td xd))) : DGet H sd (.str "names") (some (.ref nd)) :=
  .inl ⟨_, Sum.inr "names", .inl h, rfl, by unfold sdV; rw [valV_neg (k_ne (by decide +kernel)), valV_neg (k_ne (by decide +kernel)), valV_pos rfl]⟩
theorem sd_tickets {H : Hp} {sd cd hd nd td xd : Addr} (h : H sd = some (.dK (sdV cd hd nd td xd))) : DGet H sd (.str "tickets") (some (.ref td)) :=
  .inl ⟨_, Sum.inr "tickets", .inl h, rfl, by unfold sdV; rw [valV_neg (k_ne (by decide +kernel)), valV_neg (k_ne (by decide +kernel)), valV_neg (k_ne (by decide +kernel)), valV_pos rfl]⟩
theorem sd_said {H : Hp} {sd cd hd nd td xd : Addr} (h : H sd = some (.dK (sdV cd hd nd td xd))) : DGet H sd (.str "said") (some (.ref xd)) :=
  .inl ⟨_, Sum.inr "said", .inl h, rfl, by unfold sdV; rw [valV_neg (k_ne (by decide +kernel)), valV_neg (k_ne (by decide +kernel)), valV_neg (k_ne (by decide +kernel)), valV_neg (k_ne (by decide +kernel)), valV_pos rfl]⟩
theorem put_no {x y : Str} {v z : V} (h : ¬ x = y) : (if ((Sum.inr x : Key), v).1 = Sum.inr y then (((Sum.inr x : Key), v).1, z) else ((Sum.inr x : Key), v)) = ((Sum.inr x : Key), v) := if_neg (k_ne h)
theorem put_yes {x : Str} {v z : V} : (if ((Sum.inr x : Key), v).1 = Sum.inr x then (((Sum.inr x : Key), v).1, z) else ((Sum.inr x : Key), v)) = ((Sum.inr x : Key), z) := if_pos rfl
theorem dput_sd {H : Hp} {sd : Addr} {kvs kvs' : List (Key × V)} {x : Str} {v : V} (h : H sd = some (.dK kvs)) (hl : kvs.length ≤ 1000) (hi : (valV kvs (Sum.inr x : Key)).isSome = true) (e : kvs.map (fun kv => if kv.1 = (Sum.inr x : Key) then (kv.1, v) else kv) = kvs') :
    DPut H sd (.str x) v (upd H sd (.dK kvs')) := by
  have : putK kvs (Sum.inr x : Key) v = kvs' := by
    unfold putK
    rw [valV_any, if_pos hi, e]
  rw [← this]
  exact DPut.k (k := (Sum.inr x : Key)) h (small1000 hl)
theorem sdp_cells {H : Hp} {sd cd hd nd td xd z : Addr} (h : H sd = some (.dK (sdV cd hd nd td xd))) : DPut H sd (.str "cells") (.ref z) (upd H sd (.dK (sdV z hd nd td xd))) :=
  dput_sd h (by show 5 ≤ 1000; decide) (by unfold sdV; rw [valV_pos rfl]; rfl) (by
    unfold sdV
    simp only [List.map_cons, List.map_nil]
    rw [if_pos trivial, put_no (by decide +kernel), put_no (by decide +kernel), put_no (by decide +kernel), put_no (by decide +kernel)])
theorem sdp_hands {H : Hp} {sd cd hd nd td xd z : Addr} (h : H sd = some (.dK (sdV cd hd nd td xd))) : DPut H sd (.str "hands") (.ref z) (upd H sd (.dK (sdV cd z nd td xd))) :=
  dput_sd h (by show 5 ≤ 1000; decide) (by unfold sdV; rw [valV_neg (k_ne (by decide +kernel)), valV_pos rfl]; rfl) (by
    unfold sdV
    simp only [List.map_cons, List.map_nil]
    rw [put_no (by decide +kernel), if_pos trivial, put_no (by decide +kernel), put_no (by decide +kernel), put_no (by decide +kernel)])
theorem sdp_names {H : Hp} {sd cd hd nd td xd z : Addr} (h : H sd = some (.dK (sdV cd hd nd td xd))) : DPut H sd (.str "names") (.ref z) (upd H sd (.dK (sdV cd hd z td xd))) :=
  dput_sd h (by show 5 ≤ 1000; decide) (by unfold sdV; rw [valV_neg (k_ne (by decide +kernel)), valV_neg (k_ne (by decide +kernel)), valV_pos rfl]; rfl) (by
    unfold sdV
    simp only [List.map_cons, List.map_nil]
    rw [put_no (by decide +kernel), put_no (by decide +kernel), if_pos trivial, put_no (by decide +kernel), put_no (by decide +kernel)])
theorem sdp_tickets {H : Hp} {sd cd hd nd td xd z : Addr} (h : H sd = some (.dK (sdV cd hd nd td xd))) : DPut H sd (.str "tickets") (.ref z) (upd H sd (.dK (sdV cd hd nd z xd))) :=
  dput_sd h (by show 5 ≤ 1000; decide) (by unfold sdV; rw [valV_neg (k_ne (by decide +kernel)), valV_neg (k_ne (by decide +kernel)), valV_neg (k_ne (by decide +kernel)), valV_pos rfl]; rfl) (by
    unfold sdV
    simp only [List.map_cons, List.map_nil]
    rw [put_no (by decide +kernel), put_no (by decide +kernel), put_no (by decide +kernel), if_pos trivial, put_no (by decide +kernel)])
theorem sdp_said {H : Hp} {sd cd hd nd td xd z : Addr} (h : H sd = some (.dK (sdV cd hd nd td xd))) : DPut H sd (.str "said") (.ref z) (upd H sd (.dK (sdV cd hd nd td z))) :=
  dput_sd h (by show 5 ≤ 1000; decide) (by unfold sdV; rw [valV_neg (k_ne (by decide +kernel)), valV_neg (k_ne (by decide +kernel)), valV_neg (k_ne (by decide +kernel)), valV_neg (k_ne (by decide +kernel)), valV_pos rfl]; rfl) (by
    unfold sdV
    simp only [List.map_cons, List.map_nil]
    rw [put_no (by decide +kernel), put_no (by decide +kernel), put_no (by decide +kernel), put_no (by decide +kernel), if_pos trivial])
/-- the law's tables, without the dict that holds them -/
structure Tab (H : Hp) (cd hd nd td xd : Addr) (ad : Int → Addr) (cs : Cells) (hs : List Int) (told : List (Option Int)) (W : List Tick) (S : List Int) : Prop where
  co : CellsO H cd ad cs
  h : H hd = some (.lst (hs.map V.int))
  nm : H nd = some (.dK (kI (nmFrom 0 told)))
  tk : ∃ xs, H td = some (.lst xs) ∧ Rows H xs (pendFrom 0 W)
  sa : H xd = some (.lst (S.map V.int))
theorem Tab.keep {D : List Addr} {H H' : Hp} {cd hd nd td xd : Addr} {ad : Int → Addr} {cs : Cells} {hs : List Int} {told : List (Option Int)} {W : List Tick} {S : List Int} (t : Tab H cd hd nd td xd ad cs hs told W S) (k : Keep D H H') (b : ∀ p xs, H p = some (.tup xs) → p ∉ D)
    (n : ∀ x ∈ [cd, hd, nd, td, xd], x ∉ D) (na : ∀ a ∈ keys cs, ad a ∉ D) : Tab H' cd hd nd td xd ad cs hs told W S := by
  simp only [List.mem_cons, List.not_mem_nil, or_false, forall_eq_or_imp, forall_eq] at n
  obtain ⟨n1, n2, n3, n4, n5⟩ := n
  obtain ⟨xs, e, r⟩ := t.tk
  exact ⟨t.co.keep k n1 na, k _ _ t.h n2, k _ _ t.nm n3, ⟨xs, k _ _ e n4, r.keep fun p ys e => k _ _ e (b p ys e)⟩, k _ _ t.sa n5⟩
theorem Tab.same {H H' : Hp} {cd hd nd td xd : Addr} {ad : Int → Addr} {cs : Cells} {hs : List Int} {told : List (Option Int)} {W : List Tick} {S : List Int} (t : Tab H cd hd nd td xd ad cs hs told W S) (s : Same H H') : Tab H' cd hd nd td xd ad cs hs told W S :=
  t.keep (D := []) (fun b o e _ => s b o e) (fun _ _ _ => by simp) (fun _ _ => by simp) fun _ _ => by simp
theorem Rows.get {H : Hp} : ∀ {xs : List V} {rs : List (List Int)} {i : Nat} {x : V}, Rows H xs rs → xs[i]? = some x → ∃ r t, rs[i]? = some r ∧ x = .ref t ∧ H t = some (.tup (r.map V.int))
  | _, _, _, _, .nil, e => by simp at e
  | _, _, 0, _, .cons p _, e => by
    obtain ⟨t, e1, e2⟩ := p
    simp at e
    subst e
    exact ⟨_, t, rfl, e1, e2⟩
  | _, _, i + 1, _, .cons _ q, e => by
    obtain ⟨r, t, h1, h2, h3⟩ := Rows.get (i := i) q (by simpa using e)
    exact ⟨r, t, by simpa using h1, h2, h3⟩
theorem pend_form : ∀ {W : List Tick} {n : Nat} {r : List Int}, r ∈ pendFrom n W → ∃ m a k : Int, r = [m, a, k] ∧ some (a, k) ∈ W
  | [], _, _, h => by cases h
  | none :: W, n, r, h => by
    obtain ⟨m, a, k, e, q⟩ := pend_form (W := W) (n := n + 1) h
    exact ⟨m, a, k, e, List.mem_cons_of_mem _ q⟩
  | some (a, k) :: W, n, r, h => by
    rcases List.mem_cons.mp (show r ∈ [(n : Int), a, k] :: pendFrom (n + 1) W from h) with e | e
    · exact ⟨_, a, k, e, by simp⟩
    · obtain ⟨m, a', k', e, q⟩ := pend_form e
      exact ⟨m, a', k', e, List.mem_cons_of_mem _ q⟩
/-- a ticket's number, if its cell goes nowhere -/
def rowDrop (wh : List (Int × Int)) : List Int → Option Int
  | [_, a, k] => if (wh.lookup a).isNone then some k else none
  | _ => none
/-- a ticket with its cell where it goes -/
def rowMove (wh : List (Int × Int)) : List Int → Option (List Int)
  | [n, a, k] => (wh.lookup a).map fun g => [n, g, k]
  | _ => none
theorem pend_drop {wh : List (Int × Int)} : ∀ {W : List Tick} {n : Nat}, (pendFrom n W).filterMap (rowDrop wh) = dropN wh W
  | [], _ => rfl
  | none :: W, n => by
    show (pendFrom (n + 1) W).filterMap (rowDrop wh) = dropN wh (none :: W)
    rw [pend_drop]
    rfl
  | some (a, k) :: W, n => by
    show ([(n : Int), a, k] :: pendFrom (n + 1) W).filterMap (rowDrop wh) = dropN wh (some (a, k) :: W)
    have e1 : rowDrop wh [(n : Int), a, k] = if (wh.lookup a).isNone then some k else none := rfl
    rw [List.filterMap_cons, e1, pend_drop]
    unfold dropN
    rw [List.filterMap_cons]
    have e2 : ((some (a, k) : Tick).bind fun p => if (wh.lookup p.1).isNone then some p.2 else none) = if (wh.lookup a).isNone then some k else none := rfl
    rw [e2]
theorem pend_move {wh : List (Int × Int)} : ∀ {W : List Tick} {n : Nat}, (pendFrom n W).filterMap (rowMove wh) = pendFrom n (tickN wh W)
  | [], _ => rfl
  | none :: W, n => by
    show (pendFrom (n + 1) W).filterMap (rowMove wh) = pendFrom (n + 1) (tickN wh W)
    exact pend_move
  | some (a, k) :: W, n => by
    show ([(n : Int), a, k] :: pendFrom (n + 1) W).filterMap (rowMove wh) = pendFrom n (((wh.lookup a).map fun g => (g, k)) :: tickN wh W)
    have e1 : rowMove wh [(n : Int), a, k] = (wh.lookup a).map fun g => [(n : Int), g, k] := rfl
    rw [List.filterMap_cons, e1, pend_move]
    cases wh.lookup a with
    | none => rfl
    | some g => rfl
theorem fm_take {α β : Type} {f : α → Option β} {l : List α} {i : Nat} {x : α} (h : l[i]? = some x) : (l.take (i + 1)).filterMap f = (l.take i).filterMap f ++ (f x).toList := by
  rw [List.take_add_one, h, List.filterMap_append]
  cases e : f x with
  | none => simp [e]
  | some y => simp [e]
theorem nm_get {l : List (Option Int)} {n i : Nat} : (kI (nmFrom n l))[i]? = (l[i]?).map fun o => ((Sum.inl (((n + i : Nat)) : Int) : Key), oV o) := by
  induction l generalizing n i with
  | nil => rfl
  | cons x r ih =>
    cases i with
    | zero => rfl
    | succ i =>
      show (kI (nmFrom (n + 1) r))[i]? = _
      rw [ih, show n + 1 + i = n + (i + 1) by omega]
      rfl
/-- behind a lock: all is as it was -/
theorem unlock_same {H H' : Hp} {d : Addr} {u : HO} (k : Keep [d] H H') (e : H d = some u) : Same H (upd H' d u) := fun b o eb => by
  by_cases h : b = d
  · subst h
    rw [upd_same, ← eb, e]
  · rw [upd_ne h]
    exact k b o eb (by simpa using h)
/-- a cell's list in the dict -/
theorem CellsO.put {H : Hp} {cd D : Addr} {ad : Int → Addr} {cs : Cells} {a0 : Int} {ws : List Int} (x : CellsO H cd ad cs) (hn : a0 ∉ keys cs) (hD : H D = some (.lst (ws.map V.int))) (nD : ∀ a ∈ keys cs, ad a ≠ D) :
    CellsO (upd H cd (.dK (kI (csV ad cs ++ [(a0, .ref D)])))) cd (fun x => if x = a0 then D else ad x) (cs ++ [(a0, ws)]) := by
  refine ⟨?_, ?_, ?_⟩
  · rw [upd_same]
    unfold csV
    rw [List.map_append]
    have e : (cs.map fun c => (c.1, V.ref (if c.1 = a0 then D else ad c.1))) = cs.map fun c => (c.1, V.ref (ad c.1)) := by
      apply List.map_congr_left
      intro c hc
      rw [if_neg fun e => hn (by rw [← e]; exact mem_keys (ws := c.2) hc)]
    rw [e]
    show _ = some (HO.dK (kI (_ ++ [(a0, V.ref (if a0 = a0 then D else ad a0))])))
    rw [if_pos rfl]
  · intro c hc
    rcases List.mem_append.mp hc with h | h
    · have hne : c.1 ≠ a0 := fun e => hn (by rw [← e]; exact mem_keys (ws := c.2) h)
      simp only [if_neg hne]
      rw [upd_ne (ne_of (x.l c h) x.d (by intro z; cases z))]
      exact x.l c h
    · rw [List.mem_singleton.mp h]
      show upd _ _ _ (if a0 = a0 then D else ad a0) = _
      rw [if_pos rfl, upd_ne (ne_of hD x.d (by intro z; cases z))]
      exact hD
  · intro a b ha hb hab
    rw [keys_snoc] at ha hb
    by_cases e1 : a = a0
    · by_cases e2 : b = a0
      · exact absurd (e1.trans e2.symm) hab
      · rw [if_pos e1, if_neg e2]
        have hb' : b ∈ keys cs := by simpa [e2] using hb
        exact (nD b hb').symm
    · by_cases e2 : b = a0
      · rw [if_neg e1, if_pos e2]
        have ha' : a ∈ keys cs := by simpa [e1] using ha
        exact nD a ha'
      · rw [if_neg e1, if_neg e2]
        exact x.inj a b (by simpa [e1] using ha) (by simpa [e2] using hb) hab
end Km
set_option Elab.async false
set_option linter.all false
set_option maxRecDepth 100000
set_option maxHeartbeats 8000000
/-! the law's own collection -/
namespace Km
open PySem PySem.Spec PyProof.Rows L2
theorem kfree {sd p : Addr} {o : HO} {H Hc : Hp} (k : Keep [sd] H Hc) (hs : Hc sd = some o) (h : Hc p = none) : H p = none := k.free h (not1 (ne_of_none hs h).symm)
theorem newCs_snoc {cs : Cells} {wh : List (Int × Int)} {l : List Int} {b : Int} : newCs cs wh (l ++ [b]) = newCs cs wh l ++ [((wh.lookup b).getD 0, (csGet cs b).map (turnW wh))] := by
  unfold newCs
  rw [List.map_append]
  rfl
theorem toldN_snoc {wh : List (Int × Int)} {l : List (Option Int)} {o : Option Int} : toldN wh (l ++ [o]) = toldN wh l ++ [o.bind (wh.lookup ·)] := by
  unfold toldN
  rw [List.map_append]
  rfl
def sp_law_moved (K : PySem.W.Frag) : Sp := fun vs H Q _ => ∃ (sd cd hd nd td xd : Addr) (ad : Int → Addr) (cs : Cells) (hs : List Int) (told : List (Option Int)) (W : List Tick) (S : List Int), vs = [.ref sd] ∧ H sd = some (.dK (sdV cd hd nd td xd)) ∧ Tab H cd hd nd td xd ad cs hs told W S ∧
  Disj cs ∧ Closed cs ∧ (∀ w ∈ hs, OkIn cs w) ∧ (∀ c ∈ cs, c.2.length ≤ 8) ∧ cs.length ≤ 100 ∧ size cs ≤ 1000 ∧ hs.length ≤ 100 ∧ told.length ≤ 1000 ∧ S.length + W.length ≤ 1000 ∧ sd ≠ cd ∧ sd ≠ nd ∧
  ∀ (Sx : List Int) (cd' hd' nd' td' xd' : Addr) (ad' : Int → Addr) (H' : Hp), Kept cs (kids hs) Sx → H' sd = some (.dK (sdV cd' hd' nd' td' xd')) →
    Tab H' cd' hd' nd' td' xd' ad' (newCs cs (goalsL cs 0 Sx) Sx) (hs.map (turnW (goalsL cs 0 Sx))) (toldN (goalsL cs 0 Sx) told) (tickN (goalsL cs 0 Sx) W) (S ++ dropN (goalsL cs 0 Sx) W) → (∀ x ∈ [cd', hd', nd', td', xd'], H x = none) →
    (∀ a ∈ keys (newCs cs (goalsL cs 0 Sx) Sx), H (ad' a) = none ∧ ad' a ≠ hd' ∧ ad' a ≠ td' ∧ ad' a ≠ xd') → cd' ≠ nd' → [hd', td', xd'].Nodup → Keep [sd] H H' → Q (.int (topOf cs 0 Sx)) H'
theorem ok_law_moved {P : Program} {w : World} {K : PySem.W.Frag} {mg : Str → Option Value} {base : Heap} (T : Tx K mg) : FX P w K mg base 2 (He.ga K "_law_moved") ["_law_s"] (sp_law_moved K) := by
  refine fx_of T.f_law_moved sc_law_moved (fun _ _ _ _ _ _ us hl => match us, hl with | [_], _ => rfl) (fun vs H Q E h => ?_) (fun cdv A outer s H vs Q E hr h => ?_)
  · obtain ⟨_, _, _, _, _, _, _, _, _, _, _, _, rfl, _⟩ := h
    rfl
  · obtain ⟨sd, cd, hd, nd, td, xd, ad, cs, hs, told, W, S, rfl, hsd, t, DJ, C, hok, h8, hcl, hsz, hhl, htl, hwl, nsc, nsn, q⟩ := h
    obtain ⟨xs0, hx0, hr0⟩ := t.tk
    have nsh : hd ≠ sd := ne_of t.h hsd (by intro z; cases z)
    have nst : td ≠ sd := ne_of hx0 hsd (by intro z; cases z)
    have nsx : xd ≠ sd := ne_of t.sa hsd (by intro z; cases z)
    have nsa : ∀ a ∈ keys cs, ad a ≠ sd := fun a ha => by
      obtain ⟨ws, hw⟩ := keys_mem ha
      exact ne_of (t.co.l _ hw) hsd (by intro z; cases z)
    have old : ∀ Hc, Keep [sd] H Hc → Tab Hc cd hd nd td xd ad cs hs told W S := fun Hc k => t.keep k (fun p ys e => not1 (ne_of e hsd (by intro z; cases z))) (fun x hx => by
      simp only [List.mem_cons, List.not_mem_nil, or_false] at hx
      rcases hx with e | e | e | e | e <;> rw [e] <;> apply not1
      · exact nsc.symm
      · exact nsh
      · exact nsn.symm
      · exact nst
      · exact nsx) fun a ha => not1 (nsa a ha)
    refine ⟨_, (pss_cons (ps_set (i := 1) sc_law_moved.nd rfl (Or.inl rfl) (pe_callF (ok_law_reached (K := K) T) (hr.mono (by decide)) (by rfl) T.g_law_reached (pa_cons (pe_dget (hu_of hr) (pv 0) pe_str (fun _ _ => rfl)) (pa_cons (pe_dget (hu_of hr) (pv 0) pe_str (fun _ _ => rfl)) pa_nil))))
      (pss_cons (ps_set (i := 2) sc_law_moved.nd rfl (Or.inr rfl) pe_dnewK)
      (pss_cons (ps_set (i := 3) sc_law_moved.nd rfl (Or.inl rfl) pe_int)
      (pss_cons (ps_for PassesOwn.never rfl (pi_list (pv 1)) (pg_name (i := 4) sc_law_moved.nd rfl (Or.inl rfl)) (pss_cons (ps_dput (hu_of hr) (pv 2) (pv 4) (pv 3) rfl)
      (pss_one (ps_set (i := 3) sc_law_moved.nd rfl (Or.inl rfl) (pe_op op_add (pe_op op_add (pv 3) pe_int) (pe_callB call_len_seq (by rfl) T.n_len PySem.boot_len (pa_cons (pe_dget (hu_of hr) (pe_dget (hu_of hr) (pv 0) pe_str (fun _ _ => rfl)) (pv 4) (fun _ _ => rfl)) pa_nil)))))))
      (pss_cons (ps_set (i := 5) sc_law_moved.nd rfl (Or.inl rfl) pe_dnewK)
      (pss_cons (ps_for PassesOwn.never rfl (pi_list (pv 1)) (pg_name (i := 4) sc_law_moved.nd rfl (Or.inl rfl)) (pss_one (ps_dput (hu_of hr) (pv 5) (pe_dget (hu_of hr) (pv 2) (pv 4) (fun _ _ => rfl)) (pe_lc (own := [("_law_word_here", 8)]) rfl sc_law_moved.nd (pi_list (pe_dget (hu_of hr) (pe_dget (hu_of hr) (pv 0) pe_str (fun _ _ => rfl)) (pv 4) (fun _ _ => rfl))) (blkOk_by (N := N_law_moved) (sc := defScope s_law_moved) (by decide +kernel)) (fun _ _ _ _ _ => (pg_name (i := 8) sc_law_moved.nd rfl (Or.inl rfl) (Or.inr rfl))) (fun _ _ _ _ _ => pts_nil) (fun _ _ _ _ _ => (pe_callF (ok_law_turned (K := K) T) (hr.mono (by decide)) (by rfl) T.g_law_turned (pa_cons (pv 8) (pa_cons (pv 2) pa_nil))))) rfl)))
      (pss_cons (ps_dput (hu_of hr) (pv 0) pe_str (pv 5) rfl)
      (pss_cons (ps_dput (hu_of hr) (pv 0) pe_str (pe_lc (own := [("_law_word_here", 8)]) rfl sc_law_moved.nd (pi_list (pe_dget (hu_of hr) (pv 0) pe_str (fun _ _ => rfl))) (blkOk_by (N := N_law_moved) (sc := defScope s_law_moved) (by decide +kernel)) (fun _ _ _ _ _ => (pg_name (i := 8) sc_law_moved.nd rfl (Or.inl rfl) (Or.inr rfl))) (fun _ _ _ _ _ => pts_nil) (fun _ _ _ _ _ => (pe_callF (ok_law_turned (K := K) T) (hr.mono (by decide)) (by rfl) T.g_law_turned (pa_cons (pv 8) (pa_cons (pv 2) pa_nil))))) rfl)
      (pss_cons (ps_set (i := 6) sc_law_moved.nd rfl (Or.inl rfl) pe_dnewK)
      (pss_cons (ps_lock (ps_for PassesOwn.never rfl (pi_keys (pe_dget (hu_of hr) (pv 0) pe_str (fun _ _ => rfl))) (pg_name (i := 7) sc_law_moved.nd rfl (Or.inl rfl)) (pss_one (ps_dput (hu_of hr) (pv 6) (pv 7) (pe_dgetN (hu_of hr) (pv 2) (pe_dget (hu_of hr) (pe_dget (hu_of hr) (pv 0) pe_str (fun _ _ => rfl)) (pv 7) (fun _ _ => rfl)) ⟨rfl, rfl, rfl, rfl⟩) rfl))))
      (pss_cons (ps_dput (hu_of hr) (pv 0) pe_str (pv 6) rfl)
      (pss_cons (ps_dput (hu_of hr) (pv 0) pe_str (pe_op op_cat (pe_dget (hu_of hr) (pv 0) pe_str (fun _ _ => rfl)) (pe_lc (own := [("_law_one", 9)]) rfl sc_law_moved.nd (pi_list (pe_dget (hu_of hr) (pv 0) pe_str (fun _ _ => rfl))) (blkOk_by (N := N_law_moved) (sc := defScope s_law_moved) (by decide +kernel)) (fun _ _ _ _ _ => (pg_name (i := 9) sc_law_moved.nd rfl (Or.inl rfl) (Or.inr rfl))) (fun _ _ _ _ _ => (pts_one (pt_cmp (pc_dnotin (hu_of hr) (pe_ix (ix_tupK (K := K) rfl) (pv 9) pe_int (fun _ _ => rfl)) (pv 2))))) (fun _ _ _ _ _ => (pe_ix (ix_tupK (K := K) rfl) (pv 9) pe_int (fun _ _ => rfl))))) rfl)
      (pss_cons (ps_dput (hu_of hr) (pv 0) pe_str (pe_lc (own := [("_law_one", 9)]) rfl sc_law_moved.nd (pi_list (pe_dget (hu_of hr) (pv 0) pe_str (fun _ _ => rfl))) (blkOk_by (N := N_law_moved) (sc := defScope s_law_moved) (by decide +kernel)) (fun _ _ _ _ _ => (pg_name (i := 9) sc_law_moved.nd rfl (Or.inl rfl) (Or.inr rfl))) (fun _ _ _ _ _ => (pts_one (pt_cmp (pc_din (hu_of hr) (pe_ix (ix_tupK (K := K) rfl) (pv 9) pe_int (fun _ _ => rfl)) (pv 2))))) (fun _ _ _ _ _ => (pe_tup (pa_cons (pe_ix (ix_tupK (K := K) rfl) (pv 9) pe_int (fun _ _ => rfl)) (pa_cons (pe_dget (hu_of hr) (pv 2) (pe_ix (ix_tupK (K := K) rfl) (pv 9) pe_int (fun _ _ => rfl)) (fun _ _ => rfl)) (pa_cons (pe_ix (ix_tupK (K := K) rfl) (pv 9) pe_int (fun _ _ => rfl)) pa_nil)))))) rfl)
      (pss_one (ps_ret (pv 3)))))))))))))))), ?_⟩
    refine ⟨_, rfl, sd, _, rfl, sd_cells hsd, _, rfl, sd, _, rfl, sd_hands hsd, cd, hd, ad, cs, hs, rfl, t.co, t.h, DJ, C, hok, h8, hcl, hhl, fun Sx p H1 kp np s1 hp1 => ?_⟩
    have up := kp.up
    have hn := rising_nodup up
    have hst : ∀ x ∈ kids hs, x ∈ keys cs := fun x hx => by
      obtain ⟨w, hw, pp, e⟩ := mem_kids.mp hx
      rw [← e]
      exact (hok w hw).2 pp
    have hk : ∀ x ∈ Sx, x ∈ keys cs := fun x hx => ((kp.re x).mp hx).key C hst
    have hSl : Sx.length ≤ 100 := by
      have := nodup_len hn hk
      unfold keys at this
      rw [List.length_map] at this
      omega
    have topb : topOf cs 0 Sx ≤ size cs := top_le_size DJ hn hk
    refine fun wd nwd => ?_
    have nwd0 : H wd = none := s1.free nwd
    have s2 : Same H1 (upd H1 wd (.dK [])) := same_new nwd
    refine ⟨_, rfl, p, rfl, ⟨_, SqL.of (s2 _ _ hp1)⟩, for_list (K := K) (a := p) (xs := Sx.map V.int) (fun i σ H2 => ∃ (v : Option V), σ = [some (.ref sd), some (.ref p), some (.ref wd), some (.int (topOf cs 0 (Sx.take i))), v, none, none, none, none, none] ∧ Same H1 H2 ∧ H2 wd = some (.dK (kI (whV (goalsL cs 0 (Sx.take i))))))
      ⟨none, rfl, s2, upd_same⟩ (fun i σ H2 _ ⟨_, _, s, _⟩ => SqL.of (s _ _ hp1)) ?_ ?_⟩
    · rintro i z σ H2 hi ⟨v, rfl, sm, hwd⟩
      obtain ⟨b, rfl, hb, hil⟩ := ints_ix hi
      have hbk : b ∈ keys cs := hk b (List.mem_of_getElem? hb)
      have hbc := csGet_in DJ hbk
      have hbn : b ∉ Sx.take i := fun hm => by
        obtain ⟨j, hj, ej⟩ := List.mem_iff_getElem.mp hm
        rw [List.length_take] at hj
        have ej2 : Sx[j]? = some b := by
          rw [List.getElem_take] at ej
          rw [List.getElem?_eq_getElem (by omega), ej]
        have := rising_get up ej2 hb (by omega)
        omega
      have hln : (whV (goalsL cs 0 (Sx.take i))).lookup b = none := by rw [whV_look, goalsL_none hbn]; rfl
      refine ⟨_, rfl, _, rfl, _, rfl, wd, _, rfl, dputI hwd hln (by rw [whV_len, goalsL_len, List.length_take]; omega), ?_⟩
      have sm2 := same_mut (o := .dK (kI (whV (goalsL cs 0 (Sx.take i)) ++ [(b, V.int (topOf cs 0 (Sx.take i)))]))) sm nwd
      have hw3 : (upd H2 wd (.dK (kI (whV (goalsL cs 0 (Sx.take i)) ++ [(b, V.int (topOf cs 0 (Sx.take i)))])))) wd = some (.dK (kI (whV (goalsL cs 0 (Sx.take (i + 1)))))) := by
        rw [upd_same, take_succ' hb, goalsL_snoc]
        unfold whV
        rw [List.map_append]
        rfl
      generalize upd H2 wd (.dK (kI (whV (goalsL cs 0 (Sx.take i)) ++ [(b, V.int (topOf cs 0 (Sx.take i)))]))) = H3 at sm2 hw3 ⊢
      have s3 := s1.trans sm2
      have t3 := t.same s3
      have hl3 := t3.co.l _ hbc
      simp only at hl3
      refine ⟨_, rfl, _, _, rfl, rfl, _, rfl, sd, _, rfl, sd_cells (s3 _ _ hsd), _, rfl, cd, _, rfl, dgetI (.inl t3.co.d) (csV_in hbk), ad b, _, rfl, .inl (SqL.of hl3), _, _, rfl, rfl, ?_⟩
      refine ⟨some (.int b), ?_, sm2, hw3⟩
      rw [take_succ' hb, topOf_snoc, List.length_map]
      rfl
    rintro σ H2 ⟨v, rfl, sm, hwd⟩
    rw [List.length_map, List.take_length] at hwd ⊢
    have s02 := s1.trans sm
    have hp2 := sm _ _ hp1
    have hlk : ∀ j a, Sx[j]? = some a → (goalsL cs 0 Sx).lookup a = some (topOf cs 0 (Sx.take j)) := fun j a e => goalsL_look hn e
    generalize hwh : goalsL cs 0 Sx = wh at hwd hlk q ⊢
    have tkb : ∀ j : Nat, 0 ≤ topOf cs 0 (Sx.take j) ∧ topOf cs 0 (Sx.take j) ≤ 1000 := fun j => by
      refine ⟨topOf_le (t := 0), ?_⟩
      have e : topOf cs 0 Sx = topOf cs (topOf cs 0 (Sx.take j)) (Sx.drop j) := by rw [← topOf_append, List.take_append_drop]
      have := topOf_le (cs := cs) (l := Sx.drop j) (t := topOf cs 0 (Sx.take j))
      omega
    have hlS : ∀ a ∈ Sx, ∃ g, wh.lookup a = some g ∧ 0 ≤ g ∧ g ≤ 9999 := fun a ha => by
      obtain ⟨j, hj, e⟩ := List.mem_iff_getElem.mp ha
      have := tkb j
      exact ⟨_, hlk j a (by rw [List.getElem?_eq_getElem hj, e]), this.1, by omega⟩
    have htH : ∀ w ∈ hs, Turns wh w := fun w hw => ⟨(hok w hw).1, fun pp => hlS _ ((kp.re _).mpr (.root (mem_kids.mpr ⟨w, hw, pp, rfl⟩)))⟩
    have htS : ∀ a ∈ Sx, ∀ w ∈ csGet cs a, Turns wh w := fun a ha w hw => ⟨(C _ (csGet_in DJ (hk a ha)) w hw).1, fun pp => hlS _ ((kp.re _).mpr (.step ((kp.re a).mp ha) (csGet_in DJ (hk a ha)) (mem_kids.mpr ⟨w, hw, pp, rfl⟩)))⟩
    -- the new cells
    refine fun cd2 ncd2 => ?_
    refine ⟨_, rfl, p, rfl, ⟨_, SqL.of (same_new ncd2 _ _ hp2)⟩, for_list (K := K) (a := p) (xs := Sx.map V.int) (fun i σ H3 => ∃ (v v8 : Option V) (ad2 : Int → Addr), σ = [some (.ref sd), some (.ref p), some (.ref wd), some (.int (topOf cs 0 Sx)), v, some (.ref cd2), none, none, v8, none] ∧ Same H2 H3 ∧ CellsO H3 cd2 ad2 (newCs cs wh (Sx.take i)) ∧ ∀ a ∈ keys (newCs cs wh (Sx.take i)), H2 (ad2 a) = none)
      ⟨_, none, fun _ => 0, rfl, same_new ncd2, ⟨upd_same, fun c hc => (by cases hc), fun a b ha => (by cases ha)⟩, fun a ha => (by cases ha)⟩ (fun i σ H3 _ ⟨_, _, _, _, s, _⟩ => SqL.of (s _ _ hp2)) ?_ ?_⟩
    · rintro i z σ H3 hi ⟨v, v8, ad2, rfl, s23, co2, fr2⟩
      obtain ⟨b, rfl, hb, hil⟩ := ints_ix hi
      have hbS := List.mem_of_getElem? hb
      have hbk : b ∈ keys cs := hk b hbS
      have hbc := csGet_in DJ hbk
      have hws8 := h8 _ hbc
      simp only at hws8
      have s03 := s02.trans s23
      have t3 := t.same s03
      have hl3 := t3.co.l _ hbc
      simp only at hl3
      refine ⟨_, rfl, sd, _, rfl, sd_cells (s03 _ _ hsd), _, rfl, cd, _, rfl, dgetI (.inl t3.co.d) (csV_in hbk), ad b, rfl, ⟨_, SqL.of hl3⟩, fun D0 nD0 => ?_⟩
      refine lc_list (K := K) (a := ad b) (xs := (csGet cs b).map V.int) (fun j H4 => Same H3 H4 ∧ H4 D0 = some (.lst ((((csGet cs b).take j).map (turnW wh)).map V.int))) ⟨same_new nD0, upd_same⟩ (fun j H4 _ ⟨s, _⟩ => SqL.of (s _ _ hl3)) ?_ ?_
      · rintro j y H4 hj ⟨s34, hD⟩
        obtain ⟨x, rfl, hx, hjl⟩ := ints_ix hj
        refine ⟨rfl, tyes (iteT ?_)⟩
        refine ⟨_, rfl, _, rfl, wd, wh, x, rfl, s34 _ _ (s23 _ _ hwd), htS b hbS x (List.mem_of_getElem? hx), _, hD, small1000 (by rw [List.length_map, List.length_map, List.length_take]; omega), same_mut s34 nD0, ?_⟩
        rw [upd_same, take_succ' hx, List.map_append, List.map_append]
        rfl
      · rintro H4 ⟨s34, hD⟩
        rw [List.length_map, List.take_length] at hD
        have co4 := co2.same s34
        have nad : ∀ a ∈ keys (newCs cs wh (Sx.take i)), ad2 a ≠ D0 := fun a ha => by
          obtain ⟨ws, hw⟩ := keys_mem ha
          exact ne_of_none (co2.l _ hw) nD0
        have hlb := hlk i b hb
        have nk : topOf cs 0 (Sx.take i) ∉ keys (newCs cs wh (Sx.take i)) := fun hm => by
          unfold keys newCs at hm
          rw [List.map_map] at hm
          obtain ⟨a, ha, e⟩ := List.mem_map.mp hm
          obtain ⟨j, hj, ej⟩ := List.mem_iff_getElem.mp ha
          rw [List.length_take] at hj
          have ej2 : Sx[j]? = some a := by
            rw [List.getElem_take] at ej
            rw [List.getElem?_eq_getElem (by omega), ej]
          have e2 : topOf cs 0 (Sx.take j) = topOf cs 0 (Sx.take i) := by
            rw [← e]
            show _ = (wh.lookup a).getD 0
            rw [hlk j a ej2]
            rfl
          have := goal_mono (cs := cs) ej2 (show j < i by omega)
          omega
        have klen : (newCs cs wh (Sx.take i)).length ≤ 1000 := by unfold newCs; rw [List.length_map, List.length_take]; omega
        refine ⟨_, rfl, _, rfl, _, rfl, wd, _, rfl, dgetI (.inl (s34 _ _ (s23 _ _ hwd))) (by rw [whV_look, hlb]; rfl), cd2, _, rfl, dputI co4.d (csV_out nk) (by rw [csV_len]; exact klen), ?_⟩
        have eb : newCs cs wh (Sx.take (i + 1)) = newCs cs wh (Sx.take i) ++ [(topOf cs 0 (Sx.take i), (csGet cs b).map (turnW wh))] := by
          rw [take_succ' hb, newCs_snoc, hlb]
          rfl
        have co5 := co4.put nk hD nad
        refine ⟨_, _, _, rfl, same_mut (s23.trans s34) ncd2, by rw [eb]; exact co5, fun a ha => ?_⟩
        rw [eb, keys_snoc] at ha
        by_cases e : a = topOf cs 0 (Sx.take i)
        · rw [if_pos e]
          exact s23.free nD0
        · rw [if_neg e]
          exact fr2 a (by simpa [e] using ha)
    rintro σ H3 ⟨v, v8, ad2, rfl, s23, co3, fr3⟩
    rw [List.length_map, List.take_length] at co3 fr3
    have s03 := s02.trans s23
    have hsd3 := s03 _ _ hsd
    have hwd3 := s23 _ _ hwd
    have nwdsd : wd ≠ sd := fun e => by rw [e, hsd] at nwd0; cases nwd0
    have fr0 : ∀ a ∈ keys (newCs cs wh Sx), H (ad2 a) = none := fun a ha => s02.free (fr3 a ha)
    have ncd0 : H cd2 = none := s02.free ncd2
    have nad2 : ∀ a ∈ keys (newCs cs wh Sx), ad2 a ≠ sd := fun a ha e => by have := fr0 a ha; rw [e, hsd] at this; cases this
    have ncdsd : cd2 ≠ sd := fun e => by rw [e, hsd] at ncd0; cases ncd0
    -- the cells set
    refine ⟨_, rfl, _, rfl, sd, _, rfl, sdp_cells hsd3, ?_⟩
    have k4 : Keep [sd] H (upd H3 sd (.dK (sdV cd2 hd nd td xd))) := keep_upd ((Keep.refl H).same s03) (by simp)
    have kk : Keep [sd] H3 (upd H3 sd (.dK (sdV cd2 hd nd td xd))) := keep_upd (Keep.refl H3) (by simp)
    have hsd4 : (upd H3 sd (.dK (sdV cd2 hd nd td xd))) sd = some (.dK (sdV cd2 hd nd td xd)) := upd_same
    have co4 := co3.keep kk (not1 ncdsd) fun a ha => not1 (nad2 a ha)
    have hwd4 := kk _ _ hwd3 (not1 nwdsd)
    clear kk
    generalize upd H3 sd (.dK (sdV cd2 hd nd td xd)) = H4 at k4 hsd4 co4 hwd4 ⊢
    have t4 := old H4 k4
    -- the hands
    refine ⟨_, rfl, sd, _, rfl, sd_hands hsd4, hd, rfl, ⟨_, SqL.of t4.h⟩, fun D1 nD1 => ?_⟩
    refine lc_list (K := K) (a := hd) (xs := hs.map V.int) (fun j H5 => Same H4 H5 ∧ H5 D1 = some (.lst (((hs.take j).map (turnW wh)).map V.int))) ⟨same_new nD1, upd_same⟩ (fun j H5 _ ⟨s, _⟩ => SqL.of (s _ _ t4.h)) ?_ ?_
    · rintro j y H5 hj ⟨s45, hD⟩
      obtain ⟨x, rfl, hx, hjl⟩ := ints_ix hj
      refine ⟨rfl, tyes (iteT ?_)⟩
      refine ⟨_, rfl, _, rfl, wd, wh, x, rfl, s45 _ _ hwd4, htH x (List.mem_of_getElem? hx), _, hD, small1000 (by rw [List.length_map, List.length_map, List.length_take]; omega), same_mut s45 nD1, ?_⟩
      rw [upd_same, take_succ' hx, List.map_append, List.map_append]
      rfl
    rintro H5 ⟨s45, hD1⟩
    rw [List.length_map, List.take_length] at hD1
    have nD10 : H D1 = none := kfree k4 hsd4 nD1
    have nD1sd : D1 ≠ sd := (ne_of_none hsd4 nD1).symm
    have nadD1 : ∀ a ∈ keys (newCs cs wh Sx), ad2 a ≠ D1 := fun a ha => by
      obtain ⟨ws, hw⟩ := keys_mem ha
      exact ne_of_none (co4.l _ hw) nD1
    refine ⟨_, rfl, sd, _, rfl, sdp_hands (s45 _ _ hsd4), ?_⟩
    have kk : Keep [sd] H5 (upd H5 sd (.dK (sdV cd2 D1 nd td xd))) := keep_upd (Keep.refl H5) (by simp)
    have k6 : Keep [sd] H (upd H5 sd (.dK (sdV cd2 D1 nd td xd))) := keep_upd (k4.same s45) (by simp)
    have hsd6 : (upd H5 sd (.dK (sdV cd2 D1 nd td xd))) sd = some (.dK (sdV cd2 D1 nd td xd)) := upd_same
    have co6 := (co4.same s45).keep kk (not1 ncdsd) fun a ha => not1 (nad2 a ha)
    have hwd6 := kk _ _ (s45 _ _ hwd4) (not1 nwdsd)
    have hh6 := kk _ _ hD1 (not1 nD1sd)
    clear kk
    generalize upd H5 sd (.dK (sdV cd2 D1 nd td xd)) = H6 at k6 hsd6 co6 hwd6 hh6 ⊢
    have t6 := old H6 k6
    -- the names
    refine fun nd2 nnd2 => ?_
    have nnd0 : H nd2 = none := kfree k6 hsd6 nnd2
    have nndsd : nd2 ≠ sd := (ne_of_none hsd6 nnd2).symm
    have ncdnd : cd2 ≠ nd2 := ne_of_none co6.d nnd2
    have nndnd : nd ≠ nd2 := ne_of_none t6.nm nnd2
    have s67 : Same H6 (upd H6 nd2 (.dK [])) := same_new nnd2
    refine ⟨nd, _, s67 _ _ t6.nm, trivial, fun od => ?_⟩
    have hlk1 : (upd (upd H6 nd2 (.dK [])) nd (.frz od (.dK (kI (nmFrom 0 told))))) nd = some (.frz od (.dK (kI (nmFrom 0 told)))) := upd_same
    have kl : Keep [nd] H6 (upd (upd H6 nd2 (.dK [])) nd (.frz od (.dK (kI (nmFrom 0 told))))) := keep_upd ((Keep.refl H6).same s67) (by simp)
    have nsdnd : sd ∉ [nd] := not1 nsn
    have nwdnd : wd ∉ [nd] := not1 (fun e => by rw [e, t.nm] at nwd0; cases nwd0)
    refine ⟨_, rfl, sd, _, rfl, sd_names (kl _ _ hsd6 nsdnd), nd, od, rfl, .inl ⟨_, hlk1, for_it walk_keys (fun i σ H7 => ∃ (v7 v v8 : Option V), σ = [some (.ref sd), some (.ref p), some (.ref wd), some (.int (topOf cs 0 Sx)), v, some (.ref cd2), some (.ref nd2), v7, v8, none] ∧ Keep [nd] H6 H7 ∧ H7 nd = some (.frz od (.dK (kI (nmFrom 0 told)))) ∧ H7 nd2 = some (.dK (kI (nmFrom 0 (toldN wh (told.take i))))))
      ⟨_, _, _, rfl, kl, hlk1, by rw [upd_ne nndnd.symm, upd_same]; rfl⟩ (fun i σ H7 _ ⟨_, _, _, _, _, h, _⟩ => h) ?_ ?_⟩⟩
    · rintro i y σ H7 H7' hi ⟨v7, v, v8, rfl, k7, hn7, hnd7⟩ ⟨rfl, k0, vv, ek, rfl⟩
      rw [nm_get] at ek
      obtain ⟨o, eo, e2⟩ := Option.map_eq_some_iff.mp ek
      obtain ⟨rfl, rfl⟩ := Prod.mk.inj e2
      rw [Nat.zero_add]
      have hil := lt_of_get eo
      have hlen : (toldN wh (told.take i)).length = i := by unfold toldN; rw [List.length_map, List.length_take]; omega
      refine ⟨_, rfl, wd, _, rfl, .inl (k7 _ _ hwd6 nwdnd), _, rfl, sd, _, rfl, sd_names (k7 _ _ hsd6 nsdnd), _, rfl, nd, _, rfl, dgetI (.inr ⟨od, hn7⟩) (by rw [nm_look0, eo]; rfl), o, _, rfl, .inl (k7 _ _ hwd6 nwdnd), ?_⟩
      have ev : ((o.bind fun i => valV (kI (whV wh)) (Sum.inl i : Key)).getD .non) = oV (o.bind (wh.lookup ·)) := by
        cases o with
        | none => rfl
        | some a =>
          show (valV (kI (whV wh)) (Sum.inl a : Key)).getD .non = oV (wh.lookup a)
          rw [valV_kI, whV_look]
          cases wh.lookup a with
          | none => rfl
          | some g => rfl
      rw [ev]
      refine ⟨_, rfl, _, rfl, nd2, _, rfl, dputI (xs := nmFrom 0 (toldN wh (told.take i))) hnd7 (by rw [nm_look0, List.getElem?_eq_none (by omega)]; rfl) (by rw [nm_len]; omega), ?_⟩
      refine ⟨_, _, _, rfl, fun b ob e nb => ?_, by rw [upd_ne nndnd]; exact hn7, ?_⟩
      · rw [upd_ne (fun z => by rw [z, nnd2] at e; cases e)]
        exact k7 b ob e nb
      · rw [upd_same, take_succ' eo, toldN_snoc, nm_snoc, Nat.zero_add, hlen]
    rintro σ H7 ⟨v7, v9, v89, rfl, k7, hn7, hnd7⟩
    rw [kI_len, nm_len, List.take_length] at hnd7
    refine ⟨hn7, ?_⟩
    have s68 : Same H6 (upd H7 nd (.dK (kI (nmFrom 0 told)))) := unlock_same k7 t6.nm
    have hnd8 : (upd H7 nd (.dK (kI (nmFrom 0 told)))) nd2 = some (.dK (kI (nmFrom 0 (toldN wh told)))) := by rw [upd_ne nndnd.symm]; exact hnd7
    generalize upd H7 nd (.dK (kI (nmFrom 0 told))) = H8 at s68 hnd8 ⊢
    refine ⟨_, rfl, _, rfl, sd, _, rfl, sdp_names (s68 _ _ hsd6), ?_⟩
    have kk : Keep [sd] H8 (upd H8 sd (.dK (sdV cd2 D1 nd2 td xd))) := keep_upd (Keep.refl H8) (by simp)
    have k9 : Keep [sd] H (upd H8 sd (.dK (sdV cd2 D1 nd2 td xd))) := keep_upd (k6.same s68) (by simp)
    have hsd9 : (upd H8 sd (.dK (sdV cd2 D1 nd2 td xd))) sd = some (.dK (sdV cd2 D1 nd2 td xd)) := upd_same
    have co9 := (co6.same s68).keep kk (not1 ncdsd) fun a ha => not1 (nad2 a ha)
    have hwd9 := kk _ _ (s68 _ _ hwd6) (not1 nwdsd)
    have hh9 := kk _ _ (s68 _ _ hh6) (not1 nD1sd)
    have hnd9 := kk _ _ hnd8 (not1 nndsd)
    clear kk
    generalize upd H8 sd (.dK (sdV cd2 D1 nd2 td xd)) = H9 at k9 hsd9 co9 hwd9 hh9 hnd9 ⊢
    have t9 := old H9 k9
    -- what was said
    have plen : (pendFrom 0 W).length ≤ W.length := pend_len
    obtain ⟨xs, hx9, hr9⟩ := t9.tk
    have hxl := hr9.len
    refine ⟨_, rfl, sd, _, rfl, sd_said hsd9, _, rfl, sd, _, rfl, sd_tickets hsd9, td, rfl, ⟨_, SqL.of hx9⟩, fun D2 nD2 => ?_⟩
    refine lc_list (K := K) (a := td) (xs := xs) (fun j H10 => Same H9 H10 ∧ H10 D2 = some (.lst ((((pendFrom 0 W).take j).filterMap (rowDrop wh)).map V.int))) ⟨same_new nD2, upd_same⟩ (fun j H10 _ ⟨s, _⟩ => SqL.of (s _ _ hx9)) ?_ ?_
    · rintro j y H10 hj ⟨s10, hD⟩
      obtain ⟨r, tt, hr, rfl, htt⟩ := hr9.get hj
      obtain ⟨m, a, n, rfl, hW⟩ := pend_form (List.mem_of_getElem? hr)
      have htt10 := s10 _ _ htt
      have hjl : j < W.length := by have := lt_of_get hr; omega
      have hfl := List.length_filterMap_le (rowDrop wh) ((pendFrom 0 W).take j)
      rw [List.length_take] at hfl
      refine ⟨rfl, _, rfl, tt, _, _, _, rfl, rfl, SqT.of htt10, rfl, _, rfl, wd, _, rfl, dgetI (.inl (s10 _ _ hwd9)) whV_look, _, rfl, ?_⟩
      have ef := fm_take (f := rowDrop wh) hr
      have er : rowDrop wh [m, a, n] = if (wh.lookup a).isNone then some n else none := rfl
      rw [er] at ef
      cases hla : wh.lookup a with
      | none =>
        rw [hla] at ef
        refine iteT ⟨_, rfl, tt, _, _, _, rfl, rfl, SqT.of htt10, rfl, _, hD, small1000 (by rw [List.length_map]; omega), same_mut s10 nD2, ?_⟩
        rw [upd_same, ef, List.map_append]
        rfl
      | some g =>
        rw [hla] at ef
        refine iteF ⟨s10, ?_⟩
        rw [ef]
        simpa using hD
    rintro H10 ⟨s10, hD2⟩
    rw [hxl, List.take_length, pend_drop] at hD2
    refine ⟨xd, D2, _, _, rfl, rfl, s10 _ _ t9.sa, hD2, ?_, fun xd2 nxd2 => ?_⟩
    · have hdl : (dropN wh W).length ≤ W.length := List.length_filterMap_le _ _
      rw [List.length_map, List.length_map]
      exact Nat.le_trans (show S.length + (dropN wh W).length ≤ 1000 by omega) (by decide)
    rw [← List.map_append]
    have s11 : Same H9 (upd H10 xd2 (.lst ((S ++ dropN wh W).map V.int))) := s10.trans (same_new nxd2)
    have hxd11 : (upd H10 xd2 (.lst ((S ++ dropN wh W).map V.int))) xd2 = some (.lst ((S ++ dropN wh W).map V.int)) := upd_same
    have nxd9 : H9 xd2 = none := s10.free nxd2
    generalize upd H10 xd2 (.lst ((S ++ dropN wh W).map V.int)) = H11 at s11 hxd11 ⊢
    have nxd0 : H xd2 = none := kfree k9 hsd9 nxd9
    have nxdsd : xd2 ≠ sd := (ne_of_none hsd9 nxd9).symm
    refine ⟨_, rfl, sd, _, rfl, sdp_said (s11 _ _ hsd9), ?_⟩
    have kk : Keep [sd] H11 (upd H11 sd (.dK (sdV cd2 D1 nd2 td xd2))) := keep_upd (Keep.refl H11) (by simp)
    have k12 : Keep [sd] H (upd H11 sd (.dK (sdV cd2 D1 nd2 td xd2))) := keep_upd (k9.same s11) (by simp)
    have hsd12 : (upd H11 sd (.dK (sdV cd2 D1 nd2 td xd2))) sd = some (.dK (sdV cd2 D1 nd2 td xd2)) := upd_same
    have co12 := (co9.same s11).keep kk (not1 ncdsd) fun a ha => not1 (nad2 a ha)
    have hwd12 := kk _ _ (s11 _ _ hwd9) (not1 nwdsd)
    have hh12 := kk _ _ (s11 _ _ hh9) (not1 nD1sd)
    have hnd12 := kk _ _ (s11 _ _ hnd9) (not1 nndsd)
    have hxd12 := kk _ _ hxd11 (not1 nxdsd)
    clear kk
    generalize upd H11 sd (.dK (sdV cd2 D1 nd2 td xd2)) = H12 at k12 hsd12 co12 hwd12 hh12 hnd12 hxd12 ⊢
    have t12 := old H12 k12
    -- the tickets
    obtain ⟨ys, hx12, hr12⟩ := t12.tk
    have hyl := hr12.len
    refine ⟨_, rfl, sd, _, rfl, sd_tickets hsd12, td, rfl, ⟨_, SqL.of hx12⟩, fun D3 nD3 => ?_⟩
    have nD3sd : D3 ≠ sd := (ne_of_none hsd12 nD3).symm
    refine lc_list (K := K) (a := td) (xs := ys) (fun j H13 => Same H12 H13 ∧ ∃ zs, H13 D3 = some (.lst zs) ∧ Rows H13 zs (((pendFrom 0 W).take j).filterMap (rowMove wh))) ⟨same_new nD3, [], upd_same, .nil⟩ (fun j H13 _ ⟨s, _⟩ => SqL.of (s _ _ hx12)) ?_ ?_
    · rintro j y H13 hj ⟨s13, zs, hD, hrz⟩
      obtain ⟨r, tt, hr, rfl, htt⟩ := hr12.get hj
      obtain ⟨m, a, n, rfl, hW⟩ := pend_form (List.mem_of_getElem? hr)
      have htt13 := s13 _ _ htt
      have hjl : j < W.length := by have := lt_of_get hr; omega
      have hfl := List.length_filterMap_le (rowMove wh) ((pendFrom 0 W).take j)
      rw [List.length_take] at hfl
      have hzl := hrz.len
      have hwd13 := s13 _ _ hwd12
      refine ⟨rfl, _, rfl, tt, _, _, _, rfl, rfl, SqT.of htt13, rfl, _, rfl, wd, _, rfl, dgetI (.inl hwd13) whV_look, _, rfl, ?_⟩
      have ef := fm_take (f := rowMove wh) hr
      have er : rowMove wh [m, a, n] = (wh.lookup a).map fun g => [m, g, n] := rfl
      rw [er] at ef
      cases hla : wh.lookup a with
      | none =>
        rw [hla] at ef
        refine iteF ⟨s13, zs, hD, ?_⟩
        rw [ef]
        simpa using hrz
      | some g =>
        rw [hla] at ef
        refine iteT ⟨_, rfl, tt, _, _, _, rfl, rfl, SqT.of htt13, rfl, _, rfl, _, rfl, tt, _, _, _, rfl, rfl, SqT.of htt13, rfl, wd, _, rfl, dgetI (.inl hwd13) (by rw [whV_look, hla]; rfl), _, rfl, tt, _, _, _, rfl, rfl, SqT.of htt13, rfl, by show 3 ≤ sizeLine; decide, fun u nu => ?_⟩
        have nuD : D3 ≠ u := ne_of_none hD nu
        have hD4 : (upd H13 u (.tup [.int m, .int g, .int n])) D3 = some (.lst zs) := by rw [upd_ne nuD]; exact hD
        refine ⟨zs, hD4, small1000 (by omega), same_mut (s13.trans (same_new nu)) nD3, _, upd_same, ?_⟩
        rw [ef]
        refine ((hrz.same (same_new nu)).lst hD4).snoc ?_
        rw [upd_ne nuD.symm, upd_same]
        rfl
    rintro H13 ⟨s13, zs, hD3, hrz⟩
    rw [hyl, List.take_length, pend_move] at hrz
    subst hwh
    refine ⟨_, rfl, sd, _, rfl, sdp_tickets (s13 _ _ hsd12), ?_⟩
    have kk : Keep [sd] H13 (upd H13 sd (.dK (sdV cd2 D1 nd2 D3 xd2))) := keep_upd (Keep.refl H13) (by simp)
    have k14 : Keep [sd] H (upd H13 sd (.dK (sdV cd2 D1 nd2 D3 xd2))) := keep_upd (k12.same s13) (by simp)
    have hsd13 := s13 _ _ hsd12
    have nD30 : H D3 = none := kfree k12 hsd12 nD3
    refine ⟨_, rfl, q Sx cd2 D1 nd2 D3 xd2 ad2 _ kp upd_same ⟨(co12.same s13).keep kk (not1 ncdsd) fun a ha => not1 (nad2 a ha), kk _ _ (s13 _ _ hh12) (not1 nD1sd), kk _ _ (s13 _ _ hnd12) (not1 nndsd), ⟨zs, kk _ _ hD3 (not1 nD3sd), hrz.keep fun p ys e => kk _ _ e (not1 (ne_of e hsd13 (by intro z; cases z)))⟩, kk _ _ (s13 _ _ hxd12) (not1 nxdsd)⟩ ?_ (fun a ha => ?_) ncdnd ?_ k14⟩
    · intro x hx
      simp only [List.mem_cons, List.not_mem_nil, or_false] at hx
      rcases hx with e | e | e | e | e <;> rw [e]
      · exact ncd0
      · exact nD10
      · exact nnd0
      · exact nD30
      · exact nxd0
    · obtain ⟨ws, hw⟩ := keys_mem ha
      exact ⟨fr0 a ha, nadD1 a ha, ne_of_none (co12.l _ hw) nD3, ne_of_none (co9.l _ hw) nxd9⟩
    · simp only [List.nodup_cons, List.mem_cons, List.not_mem_nil, or_false, not_or, List.nodup_nil, and_true, not_false_eq_true]
      exact ⟨⟨ne_of_none hh12 nD3, ne_of_none hh9 nxd9⟩, (ne_of_none hxd12 nD3).symm⟩
end Km
set_option Elab.async false
set_option linter.all false
set_option maxRecDepth 100000
set_option maxHeartbeats 8000000
/-! what must stand behind a collection -/
namespace Km
open PySem PySem.Spec PyProof.Rows L2
theorem neF {α : Type} [DecidableEq α] {x : α} {A B : Prop} (h : B) : if (!decide (x = x)) = true then A else B := by
  rw [decide_eq_true rfl]
  exact iteF h
theorem csV_get {ad : Int → Addr} {cs : Cells} {i : Nat} : (kI (csV ad cs))[i]? = (cs[i]?).map fun c => ((Sum.inl c.1 : Key), V.ref (ad c.1)) := by
  unfold kI csV
  rw [List.getElem?_map, List.getElem?_map, Option.map_map]
  rfl
theorem oV_scal {o : Option Int} : scal (oV o) (oV o) = true := by cases o <;> rfl
def sp_law_stands (K : PySem.W.Frag) : Sp := fun vs H Q _ => ∃ (L : PL) (z : PV) (sd cd hd nd td xd bd : Addr) (ad : Int → Addr) (cs : Cells), vs = [.ref L.a, .ref L.r, .ref sd, .int z.ot] ∧ PAt K H L z ∧ BookO K H L.b bd [] ∧ H sd = some (.dK (sdV cd hd nd td xd)) ∧ Tab H cd hd nd td xd ad cs z.hs z.told z.W z.S ∧
  z.yt = z.yb ∧ z.st = z.sb ∧ Tiled z.M 0 z.ot cs ∧ (∀ c ∈ cs, CellOld z.M c.1 c.2) ∧ Disj cs ∧ cs.length ≤ 100 ∧ z.hs.length ≤ 100 ∧ z.told.length ≤ 1000 ∧ z.W.length ≤ 1000 ∧ sd ≠ cd ∧ sd ≠ nd ∧
  ∀ H', Same H H' → Q (.bl true) H'
theorem ok_law_stands {P : Program} {w : World} {K : PySem.W.Frag} {mg : Str → Option Value} {base : Heap} (T : Tx K mg) : FX P w K mg base 8 (He.ga K "_law_stands") ["_law_areas", "_law_roots", "_law_s", "_law_top"] (sp_law_stands K) := by
  refine fx_of T.f_law_stands sc_law_stands (fun _ _ _ _ _ _ us hl => match us, hl with | [_, _, _, _], _ => rfl) (fun vs H Q E h => ?_) (fun cdv A outer s H vs Q E hr h => ?_)
  · obtain ⟨_, _, _, _, _, _, _, _, _, _, _, rfl, _⟩ := h
    rfl
  · obtain ⟨L, z, sd, cd, hd, nd, td, xd, bd, ad, cs, rfl, p, B, hsd, t, ey, es, ti, old, DJ, hcl, hhl, htl, hwl, nsc, nsn, q⟩ := h
    obtain ⟨dxa, hao⟩ := p.ar
    obtain ⟨dxr, hro⟩ := p.ro
    obtain ⟨dxo, holo⟩ := p.old
    obtain ⟨dxy, hyo⟩ := p.yo
    obtain ⟨dxs, hso⟩ := p.sp
    obtain ⟨dxm, hmo⟩ := p.me.o
    obtain ⟨dxh, hho⟩ := p.ha.o
    obtain ⟨dxw, hwo⟩ := p.we.o
    obtain ⟨dxl, hlo⟩ := p.la.o
    obtain ⟨dxb, hbo⟩ := B.o
    refine ⟨_, (pss_cons (ps_if (PW.pt (pw_or (pt_cmpR (op_neLI hr.units) (pe_lst (pa_cons (pe_fld (pe_fld (pv 0) rfl) rfl) (pa_cons (pe_methF0 (pe_fld (pv 0) rfl) T.cl_Space T.m_Space_used (ok_Space_used (K := K) T) (hr.mono (by decide))) (pa_cons (pe_methF0 (pe_fld (pv 0) rfl) T.cl_Space T.m_Space_used (ok_Space_used (K := K) T) (hr.mono (by decide))) pa_nil)))) (pe_lst (pa_cons (pv 3) (pa_cons pe_int (pa_cons pe_int pa_nil)))) (nomark _)) (pw_or1 (pt_cmpR (op_neLI hr.units) (pe_methF0 (pe_fld (pv 1) rfl) T.cl_Book T.m_Book_places (ok_Book_places (K := K) T) (hr.mono (by decide))) (pe_lst pa_nil) (nomark _))))) (pss_one (ps_ret pe_bl)) pss_nil)
      (pss_cons (ps_if (PW.pt (pw_or (pt_cmpR (op_neLI hr.units) (pe_methF (pe_fld (pv 0) rfl) T.cl_Space T.m_Space_cells (ok_Space_cells (K := K) T) (hr.mono (by decide)) (pa_cons (pe_fld (pv 0) rfl) pa_nil)) (pe_callTy (call_list_dK rfl) (by rfl) T.n_list (by decide +kernel) (pa_cons (pe_dget (hu_of hr) (pv 2) pe_str (fun _ _ => rfl)) pa_nil)) (nomark _)) (pw_or1 (pt_cmpR (op_neLI hr.units) (pe_methF0 (pe_fld (pv 1) rfl) T.cl_Hands T.m_Hands_row (ok_Hands_row (K := K) T) (hr.mono (by decide))) (pe_dget (hu_of hr) (pv 2) pe_str (fun _ _ => rfl)) (nomark _))))) (pss_one (ps_ret pe_bl)) pss_nil)
      (pss_cons (ps_lock (ps_for PassesOwn.never rfl (pi_keys (pe_dget (hu_of hr) (pv 2) pe_str (fun _ _ => rfl))) (pg_name (i := 4) sc_law_stands.nd rfl (Or.inr rfl)) (pss_cons (ps_set (i := 5) sc_law_stands.nd rfl (Or.inl rfl) (pe_op op_cat (pe_lst (pa_cons (pe_op op_add (pe_op op_mul pe_int (pe_callB call_len_seq (by rfl) T.n_len PySem.boot_len (pa_cons (pe_dget (hu_of hr) (pe_dget (hu_of hr) (pv 2) pe_str (fun _ _ => rfl)) (pv 4) (fun _ _ => rfl)) pa_nil))) pe_int) pa_nil)) (pe_dget (hu_of hr) (pe_dget (hu_of hr) (pv 2) pe_str (fun _ _ => rfl)) (pv 4) (fun _ _ => rfl))))
      (pss_one (ps_if (pt_cmpR (op_neLI hr.units) (pe_lc (own := [("_law_k", 8)]) rfl sc_law_stands.nd (pi_range1 (by rfl) T.n_range (pa_cons (pe_callB call_len_seq (by rfl) T.n_len PySem.boot_len (pa_cons (pv 5) pa_nil)) pa_nil)) (blkOk_by (N := N_law_stands) (sc := defScope s_law_stands) (by decide +kernel)) (fun _ _ _ _ _ => (pg_name (i := 8) sc_law_stands.nd rfl (Or.inl rfl) (Or.inr rfl))) (fun _ _ _ _ _ => pts_nil) (fun _ _ _ _ _ => (pe_methF (pe_fldK (K := K) rfl (pv 0) rfl) T.cl_Memory T.m_Memory_read (ok_Memory_read (K := K) T) (hr.mono (by decide)) (pa_cons (pe_op op_add (pv 4) (pv 8)) pa_nil)))) (pv 5) (nomark _)) (pss_one (ps_ret pe_bl)) pss_nil)))))
      (pss_cons (ps_lock (ps_for PassesOwn.never rfl (pi_keys (pe_dget (hu_of hr) (pv 2) pe_str (fun _ _ => rfl))) (pg_name (i := 6) sc_law_stands.nd rfl (Or.inl rfl)) (pss_one (ps_if (pt_cmpR op_ne (pe_methF (pe_fld (pv 1) rfl) T.cl_Weak T.m_Weak_at (ok_Weak_at (K := K) T) (hr.mono (by decide)) (pa_cons (pv 6) pa_nil)) (pe_dget (hu_of hr) (pe_dget (hu_of hr) (pv 2) pe_str (fun _ _ => rfl)) (pv 6) (fun _ _ => rfl)) (nomark _)) (pss_one (ps_ret pe_bl)) pss_nil))))
      (pss_cons (ps_lock (ps_setLc (i := 7) (own := [("_law_name", 6)]) rfl sc_law_stands.nd rfl rfl (sw_true rfl rfl rfl (by decide +kernel)) (pi_keys (pe_dget (hu_of hr) (pv 2) pe_str (fun _ _ => rfl))) (blkOk_by (N := N_law_stands) (sc := defScope s_law_stands) (by decide +kernel)) (fun _ _ _ _ _ => (pg_name (i := 6) sc_law_stands.nd rfl (Or.inl rfl) (Or.inr rfl))) (fun _ _ _ _ _ => (pts_one (pt_cmpR op_notN (pe_dget (hu_of hr) (pe_dget (hu_of hr) (pv 2) pe_str (fun _ _ => rfl)) (pv 6) (fun _ _ => rfl)) pe_non (nomark _)))) (fun _ _ _ _ _ => (pe_tup (pa_cons (pv 6) (pa_cons (pe_dget (hu_of hr) (pe_dget (hu_of hr) (pv 2) pe_str (fun _ _ => rfl)) (pv 6) (fun _ _ => rfl)) pa_nil))))))
      (pss_cons (ps_if (PW.pt (pw_or (pt_cmpR (op_neLT hr.units) (pe_methF0 (pe_fld (pv 1) rfl) T.cl_Weak T.m_Weak_names (ok_Weak_names (K := K) T) (hr.mono (by decide))) (pv 7) (nomark _)) (pw_or1 (pt_cmpR (op_neLT hr.units) (pe_methF0 (pe_fld (pv 1) rfl) T.cl_Lasts T.m_Lasts_pending (ok_Lasts_pending (K := K) T) (hr.mono (by decide))) (pe_dget (hu_of hr) (pv 2) pe_str (fun _ _ => rfl)) (nomark _))))) (pss_one (ps_ret pe_bl)) pss_nil)
      (pss_one (ps_ret (pe_cmpR (op_eqLI hr.units) (pe_methF0 (pe_fld (pv 1) rfl) T.cl_Lasts T.m_Lasts_said (ok_Lasts_said (K := K) T) (hr.mono (by decide))) (pe_dget (hu_of hr) (pv 2) pe_str (fun _ _ => rfl)) (nomark _)))))))))), ?_⟩
    refine ⟨_, rfl, rd_Areas_old T hao (rd_Space_top T holo ⟨_, rfl, rd_Areas_young T hao (me_Space_used hyo ⟨L.y, dxy, _, _, _, rfl, hyo, ?_⟩)⟩)⟩
    refine ⟨_, rfl, rd_Areas_spare T hao (me_Space_used hso ⟨L.s, dxs, _, _, _, rfl, hso, by show 3 ≤ sizeLine; decide, fun p1 np1 => ?_⟩)⟩
    have s1 := same_new (o := .lst [.int z.ot, .int (z.yt - z.yb), .int (z.st - z.sb)]) np1
    refine ⟨_, rfl, by show 3 ≤ sizeLine; decide, fun p2 np2 => ?_⟩
    have s2 := same_new (o := .lst [.int z.ot, .int 0, .int 0]) np2
    refine ⟨p1, p2, [z.ot, 0, 0], [z.ot, 0, 0], rfl, rfl, SqL.of (s2 _ _ (by rw [upd_same, ey, es, Int.sub_self, Int.sub_self]; rfl)), SqL.of upd_same, _, rfl, neF ?_⟩
    have s02 := s1.trans s2
    generalize upd (upd H p1 (.lst [.int z.ot, .int (z.yt - z.yb), .int (z.st - z.sb)])) p2 (.lst [.int z.ot, .int 0, .int 0]) = H2 at s02 ⊢
    clear s1 s2
    refine ⟨_, rfl, rd_Roots_book T (s02 _ _ hro) (me_Book_places (s02 _ _ hbo) ⟨L.b, bd, rfl, B.same s02, fun p3 H3 np3 s3 hp3 => ?_⟩)⟩
    refine ⟨Nat.zero_le _, fun p4 np4 => ⟨p3, p4, [], [], rfl, rfl, SqL.of (same_new np4 _ _ hp3), SqL.of upd_same, _, rfl, neF ?_⟩⟩
    have s04 := (s02.trans s3).trans (same_new (o := .lst []) np4)
    generalize upd H3 p4 (.lst []) = H4 at s04 ⊢
    -- cells and hands
    refine ⟨_, rfl, rd_Areas_old T (s04 _ _ hao) (me_Space_cells (s04 _ _ holo) ⟨_, rfl, rd_Areas_memory T (s04 _ _ hao) ⟨L.o, dxo, L.m, L.l, z.M, 0, z.oe, z.ot, cs, rfl, s04 _ _ holo, p.me.same s04, ti, hcl, fun p5 H5 np5 s5 hp5 => ?_⟩⟩)⟩
    have s05 := s04.trans s5
    refine ⟨_, rfl, sd, _, rfl, sd_cells (s05 _ _ hsd), cd, _, rfl, s05 _ _ t.co.d, fun p6 np6 => ?_⟩
    refine ⟨p5, p6, keys cs, keys cs, rfl, rfl, SqL.of (same_new np6 _ _ hp5), SqL.of (by rw [upd_same, csV_keys]), _, rfl, neF ?_⟩
    have s06 := s05.trans (same_new (o := .lst ((kI (csV ad cs)).map fun kv => kV kv.1)) np6)
    generalize upd H5 p6 (.lst ((kI (csV ad cs)).map fun kv => kV kv.1)) = H6 at s06 ⊢
    refine ⟨_, rfl, rd_Roots_hands T (s06 _ _ hro) (me_Hands_row (s06 _ _ hho) ⟨L.h, L.hl, z.hs, rfl, p.ha.same s06, fun p7 np7 => ?_⟩)⟩
    have s07 := s06.trans (same_new (o := .lst (z.hs.map V.int)) np7)
    refine ⟨_, rfl, sd, _, rfl, sd_hands (s07 _ _ hsd), p7, hd, z.hs, z.hs, rfl, rfl, SqL.of upd_same, SqL.of (s07 _ _ t.h), _, rfl, neF ?_⟩
    generalize upd H6 p7 (.lst (z.hs.map V.int)) = H7 at s07 ⊢
    -- each cell
    refine ⟨cd, _, s07 _ _ t.co.d, trivial, fun od => ?_⟩
    have kl : Keep [cd] H (upd H7 cd (.frz od (.dK (kI (csV ad cs))))) := keep_upd ((Keep.refl H).same s07) (by simp)
    have nsdcd : sd ∉ [cd] := not1 nsc
    have hlk1 : (upd H7 cd (.frz od (.dK (kI (csV ad cs))))) cd = some (.frz od (.dK (kI (csV ad cs)))) := upd_same
    have nin : ∀ {x C dx : Addr} {fs : List (Str × V)}, H x = some (.ins C dx fs) → x ∉ [cd] := fun e => not1 (ne_of e t.co.d (by intro z; cases z))
    have nls : ∀ {x : Addr} {xs : List V}, H x = some (.lst xs) → x ∉ [cd] := fun e => not1 (ne_of e t.co.d (by intro z; cases z))
    refine ⟨_, rfl, sd, _, rfl, sd_cells (kl _ _ hsd nsdcd), cd, od, rfl, .inl ⟨_, hlk1, for_it walk_keys (fun i σ H8 => ∃ (v4 v5 v8 : Option V), σ = [some (.ref L.a), some (.ref L.r), some (.ref sd), some (.int z.ot), v4, v5, none, none, v8] ∧ Keep [cd] H H8 ∧ H8 cd = some (.frz od (.dK (kI (csV ad cs)))))
      ⟨none, none, none, rfl, kl, hlk1⟩ (fun i σ H8 _ ⟨_, _, _, _, _, h⟩ => h) ?_ ?_⟩⟩
    · rintro i y σ H8 H8' hi ⟨v4, v5, v8, rfl, k8, hc8⟩ ⟨rfl, k0, vv, ek, rfl⟩
      rw [csV_get] at ek
      obtain ⟨c, ec, e2⟩ := Option.map_eq_some_iff.mp ek
      obtain ⟨rfl, rfl⟩ := Prod.mk.inj e2
      have hcm : c ∈ cs := List.mem_of_getElem? ec
      have hck : c.1 ∈ keys cs := mem_keys (ws := c.2) hcm
      have co := old c hcm
      have hl0 := t.co.l c hcm
      have hl8 := k8 _ _ hl0 (nls hl0)
      have hsd8 := k8 _ _ hsd nsdcd
      have hw8 := co.c.len
      have hpos := co.c.pos
      have hfit := co.c.fit
      have dg : ∀ {Hc : Hp}, Hc cd = some (.frz od (.dK (kI (csV ad cs)))) → DGet Hc cd (.int c.1) (some (.ref (ad c.1))) := fun e => dgetI (.inr ⟨od, e⟩) (csV_in hck)
      refine ⟨_, rfl, sd, _, rfl, sd_cells hsd8, _, rfl, cd, _, rfl, dg hc8, ad c.1, _, rfl, .inl (SqL.of hl8), _, _, rfl, rfl, .inl ⟨by decide, by decide⟩, _, _, rfl, rfl, by show 1 ≤ sizeLine; decide, fun p9 np9 => ?_⟩
      rw [List.length_map]
      have hsd9 := same_new (o := .lst [.int (8 * (c.2.length : Int) + 4)]) np9 _ _ hsd8
      have hc9 := same_new (o := .lst [.int (8 * (c.2.length : Int) + 4)]) np9 _ _ hc8
      have hl9 := same_new (o := .lst [.int (8 * (c.2.length : Int) + 4)]) np9 _ _ hl8
      have k9 : Keep [cd] H (upd H8' p9 (.lst [.int (8 * (c.2.length : Int) + 4)])) := k8.same (same_new np9)
      have hp9 : (upd H8' p9 (.lst [.int (8 * (c.2.length : Int) + 4)])) p9 = some (.lst [.int (8 * (c.2.length : Int) + 4)]) := upd_same
      generalize upd H8' p9 (.lst [.int (8 * (c.2.length : Int) + 4)]) = H9 at hsd9 hc9 hl9 k9 hp9 ⊢
      refine ⟨_, rfl, sd, _, rfl, sd_cells hsd9, _, rfl, cd, _, rfl, dg hc9, p9, ad c.1, _, _, rfl, rfl, hp9, hl9, ?_, fun p10 np10 => ?_⟩
      · rw [List.length_map]
        exact Nat.le_trans (show 1 + c.2.length ≤ 1000 by omega) (by decide)
      have e10 : [V.int (8 * (c.2.length : Int) + 4)] ++ c.2.map V.int = ((8 * (c.2.length : Int) + 4) :: c.2).map V.int := rfl
      rw [e10]
      have k10 : Keep [cd] H (upd H9 p10 (.lst (((8 * (c.2.length : Int) + 4) :: c.2).map V.int))) := k9.same (same_new np10)
      have hc10 := same_new (o := .lst (((8 * (c.2.length : Int) + 4) :: c.2).map V.int)) np10 _ _ hc9
      have hp10 : (upd H9 p10 (.lst (((8 * (c.2.length : Int) + 4) :: c.2).map V.int))) p10 = some (.lst (((8 * (c.2.length : Int) + 4) :: c.2).map V.int)) := upd_same
      generalize upd H9 p10 (.lst (((8 * (c.2.length : Int) + 4) :: c.2).map V.int)) = H10 at k10 hc10 hp10 ⊢
      have hrow : ∀ k : Nat, k < c.2.length + 1 → ((8 * (c.2.length : Int) + 4) :: c.2)[k]? = some (mget z.M (c.1 + k)) := fun k hk => by
        cases k with
        | zero =>
          rw [show c.1 + ((0 : Nat) : Int) = c.1 by omega, co.h]
          rfl
        | succ k =>
          have hk2 : k < c.2.length := by omega
          show c.2[k]? = _
          rw [List.getElem?_eq_getElem hk2, show c.1 + ((k + 1 : Nat) : Int) = c.1 + 1 + k by omega, co.c.sl k _ (List.getElem?_eq_getElem hk2)]
      have hrl : ((8 * (c.2.length : Int) + 4) :: c.2).length = c.2.length + 1 := rfl
      generalize ((8 * (c.2.length : Int) + 4) :: c.2) = row at hrow hrl k10 hc10 hp10 ⊢
      refine ⟨_, rfl, p10, _, rfl, .inl (SqL.of hp10), _, rfl, by omega, by rw [List.length_map]; omega, fun D nD => ?_⟩
      refine lc_range (lo := 0) (n := (((row.map V.int).length : Nat) : Int).toNat) (fun k H11 => Same H10 H11 ∧ H11 D = some (.lst ((row.take k).map V.int))) ⟨same_new nD, upd_same⟩ ?_ ?_
      · rintro k H11 hk ⟨s11, hD⟩
        rw [List.length_map, Int.toNat_natCast] at hk
        have k11 := k10.same s11
        have me11 : MemO K H11 L.m L.l z.M := ⟨⟨dxm, k11 _ _ hmo (nin hmo)⟩, k11 _ _ p.me.w (nls p.me.w)⟩
        refine ⟨rfl, tyes (iteT ?_)⟩
        refine ⟨_, rfl, rd_Areas_memory T (k11 _ _ hao (nin hao)) (me_Memory_read (k11 _ _ hmo (nin hmo)) ⟨_, rfl, _, rfl, _, _, rfl, rfl, L.m, L.l, z.M, _, rfl, me11, by omega, by omega, ?_⟩)⟩
        refine ⟨_, hD, small1000 (by rw [List.length_map, List.length_take]; omega), same_mut s11 nD, ?_⟩
        rw [upd_same, take_succ' (hrow k (by omega)), List.map_append, Int.zero_add]
        rfl
      · rintro H11 ⟨s11, hD⟩
        rw [List.length_map, Int.toNat_natCast, List.take_length] at hD
        refine ⟨_, rfl, D, p10, row, row, rfl, rfl, SqL.of hD, SqL.of (s11 _ _ hp10), _, rfl, neF ?_⟩
        exact ⟨_, _, _, rfl, k10.same s11, s11 _ _ hc10⟩
    rintro σ H8 ⟨v4, v5, v8, rfl, k8, hc8⟩
    refine ⟨hc8, ?_⟩
    have s08 : Same H (upd H8 cd (.dK (kI (csV ad cs)))) := unlock_same k8 t.co.d
    generalize upd H8 cd (.dK (kI (csV ad cs))) = H9 at s08 ⊢
    clear kl nsdcd hlk1 nin nls
    -- each name
    refine ⟨nd, _, s08 _ _ t.nm, trivial, fun od => ?_⟩
    have kl : Keep [nd] H (upd H9 nd (.frz od (.dK (kI (nmFrom 0 z.told))))) := keep_upd ((Keep.refl H).same s08) (by simp)
    have nsdnd : sd ∉ [nd] := not1 nsn
    have hlk1 : (upd H9 nd (.frz od (.dK (kI (nmFrom 0 z.told))))) nd = some (.frz od (.dK (kI (nmFrom 0 z.told)))) := upd_same
    have nin : ∀ {x C dx : Addr} {fs : List (Str × V)}, H x = some (.ins C dx fs) → x ∉ [nd] := fun e => not1 (ne_of e t.nm (by intro z; cases z))
    have nls : ∀ {x : Addr} {xs : List V}, H x = some (.lst xs) → x ∉ [nd] := fun e => not1 (ne_of e t.nm (by intro z; cases z))
    refine ⟨_, rfl, sd, _, rfl, sd_names (kl _ _ hsd nsdnd), nd, od, rfl, .inl ⟨_, hlk1, for_it walk_keys (fun i σ H10 => ∃ (v4 v5 v6 v8 : Option V), σ = [some (.ref L.a), some (.ref L.r), some (.ref sd), some (.int z.ot), v4, v5, v6, none, v8] ∧ Keep [nd] H H10 ∧ H10 nd = some (.frz od (.dK (kI (nmFrom 0 z.told)))))
      ⟨_, _, _, _, rfl, kl, hlk1⟩ (fun i σ H10 _ ⟨_, _, _, _, _, _, h⟩ => h) ?_ ?_⟩⟩
    · rintro i y σ H10 H10' hi ⟨v4, v5, v6, v8, rfl, k10, hn10⟩ ⟨rfl, k0, vv, ek, rfl⟩
      rw [nm_get] at ek
      obtain ⟨o, eo, e2⟩ := Option.map_eq_some_iff.mp ek
      obtain ⟨rfl, rfl⟩ := Prod.mk.inj e2
      rw [Nat.zero_add]
      have we10 : WeakO K H10' L.w L.wl z.told := ⟨⟨dxw, k10 _ _ hwo (nin hwo)⟩, k10 _ _ p.we.l (nls p.we.l)⟩
      refine ⟨_, rfl, rd_Roots_weaks T (k10 _ _ hro (nin hro)) (me_Weak_at (k10 _ _ hwo (nin hwo)) ⟨_, rfl, L.w, L.wl, z.told, i, o, rfl, we10, eo, ?_⟩)⟩
      refine ⟨_, rfl, sd, _, rfl, sd_names (k10 _ _ hsd nsdnd), _, rfl, nd, _, rfl, dgetI (.inr ⟨od, hn10⟩) (by rw [nm_look0, eo]; rfl), oV_scal, _, rfl, neF ?_⟩
      exact ⟨_, _, _, _, rfl, k10, hn10⟩
    rintro σ H10 ⟨v4', v5', v6, v8', rfl, k10, hn10⟩
    refine ⟨hn10, ?_⟩
    have s11 : Same H (upd H10 nd (.dK (kI (nmFrom 0 z.told)))) := unlock_same k10 t.nm
    generalize upd H10 nd (.dK (kI (nmFrom 0 z.told))) = H11 at s11 ⊢
    clear kl hlk1
    -- the names due
    refine ⟨nd, _, s11 _ _ t.nm, trivial, fun od2 => ?_⟩
    have kl : Keep [nd] H (upd H11 nd (.frz od2 (.dK (kI (nmFrom 0 z.told))))) := keep_upd ((Keep.refl H).same s11) (by simp)
    have hlk1 : (upd H11 nd (.frz od2 (.dK (kI (nmFrom 0 z.told))))) nd = some (.frz od2 (.dK (kI (nmFrom 0 z.told)))) := upd_same
    generalize upd H11 nd (.frz od2 (.dK (kI (nmFrom 0 z.told)))) = H12 at kl hlk1 ⊢
    refine ⟨_, rfl, sd, _, rfl, sd_names (kl _ _ hsd nsdnd), nd, od2, rfl, .inl ⟨_, hlk1, fun D nD => ?_⟩⟩
    have nnD : nd ≠ D := ne_of_none hlk1 nD
    have nD0 : H D = none := kl.free nD (not1 nnD.symm)
    refine lc_it walk_keys (fun i H13 => Keep [nd] H H13 ∧ H13 nd = some (.frz od2 (.dK (kI (nmFrom 0 z.told)))) ∧ ∃ zs, H13 D = some (.lst zs) ∧ Rows H13 zs (namesFrom 0 (z.told.take i)) ∧ zs.length ≤ i) ⟨kl.same (same_new nD), same_new nD _ _ hlk1, [], upd_same, .nil, Nat.le_refl _⟩ (fun i H13 _ ⟨_, h, _⟩ => h) ?_ ?_
    · rintro i y H13 H13' hi ⟨k13, hn13, zs, hD, hrz, hzl⟩ ⟨rfl, k0, vv, ek, rfl⟩
      rw [nm_get] at ek
      obtain ⟨o, eo, e2⟩ := Option.map_eq_some_iff.mp ek
      obtain ⟨rfl, rfl⟩ := Prod.mk.inj e2
      rw [Nat.zero_add]
      have hil := lt_of_get eo
      have dg : DGet H13' nd (.int (i : Nat)) (some (oV o)) := dgetI (.inr ⟨od2, hn13⟩) (by rw [nm_look0, eo]; rfl)
      have hsd13 := k13 _ _ hsd nsdnd
      refine ⟨rfl, _, rfl, sd, _, rfl, sd_names hsd13, _, rfl, nd, _, rfl, dg, rfl, _, rfl, ?_⟩
      cases o with
      | none =>
        refine iteF ⟨k13, hn13, zs, hD, ?_, by omega⟩
        rw [take_succ' eo, namesFrom_snoc, List.append_nil]
        exact hrz
      | some a =>
        refine iteT ⟨_, rfl, _, rfl, sd, _, rfl, sd_names hsd13, _, rfl, nd, _, rfl, dg, by show 2 ≤ sizeLine; decide, fun u nu => ?_⟩
        have nuD : D ≠ u := ne_of_none hD nu
        have hD4 : (upd H13' u (.tup [.int (i : Nat), oV (some a)])) D = some (.lst zs) := by rw [upd_ne nuD]; exact hD
        refine ⟨zs, hD4, small1000 (by omega), fun b ob e nb => ?_, ?_, _, upd_same, ?_, by rw [List.length_append, List.length_singleton]; omega⟩
        · rw [upd_ne (fun e2 => by rw [e2, nD0] at e; cases e), upd_ne (ne_of_none (k13 b ob e nb) nu)]
          exact k13 b ob e nb
        · rw [upd_ne nnD, upd_ne (ne_of_none hn13 nu)]
          exact hn13
        · rw [take_succ' eo, namesFrom_snoc, List.length_take, Nat.min_eq_left (by omega), Nat.zero_add]
          refine ((hrz.same (same_new nu)).lst hD4).snoc ?_
          rw [upd_ne nuD.symm, upd_same]
          rfl
    rintro H13 ⟨k13, hn13, zs, hD, hrz, _⟩
    rw [kI_len, nm_len, List.take_length] at hrz
    refine ⟨hn13, ?_⟩
    have s14 : Same H (upd H13 nd (.dK (kI (nmFrom 0 z.told)))) := unlock_same k13 t.nm
    have hD14 : (upd H13 nd (.dK (kI (nmFrom 0 z.told)))) D = some (.lst zs) := by rw [upd_ne nnD.symm]; exact hD
    have hrz14 : Rows (upd H13 nd (.dK (kI (nmFrom 0 z.told)))) zs (namesFrom 0 z.told) := hrz.keep fun p ys e => by
      rw [upd_ne (ne_of e hn13 (by intro z; cases z))]
      exact e
    generalize upd H13 nd (.dK (kI (nmFrom 0 z.told))) = H14 at s14 hD14 hrz14 ⊢
    -- what is told
    refine ⟨_, rfl, rd_Roots_weaks T (s14 _ _ hro) (me_Weak_names (s14 _ _ hwo) ⟨L.w, L.wl, z.told, rfl, p.we.same s14, htl, fun p15 ys H15 np15 s15 hp15 hr15 => ?_⟩)⟩
    refine ⟨_, rfl, p15, D, ys, zs, _, rfl, rfl, SqL.of hp15, SqL.of (s15 _ _ hD14), hr15, hrz14.same s15, _, rfl, iteF ?_⟩
    have s16 := s14.trans s15
    refine ⟨_, rfl, rd_Roots_lasts T (s16 _ _ hro) (me_Lasts_pending (s16 _ _ hlo) ⟨L.la, L.ll, L.sl, z.W, z.S, rfl, p.la.same s16, hwl, fun p17 ys17 H17 np17 s17 hp17 hr17 => ?_⟩)⟩
    have s18 := s16.trans s17
    obtain ⟨xs, hx18, hr18⟩ := (t.same s18).tk
    refine ⟨_, rfl, sd, _, rfl, sd_tickets (s18 _ _ hsd), p17, td, ys17, xs, _, rfl, rfl, SqL.of hp17, SqL.of hx18, hr17, hr18, _, rfl, iteF ?_⟩
    refine ⟨_, rfl, rd_Roots_lasts T (s18 _ _ hro) (me_Lasts_said (s18 _ _ hlo) ⟨L.la, L.ll, L.sl, z.W, z.S, rfl, p.la.same s18, fun p19 np19 => ?_⟩)⟩
    have s19 := s18.trans (same_new (o := .lst (z.S.map V.int)) np19)
    refine ⟨_, rfl, sd, _, rfl, sd_said (s19 _ _ hsd), p19, xd, z.S, z.S, rfl, rfl, SqL.of upd_same, SqL.of (s19 _ _ t.sa), ?_⟩
    rw [decide_eq_true rfl]
    exact q _ s19
end Km
set_option Elab.async false
set_option linter.all false
set_option maxRecDepth 100000
set_option maxHeartbeats 8000000
/-! the whole state; one collection asked for -/
namespace Km
open PySem PySem.Spec PyProof.Rows L2
theorem HandO.keep {D : List Addr} {K : PySem.W.Frag} {H H' : Hp} {h hl : Addr} {hs : List Int} (x : HandO K H h hl hs) (k : Keep D H H') (b : h ∉ D) (n : hl ∉ D) : HandO K H' h hl hs := by
  obtain ⟨dx, e⟩ := x.o
  exact ⟨⟨dx, k _ _ e b⟩, k _ _ x.w n⟩
theorem PAt.keep {D : List Addr} {K : PySem.W.Frag} {H H' : Hp} {L : PL} {z : PV} (p : PAt K H L z) (k : Keep D H H') (b : Bulk H D) (n : ∀ y ∈ [L.l, L.hl, L.wl, L.ll, L.sl], y ∉ D) (bo : ∃ bd kvs, BookO K H' L.b bd kvs) : PAt K H' L z := by
  simp only [List.mem_cons, List.not_mem_nil, or_false, forall_eq_or_imp, forall_eq] at n
  obtain ⟨n1, n2, n3, n4, n5⟩ := n
  obtain ⟨dxa, hao⟩ := p.ar
  obtain ⟨dxr, hro⟩ := p.ro
  obtain ⟨dxo, holo⟩ := p.old
  obtain ⟨dxy, hyo⟩ := p.yo
  obtain ⟨dxs, hso⟩ := p.sp
  obtain ⟨dxm, hmo⟩ := p.me.o
  obtain ⟨dxh, hho⟩ := p.ha.o
  exact ⟨⟨dxa, k _ _ hao (b.ins hao)⟩, ⟨⟨dxm, k _ _ hmo (b.ins hmo)⟩, k _ _ p.me.w n1⟩, ⟨dxo, k _ _ holo (b.ins holo)⟩, ⟨dxy, k _ _ hyo (b.ins hyo)⟩, ⟨dxs, k _ _ hso (b.ins hso)⟩, ⟨dxr, k _ _ hro (b.ins hro)⟩, p.ha.keep k (b.ins hho) n2, bo, p.we.keep k b n3, p.la.keep k b n4 n5, p.nd, p.sd⟩
theorem PAt.kind {K : PySem.W.Frag} {H : Hp} {L : PL} {z : PV} (p : PAt K H L z) : ∀ y ∈ L.all, (∃ xs, H y = some (.lst xs)) ∨ ∃ C dx fs, H y = some (.ins C dx fs) := by
  obtain ⟨dxo, holo⟩ := p.old
  obtain ⟨dxy, hyo⟩ := p.yo
  obtain ⟨dxs, hso⟩ := p.sp
  obtain ⟨bd, kvs, B⟩ := p.bo
  obtain ⟨dxb, hbo⟩ := B.o
  obtain ⟨vs, hv, _⟩ := p.la.w
  unfold PL.all
  intro y hy
  simp only [List.mem_cons, List.not_mem_nil, or_false] at hy
  rcases hy with e | e | e | e | e | e | e | e | e <;> rw [e]
  · exact .inl ⟨_, p.me.w⟩
  · exact .inr ⟨_, _, _, holo⟩
  · exact .inr ⟨_, _, _, hyo⟩
  · exact .inr ⟨_, _, _, hso⟩
  · exact .inl ⟨_, p.ha.w⟩
  · exact .inr ⟨_, _, _, hbo⟩
  · exact .inl ⟨_, p.we.l⟩
  · exact .inl ⟨_, hv⟩
  · exact .inl ⟨_, p.la.s⟩
theorem PAt.free {K : PySem.W.Frag} {H : Hp} {L : PL} {z : PV} (p : PAt K H L z) {x : Addr} (h : H x = none) : x ∉ L.all := fun m => by
  rcases p.kind x m with ⟨_, e⟩ | ⟨_, _, _, e⟩ <;> (rw [h] at e; cases e)
theorem PAt.ndict {K : PySem.W.Frag} {H : Hp} {L : PL} {z : PV} (p : PAt K H L z) {x : Addr} {kvs : List (Key × V)} (h : H x = some (.dK kvs)) : x ∉ L.all := fun m => by
  rcases p.kind x m with ⟨_, e⟩ | ⟨_, _, _, e⟩ <;> (rw [h] at e; cases e)
theorem PAt.ntup {K : PySem.W.Frag} {H : Hp} {L : PL} {z : PV} (p : PAt K H L z) {x : Addr} {xs : List V} (h : H x = some (.tup xs)) : x ∉ L.all := fun m => by
  rcases p.kind x m with ⟨_, e⟩ | ⟨_, _, _, e⟩ <;> (rw [h] at e; cases e)
def PL.lists (L : PL) : List Addr := [L.l, L.hl, L.wl, L.ll, L.sl]
theorem PL.lists_all {L : PL} {x : Addr} (h : x ∈ L.lists) : x ∈ L.all := by
  unfold PL.lists at h
  unfold PL.all
  simp only [List.mem_cons, List.not_mem_nil, or_false] at h ⊢
  rcases h with e | e | e | e | e <;> simp [e]
/-- the whole state -/
structure StG (K : PySem.W.Frag) (H0 H : Hp) (L : PL) (z : PV) (us : List Int) (sd cd hd nd td xd : Addr) (ad : Int → Addr) (cs : Cells) : Prop where
  p : PAt K H L z
  F : Fit z cs
  G : Geo z
  pl : Placed z.ot z.yb z.yt cs
  b : ∃ bd kvs, BookO K H L.b bd kvs ∧ H0 bd = none ∧ bd ≠ sd ∧ bd ≠ cd ∧ bd ≠ nd
  s : H sd = some (.dK (sdV cd hd nd td xd))
  t : Tab H cd hd nd td xd ad cs us z.told z.W z.S
  dd : sd ≠ cd ∧ sd ≠ nd ∧ cd ≠ nd
  ap : ∀ x ∈ [hd, td, xd], x ∉ L.lists
  aa : ∀ a ∈ keys cs, ad a ∉ L.lists ∧ ad a ≠ hd ∧ ad a ≠ td ∧ ad a ≠ xd
  ld : [hd, td, xd].Nodup
  oe : z.oe ≤ 80
  lv : z.S.length + live z.W ≤ 900
  wl : z.W.length ≤ 100
  hl : z.hs.length ≤ 6
  bs : Same H0 H
  f0 : ∀ x ∈ L.all ++ [sd, cd, hd], H0 x = none
  f1 : ∀ a ∈ keys cs, H0 (ad a) = none
abbrev St (K : PySem.W.Frag) (H0 H : Hp) (L : PL) (z : PV) (sd cd hd nd td xd : Addr) (ad : Int → Addr) (cs : Cells) : Prop := StG K H0 H L z z.hs sd cd hd nd td xd ad cs
def sp_law_collected (K : PySem.W.Frag) : Sp := fun vs H Q _ => ∃ (H0 : Hp) (L : PL) (z : PV) (sd cd hd nd td xd : Addr) (ad : Int → Addr) (cs : Cells), vs = [.ref L.a, .ref L.r, .ref sd] ∧ St K H0 H L z sd cd hd nd td xd ad cs ∧
  ∀ (z' : PV) (cd' hd' nd' td' xd' : Addr) (ad' : Int → Addr) (cs' : Cells) (H' : Hp), St K H0 H' L z' sd cd' hd' nd' td' xd' ad' cs' → z'.hs.length = z.hs.length → z'.oe = z.oe → z'.yb = z.yb → z'.ye = z.ye → z'.yt = z.yb → (size cs' : Int) = z'.ot → Q (.bl true) H'
theorem ok_law_collected {P : Program} {w : World} {K : PySem.W.Frag} {mg : Str → Option Value} {base : Heap} (T : Tx K mg) : FX P w K mg base 9 (He.ga K "_law_collected") ["_law_areas", "_law_roots", "_law_s"] (sp_law_collected K) := by
  refine fx_of T.f_law_collected sc_law_collected (fun _ _ _ _ _ _ us hl => match us, hl with | [_, _, _], _ => rfl) (fun vs H Q E h => ?_) (fun cdv A outer s H vs Q E hr h => ?_)
  · obtain ⟨_, _, _, _, _, _, _, _, _, _, _, rfl, _⟩ := h
    rfl
  · obtain ⟨H0, L, z, sd, cd, hd, nd, td, xd, ad, cs, rfl, st, q⟩ := h
    obtain ⟨bd, kvs, B, nb0, nb1, nb2, nb3⟩ := st.b
    have F := st.F
    have G := st.G
    have hsz := F.sz
    have hoe := st.oe
    have hl6 := st.hl
    obtain ⟨dxb, hbo⟩ := B.o
    refine ⟨_, (pss_cons (ps_set (i := 3) sc_law_collected.nd rfl (Or.inl rfl) (pe_callF (ok_law_moved (K := K) T) (hr.mono (by decide)) (by rfl) T.g_law_moved (pa_cons (pv 2) pa_nil)))
      (pss_cons (ps_set (i := 4) sc_law_collected.nd rfl (Or.inl rfl) (pe_callF (ok_collect_all (K := K) T) (hr.mono (by decide)) (by rfl) T.g_collect_all (pa_cons (pv 0) (pa_cons (pv 1) pa_nil))))
      (pss_cons (ps_if (PW.pt (pw_or (pt_not (pt_val (pe_callB call_isi (by rfl) T.n_isinstance (by decide +kernel) (pa_cons (pv 4) (pa_cons (pe_bltn (v := .ty "int") (by rfl) T.n_int (by decide +kernel) rfl) pa_nil))))) (pw_or (pt_val (pe_callB call_isi (by rfl) T.n_isinstance (by decide +kernel) (pa_cons (pv 4) (pa_cons (pe_bltn (v := .ty "bool") (by rfl) T.n_bool (by decide +kernel) rfl) pa_nil)))) (pw_or1 (pt_cmpR op_ne (pv 4) (pv 3) (nomark _)))))) (pss_one (ps_ret pe_bl)) pss_nil)
      (pss_one (ps_ret (pe_callF (ok_law_stands (K := K) T) (hr.mono (by decide)) (by rfl) T.g_law_stands (pa_cons (pv 0) (pa_cons (pv 1) (pa_cons (pv 2) (pa_cons (pv 3) pa_nil)))))))))), ?_⟩
    refine ⟨_, rfl, sd, cd, hd, nd, td, xd, ad, cs, z.hs, z.told, z.W, z.S, rfl, st.s, st.t, F.dj, F.cl, F.hs, fun c hc => (F.mem c hc).len, F.n1, by omega, by omega, F.n3, F.n4, st.dd.1, st.dd.2.1, ?_⟩
    refine fun Sx cd' hd' nd' td' xd' ad' H1 kp hs1 t1 fr1 fra ncn ld1 k1 => ?_
    have bs : Bulk H [sd] := fun d hd => by
      rw [List.mem_singleton.mp hd]
      exact .inr ⟨_, st.s⟩
    have p1 : PAt K H1 L z := st.p.keep k1 bs (fun y hy => by
      have := st.p.ndict st.s
      exact not1 fun e => this (by rw [← e]; exact PL.lists_all hy)) ⟨bd, kvs, B.keep k1 (bs.ins hbo) (not1 nb1)⟩
    refine ⟨_, rfl, _, rfl, L, z, cs, rfl, p1, F, fun S' N H2 kp' hN ti old p2 hb2 k2 => ?_⟩
    obtain ⟨bd2, B2, nd2⟩ := hb2
    have nbd : H1 bd2 = none := by
      cases e : H1 bd2 with
      | none => rfl
      | some o =>
        have e2 := k2 _ _ e (p2.ndict B2.d)
        rw [B2.d] at e2
        rw [← Option.some.inj e2] at e
        exact absurd rfl (nd2 _ _ e)
    have nbd0 : H0 bd2 = none := st.bs.free (kfree k1 hs1 nbd)
    have eS := kp'.uniq kp
    subst eS
    have hst : ∀ x ∈ kids z.hs, x ∈ keys cs := fun x hx => by
      obtain ⟨w, hw, pp, e⟩ := mem_kids.mp hx
      rw [← e]
      exact (F.hs w hw).2 pp
    have hk : ∀ x ∈ S', x ∈ keys cs := fun x hx => ((kp.re x).mp hx).key F.cl hst
    have hn := rising_nodup kp.up
    have topb : topOf cs 0 S' ≤ size cs := top_le_size F.dj hn hk
    have topp : 0 ≤ topOf cs 0 S' := topOf_le (t := 0)
    have fr1' : ∀ x ∈ [cd', hd', nd', td', xd'], x ∉ L.all := fun x hx => st.p.free (fr1 x hx)
    have fra' : ∀ a ∈ keys (newCs cs (goalsL cs 0 S') S'), ad' a ∉ L.all := fun a ha => st.p.free (fra a ha).1
    have hs2 := k2 _ _ hs1 (p1.ndict hs1)
    have t2 := t1.keep k2 (fun x xs e => p1.ntup e) fr1' fra'
    have dj2 := tiled_disj ti
    have hsz2 : (size (newCs cs (goalsL cs 0 S') S') : Int) = topOf cs 0 S' := size_new
    have hlen2 : (newCs cs (goalsL cs 0 S') S').length ≤ 100 := by
      have := len_size (cs := newCs cs (goalsL cs 0 S') S')
      omega
    have G0 := G.o0
    have G1 := G.o1
    have lv := live_turn (wh := goalsL cs 0 S') (W := z.W)
    have hlv := st.lv
    have hwl := st.wl
    have n3 := F.n3
    have lw := tickN_len (wh := goalsL cs 0 S') (W := z.W)
    have lt := toldN_len (wh := goalsL cs 0 S') (l := z.told)
    have e0 : H2 (L.b) = H2 L.b := rfl
    refine ⟨_, rfl, .int _, .ty "int", .type "int", .type "int", true, rfl, .ty _, .base (.int _), kit_ty (by decide +kernel), true, rfl, iteF ?_⟩
    refine ⟨_, rfl, .int _, .ty "bool", .type "int", .type "bool", false, rfl, .ty _, .base (.int _), kit_ty (by decide +kernel), false, rfl, iteF ?_⟩
    refine ⟨_, rfl, _, rfl, rfl, _, rfl, neF ?_⟩
    have hd1 : sd ≠ cd' := fun e => by have := fr1 cd' (by simp); rw [← e, st.s] at this; cases this
    have hd2 : sd ≠ nd' := fun e => by have := fr1 nd' (by simp); rw [← e, st.s] at this; cases this
    refine ⟨_, rfl, _, rfl, _, rfl, _, rfl, L, z.next N (topOf cs 0 S') (goalsL cs 0 S'), sd, cd', hd', nd', td', xd', bd2, ad', _, rfl, p2, B2, hs2, t2, rfl, rfl, ti, old, dj2, hlen2, ?_, ?_, ?_, hd1, hd2, fun H3 s3 => ?_⟩
    · show (z.hs.map _).length ≤ 100
      rw [List.length_map]; omega
    · show (toldN _ z.told).length ≤ 1000
      omega
    · show (tickN _ z.W).length ≤ 1000
      omega
    have hlS : ∀ a ∈ S', ∃ g, (goalsL cs 0 S').lookup a = some g ∧ 0 ≤ g ∧ g ≤ 9999 := fun a ha => by
      obtain ⟨j, hj, e⟩ := List.mem_iff_getElem.mp ha
      have e1 := goalsL_look (cs := cs) (t := 0) hn (show S'[j]? = some a by rw [List.getElem?_eq_getElem hj, e])
      refine ⟨_, e1, topOf_le (t := 0), ?_⟩
      have e : topOf cs 0 S' = topOf cs (topOf cs 0 (S'.take j)) (S'.drop j) := by rw [← topOf_append, List.take_append_drop]
      have := topOf_le (cs := cs) (l := S'.drop j) (t := topOf cs 0 (S'.take j))
      omega
    have hin := tiled_in ti
    have p3 : PAt K H3 L (z.next N (topOf cs 0 S') (goalsL cs 0 S')) := p2.keep (D := []) (fun b o e _ => s3 b o e) (fun d hd => by cases hd) (fun _ _ => by simp) ⟨bd2, [], B2.same s3⟩
    refine q (z.next N (topOf cs 0 S') (goalsL cs 0 S')) cd' hd' nd' td' xd' ad' _ H3 ⟨p3, ⟨?_, dj2, ?_, ?_, ?_, ?_, ?_, ?_, ?_, hlen2, ?_, ?_, ?_⟩, ⟨?_, ?_, ?_, ?_, ?_, ?_, ?_⟩, ?_, ⟨bd2, [], B2.same s3, nbd0, ?_, ?_, ?_⟩, s3 _ _ hs2, t2.same s3, ⟨hd1, hd2, ncn⟩, ?_, ?_, ld1, st.oe, ?_, ?_, ?_, ?_, ?_, ?_⟩ ?_ rfl rfl rfl rfl hsz2
    · exact fun c hc => (old c hc).c
    · intro c hc w hw
      obtain ⟨a, ha, e⟩ := List.mem_map.mp hc
      rw [← e] at hw
      obtain ⟨v, hv, e2⟩ := List.mem_map.mp hw
      rw [← e2]
      have hcg := csGet_in F.dj (hk a ha)
      exact okIn_turn (F.cl _ hcg v hv).1 (fun pp => (kp.re _).mpr (.step ((kp.re a).mp ha) hcg (mem_kids.mpr ⟨v, hv, pp, rfl⟩))) hlS
    · intro w hw
      obtain ⟨v, hv, e⟩ := List.mem_map.mp hw
      rw [← e]
      exact okIn_turn (F.hs v hv).1 (fun pp => (kp.re _).mpr (.root (mem_kids.mpr ⟨v, hv, pp, rfl⟩))) hlS
    · intro a ha
      obtain ⟨b, e⟩ := toldN_in ha
      exact key_new (goals_in e) e
    · intro a n ha
      obtain ⟨b, e⟩ := tickN_in ha
      exact key_new (goals_in e) e
    · rw [hsz2]; show topOf cs 0 S' ≤ z.oe; omega
    · show z.oe ≤ (N.length : Int)
      rw [hN]; exact F.oe
    · show N.length ≤ 1000
      rw [hN]; exact F.ml
    · show (z.hs.map _).length ≤ 100
      rw [List.length_map]; omega
    · show (toldN _ z.told).length ≤ 1000
      omega
    · show (z.S ++ dropN _ z.W).length + (tickN _ z.W).length ≤ 1000
      rw [List.length_append]
      omega
    · exact topp
    · show topOf cs 0 S' ≤ z.oe; omega
    · exact G.o2
    · exact Int.le_refl _
    · show z.yb ≤ z.ye
      have := G.y0; have := G.y1; omega
    · show z.ye ≤ (N.length : Int)
      rw [hN]; exact G.y2
    · show N.length ≤ 1000
      rw [hN]; exact G.ml
    · exact fun c hc => .inl (hin.2 c hc)
    · exact (nd2 _ _ hs1).symm
    · exact (nd2 _ _ t1.co.d).symm
    · exact (nd2 _ _ t1.nm).symm
    · intro x hx m
      refine fr1' x ?_ (PL.lists_all m)
      simp only [List.mem_cons, List.not_mem_nil, or_false] at hx ⊢
      rcases hx with e | e | e <;> simp [e]
    · exact fun a ha => ⟨fun m => fra' a ha (PL.lists_all m), (fra a ha).2⟩
    · show (z.S ++ dropN _ z.W).length + live (tickN _ z.W) ≤ 900
      rw [List.length_append]
      omega
    · show (tickN _ z.W).length ≤ 100
      omega
    · show (z.hs.map _).length ≤ 6
      rw [List.length_map]; exact hl6
    · have kH : Keep ([sd] ++ L.all) H H3 := ((k1.mono (by simp)).trans (k2.mono (fun d hd => List.mem_append_right _ hd))).same s3
      intro b o e
      refine kH b o (st.bs b o e) fun m => ?_
      have : H0 b = none := st.f0 b (by
        rcases List.mem_append.mp m with h | h
        · rw [List.mem_singleton.mp h]; simp
        · exact List.mem_append_left _ h)
      rw [e] at this
      cases this
    · intro x hx
      rcases List.mem_append.mp hx with h | h
      · exact st.f0 x (List.mem_append_left _ h)
      · simp only [List.mem_cons, List.not_mem_nil, or_false] at h
        rcases h with e | e | e <;> rw [e]
        · exact st.f0 sd (by simp)
        · exact st.bs.free (fr1 cd' (by simp))
        · exact st.bs.free (fr1 hd' (by simp))
    · exact fun a ha => st.bs.free (fra a ha).1
    · show (z.hs.map _).length = z.hs.length
      rw [List.length_map]
end Km
set_option Elab.async false
set_option linter.all false
set_option maxRecDepth 100000
set_option maxHeartbeats 8000000
/-! the state changed between two collections -/
namespace Km
open PySem PySem.Spec PyProof.Rows L2
/-- what a step of the mutator may touch -/
def touch (L : PL) (cd bd : Addr) (ad : Int → Addr) (cs : Cells) : List Addr := [L.l, L.o, L.y, cd, bd] ++ (keys cs).map ad
theorem mem_touch {L : PL} {cd bd : Addr} {ad : Int → Addr} {cs : Cells} {x : Addr} (h : x ∈ touch L cd bd ad cs) : x = L.l ∨ x = L.o ∨ x = L.y ∨ x = cd ∨ x = bd ∨ ∃ a ∈ keys cs, x = ad a := by
  unfold touch at h
  rcases List.mem_append.mp h with q | q
  · simp only [List.mem_cons, List.not_mem_nil, or_false] at q
    rcases q with e | e | e | e | e
    · exact .inl e
    · exact .inr (.inl e)
    · exact .inr (.inr (.inl e))
    · exact .inr (.inr (.inr (.inl e)))
    · exact .inr (.inr (.inr (.inr (.inl e))))
  · obtain ⟨a, ha, e⟩ := List.mem_map.mp q
    exact .inr (.inr (.inr (.inr (.inr ⟨a, ha, e.symm⟩))))
theorem StG.step {K : PySem.W.Frag} {us : List Int} {H0 H H' : Hp} {L : PL} {z z' : PV} {sd cd hd nd td xd bd : Addr} {ad ad' : Int → Addr} {cs cs' : Cells} {kvs kvs' : List (Key × V)} (st : StG K H0 H L z us sd cd hd nd td xd ad cs)
    (B : BookO K H L.b bd kvs) (nb0 : H0 bd = none) (nb1 : bd ≠ sd) (nb2 : bd ≠ cd) (nb3 : bd ≠ nd) (k : Keep (touch L cd bd ad cs) H H') (A : AAt K H' L z') (co : CellsO H' cd ad' cs') (B' : BookO K H' L.b bd kvs')
    (e1 : z'.hs = z.hs) (e2 : z'.told = z.told) (e3 : z'.W = z.W) (e4 : z'.S = z.S) (e5 : z'.oe = z.oe) (F : Fit z' cs') (G : Geo z') (pl : Placed z'.ot z'.yb z'.yt cs') (fr : ∀ a ∈ keys cs', (∃ b ∈ keys cs, ad' a = ad b) ∨ H (ad' a) = none) :
    StG K H0 H' L z' us sd cd hd nd td xd ad' cs' := by
  have hl := st.p.me.w
  obtain ⟨dxo, holo⟩ := st.p.old
  obtain ⟨dxy, hyo⟩ := st.p.yo
  have hnd := st.p.nd
  simp only [List.nodup_cons, List.mem_cons, List.not_mem_nil, or_false, not_or, List.nodup_nil, and_true, not_false_eq_true] at hnd
  obtain ⟨⟨l1, l2, l3, l4⟩, ⟨l5, l6, l7⟩, ⟨l8, l9⟩, l10⟩ := hnd
  have alist : ∀ a ∈ keys cs, ∃ xs, H (ad a) = some (.lst xs) := fun a ha => by
    obtain ⟨ws, hw⟩ := keys_mem ha
    exact ⟨_, st.t.co.l _ hw⟩
  -- an instance that is neither old nor young stands
  have nins : ∀ {x C dx : Addr} {fs : List (Str × V)}, H x = some (.ins C dx fs) → x ≠ L.o → x ≠ L.y → x ∉ touch L cd bd ad cs := fun {x C dx fs} e n1 n2 m => by
    rcases mem_touch m with q | q | q | q | q | ⟨a, ha, q⟩
    · exact ne_of e hl ins_nl q
    · exact n1 q
    · exact n2 q
    · exact ne_of e st.t.co.d (by intro z; cases z) q
    · exact ne_of e B.d (by intro z; cases z) q
    · obtain ⟨xs, hx⟩ := alist a ha
      exact ne_of e hx ins_nl q
  have ntup : ∀ {x : Addr} {ys : List V}, H x = some (.tup ys) → x ∉ touch L cd bd ad cs := fun {x ys} e m => by
    rcases mem_touch m with q | q | q | q | q | ⟨a, ha, q⟩
    · exact ne_of e hl tup_nl q
    · exact ne_of e holo tup_ins q
    · exact ne_of e hyo tup_ins q
    · exact ne_of e st.t.co.d (by intro z; cases z) q
    · exact ne_of e B.d (by intro z; cases z) q
    · obtain ⟨xs, hx⟩ := alist a ha
      exact ne_of e hx tup_nl q
  have nlst : ∀ {x : Addr} {ys : List V}, H x = some (.lst ys) → x ≠ L.l → (∀ a ∈ keys cs, ad a ≠ x) → x ∉ touch L cd bd ad cs := fun {x ys} e n1 n2 m => by
    rcases mem_touch m with q | q | q | q | q | ⟨a, ha, q⟩
    · exact n1 q
    · exact ne_of e holo lst_ins q
    · exact ne_of e hyo lst_ins q
    · exact ne_of e st.t.co.d (by intro z; cases z) q
    · exact ne_of e B.d (by intro z; cases z) q
    · exact n2 a ha q.symm
  have ndic : ∀ {x : Addr} {ys : List (Key × V)}, H x = some (.dK ys) → x ≠ cd → x ≠ bd → x ∉ touch L cd bd ad cs := fun {x ys} e n1 n2 m => by
    rcases mem_touch m with q | q | q | q | q | ⟨a, ha, q⟩
    · exact ne_of e hl dk_nl q
    · exact ne_of e holo dk_ins q
    · exact ne_of e hyo dk_ins q
    · exact n1 q
    · exact n2 q
    · obtain ⟨xs, hx⟩ := alist a ha
      exact ne_of e hx dk_nl q
  obtain ⟨dxr, hro⟩ := st.p.ro
  obtain ⟨dxh, hho⟩ := st.p.ha.o
  obtain ⟨dxw, hwo⟩ := st.p.we.o
  obtain ⟨dxl, hlo⟩ := st.p.la.o
  obtain ⟨vs, hv, hr⟩ := st.p.la.w
  obtain ⟨xs, hx, hrx⟩ := st.t.tk
  have aal : ∀ y ∈ L.lists, ∀ a ∈ keys cs, ad a ≠ y := fun y hy a ha e => (st.aa a ha).1 (by rw [e]; exact hy)
  have m1 : L.hl ∈ L.lists := by unfold PL.lists; simp
  have m2 : L.wl ∈ L.lists := by unfold PL.lists; simp
  have m3 : L.ll ∈ L.lists := by unfold PL.lists; simp
  have m4 : L.sl ∈ L.lists := by unfold PL.lists; simp
  have m0 : L.l ∈ L.lists := by unfold PL.lists; simp
  have i1 : ∀ {x C dx : Addr} {fs : List (Str × V)}, H x = some (.ins C dx fs) → ∀ {D e : Addr} {gs : List (Str × V)}, H L.o = some (.ins D e gs) → HO.ins C dx fs ≠ HO.ins D e gs → x ≠ L.o := fun e1 _ _ _ e2 n => ne_of e1 e2 n
  have ap := st.ap
  simp only [List.mem_cons, List.not_mem_nil, or_false, forall_eq_or_imp, forall_eq] at ap
  obtain ⟨ap1, ap2, ap3⟩ := ap
  have bs' : Same H0 H' := fun b o e => by
    refine k b o (st.bs b o e) fun m => ?_
    have no : ∀ {x : Addr}, H0 x = none → b ≠ x := fun h q => by rw [q, h] at e; cases e
    rcases mem_touch m with q | q | q | q | q | ⟨a, ha, q⟩
    · exact no (st.f0 _ (by unfold PL.all; simp)) q
    · exact no (st.f0 _ (by unfold PL.all; simp)) q
    · exact no (st.f0 _ (by unfold PL.all; simp)) q
    · exact no (st.f0 _ (by simp)) q
    · exact no nb0 q
    · exact no (st.f1 a ha) q
  have fresh : ∀ {x y : Addr} {o : HO}, H x = none → H y = some o → x ≠ y := fun h1 h2 e => by rw [e, h2] at h1; cases h1
  refine ⟨⟨A.ar, A.me, A.old, A.yo, A.sp, ⟨dxr, k _ _ hro (nins hro (ne_of hro holo (ins_ne1 (by decide +kernel))) (ne_of hro hyo (ins_ne1 (by decide +kernel))))⟩, ?_, ⟨bd, kvs', B'⟩, ?_, ?_, st.p.nd, A.sd⟩, F, G, pl, ⟨bd, kvs', B', nb0, nb1, nb2, nb3⟩, k _ _ st.s (ndic st.s st.dd.1 nb1.symm), ?_, st.dd, st.ap, fun a ha => ?_, st.ld, by rw [e5]; exact st.oe, by rw [e3, e4]; exact st.lv, by rw [e3]; exact st.wl, by rw [e1]; exact st.hl, bs', st.f0, fun a ha => ?_⟩
  · rw [e1]
    exact ⟨⟨dxh, k _ _ hho (nins hho (ne_of hho holo (ins_ne1 (by decide +kernel))) (ne_of hho hyo (ins_ne1 (by decide +kernel))))⟩, k _ _ st.p.ha.w (nlst st.p.ha.w (Ne.symm l1) (aal _ m1))⟩
  · rw [e2]
    exact ⟨⟨dxw, k _ _ hwo (nins hwo (ne_of hwo holo (ins_ne1 (by decide +kernel))) (ne_of hwo hyo (ins_ne1 (by decide +kernel))))⟩, k _ _ st.p.we.l (nlst st.p.we.l (Ne.symm l2) (aal _ m2))⟩
  · rw [e3, e4]
    exact ⟨⟨dxl, k _ _ hlo (nins hlo (ne_of hlo holo (ins_ne1 (by decide +kernel))) (ne_of hlo hyo (ins_ne1 (by decide +kernel))))⟩, ⟨vs, k _ _ hv (nlst hv (Ne.symm l3) (aal _ m3)), hr.keep fun t ys e => k _ _ e (ntup e)⟩, k _ _ st.p.la.s (nlst st.p.la.s (Ne.symm l4) (aal _ m4)), st.p.la.ne⟩
  · rw [e2, e3, e4]
    have n1 : ∀ {x : Addr}, x ∉ L.lists → x ≠ L.l := fun h e => h (by rw [e]; exact m0)
    exact ⟨co, k _ _ st.t.h (nlst st.t.h (n1 ap1) fun a ha => (st.aa a ha).2.1), k _ _ st.t.nm (ndic st.t.nm st.dd.2.2.symm nb3.symm), ⟨xs, k _ _ hx (nlst hx (n1 ap2) fun a ha => (st.aa a ha).2.2.1), hrx.keep fun t ys e => k _ _ e (ntup e)⟩, k _ _ st.t.sa (nlst st.t.sa (n1 ap3) fun a ha => (st.aa a ha).2.2.2)⟩
  · rcases fr a ha with ⟨b, hb, e⟩ | h
    · rw [e]
      exact st.aa b hb
    · exact ⟨fun m => st.p.free h (PL.lists_all m), fresh h st.t.h, fresh h hx, fresh h st.t.sa⟩
  · rcases fr a ha with ⟨b, hb, e⟩ | h
    · rw [e]
      exact st.f1 b hb
    · exact st.bs.free h
/-- one hand held anew, in both places -/
theorem StG.hand {K : PySem.W.Frag} {us us' : List Int} {H0 H H' : Hp} {L : PL} {z : PV} {sd cd hd nd td xd : Addr} {ad : Int → Addr} {cs : Cells} {ks : List Int} (st : StG K H0 H L z us sd cd hd nd td xd ad cs)
    (k : Keep [hd, L.hl] H H') (h1 : H' hd = some (.lst (us'.map V.int))) (h2 : H' L.hl = some (.lst (ks.map V.int))) (hl : ks.length = z.hs.length) (hk : ∀ w ∈ ks, OkIn cs w) :
    StG K H0 H' L { z with hs := ks } us' sd cd hd nd td xd ad cs := by
  have hnd := st.p.nd
  simp only [List.nodup_cons, List.mem_cons, List.not_mem_nil, or_false, not_or, List.nodup_nil, and_true, not_false_eq_true] at hnd
  obtain ⟨⟨l1, l2, l3, l4⟩, ⟨l5, l6, l7⟩, ⟨l8, l9⟩, l10⟩ := hnd
  have ap := st.ap
  unfold PL.lists at ap
  simp only [List.mem_cons, List.not_mem_nil, or_false, forall_eq_or_imp, forall_eq, not_or] at ap
  obtain ⟨⟨a1, a2, a3, a4, a5⟩, ⟨b1, b2, b3, b4, b5⟩, c1, c2, c3, c4, c5⟩ := ap
  have ld := st.ld
  simp only [List.nodup_cons, List.mem_cons, List.not_mem_nil, or_false, not_or, List.nodup_nil, and_true, not_false_eq_true] at ld
  obtain ⟨⟨d1, d2⟩, d3⟩ := ld
  have mem2 : ∀ {x : Addr}, x ≠ hd → x ≠ L.hl → x ∉ [hd, L.hl] := fun e1 e2 => by simp [e1, e2]
  have nins : ∀ {x C dx : Addr} {fs : List (Str × V)}, H x = some (.ins C dx fs) → x ∉ [hd, L.hl] := fun e => mem2 (ne_of e st.t.h ins_nl) (ne_of e st.p.ha.w ins_nl)
  have ntup : ∀ {x : Addr} {ys : List V}, H x = some (.tup ys) → x ∉ [hd, L.hl] := fun e => mem2 (ne_of e st.t.h tup_nl) (ne_of e st.p.ha.w tup_nl)
  have ndic : ∀ {x : Addr} {ys : List (Key × V)}, H x = some (.dK ys) → x ∉ [hd, L.hl] := fun e => mem2 (ne_of e st.t.h dk_nl) (ne_of e st.p.ha.w dk_nl)
  have bk : Bulk H [hd, L.hl] := fun d hd => by
    simp only [List.mem_cons, List.not_mem_nil, or_false] at hd
    rcases hd with e | e <;> rw [e]
    · exact .inl ⟨_, st.t.h⟩
    · exact .inl ⟨_, st.p.ha.w⟩
  obtain ⟨bd, kvs, B, nb0, nb1, nb2, nb3⟩ := st.b
  obtain ⟨dxb, hbo⟩ := B.o
  obtain ⟨dxa, hao⟩ := st.p.ar
  obtain ⟨dxr, hro⟩ := st.p.ro
  obtain ⟨dxo, holo⟩ := st.p.old
  obtain ⟨dxy, hyo⟩ := st.p.yo
  obtain ⟨dxs, hso⟩ := st.p.sp
  obtain ⟨dxm, hmo⟩ := st.p.me.o
  obtain ⟨dxh, hho⟩ := st.p.ha.o
  have B' : BookO K H' L.b bd kvs := ⟨⟨dxb, k _ _ hbo (nins hbo)⟩, k _ _ B.d (ndic B.d), B.k⟩
  obtain ⟨xs, hx, hrx⟩ := st.t.tk
  have F := st.F
  have hl6 := st.hl
  have n2 := F.n2
  refine ⟨⟨⟨dxa, k _ _ hao (nins hao)⟩, ⟨⟨dxm, k _ _ hmo (nins hmo)⟩, k _ _ st.p.me.w (mem2 (Ne.symm a1) l1)⟩, ⟨dxo, k _ _ holo (nins holo)⟩, ⟨dxy, k _ _ hyo (nins hyo)⟩, ⟨dxs, k _ _ hso (nins hso)⟩, ⟨dxr, k _ _ hro (nins hro)⟩, ⟨⟨dxh, k _ _ hho (nins hho)⟩, h2⟩, ⟨bd, kvs, B'⟩,
      st.p.we.keep k bk (mem2 (Ne.symm a3) (Ne.symm l5)), st.p.la.keep k bk (mem2 (Ne.symm a4) (Ne.symm l6)) (mem2 (Ne.symm a5) (Ne.symm l7)), st.p.nd, st.p.sd⟩,
    ⟨F.mem, F.dj, F.cl, hk, F.td, F.tk, F.sz, F.oe, F.ml, F.n1, by show ks.length ≤ 100; omega, F.n3, F.n4⟩, ⟨st.G.o0, st.G.o1, st.G.o2, st.G.y0, st.G.y1, st.G.y2, st.G.ml⟩, st.pl, ⟨bd, kvs, B', nb0, nb1, nb2, nb3⟩, k _ _ st.s (ndic st.s), ?_, st.dd, st.ap, st.aa, st.ld, st.oe, st.lv, st.wl, by show ks.length ≤ 6; omega, ?_, st.f0, st.f1⟩
  · refine ⟨st.t.co.keep k (ndic st.t.co.d) fun a ha => mem2 (st.aa a ha).2.1 fun e => (st.aa a ha).1 (by rw [e]; unfold PL.lists; simp), h1, k _ _ st.t.nm (ndic st.t.nm), ⟨xs, k _ _ hx (mem2 (Ne.symm d1) b2), hrx.keep fun t ys e => k _ _ e (ntup e)⟩, k _ _ st.t.sa (mem2 (Ne.symm d2) c2)⟩
  · intro b o e
    refine k b o (st.bs b o e) (mem2 (fun q => ?_) fun q => ?_)
    · have := st.f0 hd (by simp)
      rw [← q, e] at this
      cases this
    · have := st.f0 L.hl (by unfold PL.all; simp)
      rw [← q, e] at this
      cases this
/-- the tables of names and tickets filled -/
theorem StG.tabled {K : PySem.W.Frag} {us : List Int} {H0 H H' : Hp} {L : PL} {z : PV} {sd cd hd nd td xd : Addr} {ad : Int → Addr} {cs : Cells} {told : List (Option Int)} {W : List Tick} (st : StG K H0 H L z us sd cd hd nd td xd ad cs) (f0 : ∀ x ∈ [nd, td], H0 x = none)
    (k : Keep [L.wl, L.ll, L.sl, nd, td] H H') (t : TabI K L cs z.S nd td told W H') (h1 : told.length ≤ 100) (h2 : W.length ≤ 100) (h3 : z.S.length = 0) :
    StG K H0 H' L { z with told := told, W := W } us sd cd hd nd td xd ad cs := by
  have hnd := st.p.nd
  simp only [List.nodup_cons, List.mem_cons, List.not_mem_nil, or_false, not_or, List.nodup_nil, and_true, not_false_eq_true] at hnd
  obtain ⟨⟨l1, l2, l3, l4⟩, ⟨l5, l6, l7⟩, ⟨l8, l9⟩, l10⟩ := hnd
  have ap := st.ap
  unfold PL.lists at ap
  simp only [List.mem_cons, List.not_mem_nil, or_false, forall_eq_or_imp, forall_eq, not_or] at ap
  obtain ⟨⟨a1, a2, a3, a4, a5⟩, ⟨b1, b2, b3, b4, b5⟩, c1, c2, c3, c4, c5⟩ := ap
  have ld := st.ld
  simp only [List.nodup_cons, List.mem_cons, List.not_mem_nil, or_false, not_or, List.nodup_nil, and_true, not_false_eq_true] at ld
  obtain ⟨⟨d1, d2⟩, d3⟩ := ld
  obtain ⟨vs, hv, _⟩ := st.p.la.w
  obtain ⟨xs, hx, hrx⟩ := st.t.tk
  have mem5 : ∀ {x : Addr}, x ≠ L.wl → x ≠ L.ll → x ≠ L.sl → x ≠ nd → x ≠ td → x ∉ [L.wl, L.ll, L.sl, nd, td] := fun e1 e2 e3 e4 e5 => by simp [e1, e2, e3, e4, e5]
  have bk : Bulk H [L.wl, L.ll, L.sl, nd, td] := fun d hd => by
    simp only [List.mem_cons, List.not_mem_nil, or_false] at hd
    rcases hd with e | e | e | e | e <;> rw [e]
    · exact .inl ⟨_, st.p.we.l⟩
    · exact .inl ⟨_, hv⟩
    · exact .inl ⟨_, st.p.la.s⟩
    · exact .inr ⟨_, st.t.nm⟩
    · exact .inl ⟨_, hx⟩
  have ndic : ∀ {x : Addr} {ys : List (Key × V)}, H x = some (.dK ys) → x ≠ nd → x ∉ [L.wl, L.ll, L.sl, nd, td] := fun e n => mem5 (ne_of e st.p.we.l dk_nl) (ne_of e hv dk_nl) (ne_of e st.p.la.s dk_nl) n (ne_of e hx dk_nl)
  have nl : ∀ {x : Addr} {ys : List V}, H x = some (.lst ys) → x ≠ nd := fun e => ne_of e st.t.nm (by intro z; cases z)
  obtain ⟨bd, kvs, B, nb0, nb1, nb2, nb3⟩ := st.b
  obtain ⟨dxb, hbo⟩ := B.o
  obtain ⟨dxa, hao⟩ := st.p.ar
  obtain ⟨dxr, hro⟩ := st.p.ro
  obtain ⟨dxo, holo⟩ := st.p.old
  obtain ⟨dxy, hyo⟩ := st.p.yo
  obtain ⟨dxs, hso⟩ := st.p.sp
  obtain ⟨dxm, hmo⟩ := st.p.me.o
  obtain ⟨dxh, hho⟩ := st.p.ha.o
  have B' : BookO K H' L.b bd kvs := ⟨⟨dxb, k _ _ hbo (bk.ins hbo)⟩, k _ _ B.d (ndic B.d nb3), B.k⟩
  have F := st.F
  have lv := live_le (W := W)
  have alist : ∀ a ∈ keys cs, ad a ∉ [L.wl, L.ll, L.sl, nd, td] := fun a ha => by
    obtain ⟨ws, hw⟩ := keys_mem ha
    have h := st.aa a ha
    unfold PL.lists at h
    simp only [List.mem_cons, List.not_mem_nil, or_false, not_or] at h
    exact mem5 h.1.2.2.1 h.1.2.2.2.1 h.1.2.2.2.2 (nl (st.t.co.l _ hw)) h.2.2.1
  refine ⟨⟨⟨dxa, k _ _ hao (bk.ins hao)⟩, ⟨⟨dxm, k _ _ hmo (bk.ins hmo)⟩, k _ _ st.p.me.w (mem5 l2 l3 l4 (nl st.p.me.w) (Ne.symm b1))⟩, ⟨dxo, k _ _ holo (bk.ins holo)⟩, ⟨dxy, k _ _ hyo (bk.ins hyo)⟩, ⟨dxs, k _ _ hso (bk.ins hso)⟩, ⟨dxr, k _ _ hro (bk.ins hro)⟩,
      ⟨⟨dxh, k _ _ hho (bk.ins hho)⟩, k _ _ st.p.ha.w (mem5 l5 l6 l7 (nl st.p.ha.w) (Ne.symm b2))⟩, ⟨bd, kvs, B'⟩, t.we, t.la, st.p.nd, st.p.sd⟩,
    ⟨F.mem, F.dj, F.cl, F.hs, t.tc, t.wc, F.sz, F.oe, F.ml, F.n1, F.n2, by show told.length ≤ 1000; omega, by show z.S.length + W.length ≤ 1000; omega⟩, ⟨st.G.o0, st.G.o1, st.G.o2, st.G.y0, st.G.y1, st.G.y2, st.G.ml⟩, st.pl, ⟨bd, kvs, B', nb0, nb1, nb2, nb3⟩, k _ _ st.s (ndic st.s st.dd.2.1), ?_, st.dd, st.ap, st.aa, st.ld, st.oe, by show z.S.length + live W ≤ 900; omega, by show W.length ≤ 100; omega, st.hl, ?_, st.f0, st.f1⟩
  · exact ⟨st.t.co.keep k (ndic st.t.co.d st.dd.2.2) alist, k _ _ st.t.h (mem5 a3 a4 a5 (nl st.t.h) d1), t.nm, t.tk, k _ _ st.t.sa (mem5 c3 c4 c5 (nl st.t.sa) (Ne.symm d3))⟩
  · intro b o e
    refine k b o (st.bs b o e) (mem5 (fun q => ?_) (fun q => ?_) (fun q => ?_) (fun q => ?_) fun q => ?_)
    · have := st.f0 L.wl (by unfold PL.all; simp)
      rw [← q, e] at this
      cases this
    · have := st.f0 L.ll (by unfold PL.all; simp)
      rw [← q, e] at this
      cases this
    · have := st.f0 L.sl (by unfold PL.all; simp)
      rw [← q, e] at this
      cases this
    · have := f0 nd (by simp)
      rw [← q, e] at this
      cases this
    · have := f0 td (by simp)
      rw [← q, e] at this
      cases this
end Km
set_option Elab.async false
set_option linter.all false
set_option maxRecDepth 100000
set_option maxHeartbeats 8000000
/-! the walk of the mutator -/
namespace Km
open PySem PySem.Spec PyProof.Rows L2
theorem StG.same {K : PySem.W.Frag} {us : List Int} {H0 H H' : Hp} {L : PL} {z : PV} {sd cd hd nd td xd : Addr} {ad : Int → Addr} {cs : Cells} (st : StG K H0 H L z us sd cd hd nd td xd ad cs) (s : Same H H') : StG K H0 H' L z us sd cd hd nd td xd ad cs := by
  obtain ⟨bd, kvs, B, nb0, nb1, nb2, nb3⟩ := st.b
  exact st.step B nb0 nb1 nb2 nb3 (fun b o e _ => s b o e) (st.p.aat.same s) (st.t.co.same s) (B.same s) rfl rfl rfl rfl rfl st.F st.G st.pl fun a ha => .inl ⟨a, ha, rfl⟩
theorem touch_sub {L : PL} {cd bd : Addr} {ad : Int → Addr} {cs : Cells} : ∀ x ∈ [L.l, L.o, L.y, cd], x ∈ touch L cd bd ad cs := fun x hx => by
  unfold touch
  refine List.mem_append_left _ ?_
  simp only [List.mem_cons, List.not_mem_nil, or_false] at hx ⊢
  rcases hx with e | e | e | e <;> simp [e]
theorem touch_sub2 {L : PL} {cd bd : Addr} {ad : Int → Addr} {cs : Cells} {a : Int} (ha : a ∈ keys cs) : ∀ x ∈ [L.l, bd, ad a], x ∈ touch L cd bd ad cs := fun x hx => by
  unfold touch
  simp only [List.mem_cons, List.not_mem_nil, or_false] at hx
  rcases hx with e | e | e
  · exact List.mem_append_left _ (by simp [e])
  · exact List.mem_append_left _ (by simp [e])
  · rw [e]
    exact List.mem_append_right _ (List.mem_map.mpr ⟨a, ha, rfl⟩)
/-- a young cell laid -/
theorem StG.laid {K : PySem.W.Frag} {us : List Int} {H0 H H' : Hp} {L : PL} {z : PV} {sd cd hd nd td xd : Addr} {ad ad' : Int → Addr} {cs : Cells} {N : List Int} {n : Nat} {tp : Int} (st : StG K H0 H L z us sd cd hd nd td xd ad cs) (hN : N.length = z.M.length) (A : AAt K H' L (z.laid N 1 n)) (G : Geo (z.laid N 1 n))
    (co : CellsO H' cd ad' (cs ++ [(tp, List.replicate n (-1))])) (hM : Mem N (cs ++ [(tp, List.replicate n (-1))])) (DJ : Disj (cs ++ [(tp, List.replicate n (-1))])) (pl : Placed (z.laid N 1 n).ot z.yb (z.laid N 1 n).yt (cs ++ [(tp, List.replicate n (-1))]))
    (ead : ∀ a ∈ keys cs, ad' a = ad a) (fr : H (ad' tp) = none) (k : Keep [L.l, L.o, L.y, cd] H H') (hs : (size cs : Int) + n + 1 ≤ z.oe) : StG K H0 H' L (z.laid N 1 n) us sd cd hd nd td xd ad' (cs ++ [(tp, List.replicate n (-1))]) := by
  obtain ⟨bd, kvs, B, nb0, nb1, nb2, nb3⟩ := st.b
  obtain ⟨dxb, hbo⟩ := B.o
  obtain ⟨dxo, holo⟩ := st.p.old
  obtain ⟨dxy, hyo⟩ := st.p.yo
  have F := st.F
  have hoe := st.oe
  have kmem : ∀ x ∈ keys cs, x ∈ keys (cs ++ [(tp, List.replicate n (-1))]) := fun x hx => by rw [keys_snoc]; exact List.mem_append_left _ hx
  have hsz : size (cs ++ [(tp, List.replicate n (-1))]) = size cs + (n + 1) := by rw [size_snoc, List.length_replicate]
  have B' : BookO K H' L.b bd kvs := B.keep k (by
      simp only [List.mem_cons, List.not_mem_nil, or_false, not_or]
      exact ⟨ne_of hbo st.p.me.w ins_nl, ne_of hbo holo (ins_ne1 (by decide +kernel)), ne_of hbo hyo (ins_ne1 (by decide +kernel)), ne_of hbo st.t.co.d (by intro z; cases z)⟩) (by
      simp only [List.mem_cons, List.not_mem_nil, or_false, not_or]
      exact ⟨ne_of B.d st.p.me.w dk_nl, ne_of B.d holo dk_ins, ne_of B.d hyo dk_ins, nb2⟩)
  refine st.step B nb0 nb1 nb2 nb3 (k.mono touch_sub) A co B' rfl rfl rfl rfl rfl ⟨hM, DJ, F.cl.snoc, fun w hw => (F.hs w hw).mono kmem, fun a ha => kmem a (F.td a ha), fun a m ha => kmem a (F.tk a m ha), ?_, ?_, ?_, ?_, F.n2, F.n3, F.n4⟩ G pl fun a ha => ?_
  · rw [hsz]
    show ((size cs + (n + 1) : Nat) : Int) ≤ z.oe
    omega
  · show z.oe ≤ (N.length : Int)
    rw [hN]; exact F.oe
  · show N.length ≤ 1000
    rw [hN]; exact F.ml
  · have := len_size (cs := cs ++ [(tp, List.replicate n (-1))])
    omega
  · rw [keys_snoc] at ha
    rcases List.mem_append.mp ha with h | h
    · exact .inl ⟨a, h, ead a h⟩
    · rw [List.mem_singleton.mp h]
      exact .inr fr
/-- a slot written -/
theorem StG.wrote {K : PySem.W.Frag} {us : List Int} {H0 H H' : Hp} {L : PL} {z : PV} {sd cd hd nd td xd bd : Addr} {ad : Int → Addr} {cs : Cells} {kvs kvs' : List (Key × V)} {a : Int} {ws : List Int} {k : Nat} {w : Int} (st : StG K H0 H L z us sd cd hd nd td xd ad cs)
    (B : BookO K H L.b bd kvs) (nb0 : H0 bd = none) (nb1 : bd ≠ sd) (nb2 : bd ≠ cd) (nb3 : bd ≠ nd) (haw : (a, ws) ∈ cs) (hk : k < ws.length) (okw : OkIn cs w) (A : AAt K H' L { z with M := mset z.M (a + 1 + k) w }) (B' : BookO K H' L.b bd kvs') (co : CellsO H' cd ad (csSet cs a k w)) (kk : Keep [L.l, bd, ad a] H H') :
    StG K H0 H' L { z with M := mset z.M (a + 1 + k) w } us sd cd hd nd td xd ad (csSet cs a k w) := by
  have F := st.F
  have kk' : ∀ x, x ∈ keys (csSet cs a k w) ↔ x ∈ keys cs := fun x => by rw [keys_set]
  refine st.step B nb0 nb1 nb2 nb3 (kk.mono (touch_sub2 (mem_keys haw))) A co B' rfl rfl rfl rfl rfl ⟨F.mem.set F.dj haw hk, F.dj.set, F.cl.set okw, fun v hv => (F.hs v hv).mono fun x hx => (kk' x).mpr hx, fun x hx => (kk' x).mpr (F.td x hx), fun x m hx => (kk' x).mpr (F.tk x m hx), ?_, ?_, ?_, ?_, F.n2, F.n3, F.n4⟩ (st.G.word mset_len) st.pl.set fun x hx => .inl ⟨x, (kk' x).mp hx, rfl⟩
  · rw [size_set]; exact F.sz
  · show z.oe ≤ ((mset z.M (a + 1 + k) w).length : Int)
    rw [mset_len]; exact F.oe
  · show (mset z.M (a + 1 + k) w).length ≤ 1000
    rw [mset_len]; exact F.ml
  · rw [len_set]; exact F.n1
/-- the places of the cells that have slots -/
def wideL (cs : Cells) : List Int := (cs.filter fun c => !decide (c.2 = [])).map (·.1)
theorem wide_snoc {cs : Cells} {i : Nat} {c : Int × List Int} (h : cs[i]? = some c) : wideL (cs.take (i + 1)) = wideL (cs.take i) ++ (if c.2 = [] then [] else [c.1]) := by
  unfold wideL
  rw [take_succ' h, List.filter_append, List.map_append]
  congr 1
  by_cases e : c.2 = []
  · simp [e]
  · simp [e]
theorem wide_in {cs : Cells} {a : Int} (h : a ∈ wideL cs) : ∃ ws, (a, ws) ∈ cs ∧ ws ≠ [] := by
  obtain ⟨c, hc, e⟩ := List.mem_map.mp h
  obtain ⟨h1, h2⟩ := List.mem_filter.mp hc
  exact ⟨c.2, by rw [← e]; exact h1, by simpa using h2⟩
theorem wide_len {cs : Cells} : (wideL cs).length ≤ cs.length := by unfold wideL; rw [List.length_map]; exact List.length_filter_le _ _
def sp_law_changed (K : PySem.W.Frag) : Sp := fun vs H Q _ => ∃ (H0 : Hp) (L : PL) (z : PV) (sd cd hd nd td xd rm : Addr) (ad : Int → Addr) (cs : Cells) (cell ry : Int), vs = [.ref L.a, .ref L.r, .ref sd, .int cell, .ref rm] ∧ St K H0 H L z sd cd hd nd td xd ad cs ∧ H0 rm = some (.lst [.int z.oe, .int ry]) ∧ z.ye = z.yb + ry ∧ z.yt = z.yb ∧ (size cs : Int) = z.ot ∧
  ∀ (z' : PV) (ad' : Int → Addr) (cs' : Cells) (H' : Hp), St K H0 H' L z' sd cd hd nd td xd ad' cs' → z'.oe = z.oe → z'.yb = z.yb → z'.ye = z.ye → Q .non H'
theorem ok_law_changed {P : Program} {w : World} {K : PySem.W.Frag} {mg : Str → Option Value} {base : Heap} (T : Tx K mg) : FX P w K mg base 9 (He.ga K "_law_changed") ["_law_areas", "_law_roots", "_law_s", "_law_cell", "_law_rooms"] (sp_law_changed K) := by
  refine fx_of T.f_law_changed sc_law_changed (fun _ _ _ _ _ _ us hl => match us, hl with | [_, _, _, _, _], _ => rfl) (fun vs H Q E h => ?_) (fun cdv A outer s H vs Q E hr h => ?_)
  · obtain ⟨_, _, _, _, _, _, _, _, _, _, _, _, _, _, rfl, _⟩ := h
    rfl
  · obtain ⟨H0, L, z, sd, cd, hd, nd, td, xd, rm, ad, cs, cell, ry, rfl, st, hrm, eye, eyt, esz, q⟩ := h
    have hl6 := st.hl
    refine ⟨_, (pss_cons (ps_set (i := 5) sc_law_changed.nd rfl (Or.inl rfl) (pe_callF (ok_law_next (K := K) T) (hr.mono (by decide)) (by rfl) T.g_law_next (pa_cons (pv 3) pa_nil)))
      (pss_cons (ps_for PassesOwn.never rfl (pi_range1 (by rfl) T.n_range (pa_cons (pe_callB call_len_seq (by rfl) T.n_len PySem.boot_len (pa_cons (pe_dget (hu_of hr) (pv 2) pe_str (fun _ _ => rfl)) pa_nil)) pa_nil)) (pg_name (i := 6) sc_law_changed.nd rfl (Or.inl rfl)) (pss_cons (ps_set (i := 5) sc_law_changed.nd rfl (Or.inl rfl) (pe_callF (ok_law_next (K := K) T) (hr.mono (by decide)) (by rfl) T.g_law_next (pa_cons (pe_op op_add (pv 5) (pv 6)) pa_nil)))
      (pss_one (ps_if (pt_cmpR op_eq (pe_op op_mod (pe_op op_fdiv (pv 5) pe_int) pe_int) pe_int (nomark _)) (pss_cons (ps_asg (pe_callF (ok_law_word (K := K) T) (hr.mono (by decide)) (by rfl) T.g_law_word (pa_cons (pe_dget (hu_of hr) (pv 2) pe_str (fun _ _ => rfl)) (pa_cons (pv 5) pa_nil))) (pg_sub (pe_dget (hu_of hr) (pv 2) pe_str (fun _ _ => rfl)) (pv 6) set_list))
      (pss_one (ps_expr (pe_methF (pe_fld (pv 1) rfl) T.cl_Hands T.m_Hands_put (ok_Hands_put (K := K) T) (hr.mono (by decide)) (pa_cons (pv 6) (pa_cons (pe_ix ix_list (pe_dget (hu_of hr) (pv 2) pe_str (fun _ _ => rfl)) (pv 6) (fun _ _ => rfl)) pa_nil)))))) pss_nil))))
      (pss_cons (ps_set (i := 7) sc_law_changed.nd rfl (Or.inl rfl) (pe_op op_mod (pe_op op_fdiv (pv 5) pe_int) pe_int))
      (pss_cons (ps_if (PW.pt (pw_and (pt_cmpR op_le (pe_op op_add (pv 7) pe_int) (pe_ix ix_list (pv 4) pe_int (fun _ _ => rfl)) (nomark _)) (pw_and1 (pt_cmpR op_le (pe_op op_add (pe_op op_add (pe_methF0 (pe_fld (pv 0) rfl) T.cl_Space T.m_Space_used (ok_Space_used (K := K) T) (hr.mono (by decide))) (pv 7)) pe_int) (pe_ix ix_list (pv 4) pe_int (fun _ _ => rfl)) (nomark _))))) (pss_one (ps_expr (pe_callF (ok_law_lay (K := K) T) (hr.mono (by decide)) (by rfl) T.g_law_lay (pa_cons (pv 0) (pa_cons pe_int (pa_cons (pv 7) (pa_cons (pe_dget (hu_of hr) (pv 2) pe_str (fun _ _ => rfl)) pa_nil))))))) pss_nil)
      (pss_cons (ps_lock (ps_setLc (i := 9) (own := [("_law_at", 8)]) rfl sc_law_changed.nd rfl rfl (sw_true rfl rfl rfl (by decide +kernel)) (pi_keys (pe_dget (hu_of hr) (pv 2) pe_str (fun _ _ => rfl))) (blkOk_by (N := N_law_changed) (sc := defScope s_law_changed) (by decide +kernel)) (fun _ _ _ _ _ => (pg_name (i := 8) sc_law_changed.nd rfl (Or.inl rfl) (Or.inr rfl))) (fun _ _ _ _ _ => (pts_one (pt_cmpR (op_neLIK (K := K) rfl hr.units) (pe_dget (hu_of hr) (pe_dget (hu_of hr) (pv 2) pe_str (fun _ _ => rfl)) (pv 8) (fun _ _ => rfl)) (pe_lst pa_nil) (nomark _)))) (fun _ _ _ _ _ => (pv 8))))
      (pss_one (ps_if (pt_cmpR (op_neLI hr.units) (pv 9) (pe_lst pa_nil) (nomark _)) (pss_cons (ps_set (i := 8) sc_law_changed.nd rfl (Or.inl rfl) (pe_ix ix_list (pv 9) (pe_op op_mod (pe_op op_fdiv (pv 5) pe_int) (pe_callB call_len_seq (by rfl) T.n_len PySem.boot_len (pa_cons (pv 9) pa_nil))) (fun _ _ => rfl)))
      (pss_cons (ps_set (i := 10) sc_law_changed.nd rfl (Or.inl rfl) (pe_op op_mod (pe_op op_fdiv (pv 5) pe_int) (pe_callB call_len_seq (by rfl) T.n_len PySem.boot_len (pa_cons (pe_dget (hu_of hr) (pe_dget (hu_of hr) (pv 2) pe_str (fun _ _ => rfl)) (pv 8) (fun _ _ => rfl)) pa_nil))))
      (pss_one (ps_expr (pe_callF (ok_law_write (K := K) T) (hr.mono (by decide)) (by rfl) T.g_law_write (pa_cons (pv 0) (pa_cons (pv 1) (pa_cons (pe_dget (hu_of hr) (pv 2) pe_str (fun _ _ => rfl)) (pa_cons (pv 8) (pa_cons (pv 10) (pa_cons (pe_callF (ok_law_word (K := K) T) (hr.mono (by decide)) (by rfl) T.g_law_word (pa_cons (pe_dget (hu_of hr) (pv 2) pe_str (fun _ _ => rfl)) (pa_cons (pe_callF (ok_law_next (K := K) T) (hr.mono (by decide)) (by rfl) T.g_law_next (pa_cons (pv 5) pa_nil)) pa_nil))) pa_nil))))))))))) pss_nil))))))), ?_⟩
    refine ⟨_, rfl, _, rfl, fun s0 => ?_⟩
    refine ⟨_, rfl, sd, _, rfl, sd_hands st.s, hd, _, rfl, .inl (SqL.of st.t.h), _, rfl, by omega, by rw [List.length_map]; omega, ?_⟩
    refine for_range (lo := 0) (n := (((z.hs.map V.int).length : Nat) : Int).toNat) (fun k σ H1 => ∃ (s : Int) (v6 : Option V) (hs : List Int), σ = [some (.ref L.a), some (.ref L.r), some (.ref sd), some (.int cell), some (.ref rm), some (.int s), v6, none, none, none, none] ∧ St K H0 H1 L { z with hs := hs } sd cd hd nd td xd ad cs ∧ hs.length = z.hs.length)
      ⟨s0, none, z.hs, rfl, st, rfl⟩ ?_ ?_
    · rintro k σ H1 hk ⟨s, v6, hs, rfl, st1, hl⟩
      rw [List.length_map, Int.toNat_natCast] at hk
      have hh1 : H1 hd = some (.lst (hs.map V.int)) := st1.t.h
      have hhl1 : H1 L.hl = some (.lst (hs.map V.int)) := st1.p.ha.w
      refine ⟨_, rfl, _, rfl, _, _, rfl, rfl, _, rfl, fun s1 => ?_⟩
      refine ⟨_, rfl, _, _, rfl, rfl, ⟨by decide, by decide⟩, _, _, rfl, rfl, (by show (0 : Int) < 3; decide), rfl, _, rfl, ifC (fun h => ?_) (fun h => ⟨s1, _, hs, rfl, st1, hl⟩)⟩
      refine ⟨_, rfl, sd, _, rfl, sd_cells st1.s, _, rfl, cd, ad, cs, s1, rfl, st1.t.co.d, cells_bound st1.F.mem st1.F.ml, fun w H2 okw s2 => ?_⟩
      refine ⟨_, rfl, sd, _, rfl, sd_hands (s2 _ _ st1.s), _, rfl, hd, _, _, _, rfl, rfl, s2 _ _ hh1, ixN_of (by omega) (by rw [List.length_map]; omega), ?_⟩
      have e1 : (hs.map V.int).set (0 + (k : Int)).toNat (.int w) = (mset hs (0 + k) w).map V.int := by
        unfold mset
        rw [List.map_set]
      rw [e1]
      have st2 := st1.same s2
      have hnhl : hd ≠ L.hl := fun e => st.ap hd (by simp) (by unfold PL.lists; rw [e]; simp)
      obtain ⟨dxr, hro⟩ := st2.p.ro
      obtain ⟨dxh, hho⟩ := st2.p.ha.o
      have hh2 : H2 hd = some (.lst (hs.map V.int)) := st2.t.h
      have ha2 : HandO K H2 L.h L.hl hs := st2.p.ha
      have k3 : Keep [hd, L.hl] H2 (upd H2 hd (.lst ((mset hs (0 + k) w).map V.int))) := keep_upd (Keep.refl H2) (by simp)
      have n3 : ∀ {x C dx : Addr} {fs : List (Str × V)}, H2 x = some (.ins C dx fs) → (upd H2 hd (.lst ((mset hs (0 + k) w).map V.int))) x = some (.ins C dx fs) := fun e => by rw [upd_ne (ne_of e hh2 ins_nl)]; exact e
      have hsd3 : (upd H2 hd (.lst ((mset hs (0 + k) w).map V.int))) sd = some (.dK (sdV cd hd nd td xd)) := by rw [upd_ne (ne_of st2.s hh2 dk_nl)]; exact st2.s
      have hh3 : (upd H2 hd (.lst ((mset hs (0 + k) w).map V.int))) hd = some (.lst ((mset hs (0 + k) w).map V.int)) := upd_same
      have ha3 : HandO K (upd H2 hd (.lst ((mset hs (0 + k) w).map V.int))) L.h L.hl hs := ⟨⟨dxh, n3 hho⟩, by rw [upd_ne hnhl.symm]; exact ha2.w⟩
      generalize upd H2 hd (.lst ((mset hs (0 + k) w).map V.int)) = H3 at k3 n3 hsd3 hh3 ha3 ⊢
      refine ⟨_, rfl, rd_Roots_hands T (n3 hro) (me_Hands_put (n3 hho) ⟨_, rfl, _, rfl, sd, _, rfl, sd_hands hsd3, _, rfl, hd, _, _, _, rfl, rfl, SqL.of hh3, ints_at (by omega) (by rw [mset_len]; omega), ?_⟩)⟩
      rw [mget_same (by omega) (by omega)]
      refine ⟨L.h, L.hl, hs, _, w, rfl, ha3, by omega, by omega, okw.1, ?_⟩
      refine ⟨s1, _, mset hs (0 + k) w, rfl, st2.hand (keep_upd k3 (by simp)) (by rw [upd_ne hnhl]; exact hh3) upd_same mset_len (fun v hv => ?_), mset_len.trans hl⟩
      rcases List.mem_or_eq_of_mem_set hv with h9 | h9
      · exact st2.F.hs v h9
      · rw [h9]; exact okw
    · rintro σ H1 ⟨s, v6, hs, rfl, st1, hl⟩
      obtain ⟨n, hn, hn3⟩ : ∃ n : Nat, s / 21 % 4 = n ∧ n ≤ 3 := ⟨(s / 21 % 4).toNat, by omega, by omega⟩
      obtain ⟨dxa, hao⟩ := st1.p.ar
      obtain ⟨dxo, holo⟩ := st1.p.old
      have hrm1 := st1.bs _ _ hrm
      have hoe := st1.oe
      simp only at hoe
      refine ⟨_, rfl, _, _, rfl, rfl, ⟨by decide, by decide⟩, _, _, rfl, rfl, (by show (0 : Int) < 4; decide), ?_⟩
      refine ⟨_, rfl, _, _, rfl, rfl, _, rfl, rm, _, _, _, rfl, rfl, SqL.of hrm1, rfl, _, _, rfl, rfl, _, rfl, ifC (fun h1 => ?ga) (fun h1 => iteF ?gb)⟩
      case' ga =>
        refine ⟨_, rfl, rd_Areas_old T hao (me_Space_used holo ⟨L.o, dxo, 0, _, _, rfl, holo, _, rfl, _, _, rfl, rfl, _, _, rfl, rfl, _, rfl, rm, _, _, _, rfl, rfl, SqL.of hrm1, rfl, _, _, rfl, rfl, _, rfl, ifC (fun h2 => ?gc) (fun h2 => ?gd)⟩)⟩
      case' gc =>
        simp only at h1 h2
        rw [hn] at h1 h2
        refine ⟨_, rfl, _, rfl, _, rfl, sd, _, rfl, sd_cells st1.s, L, _, cd, ad, cs, 1, n, (by rw [← hn]; rfl), st1.p.aat, st1.G, st1.t.co, st1.F.mem, st1.F.dj, st1.pl, by omega, st1.F.n1, .inr rfl, (fun e => absurd e (by decide)), (fun _ => ?ge), ?gf, fun N ad2 H2 hN A2 G2 co2 hM2 DJ2 pl2 ead fr2 nin k2 => ?gg⟩
      case ge =>
        show z.yt + (n : Int) + 1 ≤ z.ye
        omega
      case gf =>
        exact fun a ha e => (st1.aa a ha).1 (by rw [e]; unfold PL.lists; simp)
      case' gg =>
        have st2 := st1.laid hN A2 G2 co2 hM2 DJ2 pl2 ead fr2 k2 (by show (size cs : Int) + n + 1 ≤ z.oe; omega)
        obtain ⟨z2, cs2, e, st2, q1, q2, q3⟩ : ∃ (z2 : PV) (cs2 : Cells), True ∧ St K H0 H2 L z2 sd cd hd nd td xd ad2 cs2 ∧ z2.oe = z.oe ∧ z2.yb = z.yb ∧ z2.ye = z.ye := ⟨_, _, trivial, st2, rfl, rfl, rfl⟩
        clear k2 nin fr2 ead pl2 DJ2 hM2 co2 G2 A2 hN
      case' gb =>
        obtain ⟨z2, cs2, ad2, H2, e, st2, q1, q2, q3⟩ : ∃ (z2 : PV) (cs2 : Cells) (ad2 : Int → Addr) (H2 : Hp), H2 = H1 ∧ St K H0 H2 L z2 sd cd hd nd td xd ad2 cs2 ∧ z2.oe = z.oe ∧ z2.yb = z.yb ∧ z2.ye = z.ye := ⟨_, _, _, _, rfl, st1, rfl, rfl, rfl⟩
        subst e
      case' gd =>
        obtain ⟨z2, cs2, ad2, H2, e, st2, q1, q2, q3⟩ : ∃ (z2 : PV) (cs2 : Cells) (ad2 : Int → Addr) (H2 : Hp), H2 = H1 ∧ St K H0 H2 L z2 sd cd hd nd td xd ad2 cs2 ∧ z2.oe = z.oe ∧ z2.yb = z.yb ∧ z2.ye = z.ye := ⟨_, _, _, _, rfl, st1, rfl, rfl, rfl⟩
        subst e
      all_goals
        refine ⟨cd, _, st2.t.co.d, trivial, fun od => ?_⟩
        have hlk1 : (upd H2 cd (.frz od (.dK (kI (csV ad2 cs2))))) cd = some (.frz od (.dK (kI (csV ad2 cs2)))) := upd_same
        have kl : Keep [cd] H2 (upd H2 cd (.frz od (.dK (kI (csV ad2 cs2))))) := keep_upd (Keep.refl H2) (by simp)
        generalize upd H2 cd (.frz od (.dK (kI (csV ad2 cs2)))) = H3 at kl hlk1 ⊢
        have nsdcd : sd ∉ [cd] := not1 st2.dd.1
        refine ⟨_, rfl, sd, _, rfl, sd_cells (kl _ _ st2.s nsdcd), cd, od, rfl, .inl ⟨_, hlk1, fun D nD => ?_⟩⟩
        have ncD : cd ≠ D := ne_of_none hlk1 nD
        have nD2 : H2 D = none := kl.free nD (not1 ncD.symm)
        refine lc_it walk_keys (fun i H4 => Keep [cd] H2 H4 ∧ H4 cd = some (.frz od (.dK (kI (csV ad2 cs2)))) ∧ H4 D = some (.lst ((wideL (cs2.take i)).map V.int))) ⟨kl.same (same_new nD), same_new nD _ _ hlk1, upd_same⟩ (fun i H4 _ ⟨_, h, _⟩ => h) ?_ ?_
        · rintro i y H4 H4' hi ⟨k4, hc4, hD⟩ ⟨rfl, k0, vv, ek, rfl⟩
          rw [csV_get] at ek
          obtain ⟨c, ec, e2⟩ := Option.map_eq_some_iff.mp ek
          obtain ⟨rfl, rfl⟩ := Prod.mk.inj e2
          have hcm := List.mem_of_getElem? ec
          have hl2 := st2.t.co.l c hcm
          have hl4 := k4 _ _ hl2 (not1 (ne_of hl2 st2.t.co.d (by intro z; cases z)))
          have hsd4 := k4 _ _ st2.s nsdcd
          refine ⟨rfl, _, rfl, sd, _, rfl, sd_cells hsd4, _, rfl, cd, _, rfl, dgetI (.inr ⟨od, hc4⟩) (csV_in (mem_keys (ws := c.2) hcm)), Nat.zero_le _, fun e ne => ⟨ad2 c.1, e, c.2, [], rfl, rfl, SqL.of (same_new ne _ _ hl4), SqL.of upd_same, _, rfl, ?_⟩⟩
          have k5 : Keep [cd] H2 (upd H4' e (.lst [])) := k4.same (same_new ne)
          have hc5 := same_new (o := .lst []) ne _ _ hc4
          have hD5 := same_new (o := .lst []) ne _ _ hD
          generalize upd H4' e (.lst []) = H5 at k5 hc5 hD5 ⊢
          have wl := wide_len (cs := cs2.take i)
          rw [List.length_take] at wl
          have n1 := st2.F.n1
          have ew := wide_snoc ec
          by_cases hc : c.2 = []
          · rw [decide_eq_true hc]
            refine iteF ⟨k5, hc5, ?_⟩
            rw [ew, if_pos hc, List.append_nil]
            exact hD5
          · rw [decide_eq_false hc]
            refine iteT ⟨_, rfl, _, hD5, small1000 (by rw [List.length_map]; omega), fun b ob eb nb => ?_, by rw [upd_ne ncD]; exact hc5, ?_⟩
            · rw [upd_ne (fun z => by rw [z, nD2] at eb; cases eb)]
              exact k5 b ob eb nb
            · rw [upd_same, ew, if_neg hc, List.map_append]
              rfl
        · rintro H4 ⟨k4, hc4, hD⟩
          rw [kI_len, csV_len, List.take_length] at hD
          refine ⟨hc4, ?_⟩
          have s24 : Same H2 (upd H4 cd (.dK (kI (csV ad2 cs2)))) := unlock_same k4 st2.t.co.d
          have hD5 : (upd H4 cd (.dK (kI (csV ad2 cs2)))) D = some (.lst ((wideL cs2).map V.int)) := by rw [upd_ne ncD.symm]; exact hD
          generalize upd H4 cd (.dK (kI (csV ad2 cs2))) = H5 at s24 hD5 ⊢
          have st5 := st2.same s24
          refine ⟨_, rfl, Nat.zero_le _, fun e ne => ⟨D, e, wideL cs2, [], rfl, rfl, SqL.of (same_new ne _ _ hD5), SqL.of upd_same, _, rfl, ?_⟩⟩
          have st6 := st5.same (same_new (o := .lst []) ne)
          have hD6 := same_new (o := .lst []) ne _ _ hD5
          generalize upd H5 e (.lst []) = H6 at st6 hD6 ⊢
          by_cases hw : wideL cs2 = []
          · rw [decide_eq_true hw]
            exact iteF (q z2 ad2 cs2 H6 st6 q1 q2 q3)
          · rw [decide_eq_false hw]
            have hl0 : 0 < (wideL cs2).length := List.length_pos_iff.mpr hw
            refine iteT ⟨_, rfl, _, rfl, _, _, rfl, rfl, ⟨by decide, by decide⟩, _, rfl, D, _, rfl, .inl (SqL.of hD6), _, _, rfl, rfl, (by rw [List.length_map]; omega), ?_⟩
            rw [List.length_map]
            have hi0 : 0 ≤ s / 84 % ((wideL cs2).length : Int) := Int.emod_nonneg _ (by omega)
            have hi1 : s / 84 % ((wideL cs2).length : Int) < (wideL cs2).length := Int.emod_lt_of_pos _ (by omega)
            have hmem : mget (wideL cs2) (s / 84 % ((wideL cs2).length : Int)) ∈ wideL cs2 := List.mem_of_getElem? (mget_some hi0 hi1)
            refine ⟨D, _, _, _, rfl, rfl, SqL.of hD6, ints_at hi0 hi1, ?_⟩
            generalize mget (wideL cs2) (s / 84 % ((wideL cs2).length : Int)) = a at hmem ⊢
            obtain ⟨ws, haw, hwne⟩ := wide_in hmem
            have hla := st6.t.co.l _ haw
            simp only at hla
            have hwl : 0 < ws.length := List.length_pos_iff.mpr hwne
            have dga : ∀ {Hc : Hp}, Hc cd = some (.dK (kI (csV ad2 cs2))) → DGet Hc cd (.int a) (some (.ref (ad2 a))) := fun e => dgetI (.inl e) (csV_in (mem_keys haw))
            refine ⟨_, rfl, _, _, rfl, rfl, ⟨by decide, by decide⟩, _, rfl, sd, _, rfl, sd_cells st6.s, _, rfl, cd, _, rfl, dga st6.t.co.d, ad2 a, _, rfl, .inl (SqL.of hla), _, _, rfl, rfl, (by rw [List.length_map]; omega), ?_⟩
            rw [List.length_map]
            have hk0 : 0 ≤ s / 5 % (ws.length : Int) := Int.emod_nonneg _ (by omega)
            have hk1 : s / 5 % (ws.length : Int) < ws.length := Int.emod_lt_of_pos _ (by omega)
            obtain ⟨k, hk⟩ : ∃ k : Nat, s / 5 % (ws.length : Int) = k := ⟨_, (Int.toNat_of_nonneg hk0).symm⟩
            refine ⟨_, rfl, _, rfl, _, rfl, sd, _, rfl, sd_cells st6.s, _, rfl, _, rfl, _, rfl, sd, _, rfl, sd_cells st6.s, _, rfl, _, rfl, fun s9 => ⟨cd, ad2, cs2, s9, rfl, st6.t.co.d, cells_bound st6.F.mem st6.F.ml, fun w H7 okw s7 => ?_⟩⟩
            have st7 := st6.same s7
            obtain ⟨bd, kvs, B, nb0, nb1, nb2, nb3⟩ := st7.b
            refine ⟨L, z2, bd, cd, kvs, ad2, cs2, a, ws, k, w, (by rw [← hk]; rfl), st7.p.aat, st7.p.ro, B, st7.t.co, st7.F.mem, st7.F.dj, haw, by omega, okw.1, st7.F.ml, fun x hx e => (st7.aa x hx).1 (by rw [e]; unfold PL.lists; simp), nb2, fun kvs' H8 A8 B8 co8 k8 => ?_⟩
            exact q _ ad2 _ H8 (st7.wrote B nb0 nb1 nb2 nb3 haw (by omega) okw A8 B8 co8 k8) q1 q2 q3
end Km
set_option Elab.async false
set_option linter.all false
set_option maxRecDepth 100000
set_option maxHeartbeats 8000000
/-! the law itself -/
namespace Km
open PySem PySem.Spec PyProof.Rows L2
theorem base_heap {K : PySem.W.Frag} {H : Hp} {a : Addr} {xs : List V} (h : SqL K H a xs) : ∃ B : Hp, Same B H ∧ SqL K B a xs ∧ ∀ x o, B x = some o → (∃ xs, o = .lst xs) ∨ ∃ od xs, o = .frz od (.lst xs) := by
  have one : ∀ o : HO, H a = some o → Same (upd (fun _ => none) a o) H := fun o e b u eb => by
    by_cases q : b = a
    · rw [q, upd_same] at eb
      rw [q, e, eb]
    · rw [upd_ne q] at eb
      cases eb
  rcases h with h | h
  · rcases h with h | ⟨od, h⟩
    · refine ⟨upd (fun _ => none) a (.lst xs), one _ h, SqL.of upd_same, fun x o e => ?_⟩
      by_cases q : x = a
      · rw [q, upd_same] at e
        exact .inl ⟨xs, (Option.some.inj e).symm⟩
      · rw [upd_ne q] at e
        cases e
    · refine ⟨upd (fun _ => none) a (.frz od (.lst xs)), one _ h, .inl (.inr ⟨od, upd_same⟩), fun x o e => ?_⟩
      by_cases q : x = a
      · rw [q, upd_same] at e
        exact .inr ⟨od, xs, (Option.some.inj e).symm⟩
      · rw [upd_ne q] at e
        cases e
  · exact ⟨fun _ => none, fun b o e => (by cases e), .inr h, fun x o e => (by cases e)⟩
/-- the base: only lists stand in it -/
def OnlyL (B : Hp) : Prop := ∀ x o, B x = some o → (∃ xs, o = .lst xs) ∨ ∃ od xs, o = .frz od (.lst xs)
theorem OnlyL.ins {B H : Hp} (h : OnlyL B) (s : Same B H) {x C dx : Addr} {fs : List (Str × V)} (e : H x = some (.ins C dx fs)) : B x = none := by
  cases q : B x with
  | none => rfl
  | some o =>
    rw [s _ _ q] at e
    rcases h x o q with ⟨_, e2⟩ | ⟨_, _, e2⟩ <;> (rw [e2] at e; cases e)
theorem OnlyL.dk {B H : Hp} (h : OnlyL B) (s : Same B H) {x : Addr} {kvs : List (Key × V)} (e : H x = some (.dK kvs)) : B x = none := by
  cases q : B x with
  | none => rfl
  | some o =>
    rw [s _ _ q] at e
    rcases h x o q with ⟨_, e2⟩ | ⟨_, _, e2⟩ <;> (rw [e2] at e; cases e)
theorem merge_sd {cd hd nd td xd : Addr} : mergeK [] (sdV cd hd nd td xd) = sdV cd hd nd td xd := by
  unfold mergeK sdV
  simp only [List.foldl_cons, List.foldl_nil]
  have e1 : putK ([] : List (Key × V)) (Sum.inr "cells" : Key) (V.ref cd) = [((Sum.inr "cells" : Key), V.ref cd)] := putK_new (kvs := ([] : List (Key × V))) (V.ref cd) rfl
  have e2 : putK [((Sum.inr "cells" : Key), V.ref cd)] (Sum.inr "hands" : Key) (V.ref hd) = [((Sum.inr "cells" : Key), V.ref cd), (Sum.inr "hands", V.ref hd)] := putK_new _ (by rw [valV_neg (k_ne (by decide +kernel))]; rfl)
  have e3 : putK [((Sum.inr "cells" : Key), V.ref cd), (Sum.inr "hands", V.ref hd)] (Sum.inr "names" : Key) (V.ref nd) = [((Sum.inr "cells" : Key), V.ref cd), (Sum.inr "hands", V.ref hd), (Sum.inr "names", V.ref nd)] := putK_new _ (by rw [valV_neg (k_ne (by decide +kernel)), valV_neg (k_ne (by decide +kernel))]; rfl)
  have e4 : putK [((Sum.inr "cells" : Key), V.ref cd), (Sum.inr "hands", V.ref hd), (Sum.inr "names", V.ref nd)] (Sum.inr "tickets" : Key) (V.ref td) = [((Sum.inr "cells" : Key), V.ref cd), (Sum.inr "hands", V.ref hd), (Sum.inr "names", V.ref nd), (Sum.inr "tickets", V.ref td)] :=
    putK_new _ (by rw [valV_neg (k_ne (by decide +kernel)), valV_neg (k_ne (by decide +kernel)), valV_neg (k_ne (by decide +kernel))]; rfl)
  rw [e1, e2, e3, e4]
  exact putK_new _ (by rw [valV_neg (k_ne (by decide +kernel)), valV_neg (k_ne (by decide +kernel)), valV_neg (k_ne (by decide +kernel)), valV_neg (k_ne (by decide +kernel))]; rfl)
def sp_law (K : PySem.W.Frag) : Sp := fun vs H Q _ => ∃ (a : Addr) (ns : List Int), vs = [.ref a] ∧ SqL K H a (ns.map V.int) ∧ ns.length ≤ 63 ∧ ∀ H', Q (.bl true) H'
theorem ok_law {P : Program} {w : World} {K : PySem.W.Frag} {mg : Str → Option Value} {base : Heap} {fd : FuncData} (T : Tx K mg) (F : FunD K "law" "law" (defArgs s_law) (defBody s_law) (defScope s_law) [] [] (He.ga K "law") fd) : FnOk P w K mg base CX0 10 (He.ga K "law") fd ["_law_script"] (sp_law K) := by
  refine F.ok sc_law (fun vs H Q E h => ?_) (fun cdv A outer s H vs Q E hr h => ?_)
  · obtain ⟨_, _, rfl, _⟩ := h
    rfl
  refine (fun hh : ∃ t, PSs (cxOf CX0 P w K mg base N_law "law" (defScope s_law) (He.ga K "law") cdv A outer s H E).nox (defBody s_law) t ∧ t { nx := fun _ H' => Q .non H', rt := Q } (L2.start N_law vs) H => let ⟨t, h1, h2⟩ := hh; ⟨t, h1.nox, h2⟩) ?_
  · obtain ⟨a, ns, rfl, hsq, hns, q⟩ := h
    obtain ⟨B, sB, sqB, onB⟩ := base_heap hsq
    refine ⟨_, (pss_cons (ps_set (i := 1) sc_law.nd rfl (Or.inl rfl) (pe_lst (pa_cons (pe_op op_add pe_int (pe_op op_mod (pe_callF (ok_law_cell_at (K := K) T) (hr.mono (by decide)) (by rfl) T.g_law_cell_at (pa_cons (pv 0) (pa_cons pe_int pa_nil))) pe_int)) (pa_cons (pe_op op_add pe_int (pe_op op_mod (pe_op op_fdiv (pe_callF (ok_law_cell_at (K := K) T) (hr.mono (by decide)) (by rfl) T.g_law_cell_at (pa_cons (pv 0) (pa_cons pe_int pa_nil))) pe_int) pe_int)) pa_nil))))
      (pss_cons (ps_set (i := 2) sc_law.nd rfl (Or.inl rfl) (pe_makeF T.mk_Areas (ok_Areas_init (K := K) T) (hr.mono (by decide)) (by rfl) T.g_Areas (pa_cons (pe_ix ix_list (pv 1) pe_int (fun _ _ => rfl)) (pa_cons (pe_ix ix_list (pv 1) pe_int (fun _ _ => rfl)) pa_nil))))
      (pss_cons (ps_if (pt_cmpR op_eq (pe_op op_mod (pe_callF (ok_law_cell_at (K := K) T) (hr.mono (by decide)) (by rfl) T.g_law_cell_at (pa_cons (pv 0) (pa_cons pe_int pa_nil))) pe_int) pe_int (nomark _)) (pss_one (ps_expr (pe_methF0 (pv 2) T.cl_Areas T.m_Areas_flip (ok_Areas_flip (K := K) T) (hr.mono (by decide))))) pss_nil)
      (pss_cons (ps_set (i := 3) sc_law.nd rfl (Or.inl rfl) (pe_op op_add pe_int (pe_op op_mod (pe_callF (ok_law_cell_at (K := K) T) (hr.mono (by decide)) (by rfl) T.g_law_cell_at (pa_cons (pv 0) (pa_cons pe_int pa_nil))) pe_int)))
      (pss_cons (ps_set (i := 4) sc_law.nd rfl (Or.inl rfl) (pe_makeF T.mk_Roots (ok_Roots_init (K := K) T) (hr.mono (by decide)) (by rfl) T.g_Roots (pa_cons (pv 3) pa_nil)))
      (pss_cons (ps_set (i := 5) sc_law.nd rfl (Or.inl rfl) (pe_disp (pps_cons pe_str (pe_callF (ok_law_laid (K := K) T) (hr.mono (by decide)) (by rfl) T.g_law_laid (pa_cons (pv 2) (pa_cons (pv 1) (pa_cons (pv 0) pa_nil)))) (pps_cons pe_str (pe_lst pa_nil) (pps_cons pe_str pe_dnewK (pps_cons pe_str (pe_lst pa_nil) (pps_cons pe_str (pe_lst pa_nil) pps_nil))))) (by rfl) (by rfl) (fun z => by cases z) (by decide)))
      (pss_cons (ps_expr (pe_callF (ok_law_filled (K := K) T) (hr.mono (by decide)) (by rfl) T.g_law_filled (pa_cons (pv 2) (pa_cons (pv 4) (pa_cons (pe_dget (hu_of hr) (pv 5) pe_str (fun _ _ => rfl)) (pa_cons (pe_callF (ok_law_next (K := K) T) (hr.mono (by decide)) (by rfl) T.g_law_next (pa_cons (pe_callF (ok_law_cell_at (K := K) T) (hr.mono (by decide)) (by rfl) T.g_law_cell_at (pa_cons (pv 0) (pa_cons pe_int pa_nil))) pa_nil)) pa_nil))))))
      (pss_cons (ps_for PassesOwn.never rfl (pi_range1 (by rfl) T.n_range (pa_cons (pv 3) pa_nil)) (pg_name (i := 6) sc_law.nd rfl (Or.inl rfl)) (pss_cons (ps_expr (pe_bm PySem.F.plainAttrs_list PySem.F.slot_list_append PySem.F.type_list_append mt_append (pe_dget (hu_of hr) (pv 5) pe_str (fun _ _ => rfl)) (pa_cons (pe_callF (ok_law_word (K := K) T) (hr.mono (by decide)) (by rfl) T.g_law_word (pa_cons (pe_dget (hu_of hr) (pv 5) pe_str (fun _ _ => rfl)) (pa_cons (pe_callF (ok_law_next (K := K) T) (hr.mono (by decide)) (by rfl) T.g_law_next (pa_cons (pe_op op_add (pe_callF (ok_law_cell_at (K := K) T) (hr.mono (by decide)) (by rfl) T.g_law_cell_at (pa_cons (pv 0) (pa_cons pe_int pa_nil))) (pe_op op_mul pe_int (pv 6))) pa_nil)) pa_nil))) pa_nil)))
      (pss_one (ps_expr (pe_methF (pe_fld (pv 4) rfl) T.cl_Hands T.m_Hands_put (ok_Hands_put (K := K) T) (hr.mono (by decide)) (pa_cons (pv 6) (pa_cons (pe_ix ix_list (pe_dget (hu_of hr) (pv 5) pe_str (fun _ _ => rfl)) (pv 6) (fun _ _ => rfl)) pa_nil)))))))
      (pss_cons (ps_expr (pe_callF (ok_law_tabled (K := K) T) (hr.mono (by decide)) (by rfl) T.g_law_tabled (pa_cons (pv 4) (pa_cons (pe_dget (hu_of hr) (pv 5) pe_str (fun _ _ => rfl)) (pa_cons (pv 0) (pa_cons (pe_dget (hu_of hr) (pv 5) pe_str (fun _ _ => rfl)) (pa_cons (pe_dget (hu_of hr) (pv 5) pe_str (fun _ _ => rfl)) pa_nil)))))))
      (pss_cons (ps_if (pt_not (pt_val (pe_callF (ok_law_collected (K := K) T) (hr.mono (by decide)) (by rfl) T.g_law_collected (pa_cons (pv 2) (pa_cons (pv 4) (pa_cons (pv 5) pa_nil)))))) (pss_one (ps_ret pe_bl)) pss_nil)
      (pss_cons (ps_for PassesOwn.never rfl (pi_range1 (by rfl) T.n_range (pa_cons pe_int pa_nil)) (pg_name (i := 7) sc_law.nd rfl (Or.inl rfl)) (pss_cons (ps_if (pt_not (pt_val (pe_callF (ok_law_collected (K := K) T) (hr.mono (by decide)) (by rfl) T.g_law_collected (pa_cons (pv 2) (pa_cons (pv 4) (pa_cons (pv 5) pa_nil)))))) (pss_one (ps_ret pe_bl)) pss_nil)
      (pss_cons (ps_expr (pe_callF (ok_law_changed (K := K) T) (hr.mono (by decide)) (by rfl) T.g_law_changed (pa_cons (pv 2) (pa_cons (pv 4) (pa_cons (pv 5) (pa_cons (pe_callF (ok_law_cell_at (K := K) T) (hr.mono (by decide)) (by rfl) T.g_law_cell_at (pa_cons (pv 0) (pa_cons (pe_op op_add pe_int (pv 7)) pa_nil))) (pa_cons (pv 1) pa_nil)))))))
      (pss_one (ps_if (pt_not (pt_val (pe_callF (ok_law_collected (K := K) T) (hr.mono (by decide)) (by rfl) T.g_law_collected (pa_cons (pv 2) (pa_cons (pv 4) (pa_cons (pv 5) pa_nil)))))) (pss_one (ps_ret pe_bl)) pss_nil)))))
      (pss_one (ps_ret pe_bl))))))))))))), ?_⟩
    refine ⟨_, rfl, a, ns, 0, rfl, hsq, fun n0 => ⟨_, _, rfl, rfl, (by show (0 : Int) < 61; decide), _, _, rfl, rfl, ?_⟩⟩
    refine ⟨_, rfl, a, ns, 0, rfl, hsq, fun n1 => ⟨_, _, rfl, rfl, ⟨by decide, by decide⟩, _, _, rfl, rfl, (by show (0 : Int) < 17; decide), _, _, rfl, rfl, by show 2 ≤ sizeLine; decide, fun rm nrm => ?_⟩⟩
    obtain ⟨r0, e0⟩ : ∃ r0 : Nat, 20 + n0 % 61 = (r0 : Int) := ⟨(20 + n0 % 61).toNat, by omega⟩
    obtain ⟨r1, e1⟩ : ∃ r1 : Nat, 4 + n1 / 61 % 17 = (r1 : Int) := ⟨(4 + n1 / 61 % 17).toNat, by omega⟩
    rw [show (fun i j => V.int (i + j)) 20 (n0 % 61) = V.int (r0 : Int) from congrArg V.int e0, show (fun i j => V.int (i + j)) 4 (n1 / 61 % 17) = V.int (r1 : Int) from congrArg V.int e1]
    have hrm1 : (upd H rm (.lst [.int (r0 : Int), .int (r1 : Int)])) rm = some (.lst [.int (r0 : Int), .int (r1 : Int)]) := upd_same
    obtain ⟨H0, bs1, sq0, on0, hrm0⟩ : ∃ H0 : Hp, Same H0 (upd H rm (.lst [.int (r0 : Int), .int (r1 : Int)])) ∧ SqL K H0 a (ns.map V.int) ∧ OnlyL H0 ∧ H0 rm = some (.lst [.int (r0 : Int), .int (r1 : Int)]) := by
      refine ⟨upd B rm (.lst [.int (r0 : Int), .int (r1 : Int)]), fun b o e => ?_, sqL_same sqB (same_new (sB.free nrm)), fun x o e => ?_, upd_same⟩
      · by_cases q : b = rm
        · rw [q, upd_same] at e
          rw [q, upd_same, e]
        · rw [upd_ne q] at e
          rw [upd_ne q]
          exact sB _ _ e
      · by_cases q : x = rm
        · rw [q, upd_same] at e
          exact .inl ⟨_, (Option.some.inj e).symm⟩
        · rw [upd_ne q] at e
          exact onB x o e
    generalize upd H rm (.lst [.int (r0 : Int), .int (r1 : Int)]) = H1 at bs1 hrm1 ⊢
    clear onB sqB sB nrm hsq B
    have scq : ∀ {Hc : Hp}, Same H0 Hc → SqL K Hc a (ns.map V.int) := fun s => sqL_same sq0 s
    -- the areas
    refine ⟨_, rfl, rm, _, _, _, rfl, rfl, SqL.of hrm1, rfl, _, rfl, rm, _, _, _, rfl, rfl, SqL.of hrm1, rfl, ?_⟩
    intro x dx nx ndx _
    have sm := made_same (C := He.ga K "Areas") nx ndx
    refine ⟨x, dx, r0, r1, rfl, upd_same, by omega, by omega, by omega, by omega, fun m l o y s H2 A nm nl no ny nsp k2 => ⟨rfl, ?_⟩⟩
    have bsm := bs1.trans sm
    have nx0 : H0 x = none := bs1.free nx
    have bs2 : Same H0 H2 := fun b ob e => k2 b ob (bsm b ob e) (not1 fun z => by rw [z, nx0] at e; cases e)
    refine ⟨_, rfl, a, ns, 2, rfl, scq bs2, fun n2 => ⟨_, _, rfl, rfl, (by show (0 : Int) < 3; decide), rfl, _, rfl, ifC (fun h => ?fa) (fun h => ?fb)⟩⟩
    case' fa =>
      obtain ⟨dxa, hao⟩ := A.ar
      refine ⟨_, rfl, me_Areas_flip hao ⟨PL.areas x m l o y s, PV.fresh r0 r1, rfl, A, fun H3 A3 k3 => ?_⟩⟩
      have bs3 : Same H0 H3 := fun b ob e => k3 b ob (bs2 b ob e) (not1 fun z => by rw [z] at e; rw [show H0 (PL.areas x m l o y s).a = none from nx0] at e; cases e)
      obtain ⟨L, z, hLa, AF, G, g1, g2, g3, g4, g5, g6, g7, f0⟩ : ∃ (L : PL) (z : PV), L.a = x ∧ AAt K H3 L z ∧ Geo z ∧ z.ot = 0 ∧ z.yt = z.yb ∧ z.ye = z.yb + r1 ∧ z.oe = r0 ∧ z.told = [] ∧ z.W = [] ∧ z.S = [] ∧ ∀ u ∈ [L.l, L.o, L.y, L.s], H0 u = none := by
        refine ⟨_, _, rfl, A3, ⟨?_, ?_, ?_, ?_, ?_, ?_, ?_⟩, rfl, rfl, ?_, rfl, rfl, rfl, rfl, ?_⟩
        · exact Int.le_refl _
        · show (0 : Int) ≤ r0; omega
        · show (r0 : Int) ≤ r0 + r1; omega
        · exact Int.le_refl _
        · show (r0 : Int) + r1 ≤ r0 + 2 * r1; omega
        · show (r0 : Int) + 2 * r1 ≤ ((List.replicate (r0 + 2 * r1) (-1 : Int)).length : Int)
          rw [List.length_replicate]; omega
        · show (List.replicate (r0 + 2 * r1) (-1 : Int)).length ≤ 1000
          rw [List.length_replicate]; omega
        · show (r0 : Int) + 2 * r1 = r0 + r1 + r1; omega
        · intro u hu
          have hu : u ∈ [l, o, s, y] := hu
          simp only [List.mem_cons, List.not_mem_nil, or_false] at hu
          rcases hu with e | e | e | e <;> rw [e]
          · exact bsm.free nl
          · exact bsm.free no
          · exact bsm.free nsp
          · exact bsm.free ny
    case' fb =>
      obtain ⟨H3, eH, L, z, hLa, AF, G, g1, g2, g3, g4, g5, g6, g7, f0⟩ : ∃ (H3 : Hp), H3 = H2 ∧ ∃ (L : PL) (z : PV), L.a = x ∧ AAt K H3 L z ∧ Geo z ∧ z.ot = 0 ∧ z.yt = z.yb ∧ z.ye = z.yb + r1 ∧ z.oe = r0 ∧ z.told = [] ∧ z.W = [] ∧ z.S = [] ∧ ∀ u ∈ [L.l, L.o, L.y, L.s], H0 u = none := by
        refine ⟨_, rfl, _, _, rfl, A, ⟨?_, ?_, ?_, ?_, ?_, ?_, ?_⟩, rfl, rfl, rfl, rfl, rfl, rfl, rfl, ?_⟩
        · exact Int.le_refl _
        · show (0 : Int) ≤ r0; omega
        · exact Int.le_refl _
        · exact Int.le_refl _
        · show (r0 : Int) ≤ r0 + r1; omega
        · show (r0 : Int) + r1 ≤ ((List.replicate (r0 + 2 * r1) (-1 : Int)).length : Int)
          rw [List.length_replicate]; omega
        · show (List.replicate (r0 + 2 * r1) (-1 : Int)).length ≤ 1000
          rw [List.length_replicate]; omega
        · intro u hu
          have hu : u ∈ [l, o, y, s] := hu
          simp only [List.mem_cons, List.not_mem_nil, or_false] at hu
          rcases hu with e | e | e | e <;> rw [e]
          · exact bsm.free nl
          · exact bsm.free no
          · exact bsm.free ny
          · exact bsm.free nsp
      subst eH
      have bs3 := bs2
    all_goals
      subst hLa
      refine ⟨_, rfl, a, ns, 3, rfl, scq bs3, fun n3 => ⟨_, _, rfl, rfl, (by show (0 : Int) < 6; decide), _, _, rfl, rfl, ?_⟩⟩
      obtain ⟨mn, em⟩ : ∃ mn : Nat, 1 + n3 % 6 = (mn : Int) := ⟨(1 + n3 % 6).toNat, by omega⟩
      refine ⟨_, rfl, ?_⟩
      intro r dr nr ndr _
      have smr := made_same (C := He.ga K "Roots") nr ndr
      refine ⟨r, dr, mn, (by rw [← em]; rfl), upd_same, by omega, by omega, fun rh hl b bd w wl la ll sl H4 R Ha Bk We La ndl nhl nwl nll nsl nbd k4 => ⟨rfl, ?_⟩⟩
      have bs4a := bs3.trans smr
      have nr0 : H0 r = none := bs3.free nr
      have bs4 : Same H0 H4 := fun b ob e => k4 b ob (bs4a b ob e) (not1 fun z => by rw [z, nr0] at e; cases e)
      have A4 : AAt K H4 L z := (AF.same smr).keep k4 fun x hx => not1 (AF.taken nr x hx)
      obtain ⟨L', hL1, hL2, A5, R5, Ha5, Bk5, We5, La5, nd5, f5⟩ : ∃ L' : PL, L'.a = L.a ∧ L'.r = r ∧ AAt K H4 L' z ∧ RootO K H4 L'.r L'.h L'.b L'.w L'.la ∧ HandO K H4 L'.h L'.hl (List.replicate mn (-1)) ∧ BookO K H4 L'.b bd [] ∧ WeakO K H4 L'.w L'.wl [] ∧ LastO K H4 L'.la L'.ll L'.sl [] [] ∧
          [L'.l, L'.hl, L'.wl, L'.ll, L'.sl].Nodup ∧ ∀ x ∈ L'.all, H0 x = none := by
        refine ⟨⟨L.a, L.m, L.l, L.o, L.y, L.s, r, rh, hl, b, w, wl, la, ll, sl⟩, rfl, rfl, ⟨A4.ar, A4.me, A4.old, A4.yo, A4.sp, A4.sd⟩, R, Ha, Bk, We, La, ?_, ?_⟩
        · show (L.l :: [hl, wl, ll, sl]).Nodup
          refine List.nodup_cons.mpr ⟨?_, ndl⟩
          have h := (AF.same smr).me.w
          simp only [List.mem_cons, List.not_mem_nil, or_false, not_or]
          exact ⟨ne_of_none h nhl, ne_of_none h nwl, ne_of_none h nll, ne_of_none h nsl⟩
        · intro u hu
          have hu : u ∈ [L.l, L.o, L.y, L.s, hl, b, wl, ll, sl] := hu
          simp only [List.mem_cons, List.not_mem_nil, or_false] at hu
          rcases hu with e | e | e | e | e | e | e | e | e <;> rw [e]
          · exact f0 _ (by simp)
          · exact f0 _ (by simp)
          · exact f0 _ (by simp)
          · exact f0 _ (by simp)
          · exact bs4a.free nhl
          · obtain ⟨dxb, hbo⟩ := Bk.o
            exact on0.ins bs4 hbo
          · exact bs4a.free nwl
          · exact bs4a.free nll
          · exact bs4a.free nsl
      have nbd0 : H0 bd = none := bs4a.free nbd
      rw [← hL1]
      subst hL2
      refine fun sd nsd => ?_
      have s5 : Same H4 (upd H4 sd (.dK [])) := same_new nsd
      have hsd5 : (upd H4 sd (.dK [])) sd = some (.dK []) := upd_same
      generalize upd H4 sd (.dK []) = H5 at s5 hsd5 ⊢
      have bs5 := bs4.trans s5
      have m1 : L'.l ∈ L'.all := by unfold PL.all; simp
      have m2 : L'.o ∈ L'.all := by unfold PL.all; simp
      have m3 : L'.y ∈ L'.all := by unfold PL.all; simp
      have n0 : ∀ {b x : Addr} {ob : HO}, H0 b = some ob → H0 x = none → b ≠ x := fun e1 e2 z => by rw [z, e2] at e1; cases e1
      have no3 : ∀ {b : Addr} {ob : HO}, H0 b = some ob → b ∉ [L'.l, L'.o, L'.y] := fun e => by
        simp only [List.mem_cons, List.not_mem_nil, or_false, not_or]
        exact ⟨n0 e (f5 _ m1), n0 e (f5 _ m2), n0 e (f5 _ m3)⟩
      refine ⟨_, rfl, _, rfl, _, rfl, L', z, rm, a, ns, r1, rfl, A5.same s5, G, g1, g2, g3, by rw [g4]; exact bs5 _ _ hrm0, n0 hrm0 (f5 _ m1), fun H' k => scq fun b ob e => k b ob (bs5 b ob e) (no3 e), fun cd ad cs N t y H6 A6 G6 co6 M6 DJ6 pl6 cl6 sz6 len6 hN6 k6 ncd fr6 => ?_⟩
      refine ⟨Nat.zero_le _, fun hd nhd => fun nd nnd => ⟨Nat.zero_le _, fun td ntd => ⟨Nat.zero_le _, fun xd nxd => ?_⟩⟩⟩
      have hsd6 : H6 sd = some (.dK []) := k6 _ _ hsd5 (by
        have tk := A5.taken nsd
        simp only [List.mem_cons, List.not_mem_nil, or_false, not_or, forall_eq_or_imp, forall_eq] at tk ⊢
        exact ⟨tk.2.2.1.symm, tk.2.2.2.1.symm, tk.2.2.2.2.1.symm⟩)
      have bs6 : Same H0 H6 := fun b ob e => k6 b ob (bs5 b ob e) (no3 e)
      have s67 : Same H6 (upd H6 hd (.lst [])) := same_new nhd
      have hh7 : (upd H6 hd (.lst [])) hd = some (.lst []) := upd_same
      generalize upd H6 hd (.lst []) = H7 at nnd s67 hh7 ntd nxd ⊢
      have s78 : Same H7 (upd H7 nd (.dK [])) := same_new nnd
      have hn8 : (upd H7 nd (.dK [])) nd = some (.dK []) := upd_same
      generalize upd H7 nd (.dK []) = H8 at s78 hn8 ntd nxd ⊢
      have s89 : Same H8 (upd H8 td (.lst [])) := same_new ntd
      have ht9 : (upd H8 td (.lst [])) td = some (.lst []) := upd_same
      generalize upd H8 td (.lst []) = H9 at s89 ht9 nxd ⊢
      have s910 : Same H9 (upd H9 xd (.lst [])) := same_new nxd
      have hx10 : (upd H9 xd (.lst [])) xd = some (.lst []) := upd_same
      generalize upd H9 xd (.lst []) = H10 at s910 hx10 ⊢
      have s68 := s67.trans s78
      have s69 := s68.trans s89
      have s610 := s69.trans s910
      have hsd10 := s610 _ _ hsd6
      refine ⟨hsd10, sdV cd hd nd td xd, rfl, by show 5 ≤ 15; decide, ?_⟩
      rw [merge_sd]
      have kS : Keep [sd] H10 (upd H10 sd (.dK (sdV cd hd nd td xd))) := keep_upd (Keep.refl H10) (by simp)
      have hsd11 : (upd H10 sd (.dK (sdV cd hd nd td xd))) sd = some (.dK (sdV cd hd nd td xd)) := upd_same
      generalize upd H10 sd (.dK (sdV cd hd nd td xd)) = H11 at kS hsd11 ⊢
      have nsd0 : H0 sd = none := bs4.free nsd
      have hh10 := (s78.trans (s89.trans s910)) _ _ hh7
      have hn10 := (s89.trans s910) _ _ hn8
      have ht10 := s910 _ _ ht9
      have k411 : ∀ {x : Addr} {o : HO}, H4 x = some o → x ≠ L'.l → x ≠ L'.o → x ≠ L'.y → H11 x = some o := fun {x o} e n1 n2 n3 => by
        refine kS _ _ (s610 _ _ (k6 _ _ (s5 _ _ e) ?_)) (not1 (ne_of_none e nsd))
        simp only [List.mem_cons, List.not_mem_nil, or_false, not_or]
        exact ⟨n1, n2, n3⟩
      have bs11 : Same H0 H11 := fun b ob e => kS b ob (s610 _ _ (bs6 b ob e)) (not1 (n0 e nsd0))
      have hl4 := A5.me.w
      obtain ⟨dxo, holo⟩ := A5.old
      obtain ⟨dxy, hyo⟩ := A5.yo
      obtain ⟨dxr, hro⟩ := R5
      obtain ⟨dxh, hho⟩ := Ha5.o
      obtain ⟨dxb, hbo⟩ := Bk5.o
      obtain ⟨dxw, hwo⟩ := We5.o
      obtain ⟨dxl, hlo⟩ := La5.o
      obtain ⟨vs, hv, hr⟩ := La5.w
      have lk : ∀ {x : Addr} {ys : List V}, H4 x = some (.lst ys) → x ≠ L'.l → H11 x = some (.lst ys) := fun e n => k411 e n (ne_of e holo lst_ins) (ne_of e hyo lst_ins)
      have hnd := nd5
      simp only [List.nodup_cons, List.mem_cons, List.not_mem_nil, or_false, not_or, List.nodup_nil, and_true, not_false_eq_true] at hnd
      obtain ⟨⟨l1, l2, l3, l4⟩, _⟩ := hnd
      have A11 := (A6.same s610).keep kS fun u hu => not1 (A5.taken nsd u hu)
      have R11 : RootO K H11 L'.r L'.h L'.b L'.w L'.la := ⟨dxr, k411 hro (ne_of hro hl4 ins_nl) (ne_of hro holo (ins_ne1 (by decide +kernel))) (ne_of hro hyo (ins_ne1 (by decide +kernel)))⟩
      have Ha11 : HandO K H11 L'.h L'.hl (List.replicate mn (-1)) := ⟨⟨dxh, k411 hho (ne_of hho hl4 ins_nl) (ne_of hho holo (ins_ne1 (by decide +kernel))) (ne_of hho hyo (ins_ne1 (by decide +kernel)))⟩, lk Ha5.w (Ne.symm l1)⟩
      have Bk11 : BookO K H11 L'.b bd [] := ⟨⟨dxb, k411 hbo (ne_of hbo hl4 ins_nl) (ne_of hbo holo (ins_ne1 (by decide +kernel))) (ne_of hbo hyo (ins_ne1 (by decide +kernel)))⟩, k411 Bk5.d (ne_of Bk5.d hl4 dk_nl) (ne_of Bk5.d holo dk_ins) (ne_of Bk5.d hyo dk_ins), Bk5.k⟩
      have We11 : WeakO K H11 L'.w L'.wl [] := ⟨⟨dxw, k411 hwo (ne_of hwo hl4 ins_nl) (ne_of hwo holo (ins_ne1 (by decide +kernel))) (ne_of hwo hyo (ins_ne1 (by decide +kernel)))⟩, lk We5.l (Ne.symm l2)⟩
      have La11 : LastO K H11 L'.la L'.ll L'.sl [] [] := ⟨⟨dxl, k411 hlo (ne_of hlo hl4 ins_nl) (ne_of hlo holo (ins_ne1 (by decide +kernel))) (ne_of hlo hyo (ins_ne1 (by decide +kernel)))⟩, ⟨vs, lk hv (Ne.symm l3), hr.keep fun t us e => k411 e (ne_of e hl4 tup_nl) (ne_of e holo tup_ins) (ne_of e hyo tup_ins)⟩, lk La5.s (Ne.symm l4), La5.ne⟩
      have nadsd : ∀ u ∈ keys cs, ad u ≠ sd := fun u hu => (ne_of_none hsd5 (fr6 u hu)).symm
      have ncdsd : cd ≠ sd := (ne_of_none hsd5 ncd).symm
      have nhd6 : H6 hd = none := nhd
      have nnd6 : H6 nd = none := s67.free nnd
      have ntd6 : H6 td = none := s68.free ntd
      have nxd6 : H6 xd = none := s69.free nxd
      have nhsd : hd ≠ sd := (ne_of_none hsd6 nhd6).symm
      have nnsd : nd ≠ sd := (ne_of_none hsd6 nnd6).symm
      have ntsd : td ≠ sd := (ne_of_none hsd6 ntd6).symm
      have nxsd : xd ≠ sd := (ne_of_none hsd6 nxd6).symm
      have co11 := (co6.same s610).keep kS (not1 ncdsd) fun u hu => not1 (nadsd u hu)
      -- all of the program's lists stood before the tables
      have inL : ∀ u ∈ L'.lists, ∃ o, H5 u = some o ∧ ∃ o2, H6 u = some o2 := fun u hu => by
        unfold PL.lists at hu
        simp only [List.mem_cons, List.not_mem_nil, or_false] at hu
        have k6l : ∀ {x : Addr} {ys : List V}, H4 x = some (.lst ys) → x ≠ L'.l → H6 x = some (.lst ys) := fun e n => k6 _ _ (s5 _ _ e) (by
          simp only [List.mem_cons, List.not_mem_nil, or_false, not_or]
          exact ⟨n, ne_of e holo lst_ins, ne_of e hyo lst_ins⟩)
        rcases hu with e | e | e | e | e <;> rw [e]
        · exact ⟨_, s5 _ _ hl4, _, A6.me.w⟩
        · exact ⟨_, s5 _ _ Ha5.w, _, k6l Ha5.w (Ne.symm l1)⟩
        · exact ⟨_, s5 _ _ We5.l, _, k6l We5.l (Ne.symm l2)⟩
        · exact ⟨_, s5 _ _ hv, _, k6l hv (Ne.symm l3)⟩
        · exact ⟨_, s5 _ _ La5.s, _, k6l La5.s (Ne.symm l4)⟩
      have nL6 : ∀ {x : Addr}, H6 x = none → x ∉ L'.lists := fun e m => by
        obtain ⟨_, _, o2, e2⟩ := inL _ m
        rw [e] at e2
        cases e2
      have nL5 : ∀ {x : Addr}, H5 x = none → x ∉ L'.lists := fun e m => by
        obtain ⟨o, e2, _⟩ := inL _ m
        rw [e] at e2
        cases e2
      have adl : ∀ u ∈ keys cs, ∃ ys, H6 (ad u) = some (.lst ys) := fun u hu => by
        obtain ⟨ws, hw⟩ := keys_mem hu
        exact ⟨_, co6.l _ hw⟩
      have hoo := G6.o2
      have hy0 := G6.y0
      have hy1 := G6.y1
      have hy2 := G6.y2
      simp only at hoo hy0 hy1 hy2
      have st : StG K H0 H11 L' { z with M := N, ot := t, yt := y, hs := List.replicate mn (-1) } [] sd cd hd nd td xd ad cs := by
        refine ⟨⟨A11.ar, A11.me, A11.old, A11.yo, A11.sp, R11, Ha11, ⟨bd, [], Bk11⟩, ?_, ?_, nd5, A11.sd⟩, ⟨M6, DJ6, cl6, ?_, ?_, ?_, sz6, ?_, G6.ml, by omega, ?_, ?_, ?_⟩, ⟨G6.o0, G6.o1, G6.o2, G6.y0, G6.y1, G6.y2, G6.ml⟩, pl6, ⟨bd, [], Bk11, nbd0, ne_of_none Bk5.d nsd, ne_of_none (s5 _ _ Bk5.d) ncd, ?_⟩, hsd11, ?_, ?_, ?_, ?_, ?_, ?_, ?_, ?_, ?_, bs11, ?_, ?_⟩
        · show WeakO K H11 L'.w L'.wl z.told
          rw [g5]; exact We11
        · show LastO K H11 L'.la L'.ll L'.sl z.W z.S
          rw [g6, g7]; exact La11
        · intro w hw
          rw [List.eq_of_mem_replicate hw]
          exact okIn_nothing
        · intro u hu
          have hu : some u ∈ z.told := hu
          rw [g5] at hu
          cases hu
        · intro u n hu
          have hu : some (u, n) ∈ z.W := hu
          rw [g6] at hu
          cases hu
        · show z.oe ≤ (N.length : Int)
          omega
        · show (List.replicate mn (-1 : Int)).length ≤ 100
          rw [List.length_replicate]; omega
        · show z.told.length ≤ 1000
          rw [g5]; exact Nat.zero_le _
        · show z.S.length + z.W.length ≤ 1000
          rw [g6, g7]; exact Nat.zero_le _
        · exact ne_of_none (s67 _ _ (k6 _ _ (s5 _ _ Bk5.d) (by
            simp only [List.mem_cons, List.not_mem_nil, or_false, not_or]
            exact ⟨ne_of Bk5.d hl4 dk_nl, ne_of Bk5.d holo dk_ins, ne_of Bk5.d hyo dk_ins⟩))) nnd
        · show Tab H11 cd hd nd td xd ad cs [] z.told z.W z.S
          rw [g5, g6, g7]
          exact ⟨co11, kS _ _ hh10 (not1 nhsd), kS _ _ hn10 (not1 nnsd), ⟨[], kS _ _ ht10 (not1 ntsd), .nil⟩, kS _ _ hx10 (not1 nxsd)⟩
        · exact ⟨ncdsd.symm, nnsd.symm, ne_of_none co6.d nnd6⟩
        · intro u hu
          simp only [List.mem_cons, List.not_mem_nil, or_false] at hu
          rcases hu with e | e | e <;> rw [e]
          · exact nL6 nhd6
          · exact nL6 ntd6
          · exact nL6 nxd6
        · intro u hu
          obtain ⟨ys, e⟩ := adl u hu
          exact ⟨nL5 (fr6 u hu), ne_of_none e nhd6, ne_of_none e ntd6, ne_of_none e nxd6⟩
        · simp only [List.nodup_cons, List.mem_cons, List.not_mem_nil, or_false, not_or, List.nodup_nil, and_true, not_false_eq_true]
          exact ⟨⟨ne_of_none (s78 _ _ hh7) ntd, ne_of_none ((s78.trans s89) _ _ hh7) nxd⟩, ne_of_none ht9 nxd⟩
        · show z.oe ≤ 80
          omega
        · show z.S.length + live z.W ≤ 900
          rw [g6, g7]; exact Nat.zero_le _
        · show z.W.length ≤ 100
          rw [g6]; exact Nat.zero_le _
        · show (List.replicate mn (-1 : Int)).length ≤ 6
          rw [List.length_replicate]; omega
        · intro u hu
          rcases List.mem_append.mp hu with h | h
          · exact f5 u h
          · simp only [List.mem_cons, List.not_mem_nil, or_false] at h
            rcases h with e | e | e <;> rw [e]
            · exact nsd0
            · exact bs5.free ncd
            · exact bs6.free nhd6
        · exact fun u hu => bs5.free (fr6 u hu)
      have f0nt : ∀ u ∈ [nd, td], H0 u = none := fun u hu => by
        simp only [List.mem_cons, List.not_mem_nil, or_false] at hu
        rcases hu with e | e <;> rw [e]
        · exact bs6.free nnd6
        · exact bs6.free ntd6
      have nbc : bd ≠ cd := ne_of_none (s5 _ _ Bk5.d) ncd
      have nbs : bd ≠ sd := ne_of_none Bk5.d nsd
      have nbn : bd ≠ nd := by
        obtain ⟨bd', kvs', B', _, _, _, h⟩ := st.b
        have e1 : bd' = bd := by
          obtain ⟨d1, o1⟩ := B'.o
          obtain ⟨d2, o2⟩ := Bk11.o
          rw [o1] at o2
          injection o2 with o2
          injection o2 with _ _ o3
          injection o3 with o4 _
          injection (congrArg Prod.snd o4)
        rw [← e1]; exact h
      clear adl nL5 nL6 inL co11 nxsd ntsd nnsd nhsd nxd6 ntd6 nnd6 nhd6 ncdsd nadsd La11 We11 Ha11 R11 A11 lk k411 hn10 ht10 hh10 hx10 kS hsd10 s610 s69 s68 s910 s89 s78 s67 hsd6 fr6 k6 pl6 cl6 M6 DJ6 co6 A6 G6
      obtain ⟨Z, eZ⟩ : ∃ Z : PV, Z = { z with M := N, ot := t, yt := y, hs := List.replicate mn (-1) } := ⟨_, rfl⟩
      rw [← eZ] at st
      have z1 : Z.told = [] := by rw [eZ]; exact g5
      have z2 : Z.W = [] := by rw [eZ]; exact g6
      have z3 : Z.S = [] := by rw [eZ]; exact g7
      have z4 : Z.oe = r0 := by rw [eZ]; exact g4
      have z5 : Z.ye = Z.yb + r1 := by rw [eZ]; exact g3
      have z6 : Z.hs = List.replicate mn (-1) := by rw [eZ]
      clear eZ
      -- the slots filled
      refine ⟨_, rfl, _, rfl, _, rfl, sd, _, rfl, sd_cells st.s, _, rfl, a, ns, 4, rfl, scq st.bs, fun n4 => ⟨n4, rfl, fun s4 => ⟨L', Z, bd, cd, [], ad, cs, s4, rfl, ⟨rfl, st.F.mem, st.F.dj, st.F.cl, rfl, st.p.aat, st.p.ro, Bk11, st.t.co, Keep.refl _⟩, st.F.ml, st.F.n1, fun u hu e => (st.aa u hu).1 (by rw [e]; unfold PL.lists; simp), nbc, fun N2 ds kvs2 H12 F2 => ?_⟩⟩⟩
      have kds : ∀ u ∈ keys cs, u ∈ keys ds := fun u hu => by rw [shape_keys F2.sh]; exact hu
      have st2 : StG K H0 H12 L' { Z with M := N2 } [] sd cd hd nd td xd ad ds := by
        refine st.step Bk11 nbd0 nbs nbc nbn (F2.kk.mono fun u hu => ?_) F2.A F2.co F2.B rfl rfl rfl rfl rfl ⟨F2.mem, F2.dj, F2.cl, fun w hw => (st.F.hs w hw).mono kds, fun u hu => kds u (st.F.td u hu), fun u n hu => kds u (st.F.tk u n hu), ?_, ?_, ?_, ?_, st.F.n2, st.F.n3, st.F.n4⟩ (st.G.word F2.len) (shape_placed F2.sh st.pl) fun u hu => .inl ⟨u, by rw [← shape_keys F2.sh]; exact hu, rfl⟩
        · unfold touch
          rcases List.mem_append.mp hu with h | h
          · simp only [List.mem_cons, List.not_mem_nil, or_false] at h
            rcases h with e | e <;> (rw [e]; simp)
          · exact List.mem_append_right _ h
        · rw [shape_size F2.sh]; exact st.F.sz
        · show Z.oe ≤ (N2.length : Int)
          rw [F2.len]; exact st.F.oe
        · show N2.length ≤ 1000
          rw [F2.len]; exact st.F.ml
        · rw [shape_len F2.sh]; exact st.F.n1
      -- the hands
      refine ⟨_, rfl, _, rfl, by omega, by omega, for_range (lo := 0) (n := (1 + n3 % 6).toNat) (fun k σ H13 => ∃ (v6 : Option V) (ws : List Int), σ = [some (.ref a), some (.ref rm), some (.ref L'.a), some (.int (mn : Int)), some (.ref L'.r), some (.ref sd), v6, none] ∧ StG K H0 H13 L' { Z with M := N2, hs := ws ++ List.replicate (mn - k) (-1) } ws sd cd hd nd td xd ad ds ∧ ws.length = k ∧ ∀ w ∈ ws, OkIn ds w)
        ⟨none, [], by rw [← em]; rfl, by rw [List.nil_append, Nat.sub_zero, ← z6]; exact st2, rfl, fun w hw => (by cases hw)⟩ ?_ ?_⟩
      · rintro k σ H13 hk ⟨v6, ws, rfl, st3, hwl, hwk⟩
        have hmn : (1 + n3 % 6).toNat = mn := by omega
        rw [hmn] at hk
        refine ⟨_, rfl, sd, _, rfl, sd_hands st3.s, .inl ⟨rfl, _, SqL.of st3.t.h⟩, _, rfl, sd, _, rfl, sd_cells st3.s, _, rfl, a, ns, 5, rfl, scq st3.bs, fun n5 => ⟨_, rfl, _, _, rfl, rfl, .inl ⟨by decide, by decide⟩, _, _, rfl, rfl, _, rfl, fun s6 => ⟨cd, ad, ds, s6, rfl, st3.t.co.d, cells_bound st3.F.mem st3.F.ml, fun w H14 okw s14 => ⟨hd, _, _, rfl, rfl, s14 _ _ st3.t.h, small1000 (by rw [List.length_map]; omega), ?_⟩⟩⟩⟩
        have e1 : ws.map V.int ++ [V.int w] = (ws ++ [w]).map V.int := by rw [List.map_append]; rfl
        rw [e1]
        have st4 := st3.same s14
        have hnhl : hd ≠ L'.hl := fun e => st4.ap hd (by simp) (by unfold PL.lists; rw [e]; simp)
        obtain ⟨dxr, hro⟩ := st4.p.ro
        obtain ⟨dxh, hho⟩ := st4.p.ha.o
        have hh2 : H14 hd = some (.lst (ws.map V.int)) := st4.t.h
        have ha2 : HandO K H14 L'.h L'.hl (ws ++ List.replicate (mn - k) (-1)) := st4.p.ha
        have k3 : Keep [hd, L'.hl] H14 (upd H14 hd (.lst ((ws ++ [w]).map V.int))) := keep_upd (Keep.refl H14) (by simp)
        have n3' : ∀ {x C dx : Addr} {fs : List (Str × V)}, H14 x = some (.ins C dx fs) → (upd H14 hd (.lst ((ws ++ [w]).map V.int))) x = some (.ins C dx fs) := fun e => by rw [upd_ne (ne_of e hh2 ins_nl)]; exact e
        have hsd3 : (upd H14 hd (.lst ((ws ++ [w]).map V.int))) sd = some (.dK (sdV cd hd nd td xd)) := by rw [upd_ne (ne_of st4.s hh2 dk_nl)]; exact st4.s
        have hh3 : (upd H14 hd (.lst ((ws ++ [w]).map V.int))) hd = some (.lst ((ws ++ [w]).map V.int)) := upd_same
        have ha3 : HandO K (upd H14 hd (.lst ((ws ++ [w]).map V.int))) L'.h L'.hl (ws ++ List.replicate (mn - k) (-1)) := ⟨⟨dxh, n3' hho⟩, by rw [upd_ne hnhl.symm]; exact ha2.w⟩
        generalize upd H14 hd (.lst ((ws ++ [w]).map V.int)) = H15 at k3 n3' hsd3 hh3 ha3 ⊢
        refine ⟨_, rfl, rd_Roots_hands T (n3' hro) (me_Hands_put (n3' hho) ⟨_, rfl, _, rfl, sd, _, rfl, sd_hands hsd3, _, rfl, hd, _, _, _, rfl, rfl, SqL.of hh3, ints_at (by omega) (by rw [List.length_append, List.length_singleton]; omega), ?_⟩)⟩
        have em1 : mget (ws ++ [w]) (0 + (k : Int)) = w := by
          unfold mget
          rw [show (0 + (k : Int)).toNat = ws.length by omega]
          simp
        rw [em1]
        have hlen : (ws ++ List.replicate (mn - k) (-1)).length = mn := by rw [List.length_append, List.length_replicate]; omega
        have em2 : mset (ws ++ List.replicate (mn - k) (-1)) (0 + (k : Int)) w = (ws ++ [w]) ++ List.replicate (mn - (k + 1)) (-1) := by
          unfold mset
          rw [show (0 + (k : Int)).toNat = ws.length by omega, show mn - k = (mn - (k + 1)) + 1 by omega, List.replicate_succ, set_mid, List.append_assoc]
          rfl
        refine ⟨L'.h, L'.hl, ws ++ List.replicate (mn - k) (-1), _, w, rfl, ha3, by omega, by omega, okw.1, ?_⟩
        rw [em2]
        refine ⟨_, ws ++ [w], rfl, st4.hand (us' := ws ++ [w]) (keep_upd k3 (by simp)) (by rw [upd_ne hnhl]; exact hh3) upd_same ?_ ?_, by rw [List.length_append, List.length_singleton]; omega, fun v hv => ?_⟩
        · show _ = (ws ++ List.replicate (mn - k) (-1 : Int)).length
          rw [← em2, mset_len]
        · intro v hv
          rcases List.mem_append.mp hv with h | h
          · rcases List.mem_append.mp h with h | h
            · exact hwk v h
            · rw [List.mem_singleton.mp h]; exact okw
          · rw [List.eq_of_mem_replicate h]; exact okIn_nothing
        · rcases List.mem_append.mp hv with h | h
          · exact hwk v h
          · rw [List.mem_singleton.mp h]; exact okw
      · rintro σ H13 ⟨v6, ws, rfl, st3, hwl, hwk⟩
        have hmn : mn - (1 + n3 % 6).toNat = 0 := by omega
        rw [hmn, List.replicate_zero, List.append_nil] at st3
        have st4 : St K H0 H13 L' { Z with M := N2, hs := ws } sd cd hd nd td xd ad ds := st3
        obtain ⟨Z3, eZ3⟩ : ∃ Z3 : PV, Z3 = { Z with M := N2, hs := ws } := ⟨_, rfl⟩
        rw [← eZ3] at st4
        have y1 : Z3.told = [] := by rw [eZ3]; exact z1
        have y2 : Z3.W = [] := by rw [eZ3]; exact z2
        have y3 : Z3.S = [] := by rw [eZ3]; exact z3
        have y4 : Z3.oe = r0 := by rw [eZ3]; exact z4
        have y5 : Z3.ye = Z3.yb + r1 := by rw [eZ3]; exact z5
        clear eZ3 st3
        -- the names and the tickets
        have nod : [L'.wl, L'.ll, L'.sl, td].Nodup := by
          have h1 := st4.p.nd
          have h2 := st4.ap td (by simp)
          unfold PL.lists at h2
          simp only [List.nodup_cons, List.mem_cons, List.not_mem_nil, or_false, not_or, List.nodup_nil, and_true, not_false_eq_true] at h1 h2 ⊢
          exact ⟨⟨h1.2.2.1.1, h1.2.2.1.2, Ne.symm h2.2.2.1⟩, ⟨h1.2.2.2, Ne.symm h2.2.2.2.1⟩, Ne.symm h2.2.2.2.2⟩
        refine ⟨_, rfl, _, rfl, sd, _, rfl, sd_cells st4.s, _, rfl, _, rfl, sd, _, rfl, sd_names st4.s, _, rfl, sd, _, rfl, sd_tickets st4.s, L', cd, a, nd, td, ad, ds, ns, Z3.S, rfl, st4.p.ro, ⟨y1 ▸ st4.p.we, y2 ▸ st4.p.la, y1 ▸ st4.t.nm, y2 ▸ st4.t.tk, fun u hu => (by cases hu), fun u n hu => (by cases hu)⟩, st4.t.co.d, cells_bound st4.F.mem st4.F.ml, st4.F.n1, scq st4.bs, by omega, nod, st4.dd.2.2, fun told W H14 T14 lt lW k14 => ?_⟩
        have st5 : St K H0 H14 L' { Z3 with told := told, W := W } sd cd hd nd td xd ad ds := st4.tabled f0nt k14 T14 (by omega) (by omega) (by rw [y3]; rfl)
        refine ⟨_, rfl, _, rfl, _, rfl, H0, L', _, sd, cd, hd, nd, td, xd, ad, ds, rfl, st5, fun Z5 cd5 hd5 nd5 td5 xd5 ad5 cs5 H15 st6 q1 q2 q3 q4 q5 q6 => ⟨_, rfl, iteF ?_⟩⟩
        refine ⟨2, rfl, by omega, by omega, for_range (lo := 0) (n := (2 : Int).toNat) (fun k σ H16 => ∃ (v6 v7 : Option V) (Z : PV) (cd hd nd td xd : Addr) (ad : Int → Addr) (cs : Cells), σ = [some (.ref a), some (.ref rm), some (.ref L'.a), some (.int (mn : Int)), some (.ref L'.r), some (.ref sd), v6, v7] ∧ St K H0 H16 L' Z sd cd hd nd td xd ad cs ∧ Z.oe = r0 ∧ Z.ye = Z.yb + r1)
          ⟨_, _, Z5, cd5, hd5, nd5, td5, xd5, ad5, cs5, rfl, st6, q2.trans y4, by rw [q4, q3]; exact y5⟩ ?_ ?_⟩
        · rintro k σ H16 hk ⟨v6, v7, Z6, cd6, hd6, nd6, td6, xd6, ad6, cs6, rfl, st7, w1, w2⟩
          refine ⟨_, rfl, _, rfl, _, rfl, H0, L', _, sd, cd6, hd6, nd6, td6, xd6, ad6, cs6, rfl, st7, fun Z7 cd7 hd7 nd7 td7 xd7 ad7 cs7 H17 st8 p1 p2 p3 p4 p5 p6 => ⟨_, rfl, iteF ?_⟩⟩
          refine ⟨_, rfl, _, rfl, _, rfl, _, rfl, _, rfl, _, _, rfl, rfl, a, ns, 6 + k, (by rw [show ((6 + k : Nat) : Int) = 6 + (0 + (k : Int)) by omega]; rfl), scq st8.bs, fun n8 => ⟨_, rfl, H0, L', Z7, sd, cd7, hd7, nd7, td7, xd7, rm, ad7, cs7, n8, r1, rfl, st8, by rw [p2, w1]; exact hrm0, by rw [p4, p3]; exact w2, by rw [p5, p3], p6, fun Z8 ad8 cs8 H18 st9 o1 o2 o3 => ?_⟩⟩
          refine ⟨_, rfl, _, rfl, _, rfl, H0, L', _, sd, cd7, hd7, nd7, td7, xd7, ad8, cs8, rfl, st9, fun Z9 cd9 hd9 nd9 td9 xd9 ad9 cs9 H19 st10 t1 t2 t3 t4 t5 t6 => ⟨_, rfl, iteF ?_⟩⟩
          exact ⟨_, _, Z9, cd9, hd9, nd9, td9, xd9, ad9, cs9, rfl, st10, by rw [t2, o1, p2]; exact w1, by rw [t4, t3, o3, o2, p4, p3]; exact w2⟩
        · rintro σ H16 ⟨v6, v7, Z6, cd6, hd6, nd6, td6, xd6, ad6, cs6, rfl, st7, w1, w2⟩
          exact q H16
end Km
set_option Elab.async false
set_option linter.all false
set_option maxRecDepth 100000
set_option maxHeartbeats 0
/-! head and law joined -/
namespace Km
open PySem PySem.Spec PyProof.Rows L2
theorem facts {P : Program} {w : World} {K : PySem.W.Frag} {h : Heap} {mg : Str → Option Value} {f : Addr} (X : K.In h) (G : h.Ns mainGlobals mg) (hfa : mg ("law" : Str) = some (.ref f)) (c : He.SaysD fa fn K) :
    ∃ fd : FuncData, (∀ (s : Shared) (v : Value), BindsTo s fd ⟨[v], []⟩ [("_law_script", v)]) ∧ ∀ base : Heap, K.In base → base.Ns mainGlobals mg → FnOk P w K mg base CX0 10 f fd ["_law_script"] (sp_law K) := by
  have T : Tx K mg := ⟨⟨h, X, G⟩, c⟩
  obtain ⟨fd, F⟩ := T.f_law
  have e := hfa.symm.trans T.g_law
  cases e
  have b := FunD.bindsA (ps := ["_law_script"]) F fun _ _ _ _ _ _ us hl => match us, hl with | [_], _ => rfl
  exact ⟨fd, fun s v => b s [v] rfl, fun base _ _ => ok_law T F⟩
end Km
open PySem PySem.W PySem.Calls PyProof.Rows
theorem PySem.Challenge.cw_cellkeep_k16_whole_slid_holds : PySem.Challenge.rw_cellkeep_k16_whole_slid.Holds := by
  w_on; o_law
  refine HandSHeadRun.head_any (r := OpenLaw.row PySem.Challenge.rw_cellkeep_k16_whole_slid) (q := view (OpenLaw.row PySem.Challenge.rw_cellkeep_k16_whole_slid).prog [76]) (H := Km.hk) (ob := Km.ob) (M := 7000) (loose := Km.names) (d := HandSHeadRun.topDef (OpenLaw.row PySem.Challenge.rw_cellkeep_k16_whole_slid).prog 76) (kwd := []) Km.ob_eq
    (by kernel_rfl) (fun s => by kernel_rfl) Km.run (by kernel_rfl) (by kernel_rfl) (by kernel_rfl) (by rfl) (by first | assumption | decide +kernel) (by decide +kernel) ⟨rfl, rfl, rfl, rfl, rfl, by decide +kernel⟩ ?hw ?hc
  case hw => w_witness2
  case hc =>
    refine L2.walk_ofE (l := PySem.Challenge.rw_cellkeep_k16_whole_slid) (n := 63) (k := 10) (x := "_law_script") (CX := L2.CX0) rfl (by decide) (by kernel_rfl) ⟨rfl, by decide, by decide⟩ ?F (fun _ _ _ _ z => z)
    intro w mg fa h Y G hmg0
    obtain ⟨K, KX, c⟩ := Y
    have hmg : mg ("law" : PySem.Str) = some (.ref fa) := by
      have e : (HandSHeadRun.topDef (OpenLaw.row PySem.Challenge.rw_cellkeep_k16_whole_slid).prog 76).name = ("law" : PySem.Str) := by kernel_rfl
      rw [← e]
      exact hmg0
    obtain ⟨fd, hb, hF⟩ := Km.facts (P := (PySem.Challenge.rw_cellkeep_k16_whole_slid).prog) (w := w) KX G hmg c
    exact ⟨K, fd, Km.sp_law K, KX, hb, fun H a ns hl _ hS => ⟨a, ns, rfl, hS, hl, fun _ => rfl⟩, hF⟩
