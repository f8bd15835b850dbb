import PyProof.Rows.All
import Wide.All
import OpenK.AllK
import Wide.FinOn
import HandS.Head0
import HandS.Head1
import HandS.Head2
import HandS.HeadNt
import HandS.HeadHook4
import HandS.HeadEnd
import HandS.MakeKw
import HandS.MakeKwOnly
import HandS.NestedK
import HandS.Star
import HandS.ClsMeth
import PyProof.ReprRoads
import PyProof.InstNe
import KE.KWithOwn
import HandS.ForMost
import HandS.Defaults
import HandS.Property
import HandS.CallLocal
import HandS.OwnEq
import HandS.TupAny
import HandS.Wide
import HandS.FStr
import HandS.IsInst
import HandS.Codes
import HandS.Conv
import HandS.GenList
import HandS.GenYield
import HandS.Walk
import PyProof.ReprLen
import PyProof.ReprText
import PyProof.StrLawsRepr
import HandS.EndTab
import PySem.Challenge.RW_twoandabell_k30_whole_histories_of_proce
set_option Elab.async false
set_option linter.all false
set_option maxRecDepth 100000
set_option maxHeartbeats 4000000
/-! The text of the row: its defs' statements and names (printed by gen.py). -/
namespace Tb
open PySem PySem.Spec PyProof.Rows L2
def top (i : Nat) : Stmt := PySem.Challenge.pw_twoandabell_k30_whole_histories_of_proce.main.body.getD i (.Pass ⟨0, 0, 0, 0⟩)
def inC (i j : Nat) : Stmt := (C8.clsBody (top i)).getD j (.Pass ⟨0, 0, 0, 0⟩)
abbrev s_is_integer : Stmt := top 36
abbrev N_is_integer : List Str := ["value"]
theorem sc_is_integer : FnScope N_is_integer ["value"] (C8.fnScope s_is_integer) := C8.fnScope_by (by decide +kernel)
abbrev s_is_below : Stmt := top 37
abbrev N_is_below : List Str := ["value", "many"]
theorem sc_is_below : FnScope N_is_below ["value", "many"] (C8.fnScope s_is_below) := C8.fnScope_by (by decide +kernel)
abbrev s_is_number : Stmt := top 38
abbrev N_is_number : List Str := ["value"]
theorem sc_is_number : FnScope N_is_number ["value"] (C8.fnScope s_is_number) := C8.fnScope_by (by decide +kernel)
abbrev s_is_place : Stmt := top 39
abbrev N_is_place : List Str := ["value"]
theorem sc_is_place : FnScope N_is_place ["value"] (C8.fnScope s_is_place) := C8.fnScope_by (by decide +kernel)
abbrev s_is_rest : Stmt := top 40
abbrev N_is_rest : List Str := ["value"]
theorem sc_is_rest : FnScope N_is_rest ["value"] (C8.fnScope s_is_rest) := C8.fnScope_by (by decide +kernel)
abbrev s_is_word : Stmt := top 41
abbrev N_is_word : List Str := ["value"]
theorem sc_is_word : FnScope N_is_word ["value"] (C8.fnScope s_is_word) := C8.fnScope_by (by decide +kernel)
abbrev s_is_level_word : Stmt := top 42
abbrev N_is_level_word : List Str := ["value"]
theorem sc_is_level_word : FnScope N_is_level_word ["value"] (C8.fnScope s_is_level_word) := C8.fnScope_by (by decide +kernel)
abbrev s_is_pair : Stmt := top 43
abbrev N_is_pair : List Str := ["value"]
theorem sc_is_pair : FnScope N_is_pair ["value"] (C8.fnScope s_is_pair) := C8.fnScope_by (by decide +kernel)
abbrev s_is_triple : Stmt := top 44
abbrev N_is_triple : List Str := ["value"]
theorem sc_is_triple : FnScope N_is_triple ["value"] (C8.fnScope s_is_triple) := C8.fnScope_by (by decide +kernel)
abbrev s_is_entry : Stmt := top 45
abbrev N_is_entry : List Str := ["word", "value"]
theorem sc_is_entry : FnScope N_is_entry ["word", "value"] (C8.fnScope s_is_entry) := C8.fnScope_by (by decide +kernel)
abbrev s_is_level_for : Stmt := top 50
abbrev N_is_level_for : List Str := ["level", "index", "many", "word"]
theorem sc_is_level_for : FnScope N_is_level_for ["level", "index", "many"] (C8.fnScope s_is_level_for) := C8.fnScope_by (by decide +kernel)
abbrev s_require_book : Stmt := top 52
abbrev N_require_book : List Str := ["book"]
theorem sc_require_book : FnScope N_require_book ["book"] (C8.fnScope s_require_book) := C8.fnScope_by (by decide +kernel)
abbrev s_slice_of : Stmt := top 57
abbrev N_slice_of : List Str := ["book", "level"]
theorem sc_slice_of : FnScope N_slice_of ["book", "level"] (C8.fnScope s_slice_of) := C8.fnScope_by (by decide +kernel)
abbrev s_fresh_at : Stmt := top 58
abbrev N_fresh_at : List Str := ["book", "level"]
theorem sc_fresh_at : FnScope N_fresh_at ["book", "level"] (C8.fnScope s_fresh_at) := C8.fnScope_by (by decide +kernel)
abbrev s_worked_in : Stmt := top 59
abbrev N_worked_in : List Str := ["state"]
theorem sc_worked_in : FnScope N_worked_in ["state"] (C8.fnScope s_worked_in) := C8.fnScope_by (by decide +kernel)
abbrev s_moved_in : Stmt := top 60
abbrev N_moved_in : List Str := ["book", "word", "state", "entry", "level", "place", "rest", "most"]
theorem sc_moved_in : FnScope N_moved_in ["book", "word", "state"] (C8.fnScope s_moved_in) := C8.fnScope_by (by decide +kernel)
abbrev s_after_work : Stmt := top 61
abbrev N_after_work : List Str := ["book", "state", "word", "later", "place"]
theorem sc_after_work : FnScope N_after_work ["book", "state", "word"] (C8.fnScope s_after_work) := C8.fnScope_by (by decide +kernel)
abbrev s_entered : Stmt := top 62
abbrev N_entered : List Str := ["book", "word", "posture", "later", "place"]
theorem sc_entered : FnScope N_entered ["book", "word", "posture"] (C8.fnScope s_entered) := C8.fnScope_by (by decide +kernel)
abbrev s_is_coming : Stmt := top 74
abbrev N_is_coming : List Str := ["value"]
theorem sc_is_coming : FnScope N_is_coming ["value"] (C8.fnScope s_is_coming) := C8.fnScope_by (by decide +kernel)
abbrev s_is_tick : Stmt := top 75
abbrev N_is_tick : List Str := ["value", "coming"]
theorem sc_is_tick : FnScope N_is_tick ["value"] (C8.fnScope s_is_tick) := C8.fnScope_by (by decide +kernel)
abbrev s_comers_in : Stmt := top 76
abbrev N_comers_in : List Str := ["load", "comings", "word", "coming"]
theorem sc_comers_in : FnScope N_comers_in ["load"] (C8.fnScope s_comers_in) := C8.fnScope_by (by decide +kernel)
abbrev s_is_load : Stmt := top 77
abbrev N_is_load : List Str := ["value", "tick"]
theorem sc_is_load : FnScope N_is_load ["value"] (C8.fnScope s_is_load) := C8.fnScope_by (by decide +kernel)
abbrev s_require_load : Stmt := top 78
abbrev N_require_load : List Str := ["load"]
theorem sc_require_load : FnScope N_require_load ["load"] (C8.fnScope s_require_load) := C8.fnScope_by (by decide +kernel)
abbrev s_let_all_come : Stmt := top 79
abbrev N_let_all_come : List Str := ["course", "index", "comings", "coming"]
theorem sc_let_all_come : FnScope N_let_all_come ["course", "index", "comings"] (C8.fnScope s_let_all_come) := C8.fnScope_by (by decide +kernel)
abbrev s_done_by : Stmt := top 80
abbrev N_done_by : List Str := ["course", "load", "index", "comings", "word"]
theorem sc_done_by : GScope N_done_by ["course", "load"] (C8.fnScope s_done_by) := ⟨rfl, rfl, rfl, by decide +kernel, rfl, by decide +kernel, by decide +kernel⟩
abbrev s_chart : Stmt := top 81
abbrev N_chart : List Str := ["book", "load"]
theorem sc_chart : FnScope N_chart ["book", "load"] (C8.fnScope s_chart) := C8.fnScope_by (by decide +kernel)
abbrev s_pictures : Stmt := top 82
abbrev N_pictures : List Str := ["book", "load", "course", "told"]
theorem sc_pictures : GScope N_pictures ["book", "load"] (C8.fnScope s_pictures) := ⟨rfl, rfl, rfl, by decide +kernel, rfl, by decide +kernel, by decide +kernel⟩
abbrev s_work_of : Stmt := top 86
abbrev N_work_of : List Str := ["book", "calls", "found", "call"]
theorem sc_work_of : FnScope N_work_of ["book", "calls"] (C8.fnScope s_work_of) := C8.fnScope_by (by decide +kernel)
abbrev s__law_dice : Stmt := top 90
abbrev N__law_dice : List Str := ["_law_script", "_law_spot", "_law_cell", "_law_great", "_law_blend"]
theorem sc__law_dice : FnScope N__law_dice ["_law_script", "_law_spot"] (C8.fnScope s__law_dice) := C8.fnScope_by (by decide +kernel)
abbrev s__law_roll : Stmt := top 91
abbrev N__law_roll : List Str := ["_law_dice_here", "_law_upto", "_law_found", "_law_one", "_law_two"]
theorem sc__law_roll : FnScope N__law_roll ["_law_dice_here", "_law_upto"] (C8.fnScope s__law_roll) := C8.fnScope_by (by decide +kernel)
abbrev s__law_pick : Stmt := top 92
abbrev N__law_pick : List Str := ["_law_dice_here", "_law_items"]
theorem sc__law_pick : FnScope N__law_pick ["_law_dice_here", "_law_items"] (C8.fnScope s__law_pick) := C8.fnScope_by (by decide +kernel)
abbrev s__law_level : Stmt := top 93
abbrev N__law_level : List Str := ["_law_dice_here", "_law_index", "_law_lots", "_law_most", "_law_found", "_law_at", "_law_low", "_law_entry"]
theorem sc__law_level : FnScope N__law_level ["_law_dice_here", "_law_index", "_law_lots", "_law_most"] (C8.fnScope s__law_level) := C8.fnScope_by (by decide +kernel)
abbrev s__law_book : Stmt := top 94
abbrev N__law_book : List Str := ["_law_dice_here", "_law_lots", "_law_kinds", "_law_most", "_law_count", "_law_levels", "_law_index", "_law_turn"]
theorem sc__law_book : FnScope N__law_book ["_law_dice_here", "_law_lots", "_law_kinds", "_law_most"] (C8.fnScope s__law_book) := C8.fnScope_by (by decide +kernel)
abbrev s__law_level_made : Stmt := top 95
abbrev N__law_level_made : List Str := ["_law_plain", "_law_span", "_law_after", "_law_risen", "_law_given", "_law_away", "_law_limit"]
theorem sc__law_level_made : FnScope N__law_level_made ["_law_plain"] (C8.fnScope s__law_level_made) := C8.fnScope_by (by decide +kernel)
abbrev s__law_book_made : Stmt := top 96
abbrev N__law_book_made : List Str := ["_law_plain", "_law_one"]
theorem sc__law_book_made : FnScope N__law_book_made ["_law_plain"] (C8.fnScope s__law_book_made) := C8.fnScope_by (by decide +kernel)
abbrev s__law_shown : Stmt := top 97
abbrev N__law_shown : List Str := ["_law_processor", "_law_queues", "_law_told"]
theorem sc__law_shown : FnScope N__law_shown ["_law_processor"] (C8.fnScope s__law_shown) := C8.fnScope_by (by decide +kernel)
abbrev s__law_fresh : Stmt := top 98
abbrev N__law_fresh : List Str := ["_law_book_here", "_law_calls", "_law_found", "_law_word", "_law_value"]
theorem sc__law_fresh : FnScope N__law_fresh ["_law_book_here", "_law_calls"] (C8.fnScope s__law_fresh) := C8.fnScope_by (by decide +kernel)
abbrev s__law_called : Stmt := top 99
abbrev N__law_called : List Str := ["_law_dice_here", "_law_processor", "_law_plain", "_law_left", "_law_asleep", "_law_deed", "_law_size", "_law_count", "_law_rank", "_law_task", "_law_post"]
theorem sc__law_called : FnScope N__law_called ["_law_dice_here", "_law_processor", "_law_plain", "_law_left"] (C8.fnScope s__law_called) := C8.fnScope_by (by decide +kernel)
abbrev s__law_is_like_its_log : Stmt := top 100
abbrev N__law_is_like_its_log : List Str := ["_law_processor", "_law_book_here", "_law_anew", "_law_load"]
theorem sc__law_is_like_its_log : FnScope N__law_is_like_its_log ["_law_processor", "_law_book_here"] (C8.fnScope s__law_is_like_its_log) := C8.fnScope_by (by decide +kernel)
abbrev s_law : Stmt := top 101
abbrev N_law : List Str := ["_law_script", "_law_plain", "_law_book_here", "_law_some", "_law_left", "_law_spot", "_law_dice_here", "_law_at", "_law_others", "_law_one"]
theorem sc_law : FnScope N_law ["_law_script"] (C8.fnScope s_law) := C8.fnScope_by (by decide +kernel)
abbrev s_Level___init__ : Stmt := inC 49 0
abbrev N_Level___init__ : List Str := ["self", "ticks", "used", "wake", "way", "lost", "takes", "word", "value"]
theorem sc_Level___init__ : FnScope N_Level___init__ ["self", "ticks", "used", "wake", "way", "lost", "takes"] (C8.fnScope s_Level___init__) := C8.fnScope_by (by decide +kernel)
abbrev s_Level___getitem__ : Stmt := inC 49 8
abbrev N_Level___getitem__ : List Str := ["self", "word"]
theorem sc_Level___getitem__ : FnScope N_Level___getitem__ ["self", "word"] (C8.fnScope s_Level___getitem__) := C8.fnScope_by (by decide +kernel)
abbrev s_Book___init__ : Stmt := inC 51 0
abbrev N_Book___init__ : List Str := ["self", "ranks", "levels", "many", "at", "one", "level"]
theorem sc_Book___init__ : FnScope N_Book___init__ ["self", "ranks", "levels"] (C8.fnScope s_Book___init__) := C8.fnScope_by (by decide +kernel)
abbrev s_Book_of : Stmt := inC 51 1
abbrev N_Book_of : List Str := ["cls", "levels", "ranks"]
theorem sc_Book_of : FnScope N_Book_of ["cls", "levels", "ranks"] (C8.fnScope s_Book_of) := C8.fnScope_by (by decide +kernel)
abbrev s_Book___eq__ : Stmt := inC 51 15
abbrev N_Book___eq__ : List Str := ["self", "other"]
theorem sc_Book___eq__ : FnScope N_Book___eq__ ["self", "other"] (C8.fnScope s_Book___eq__) := C8.fnScope_by (by decide +kernel)
abbrev s_Queues___init__ : Stmt := inC 66 0
abbrev N_Queues___init__ : List Str := ["self", "many", "level"]
theorem sc_Queues___init__ : FnScope N_Queues___init__ ["self", "many"] (C8.fnScope s_Queues___init__) := C8.fnScope_by (by decide +kernel)
abbrev s_Queues_put : Stmt := inC 66 1
abbrev N_Queues_put : List Str := ["self", "task", "level", "place"]
theorem sc_Queues_put : FnScope N_Queues_put ["self", "task", "level", "place"] (C8.fnScope s_Queues_put) := C8.fnScope_by (by decide +kernel)
abbrev s_Queues_pick : Stmt := inC 66 4
abbrev N_Queues_pick : List Str := ["self"]
theorem sc_Queues_pick : FnScope N_Queues_pick ["self"] (C8.fnScope s_Queues_pick) := C8.fnScope_by (by decide +kernel)
abbrev s_Queues_best : Stmt := inC 66 5
abbrev N_Queues_best : List Str := ["self", "level", "tasks"]
theorem sc_Queues_best : FnScope N_Queues_best ["self"] (C8.fnScope s_Queues_best) := C8.fnScope_by (by decide +kernel)
abbrev s_Queues_tasks : Stmt := inC 66 6
abbrev N_Queues_tasks : List Str := ["self", "found", "tasks"]
theorem sc_Queues_tasks : FnScope N_Queues_tasks ["self"] (C8.fnScope s_Queues_tasks) := C8.fnScope_by (by decide +kernel)
abbrev s_Queues_twin : Stmt := inC 66 9
abbrev N_Queues_twin : List Str := ["self", "found", "tasks"]
theorem sc_Queues_twin : FnScope N_Queues_twin ["self"] (C8.fnScope s_Queues_twin) := C8.fnScope_by (by decide +kernel)
abbrev s_Queues___eq__ : Stmt := inC 66 15
abbrev N_Queues___eq__ : List Str := ["self", "other"]
theorem sc_Queues___eq__ : FnScope N_Queues___eq__ ["self", "other"] (C8.fnScope s_Queues___eq__) := C8.fnScope_by (by decide +kernel)
abbrev s_Course___init__ : Stmt := inC 69 0
abbrev N_Course___init__ : List Str := ["self", "book"]
theorem sc_Course___init__ : FnScope N_Course___init__ ["self", "book"] (C8.fnScope s_Course___init__) := C8.fnScope_by (by decide +kernel)
abbrev s_Course_twin : Stmt := inC 69 1
abbrev N_Course_twin : List Str := ["self", "found"]
theorem sc_Course_twin : FnScope N_Course_twin ["self"] (C8.fnScope s_Course_twin) := C8.fnScope_by (by decide +kernel)
abbrev s_Course_enter : Stmt := inC 69 2
abbrev N_Course_enter : List Str := ["self", "task", "posture", "place"]
theorem sc_Course_enter : FnScope N_Course_enter ["self", "task", "posture", "place"] (C8.fnScope s_Course_enter) := C8.fnScope_by (by decide +kernel)
abbrev s_Course_come : Stmt := inC 69 3
abbrev N_Course_come : List Str := ["self", "rank", "level", "left"]
theorem sc_Course_come : FnScope N_Course_come ["self", "rank"] (C8.fnScope s_Course_come) := C8.fnScope_by (by decide +kernel)
abbrev s_Course_is_asleep : Stmt := inC 69 4
abbrev N_Course_is_asleep : List Str := ["self", "task"]
theorem sc_Course_is_asleep : FnScope N_Course_is_asleep ["self", "task"] (C8.fnScope s_Course_is_asleep) := C8.fnScope_by (by decide +kernel)
abbrev s_Course_wake_up : Stmt := inC 69 5
abbrev N_Course_wake_up : List Str := ["self", "task", "posture", "place"]
theorem sc_Course_wake_up : FnScope N_Course_wake_up ["self", "task"] (C8.fnScope s_Course_wake_up) := C8.fnScope_by (by decide +kernel)
abbrev s_Course_can_come : Stmt := inC 69 6
abbrev N_Course_can_come : List Str := ["self", "coming", "word", "number"]
theorem sc_Course_can_come : FnScope N_Course_can_come ["self", "coming"] (C8.fnScope s_Course_can_come) := C8.fnScope_by (by decide +kernel)
abbrev s_Course_let_come : Stmt := inC 69 7
abbrev N_Course_let_come : List Str := ["self", "coming", "word", "number"]
theorem sc_Course_let_come : FnScope N_Course_let_come ["self", "coming"] (C8.fnScope s_Course_let_come) := C8.fnScope_by (by decide +kernel)
abbrev s_Course_taking : Stmt := inC 69 8
abbrev N_Course_taking : List Str := ["self"]
theorem sc_Course_taking : FnScope N_Course_taking ["self"] (C8.fnScope s_Course_taking) := C8.fnScope_by (by decide +kernel)
abbrev s_Course_is_taken : Stmt := inC 69 9
abbrev N_Course_is_taken : List Str := ["self", "word", "best"]
theorem sc_Course_is_taken : FnScope N_Course_is_taken ["self", "word"] (C8.fnScope s_Course_is_taken) := C8.fnScope_by (by decide +kernel)
abbrev s_Course_give_up : Stmt := inC 69 10
abbrev N_Course_give_up : List Str := ["self", "task", "posture", "place"]
theorem sc_Course_give_up : FnScope N_Course_give_up ["self"] (C8.fnScope s_Course_give_up) := C8.fnScope_by (by decide +kernel)
abbrev s_Course_next_worker : Stmt := inC 69 11
abbrev N_Course_next_worker : List Str := ["self", "best"]
theorem sc_Course_next_worker : FnScope N_Course_next_worker ["self"] (C8.fnScope s_Course_next_worker) := C8.fnScope_by (by decide +kernel)
abbrev s_Course_tick : Stmt := inC 69 12
abbrev N_Course_tick : List Str := ["self", "word", "task", "posture", "place"]
theorem sc_Course_tick : FnScope N_Course_tick ["self", "word"] (C8.fnScope s_Course_tick) := C8.fnScope_by (by decide +kernel)
abbrev s_Course_shown : Stmt := inC 69 13
abbrev N_Course_shown : List Str := ["self"]
theorem sc_Course_shown : FnScope N_Course_shown ["self"] (C8.fnScope s_Course_shown) := C8.fnScope_by (by decide +kernel)
abbrev s_Course_is_like : Stmt := inC 69 14
abbrev N_Course_is_like : List Str := ["self", "other"]
theorem sc_Course_is_like : FnScope N_Course_is_like ["self", "other"] (C8.fnScope s_Course_is_like) := C8.fnScope_by (by decide +kernel)
abbrev s_Work___init__ : Stmt := inC 85 0
abbrev N_Work___init__ : List Str := ["self", "book"]
theorem sc_Work___init__ : FnScope N_Work___init__ ["self", "book"] (C8.fnScope s_Work___init__) := C8.fnScope_by (by decide +kernel)
abbrev s_Work_branch : Stmt := inC 85 1
abbrev N_Work_branch : List Str := ["self", "found"]
theorem sc_Work_branch : FnScope N_Work_branch ["self"] (C8.fnScope s_Work_branch) := C8.fnScope_by (by decide +kernel)
abbrev s_Work_require_room : Stmt := inC 85 2
abbrev N_Work_require_room : List Str := ["self"]
theorem sc_Work_require_room : FnScope N_Work_require_room ["self"] (C8.fnScope s_Work_require_room) := C8.fnScope_by (by decide +kernel)
abbrev s_Work_let_in : Stmt := inC 85 3
abbrev N_Work_let_in : List Str := ["self", "rank"]
theorem sc_Work_let_in : FnScope N_Work_let_in ["self", "rank"] (C8.fnScope s_Work_let_in) := C8.fnScope_by (by decide +kernel)
abbrev s_Work_rouse : Stmt := inC 85 4
abbrev N_Work_rouse : List Str := ["self", "task"]
theorem sc_Work_rouse : FnScope N_Work_rouse ["self", "task"] (C8.fnScope s_Work_rouse) := C8.fnScope_by (by decide +kernel)
abbrev s_Work_kept : Stmt := inC 85 5
abbrev N_Work_kept : List Str := ["self", "coming"]
theorem sc_Work_kept : FnScope N_Work_kept ["self", "coming"] (C8.fnScope s_Work_kept) := C8.fnScope_by (by decide +kernel)
abbrev s_Work_turn : Stmt := inC 85 6
abbrev N_Work_turn : List Str := ["self", "word", "told"]
theorem sc_Work_turn : FnScope N_Work_turn ["self", "word"] (C8.fnScope s_Work_turn) := C8.fnScope_by (by decide +kernel)
abbrev s_Work_again : Stmt := inC 85 7
abbrev N_Work_again : List Str := ["self", "call", "word", "value"]
theorem sc_Work_again : FnScope N_Work_again ["self", "call"] (C8.fnScope s_Work_again) := C8.fnScope_by (by decide +kernel)
abbrev s_Trial___init__ : Stmt := inC 87 0
abbrev N_Trial___init__ : List Str := ["self", "processor"]
theorem sc_Trial___init__ : FnScope N_Trial___init__ ["self", "processor"] (C8.fnScope s_Trial___init__) := C8.fnScope_by (by decide +kernel)
abbrev s_Trial___enter__ : Stmt := inC 87 1
abbrev N_Trial___enter__ : List Str := ["self"]
theorem sc_Trial___enter__ : FnScope N_Trial___enter__ ["self"] (C8.fnScope s_Trial___enter__) := C8.fnScope_by (by decide +kernel)
abbrev s_Trial___exit__ : Stmt := inC 87 2
abbrev N_Trial___exit__ : List Str := ["self", "kind", "value", "trace"]
theorem sc_Trial___exit__ : FnScope N_Trial___exit__ ["self", "kind", "value", "trace"] (C8.fnScope s_Trial___exit__) := C8.fnScope_by (by decide +kernel)
abbrev s_Processor___init__ : Stmt := inC 88 0
abbrev N_Processor___init__ : List Str := ["self", "book"]
theorem sc_Processor___init__ : FnScope N_Processor___init__ ["self", "book"] (C8.fnScope s_Processor___init__) := C8.fnScope_by (by decide +kernel)
abbrev s_Processor_come : Stmt := inC 88 1
abbrev N_Processor_come : List Str := ["self", "rank", "task"]
theorem sc_Processor_come : FnScope N_Processor_come ["self", "rank"] (C8.fnScope s_Processor_come) := C8.fnScope_by (by decide +kernel)
abbrev s_Processor_wake_up : Stmt := inC 88 2
abbrev N_Processor_wake_up : List Str := ["self", "task"]
theorem sc_Processor_wake_up : FnScope N_Processor_wake_up ["self", "task"] (C8.fnScope s_Processor_wake_up) := C8.fnScope_by (by decide +kernel)
abbrev s_Processor_tick : Stmt := inC 88 3
abbrev N_Processor_tick : List Str := ["self", "word", "told"]
theorem sc_Processor_tick : FnScope N_Processor_tick ["self", "word"] (C8.fnScope s_Processor_tick) := C8.fnScope_by (by decide +kernel)
abbrev s_Processor_bell : Stmt := inC 88 4
abbrev N_Processor_bell : List Str := ["self"]
theorem sc_Processor_bell : FnScope N_Processor_bell ["self"] (C8.fnScope s_Processor_bell) := C8.fnScope_by (by decide +kernel)
abbrev s_Processor_do : Stmt := inC 88 5
abbrev N_Processor_do : List Str := ["self", "load", "work", "told", "comings", "word", "coming"]
theorem sc_Processor_do : FnScope N_Processor_do ["self", "load"] (C8.fnScope s_Processor_do) := C8.fnScope_by (by decide +kernel)
abbrev s_Processor_book : Stmt := inC 88 6
abbrev N_Processor_book : List Str := ["self"]
theorem sc_Processor_book : FnScope N_Processor_book ["self"] (C8.fnScope s_Processor_book) := C8.fnScope_by (by decide +kernel)
abbrev s_Processor_picture : Stmt := inC 88 7
abbrev N_Processor_picture : List Str := ["self"]
theorem sc_Processor_picture : FnScope N_Processor_picture ["self"] (C8.fnScope s_Processor_picture) := C8.fnScope_by (by decide +kernel)
abbrev s_Processor_runner : Stmt := inC 88 8
abbrev N_Processor_runner : List Str := ["self"]
theorem sc_Processor_runner : FnScope N_Processor_runner ["self"] (C8.fnScope s_Processor_runner) := C8.fnScope_by (by decide +kernel)
abbrev s_Processor_next_one : Stmt := inC 88 9
abbrev N_Processor_next_one : List Str := ["self"]
theorem sc_Processor_next_one : FnScope N_Processor_next_one ["self"] (C8.fnScope s_Processor_next_one) := C8.fnScope_by (by decide +kernel)
abbrev s_Processor_chart : Stmt := inC 88 10
abbrev N_Processor_chart : List Str := ["self"]
theorem sc_Processor_chart : FnScope N_Processor_chart ["self"] (C8.fnScope s_Processor_chart) := C8.fnScope_by (by decide +kernel)
abbrev s_Processor_done : Stmt := inC 88 11
abbrev N_Processor_done : List Str := ["self"]
theorem sc_Processor_done : FnScope N_Processor_done ["self"] (C8.fnScope s_Processor_done) := C8.fnScope_by (by decide +kernel)
abbrev s_Processor_log : Stmt := inC 88 12
abbrev N_Processor_log : List Str := ["self"]
theorem sc_Processor_log : FnScope N_Processor_log ["self"] (C8.fnScope s_Processor_log) := C8.fnScope_by (by decide +kernel)
abbrev s_Processor_queues : Stmt := inC 88 13
abbrev N_Processor_queues : List Str := ["self"]
theorem sc_Processor_queues : FnScope N_Processor_queues ["self"] (C8.fnScope s_Processor_queues) := C8.fnScope_by (by decide +kernel)
abbrev s_Processor_undo : Stmt := inC 88 14
abbrev N_Processor_undo : List Str := ["self", "many", "calls", "rest"]
theorem sc_Processor_undo : FnScope N_Processor_undo ["self", "many"] (C8.fnScope s_Processor_undo) := C8.fnScope_by (by decide +kernel)
abbrev s_Processor_redo : Stmt := inC 88 15
abbrev N_Processor_redo : List Str := ["self", "many", "call"]
theorem sc_Processor_redo : FnScope N_Processor_redo ["self", "many"] (C8.fnScope s_Processor_redo) := C8.fnScope_by (by decide +kernel)
abbrev s_Processor_trial : Stmt := inC 88 16
abbrev N_Processor_trial : List Str := ["self"]
theorem sc_Processor_trial : FnScope N_Processor_trial ["self"] (C8.fnScope s_Processor_trial) := C8.fnScope_by (by decide +kernel)
abbrev s_Processor_during : Stmt := inC 88 17
abbrev N_Processor_during : List Str := ["self", "call", "same"]
theorem sc_Processor_during : FnScope N_Processor_during ["self", "call"] (C8.fnScope s_Processor_during) := C8.fnScope_by (by decide +kernel)
abbrev s_Processor_twin : Stmt := inC 88 18
abbrev N_Processor_twin : List Str := ["self", "found"]
theorem sc_Processor_twin : FnScope N_Processor_twin ["self"] (C8.fnScope s_Processor_twin) := C8.fnScope_by (by decide +kernel)
abbrev s_Processor___len__ : Stmt := inC 88 20
abbrev N_Processor___len__ : List Str := ["self"]
theorem sc_Processor___len__ : FnScope N_Processor___len__ ["self"] (C8.fnScope s_Processor___len__) := C8.fnScope_by (by decide +kernel)
abbrev s_Processor___eq__ : Stmt := inC 88 24
abbrev N_Processor___eq__ : List Str := ["self", "other"]
theorem sc_Processor___eq__ : FnScope N_Processor___eq__ ["self", "other"] (C8.fnScope s_Processor___eq__) := C8.fnScope_by (by decide +kernel)
abbrev s_Processor___str__ : Stmt := inC 88 25
abbrev N_Processor___str__ : List Str := ["self", "course", "ready", "task"]
theorem sc_Processor___str__ : FnScope N_Processor___str__ ["self"] (C8.fnScope s_Processor___str__) := C8.fnScope_by (by decide +kernel)
end Tb
set_option Elab.async false
set_option linter.all false
set_option maxRecDepth 100000
set_option maxHeartbeats 4000000
/-! What the defs' promises lean on: facts of the heap behind the top (printed by gen.py). -/
namespace Tb
open PySem PySem.Spec PyProof.Rows L2 He
abbrev DefAt (K : PySem.W.Frag) (x qual : Str) (st : Stmt) (ps : List Str) (f : Addr) : Prop := ∃ fd, FunD K x qual (C8.fnArgs st) (C8.fnBody st) (C8.fnScope st) [] [] f fd ∧ L2.Binds K fd ps []
section
variable {K : PySem.W.Frag} {C : Addr} {m : Str}
structure SpcF (K : PySem.W.Frag) (C : Addr) (m : Str) : Prop where
  at_ : PySem.W.findIn K (.ref C) m = some (some (.ref (He.ma K C m)))
  fn : PySem.W.isFn K (.ref (He.ma K C m)) = true
  fi : PySem.W.fnIn K (He.ma K C m) = true
def spcB (K : PySem.W.Frag) (C : Addr) (m : Str) : Bool := He.eqO (PySem.W.findIn K (.ref C) m) (some (some (.ref (He.ma K C m)))) && (PySem.W.isFn K (.ref (He.ma K C m)) && PySem.W.fnIn K (He.ma K C m))
theorem spcB_ok (h : spcB K C m = true) : SpcF K C m := by
  obtain ⟨h1, h⟩ := He.ba h
  obtain ⟨h2, h3⟩ := He.ba h
  exact ⟨He.eqO_ok h1, h2, h3⟩
def propB (K : PySem.W.Frag) (C : Addr) (m : Str) : Bool := He.eqO (PySem.W.findIn K (.ref C) m) (some (some (.ref (He.ma K C m)))) && (He.eqO (PySem.W.specialIn K (.ref (He.ma K C m)) "__get__") (some (some (.builtin "property.__get__"))) &&
  (decide (PySem.W.takesIn K (.ref (He.ma K C m)) = some true) && (match PySem.W.recIn K (He.ma K C m) "property" with
    | some (.ref _ :: _) => true
    | _ => false)))
theorem propB_ok (h : propB K C m = true) : PropOf K C m (He.ma K C m) (He5.wf K C "property" m) := by
  obtain ⟨h1, h⟩ := He.ba h
  obtain ⟨h2, h⟩ := He.ba h
  obtain ⟨h3, h4⟩ := He.ba h
  refine ⟨He.eqO_ok h1, He.eqO_ok h2, of_decide_eq_true h3, ?_⟩
  unfold He5.wf
  split at h4
  · rename_i f r e
    exact ⟨r, by rw [e]⟩
  · cases h4
def cmB (K : PySem.W.Frag) (C : Addr) (m : Str) : Bool := He5.wrapB K C "classmethod" "classmethod.__get__" m && PySem.W.fnIn K (He5.wf K C "classmethod" m)
theorem cmB_ok (h : cmB K C m = true) : ClX.CMet K C (.type "type") m (He.ma K C m) (He5.wf K C "classmethod" m) := He5.cmet_of (He.ba h).1 (He.ba h).2
def crB (K : PySem.W.Frag) (C : Addr) : Bool := PySem.W.readsIn K C (.type "type") && He.eqO (PySem.W.specialIn K (.ref C) "__getattribute__") (some (some (.builtin "type.__getattribute__")))
theorem crB_ok (h : crB K C = true) : ClX.CRead K C (.type "type") := ⟨(He.ba h).1, He.eqO_ok (He.ba h).2⟩
def insB (K : PySem.W.Frag) (C : Addr) : Bool := He.eqO (PySem.W.findIn K (.ref C) "__class__") (some (some (.builtin "object.__class__"))) && (He.eqO (PySem.W.specialIn K (.builtin "object.__class__") "__get__") (some (some (.builtin "getset_descriptor.__get__"))) &&
  (decide (PySem.W.takesIn K (.builtin "object.__class__") = some true) && (decide (PySem.W.mroIn K C (.type "object") = some true) && decide (PySem.W.kitOne K (.ref C) (.ref C) = some true))))
theorem insB_ok (c : Cls K C) (h : insB K C = true) : C8.InsC K C := by
  obtain ⟨h1, h⟩ := He.ba h
  obtain ⟨h2, h⟩ := He.ba h
  obtain ⟨h3, h⟩ := He.ba h
  obtain ⟨h4, h5⟩ := He.ba h
  exact ⟨c, He.eqO_ok h1, He.eqO_ok h2, of_decide_eq_true h3, of_decide_eq_true h4, of_decide_eq_true h5⟩
end
def fn_is_integer : He5.DefA := ⟨fun K => He.ga K "is_integer", "is_integer", "is_integer", C8.fnArgs s_is_integer, C8.fnBody s_is_integer, C8.fnScope s_is_integer, [], []⟩
def fn_is_below : He5.DefA := ⟨fun K => He.ga K "is_below", "is_below", "is_below", C8.fnArgs s_is_below, C8.fnBody s_is_below, C8.fnScope s_is_below, [], []⟩
def fn_is_number : He5.DefA := ⟨fun K => He.ga K "is_number", "is_number", "is_number", C8.fnArgs s_is_number, C8.fnBody s_is_number, C8.fnScope s_is_number, [], []⟩
def fn_is_place : He5.DefA := ⟨fun K => He.ga K "is_place", "is_place", "is_place", C8.fnArgs s_is_place, C8.fnBody s_is_place, C8.fnScope s_is_place, [], []⟩
def fn_is_rest : He5.DefA := ⟨fun K => He.ga K "is_rest", "is_rest", "is_rest", C8.fnArgs s_is_rest, C8.fnBody s_is_rest, C8.fnScope s_is_rest, [], []⟩
def fn_is_word : He5.DefA := ⟨fun K => He.ga K "is_word", "is_word", "is_word", C8.fnArgs s_is_word, C8.fnBody s_is_word, C8.fnScope s_is_word, [], []⟩
def fn_is_level_word : He5.DefA := ⟨fun K => He.ga K "is_level_word", "is_level_word", "is_level_word", C8.fnArgs s_is_level_word, C8.fnBody s_is_level_word, C8.fnScope s_is_level_word, [], []⟩
def fn_is_pair : He5.DefA := ⟨fun K => He.ga K "is_pair", "is_pair", "is_pair", C8.fnArgs s_is_pair, C8.fnBody s_is_pair, C8.fnScope s_is_pair, [], []⟩
def fn_is_triple : He5.DefA := ⟨fun K => He.ga K "is_triple", "is_triple", "is_triple", C8.fnArgs s_is_triple, C8.fnBody s_is_triple, C8.fnScope s_is_triple, [], []⟩
def fn_is_entry : He5.DefA := ⟨fun K => He.ga K "is_entry", "is_entry", "is_entry", C8.fnArgs s_is_entry, C8.fnBody s_is_entry, C8.fnScope s_is_entry, [], []⟩
def fn_is_level_for : He5.DefA := ⟨fun K => He.ga K "is_level_for", "is_level_for", "is_level_for", C8.fnArgs s_is_level_for, C8.fnBody s_is_level_for, C8.fnScope s_is_level_for, [], []⟩
def fn_require_book : He5.DefA := ⟨fun K => He.ga K "require_book", "require_book", "require_book", C8.fnArgs s_require_book, C8.fnBody s_require_book, C8.fnScope s_require_book, [], []⟩
def fn_slice_of : He5.DefA := ⟨fun K => He.ga K "slice_of", "slice_of", "slice_of", C8.fnArgs s_slice_of, C8.fnBody s_slice_of, C8.fnScope s_slice_of, [], []⟩
def fn_fresh_at : He5.DefA := ⟨fun K => He.ga K "fresh_at", "fresh_at", "fresh_at", C8.fnArgs s_fresh_at, C8.fnBody s_fresh_at, C8.fnScope s_fresh_at, [], []⟩
def fn_worked_in : He5.DefA := ⟨fun K => He.ga K "worked_in", "worked_in", "worked_in", C8.fnArgs s_worked_in, C8.fnBody s_worked_in, C8.fnScope s_worked_in, [], []⟩
def fn_moved_in : He5.DefA := ⟨fun K => He.ga K "moved_in", "moved_in", "moved_in", C8.fnArgs s_moved_in, C8.fnBody s_moved_in, C8.fnScope s_moved_in, [], []⟩
def fn_after_work : He5.DefA := ⟨fun K => He.ga K "after_work", "after_work", "after_work", C8.fnArgs s_after_work, C8.fnBody s_after_work, C8.fnScope s_after_work, [], []⟩
def fn_entered : He5.DefA := ⟨fun K => He.ga K "entered", "entered", "entered", C8.fnArgs s_entered, C8.fnBody s_entered, C8.fnScope s_entered, [], []⟩
def fn_is_coming : He5.DefA := ⟨fun K => He.ga K "is_coming", "is_coming", "is_coming", C8.fnArgs s_is_coming, C8.fnBody s_is_coming, C8.fnScope s_is_coming, [], []⟩
def fn_is_tick : He5.DefA := ⟨fun K => He.ga K "is_tick", "is_tick", "is_tick", C8.fnArgs s_is_tick, C8.fnBody s_is_tick, C8.fnScope s_is_tick, [], []⟩
def fn_comers_in : He5.DefA := ⟨fun K => He.ga K "comers_in", "comers_in", "comers_in", C8.fnArgs s_comers_in, C8.fnBody s_comers_in, C8.fnScope s_comers_in, [], []⟩
def fn_is_load : He5.DefA := ⟨fun K => He.ga K "is_load", "is_load", "is_load", C8.fnArgs s_is_load, C8.fnBody s_is_load, C8.fnScope s_is_load, [], []⟩
def fn_require_load : He5.DefA := ⟨fun K => He.ga K "require_load", "require_load", "require_load", C8.fnArgs s_require_load, C8.fnBody s_require_load, C8.fnScope s_require_load, [], []⟩
def fn_let_all_come : He5.DefA := ⟨fun K => He.ga K "let_all_come", "let_all_come", "let_all_come", C8.fnArgs s_let_all_come, C8.fnBody s_let_all_come, C8.fnScope s_let_all_come, [], []⟩
def fn_done_by : He5.DefA := ⟨fun K => He.ga K "done_by", "done_by", "done_by", C8.fnArgs s_done_by, C8.fnBody s_done_by, C8.fnScope s_done_by, [], []⟩
def fn_chart : He5.DefA := ⟨fun K => He.ga K "chart", "chart", "chart", C8.fnArgs s_chart, C8.fnBody s_chart, C8.fnScope s_chart, [], []⟩
def fn_pictures : He5.DefA := ⟨fun K => He.ga K "pictures", "pictures", "pictures", C8.fnArgs s_pictures, C8.fnBody s_pictures, C8.fnScope s_pictures, [], []⟩
def fn_work_of : He5.DefA := ⟨fun K => He.ga K "work_of", "work_of", "work_of", C8.fnArgs s_work_of, C8.fnBody s_work_of, C8.fnScope s_work_of, [], []⟩
def fn__law_dice : He5.DefA := ⟨fun K => He.ga K "_law_dice", "_law_dice", "_law_dice", C8.fnArgs s__law_dice, C8.fnBody s__law_dice, C8.fnScope s__law_dice, [], []⟩
def fn__law_roll : He5.DefA := ⟨fun K => He.ga K "_law_roll", "_law_roll", "_law_roll", C8.fnArgs s__law_roll, C8.fnBody s__law_roll, C8.fnScope s__law_roll, [], []⟩
def fn__law_pick : He5.DefA := ⟨fun K => He.ga K "_law_pick", "_law_pick", "_law_pick", C8.fnArgs s__law_pick, C8.fnBody s__law_pick, C8.fnScope s__law_pick, [], []⟩
def fn__law_level : He5.DefA := ⟨fun K => He.ga K "_law_level", "_law_level", "_law_level", C8.fnArgs s__law_level, C8.fnBody s__law_level, C8.fnScope s__law_level, [], []⟩
def fn__law_book : He5.DefA := ⟨fun K => He.ga K "_law_book", "_law_book", "_law_book", C8.fnArgs s__law_book, C8.fnBody s__law_book, C8.fnScope s__law_book, [], []⟩
def fn__law_level_made : He5.DefA := ⟨fun K => He.ga K "_law_level_made", "_law_level_made", "_law_level_made", C8.fnArgs s__law_level_made, C8.fnBody s__law_level_made, C8.fnScope s__law_level_made, [], []⟩
def fn__law_book_made : He5.DefA := ⟨fun K => He.ga K "_law_book_made", "_law_book_made", "_law_book_made", C8.fnArgs s__law_book_made, C8.fnBody s__law_book_made, C8.fnScope s__law_book_made, [], []⟩
def fn__law_shown : He5.DefA := ⟨fun K => He.ga K "_law_shown", "_law_shown", "_law_shown", C8.fnArgs s__law_shown, C8.fnBody s__law_shown, C8.fnScope s__law_shown, [], []⟩
def fn__law_fresh : He5.DefA := ⟨fun K => He.ga K "_law_fresh", "_law_fresh", "_law_fresh", C8.fnArgs s__law_fresh, C8.fnBody s__law_fresh, C8.fnScope s__law_fresh, [], []⟩
def fn__law_called : He5.DefA := ⟨fun K => He.ga K "_law_called", "_law_called", "_law_called", C8.fnArgs s__law_called, C8.fnBody s__law_called, C8.fnScope s__law_called, [], []⟩
def fn__law_is_like_its_log : He5.DefA := ⟨fun K => He.ga K "_law_is_like_its_log", "_law_is_like_its_log", "_law_is_like_its_log", C8.fnArgs s__law_is_like_its_log, C8.fnBody s__law_is_like_its_log, C8.fnScope s__law_is_like_its_log, [], []⟩
def fn_law : He5.DefA := ⟨fun K => He.ga K "law", "law", "law", C8.fnArgs s_law, C8.fnBody s_law, C8.fnScope s_law, [], []⟩
def fn_Level___init__ : He5.DefA := ⟨fun K => He.ma K (He.ga K "Level") "__init__", "__init__", "Level.__init__", C8.fnArgs s_Level___init__, C8.fnBody s_Level___init__, C8.fnScope s_Level___init__, [.non], [("takes", .int 0)]⟩
def fn_Level___getitem__ : He5.DefA := ⟨fun K => He.ma K (He.ga K "Level") "__getitem__", "__getitem__", "Level.__getitem__", C8.fnArgs s_Level___getitem__, C8.fnBody s_Level___getitem__, C8.fnScope s_Level___getitem__, [], []⟩
def fn_Book___init__ : He5.DefA := ⟨fun K => He.ma K (He.ga K "Book") "__init__", "__init__", "Book.__init__", C8.fnArgs s_Book___init__, C8.fnBody s_Book___init__, C8.fnScope s_Book___init__, [], []⟩
def fn_Book_of : He5.DefA := ⟨fun K => He5.wf K (He.ga K "Book") "classmethod" "of", "of", "Book.of", C8.fnArgs s_Book_of, C8.fnBody s_Book_of, C8.fnScope s_Book_of, [], []⟩
def fn_Book___eq__ : He5.DefA := ⟨fun K => He.ma K (He.ga K "Book") "__eq__", "__eq__", "Book.__eq__", C8.fnArgs s_Book___eq__, C8.fnBody s_Book___eq__, C8.fnScope s_Book___eq__, [], []⟩
def fn_Queues___init__ : He5.DefA := ⟨fun K => He.ma K (He.ga K "Queues") "__init__", "__init__", "Queues.__init__", C8.fnArgs s_Queues___init__, C8.fnBody s_Queues___init__, C8.fnScope s_Queues___init__, [], []⟩
def fn_Queues_put : He5.DefA := ⟨fun K => He.ma K (He.ga K "Queues") "put", "put", "Queues.put", C8.fnArgs s_Queues_put, C8.fnBody s_Queues_put, C8.fnScope s_Queues_put, [], []⟩
def fn_Queues_pick : He5.DefA := ⟨fun K => He.ma K (He.ga K "Queues") "pick", "pick", "Queues.pick", C8.fnArgs s_Queues_pick, C8.fnBody s_Queues_pick, C8.fnScope s_Queues_pick, [], []⟩
def fn_Queues_best : He5.DefA := ⟨fun K => He5.wf K (He.ga K "Queues") "property" "best", "best", "Queues.best", C8.fnArgs s_Queues_best, C8.fnBody s_Queues_best, C8.fnScope s_Queues_best, [], []⟩
def fn_Queues_tasks : He5.DefA := ⟨fun K => He.ma K (He.ga K "Queues") "tasks", "tasks", "Queues.tasks", C8.fnArgs s_Queues_tasks, C8.fnBody s_Queues_tasks, C8.fnScope s_Queues_tasks, [], []⟩
def fn_Queues_twin : He5.DefA := ⟨fun K => He.ma K (He.ga K "Queues") "twin", "twin", "Queues.twin", C8.fnArgs s_Queues_twin, C8.fnBody s_Queues_twin, C8.fnScope s_Queues_twin, [], []⟩
def fn_Queues___eq__ : He5.DefA := ⟨fun K => He.ma K (He.ga K "Queues") "__eq__", "__eq__", "Queues.__eq__", C8.fnArgs s_Queues___eq__, C8.fnBody s_Queues___eq__, C8.fnScope s_Queues___eq__, [], []⟩
def fn_Course___init__ : He5.DefA := ⟨fun K => He.ma K (He.ga K "Course") "__init__", "__init__", "Course.__init__", C8.fnArgs s_Course___init__, C8.fnBody s_Course___init__, C8.fnScope s_Course___init__, [], []⟩
def fn_Course_twin : He5.DefA := ⟨fun K => He.ma K (He.ga K "Course") "twin", "twin", "Course.twin", C8.fnArgs s_Course_twin, C8.fnBody s_Course_twin, C8.fnScope s_Course_twin, [], []⟩
def fn_Course_enter : He5.DefA := ⟨fun K => He.ma K (He.ga K "Course") "enter", "enter", "Course.enter", C8.fnArgs s_Course_enter, C8.fnBody s_Course_enter, C8.fnScope s_Course_enter, [], []⟩
def fn_Course_come : He5.DefA := ⟨fun K => He.ma K (He.ga K "Course") "come", "come", "Course.come", C8.fnArgs s_Course_come, C8.fnBody s_Course_come, C8.fnScope s_Course_come, [], []⟩
def fn_Course_is_asleep : He5.DefA := ⟨fun K => He.ma K (He.ga K "Course") "is_asleep", "is_asleep", "Course.is_asleep", C8.fnArgs s_Course_is_asleep, C8.fnBody s_Course_is_asleep, C8.fnScope s_Course_is_asleep, [], []⟩
def fn_Course_wake_up : He5.DefA := ⟨fun K => He.ma K (He.ga K "Course") "wake_up", "wake_up", "Course.wake_up", C8.fnArgs s_Course_wake_up, C8.fnBody s_Course_wake_up, C8.fnScope s_Course_wake_up, [], []⟩
def fn_Course_can_come : He5.DefA := ⟨fun K => He.ma K (He.ga K "Course") "can_come", "can_come", "Course.can_come", C8.fnArgs s_Course_can_come, C8.fnBody s_Course_can_come, C8.fnScope s_Course_can_come, [], []⟩
def fn_Course_let_come : He5.DefA := ⟨fun K => He.ma K (He.ga K "Course") "let_come", "let_come", "Course.let_come", C8.fnArgs s_Course_let_come, C8.fnBody s_Course_let_come, C8.fnScope s_Course_let_come, [], []⟩
def fn_Course_taking : He5.DefA := ⟨fun K => He.ma K (He.ga K "Course") "taking", "taking", "Course.taking", C8.fnArgs s_Course_taking, C8.fnBody s_Course_taking, C8.fnScope s_Course_taking, [], []⟩
def fn_Course_is_taken : He5.DefA := ⟨fun K => He.ma K (He.ga K "Course") "is_taken", "is_taken", "Course.is_taken", C8.fnArgs s_Course_is_taken, C8.fnBody s_Course_is_taken, C8.fnScope s_Course_is_taken, [], []⟩
def fn_Course_give_up : He5.DefA := ⟨fun K => He.ma K (He.ga K "Course") "give_up", "give_up", "Course.give_up", C8.fnArgs s_Course_give_up, C8.fnBody s_Course_give_up, C8.fnScope s_Course_give_up, [], []⟩
def fn_Course_next_worker : He5.DefA := ⟨fun K => He.ma K (He.ga K "Course") "next_worker", "next_worker", "Course.next_worker", C8.fnArgs s_Course_next_worker, C8.fnBody s_Course_next_worker, C8.fnScope s_Course_next_worker, [], []⟩
def fn_Course_tick : He5.DefA := ⟨fun K => He.ma K (He.ga K "Course") "tick", "tick", "Course.tick", C8.fnArgs s_Course_tick, C8.fnBody s_Course_tick, C8.fnScope s_Course_tick, [], []⟩
def fn_Course_shown : He5.DefA := ⟨fun K => He.ma K (He.ga K "Course") "shown", "shown", "Course.shown", C8.fnArgs s_Course_shown, C8.fnBody s_Course_shown, C8.fnScope s_Course_shown, [], []⟩
def fn_Course_is_like : He5.DefA := ⟨fun K => He.ma K (He.ga K "Course") "is_like", "is_like", "Course.is_like", C8.fnArgs s_Course_is_like, C8.fnBody s_Course_is_like, C8.fnScope s_Course_is_like, [], []⟩
def fn_Work___init__ : He5.DefA := ⟨fun K => He.ma K (He.ga K "Work") "__init__", "__init__", "Work.__init__", C8.fnArgs s_Work___init__, C8.fnBody s_Work___init__, C8.fnScope s_Work___init__, [], []⟩
def fn_Work_branch : He5.DefA := ⟨fun K => He.ma K (He.ga K "Work") "branch", "branch", "Work.branch", C8.fnArgs s_Work_branch, C8.fnBody s_Work_branch, C8.fnScope s_Work_branch, [], []⟩
def fn_Work_require_room : He5.DefA := ⟨fun K => He.ma K (He.ga K "Work") "require_room", "require_room", "Work.require_room", C8.fnArgs s_Work_require_room, C8.fnBody s_Work_require_room, C8.fnScope s_Work_require_room, [], []⟩
def fn_Work_let_in : He5.DefA := ⟨fun K => He.ma K (He.ga K "Work") "let_in", "let_in", "Work.let_in", C8.fnArgs s_Work_let_in, C8.fnBody s_Work_let_in, C8.fnScope s_Work_let_in, [], []⟩
def fn_Work_rouse : He5.DefA := ⟨fun K => He.ma K (He.ga K "Work") "rouse", "rouse", "Work.rouse", C8.fnArgs s_Work_rouse, C8.fnBody s_Work_rouse, C8.fnScope s_Work_rouse, [], []⟩
def fn_Work_kept : He5.DefA := ⟨fun K => He.ma K (He.ga K "Work") "kept", "kept", "Work.kept", C8.fnArgs s_Work_kept, C8.fnBody s_Work_kept, C8.fnScope s_Work_kept, [], []⟩
def fn_Work_turn : He5.DefA := ⟨fun K => He.ma K (He.ga K "Work") "turn", "turn", "Work.turn", C8.fnArgs s_Work_turn, C8.fnBody s_Work_turn, C8.fnScope s_Work_turn, [], []⟩
def fn_Work_again : He5.DefA := ⟨fun K => He.ma K (He.ga K "Work") "again", "again", "Work.again", C8.fnArgs s_Work_again, C8.fnBody s_Work_again, C8.fnScope s_Work_again, [], []⟩
def fn_Trial___init__ : He5.DefA := ⟨fun K => He.ma K (He.ga K "Trial") "__init__", "__init__", "Trial.__init__", C8.fnArgs s_Trial___init__, C8.fnBody s_Trial___init__, C8.fnScope s_Trial___init__, [], []⟩
def fn_Trial___enter__ : He5.DefA := ⟨fun K => He.ma K (He.ga K "Trial") "__enter__", "__enter__", "Trial.__enter__", C8.fnArgs s_Trial___enter__, C8.fnBody s_Trial___enter__, C8.fnScope s_Trial___enter__, [], []⟩
def fn_Trial___exit__ : He5.DefA := ⟨fun K => He.ma K (He.ga K "Trial") "__exit__", "__exit__", "Trial.__exit__", C8.fnArgs s_Trial___exit__, C8.fnBody s_Trial___exit__, C8.fnScope s_Trial___exit__, [], []⟩
def fn_Processor___init__ : He5.DefA := ⟨fun K => He.ma K (He.ga K "Processor") "__init__", "__init__", "Processor.__init__", C8.fnArgs s_Processor___init__, C8.fnBody s_Processor___init__, C8.fnScope s_Processor___init__, [], []⟩
def fn_Processor_come : He5.DefA := ⟨fun K => He.ma K (He.ga K "Processor") "come", "come", "Processor.come", C8.fnArgs s_Processor_come, C8.fnBody s_Processor_come, C8.fnScope s_Processor_come, [], []⟩
def fn_Processor_wake_up : He5.DefA := ⟨fun K => He.ma K (He.ga K "Processor") "wake_up", "wake_up", "Processor.wake_up", C8.fnArgs s_Processor_wake_up, C8.fnBody s_Processor_wake_up, C8.fnScope s_Processor_wake_up, [], []⟩
def fn_Processor_tick : He5.DefA := ⟨fun K => He.ma K (He.ga K "Processor") "tick", "tick", "Processor.tick", C8.fnArgs s_Processor_tick, C8.fnBody s_Processor_tick, C8.fnScope s_Processor_tick, [], []⟩
def fn_Processor_bell : He5.DefA := ⟨fun K => He.ma K (He.ga K "Processor") "bell", "bell", "Processor.bell", C8.fnArgs s_Processor_bell, C8.fnBody s_Processor_bell, C8.fnScope s_Processor_bell, [], []⟩
def fn_Processor_do : He5.DefA := ⟨fun K => He.ma K (He.ga K "Processor") "do", "do", "Processor.do", C8.fnArgs s_Processor_do, C8.fnBody s_Processor_do, C8.fnScope s_Processor_do, [], []⟩
def fn_Processor_book : He5.DefA := ⟨fun K => He5.wf K (He.ga K "Processor") "property" "book", "book", "Processor.book", C8.fnArgs s_Processor_book, C8.fnBody s_Processor_book, C8.fnScope s_Processor_book, [], []⟩
def fn_Processor_picture : He5.DefA := ⟨fun K => He5.wf K (He.ga K "Processor") "property" "picture", "picture", "Processor.picture", C8.fnArgs s_Processor_picture, C8.fnBody s_Processor_picture, C8.fnScope s_Processor_picture, [], []⟩
def fn_Processor_runner : He5.DefA := ⟨fun K => He5.wf K (He.ga K "Processor") "property" "runner", "runner", "Processor.runner", C8.fnArgs s_Processor_runner, C8.fnBody s_Processor_runner, C8.fnScope s_Processor_runner, [], []⟩
def fn_Processor_next_one : He5.DefA := ⟨fun K => He5.wf K (He.ga K "Processor") "property" "next_one", "next_one", "Processor.next_one", C8.fnArgs s_Processor_next_one, C8.fnBody s_Processor_next_one, C8.fnScope s_Processor_next_one, [], []⟩
def fn_Processor_chart : He5.DefA := ⟨fun K => He5.wf K (He.ga K "Processor") "property" "chart", "chart", "Processor.chart", C8.fnArgs s_Processor_chart, C8.fnBody s_Processor_chart, C8.fnScope s_Processor_chart, [], []⟩
def fn_Processor_done : He5.DefA := ⟨fun K => He5.wf K (He.ga K "Processor") "property" "done", "done", "Processor.done", C8.fnArgs s_Processor_done, C8.fnBody s_Processor_done, C8.fnScope s_Processor_done, [], []⟩
def fn_Processor_log : He5.DefA := ⟨fun K => He5.wf K (He.ga K "Processor") "property" "log", "log", "Processor.log", C8.fnArgs s_Processor_log, C8.fnBody s_Processor_log, C8.fnScope s_Processor_log, [], []⟩
def fn_Processor_queues : He5.DefA := ⟨fun K => He.ma K (He.ga K "Processor") "queues", "queues", "Processor.queues", C8.fnArgs s_Processor_queues, C8.fnBody s_Processor_queues, C8.fnScope s_Processor_queues, [], []⟩
def fn_Processor_undo : He5.DefA := ⟨fun K => He.ma K (He.ga K "Processor") "undo", "undo", "Processor.undo", C8.fnArgs s_Processor_undo, C8.fnBody s_Processor_undo, C8.fnScope s_Processor_undo, [], [("many", .int 1)]⟩
def fn_Processor_redo : He5.DefA := ⟨fun K => He.ma K (He.ga K "Processor") "redo", "redo", "Processor.redo", C8.fnArgs s_Processor_redo, C8.fnBody s_Processor_redo, C8.fnScope s_Processor_redo, [], [("many", .int 1)]⟩
def fn_Processor_trial : He5.DefA := ⟨fun K => He.ma K (He.ga K "Processor") "trial", "trial", "Processor.trial", C8.fnArgs s_Processor_trial, C8.fnBody s_Processor_trial, C8.fnScope s_Processor_trial, [], []⟩
def fn_Processor_during : He5.DefA := ⟨fun K => He.ma K (He.ga K "Processor") "during", "during", "Processor.during", C8.fnArgs s_Processor_during, C8.fnBody s_Processor_during, C8.fnScope s_Processor_during, [], []⟩
def fn_Processor_twin : He5.DefA := ⟨fun K => He.ma K (He.ga K "Processor") "twin", "twin", "Processor.twin", C8.fnArgs s_Processor_twin, C8.fnBody s_Processor_twin, C8.fnScope s_Processor_twin, [], []⟩
def fn_Processor___len__ : He5.DefA := ⟨fun K => He.ma K (He.ga K "Processor") "__len__", "__len__", "Processor.__len__", C8.fnArgs s_Processor___len__, C8.fnBody s_Processor___len__, C8.fnScope s_Processor___len__, [], []⟩
def fn_Processor___eq__ : He5.DefA := ⟨fun K => He.ma K (He.ga K "Processor") "__eq__", "__eq__", "Processor.__eq__", C8.fnArgs s_Processor___eq__, C8.fnBody s_Processor___eq__, C8.fnScope s_Processor___eq__, [], []⟩
def fn_Processor___str__ : He5.DefA := ⟨fun K => He.ma K (He.ga K "Processor") "__str__", "__str__", "Processor.__str__", C8.fnArgs s_Processor___str__, C8.fnBody s_Processor___str__, C8.fnScope s_Processor___str__, [], []⟩
def fn : List He5.DefA := [fn_is_integer, fn_is_below, fn_is_number, fn_is_place, fn_is_rest, fn_is_word, fn_is_level_word, fn_is_pair, fn_is_triple, fn_is_entry, fn_is_level_for, fn_require_book, fn_slice_of, fn_fresh_at, fn_worked_in, fn_moved_in, fn_after_work, fn_entered, fn_is_coming, fn_is_tick, fn_comers_in, fn_is_load, fn_require_load, fn_let_all_come, fn_done_by, fn_chart, fn_pictures, fn_work_of, fn__law_dice, fn__law_roll, fn__law_pick, fn__law_level, fn__law_book, fn__law_level_made, fn__law_book_made, fn__law_shown, fn__law_fresh, fn__law_called, fn__law_is_like_its_log, fn_law, fn_Level___init__, fn_Level___getitem__, fn_Book___init__, fn_Book_of, fn_Book___eq__, fn_Queues___init__, fn_Queues_put, fn_Queues_pick, fn_Queues_best, fn_Queues_tasks, fn_Queues_twin, fn_Queues___eq__, fn_Course___init__, fn_Course_twin, fn_Course_enter, fn_Course_come, fn_Course_is_asleep, fn_Course_wake_up, fn_Course_can_come, fn_Course_let_come, fn_Course_taking, fn_Course_is_taken, fn_Course_give_up, fn_Course_next_worker, fn_Course_tick, fn_Course_shown, fn_Course_is_like, fn_Work___init__, fn_Work_branch, fn_Work_require_room, fn_Work_let_in, fn_Work_rouse, fn_Work_kept, fn_Work_turn, fn_Work_again, fn_Trial___init__, fn_Trial___enter__, fn_Trial___exit__, fn_Processor___init__, fn_Processor_come, fn_Processor_wake_up, fn_Processor_tick, fn_Processor_bell, fn_Processor_do, fn_Processor_book, fn_Processor_picture, fn_Processor_runner, fn_Processor_next_one, fn_Processor_chart, fn_Processor_done, fn_Processor_log, fn_Processor_queues, fn_Processor_undo, fn_Processor_redo, fn_Processor_trial, fn_Processor_during, fn_Processor_twin, fn_Processor___len__, fn_Processor___eq__, fn_Processor___str__]
def fa0 : List He.Fa := [.glo "is_integer", .glo "is_below", .glo "is_number", .glo "is_place", .glo "is_rest", .glo "is_word", .glo "is_level_word", .glo "is_pair", .glo "is_triple", .glo "is_entry", .glo "is_level_for", .glo "require_book", .glo "slice_of", .glo "fresh_at", .glo "worked_in", .glo "moved_in", .glo "after_work", .glo "entered", .glo "is_coming", .glo "is_tick"]
def fa1 : List He.Fa := [.glo "comers_in", .glo "is_load", .glo "require_load", .glo "let_all_come", .glo "done_by", .glo "chart", .glo "pictures", .glo "work_of", .glo "_law_dice", .glo "_law_roll", .glo "_law_pick", .glo "_law_level", .glo "_law_book", .glo "_law_level_made", .glo "_law_book_made", .glo "_law_shown", .glo "_law_fresh", .glo "_law_called", .glo "_law_is_like_its_log", .glo "law"]
def fa2 : List He.Fa := [.glo "Level", .cls "Level", .mkr "Level", .noat "Level" "own_entries", .glo "Book", .cls "Book", .mkr "Book", .noat "Book" "own_levels", .noat "Book" "own_ranks", .glo "Queues", .cls "Queues", .mkr "Queues", .noat "Queues" "own_lists", .meth "Queues" "put", .meth "Queues" "pick", .meth "Queues" "tasks", .meth "Queues" "twin", .glo "Course", .cls "Course", .mkr "Course"]
def fa3 : List He.Fa := [.noat "Course" "own_book", .noat "Course" "own_tasks", .noat "Course" "own_queues", .noat "Course" "own_runner", .meth "Course" "twin", .meth "Course" "enter", .meth "Course" "come", .meth "Course" "is_asleep", .meth "Course" "wake_up", .meth "Course" "can_come", .meth "Course" "let_come", .meth "Course" "taking", .meth "Course" "is_taken", .meth "Course" "give_up", .meth "Course" "next_worker", .meth "Course" "tick", .meth "Course" "shown", .meth "Course" "is_like", .glo "Work", .cls "Work"]
def fa4 : List He.Fa := [.mkr "Work", .noat "Work" "own_course", .noat "Work" "own_waiting", .noat "Work" "own_ticks", .noat "Work" "own_told", .noat "Work" "own_calls", .meth "Work" "branch", .meth "Work" "require_room", .meth "Work" "let_in", .meth "Work" "rouse", .meth "Work" "kept", .meth "Work" "turn", .meth "Work" "again", .glo "Trial", .cls "Trial", .mkr "Trial", .noat "Trial" "own_processor", .noat "Trial" "own_work", .noat "Trial" "own_undone", .glo "Processor"]
def fa5 : List He.Fa := [.cls "Processor", .mkr "Processor", .noat "Processor" "own_work", .noat "Processor" "own_undone", .meth "Processor" "come", .meth "Processor" "wake_up", .meth "Processor" "tick", .meth "Processor" "bell", .meth "Processor" "do", .meth "Processor" "queues", .meth "Processor" "undo", .meth "Processor" "redo", .meth "Processor" "trial", .meth "Processor" "during", .meth "Processor" "twin", .str "BACK" "back", .str "FRONT" "front", .str "KEPT" "kept", .str "NEW" "new", .str "ON" "on"]
def fa6 : List He.Fa := [.str "SLEEP" "sleep", .str "WAY" "way", .str "END" "end", .str "BELL" "bell", .str "TICKS" "ticks", .str "USED" "used", .str "WAKE" "wake", .str "LOST" "lost", .str "TAKES" "takes", .str "COME" "come", .str "ASLEEP" "asleep", .str "READY" "ready", .str "RUNS" "runs", .str "TICK" "tick", .int "MAX_LEVELS" 3, .int "MAX_RANKS" 3, .int "MAX_SLICE" 3, .int "BEYOND" (10 ^ 40), .int "MAX_LOAD" 400, .int "MAX_COMINGS" 20]
def fa7 : List He.Fa := [.int "MAX_TASKS" 60, .glo "WORDS", .glo "LEVEL_WORDS", .glo "MOVING", .glo "ENDED", .free "isinstance", .free "int", .free "bool", .free "str", .free "tuple", .free "len", .free "all", .free "enumerate", .free "list", .free "range", .free "min", .free "max", .free "abs", .free "repr"]
def fa : List He.Fa := fa0 ++ fa1 ++ fa2 ++ fa3 ++ fa4 ++ fa5 ++ fa6 ++ fa7
def xb0 : List (PySem.W.Frag → Bool) := [fun K => spcB K (He.ga K "Level") "__getitem__", fun K => insB K (He.ga K "Level"), fun K => cmB K (He.ga K "Book") "of", fun K => crB K (He.ga K "Book"), fun K => spcB K (He.ga K "Book") "__eq__", fun K => insB K (He.ga K "Book"), fun K => propB K (He.ga K "Queues") "best", fun K => spcB K (He.ga K "Queues") "__eq__", fun K => insB K (He.ga K "Queues"), fun K => spcB K (He.ga K "Trial") "__enter__", fun K => spcB K (He.ga K "Trial") "__exit__", fun K => propB K (He.ga K "Processor") "book", fun K => propB K (He.ga K "Processor") "picture", fun K => propB K (He.ga K "Processor") "runner", fun K => propB K (He.ga K "Processor") "next_one", fun K => propB K (He.ga K "Processor") "chart", fun K => propB K (He.ga K "Processor") "done", fun K => propB K (He.ga K "Processor") "log", fun K => spcB K (He.ga K "Processor") "__len__", fun K => spcB K (He.ga K "Processor") "__eq__"]
def xb1 : List (PySem.W.Frag → Bool) := [fun K => spcB K (He.ga K "Processor") "__str__", fun K => insB K (He.ga K "Processor"), fun K => He.eqO (PySem.W.findIn K (.ref (He.ga K "Processor")) "__ne__") (some (some (.builtin "object.__ne__"))), fun K => He.tupB K "WORDS" [.str "on", .str "sleep", .str "way", .str "end"], fun K => He.tupB K "LEVEL_WORDS" [.str "ticks", .str "used", .str "wake", .str "way", .str "lost", .str "takes"], fun K => He.tupB K "MOVING" [.str "wake", .str "way", .str "lost"], fun K => He.tupB K "ENDED" [.str "ended"]]
def xb : List (PySem.W.Frag → Bool) := xb0 ++ xb1
/-- what the promises lean on -/
structure Says (K : PySem.W.Frag) : Prop where
  d : He5.SaysA fa fn K
  more : xb.all (fun f => f K) = true
  hd : PySem.W.codeHdIn K (He.cT K ("_law_called", none)).1 (He.cT K ("_law_called", none)).2 = true
  out : K.lookup (He.cT K ("_law_called", none)).2 = none
theorem Says.x {K : PySem.W.Frag} (c : Says K) (i : Nat) {f : PySem.W.Frag → Bool} (h : xb[i]? = some f := by rfl) : f K = true := List.all_eq_true.mp c.more f (List.mem_of_getElem? h)
end Tb
set_option Elab.async false
set_option linter.all false
set_option maxRecDepth 100000
set_option maxHeartbeats 0
/-! The head's run with the facts. -/
namespace Tb
open PySem PySem.W PySem.Calls PyProof.Rows
/-- what the facts read: the top's values, the classes' dicts, their methods, all codes -/
def rfV : Value → List Addr
  | .ref a => [a]
  | _ => []
def rfO : Data → Option Addr → List Addr
  | .func fd, _ => rfV fd.code ++ (rfV fd.kwdefaults ++ rfV fd.defaults)
  | .cls cd, _ => [cd.ns]
  | _, _ => []
def rfD : Data → List Addr
  | .dict es _ => es.toList.flatMap fun e => rfV e.val
  | _ => []
def rfP : Data → Option Addr → List Addr
  | .func fd, _ => rfV fd.code ++ (rfV fd.kwdefaults ++ rfV fd.defaults)
  | .fields vs, _ => vs.toList.flatMap rfV
  | _, _ => []
def rfC : Data → List Addr
  | .func fd => rfV fd.code
  | _ => []
def stp (g : Addr → Option Obj) (f : Obj → List Addr) (as : List Addr) : List Addr := as.flatMap fun a => match g a with
  | some o => f o
  | none => []
def adr (g : Addr → Option Obj) : List Addr :=
  (fun l1 => (fun l2 => (fun m => (fun mc => [mainGlobals, cStatics] ++ (l1 ++ (l2 ++ (m ++ (mc ++ stp g (fun o => rfC o.data) mc)))))
    (stp g (fun o => rfP o.data o.dict) m)) (stp g (fun o => rfD o.data) l2)) (stp g (fun o => rfO o.data o.dict) l1)) (stp g (fun o => rfD o.data) [mainGlobals])
def kOf (g : Addr → Option Obj) : Frag := He.frT g (adr g)
def cP (K : Frag) : Addr × Addr := He.cT K ("_law_called", none)
def tabB (g : Addr → Option Obj) (K : Frag) : Bool := codeHdIn K (cP K).1 (cP K).2 && (match g (cP K).2 with
  | some o => He.emptyTab o
  | none => false)
abbrev Al : Type := He.AlD × Bool
def obsB (g : Addr → Option Obj) : Al := (He5.obsA fa fn (kOf g), xb.all (fun f => f (kOf g)) && tabB g (kOf g))
def hk : Hook where
  α := Al
  obs := fun s => obsB s.heap.get?
  val := fun _ => (He5.valA fn, true)
  says := fun _ h => ∃ K : Frag, K.In h ∧ Says K ∧ h.get? (cP K).2 = some { cls := .none, data := .fields #[] }
  of := fun _ s e => by
    have e1 : He5.obsA fa fn (kOf s.heap.get?) = He5.valA fn := congrArg (fun z : Al => z.1) e
    have e2 : (xb.all (fun f => f (kOf s.heap.get?)) && tabB s.heap.get? (kOf s.heap.get?)) = true := congrArg (fun z : Al => z.2) e
    obtain ⟨h1, h2⟩ := He.ba e2
    obtain ⟨h3, h4⟩ := He.ba h2
    cases q : s.heap.get? (cP (kOf s.heap.get?)).2 with
    | none =>
      rw [q] at h4
      cases h4
    | some o =>
      rw [q] at h4
      exact ⟨kOf s.heap.get?, He.frT_in, ⟨e1, h1, h3, He.frT_none q h4⟩, by rw [q, He.emptyTab_eq h4]⟩
  keeps := fun _ _ _ ⟨K, hK, c, t⟩ k => ⟨K, Frag.In.keeps hK k, c, k _ _ t⟩
def ob (s : SharedT) : Al := obsB (HandSHeadRun.getT s)
theorem ob_eq (s : SharedT) : ob s = hk.obs s.abs := by
  have e : HandSHeadRun.getT s = s.abs.heap.get? := funext (HandSHeadRun.getT_eq s)
  show obsB (HandSHeadRun.getT s) = obsB s.abs.heap.get?
  rw [e]
abbrev R : OpenRow := OpenLaw.row PySem.Challenge.rw_twoandabell_k30_whole_histories_of_proce
abbrev qv : Program := view R.prog [101]
def names0 : List PySem.Str := ["_wall", "__name__", "BellError", "InvalidLevel", "InvalidBook", "InvalidQueue", "InvalidLoad", "InvalidOperation", "InvalidNumber", "NothingToUndo", "Stopped", "UnknownName", "TooMany", "MAX_LEVELS", "MAX_RANKS", "MAX_SLICE", "BACK", "FRONT", "KEPT", "NEW"]
def names1 : List PySem.Str := ["ON", "SLEEP", "WAY", "END", "BELL", "WORDS", "TICKS", "USED", "WAKE", "LOST", "TAKES", "COME", "LEVEL_WORDS", "MOVING", "BEYOND", "is_integer", "is_below", "is_number", "is_place", "is_rest"]
def names2 : List PySem.Str := ["is_word", "is_level_word", "is_pair", "is_triple", "is_entry", "text_of", "text_of_books", "Level", "is_level_for", "Book", "require_book", "ASLEEP", "READY", "RUNS", "slice_of", "fresh_at", "worked_in", "moved_in", "after_work", "entered"]
def names3 : List PySem.Str := ["text_of_queues", "Queues", "ENDED", "Course", "MAX_LOAD", "MAX_COMINGS", "MAX_TASKS", "is_coming", "is_tick", "comers_in", "is_load", "require_load", "let_all_come", "done_by", "chart", "pictures", "TICK", "Work", "work_of", "Trial"]
def names4 : List PySem.Str := ["Processor", "_law_dice", "_law_roll", "_law_pick", "_law_level", "_law_book", "_law_level_made", "_law_book_made", "_law_shown", "_law_fresh", "_law_called", "_law_is_like_its_log"]
def names : List PySem.Str := names0 ++ names1 ++ names2 ++ names3 ++ names4
/-- the end of the top's run -/
noncomputable abbrev topEnd (w : World) (os : OsState) : Option SharedT := HandSHeadRun.endF (HandSHeadRun.stepQ (HandSHeadRun.denQ HandSHeadRun.tabQ) R.prog w) 20000 R.prog w os
theorem end_fn (w : World) (os : OsState) : (topEnd w os).map (fun s => fn.all fun d => d.ok (kOf (HandSHeadRun.getT s))) = some true := by
  kernel_rfl
theorem end_seen (w : World) (os : OsState) : (topEnd w os).map (fun s => (HandSHeadRun.looksF R.prog (boot_heap w.params) s.abs, HandSHeadRun.seenQ qv names (importedModules R.prog.main.body) (fun s => xlAt qv [] s && recOk R.toRowW.records s) s.abs)) = some (true, openGood qv names) := by
  kernel_rfl
theorem end_more (w : World) (os : OsState) : (topEnd w os).map (fun s => (fa.all fun f => f.ok (kOf (HandSHeadRun.getT s)), fn.map fun d => He5.fnA (kOf (HandSHeadRun.getT s)) (d.at_ (kOf (HandSHeadRun.getT s))), xb.all (fun f => f (kOf (HandSHeadRun.getT s))) && tabB (HandSHeadRun.getT s) (kOf (HandSHeadRun.getT s)))) = some (true, fn.map He5.DefA.val, true) := by
  kernel_rfl
theorem joined {σ α β γ : Type} {x : Option σ} {l : σ → α} {m : σ → β} {n p q : σ → Bool} {t : σ → γ} {a : α} {b : β} {c : γ} (h1 : x.map q = some true) (h2 : x.map (fun s => (l s, m s)) = some (a, b)) (h3 : x.map (fun s => (p s, t s, n s)) = some (true, c, true)) :
    x.map (fun s => (l s, m s, ((p s && q s, t s), n s))) = some (a, b, ((true, c), true)) := by
  cases x with
  | none => cases h1
  | some s =>
    have e1 : q s = true := Option.some.inj h1
    have e2 : (l s, m s) = (a, b) := Option.some.inj h2
    have e3 : (p s, t s, n s) = (true, c, true) := Option.some.inj h3
    cases e2
    have e4 : p s = true := congrArg Prod.fst e3
    have e5 : t s = c := congrArg (fun z => z.2.1) e3
    have e6 : n s = true := congrArg (fun z => z.2.2) e3
    show some (l s, m s, ((p s && q s, t s), n s)) = _
    rw [e1, e4, e5, e6]
    rfl
theorem run (w : World) : HandSHeadRun.RunEq R qv hk ob 20000 names w := fun os => joined (end_fn w os) (end_seen w os) (end_more w os)
end Tb
set_option Elab.async false
set_option linter.all false
set_option maxRecDepth 100000
set_option maxHeartbeats 4000000
/-! The mirror: what the program computes, in plain Lean. -/
namespace Tb
open PySem

/-! ### books -/
/-- an entry: a level, whether at the front, whether with a new rest -/
structure Ent where
  lv : Nat
  front : Bool
  new : Bool
  deriving DecidableEq, Inhabited
structure Lev where
  ticks : Option Nat
  used : Ent
  wake : Ent
  way : Ent
  lost : Ent
  takes : Nat
  deriving DecidableEq, Inhabited
structure Bk where
  levels : List Lev
  ranks : List Nat
  deriving DecidableEq, Inhabited
structure LevOk (n i : Nat) (l : Lev) : Prop where
  ticks : ∀ t, l.ticks = some t → 1 ≤ t ∧ t ≤ 3
  used : l.used.lv < n
  wake : l.wake.lv < n
  way : l.way.lv < n
  lost : l.lost.lv < n
  lost2 : i ≤ l.lost.lv
  takes : l.takes ≤ i
structure BkOk (b : Bk) : Prop where
  pos : 1 ≤ b.levels.length
  three : b.levels.length ≤ 3
  rpos : 1 ≤ b.ranks.length
  rthree : b.ranks.length ≤ 3
  ranks : ∀ r ∈ b.ranks, r < b.levels.length
  lev : ∀ i l, b.levels[i]? = some l → LevOk b.levels.length i l
def Bk.lev (b : Bk) (i : Nat) : Lev := b.levels.getD i default
theorem BkOk.at {b : Bk} (h : BkOk b) {i : Nat} (hi : i < b.levels.length) : LevOk b.levels.length i (b.lev i) := by
  refine h.lev i _ ?_
  unfold Bk.lev
  rw [List.getD_eq_getElem?_getD, List.getElem?_eq_getElem hi]
  rfl

/-! ### postures, words, calls -/
inductive Md where | asleep | ready | runs
  deriving DecidableEq
def Md.s : Md → Str
  | .asleep => "asleep"
  | .ready => "ready"
  | .runs => "runs"
inductive Post where
  | ended
  | st (m : Md) (lv : Nat) (left : Option Nat)
  deriving DecidableEq
inductive Wd where | on | sleep | way | end_ | bell
  deriving DecidableEq
def Wd.s : Wd → Str
  | .on => "on"
  | .sleep => "sleep"
  | .way => "way"
  | .end_ => "end"
  | .bell => "bell"
inductive Cm where
  | come (r : Nat)
  | wake (t : Nat)
  deriving DecidableEq
inductive Cl where
  | cm (c : Cm)
  | tick (w : Wd)
  deriving DecidableEq
inductive Told where
  | non
  | task (t : Nat)
  | bell
  deriving DecidableEq
def leftD : Option Nat → PyData
  | none => .none
  | some k => .int k
def Post.d : Post → PyData
  | .ended => .tuple [.str "ended"]
  | .st m l k => .tuple [.str m.s, .int l, leftD k]
def Cm.d : Cm → PyData
  | .come r => .tuple [.str "come", .int r]
  | .wake t => .tuple [.str "wake", .int t]
def Cl.d : Cl → PyData
  | .cm c => c.d
  | .tick w => .tuple [.str "tick", .str w.s]
def Told.d : Told → PyData
  | .non => .none
  | .task t => .int t
  | .bell => .str "bell"
abbrev Tk : Type := List Cm × Wd
def Tk.d (t : Tk) : PyData := .tuple [.tuple (t.1.map Cm.d), .str t.2.s]

/-! ### courses -/
structure Crs where
  tasks : List Post
  queues : List (List Nat)
  runner : Option Nat
  deriving DecidableEq
def Crs.new (b : Bk) : Crs := ⟨[], List.replicate b.levels.length [], none⟩
/-- an own state enters by an entry -/
def moved (b : Bk) (e : Ent) (left : Option Nat) : Nat × Option Nat :=
  match (b.lev e.lv).ticks with
  | none => (e.lv, none)
  | some m => if e.new then (e.lv, some m) else match left with
    | none => (e.lv, some m)
    | some k => if k = 0 then (e.lv, some m) else (e.lv, some (min m k))
def putQ (qs : List (List Nat)) (l : Nat) (front : Bool) (t : Nat) : List (List Nat) := qs.modify l fun q => if front then t :: q else q ++ [t]
def bestQ : List (List Nat) → Option Nat
  | [] => none
  | q :: qs => if q = [] then (bestQ qs).map (· + 1) else some 0
/-- a task enters by an entry of its level -/
def Crs.enter (b : Bk) (c : Crs) (t : Nat) (e : Ent) (left : Option Nat) : Crs :=
  { c with tasks := c.tasks.set t (.st .ready (moved b e left).1 (moved b e left).2), queues := putQ c.queues (moved b e left).1 e.front t }
def Crs.come (b : Bk) (c : Crs) (r : Nat) : Crs :=
  { c with tasks := c.tasks ++ [.st .ready (b.ranks.getD r 0) (b.lev (b.ranks.getD r 0)).ticks], queues := putQ c.queues (b.ranks.getD r 0) false c.tasks.length }
def Crs.wake (b : Bk) (c : Crs) (t : Nat) : Crs :=
  match c.tasks[t]? with
  | some (.st _ l k) => c.enter b t (b.lev l).wake k
  | _ => c
def Crs.letCome (b : Bk) (c : Crs) : Cm → Crs
  | .come r => c.come b r
  | .wake t => c.wake b t
def isAsleep (c : Crs) (t : Nat) : Bool := match c.tasks[t]? with
  | some (.st .asleep _ _) => true
  | _ => false
def Crs.taking (b : Bk) (c : Crs) : Nat := match c.runner with
  | none => 0
  | some t => match c.tasks[t]? with
    | some (.st _ l _) => (b.lev l).takes
    | _ => 0
/-- without a word: as in a tick that is no bell -/
def Crs.isTaken (b : Bk) (c : Crs) (bell : Bool) : Bool :=
  if bell then decide (0 < c.taking b) else match bestQ c.queues with
    | none => false
    | some l => decide (l < c.taking b)
def Crs.giveUp (b : Bk) (c : Crs) : Crs := match c.runner with
  | none => c
  | some t => match c.tasks[t]? with
    | some (.st _ l k) => { c with runner := none }.enter b t (b.lev l).lost k
    | _ => { c with runner := none }
def Crs.next (b : Bk) (c : Crs) : Option Nat :=
  if c.runner ≠ none ∧ c.isTaken b false = false then c.runner else match bestQ c.queues with
    | none => none
    | some l => (c.queues.getD l []).head?
/-- what a task is that has worked and does a word; where it enters -/
def afterW (b : Bk) (l : Nat) (left : Option Nat) : Wd → Post × Option Bool
  | .sleep => (.st .asleep l left, none)
  | .on => if left = some 0 then (.st .ready (moved b { (b.lev l).used with new := true } left).1 (moved b { (b.lev l).used with new := true } left).2, some (b.lev l).used.front) else (.st .runs l left, none)
  | _ => (.st .ready (moved b (b.lev l).way left).1 (moved b (b.lev l).way left).2, some (b.lev l).way.front)
def popQ (qs : List (List Nat)) (l : Nat) : List (List Nat) := qs.modify l List.tail
/-- the task that works, once the runner may have been taken away -/
def Crs.pick (c : Crs) : Option Nat × Crs := match c.runner with
  | some t => (some t, { c with runner := none })
  | none => match bestQ c.queues with
    | none => (none, c)
    | some l => ((c.queues.getD l []).head?, { c with queues := popQ c.queues l })
def Crs.work (b : Bk) (c : Crs) (t : Nat) (w : Wd) : Crs :=
  if w = .end_ then { c with tasks := c.tasks.set t .ended } else match c.tasks[t]? with
    | some (.st _ l k) => match afterW b l (k.map (· - 1)) w with
      | (p, some front) => { c with tasks := c.tasks.set t p, queues := match p with
          | .st _ l' _ => putQ c.queues l' front t
          | .ended => c.queues }
      | (p, none) => { c with tasks := c.tasks.set t p, runner := if w = .sleep then none else some t }
    | _ => c
def Crs.tick (b : Bk) (c : Crs) (w : Wd) : Crs × Told :=
  let c1 := if c.isTaken b (w == .bell) then c.giveUp b else c
  if w = .bell then (c1, .bell) else match c1.pick with
    | (none, c2) => (c2, .non)
    | (some t, c2) => (c2.work b t w, .task t)

/-! ### works -/
structure Wk where
  crs : Crs
  waiting : List Cm
  ticks : List Tk
  told : List Told
  calls : List Cl
  deriving DecidableEq
def Wk.new (b : Bk) : Wk := ⟨Crs.new b, [], [], [], []⟩
def Wk.kept (b : Bk) (w : Wk) (c : Cm) : Wk := { w with crs := w.crs.letCome b c, waiting := w.waiting ++ [c], calls := w.calls ++ [.cm c] }
def Wk.turn (b : Bk) (w : Wk) (x : Wd) : Wk := ⟨(w.crs.tick b x).1, [], w.ticks ++ [(w.waiting, x)], w.told ++ [(w.crs.tick b x).2], w.calls ++ [.tick x]⟩
/-- a call that may be done -/
def canDo (b : Bk) (w : Wk) : Cl → Bool
  | .cm (.come r) => decide (r < b.ranks.length) && decide (w.crs.tasks.length < 12)
  | .cm (.wake t) => isAsleep w.crs t
  | .tick _ => true
def Wk.step (b : Bk) (w : Wk) : Cl → Wk
  | .cm c => w.kept b c
  | .tick x => w.turn b x
/-- the work behind a log, if each of its calls could be done -/
def replayF (b : Bk) : Wk → List Cl → Option Wk
  | w, [] => some w
  | w, c :: cs => if canDo b w c then replayF b (w.step b c) cs else none
def replay (b : Bk) (cs : List Cl) : Option Wk := replayF b (Wk.new b) cs
end Tb
set_option Elab.async false
set_option linter.all false
set_option maxRecDepth 100000
set_option maxHeartbeats 4000000
/-! Rules for what the layer has no rule for: len, str, [] and != of instances of own classes. -/
namespace Tb
open PySem PySem.Spec PyProof.Rows L2

/-- a def that keeps a promise and lets nothing out, run at any around over the same frames -/
theorem run_at {X : Cx} {A : Around} {k : Nat} {f : Addr} {fd : FuncData} {ps : List Str} {sp : Sp} {pins : List (Addr × Obj)} {σ : L2.St} {H : Hp} {s : Shared} {Q : VK} {us ds : List Value} {vs dvs : List V} {E' : Value → Shared → Prop}
    (hA : A.frames = X.A.frames) (hr : Room k A) (F : FnOk X.prog X.w X.K X.mg X.base CX0 k f fd ps sp) (hb : Binds X.K fd ps ds) (hd : Vals dvs ds) (I : Inv X pins σ H s) (r : Vals vs us) (h : sp (vs ++ dvs) H Q E0) :
    wpAny (model X.prog X.w) A (call (.ref f) us) (EP X pins σ Q) E' s := by
  have r2 : Vals (vs ++ dvs) (us ++ ds) := r.append hd
  have hl : (us ++ ds).length = ps.length := by rw [← r2.length]; exact F.len _ _ _ _ h
  have e0 : Env0 X.prog X.w X.K X.mg X.base A X.stack s H := by
    have e := I.env0
    exact ⟨by rw [hA]; exact e.frames, e.mod, e.bs, e.bsz, e.funs, e.frf, e.hok, e.bare⟩
  refine wpAny_call (codeAny_mono (F.run A X.stack s H ⟨us, []⟩ (us ++ ds) (vs ++ dvs) Q E0 hr e0 (hb s us I.kIn hl) r2 h) fun r s' hq => ?_)
  cases r with
  | error e => exact False.elim hq
  | ok fl =>
    cases fl with
    | ret u => exact I.after hq
    | next => exact False.elim hq
    | brk => exact False.elim hq
    | cont => exact False.elim hq

/-- a special method of a class: where it stands, its promise -/
structure Spc (P : Program) (w : World) (K : PySem.W.Frag) (mg : Str → Option Value) (base : Heap) (k : Nat) (C : Addr) (m : Str) (sp : Sp) : Prop where
  ex : ∃ (f : Addr) (fd : FuncData) (ps : List Str), PySem.W.findIn K (.ref C) m = some (some (.ref f)) ∧ PySem.W.isFn K (.ref f) = true ∧ PySem.W.fnIn K f = true ∧ FnOk P w K mg base CX0 k f fd ps sp ∧ Binds K fd ps []

section
variable {X : Cx} {k j : Nat} {C : Addr} {sp : Sp}
/-- len(x), by an own __len__ -/
theorem call_lenO (c : Spc X.prog X.w X.K X.mg X.base k C "__len__" sp) (hr : Room j X.A) (hk : k + 1 ≤ j) :
    CallR X (.builtin "len") (fun xs H Q => ∃ a dx fs, xs = [.ref a] ∧ H a = some (.ins C dx fs) ∧ sp [.ref a] H (fun v H' => ∃ n : Int, v = .int n ∧ 0 ≤ n ∧ n < 2 ^ 63 ∧ Q (.int n) H') E0) := by
  intro pins s σ H xs us Q I r h
  obtain ⟨a, dx, fs, rfl, ha, q⟩ := h
  obtain ⟨u, rfl, ru⟩ := vals1 r
  cases ru
  obtain ⟨f, fd, ps, h1, h2, _, F, hb⟩ := c.ex
  obtain ⟨mA, O, _⟩ := ins_get I.hok ha
  obtain ⟨od, J, _⟩ := O.look
  obtain ⟨m, hF⟩ := I.fr
  have hr1 : Room (k + 1) X.A := hr.mono hk
  refine PySem.W.len_K hF I.ok.mod.kin J h1 h2 ?_
  refine wpAny_mono (run_at (A := X.A.in1) (us := [.ref a]) (vs := [.ref a]) (dvs := []) (ds := []) rfl hr1.in1 F hb .nil I (.cons rfl .nil) q) (fun v s' hv => ?_) fun _ _ z => z
  obtain ⟨x, H', I', rx, n, rfl, h0, h63, hq⟩ := hv
  obtain ⟨t, rfl⟩ := rx
  exact ⟨⟨h0, h63⟩, .int n, H', I'.tok _, ⟨_, rfl⟩, hq⟩
/-- str(x), by an own __str__ -/
theorem call_strO (c : Spc X.prog X.w X.K X.mg X.base k C "__str__" sp) (hr : Room j X.A) (hk : k + 2 ≤ j) :
    CallR X (.type "str") (fun xs H Q => ∃ a dx fs, xs = [.ref a] ∧ H a = some (.ins C dx fs) ∧ sp [.ref a] H (fun v H' => ∃ z : Str, v = .str z ∧ Q (.str z) H') E0) := by
  intro pins s σ H xs us Q I r h
  obtain ⟨a, dx, fs, rfl, ha, q⟩ := h
  obtain ⟨u, rfl, ru⟩ := vals1 r
  cases ru
  obtain ⟨f, fd, ps, h1, h2, _, F, hb⟩ := c.ex
  obtain ⟨mA, O, _⟩ := ins_get I.hok ha
  obtain ⟨od, J, _⟩ := O.look
  have hr1 : Room (k + 2) X.A := hr.mono hk
  have hu := hr1.in1.in1.units0
  refine PySem.W.kso_call hu I.kIn J h1 h2 ?_
  refine wpAny_mono (run_at (A := X.A.in1.in1) (us := [.ref a]) (vs := [.ref a]) (dvs := []) (ds := []) rfl hr1.in1.in1 F hb .nil I (.cons rfl .nil) q) (fun v s' hv => ?_) fun _ _ z => z
  obtain ⟨x, H', I', rx, z, rfl, hq⟩ := hv
  obtain ⟨t, rfl⟩ := rx
  exact ⟨.str z, H', I', ⟨_, rfl⟩, hq⟩
/-- x[e], by an own __getitem__ -/
def rIxO (C : Addr) (sp : Sp) : R2 := fun x y H Q => ∃ a dx fs, x = .ref a ∧ H a = some (.ins C dx fs) ∧ sp [.ref a, y] H Q E0
theorem pe_ixO {a b : Expr} {ta tb : TE} {pos : Pos} (c : Spc X.prog X.w X.K X.mg X.base k C "__getitem__" sp) (hr : Room j X.A) (hk : k + 1 ≤ j) (ha : PE X a ta) (hb : PE X b tb)
    (hsl : ∀ o i, subscripted b true o i = PySem.runValue (.builtin "lifetime.subscript" ⟨[o, i], []⟩) := by intro _ _; rfl) : PE X (.Subscript a b pos) (tOp (rIxO C sp) ta tb) := by
  refine ⟨fun pins s σ H Q I h => ?_⟩
  refine Subscript_ (binT ha hb I h fun v u s2 x y H2 I2 rx ry q => ?_)
  obtain ⟨p, dx, fs, rfl, hp, q⟩ := q
  obtain rfl : v = Value.ref p := rx
  obtain ⟨f, fd, ps, h1, h2, h3, F, hbn⟩ := c.ex
  obtain ⟨mA, O, _⟩ := ins_get I2.hok hp
  obtain ⟨od, J, _⟩ := O.look
  obtain ⟨m, hF⟩ := I2.fr
  have hr1 : Room (k + 1) X.A := hr.mono hk
  refine PySem.W.sub_K hF I2.ok.mod.kin J h1 h3 h2 ?_ (hsl _ _)
  exact run_at (A := X.A.in1) (us := [.ref p, u]) (vs := [.ref p, y]) (dvs := []) (ds := []) rfl hr1.in1 F hbn .nil I2 (.cons rfl (.cons ry .nil)) q
end
end Tb
set_option Elab.async false
set_option linter.all false
set_option maxRecDepth 100000
set_option maxHeartbeats 4000000
namespace Tb
open PySem PySem.Spec PyProof.Rows L2

theorem objNe_tree (a b : Value) : Builtin.«object.__ne__» ⟨[a, b], []⟩ = (do
    cRoomFor "comparison" [a, b]
    match ← callSpecialIfBound? a "__eq__" [b] with
    | some .notImplemented | none => ret .notImplemented
    | some r => ret (.bool (!(← truthy r)))) := by kernel_rfl

section
variable {prog : Program} {w : World} {A : Around} {E : Value → Shared → Prop} {s : Shared} {K : PySem.W.Frag} {x C f : Addr} {ox : Obj} {od : Option Obj}
theorem ifBoundB {M : Model} {name : Str} {id B : String} {args : List Value} {Q : Option Value → Shared → Prop} (X : K.In s.heap) (I : PySem.W.InstAt s.heap x ox C od) (hs : PySem.W.findIn K (.ref C) name = some (some (.builtin id))) (S : Slot B name id)
    (h : wpAny M A (call (.builtin id) (.ref x :: args)) (fun v => Q (some v)) E s) : wpAny M A (callSpecialIfBound? (.ref x) name args) Q E s := by
  simp only [callSpecialIfBound?, bindSpecialIfBound?]
  refine wpAny_holding (wpAny_bind (wpAny_bind (wpAny_bind (I.type.here ((PySem.W.looks_findIn X hs).here ?_)))))
  simp only [S.bind]
  refine wpAny_bind (wpAny_askSetting (wpAny_ite ?_))
  have fin : wpAny M A (call (.builtin id) ([.ref x] ++ args) >>= fun v => pure (some v)) Q E s := wpAny_bind (wpAny_mono h (fun v s' h' => wpAny_pure h') fun _ _ h' => h')
  split
  · exact wpAny_bind (wpAny_pure (wpAny_pure fin))
  · exact wpAny_tryCatch (wpAny_bind (wpAny_pure (wpAny_pure fin)))
/-- x != y, x of a class with an own __eq__ and no __ne__, y of the same class -/
theorem ne_K {y : Addr} {oy : Obj} {ody : Option Obj} {Q : Value → Shared → Prop} (hu : A.units + 1 < cLine) (X : K.In s.heap) (I : PySem.W.InstAt s.heap x ox C od) (Iy : PySem.W.InstAt s.heap y oy C ody)
    (hn : PySem.W.findIn K (.ref C) "__ne__" = some (some (.builtin "object.__ne__"))) (he : PySem.W.findIn K (.ref C) "__eq__" = some (some (.ref f))) (hf : PySem.W.isFn K (.ref f) = true) (ho : PySem.W.mroIn K C (.type "object") = some true)
    (h : wpAny (model prog w) A.in1 (call (.ref f) [.ref x, .ref y]) (fun v s' => ∃ b, v = .bool b ∧ Q (.bool (!b)) s') E s) : wpAny (model prog w) A (compareOp .NotEq (.ref x) (.ref y)) Q E s := by
  show wpAny _ _ (richCompare .NotEq (.ref x) (.ref y)) _ _ _
  have sub : PySem.W.Looks (model prog w) s.heap (isInstance (.ref x) (.type "object")) true := I.type.andThen (PySem.W.looks_mroIn X ho)
  have one : wpAny (model prog w) A (tryCompare (.ref x) "__ne__" (.ref y)) (fun r s' => ∃ v, r = some v ∧ Q v s') E s := by
    simp only [tryCompare]
    refine wpAny_bind (ifBoundB (B := "object") X I hn F.slot_object_ne ?_)
    refine wpAny_call (codeAny_call_builtin F.slot_object_ne.plain F.cmpEntry_ne (@PySem.W.check_slot (model prog w) _ _ s "object.__ne__" "object" "__ne__" (.ref x) [.ref y] [] _ F.cmpKind_ne F.cmpSplit_ne sub (F.cmpArgs_ne _ _) ?_))
    show wpAny _ A.in1 (Builtin.«object.__ne__» ⟨[.ref x, .ref y], []⟩) _ _ _
    rw [objNe_tree]
    refine wpAny_bind (wpAny_cRoomFor hu ?_)
    refine wpAny_bind (PySem.W.ifBound_K X I he hf (wpAny_mono h (fun v s' hv => ?_) fun _ _ z => z))
    obtain ⟨b, rfl, hq⟩ := hv
    refine wpAny_bind (wpAny_truthy_bool (wpAny_pure ?_))
    exact wpAny_pure ⟨_, rfl, hq⟩
  unfold richCompare
  simp only [oneThing_ref]
  refine wpAny_holding (wpAny_bind (wpAny_cRoomFor (Nat.lt_of_succ_lt hu) ?_))
  rw [cmpInfo_NotEq]
  dsimp only
  refine wpAny_bind (I.type.here (wpAny_bind (Iy.type.here ?_)))
  rw [show (Value.ref C != Value.ref C) = false from by simp]
  simp only [Bool.false_eq_true, if_false]
  refine wpAny_bind (wpAny_pure ?_)
  simp only [Bool.false_eq_true, if_false]
  refine wpAny_bind (wpAny_mono one (fun r s' z => ?_) fun _ _ e => e)
  obtain ⟨v, rfl, hq⟩ := z
  exact wpAny_pure hq
end
section
variable {X : Cx} {k j : Nat} {C : Addr} {sp : Sp}
/-- x != y by an own __eq__ -/
def rNeO (C : Addr) (sp : Sp) : R2 := fun x y H Q => ∃ a b dx dy fs gs, x = .ref a ∧ y = .ref b ∧ H a = some (.ins C dx fs) ∧ H b = some (.ins C dy gs) ∧ sp [.ref a, .ref b] H (fun v H' => ∃ c : Bool, v = .bl c ∧ Q (.bl (!c)) H') E0
theorem op_neO (c : Spc X.prog X.w X.K X.mg X.base k C "__eq__" sp) (hn : PySem.W.findIn X.K (.ref C) "__ne__" = some (some (.builtin "object.__ne__"))) (ho : PySem.W.mroIn X.K C (.type "object") = some true) (hr : Room j X.A) (hk : k + 1 ≤ j) :
    OpR X (compareOp .NotEq) (rNeO C sp) := by
  intro pins s σ H x y v u Q I rx ry h
  obtain ⟨a, b, dx, dy, fs, gs, rfl, rfl, ha, hb, q⟩ := h
  cases rx
  cases ry
  obtain ⟨f, fd, ps, h1, h2, _, F, hbn⟩ := c.ex
  obtain ⟨mA, O, _⟩ := ins_get I.hok ha
  obtain ⟨od, J, _⟩ := O.look
  obtain ⟨mB, O', _⟩ := ins_get I.hok hb
  obtain ⟨od', J', _⟩ := O'.look
  have hr1 : Room (k + 1) X.A := hr.mono hk
  have hu := hr1.units
  refine ne_K (by omega) I.kIn J J' hn h1 h2 ho ?_
  refine wpAny_mono (run_at (A := X.A.in1) (us := [.ref a, .ref b]) (vs := [.ref a, .ref b]) (dvs := []) (ds := []) rfl hr1.in1 F hbn .nil I (.cons rfl (.cons rfl .nil)) q) (fun v s' hv => ?_) fun _ _ z => z
  obtain ⟨x, H', I', rx, c', rfl, hq⟩ := hv
  cases rx
  exact ⟨c', rfl, .bl (!c'), H', I', rfl, hq⟩
/-- x == y by an own __eq__ -/
def rEqO (C : Addr) (sp : Sp) : R2 := fun x y H Q => ∃ a b dx dy fs gs, x = .ref a ∧ y = .ref b ∧ H a = some (.ins C dx fs) ∧ H b = some (.ins C dy gs) ∧ sp [.ref a, .ref b] H (fun v H' => ∃ c : Bool, v = .bl c ∧ Q (.bl c) H') E0
theorem op_eqO (c : Spc X.prog X.w X.K X.mg X.base k C "__eq__" sp) (hr : Room j X.A) (hk : k ≤ j) : OpR X (compareOp .Eq) (rEqO C sp) := by
  intro pins s σ H x y v u Q I rx ry h
  obtain ⟨a, b, dx, dy, fs, gs, rfl, rfl, ha, hb, q⟩ := h
  cases rx
  cases ry
  obtain ⟨f, fd, ps, h1, h2, _, F, hbn⟩ := c.ex
  obtain ⟨mA, O, _⟩ := ins_get I.hok ha
  obtain ⟨od, J, _⟩ := O.look
  obtain ⟨mB, O', _⟩ := ins_get I.hok hb
  obtain ⟨od', J', _⟩ := O'.look
  obtain ⟨m, hF⟩ := I.fr
  have hr1 : Room k X.A := hr.mono hk
  show wpAny _ _ (richCompare .Eq _ _) _ _ _
  refine PySem.W.cmp_K (op := .Eq) (tb := .ref C) hr1.units0 hF I.ok.mod.kin J J'.type (by simp [PySem.W.notFirst]) h1 h2 ?_
  refine wpAny_mono (run_at (A := X.A) (us := [.ref a, .ref b]) (vs := [.ref a, .ref b]) (dvs := []) (ds := []) rfl hr1 F hbn .nil I (.cons rfl (.cons rfl .nil)) q) (fun v s' hv => ?_) fun _ _ z => z
  obtain ⟨x, H', I', rx, c', rfl, hq⟩ := hv
  cases rx
  exact ⟨.bl c', H', I', rfl, hq⟩
end
end Tb
set_option Elab.async false
set_option linter.all false
set_option maxRecDepth 100000
set_option maxHeartbeats 4000000
namespace Tb
open PySem PySem.Spec PyProof.Rows L2

/-! ### with of an own class, its methods raise nothing -/
/-- the exit's promise at the instance a, then k -/
def xit (spX : Sp) (a : Addr) (k : Hp → Prop) (H : Hp) : Prop := spX [.ref a, .non, .non, .non] H (fun _ H' => k H') E0
def tWith (C : Addr) (i : Nat) (spE spX : Sp) (tc : TE) (tb : TS) : TS := fun D σ H => tc σ H fun x H1 => ∃ a dx fs, x = .ref a ∧ H1 a = some (.ins C dx fs) ∧
  spE [.ref a] H1 (fun v H2 => tb { nx := fun σ' H' => xit spX a (D.nx σ') H', rt := fun v' H' => xit spX a (D.rt v') H', bk := fun σ' H' => xit spX a (D.bk σ') H', ct := fun σ' H' => xit spX a (D.ct σ') H' } (σ.set i (some v)) H2) E0
section
variable {X : Cx} {k j i : Nat} {C : Addr} {spE spX : Sp} {ctx : Expr} {y : Str} {py pos : Pos} {body : List Stmt} {tc : TE} {tb : TS}
theorem ps_with (cE : Spc X.prog X.w X.K X.mg X.base k C "__enter__" spE) (cX : Spc X.prog X.w X.K X.mg X.base k C "__exit__" spX) (hr : Room j X.A) (hk : k ≤ j) (hN : X.N.Nodup) (hi : X.N[i]? = some y) (hx : Loc X.env.scope y)
    (hc : PE X ctx tc) (hb : PSs X.nox body tb) (hf : X.fn y = true ∨ X.env.scope.names.lookup y = some .local := by first | exact .inl rfl | exact .inr rfl) :
    PS X (.With [⟨ctx, some (.Name y py)⟩] body pos) (tWith C i spE spX tc tb) := by
  refine ⟨fun pins s σ H D I h => ?_⟩
  refine PySem.W.kw_execN (thn (hc.run pins s σ H _ I h) fun u s1 ⟨x, H1, I1, rx, a, dx, fs, ex, ha, q⟩ => ?_)
  subst ex
  obtain rfl : u = Value.ref a := rx
  obtain ⟨fe, fde, pse, e1, e2, _, FE, bE⟩ := cE.ex
  obtain ⟨fx, fdx, psx, x1, x2, _, FX, bX⟩ := cX.ex
  obtain ⟨mA, O, _⟩ := ins_get I1.hok ha
  obtain ⟨od, J, _⟩ := O.look
  obtain ⟨m, hF⟩ := I1.fr
  have hr1 : Room k X.A := hr.mono hk
  refine PySem.W.kw_inN hF I1.ok.mod.kin J e1 e2 x1 x2 ?_
  refine thn (run_at (A := X.A) (us := [.ref a]) (vs := [.ref a]) (dvs := []) (ds := []) rfl hr1 FE bE .nil I1 (.cons rfl .nil) q) fun v s2 hv => ?_
  obtain ⟨z, H2, I2, rz, q2⟩ := hv
  refine store_ok I2 hN hi hx rz (fun s3 I3 => ?_) hf
  have hrun := hb.run pins s3 _ H2 _ (I3.wish _) q2
  refine wpAny_mono hrun (fun f s4 h4 => ?_) fun _ _ z => z
  have out : ∀ {σ' : L2.St} {H' : Hp} {kk : Hp → Prop} {fl : Flow}, Inv X pins σ' H' s4 → xit spX a kk H' → (∀ H'' s5, Inv X pins σ' H'' s5 → kk H'' → SP X pins D fl s5) →
      PySem.W.KwOut X.prog X.w X.A X.xe a fx (SP X pins D) fl s4 := fun {σ' H' kk fl} I4 hq hk' => by
    unfold PySem.W.KwOut
    refine thn (run_at (A := X.A) (us := [.ref a, .none, .none, .none]) (vs := [.ref a, .non, .non, .non]) (dvs := []) (ds := []) rfl hr1 FX bX .nil I4 (.cons rfl (.cons rfl (.cons rfl (.cons rfl .nil)))) hq) fun v s5 hv => ?_
    obtain ⟨z, H5, I5, _, q5⟩ := hv
    exact hk' H5 s5 I5 q5
  cases f with
  | next =>
    obtain ⟨σ', H', I', q'⟩ := h4
    exact out I'.unwish q' fun H'' s5 I5 k5 => ⟨σ', H'', I5, k5⟩
  | brk =>
    obtain ⟨σ', H', I', q'⟩ := h4
    exact out I'.unwish q' fun H'' s5 I5 k5 => ⟨σ', H'', I5, k5⟩
  | cont =>
    obtain ⟨σ', H', I', q'⟩ := h4
    exact out I'.unwish q' fun H'' s5 I5 k5 => ⟨σ', H'', I5, k5⟩
  | ret u =>
    obtain ⟨v', σ', H', I', r', q'⟩ := h4
    exact out I'.unwish q' fun H'' s5 I5 k5 => ⟨v', σ', H'', I5, r', k5⟩
end

/-! ### repr of data -/
def rRepr (K : PySem.W.Frag) : List V → Hp → VK → Prop := fun xs H Q => ∃ a d, xs = [.ref a] ∧ Dp K H (.ref a) d ∧ PyData.layable0 d = true ∧ d.showable = true ∧ d.shown.length ≤ sizeLine ∧ Q (.str d.shown) H
section
variable {X : Cx}
theorem call_reprD (hg : X.A.guards = some []) (hu : X.A.units + 66 < cLine) : CallR X (.builtin "repr") (rRepr X.K) := by
  intro pins s σ H xs us Q I r h
  obtain ⟨a, d, rfl, hd, hl, hs, hz, q⟩ := h
  obtain ⟨u, rfl, ru⟩ := vals1 r
  obtain rfl : u = Value.ref a := ru
  obtain ⟨as, rd⟩ := Dp.reads I d _ _ hd rfl
  have hl' : (PyData.canLay0 d && decide (PyData.depth d ≤ 64) && decide (PyData.weight d ≤ 2 ^ 20)) = true := hl
  simp only [Bool.and_eq_true, decide_eq_true_eq] at hl'
  have h64 := hl'.1.2
  refine repr_of_reads' rd hs (PyData.noDict_hsm (PyData.hasDict_of_layable hl)) hg (by omega) (fun _ _ e => e) (fun h' t tk hk => ?_) hz
  exact ⟨.str d.shown, H, I.kept (t' := tk) hk, ⟨_, rfl⟩, q⟩
def CPowW (a n : Int) : Prop := 0 ≤ n ∧ (Builtin.Int.intBits a : Int) * n ≤ 2 ^ 27
theorem op_powW : OpR X (binaryOp .Pow) (rI CPowW fun i j => .int (i ^ j.toNat)) := opI fun _ _ _ _ _ _ _ hc q => pow_int hc.1 hc.2 q
end
end Tb
set_option Elab.async false
set_option linter.all false
set_option maxRecDepth 100000
set_option maxHeartbeats 4000000
namespace Tb
open PySem PySem.Spec PyProof.Rows L2

/-! ### defs that lean on no repr being under way (the around's guards are known to be none) -/
structure FnG (P : Program) (w : World) (K : PySem.W.Frag) (mg : Str → Option Value) (base : Heap) (k : Nat) (f : Addr) (fd : FuncData) (ps : List Str) (sp : Sp) : Prop where
  len : ∀ vs H Q E, sp vs H Q E → vs.length = ps.length
  run : ∀ (A : Around) (outer : List Env) (s : Shared) (H : Hp) (args : Args) (us : List Value) (vs : List V) (Q : VK), A.guards = some [] → Room k A → Env0 P w K mg base A outer s H → BindsTo s fd args (ps.zip us) → Vals vs us → sp vs H Q E0 →
    codeAny (model P w) A (.call (.ref f) args) (fun r s' => ∃ u, r = .ok (.ret u) ∧ CE outer P w H s Q u s') s
section
variable {P : Program} {w : World} {K : PySem.W.Frag} {mg : Str → Option Value} {base : Heap}
theorem FunD.okG {x qual : Str} {params : Arguments} {body : List Stmt} {scope : Scope} {dvs : List V} {kws : List (Str × V)} {f : Addr} {fd : FuncData} {N ps : List Str} {k : Nat} {sp : Sp} (F : FunD K x qual params body scope dvs kws f fd) (S : FnScope N ps scope) (len : ∀ vs H Q E, sp vs H Q E → vs.length = ps.length)
    (hbody : ∀ (cdv : Value) (A : Around) (outer : List Env) (s : Shared) (H : Hp) (vs : List V) (Q : VK), A.guards = some [] → Room k (A.deeper (envOfC qual scope s.heap.objs.size f cdv)) → sp vs H Q E0 →
      ∃ t, PSs (cxOf CX0 P w K mg base N qual scope f cdv A outer s H E0).nox body t ∧ t { nx := fun _ H' => Q .non H', rt := Q } (start N vs) H) : FnG P w K mg base (k + 1) f fd ps sp := by
  obtain ⟨_, _, _, _, _, _, _, cdv, _, _, rfl, lk, hcd, _, _⟩ := F.ex
  refine ⟨len, fun A outer s H args us vs Q hG hr e0 hb r hsp => ?_⟩
  have here : ∀ b o, base.get? b = some o → s.heap.get? b = some o := fun b o e => (e0.bs b o e).1
  have KX := e0.mod.kin.keeps here
  have lim := e0.mod.nolimit.keeps here
  refine codeAny_call_function hr.depth (KX _ _ lk) rfl S.co S.gen rfl (PySem.W.codeRec_of KX hcd) (hb _ _ _ _ (wpAny_newFunctionEnv_cells S.kind (fun y hy => ?_) fun env he s1 x => ?_))
  · rcases S.par y.1 (List.of_mem_zip hy).1 with q | q
    · exact Or.inl q
    · exact Or.inr ⟨q, PySem.W.cellsFrom_some _ _ _ (Or.inl q)⟩
  · cases he
    refine ⟨lim.keeps x.toInCall.keep, codeAny_func ?_⟩
    obtain ⟨t, ht, hq⟩ := hbody cdv A outer s H vs Q hG (hr.deeper _) hsp
    have I0 := inv_start (CX := CX0) (E := E0) (cd := cdv) S hr.hd e0 (len _ _ _ _ hsp) r x
    refine wpAny_mono (ht.run [] s1 (start N vs) H _ (I0.wish _) hq) (fun fl s' hs => ?_) (fun _ _ z => z.elim)
    cases fl with
    | brk => exact hs.elim fun _ h1 => h1.elim fun _ h2 => h2.2.elim
    | cont => exact hs.elim fun _ h1 => h1.elim fun _ h2 => h2.2.elim
    | next =>
      obtain ⟨_, H', J, q⟩ := hs
      exact ⟨.none, rfl, .non, H', J.os, J.bare, J.base, J.hok, rfl, q⟩
    | ret u =>
      obtain ⟨v, _, H', J, rv, q⟩ := hs
      exact ⟨u, rfl, v, H', J.os, J.bare, J.base, J.hok, rv, q⟩
/-- a def that may be called by its name where no repr is under way -/
structure CalG (P : Program) (w : World) (K : PySem.W.Frag) (mg : Str → Option Value) (base : Heap) (k : Nat) (x : Str) (sp : Sp) : Prop where
  ex : ∃ (f : Addr) (fd : FuncData) (ps : List Str), FnG P w K mg base k f fd ps sp ∧ mg x = some (.ref f) ∧ PySem.W.keepIn K (.ref f) = true ∧ Binds K fd ps []
end
section
variable {X : Cx} {k j : Nat} {x : Str} {sp : Sp} {p pos : Pos} {e : Expr} {es : List Expr} {t : TA}
theorem pe_cG (c : CalG X.prog X.w X.K X.mg X.base k x sp) (hG : X.A.guards = some []) (hr : Room j X.A) (hk : k ≤ j) (hg : Gl X x) (ha : PA X (e :: es) t)
    (hdb : (x == ("__debug__" : Str)) = false := by decide) (he : starEach (e :: es) X.env = (false, eval e X.env) :: starEach es X.env := by rfl) (hpl : (backTo pos (starEach es X.env)).any (·.1) = false := by rfl) :
    PE X (.Call (.Name x p) (e :: es) [] pos) (tCall sp [] E0 t) := by
  obtain ⟨f, fd, ps, F, hm, kp, b⟩ := c.ex
  refine ⟨fun pins s σ H Q I h => wpAny_Call_Name_kw (ld_glob I hg hm ?_ hdb)⟩
  refine PySem.W.callWith_K (h₀ := X.base) I.ok.mod.kin kp (thn (ha.run pos pins s σ H _ I h) fun us s1 ⟨vs, H1, I1, r, q⟩ => ⟨I1.kIn, ?_⟩) he hpl
  have q : sp vs H1 Q E0 := by
    have q' : sp (vs ++ []) H1 Q E0 := q
    rw [List.append_nil] at q'
    exact q'
  have hl : (us ++ []).length = ps.length := by
    rw [List.append_nil, ← r.length]
    exact F.len _ _ _ _ q
  have bb := b s1 us I1.kIn hl
  rw [List.append_nil] at bb
  refine wpAny_call (codeAny_mono (F.run X.A X.stack s1 H1 ⟨us, []⟩ us vs Q hG (hr.mono hk) I1.env0 bb r q) fun rr s' hq => ?_)
  obtain ⟨u, rfl, hc⟩ := hq
  exact I1.after hc
end
/-- the call of the law's def, from such a promise; the script is all that is tracked -/
theorem law_callG {P : Program} {w : World} {K : PySem.W.Frag} {mg mb : Str → Option Value} {k : Nat} {fa a : Addr} {fd : FuncData} {x : Str} {sp : Sp} {s₁ : Shared} {vs : List Value} {ns : List Int}
    (KX : K.In s₁.heap) (hns : s₁.heap.Ns mainGlobals mg) (hb : s₁.heap.Ns builtinsNs mb) (hbb : ∀ x : Str, x ≠ "__name__" → mb x = bootBuiltins x) (hlim : s₁.heap.NoLimit) (hg : s₁.gens = #[])
    (ha : s₁.heap.get? a = some { cls := .type "list", data := .seq vs.toArray }) (hi : IntsAre vs ns) (hl : ns.length ≤ sizeLine) (hr : Room k callerA)
    (F : ∀ base : Heap, K.In base → base.Ns mainGlobals mg → FnG P w K mg base k fa fd [x] sp) (hbind : ∀ (s : Shared) (u : Value), BindsTo s fd ⟨[u], []⟩ [(x, u)])
    (hsp : ∀ H : Hp, Only H → SqL K H a (ns.map V.int) → sp [.ref a] H (fun v _ => v = .bl true) E0) :
    codeAny (model P w) callerA (.call (.ref fa) ⟨[.ref a], []⟩) (fun r s' => r = .ok (.ret (.bool true)) ∧ OldK s₁.heap s'.heap ∧ s'.os = s₁.os ∧ AllBare s'.gens) s₁ := by
  let ob : Obj := { cls := .type "list", data := .seq vs.toArray }
  have rv := vals_ints hi
  have lv := hi.length
  -- the abstract heap: the script frozen, or nothing where the script is the module's own
  have pick : ∃ H : Hp, Only H ∧ SqL K H a (ns.map V.int) ∧ HOk P w H s₁.heap ∧ (∀ b u, H b = some u → b = a ∧ K.lookup a = none) := by
    cases hk : K.lookup a with
    | some o =>
      have e := KX a o hk
      rw [ha] at e
      refine ⟨fun _ => none, fun _ => Or.inl rfl, Or.inr ⟨o, vs.toArray, 0, hk, ?_⟩, fun b u z => (nomatch z), fun b u z => (nomatch z)⟩
      cases e
      exact ⟨rfl, rfl, rfl, by rw [List.size_toArray, lv]; exact hl, by simpa using rv⟩
    | none =>
      refine ⟨fun b => if b = a then some (.frz ob (.lst (ns.map V.int))) else none, fun b => ?_, Or.inl (Or.inr ⟨ob, if_pos rfl⟩), fun b u z => ?_, fun b u z => ?_⟩
      · by_cases q : b = a
        · exact Or.inr ⟨_, _, if_pos q⟩
        · exact Or.inl (if_neg q)
      · have z : (if b = a then some (HO.frz ob (.lst (ns.map V.int))) else none) = some u := z
        by_cases q : b = a
        · rw [if_pos q] at z
          cases z
          rw [q]
          exact ⟨ha, by rw [List.length_map]; exact hl, vs, 0, rv, ha⟩
        · rw [if_neg q] at z
          cases z
      · have z : (if b = a then some (HO.frz ob (.lst (ns.map V.int))) else none) = some u := z
        by_cases q : b = a
        · exact ⟨q, rfl⟩
        · rw [if_neg q] at z
          cases z
  obtain ⟨H, hO, hS, hok, hA⟩ := pick
  have free : ∀ {b : Addr} {o : Obj}, s₁.heap.get? b = some o → (∀ q : b = a, o ≠ ob ∨ K.lookup a ≠ none) → H b = none := fun {b o} e n => by
    cases q : H b with
    | none => rfl
    | some u =>
      obtain ⟨e1, e2⟩ := hA b u q
      rcases n e1 with z | z
      · rw [e1, ha] at e
        exact absurd (Option.some.inj e).symm z
      · exact absurd e2 z
  have nsK : ∀ {b : Addr} {m : Str → Option Value}, s₁.heap.Ns b m → (hidT s₁.heap H).Ns b m := fun {b m} ⟨o, es, ep, e, d, r⟩ =>
    ⟨o, es, ep, hidT_get e (free e fun _ => Or.inl fun z => by rw [z] at d; cases d), d, r⟩
  have hKb : K.In (hidT s₁.heap H) := fun b o e => hidT_get (KX b o e) (free (KX b o e) fun q => Or.inr (by rw [← q, e]; simp))
  have hM : Mod K mg (hidT s₁.heap H) := ⟨hKb, nsK hns, ⟨mb, nsK hb, hbb⟩, hlim.elim fun mc h1 => ⟨mc, nsK h1.1, h1.2⟩⟩
  have e0 : Env0 P w K mg (hidT s₁.heap H) callerA [] s₁ H := ⟨rfl, hM, fun _ _ e => of_hidT e, Nat.le_of_eq (hidT_size _ _), trivial, (fun _ z => absurd z List.not_mem_nil), hok, .of_eq hg⟩
  refine codeAny_mono ((F _ hKb (nsK hns)).run callerA [] s₁ H ⟨[.ref a], []⟩ [.ref a] [.ref a] _ rfl hr e0 (hbind s₁ (.ref a)) (.cons rfl .nil) (hsp H hO hS)) fun r s' h => ?_
  obtain ⟨u, rfl, v, H', os, bare, un, hok', rr, q⟩ := h
  have q1 : v = .bl true := q
  subst q1
  have eu : u = Value.bool true := rr
  subst eu
  refine ⟨rfl, OldK.of_keep fun b o e => ?_, os, bare⟩
  cases q : H b with
  | none => exact un.keep b o e q List.not_mem_nil List.not_mem_nil
  | some z =>
    rcases hO b with z1 | ⟨ob', xs, z1⟩
    · rw [q] at z1
      cases z1
    · have h1 := (hok b _ z1).1
      have h2 := (hok' b _ (un.frzs b ob' _ z1)).1
      rw [e] at h1
      cases h1
      exact h2
/-- the law's end -/
theorem walk_ofG {l : PySem.W.OpenLaw} {n k : Nat} {q : Program} {loose : List Str} {XP : (Str → Option Value) → Heap → Prop} {YP : World → Heap → Prop} {d : DefRec} {x : Str}
    (hn : l.most = some n) (hn2 : n ≤ sizeLine) (hdf : d.params.defaults = []) (hr : Room k callerA)
    (F : ∀ (w : World) (mg : Str → Option Value) (fa : Addr) (h : Heap), YP w h → h.Ns mainGlobals mg → mg d.name = some (.ref fa) →
      ∃ (K : PySem.W.Frag) (fd : FuncData) (sp : Sp), K.In h ∧ (∀ (s : Shared) (u : Value), BindsTo s fd ⟨[u], []⟩ [(x, u)]) ∧
        (∀ (H : Hp) (a : Addr) (ns : List Int), ns.length ≤ n → Only H → SqL K H a (ns.map V.int) → sp [.ref a] H (fun v _ => v = .bl true) E0) ∧
        ∀ base : Heap, K.In base → base.Ns mainGlobals mg → FnG l.prog w K mg base k fa fd [x] sp) :
    PySem.W.WalkO q loose XP YP l.row.toRowW d [] (fun f vs => PySem.call f vs) := by
  refine Att.attach_call hn hdf fun w _ s₁ mg _ fa _ _ _ _ a _ ns G Y _ _ _ hm ho hi hlen hg => ?_
  obtain ⟨K, fd, sp, KX, hb, hsp, hF⟩ := F w mg fa _ Y G.T.g hm
  exact law_callG KX G.T.g G.T.b G.T.builtins G.T.nolimit hg ho hi (Nat.le_trans hlen hn2) hr hF hb fun H hO hS => hsp H a ns hlen hO hS
end Tb
set_option Elab.async false
set_option linter.all false
set_option maxRecDepth 100000
set_option maxHeartbeats 4000000
/-! Calls with keywords: a method, a class held by a name with a star; a lambda with one parameter. -/
namespace Tb
open PySem PySem.Spec PyProof.Rows L2

/-! ### a def called with keywords named ks -/
def FnKw (P : Program) (w : World) (K : PySem.W.Frag) (mg : Str → Option Value) (base : Heap) (k : Nat) (f : Addr) (ks : List Str) (sp : List V → List V → Hp → VK → Prop) : Prop :=
  ∀ (A : Around) (outer : List Env) (s : Shared) (H : Hp) (us ws : List Value) (vs zs : List V) (Q : VK), Room k A → Env0 P w K mg base A outer s H → Vals vs us → Vals zs ws → zs.length = ks.length → sp vs zs H Q →
    codeAny (model P w) A (.call (.ref f) ⟨us, ks.zip ws⟩) (CR CX0 outer P w H s Q E0) s
section
variable {P : Program} {w : World} {K : PySem.W.Frag} {mg : Str → Option Value} {base : Heap} {k n : Nat} {f : Addr} {fd : FuncData} {ps ks : List Str} {sp : Sp} {g : List Value → List Value → List Value} {gV : List V → List V → List V}
theorem fnKw_of (F : FnOk P w K mg base CX0 k f fd ps sp) (b : KBn K fd ps n ks g gV) : FnKw P w K mg base k f ks (fun vs zs H Q => vs.length = n ∧ sp (gV vs zs) H Q E0) := by
  intro A outer s H us ws vs zs Q hr e0 r rz hz ⟨hn, h⟩
  have KX : K.In s.heap := e0.mod.kin.keeps fun b o e => (e0.bs b o e).1
  exact F.run A outer s H _ (g us ws) (gV vs zs) Q E0 hr e0 (b.to s us ws KX (r.length.symm.trans hn) (rz.length.symm.trans hz)) (b.rel r rz) h
end
def tMethKw (C : Addr) (m : Str) (ks : List Str) (sp : List V → List V → Hp → VK → Prop) (ta : TE) (tk : TA) : TE := fun σ H Q => ta σ H fun x H1 => ∃ a dx fs, x = .ref a ∧ H1 a = some (.ins C dx fs) ∧ fs.lookup m = none ∧ tk σ H1 fun zs H2 => zs.length = ks.length ∧ sp [.ref a] zs H2 Q
section
variable {X : Cx} {k : Nat} {C f : Addr} {m x : Str} {ks : List Str} {sp : List V → List V → Hp → VK → Prop} {o e : Expr} {kws : List Keyword} {ta te : TE} {tk : TA} {pos apos p sp_ : Pos} {pl : Sem Bool}
theorem run_kw {pins : List (Addr × Obj)} {σ : L2.St} {H : Hp} {s : Shared} {us ws : List Value} {vs zs : List V} {Q : VK} {A : Around} (F : FnKw X.prog X.w X.K X.mg X.base k f ks sp) (hA : A.frames = X.A.frames) (hr : Room k A) (I : Inv X pins σ H s) (r : Vals vs us) (rz : Vals zs ws) (hz : zs.length = ks.length) (h : sp vs zs H Q) :
    codeAny (model X.prog X.w) A (.call (.ref f) ⟨us, ks.zip ws⟩) (fun r s' => ∃ u, r = .ok (.ret u) ∧ EP X pins σ Q u s') s := by
  have e0 : Env0 X.prog X.w X.K X.mg X.base A X.stack s H := by
    have e := I.env0
    exact ⟨by rw [hA]; exact e.frames, e.mod, e.bs, e.bsz, e.funs, e.frf, e.hok, e.bare⟩
  refine codeAny_mono (F A X.stack s H us ws vs zs Q hr e0 r rz hz h) fun r s' hq => ?_
  cases r with
  | error e => exact False.elim hq
  | ok fl =>
    cases fl with
    | ret u => exact ⟨u, rfl, I.after hq⟩
    | next => exact False.elim hq
    | brk => exact False.elim hq
    | cont => exact False.elim hq
theorem pe_methKw (he : PE X o ta) (c : Cls X.K C) (hm : Meth X.K C m f) (F : FnKw X.prog X.w X.K X.mg X.base k f ks sp) (hr : Room k X.A) (hkw : PK X kws tk)
    (hall : (backToKw pos (keywordEach kws X.env)).all (·.1.isSome) = true := by rfl) (hks : (backToKw pos (keywordEach kws X.env)).filterMap (·.1) = ks := by rfl)
    (hpl : ((backTo pos (starEach [] X.env)).any (·.1) || (backToKw pos (keywordEach kws X.env)).any (·.1.isNone)) = false := by rfl)
    (ht : eval (.Call (.Attribute o m apos) [] kws pos) X.env = (do
      let ov ← eval o X.env
      standAt apos.atName
      let (f, first) ← holding [ov] (getMethod ov m pl)
      callWith pos f first (backTo pos (starEach [] X.env)) (backToKw pos (keywordEach kws X.env))) := by rfl) :
    PE X (.Call (.Attribute o m apos) [] kws pos) (tMethKw C m ks sp ta tk) := by
  refine ⟨fun pins s σ H Q I h => ?_⟩
  refine PySem.W.methodCall_KW (pl := pl) (thn (he.run pins s σ H _ I h) fun u s1 ⟨x, H1, I1, rx, a, dx, fs, ex, ea, l, q⟩ => ?_) ht
  subst ex
  obtain rfl : u = Value.ref a := rx
  refine getmeth_ok I1 ea c hm l ?_
  refine PySem.W.callWith_KW0 (h₀ := X.base) (first := [.ref a]) I1.ok.mod.kin hm.kp hall ?_ hpl
  refine thn (hkw.run pos pins s1 σ H1 _ I1 q) fun ws s2 ⟨zs, H2, I2, rz, hz, q2⟩ => ⟨I2.kIn, ?_⟩
  rw [hks]
  refine wpAny_call (codeAny_mono (run_kw (us := [.ref a]) (vs := [.ref a]) F rfl hr I2 (.cons rfl .nil) rz hz q2) fun r s' ⟨u, er, hc⟩ => ?_)
  subst er
  exact hc
end

/-! ### a def with a star parameter and one keyword-only parameter behind it -/
theorem fnKw_star {P : Program} {w : World} {K : PySem.W.Frag} {mg : Str → Option Value} {base : Heap} {k : Nat} {f : Addr} {fd : FuncData} {x qual : Str} {params : Arguments} {body : List Stmt} {scope : Scope} {kws : List (Str × V)} {N : List Str} {p1 pv pk : Str} {sp : Sp}
    (F : FunD K x qual params body scope [] kws f fd) (S : FnScope N [p1, pk, pv] scope)
    (hb : ∀ (kV doc pm : Value) (an : Option Addr) (cdv ct : Value) (u : Value) (rest : List Value) (r : Value), bindArgs (PySem.W.fnOf x qual params body scope Value.none kV doc pm an cdv ct) ⟨u :: rest, [(pk, r)]⟩ = (newTuple rest >>= fun t => pure [(p1, u), (pk, r), (pv, t)]))
    (hbody : ∀ (cdv : Value) (A : Around) (outer : List Env) (s : Shared) (H : Hp) (vs : List V) (Q : VK), Room k (A.deeper (envOfC qual scope s.heap.objs.size f cdv)) → sp vs H Q E0 →
      ∃ t, PSs (cxOf CX0 P w K mg base N qual scope f cdv A outer s H E0) body t ∧ t { nx := fun _ H' => Q .non H', rt := Q } (start N vs) H) :
    FnKw P w K mg base (k + 1) f [pk] (fun vs zs H Q => ∃ v rest z, vs = v :: rest ∧ zs = [z] ∧ rest.length ≤ sizeLine ∧ ∀ p, H p = none → sp [v, z, .ref p] (upd H p (.tup rest)) Q E0) := by
  obtain ⟨oc, od, dV, kV, doc, pm, an, cdv, ct, osl, rfl, lk, hcd, hdfl, _⟩ := F.ex
  obtain rfl : dV = Value.none := by
    rcases hdfl with ⟨_, h⟩ | ⟨h, _⟩
    · exact h
    · exact absurd rfl h
  intro A outer s H us ws vs zs Q hr e0 r rz hz ⟨v, rest, z, ev, ez, hle, h⟩
  subst ev ez
  cases r with
  | cons rv rr =>
    rename_i u ur
    obtain ⟨wz, ewz, rwz⟩ := vals1 rz
    subst ewz
    have hl2 : ur.length ≤ sizeLine := by rw [← rr.length]; exact hle
    have hn : H s.heap.objs.size = Option.none := e0.hok.fresh (Nat.le_refl _)
    refine StX.run_bnd lk hcd S hr e0 (G := fun xs H2 => ∃ p, H p = none ∧ xs = [v, z, V.ref p] ∧ H2 = upd H p (.tup rest)) (fun A' Ex Q' hq => ?_) fun s2 H2 xs ⟨p, hp, ex, eH⟩ hr' => ?_
    · show wpAny _ _ (bindArgs _ ⟨u :: ur, [(pk, wz)]⟩) _ _ _
      rw [hb]
      refine wpAny_bind (wpAny_newTuple (wpAny_pure ?_) hl2)
      have new : ObjOk P w (upd H s.heap.objs.size (.tup rest)) (s.heap.push ({ cls := .type "tuple", data := .seq ur.toArray } : Obj)) s.heap.objs.size (.tup rest) := ⟨hle, ur, rr, ⟨_, Heap.get?_push_size _ rfl, rfl, _, rfl⟩⟩
      have un := StX.un_laid (fs := frs outer) (s := s) (o := ({ cls := .type "tuple", data := .seq ur.toArray } : Obj)) (u := .tup rest) hn
      exact hq _ _ [v, z, V.ref s.heap.objs.size] [u, wz, Value.ref s.heap.objs.size] (StX.env0_laid e0 new) un rfl (fun e s' z => z) (.cons rv (.cons rwz (.cons rfl .nil))) rfl ⟨_, hn, rfl, rfl⟩
    · subst ex eH
      exact hbody cdv A outer s2 _ _ Q hr' (h p hp)

/-! ### c(*y, k = z), the class at C held by the i-th name -/
section
variable {M : Model} {A : Around} {E : Value → Shared → Prop} {s : Shared}
theorem loneKw {f : Value} {x : Sem Value} {pos : Pos} {kws : List (Option Str × Sem Value)} {Q : Args → Shared → Prop} (hall : kws.all (·.1.isSome) = true)
    (h : wpAny M A x (fun v s₁ => wpAny M A (evalAll (kws.map (·.2))) (fun ks s₂ => PySem.W.StarOf M A E v (fun vs s₃ => Q ⟨vs, (kws.filterMap (·.1)).zip ks⟩ s₃) s₂) E s₁) E s) :
    wpAny M A (evalArgs f true [(true, (do let v ← x; standAt pos; pure v))] kws) Q E s := by
  unfold evalArgs
  refine wpAny_bind (wpAny_bind (wpAny_mono h (fun v s₁ h₁ => wpAny_bind (wpAny_standAt (wpAny_pure ?_))) fun _ _ x => x))
  refine wpAny_bind (wpAny_pure ?_)
  refine wpAny_holding ?_
  dsimp only
  rw [if_pos hall]
  refine wpAny_bind (wpAny_mono h₁ (fun ks s₂ h₂ => ?_) fun _ _ x => x)
  unfold PySem.W.StarOf at h₂
  refine wpAny_bind (wpAny_bind (wpAny_mono h₂ (fun b s₃ h₃ => ?_) fun _ _ x => x))
  obtain ⟨rfl, h₃⟩ := h₃
  exact wpAny_holding (wpAny_mono h₃ (fun vs s₃ h₃ => wpAny_pure h₃) fun _ _ x => x)
end
end Tb
namespace Tb
open PySem PySem.Spec PyProof.Rows L2
section
variable {M : Model} {A : Around} {E : Value → Shared → Prop} {s : Shared} {K : PySem.W.Frag} {env : Env}
theorem callWith_SK {pos p : Pos} {f : Value} {first : List Value} {e : Expr} {kws : List Keyword} {Q : Value → Shared → Prop} (hk : PySem.W.keepIn K f = true) (hall : (backToKw pos (keywordEach kws env)).all (·.1.isSome) = true)
    (h : wpAny M A (eval e env) (fun v s₁ => wpAny M A (evalAll ((backToKw pos (keywordEach kws env)).map (·.2))) (fun ks s₂ => PySem.W.StarOf M A E v
      (fun vs s₃ => K.In s₃.heap ∧ wpAny M A (call f (first ++ vs) (((backToKw pos (keywordEach kws env)).filterMap (·.1)).zip ks)) Q E s₃) s₂) E s₁) E s)
    (he : starEach [.Starred e p] env = [(true, eval e env)] := by rfl) : wpAny M A (callWith pos f first (backTo pos (starEach [.Starred e p] env)) (backToKw pos (keywordEach kws env))) Q E s := by
  rw [he]
  unfold callWith
  refine wpAny_bind (wpAny_holding (wpAny_mono (loneKw (Q := fun a s₁ => K.In s₁.heap ∧ wpAny M A (call f (first ++ a.pos) a.kw) Q E s₁) hall h) (fun a s₁ h₁ => wpAny_bind (wpAny_standAt ?_)) fun _ _ x => x))
  obtain ⟨k, hk', L⟩ := PySem.W.keeps_K (M := M) hk _ h₁.1
  have hst : (backTo pos [(true, eval e env)]).any (·.1) = true := rfl
  simp only [hst, Bool.true_or]
  refine wpAny_bind (L.here ?_)
  have tail : ∀ {t : Sem Value}, wpAny M A t Q E s₁ → wpAny M A (t >>= fun r => holding [r] point >>= fun _ => pure r) Q E s₁ :=
    fun ht => wpAny_bind (wpAny_mono ht (fun r s₂ hr => wpAny_bind (wpAny_holding (wpAny_point (wpAny_pure hr)))) fun _ _ x => x)
  have marked (mk : Value) : wpAny M A (callMarked mk f (first ++ a.pos) a.kw) Q E s₁ := by unfold callMarked; exact Calls.wpAny_keep h₁.2
  rcases hk' with rfl | rfl | rfl <;> dsimp only <;> first | exact tail (marked _) | exact tail (PySem.wpAny_operating h₁.2) | exact tail (PySem.Calls.wpAny_operating h₁.2) | exact tail (PyProof.Rows.wpAny_operating h₁.2)
end
/-- c(*y, k = z): a new instance, then __init__ -/
def tMakeSK (K : PySem.W.Frag) (i : Nat) (C : Addr) (sp : List V → List V → Hp → VK → Prop) (te : TE) (tk : TA) : TE := fun σ H Q => σ[i]? = some (some (.ref C)) ∧ te σ H fun y H1 => tk σ H1 fun zs H2 => ∃ a xs, y = .ref a ∧ zs.length = 1 ∧ (SqT K H2 a xs ∨ SqL K H2 a xs) ∧
  ∀ x dx, H2 x = none → H2 dx = none → dx ≠ x → sp (.ref x :: xs) zs (upd (upd H2 dx (.own x)) x (.ins C dx [])) (fun v H3 => v = .non ∧ Q (.ref x) H3)
section
variable {X : Cx} {k i : Nat} {C f : Addr} {x pk : Str} {sp : List V → List V → Hp → VK → Prop} {e : Expr} {kws : List Keyword} {te : TE} {tk : TA} {pos p sp_ : Pos}
theorem run_makeKw {pins : List (Addr × Obj)} {σ : L2.St} {H : Hp} {s : Shared} {Q : VK} {us ws : List Value} {vs zs : List V} {ks : List Str} (M : Mk X.K C f) (F : FnKw X.prog X.w X.K X.mg X.base k f ks sp) (hr : Room (k + 1) X.A) (I : Inv X pins σ H s) (r : Vals vs us) (rz : Vals zs ws) (hz : zs.length = ks.length)
    (h : ∀ x dx, H x = none → H dx = none → dx ≠ x → sp (.ref x :: vs) zs (upd (upd H dx (.own x)) x (.ins C dx [])) (fun v H2 => v = .non ∧ Q (.ref x) H2)) :
    wpAny (model X.prog X.w) X.A (call (.ref C) us (ks.zip ws)) (EP X pins σ Q) X.xe s := by
  have hq := h (s.heap.objs.size + 1) s.heap.objs.size (I.hok.fresh (Nat.le_succ _)) (I.hok.fresh (Nat.le_refl _)) (Nat.ne_of_lt (Nat.lt_succ_self _))
  have I2 := Inv.made (C := C) I
  have r1 : Vals (V.ref (s.heap.objs.size + 1) :: vs) (Value.ref (s.heap.objs.size + 1) :: us) := .cons rfl r
  refine wpAny_call (make_map (f := f) I.kIn M.makes M.init (beq_iff_eq.mp M.fn) (codeAny_mono (F _ X.stack _ _ (Value.ref (s.heap.objs.size + 1) :: us) ws _ zs _ (hr.make C us (ks.zip ws)) (I2.env0.make C us (ks.zip ws)) r1 rz hz hq) fun r s' hq' => ?_))
  cases r with
  | error e => exact False.elim hq'
  | ok fl =>
    cases fl with
    | ret u =>
      obtain ⟨v, H', I3, rv, ev, q3⟩ := I2.after hq'
      subst ev
      exact ⟨rv, ⟨V.ref (s.heap.objs.size + 1), H', I3, rfl, q3⟩⟩
    | next => exact False.elim hq'
    | brk => exact False.elim hq'
    | cont => exact False.elim hq'
theorem pe_makeSK (M : Mk X.K C f) (F : FnKw X.prog X.w X.K X.mg X.base k f [pk] sp) (hr : Room (k + 1) X.A) (hN : X.N[i]? = some x) (hv : Vis X.env.scope x) (he : PE X e te) (hkw : PK X kws tk)
    (hall : (backToKw pos (keywordEach kws X.env)).all (·.1.isSome) = true := by rfl) (hks : (backToKw pos (keywordEach kws X.env)).filterMap (·.1) = [pk] := by rfl) (hdb : (x == ("__debug__" : Str)) = false := by decide) (hcd : (x == ("__classdict__" : Str)) = false := by decide)
    (hst : starEach [.Starred e sp_] X.env = [(true, eval e X.env)] := by rfl) : PE X (.Call (.Name x p) [.Starred e sp_] kws pos) (tMakeSK X.K i C sp te tk) := by
  refine ⟨fun pins s σ H Q I h => ?_⟩
  obtain ⟨hs, h⟩ := h
  refine wpAny_Call_Name_kw (thn ((pe_var (pos := p) (i := i) hN hv hdb hcd).run pins s σ H (fun v H1 => v = .ref C ∧ H1 = H) I ⟨.ref C, hs, rfl, rfl⟩) fun u s1 ⟨v, H1, I1, r1, ev, eH⟩ => ?_)
  subst ev
  rw [eH] at I1
  obtain rfl : u = Value.ref C := r1
  refine callWith_SK (first := []) M.kp hall (thn (he.run pins s1 σ H _ I1 h) fun v s2 ⟨y, H2, I2, ry, q2⟩ => thn (hkw.run pos pins s2 σ H2 _ I2 q2) fun ws s3 ⟨zs, H3, I3, rz, a, xs, ey, hz, hxs, q3⟩ => ?_) hst
  subst ey
  obtain rfl : v = Value.ref a := ry
  refine StX.star_any I3 hxs fun us s4 I4 rv => ⟨I4.kIn, ?_⟩
  rw [hks]
  exact run_makeKw M F hr I4 rv rz hz q3
end
end Tb
set_option Elab.async false
set_option linter.all false
set_option maxRecDepth 100000
set_option maxHeartbeats 4000000
/-! A lambda with parameters, handed to a def and called there. -/
namespace Tb
open PySem PySem.Spec PyProof.Rows L2 LamX NdefX

/-- the object at f is the lambda whose words are F and whose body is e -/
def LamO (f : Addr) (F : NF) (e : Expr) : HO := .ext fun h => ∃ pm ctv : Value, h.get? f = some (PySem.W.kla_obj "<lambda>" F.qual F.params e F.scope F.cl pm F.c ctv)
theorem lamO_ne {f : Addr} {F : NF} {e : Expr} (ps : Array Value) : LamO f F e ≠ .tbl ps := fun z => by
  unfold LamO at z
  cases z
theorem lamO_at {P : Program} {w : World} {H : Hp} {h : Heap} {f : Addr} {F : NF} {e : Expr} (hok : HOk P w H h) (z : H f = some (LamO f F e)) : ∃ pm ctv : Value, h.get? f = some (PySem.W.kla_obj "<lambda>" F.qual F.params e F.scope F.cl pm F.c ctv) := by
  obtain ⟨z, _, _⟩ := hok f _ z
  exact z
abbrev lamF (X : Cx) (params : Arguments) (scope : Scope) (c' : Addr) : NF := ⟨"<lambda>", X.env.qual ++ "<lambda>", params, [], scope, cloFrom X.env.cells scope.names [], c'⟩
section
variable {X : Cx} {pins : List (Addr × Obj)} {σ : L2.St} {H : Hp} {s : Shared}
theorem inv_lam {F : NF} {e : Expr} {t' : Nat} {pm ctv : Value} (I : Inv X pins σ H s) :
    Inv X pins σ (upd H s.heap.objs.size (LamO s.heap.objs.size F e)) { s with heap := s.heap.push (PySem.W.kla_obj "<lambda>" F.qual F.params e F.scope F.cl pm F.c ctv), toks := t' } := by
  refine I.laid (a := s.heap.objs.size) (fun b u z => Heap.get?_push_of_some _ z) (Nat.le_refl _) ?_
  have z : (s.heap.push (PySem.W.kla_obj "<lambda>" F.qual F.params e F.scope F.cl pm F.c ctv)).get? s.heap.objs.size = some (PySem.W.kla_obj "<lambda>" F.qual F.params e F.scope F.cl pm F.c ctv) := Heap.get?_push_size _ rfl
  exact ⟨⟨pm, ctv, z⟩, ⟨_, z⟩, fun h1 h2 ⟨p, t, q⟩ st => ⟨p, t, st _ q⟩⟩
theorem lam_make3 {T : List (Addr × Str)} {c P : Addr} {params : Arguments} {body : Expr} {scope : Scope} {pos : Pos} {E : Value → Shared → Prop} {Q : Value → Shared → Prop} (I : Inv X pins σ H s) (TB : TabB X.base X.mg c P) (hcode : X.env.code = .ref c)
    (hm : (P, X.env.qual ++ "<lambda>") ∈ T) (hu : ∀ p ∈ T, p.1 = P → p.2 = X.env.qual ++ "<lambda>") (hT : Tabs T H) (hdef : defaultsOf params X.env = ([], [])) (hfree : ∀ y ∈ scope.names, y.2 = .free → ∃ c, X.env.cells.lookup y.1 = some c)
    (h : ∀ (f c' : Addr) (H1 : Hp) (s' : Shared), Inv X pins σ H1 s' → (∀ b o, b ≠ P → H b = some o → H1 b = some o) → Tabs T H1 → H f = none → H1 f = some (LamO f (lamF X params scope c') body) → H1 c' = some (CodeO c' (X.env.qual ++ "<lambda>")) → Q (.ref f) s') :
    wpAny (model X.prog X.w) X.A (eval (.Lambda params body scope pos) X.env) Q E s := by
  obtain ⟨ps, hP, ht, ha⟩ := hT _ hm
  refine PySem.W.kla_eval hdef ?_
  have bP : s.heap.BuiltinsAt X.mg P := TB.bm.keeps I.bk
  have hP' : s.heap.get? P = some { cls := .none, data := .fields ps } := I.hok P _ hP
  cases hc : codeAmong pos ps.toList with
  | none =>
    refine PySem.W.kla_makeFunction (mg := X.mg) (c := c) (P := P) (ps := ps) (closure_ok hfree) I.ok.glob (I.mod.glob.keeps I.bk) hcode (TB.code.keeps I.bk) hP' ht hc TB.gP bP fun c' ctv h' tk hx hge hlt hrec htb => ?_
    obtain ⟨c2, oc, vs, t, e2, hoc, hd, hv⟩ := hrec
    cases e2
    have nC : H c' = none := I.hok.fresh hge
    have I1 := inv_table (t' := tk) (more := #[rawInt pos.line, rawInt pos.col, .ref c']) (h' := h') I hP (fun b o hb e => hx b o hb e) htb hge ⟨oc, vs, t, hoc, hd, hv⟩
    have hE : ExtN H (upd (upd H P (.tbl (ps ++ #[rawInt pos.line, rawInt pos.col, .ref c']))) c' (CodeO c' (X.env.qual ++ "<lambda>"))) := fun b o e n => by
      rw [upd_ne (ne_of_none e nC), upd_ne (fun z => n ps (Option.some.inj (e.symm.trans (by rw [z]; exact hP))))]
      exact e
    have eL : (ps ++ #[rawInt pos.line, rawInt pos.col, .ref c']).toList = ps.toList ++ [rawInt pos.line, rawInt pos.col, .ref c'] := by simp
    have T1 : Tabs T (upd (upd H P (.tbl (ps ++ #[rawInt pos.line, rawInt pos.col, .ref c']))) c' (CodeO c' (X.env.qual ++ "<lambda>"))) := fun p hp => by
      by_cases hb : p.1 = P
      · rw [hu p hp hb, hb]
        refine ⟨_, by rw [upd_ne (ne_of_none hP nC), upd_same], by rw [eL]; exact PySem.TriplesOk_snoc _ _ _ _ ht, fun p' cv hcv => ?_⟩
        rw [eL] at hcv
        rcases among_app _ ht hcv with z | z
        · obtain ⟨c0, e1, e2⟩ := ha p' cv z
          exact ⟨c0, e1, hE _ _ e2 codeO_ne⟩
        · exact ⟨c', z, upd_same⟩
      · obtain ⟨ps', a1, a2, a3⟩ := hT p hp
        refine ⟨ps', by rw [upd_ne (ne_of_none a1 nC), upd_ne hb]; exact a1, a2, fun p' cv hcv => ?_⟩
        obtain ⟨c0, e1, e2⟩ := a3 p' cv hcv
        exact ⟨c0, e1, hE _ _ e2 codeO_ne⟩
    have hE' : ∀ b o, b ≠ P → H b = some o → upd (upd H P (.tbl (ps ++ #[rawInt pos.line, rawInt pos.col, .ref c']))) c' (CodeO c' (X.env.qual ++ "<lambda>")) b = some o := fun b o n e => by
      rw [upd_ne (ne_of_none e nC), upd_ne n]
      exact e
    have nF := I1.hok.fresh (Nat.le_refl _)
    have I2 := inv_lam (F := lamF X params scope c') (e := body) (t' := tk) (pm := (X.mg "__name__").getD .none) (ctv := ctv) I1
    refine h h'.objs.size c' _ _ I2 (fun b o n e => ?_) (T1.ext fun b o e => ?_) (I.hok.fresh (Nat.le_trans hge (Nat.le_of_lt hlt))) upd_same ?_
    · exact (upd_ne (ne_of_none (hE' b o n e) nF)).trans (hE' b o n e)
    · exact (upd_ne (ne_of_none e nF)).trans e
    · exact (upd_ne (Nat.ne_of_lt hlt)).trans upd_same
  | some cv =>
    obtain ⟨c', e, hco⟩ := ha pos cv hc
    subst e
    refine PySem.W.kla_makeFunctionHit (mg := X.mg) (c := c) (P := P) (ps := ps) (closure_ok hfree) I.ok.glob (I.mod.glob.keeps I.bk) hcode (TB.code.keeps I.bk) hP' ht hc bP fun ctv h' tk hx hsz => ?_
    have I1 : Inv X pins σ H { s with heap := h', toks := tk } := I.kept hx
    have nF : H h'.objs.size = none := I1.hok.fresh (Nat.le_refl _)
    have I2 := inv_lam (F := lamF X params scope c') (e := body) (t' := tk) (pm := (X.mg "__name__").getD .none) (ctv := ctv) I1
    refine h h'.objs.size c' _ _ I2 (fun b o n e => ?_) (hT.ext fun b o e => ?_) nF upd_same ?_
    · exact (upd_ne (ne_of_none e nF)).trans e
    · exact (upd_ne (ne_of_none e nF)).trans e
    · exact (upd_ne (ne_of_none hco nF)).trans hco
end
/-- lambda ..: body -/
def tLam1 (T : List (Addr × Str)) (P : Addr) (mk : Addr → NF) (body : Expr) : TE := fun _ H Q => Tabs T H ∧ ∀ (f c' : Addr) (H1 : Hp), (∀ b o, b ≠ P → H b = some o → H1 b = some o) → Tabs T H1 → H f = none → H1 f = some (LamO f (mk c') body) → H1 c' = some (CodeO c' (mk c').qual) → Q (.ref f) H1
theorem pe_lam {X : Cx} {T : List (Addr × Str)} {c P : Addr} {params : Arguments} {body : Expr} {scope : Scope} {pos : Pos} (TB : TabB X.base X.mg c P) (hcode : X.env.code = .ref c) (hm : (P, X.env.qual ++ "<lambda>") ∈ T) (hu : ∀ p ∈ T, p.1 = P → p.2 = X.env.qual ++ "<lambda>")
    (hdef : defaultsOf params X.env = ([], [])) (hfree : ∀ y ∈ scope.names, y.2 ≠ .free) : PE X (.Lambda params body scope pos) (tLam1 T P (lamF X params scope) body) := by
  refine ⟨fun pins s σ H Q I ⟨hT, h⟩ => ?_⟩
  exact lam_make3 I TB hcode hm hu hT hdef (fun y hy z => absurd z (hfree y hy)) fun f c' H1 s' I1 eN T1 f0 f1 c1 => ⟨.ref f, H1, I1, rfl, h f c' H1 eN T1 f0 f1 c1⟩

/-! ### its call -/
structure LamR (P : Program) (w : World) (K : PySem.W.Frag) (mg : Str → Option Value) (base : Heap) (k : Nat) (F : NF) (e : Expr) (sp : Sp) : Prop where
  run : ∀ (f : Addr) (A : Around) (outer : List Env) (s : Shared) (H : Hp) (us : List Value) (vs : List V) (Q : VK), Room k A → Env0 P w K mg base A outer s H → H f = some (LamO f F e) → H F.c = some (CodeO F.c F.qual) → Vals vs us → sp vs H Q E0 →
    codeAny (model P w) A (.call (.ref f) ⟨us, []⟩) (CR CX0 outer P w H s Q E0) s
theorem lamR_of {P : Program} {w : World} {K : PySem.W.Frag} {mg : Str → Option Value} {base : Heap} {k : Nat} {F : NF} {e : Expr} {N ps : List Str} {sp : Sp} (S : NScope N ps [] F.scope) (hcl : F.cl = [])
    (hb : ∀ (pm cv ctv : Value) (us : List Value), us.length = ps.length → bindArgs (PySem.W.kla_fn "<lambda>" F.qual F.params e F.scope F.cl pm cv ctv) ⟨us, []⟩ = pure (ps.zip us)) (len : ∀ vs H Q E, sp vs H Q E → vs.length = ps.length)
    (hbody : ∀ (f : Addr) (A : Around) (outer : List Env) (s : Shared) (H : Hp) (vs : List V) (Q : VK), Room k (A.deeper (envF F f s.heap.objs.size)) → sp vs H Q E0 → ∃ t, PE (ncx CX0 P w K mg base N F f A outer s H E0).nox e t ∧ t (startF N vs []) H Q) :
    LamR P w K mg base (k + 1) F e sp := by
  refine ⟨fun f A outer s H us vs Q hr e0 hf hc r hsp => ?_⟩
  have hl := len _ _ _ _ hsp
  have lim : s.heap.NoLimit := e0.mod.nolimit.keeps fun b o z => (e0.bs b o z).1
  obtain ⟨pm, ctv, ho⟩ := lamO_at e0.hok hf
  obtain ⟨⟨oc, cvs, t, hoc, hdc, hvc⟩, _, _⟩ := e0.hok F.c _ hc
  refine PySem.W.kla_callFunE hr.depth ho rfl S.co S.gen rfl ⟨F.c, oc, cvs, t, rfl, hoc, hdc, hvc⟩ ?_
  rw [hb pm _ ctv us (by rw [← r.length]; exact hl)]
  refine wpAny_pure (wpAny_newFunctionEnv S.nocell (fun ⟨n, _⟩ hy => S.par n (List.of_mem_zip hy).1) (fun h₁ hns hsb => ⟨lim.fresh _ hsb, ?_⟩) S.kind)
  show codeAny _ _ (.expr e (envF F f s.heap.objs.size)) _ _
  have kp : ∀ b o, s.heap.get? b = some o → h₁.get? b = some o := fun b o z => hsb.extBut b o (Nat.ne_of_lt (Heap.lt_size z)) (Heap.get?_push_of_some _ z)
  obtain ⟨t, ht, hq⟩ := hbody f A outer s H vs Q (hr.deeper _) hsp
  have C : CellsAt F.cl [] [] s.heap H := by
    rw [hcl]
    exact ⟨rfl, (fun y c z => nomatch z), (fun x y c z _ => nomatch z), (fun i y z => nomatch z)⟩
  have I : Inv (ncx CX0 P w K mg base N F f A outer s H E0) [] (startF N vs []) H { s with heap := h₁, toks := s.toks + (ps.zip us).length } := inv_startN S hr.hd e0 hl r C hns kp
  refine PySem.W.kla_codeExpr (wpAny_mono (ht.run [] _ (startF N vs []) H Q (I.wish _) hq) (fun v s' hs => ?_) fun _ _ z => z.elim)
  obtain ⟨x, H', J, rv, q⟩ := hs
  exact ⟨x, H', J.os, J.bare, J.base, J.hok, rv, q⟩
/-- f(e, ..), f a name that holds such a lambda -/
def tCallLam (i : Nat) (F : NF) (e : Expr) (sp : Sp) (t : TA) : TE := fun σ H Q => ∃ f, σ[i]? = some (some (.ref f)) ∧ H f = some (LamO f F e) ∧ t σ H fun vs H1 => H1 f = some (LamO f F e) ∧ H1 F.c = some (CodeO F.c F.qual) ∧ sp vs H1 Q E0
theorem pe_callLam {X : Cx} {k i : Nat} {F : NF} {le e : Expr} {es : List Expr} {sp : Sp} {t : TA} {x : Str} {p pos : Pos} (L : LamR X.prog X.w X.K X.mg X.base k F le sp) (hr : Room k X.A) (hN : X.N[i]? = some x) (hv : Vis X.env.scope x) (ha : PA X (e :: es) t)
    (hd : (x == ("__debug__" : Str)) = false := by decide) (hcd : (x == ("__classdict__" : Str)) = false := by decide)
    (he : starEach (e :: es) X.env = (false, eval e X.env) :: starEach es X.env := by rfl) (hpl : (backTo pos (starEach es X.env)).any (·.1) = false := by rfl) : PE X (.Call (.Name x p) (e :: es) [] pos) (tCallLam i F le sp t) := by
  refine ⟨fun pins s σ H Q I ⟨f, hs, hf, ht⟩ => ?_⟩
  refine wpAny_Call_Name_kw (thn ((pe_var (pos := p) hN hv hd hcd).run pins s σ H (fun v H1 => v = .ref f ∧ H1 = H) I ⟨.ref f, hs, rfl, rfl⟩) fun u s1 ⟨v, H1, I1, r1, ev, eH⟩ => ?_)
  subst ev
  rw [eH] at I1
  obtain rfl : u = Value.ref f := r1
  have at_ : ∀ {s2 : Shared} {H2 : Hp}, Inv X pins σ H2 s2 → H2 f = some (LamO f F le) → PySem.W.FnAt f s2.heap := fun {s2 H2} I2 h2 => by
    obtain ⟨pm, ctv, ho⟩ := lamO_at I2.hok h2
    exact ⟨_, _, _, _, ho⟩
  refine PySem.W.callWith_F (first := []) (at_ I1 hf) (thn (ha.run pos pins s1 σ H _ I1 ht) fun us s2 ⟨vs, H2, I2, r, h1, h2, q⟩ => ⟨at_ I2 h1, ?_⟩) he hpl
  refine wpAny_call (codeAny_mono (L.run f X.A X.stack s2 H2 us vs Q hr I2.env0 h1 h2 r q) fun r s' hq => ?_)
  cases r with
  | error e => exact False.elim hq
  | ok fl =>
    cases fl with
    | ret u => exact I2.after hq
    | next => exact False.elim hq
    | brk => exact False.elim hq
    | cont => exact False.elim hq
end Tb
set_option Elab.async false
set_option linter.all false
set_option maxRecDepth 100000
set_option maxHeartbeats 4000000
/-! Rules: an attribute as one of several targets; enumerate over a tuple. -/
namespace Tb
open PySem PySem.Spec PyProof.Rows L2
open AutoSeq1 (wpAny_loadPart')

/-! ### o.f among several targets -/
def gFld (K : PySem.W.Frag) (ta : TE) (f : Str) : TG := fun v σ H Q => ta σ H fun x H2 => ∃ a C dx fs, x = .ref a ∧ H2 a = some (.ins C dx fs) ∧ Cls K C ∧ NoAttr K C f ∧ fs.length < 1000 ∧ Q σ (upd H2 a (.ins C dx (putF f v fs)))
theorem pg_fld {X : Cx} {o : Expr} {f : Str} {pos : Pos} {ta : TE} (ho : PE X o ta)
    (ha : ∀ v, assign (.Attribute o f pos) X.env v = (do
      let b ← holding [v] (eval o X.env)
      standAt pos.atName
      holding [v, b] (setAttr b f v)
      release [v, b] []) := by intro _; rfl) : PG X (.Attribute o f pos) (gFld X.K ta f) := by
  refine ⟨fun pins s σ H y u Q I ry hq => ?_⟩
  rw [ha]
  refine wpAny_bind (wpAny_holding (thn (ho.run pins s σ H _ I hq) fun b s1 ⟨x, H1, I1, rx, a, C, dx, fs, ex, ea, c, n, l, q⟩ => ?_))
  subst ex
  obtain rfl : b = Value.ref a := rx
  exact wpAny_bind (wpAny_standAt (wpAny_bind (wpAny_holding (setattr_ok I1 ea c n l ry fun s2 I2 => wpAny_release ⟨σ, _, I2, q⟩))))

/-! ### enumerate over a tuple -/
section
variable {prog : Program} {w : World} {A : Around} {E : Value → Shared → Prop} {s : Shared}
theorem nextOf_tup {j t : Addr} {i : Nat} {items : Array Value} {x : Value} {Q : Value → Shared → Prop} (hj : IsTupIter s.heap j t i) (ht : IsTup s.heap t items) (hx : items[i]? = some x)
    (k : ∀ h', IsTupIter h' j t (i + 1) → Heap.SameBut j s.heap h' → Q x { s with heap := h' }) : wpAny (model prog w) A (Builtin.SmallTypes.nextOf (.ref j)) Q E s := by
  unfold Builtin.SmallTypes.nextOf
  exact wpAny_bind (special_tup_item hj ht hx fun h' a b => wpAny_pure (k h' a b))
theorem nextOf_tupEnd {j t : Addr} {i : Nat} {items : Array Value} {Q : Value → Shared → Prop} (hh : A.handled = none) (hj : IsTupIter s.heap j t i) (ht : IsTup s.heap t items) (hx : items[i]? = none)
    (k : ∀ e h', StopX e h' → Heap.ExtBut j s.heap h' → E e { s with heap := h' }) : wpAny (model prog w) A (Builtin.SmallTypes.nextOf (.ref j)) Q E s := by
  unfold Builtin.SmallTypes.nextOf
  exact wpAny_bind (special_tup_end hh hj ht hx k)
theorem keepIter {h h' : Heap} {e j t : Addr} {i : Nat} (z : IsTupIter h j t i) (k : Heap.SameBut e h h') (n : e ≠ j) : IsTupIter h' j t i := by
  obtain ⟨o, ho, r⟩ := z
  exact ⟨o, k.extBut _ _ (Ne.symm n) ho, r⟩
theorem keepIterX {h h' : Heap} {e j t : Addr} {i : Nat} (z : IsTupIter h j t i) (k : ∀ b o, b ≠ e → h.get? b = some o → h'.get? b = some o) (n : e ≠ j) : IsTupIter h' j t i := by
  obtain ⟨o, ho, r⟩ := z
  exact ⟨o, k _ _ (Ne.symm n) ho, r⟩
/-- one turn of an enumerate over a tuple -/
theorem enumT_turn {e j t : Addr} {i : Nat} {items : Array Value} {x old : Value} {Q : Option Value → Shared → Prop}
    (he : IsEnum s.heap e j i old) (hj : IsTupIter s.heap j t i) (ht : IsTup s.heap t items) (hx : items[i]? = some x) (hne : e ≠ j)
    (k : ∀ h', IsEnumOut h' e j ((i : Int) + 1) x s.heap.objs.size → IsTupIter h' j t (i + 1) → h'.get? s.heap.objs.size = some { cls := .type "tuple", data := .seq #[.int i s.toks, x] } → h'.objs.size = s.heap.objs.size + 1 →
      (∀ b o, b ≠ e → b ≠ j → s.heap.get? b = some o → h'.get? b = some o) → Q (some (.ref s.heap.objs.size)) { s with heap := h', toks := s.toks + 1 }) : wpAny (model prog w) A (pyNext (.ref e)) Q E s := by
  have hT : s.TypeIs (.ref e) "enumerate" := ⟨_, he, rfl⟩
  unfold pyNext
  refine wpAny_bind (wpAny_attempt (wpAny_callSpecial?_slot (name := Str.ofString "__next__") hT F.slot_enumerate_next (wpAny_call_entry F.slot_enumerate_next hT F.entry_enumerate_next ?_ (F.args_enumerate_next_1 _))))
  obtain ⟨hp, g, d, tk, os⟩ := s
  show wpAny _ _ (field (.ref e) 2 >>= _) _ _ _
  refine wpAny_bind (wpAny_field he rfl (x := .ref j) rfl ?_)
  refine wpAny_bind (nextOf_tup hj ht hx fun h1 j1 b1 => ?_)
  have b1' : Heap.SameBut j hp h1 := b1
  have e1 : IsEnum h1 e j i old := (b1'.2 e hne).trans he
  show wpAny _ _ (field (.ref e) 3 >>= _) _ _ ⟨h1, g, d, tk, os⟩
  refine wpAny_bind (wpAny_field e1 rfl (x := rawInt i) rfl ?_)
  show wpAny _ _ (field (.ref e) 4 >>= _) _ _ ⟨h1, g, d, tk, os⟩
  refine wpAny_bind (wpAny_field e1 rfl (x := .none) rfl ?_)
  show wpAny _ _ (mkInt i >>= _) _ _ ⟨h1, g, d, tk, os⟩
  refine wpAny_bind (wpAny_mkInt ?_)
  show wpAny _ _ (setField (.ref e) 3 (rawInt ((i : Int) + 1)) >>= _) _ _ ⟨h1, g, d, tk + 1, os⟩
  refine wpAny_bind (wpAny_setField_rec e1 (by simp) fun h2 e2 b2 => ?_)
  have b2' : Heap.SameBut e h1 h2 := b2
  have e2' : IsEnum h2 e j ((i : Int) + 1) old := e2
  show wpAny _ _ (setField (.ref e) 4 .none >>= _) _ _ ⟨h2, g, d, tk + 1, os⟩
  refine wpAny_bind (wpAny_setField_rec e2' (by simp) fun h3 e3 b3 => ?_)
  have b3' : Heap.SameBut e h2 h3 := b3
  have e3' : IsEnum h3 e j ((i : Int) + 1) old := e3
  show wpAny _ _ (newTuple [.int i tk, x] >>= _) _ _ ⟨h3, g, d, tk + 1, os⟩
  refine wpAny_bind (wpAny_newTuple ?_)
  have e4 : IsEnum (h3.push { cls := .type "tuple", data := .seq #[.int i tk, x] }) e j ((i : Int) + 1) old := Heap.get?_push_of_some _ e3'
  generalize hh4 : h3.push { cls := .type "tuple", data := .seq #[.int i tk, x] } = h4 at e4
  have hsz : h3.objs.size = hp.objs.size := by rw [b3'.1, b2'.1, b1'.1]
  have hel : e < hp.objs.size := Heap.lt_size he
  have t4 : h4.get? hp.objs.size = some { cls := .type "tuple", data := .seq #[.int i tk, x] } := by rw [← hh4, ← hsz]; exact Heap.get?_push_size _ rfl
  have z4 : h4.objs.size = hp.objs.size + 1 := by rw [← hh4, Heap.size_push, hsz]
  have k4 : ∀ b o, b ≠ e → b ≠ j → hp.get? b = some o → h4.get? b = some o := fun b o hbe hbi hb => by
    rw [← hh4]; exact Heap.get?_push_of_some _ (b3'.extBut b o hbe (b2'.extBut b o hbe (b1'.extBut b o hbi hb)))
  have j4 : IsTupIter h4 j t (i + 1) := by
    rw [← hh4]
    obtain ⟨o, ho, r⟩ := keepIter (keepIter j1 b2' hne) b3' hne
    exact ⟨o, Heap.get?_push_of_some _ ho, r⟩
  show wpAny _ _ (Builtin.SmallTypes.ownedTupleIsFree (.ref e) >>= _) _ _ ⟨h4, g, d, tk + 1, os⟩
  rw [hsz]
  clear hh4 e3' e3 b3' b3 e2' e2 b2' b2 e1 b1' b1 j1 hsz h3 h2 h1
  refine wpAny_bind ?_
  unfold Builtin.SmallTypes.ownedTupleIsFree
  refine wpAny_bind (wpAny_field e4 rfl (x := .none) rfl (wpAny_pure ?_))
  simp only [if_true]
  refine wpAny_bind (wpAny_rule ?_)
  refine wpAny_bind (wpAny_field e4 rfl (x := old) rfl ?_)
  refine wpAny_bind (wpAny_setField_rec e4 (by simp) fun h5 e5 b5 => ?_)
  have b5' : Heap.SameBut e h4 h5 := b5
  have e5' : IsEnum h5 e j ((i : Int) + 1) x := e5
  show wpAny _ _ (Builtin.SmallTypes.ownedTupleHandOut (.ref e) (.ref hp.objs.size) >>= _) _ _ ⟨h5, g, d, tk + 1, os⟩
  refine wpAny_bind ?_
  unfold Builtin.SmallTypes.ownedTupleHandOut
  refine wpAny_bind (wpAny_setField_rec e5' (by simp) fun h6 e6 b6 => ?_)
  have b6' : Heap.SameBut e h5 h6 := b6
  have e6' : IsEnumOut h6 e j ((i : Int) + 1) x hp.objs.size := e6
  refine wpAny_setField_rec e6' (by simp) fun h7 e7 b7 => ?_
  have b7' : Heap.SameBut e h6 h7 := b7
  have e7' : IsEnumOut h7 e j ((i : Int) + 1) x hp.objs.size := e7
  refine wpAny_bind (wpAny_letGo (wpAny_pure ⟨_, rfl, wpAny_pure (k h7 e7' ?_ ?_ ?_ ?_)⟩))
  · exact keepIter (keepIter (keepIter j4 b5' hne) b6' hne) b7' hne
  · exact b7'.extBut _ _ (Nat.ne_of_gt hel) (b6'.extBut _ _ (Nat.ne_of_gt hel) (b5'.extBut _ _ (Nat.ne_of_gt hel) t4))
  · rw [b7'.1, b6'.1, b5'.1, z4]
  · exact fun b o hbe hbi hb => b7'.extBut b o hbe (b6'.extBut b o hbe (b5'.extBut b o hbe (k4 b o hbe hbi hb)))
theorem enumT_end {e j t : Addr} {i : Nat} {items : Array Value} {old : Value} {Q : Option Value → Shared → Prop} (hh : A.handled = none)
    (he : IsEnum s.heap e j i old) (hj : IsTupIter s.heap j t i) (ht : IsTup s.heap t items) (hx : items[i]? = none) (k : ∀ h', Heap.ExtBut j s.heap h' → Q none { s with heap := h' }) : wpAny (model prog w) A (pyNext (.ref e)) Q E s := by
  have hT : s.TypeIs (.ref e) "enumerate" := ⟨_, he, rfl⟩
  unfold pyNext
  refine wpAny_bind (wpAny_attempt (wpAny_callSpecial?_slot (name := Str.ofString "__next__") hT F.slot_enumerate_next (wpAny_call_entry F.slot_enumerate_next hT F.entry_enumerate_next ?_ (F.args_enumerate_next_1 _))))
  show wpAny _ _ (field (.ref e) 2 >>= _) _ _ _
  refine wpAny_bind (wpAny_field he rfl (x := .ref j) rfl ?_)
  refine wpAny_bind (nextOf_tupEnd hh hj ht hx fun ev h' st bt => ?_)
  obtain ⟨a, o, vs, rfl, ho, hc, _⟩ := st
  refine wpAny_bind (wpAny_isInstance (T := "StopIteration") (b := true) ⟨o, ho, hc⟩ isSubtype_stop ?_)
  exact wpAny_pure (k _ bt)
theorem meets_enumT (t : Addr) (o : Obj) (items : Array Value) (n : Nat) (hc : o.cls = .type "tuple") (hd : o.data = .seq items n) :
    Meets (Builtin.«enumerate.__new__» ⟨[.type "enumerate", .ref t], []⟩) (fun _ R s => s.heap.get? t = some o ∧
      R (.ok (.ret (.ref (s.heap.push { cls := .type "tuple_iterator", data := .fields #[.ref t, .int 0 0] }).objs.size)))
        { s with heap := (s.heap.push { cls := .type "tuple_iterator", data := .fields #[.ref t, .int 0 0] }).push { cls := .type "enumerate", data := .fields #[.none, .bool false, .ref s.heap.objs.size, rawInt 0, .none, .none] } }) :=
  .of_wp fun prog w A R s h => by
    obtain ⟨cls, dct, dt, sl⟩ := o
    simp only at hc hd
    subst hc hd
    obtain ⟨hp, g, d, tk, os⟩ := s
    obtain ⟨hl, h⟩ := h
    have hsub := sub_enumerate
    have hL : Heap.IsTuple (Shared.heap ⟨hp, g, d, tk, os⟩) t items := ⟨_, hl, rfl, n, rfl⟩
    wp_walk using wpAny_loadPart' hl
    refine wpAny_stack_any fun st => wpAny_pure ?_
    split
    · rename_i c _ _ _ _ _
      cases (c == Value.type "enumerate")
      · wp_walk using wpAny_loadPart' hl, wpAny_pyIter_tuple hL
        exact ⟨_, rfl, h⟩
      · wp_walk using wpAny_loadPart' hl, wpAny_pyIter_tuple hL
        exact ⟨_, rfl, h⟩
    · wp_walk using wpAny_loadPart' hl, wpAny_pyIter_tuple hL
      exact ⟨_, rfl, h⟩
theorem call_enumT {t : Addr} {items : Array Value} {Q : Value → Shared → Prop} (ht : IsTup s.heap t items)
    (k : ∀ h', IsEnum h' (s.heap.objs.size + 1) s.heap.objs.size 0 .none → IsTupIter h' s.heap.objs.size t 0 → (∀ b o, s.heap.get? b = some o → h'.get? b = some o) → Q (.ref (s.heap.objs.size + 1)) { s with heap := h' }) :
    wpAny (model prog w) A (call (.type "enumerate") [.ref t]) Q E s := by
  obtain ⟨o, ho, hc, n, hd⟩ := id ht
  refine callType_new F.called_enumerate (by decide) (F.typeCall_enumerate_1 _) (F.newCall_enumerate_1 _) (fun obj => F.args_object_init_2 obj _) F.entry_enumerate_new (meets_enumT t o items n hc hd) ⟨ho, ?_⟩
  have hz : (s.heap.push { cls := .type "tuple_iterator", data := .fields #[.ref t, .int 0 0] }).objs.size = s.heap.objs.size + 1 := Heap.size_push ..
  show _ ∧ _
  rw [hz]
  have he : IsEnum ((s.heap.push { cls := .type "tuple_iterator", data := .fields #[.ref t, .int 0 0] }).push { cls := .type "enumerate", data := .fields #[.none, .bool false, .ref s.heap.objs.size, rawInt 0, .none, .none] }) (s.heap.objs.size + 1) s.heap.objs.size 0 .none := by
    have q := Heap.get?_push_size (s.heap.push { cls := .type "tuple_iterator", data := .fields #[.ref t, .int 0 0] }) (o := { cls := .type "enumerate", data := .fields #[.none, .bool false, .ref s.heap.objs.size, rawInt 0, .none, .none] }) rfl
    rw [hz] at q; exact q
  refine ⟨⟨_, he, rfl⟩, k _ he ⟨_, Heap.get?_push_of_some _ (Heap.get?_push_size _ rfl), rfl, rfl⟩ fun b o x => Heap.get?_push_of_some _ (Heap.get?_push_of_some _ x)⟩
end
def IteT (K : PySem.W.Frag) (a : Addr) : It :=
  ⟨fun i H => ∃ (xs : List V) (x : V), SqT K H a xs ∧ xs[i]? = some x, fun i H v H' => ∃ T x, v = .ref T ∧ H T = none ∧ H' = upd H T (.tup [.int (i : Nat), x]) ∧ ∀ xs, SqT K H a xs → xs[i]? = some x, fun i H => ∃ xs : List V, SqT K H a xs ∧ xs.length ≤ i⟩
theorem turn_enumT {P : Program} {w : World} {K : PySem.W.Frag} {elts : List Expr} {kk : Nat} {tpos : Pos} (a e j : Addr) :
    Turn P w K (.Tuple elts kk tpos) (IteT K a) [e, j] e (fun i h => (∃ old, IsEnum h e j ((i : Nat) : Int) old) ∧ IsTupIter h j a i ∧ e ≠ j) where
  mem := by simp
  obj := fun i h st b hb => by
    obtain ⟨⟨old, he⟩, ⟨o, ho, hc, hd⟩, _⟩ := st
    rcases (by simpa using hb : b = e ∨ b = j) with z | z
    · rw [z]; exact ⟨_, he, fun v q => nomatch q⟩
    · rw [z]; exact ⟨o, ho, fun v q => by rw [hd] at q; cases q⟩
  keep := fun i h h' st k => by
    obtain ⟨⟨old, he⟩, ⟨o, ho, r⟩, hne⟩ := st
    exact ⟨⟨old, k e (by simp) _ he⟩, ⟨o, k j (by simp) _ ho, r⟩, hne⟩
  item := by
    intro X hP hw hK hc i pins s σ H E I hf st hg
    subst hP hw hK
    obtain ⟨⟨old, he⟩, hit, hne⟩ := st
    obtain ⟨xs, x, hq, hx⟩ := hg
    obtain ⟨its, rv, p, hz⟩ := I.tuple hq
    obtain ⟨u, hu, ru⟩ := rv.get hx
    have hel : e < s.heap.objs.size := Heap.lt_size he
    have hil : j < s.heap.objs.size := by obtain ⟨_, q, _⟩ := hit; exact Heap.lt_size q
    refine enumT_turn he hit p (x := u) (by simpa using hu) hne fun h' ho hit' hT hsz hk => ?_
    refine ⟨_, rfl, wpAny_letOwnedTupleGo_enum (s := { s with heap := h', toks := s.toks + 1 }) ho fun h'' he' sb => ?_⟩
    have hT2 : h''.get? s.heap.objs.size = some { cls := .type "tuple", data := .seq #[.int i s.toks, u] } := (sb.2 _ (Nat.ne_of_gt hel)).trans hT
    have new : ObjOk X.prog X.w (upd H s.heap.objs.size (.tup [.int (i : Nat), x])) h'' s.heap.objs.size (.tup [.int (i : Nat), x]) :=
      ⟨by show 2 ≤ sizeLine; decide, [.int i s.toks, u], .cons ⟨_, rfl⟩ (.cons ru .nil), ⟨_, hT2, rfl, _, rfl⟩⟩
    have I1 : Inv X pins σ (upd H s.heap.objs.size (.tup [.int (i : Nat), x])) { s with heap := h'', toks := s.toks + 1 } :=
      I.turnedNew (ch := [e, j]) (fun b ob hb q => (sb.2 b (fun z => hb (by simp [z]))).trans (hk b ob (fun z => hb (by simp [z])) (fun z => hb (by simp [z])) q)) hf (Nat.le_refl _) new
    refine ⟨.ref s.heap.objs.size, _, I1, rfl, ⟨_, x, rfl, I.hok.fresh (Nat.le_refl _), rfl, fun ys hy => by rw [I.tuple_inj hy hq]; exact hx⟩, ⟨⟨u, ?_⟩, keepIter hit' sb hne, hne⟩, fun b hb => ?_⟩
    · have e1 : ((i + 1 : Nat) : Int) = (i : Int) + 1 := by omega
      rw [e1]; exact he'
    · have hb' : b < s.heap.objs.size := by
        rcases (by simpa using hb : b = e ∨ b = j) with z | z
        · rw [z]; exact hel
        · rw [z]; exact hil
      rw [upd_ne (Nat.ne_of_lt hb')]
      exact (hf b hb).1
  done := by
    intro X hP hw hK hc i pins s σ H E I hf st hg
    subst hP hw hK
    obtain ⟨⟨old, he⟩, hit, hne⟩ := st
    obtain ⟨xs, hq, hx⟩ := hg
    obtain ⟨its, rv, p, hz⟩ := I.tuple hq
    obtain ⟨f0, f1, f2, f3, f4, f5⟩ := hf j (by simp)
    have hl := rv.length
    exact enumT_end (I.ok.hd hc) he hit p (by simp; omega) fun h' eb => ⟨rfl, I.turned (t' := s.toks) (fun b o hb q => eb b o hb q) f0 f1 f3 f4 f5⟩
  self := fun A i s Q E st h => let ⟨⟨_, he⟩, _⟩ := st; wpAny_pyIter_enum he h
def iEnumT (K : PySem.W.Frag) (ta : TA) : TI := fun σ H R => ta σ H fun vs H1 => ∃ a xs, vs = [.ref a] ∧ SqT K H1 a xs ∧ R (IteT K a) H1
theorem pi_enumT {X : Cx} {e : Expr} {ta : TA} {p pos tpos : Pos} {elts : List Expr} {kk : Nat} (hg : Gl X "enumerate") (hm : X.mg "enumerate" = none) (ha : PA X [e] ta) (hs : starEach [e] X.env = [(false, eval e X.env)] := by rfl) :
    PI X (.Tuple elts kk tpos) (.Call (.Name "enumerate" p) [e] [] pos) (iEnumT X.K ta) := by
  refine ⟨fun pins s σ H R I h => ?_⟩
  refine Call_ (ld_blt I hg hm boot_enumerate (PyProof.Rows.callWith_type1 (thn (ha.run pos pins s σ H _ I h) fun us s1 ⟨vs, H1, I1, r1, q1⟩ => ?_) hs rfl))
  obtain ⟨a, xs, ex, hq, q⟩ := q1
  subst ex
  obtain ⟨u, rfl, ru⟩ := vals1 r1
  obtain rfl : u = Value.ref a := ru
  obtain ⟨its, rv, p', hz⟩ := I1.tuple hq
  refine call_enumT p' fun h' he hit hk => wpAny_pyIter_enum he ?_
  have I2 : Inv X pins σ H1 { s1 with heap := h' } := I1.kept (t' := s1.toks) hk
  refine ⟨s1.heap.objs.size + 1, [s1.heap.objs.size + 1, s1.heap.objs.size], _, _, H1, rfl, I2, turn_enumT a (s1.heap.objs.size + 1) s1.heap.objs.size, ⟨⟨.none, he⟩, hit, Nat.succ_ne_self _⟩, fun b hb => ?_, q⟩
  have hle : s1.heap.objs.size ≤ b := by
    rcases (by simpa using hb : b = s1.heap.objs.size + 1 ∨ b = s1.heap.objs.size) with z | z
    · rw [z]; exact Nat.le_add_right _ _
    · rw [z]; exact Nat.le_refl _
  exact I1.fpOk hle (I1.hok.fresh hle)
end Tb
set_option Elab.async false
set_option linter.all false
set_option maxRecDepth 100000
set_option maxHeartbeats 4000000
/-! for in a generator's body. -/
namespace Tb
open PySem PySem.Spec PyProof.Rows L2 GenW

section
variable {M : Model} {A : Around} {R : GenEnd} {Y : Protocol} {n : Nat} {s₀ : Shared} {c : Code} {fs : List Frame} {s : Shared} {env : Env}
  {K : Flow → Sem PySem.Fin} {J : Value → Sem PySem.Fin} {gd : Bool → Bool} {lv : List Value → List Value}
/-- the frame that waits for a loop's code -/
abbrev waits (K : Flow → Sem PySem.Fin) (J : Value → Sem PySem.Fin) (gd : Bool → Bool) (lv : List Value → List Value) (env : Env) (c : Code) (p : Pos) : Frame :=
  .ret (fun r => ((match r with | .ok f => (.pure f : Sem Flow) | .error e => .raise e).onRaise (cameBack env)).wrap K J gd lv) none (gd false) (lv []) c p []
theorem seg_For {tg iter : Expr} {body orelse : List Stmt} {pos : Pos}
    (h : wpAny M (A.over c fs) (eval iter env) (fun x s1 => wpAny M (A.over c fs) (pyIter x) (fun it s2 => ∀ p, Seg M A R Y n s₀ (.forLoop tg it body orelse env) (M.den (.forLoop tg it body orelse env)) (waits K J gd lv env c p :: fs) s2)
      (fun e s' => Seg M A R Y n s₀ c (J e) fs s') s1) (fun e s' => Seg M A R Y n s₀ c (J e) fs s') s)
    (hs : ∀ x, foldedSetIterable iter env x = pure x := by intro _; rfl) :
    Seg M A R Y n s₀ c ((exec (.For tg iter body orelse pos) env).wrap K J gd lv) fs s := by
  rw [exec_For]
  refine seg_bind_wrap (wpAny_standAt ?_)
  refine seg_bind_wrap (wpAny_mono h (fun x s1 h1 => ?_) fun _ _ z => z)
  refine seg_bind_wrap (wpAny_of_eq (hs x) ?_)
  refine seg_bind_wrap (wpAny_standAt ?_)
  refine seg_bind_wrap (wpAny_holding (wpAny_mono h1 (fun it s2 h2 => ?_) fun _ _ z => z))
  exact seg_call h2
/-- what a loop's code does with an exception -/
abbrev upAgain (env : Env) (e : Value) : Sem PySem.Fin := (do noteFrame e env; theTreesLotGoes e : Sem Unit).wrap (fun _ => .raise e) .raise id id
end
section
variable {prog : Program} {w : World} {A : Around} {R : GenEnd} {Y : Protocol} {n : Nat} {s₀ : Shared} {fs : List Frame} {s : Shared} {env : Env}
theorem seg_forLoop {tg : Expr} {it : Value} {body orelse : List Stmt}
    (h : wpAny (model prog w) (A.over (.forLoop tg it body orelse env) fs) (pyNext it) (fun r s1 => match r with
      | none => Seg (model prog w) A R Y n s₀ (.forLoop tg it body orelse env) (.pure (.again (.block orelse env))) fs s1
      | some v => wpAny (model prog w) (A.over (.forLoop tg it body orelse env) fs) (letOwnedTupleGo tg it v) (fun _ s2 =>
          wpAny (model prog w) (A.over (.forLoop tg it body orelse env) fs) (assign tg env v) (fun _ s3 =>
            Seg (model prog w) A R Y n s₀ (.forLoop tg it body orelse env) ((execs body env).wrap (fun f => match f with
              | .next | .cont => .pure (.again (.forLoop tg it body orelse env))
              | .brk => .pure (.done .next)
              | .ret v => .pure (.done (.ret v))) (upAgain env) id id) fs s3)
          (fun x s' => Seg (model prog w) A R Y n s₀ (.forLoop tg it body orelse env) (upAgain env x) fs s') s2)
        (fun x s' => Seg (model prog w) A R Y n s₀ (.forLoop tg it body orelse env) (upAgain env x) fs s') s1)
      (fun x s' => Seg (model prog w) A R Y n s₀ (.forLoop tg it body orelse env) (upAgain env x) fs s') s) :
    Seg (model prog w) A R Y n s₀ (.forLoop tg it body orelse env) ((model prog w).den (.forLoop tg it body orelse env)) fs s := by
  show Seg _ A R Y n s₀ _ ((forTurn tg it body orelse env).onRaise (fun x => do noteFrame x env; theTreesLotGoes x)) fs s
  rw [Sem.onRaise_eq_wrap]
  have e : ∀ x : Value, ((do noteFrame x env; theTreesLotGoes x : Sem Unit).bind fun _ => (.raise x : Sem PySem.Fin)) = upAgain env x := fun x => Sem.bind_eq_wrap _ _
  rw [Sem.wrap_congr (forTurn tg it body orelse env) id id (K' := .pure) (H' := upAgain env) (fun _ => rfl) e]
  unfold forTurn
  refine seg_bind_wrap (wpAny_standAt ?_)
  refine seg_bind_wrap (wpAny_onRaise (wpAny_mono h (fun r s1 h1 => ?_) fun _ _ z => wpAny_standAt z))
  cases r with
  | none => exact h1
  | some v =>
    refine seg_bind_wrap (wpAny_mono h1 (fun _ s2 h2 => ?_) fun _ _ z => z)
    refine seg_bind_wrap (wpAny_mono h2 (fun _ s3 h3 => ?_) fun _ _ z => z)
    rw [Sem.bind_eq_wrap', Sem.wrap_wrap]
    exact Eq.mpr (congrArg (fun t => Seg (model prog w) A R Y n s₀ (.forLoop tg it body orelse env) t fs s3) (Sem.wrap_congr (execs body env) id id (fun f => by cases f <;> rfl) (fun _ => rfl))) h3
theorem seg_blockNil (h : Seg (model prog w) A R Y n s₀ (.block [] env) (.pure (.done .next)) fs s) : Seg (model prog w) A R Y n s₀ (.block [] env) ((model prog w).den (.block [] env)) fs s := h
end

/-! ### for in a generator's body -/
def tGFor (wi : TI) (g : TG) (tb : TGn) : TGn := fun D ys σ H => wi σ H fun J H1 => ∃ W : Nat → Nat → List V → L2.St → Hp → Prop, (∃ m, W 0 m ys σ H1) ∧ ∀ i m ys σ H, W i m ys σ H →
  (J.stop i H ∧ D.nx ys σ H) ∨ (J.go i H ∧ ∃ N : List V → L2.St → Hp → Prop, (∀ ys' σ' H', N ys' σ' H' → ∃ m', m' < m ∧ W (i + 1) m' ys' σ' H') ∧ ∀ x H', J.yld i H x H' → g x σ H' fun σ2 H2 => tb { D with nx := N, ct := N, bk := D.nx } ys σ2 H2)
theorem fpAt {X : Cx} {S : Addr} {ob : Obj} {ip : List (Addr × Obj)} {H : Hp} {b : Addr} (h : FpOk X ((S, ob) :: ip) H b) (ob' : Obj) : FpOk X ((S, ob') :: ip) H b := by
  refine ⟨h.1, h.2.1, h.2.2.1, h.2.2.2.1, h.2.2.2.2.1, fun p hp => ?_⟩
  rcases List.mem_append.mp hp with z | z
  · exact h.2.2.2.2.2 p (List.mem_append_left _ z)
  · rcases List.mem_cons.mp z with z | z
    · rw [z]; exact h.2.2.2.2.2 (S, ob) (List.mem_append_right _ List.mem_cons_self)
    · exact h.2.2.2.2.2 p (List.mem_append_right _ (List.mem_cons_of_mem _ z))
theorem gs_for {X : Cx} {tg iter : Expr} {body : List Stmt} {wi : TI} {g : TG} {tb : TGn} {pos : Pos} (hp : PassesOwn (model X.prog X.w) X.A X.env X.xe) (hc : X.calm = true) (hi : PI X tg iter wi) (hg : PG X tg g) (hb : GSs X body tb)
    (hs : ∀ x, foldedSetIterable iter X.env x = pure x := by intro _; rfl) : GS X (.For tg iter body [] pos) (tGFor wi g tb) := by
  refine ⟨fun A S ip R n ys s₀ c fs K J gd lv s σ H D gc hn k hI ht => ?_⟩
  obtain ⟨acc0, cc0, r0, I0⟩ := hI
  refine seg_For ?_ hs
  rw [gc.over]
  refine wpAny_mono (hi.run _ s σ H _ I0 ht) (fun v s1 h1 => ?_) fun x s' hx => k.exc n s₀ x s' hx
  refine wpAny_mono h1 (fun itv s2 h2 => ?_) fun x s' hx => k.exc n s₀ x s' hx
  intro p
  obtain ⟨it, fp, tn, JJ, H2, e, I2, T, st2, f2, W, ⟨m0, w0⟩, turn⟩ := h2
  subst e
  have gl := fun (kk : Result → Sem PySem.Fin) => gc_loop (k := kk) (c' := .forLoop tg (.ref it) body [] X.env) (l := lv []) (kp := []) (p := p) gc rfl rfl
  have loop : ∀ (m n i : Nat) (ys : List V) (s₀ s : Shared) (σ : L2.St) (H : Hp), n + ys.length = sizeLine → W i m ys σ H → GI X S ip ys σ H s → tn i s.heap → (∀ b ∈ fp, FpOk X ((S, lstObj acc0 cc0) :: ip) H b) →
      Seg (model X.prog X.w) A R (GY X S) n s₀ (.forLoop tg (.ref it) body [] X.env) ((model X.prog X.w).den (.forLoop tg (.ref it) body [] X.env)) (waits K J gd lv X.env c p :: fs) s := by
    intro m
    induction m using Nat.strongRecOn with
    | ind m ih =>
      intro n i ys s₀ s σ H hn w hI hst hfp
      have ee : ∀ (n : Nat) (s₀ : Shared) (x : Value) (s' : Shared), X.xe x s' → Seg (model X.prog X.w) A R (GY X S) n s₀ (.forLoop tg (.ref it) body [] X.env) (upAgain X.env x) (waits K J gd lv X.env c p :: fs) s' := fun n s₀ x s' hx => by
        refine seg_wrap ?_
        rw [(gl _).over]
        refine wpAny_bind (wpAny_mono (hp x s' hx) (fun _ s'' hcb => wpAny_theTreesLotGoes ?_) fun y s'' hcb => ?_)
        · exact seg_leaf (.error x) (seg_cameBack gc k hcb)
        · exact seg_leaf (.error y) (seg_cameBack gc k hcb)
      obtain ⟨acc, cc, r, I⟩ := hI
      refine seg_forLoop ?_
      rw [(gl _).over]
      rcases turn i m ys σ H w with ⟨stop, qn⟩ | ⟨go, N, hN, step⟩
      · refine wpAny_mono (T.done X rfl rfl rfl hc i _ s σ H X.xe I (fun b hb => fpAt (hfp b hb) _) hst stop) (fun rr s4 hrr => ?_) fun x s' hx => ee n s₀ x s' hx
        obtain ⟨hr, I4⟩ := hrr
        subst hr
        refine seg_again rfl (seg_blockNil ?_)
        exact seg_leaf (.ok .next) (k.ok n ys s₀ s4 .next hn ⟨σ, H, ⟨acc, cc, r, I4⟩, qn⟩)
      · refine wpAny_mono (T.item X rfl rfl rfl hc i _ s σ H X.xe I (fun b hb => fpAt (hfp b hb) _) hst go) (fun rr s4 hrr => ?_) fun x s' hx => ee n s₀ x s' hx
        obtain ⟨u, hr, h4⟩ := hrr
        subst hr
        refine wpAny_mono h4 (fun _ s5 h5 => ?_) fun x s' hx => ee n s₀ x s' hx
        obtain ⟨x, H5, I5, r5, y5, st5, fr5⟩ := h5
        have f5 : ∀ b ∈ fp, FpOk X ((S, lstObj acc cc) :: ip) H5 b := fun b hb => ⟨fr5 b hb, (fpAt (hfp b hb) (lstObj acc cc)).2⟩
        have I5' := I5.pinned f5 (T.obj _ _ st5)
        refine wpAny_mono (hg.run _ s5 σ H5 x u _ I5' r5 (step x H5 y5)) (fun _ s6 h6 => ?_) fun x s' hx => ee n s₀ x s' hx
        obtain ⟨σ6, H6, I6, q6⟩ := h6
        have hipA : ∀ q ∈ ip ++ pinsAt fp s5.heap, q.1 ≠ S := fun q hq => by
          rcases List.mem_append.mp hq with z | z
          · exact gc.ip q z
          · exact fun z2 => (f5 q.1 (of_pinsAt z).1).2.2.2.2.2 (S, lstObj acc cc) (List.mem_append_right _ List.mem_cons_self) z2.symm
        have gb : GC X S (ip ++ pinsAt fp s5.heap) A (.forLoop tg (.ref it) body [] X.env) (waits K J gd lv X.env c p :: fs) id :=
          let g0 := gl (fun r => ((match r with | .ok f => (.pure f : Sem Flow) | .error e => .raise e).onRaise (cameBack X.env)).wrap K J gd lv)
          ⟨g0.pn, hipA, g0.apart, g0.over, g0.split, g0.guard, g0.gd⟩
        have again : ∀ {n' : Nat} {ys' : List V} {s₀' s7 : Shared} {σ7 : L2.St} {H7 : Hp}, n' + ys'.length = sizeLine → GI X S (ip ++ pinsAt fp s5.heap) ys' σ7 H7 s7 → N ys' σ7 H7 →
            Seg (model X.prog X.w) A R (GY X S) n' s₀' (.forLoop tg (.ref it) body [] X.env) (.pure (.again (.forLoop tg (.ref it) body [] X.env))) (waits K J gd lv X.env c p :: fs) s7 := fun {n' ys' s₀' s7 σ7 H7} hn' I7 n7 => by
          obtain ⟨m', hm, w7⟩ := hN ys' σ7 H7 n7
          obtain ⟨acc7, cc7, r7, I7⟩ := I7
          have pin7 : ∀ b ∈ fp, ∀ o, s5.heap.get? b = some o → s7.heap.get? b = some o ∧ H7 b = none := fun b hb o e => by
            have q := I7.pin (b, o) (List.mem_append_right _ (List.mem_cons_of_mem _ (List.mem_append_right _ (mem_pinsAt hb e))))
            exact ⟨q.1, q.2.1⟩
          refine seg_again rfl (ih m' hm n' (i + 1) ys' s₀' s7 σ7 H7 hn' w7 ⟨acc7, cc7, r7, ?_⟩ (T.keep _ _ _ st5 fun b hb o e => (pin7 b hb o e).1) fun b hb => ?_)
          · refine I7.pins_of fun q hq => I7.pin q ?_
            rcases List.mem_cons.mp hq with z | z
            · rw [z]; exact List.mem_append_right _ List.mem_cons_self
            · exact List.mem_append_right _ (List.mem_cons_of_mem _ (List.mem_append_left _ z))
          · obtain ⟨o, e, _⟩ := T.obj _ _ st5 b hb
            exact ⟨(pin7 b hb o e).2, (hfp b hb).2⟩
        refine hb.run A S (ip ++ pinsAt fp s5.heap) R n ys s₀ _ _ _ _ id id s6 σ6 H6 { D with nx := N, ct := N, bk := D.nx } gb hn ⟨fun n' ys' s₀' s7 f hn' hs7 => ?_, fun n' s₀' x s7 hx => ee n' s₀' x s7 hx⟩ ⟨acc, cc, r, I6⟩ q6
        cases f with
        | next =>
          obtain ⟨σ7, H7, I7, n7⟩ := hs7
          exact again hn' I7 n7
        | cont =>
          obtain ⟨σ7, H7, I7, n7⟩ := hs7
          exact again hn' I7 n7
        | brk =>
          obtain ⟨σ7, H7, ⟨acc7, cc7, r7, I7⟩, n7⟩ := hs7
          refine seg_leaf (.ok .next) (k.ok n' ys' s₀' s7 .next hn' ⟨σ7, H7, ⟨acc7, cc7, r7, I7.pins_of fun q hq => I7.pin q ?_⟩, n7⟩)
          rcases List.mem_cons.mp hq with z | z
          · rw [z]; exact List.mem_append_right _ List.mem_cons_self
          · exact List.mem_append_right _ (List.mem_cons_of_mem _ (List.mem_append_left _ z))
        | ret v =>
          obtain ⟨x7, σ7, H7, ⟨acc7, cc7, r7, I7⟩, rv, n7⟩ := hs7
          refine seg_leaf (.ok (.ret v)) (k.ok n' ys' s₀' s7 (.ret v) hn' ⟨x7, σ7, H7, ⟨acc7, cc7, r7, I7.pins_of fun q hq => I7.pin q ?_⟩, rv, n7⟩)
          rcases List.mem_cons.mp hq with z | z
          · rw [z]; exact List.mem_append_right _ List.mem_cons_self
          · exact List.mem_append_right _ (List.mem_cons_of_mem _ (List.mem_append_left _ z))
  exact loop m0 n 0 ys s₀ s2 σ H2 hn w0 ⟨acc0, cc0, r0, I2⟩ st2 f2
end Tb
set_option Elab.async false
set_option linter.all false
set_option maxRecDepth 100000
set_option maxHeartbeats 4000000
/-! A generator whose consumer changes the heap while it sleeps: each turn starts from the heap as it stands. -/
namespace Tb
open PySem PySem.Spec PyProof.Rows L2 GenW

/-! ### a heap cut off -/
def cutH (h : Heap) (n : Nat) : Heap := { h with objs := h.objs.extract 0 n }
abbrev cutS (s : Shared) (n : Nat) : Shared := { s with heap := cutH s.heap n }
theorem cutH_get {h : Heap} {n : Nat} {b : Addr} (hb : b < n) : (cutH h n).get? b = h.get? b := by
  have e : (h.objs.extract 0 n)[b]? = h.objs[b]? := by
    rw [Array.getElem?_extract]
    split
    · rw [Nat.zero_add]
    · rename_i z
      have z' : ¬ b < min n h.objs.size - 0 := z
      have : h.objs.size ≤ b := by
        rcases Nat.lt_or_ge b h.objs.size with q | q
        · exact absurd (by rw [Nat.sub_zero]; exact Nat.lt_min.mpr ⟨hb, q⟩) z'
        · exact q
      rw [Array.getElem?_eq_none this]
  unfold Heap.get? cutH
  simp only
  rw [e]
theorem cutH_lt {h : Heap} {n : Nat} {b : Addr} {o : Obj} (e : (cutH h n).get? b = some o) : b < n := by
  have z := Heap.lt_size e
  have z' : b < (h.objs.extract 0 n).size := z
  rw [Array.size_extract, Nat.sub_zero] at z'
  exact Nat.lt_of_lt_of_le z' (Nat.min_le_left _ _)
theorem cutH_of {h : Heap} {n : Nat} {b : Addr} {o : Obj} (e : (cutH h n).get? b = some o) : h.get? b = some o := by
  rw [← cutH_get (cutH_lt e)]; exact e
theorem cutH_size {h : Heap} {n : Nat} (hn : n ≤ h.objs.size) : (cutH h n).objs.size = n := by
  show (h.objs.extract 0 n).size = n
  rw [Array.size_extract, Nat.sub_zero]
  exact Nat.min_eq_left hn
theorem cut_frames {h base : Heap} {n : Nat} : ∀ {l : List Env}, h.FunFrames base l → (∀ b ∈ frs l, b < n) → (cutH h n).FunFrames base l
  | [], _, _ => trivial
  | env :: rest, ⟨hk, ⟨L, o, hf, hb, ho, hd⟩, hr⟩, hn => by
    refine ⟨hk, ⟨L, o, hf, hb, ?_, hd⟩, cut_frames hr fun b hb => hn b ?_⟩
    · rw [cutH_get (hn L ?_)]
      · exact ho
      · unfold frs; rw [List.filterMap_cons, hf]; exact List.mem_cons_self
    · unfold frs at hb ⊢
      rw [List.filterMap_cons, hf]
      exact List.mem_cons_of_mem _ hb

/-- the context, entered anew -/
abbrev Reb (X : Cx) (s0 : Shared) (H0 : Hp) : Cx := { X with s_0 := s0, H_0 := H0 }
def PinOk (X : Cx) (h : Heap) (H : Hp) (p : Addr × Obj) : Prop := h.get? p.1 = some p.2 ∧ H p.1 = none ∧ p.1 ≠ X.env.locals ∧ p.1 ∉ X.fs ∧ ∀ v, p.2.data ≠ .cell v
theorem reb {X : Cx} {pins pins' : List (Addr × Obj)} {σ : L2.St} {H H' : Hp} {s s' : Shared} {A' : Around} {n0 : Nat} (I : Inv X pins σ H s) (h0 : n0 = X.s_0.heap.objs.size) (hc : X.env.cells = []) (hex : X.ex = []) (hpn : X.pn = [])
    (e : Env0 X.prog X.w X.K X.mg X.base A' X.outer s' H') (hL : ∀ o, s.heap.get? X.env.locals = some o → s'.heap.get? X.env.locals = some o) (hHL : H' X.env.locals = none) (hn : n0 ≤ s'.heap.objs.size)
    (hp : ∀ p ∈ pins', PinOk X s'.heap H' p) : Inv (Reb X (cutS s' n0) H') pins' σ H' s' := by
  have nocell : ∀ x c, X.env.cells.lookup x = some c → False := fun x c z => by rw [hc] at z; cases z
  have noex : ∀ b, b ∉ X.ex := fun b z => by rw [hex] at z; cases z
  have hsz : (cutH s'.heap n0).objs.size = n0 := cutH_size hn
  have frlt : ∀ b ∈ X.fs, b < n0 := fun b hb => by
    obtain ⟨_, o, ho, _⟩ := I.ok.funs.mem hb
    rw [h0]; exact Heap.lt_size ho
  have baselt : ∀ b o, X.base.get? b = some o → b < n0 := fun b o z => by
    rw [h0]; exact Nat.lt_of_lt_of_le (Heap.lt_size z) I.ok.bsz
  refine ⟨⟨I.ok.mod, I.ok.kind, I.ok.glob, I.ok.blt, ?_, I.ok.inj, I.ok.has, fun x c _ z => (nocell x c z).elim, I.ok.hd, I.ok.frames, I.ok.stk, fun b z => (noex b z).elim, fun b o z => ⟨?_, (e.bs b o z).2⟩, ?_, fun b o _ => noex b, fun b z => (noex b z).elim, cut_frames e.funs frlt, e.frf⟩,
    rfl, e.bare, ?_, ?_, fun x c z => (nocell x c z).elim, hHL, fun x c z => (nocell x c z).elim, fun p q => ?_, e.hok, I.len⟩
  · show (cutH s'.heap n0).objs.size ≤ X.env.locals
    rw [hsz, h0]; exact I.ok.above
  · show (cutH s'.heap n0).get? b = some o
    rw [cutH_get (baselt b o z)]; exact (e.bs b o z).1
  · show X.base.objs.size ≤ (cutH s'.heap n0).objs.size
    rw [hsz, h0]; exact I.ok.bsz
  · show Un X.fs X.ex H' H' (cutH s'.heap n0) s'.heap
    rw [hex]
    exact Un.kept fun b u z => cutH_of z
  · obtain ⟨m, ⟨o, es, ep, ho, r⟩, l⟩ := I.loc
    refine ⟨m, ⟨o, es, ep, hL o ho, r⟩, fun i x v a b c => ?_⟩
    obtain ⟨u, ru, lk⟩ := l i x v a b c
    refine ⟨u, ru, ?_⟩
    rcases lk with z | ⟨_, c', z, _⟩
    · exact .inl z
    · exact (nocell x c' z).elim
  · have q' : p ∈ pins' := by
      rcases List.mem_append.mp q with z | z
      · exact absurd (show p ∈ X.pn from z) (by rw [hpn]; exact List.not_mem_nil)
      · exact z
    exact hp p q'

/-! ### all that is untracked, pinned -/
noncomputable def keepers (h : Heap) (H : Hp) (fs priv : List Addr) : List Addr := (List.range h.objs.size).filter fun b => @decide (H b = none ∧ b ∉ fs ∧ b ∉ priv ∧ ∀ o v, h.get? b = some o → o.data ≠ .cell v) (Classical.propDecidable _)
noncomputable abbrev allP (h : Heap) (H : Hp) (fs priv : List Addr) : List (Addr × Obj) := pinsAt (keepers h H fs priv) h
theorem mem_allP {h : Heap} {H : Hp} {fs priv : List Addr} {b : Addr} {o : Obj} (e : h.get? b = some o) (n : H b = none) (hf : b ∉ fs) (hp : b ∉ priv) (hd : ∀ v, o.data ≠ .cell v) : (b, o) ∈ allP h H fs priv := by
  refine mem_pinsAt (List.mem_filter.mpr ⟨List.mem_range.mpr (Heap.lt_size e), ?_⟩) e
  refine @decide_eq_true _ (Classical.propDecidable _) ?_
  exact ⟨n, hf, hp, fun o' v e' => by rw [e] at e'; cases e'; exact hd v⟩
theorem of_allP {h : Heap} {H : Hp} {fs priv : List Addr} {p : Addr × Obj} (hp : p ∈ allP h H fs priv) : h.get? p.1 = some p.2 ∧ H p.1 = none ∧ p.1 ∉ fs ∧ p.1 ∉ priv ∧ ∀ v, p.2.data ≠ .cell v := by
  obtain ⟨h1, h2⟩ := of_pinsAt hp
  have h3 := @of_decide_eq_true _ (Classical.propDecidable _) (List.mem_filter.mp h1).2
  exact ⟨h2, h3.1, h3.2.1, h3.2.2.1, fun v => h3.2.2.2 _ v h2⟩

/-- a generator's turn, as its consumer sees it: pv: the generator's own objects -/
structure Trn (P : Program) (w : World) (outer : List Env) (n0 : Nat) (pv : List Addr) (H0 : Hp) (s0 : Shared) (H1 : Hp) (s1 : Shared) : Prop where
  os : s1.os = s0.os
  bare : AllBare s1.gens
  hok : HOk P w H1 s1.heap
  un : ∃ ex, Un (frs outer) ex H0 H1 s0.heap s1.heap ∧ ∀ b ∈ ex, n0 ≤ b ∧ (b ∈ pv ∨ (∃ o v, s0.heap.get? b = some o ∧ o.data = .cell v) ∨ s1.heap.get? b = none)
  kp : ∀ b o, s0.heap.get? b = some o → H0 b = none → b ∉ frs outer → b ∉ pv → (∀ v, o.data ≠ .cell v) → s1.heap.get? b = some o ∧ H1 b = none
theorem trn_of {X : Cx} {pins : List (Addr × Obj)} {σ : L2.St} {H0 H1 : Hp} {s0 s1 : Shared} {n0 : Nat} {pv : List Addr} (I : Inv (Reb X (cutS s0 n0) H0) pins σ H1 s1) (hex : X.ex = []) (hn : n0 ≤ s0.heap.objs.size)
    (hp : ∀ b o, s0.heap.get? b = some o → H0 b = none → b ∉ X.fs → b ∉ pv → (∀ v, o.data ≠ .cell v) → (b, o) ∈ pins) (hpv : ∀ b ∈ pv, n0 ≤ b) (hfs : ∀ b ∈ X.fs, b < n0) : Trn X.prog X.w X.outer n0 pv H0 s0 H1 s1 := by
  have noex : ∀ b, b ∉ X.ex := fun b z => by rw [hex] at z; cases z
  have base : Un X.fs X.ex H0 H1 (cutH s0.heap n0) s1.heap := I.base
  have kp : ∀ b o, s0.heap.get? b = some o → H0 b = none → b ∉ X.fs → b ∉ pv → (∀ v, o.data ≠ .cell v) → s1.heap.get? b = some o ∧ H1 b = none := fun b o e n f p d => by
    have q := I.pin (b, o) (List.mem_append_right _ (hp b o e n f p d))
    exact ⟨q.1, q.2.1⟩
  let ex : List Addr := (List.range s0.heap.objs.size).filter fun b => @decide (n0 ≤ b ∧ (b ∈ pv ∨ (∃ o v, s0.heap.get? b = some o ∧ o.data = .cell v) ∨ s1.heap.get? b = none)) (Classical.propDecidable _)
  have memex : ∀ b, b ∈ ex → n0 ≤ b ∧ (b ∈ pv ∨ (∃ o v, s0.heap.get? b = some o ∧ o.data = .cell v) ∨ s1.heap.get? b = none) := fun b hb => by
    exact @of_decide_eq_true _ (Classical.propDecidable _) (List.mem_filter.mp hb).2
  have exmem : ∀ b o, s0.heap.get? b = some o → n0 ≤ b → (b ∈ pv ∨ (∃ o v, s0.heap.get? b = some o ∧ o.data = .cell v) ∨ s1.heap.get? b = none) → b ∈ ex := fun b o e h1 h2 => by
    refine List.mem_filter.mpr ⟨List.mem_range.mpr (Heap.lt_size e), ?_⟩
    exact @decide_eq_true _ (Classical.propDecidable _) ⟨h1, h2⟩
  have cut : ∀ b o, s0.heap.get? b = some o → b < n0 → (cutH s0.heap n0).get? b = some o := fun b o e z => by rw [cutH_get z]; exact e
  have young : ∀ b o, s0.heap.get? b = some o → H0 b = none → b ∉ ex → n0 ≤ b → s1.heap.get? b = some o ∧ H1 b = none := fun b o e n hx z => by
    refine kp b o e n (fun f => absurd (hfs b f) (Nat.not_lt.mpr z)) (fun p => hx (exmem b o e z (.inl p))) fun v d => hx (exmem b o e z (.inr (.inl ⟨o, v, e, d⟩)))
  refine ⟨I.os, I.bare, I.hok, ⟨ex, ⟨fun b o e n f x => ?_, fun b o e n f x => ?_, fun b o e n x => ?_, fun b o e x => ?_, base.tups, base.frzs, base.tbls⟩, memex⟩, kp⟩
  · by_cases z : b < n0
    · exact base.keep b o (cut b o e z) n f (noex b)
    · exact (young b o e n x (Nat.not_lt.mp z)).1
  · exact base.slot b o (cut b o e (hfs b f)) n f (noex b)
  · by_cases z : b < n0
    · exact base.free b o (cut b o e z) n (noex b)
    · exact (young b o e n x (Nat.not_lt.mp z)).2
  · by_cases z : b < n0
    · exact base.there b o (cut b o e z) (noex b)
    · cases q : s1.heap.get? b with
      | some o' => exact ⟨o', rfl⟩
      | none => exact absurd (exmem b o e (Nat.not_lt.mp z) (.inr (.inr q))) x
/-- the consumer behind a turn -/
theorem turnG {X : Cx} {pins : List (Addr × Obj)} {σ : L2.St} {H0 H1 : Hp} {s0 s1 : Shared} {n0 : Nat} {pv : List Addr} (I : Inv X pins σ H0 s0) (T : Trn X.prog X.w X.stack n0 pv H0 s0 H1 s1) (h0 : X.s_0.heap.objs.size ≤ n0) (hL : X.env.locals < n0)
    (hc : ∀ x c, X.env.cells.lookup x = some c → c < n0) (hp : ∀ p ∈ X.pn ++ pins, p.1 ∉ pv) : Inv X pins σ H1 s1 := by
  obtain ⟨ex, un, hx⟩ := T.un
  refine I.call' T.os un T.hok T.bare fun b hb => ?_
  obtain ⟨z1, z2⟩ := hx b hb
  refine ⟨.inr (Nat.le_trans h0 z1), Nat.ne_of_gt (Nat.lt_of_lt_of_le hL z1), fun x c q => Nat.ne_of_lt (Nat.lt_of_lt_of_le (hc x c q) z1), fun p q e => ?_⟩
  obtain ⟨q1, q2, q3, q4, q5⟩ := I.pin p q
  rcases z2 with z | ⟨o, v, z, d⟩ | z
  · exact hp p q (e ▸ z)
  · rw [← e, q1] at z
    cases z
    exact q5 v d
  · have hst : p.1 ∉ frs X.stack := fun m => (List.mem_cons.mp (I.stkSub p.1 m)).elim q3 q4
    have := (T.kp p.1 p.2 q1 q2 hst (hp p q) q5).1
    rw [e, z] at this
    cases this
end Tb
set_option Elab.async false
set_option linter.all false
set_option maxRecDepth 100000
set_option maxHeartbeats 4000000
/-! for x in iter: st; yield e: a generator under any consumer. -/
namespace Tb
open PySem PySem.Spec PyProof.Rows L2 GenW

/-- what the consumer knows at a wake (n: items that are left), what is its own -/
abbrev CVt := Nat → Shared → Hp → Prop
def CvOk (CV : CVt) (Mine : Addr → Prop) (outer : List Env) : Prop := ∀ n s H b, CV n s H → Mine b → H b = none ∧ b ∉ frs outer ∧ ∃ o, s.heap.get? b = some o ∧ ∀ v, o.data ≠ .cell v
/-- a wake of the generator whose own objects are pv, asleep since s1 -/
structure Awk (P : Program) (w : World) (K : PySem.W.Frag) (mg : Str → Option Value) (base : Heap) (outer : List Env) (n0 : Nat) (pv : List Addr) (H1 : Hp) (s1 : Shared) (H2 : Hp) (s2 : Shared) : Prop where
  env : ∃ A', Env0 P w K mg base A' outer s2 H2
  same : Same H1 H2
  own : ∀ b ∈ pv, H2 b = none ∧ ∀ o, s1.heap.get? b = some o → s2.heap.get? b = some o
  size : n0 ≤ s2.heap.objs.size
def YI (P : Program) (w : World) (K : PySem.W.Frag) (mg : Str → Option Value) (base : Heap) (outer : List Env) (n0 : Nat) (CV : CVt) (Mine : Addr → Prop) (YL : Nat → V → Hp → Hp → Prop) : Protocol := fun n s0 v s1 kap =>
  ∃ (x : V) (H0 H1 : Hp) (pv : List Addr), RelV x v ∧ CV (n + 1) s0 H0 ∧ YL n x H0 H1 ∧ Trn P w outer n0 pv H0 s0 H1 s1 ∧ (∀ b ∈ pv, n0 ≤ b ∧ ¬ Mine b ∧ H1 b = none ∧ ∃ o, s1.heap.get? b = some o ∧ ∀ v, o.data ≠ .cell v) ∧
    ∀ s2 H2, Awk P w K mg base outer n0 pv H1 s1 H2 s2 → CV n s2 H2 → kap (.send .none) s2
def FI (P : Program) (w : World) (outer : List Env) (n0 : Nat) (CV : CVt) (Mine : Addr → Prop) (YE : Hp → Hp → Prop) (n : Nat) (s0 s1 : Shared) : Prop :=
  n = 0 ∧ ∃ (H0 H1 : Hp) (pv : List Addr), CV 0 s0 H0 ∧ YE H0 H1 ∧ Trn P w outer n0 pv H0 s0 H1 s1 ∧ ∀ b ∈ pv, ¬ Mine b
def RI (P : Program) (w : World) (outer : List Env) (n0 : Nat) (CV : CVt) (Mine : Addr → Prop) (YE : Hp → Hp → Prop) : GenEnd := fun n s0 r s1 =>
  ((r = .ok (.ret .none) ∨ r = .ok .next) ∧ FI P w outer n0 CV Mine YE n s0 s1) ∨ ∃ e, r = .error e ∧ False
/-- the reading of such a loop: W i H0 σ H: i items are out, H0 was the heap at the last wake -/
def tGI (wi : TI) (g : TG) (t1 : TS) (te : TE) (N : Nat) (YL : Nat → V → Hp → Hp → Prop) (YE : Hp → Hp → Prop) (σ : L2.St) (H : Hp) : Prop := wi σ H fun J H1 => ∃ W : Nat → Hp → L2.St → Hp → Prop, W 0 H σ H1 ∧
  (∀ H0 σ H, W N H0 σ H → J.stop N H ∧ YE H0 H) ∧
  ∀ i m H0 σ H, m + 1 + i = N → W i H0 σ H → J.go i H ∧ ∀ x H', J.yld i H x H' → g x σ H' fun σ2 H2 => t1 { nx := fun σ3 H3 => te σ3 H3 fun y H4 => YL m y H0 H4 ∧ ∀ H5, Same H4 H5 → W (i + 1) H5 σ3 H5, rt := fun _ _ => False } σ2 H2

section
variable {X : Cx} {A : Around} {tg e : Expr} {st : Stmt} {yp p1 p : Pos} {J : It} {g : TG} {t1 : TS} {te : TE} {N n0 : Nat} {CV : CVt} {Mine : Addr → Prop} {YL : Nat → V → Hp → Hp → Prop} {YE : Hp → Hp → Prop} {W : Nat → Hp → L2.St → Hp → Prop}
  {fp : List Addr} {it : Addr} {tn : Nat → Heap → Prop} {bd : List Stmt} {KK : Flow → Sem PySem.Fin} {JJ : Value → Sem PySem.Fin}
theorem loop_genI (hov : A.deeper X.env = X.A) (hxe : X.xe = fun _ _ => False) (hcalm : X.calm = true) (hcell : X.env.cells = []) (hex : X.ex = []) (hpn : X.pn = [])
    (hg : ∀ s0 H0, PG (Reb X s0 H0) tg g) (h1 : ∀ s0 H0, PS (Reb X s0 H0) st t1) (he : ∀ s0 H0, PE (Reb X s0 H0) e te) (hco : X.env.scope.isCoroutine = false) (hint : interactive X.env = false)
    (T : Turn X.prog X.w X.K tg J fp it tn) (hmL : ¬ Mine X.env.locals) (hmF : ∀ b ∈ fp, ¬ Mine b)
    (hstop : ∀ H0 σ H, W N H0 σ H → J.stop N H ∧ YE H0 H)
    (hstep : ∀ i m H0 σ H, m + 1 + i = N → W i H0 σ H → J.go i H ∧ ∀ x H', J.yld i H x H' → g x σ H' fun σ2 H2 => t1 { nx := fun σ3 H3 => te σ3 H3 fun y H4 => YL m y H0 H4 ∧ ∀ H5, Same H4 H5 → W (i + 1) H5 σ3 H5, rt := fun _ _ => False } σ2 H2)
    (hK : ∀ s₀ s, RI X.prog X.w X.outer n0 CV Mine YE 0 s₀ (.ok (.ret .none)) s → Seg (model X.prog X.w) A (RI X.prog X.w X.outer n0 CV Mine YE) (YI X.prog X.w X.K X.mg X.base X.outer n0 CV Mine YL) 0 s₀ (.func bd X.env) (KK .next) [] s) :
    ∀ (m i : Nat) (s₀ s : Shared) (H0 : Hp) (σ : L2.St) (H : Hp) (pins : List (Addr × Obj)), m + i = N → W i H0 σ H → CV m s₀ H0 → n0 ≤ s₀.heap.objs.size → Inv (Reb X (cutS s₀ n0) H0) pins σ H s → tn i s.heap → (∀ b ∈ fp, FpOk (Reb X (cutS s₀ n0) H0) pins H b) →
      (∀ b o, s₀.heap.get? b = some o → H0 b = none → b ∉ X.fs → b ∉ X.env.locals :: fp → (∀ v, o.data ≠ .cell v) → (b, o) ∈ pins) →
      Seg (model X.prog X.w) A (RI X.prog X.w X.outer n0 CV Mine YE) (YI X.prog X.w X.K X.mg X.base X.outer n0 CV Mine YL) m s₀ (.forLoop tg (.ref it) [st, .Expr (.Yield (some e) yp) p1] [] X.env)
        ((model X.prog X.w).den (.forLoop tg (.ref it) [st, .Expr (.Yield (some e) yp) p1] [] X.env)) [waits KK JJ id id X.env (.func bd X.env) p] s := by
  have hov' : A.over (.forLoop tg (.ref it) [st, .Expr (.Yield (some e) yp) p1] [] X.env) [waits KK JJ id id X.env (.func bd X.env) p] = X.A := (over_loop rfl rfl).trans (over_func.trans hov)
  have dead : ∀ (s0 : Shared) (H0 : Hp) (x : Value) (s' : Shared), (Reb X s0 H0).xe x s' → False := fun s0 H0 x s' hx => by
    have q : X.xe x s' := hx
    rw [hxe] at q
    exact q
  -- the turn's end
  have out : ∀ {s₀ s : Shared} {H0 H : Hp} {σ : L2.St} {pins : List (Addr × Obj)}, n0 ≤ s₀.heap.objs.size → Inv (Reb X (cutS s₀ n0) H0) pins σ H s → (∀ b ∈ fp, FpOk (Reb X (cutS s₀ n0) H0) [] H b) →
      (∀ b o, s₀.heap.get? b = some o → H0 b = none → b ∉ X.fs → b ∉ X.env.locals :: fp → (∀ v, o.data ≠ .cell v) → (b, o) ∈ pins) → Trn X.prog X.w X.outer n0 (X.env.locals :: fp) H0 s₀ H s ∧ ∀ b ∈ X.env.locals :: fp, n0 ≤ b := fun {s₀ s H0 H σ pins} hn I hfp hpins => by
    have hsz : (cutH s₀.heap n0).objs.size = n0 := cutH_size hn
    have hpv : ∀ b ∈ X.env.locals :: fp, n0 ≤ b := fun b hb => by
      rcases List.mem_cons.mp hb with z | z
      · rw [z]
        have q : (cutH s₀.heap n0).objs.size ≤ X.env.locals := I.ok.above
        rwa [hsz] at q
      · rcases (hfp b z).2.2.2.1 with q | q
        · have q' : b ∈ X.ex := q
          rw [hex] at q'; cases q'
        · have q' : (cutH s₀.heap n0).objs.size ≤ b := q
          rwa [hsz] at q'
    refine ⟨trn_of I hex hn hpins hpv fun b hb => ?_, hpv⟩
    obtain ⟨_, o, ho, _⟩ := I.ok.funs.mem hb
    exact cutH_lt ho
  intro m
  induction m with
  | zero =>
    intro i s₀ s H0 σ H pins hmi hW hcv hn I hst hfp hpins
    have hi : i = N := by omega
    subst hi
    obtain ⟨stop, qe⟩ := hstop H0 σ H hW
    refine seg_forLoop ?_
    rw [hov']
    refine wpAny_mono (T.done (Reb X (cutS s₀ n0) H0) rfl rfl rfl hcalm i pins s σ H (Reb X (cutS s₀ n0) H0).xe I hfp hst stop) (fun rr s4 hrr => ?_) fun x s' hx => (dead _ _ x s' hx).elim
    obtain ⟨hr, I4⟩ := hrr
    subst hr
    refine seg_again rfl (seg_blockNil ?_)
    refine seg_leaf (.ok .next) (hK s₀ s4 (.inl ⟨.inl rfl, rfl, H0, H, X.env.locals :: fp, hcv, qe, (out hn I4 (fun b hb => ⟨(hfp b hb).1, (hfp b hb).2.1, (hfp b hb).2.2.1, (hfp b hb).2.2.2.1, (hfp b hb).2.2.2.2.1, fun q hq => ?_⟩) hpins).1, fun b hb => ?_⟩))
    · have q' : q ∈ X.pn ++ [] := hq
      rw [hpn] at q'; cases q'
    · rcases List.mem_cons.mp hb with z | z
      · rw [z]; exact hmL
      · exact hmF b z
  | succ m ih =>
    intro i s₀ s H0 σ H pins hmi hW hcv hn I hst hfp hpins
    obtain ⟨go, step⟩ := hstep i m H0 σ H hmi hW
    refine seg_forLoop ?_
    rw [hov']
    refine wpAny_mono (T.item (Reb X (cutS s₀ n0) H0) rfl rfl rfl hcalm i pins s σ H (Reb X (cutS s₀ n0) H0).xe I hfp hst go) (fun rr s4 hrr => ?_) fun x s' hx => (dead _ _ x s' hx).elim
    obtain ⟨u, hr, h4⟩ := hrr
    subst hr
    refine wpAny_mono h4 (fun _ s5 h5 => ?_) fun x s' hx => (dead _ _ x s' hx).elim
    obtain ⟨x, H5, I5, r5, y5, st5, fr5⟩ := h5
    have f5 : ∀ b ∈ fp, FpOk (Reb X (cutS s₀ n0) H0) pins H5 b := fun b hb => ⟨fr5 b hb, (hfp b hb).2⟩
    have I5' := I5.pinned f5 (T.obj _ _ st5)
    refine wpAny_mono ((hg (cutS s₀ n0) H0).run _ s5 σ H5 x u _ I5' r5 (step x H5 y5)) (fun _ s6 h6 => ?_) fun x s' hx => (dead _ _ x s' hx).elim
    obtain ⟨σ6, H6, I6, q6⟩ := h6
    refine seg_execs_cons (seg_wrap ?_)
    rw [hov']
    refine wpAny_mono ((h1 (cutS s₀ n0) H0).run _ s6 σ6 H6 _ I6 q6) (fun f s7 h7 => ?_) fun x s' hx => (dead _ _ x s' hx).elim
    cases f with
    | brk => exact h7.elim fun _ q => q.elim fun _ q => q.2.elim
    | cont => exact h7.elim fun _ q => q.elim fun _ q => q.2.elim
    | ret v => exact h7.elim fun _ q => q.elim fun _ q => q.elim fun _ q => q.2.2.elim
    | next =>
      obtain ⟨σ7, H7, I7, q7⟩ := h7
      refine seg_execs_cons (seg_Expr_Yield rfl rfl rfl ?_ hco hint)
      rw [hov']
      refine wpAny_mono ((he (cutS s₀ n0) H0).run _ s7 σ7 H7 _ I7 q7) (fun v s8 h8 => ?_) fun x s' hx => (dead _ _ x s' hx).elim
      obtain ⟨y, H8, I8, ry, qy, qW⟩ := h8
      intro kap hk
      have pin8 : ∀ b ∈ fp, ∀ o, s5.heap.get? b = some o → s8.heap.get? b = some o ∧ H8 b = none ∧ ∀ v, o.data ≠ .cell v := fun b hb o eo => by
        have q := I8.pin (b, o) (List.mem_append_right _ (List.mem_append_right _ (mem_pinsAt hb eo)))
        exact ⟨q.1, q.2.1, q.2.2.2.2⟩
      have free8 : ∀ b ∈ fp, H8 b = none := fun b hb => by
        obtain ⟨o, eo, _⟩ := T.obj _ _ st5 b hb
        exact (pin8 b hb o eo).2.1
      have fp0 : ∀ b ∈ fp, FpOk (Reb X (cutS s₀ n0) H0) [] H8 b := fun b hb => ⟨free8 b hb, (hfp b hb).2.1, (hfp b hb).2.2.1, (hfp b hb).2.2.2.1, (hfp b hb).2.2.2.2.1, fun q hq => by
        have q' : q ∈ X.pn ++ [] := hq
        rw [hpn] at q'; cases q'⟩
      obtain ⟨hT, hpv⟩ := out hn I8 fp0 fun b o a1 a2 a3 a4 a5 => List.mem_append_left _ (hpins b o a1 a2 a3 a4 a5)
      refine ⟨y, H0, H8, X.env.locals :: fp, ry, hcv, qy, hT, fun b hb => ⟨hpv b hb, ?_⟩, fun s2 H2 aw hcv2 => hk .none s2 ?_⟩
      · rcases List.mem_cons.mp hb with z | z
        · rw [z]
          obtain ⟨mm, ⟨o, es, ep, ho, hd, _⟩, _⟩ := I8.loc
          exact ⟨hmL, I8.free, o, ho, fun v q => by rw [hd] at q; cases q⟩
        · obtain ⟨o, eo, _⟩ := T.obj _ _ st5 b z
          obtain ⟨z1, z2, z3⟩ := pin8 b z o eo
          exact ⟨hmF b z, z2, o, z1, z3⟩
      · obtain ⟨A', e2⟩ := aw.env
        have own := aw.own
        refine seg_execs_nil (seg_again rfl (ih (i + 1) s2 s2 H2 σ7 H2 (allP s2.heap H2 X.fs (X.env.locals :: fp)) (by omega) (qW H2 aw.same) hcv2 aw.size ?_ ?_ ?_ ?_))
        · refine reb (X := Reb X (cutS s₀ n0) H0) (n0 := n0) I8 (cutH_size hn).symm hcell hex hpn e2 (fun o eo => (own _ List.mem_cons_self).2 o eo) (own _ List.mem_cons_self).1 aw.size fun q hq => ?_
          obtain ⟨z1, z2, z3, z4, z5⟩ := of_allP hq
          exact ⟨z1, z2, fun z => z4 (List.mem_cons.mpr (.inl z)), z3, z5⟩
        · exact T.keep _ _ _ st5 fun b hb o eo => (own b (List.mem_cons_of_mem _ hb)).2 o (pin8 b hb o eo).1
        · intro b hb
          refine ⟨(own b (List.mem_cons_of_mem _ hb)).1, (hfp b hb).2.1, (hfp b hb).2.2.1, .inr ?_, (hfp b hb).2.2.2.2.1, fun q hq => ?_⟩
          · show (cutH s2.heap n0).objs.size ≤ b
            rw [cutH_size aw.size]
            exact hpv b (List.mem_cons_of_mem _ hb)
          · have q' : q ∈ X.pn ++ allP s2.heap H2 X.fs (X.env.locals :: fp) := hq
            rw [hpn, List.nil_append] at q'
            obtain ⟨_, _, _, z4, _⟩ := of_allP q'
            exact fun z => z4 (List.mem_cons_of_mem _ (z ▸ hb))
        · exact fun b o a1 a2 a3 a4 a5 => mem_allP a1 a2 a3 a4 a5
end
end Tb
namespace Tb
open PySem PySem.Spec PyProof.Rows L2 GenW
section
variable {X : Cx} {A : Around} {tg iter e : Expr} {st : Stmt} {yp p1 p2 : Pos} {wi : TI} {g : TG} {t1 : TS} {te : TE} {N n0 : Nat} {CV : CVt} {Mine : Addr → Prop} {YL : Nat → V → Hp → Hp → Prop} {YE : Hp → Hp → Prop}
theorem seg_genI (hov : A.deeper X.env = X.A) (hxe : X.xe = fun _ _ => False) (hcalm : X.calm = true) (hcell : X.env.cells = []) (hex : X.ex = []) (hpn : X.pn = [])
    (hi : ∀ s0 H0, PI (Reb X s0 H0) tg iter wi) (hg : ∀ s0 H0, PG (Reb X s0 H0) tg g) (h1 : ∀ s0 H0, PS (Reb X s0 H0) st t1) (he : ∀ s0 H0, PE (Reb X s0 H0) e te) (hco : X.env.scope.isCoroutine = false) (hint : interactive X.env = false)
    (hmL : ¬ Mine X.env.locals) (hCV : CvOk CV Mine X.outer) (hs : ∀ x, foldedSetIterable iter X.env x = pure x)
    {s2 : Shared} {H2 : Hp} {σ0 : L2.St} (I : Inv (Reb X (cutS s2 n0) H2) (allP s2.heap H2 X.fs [X.env.locals]) σ0 H2 s2) (hn : n0 ≤ s2.heap.objs.size) (hcv : CV N s2 H2) (ht : tGI wi g t1 te N YL YE σ0 H2) :
    Seg (model X.prog X.w) A (RI X.prog X.w X.outer n0 CV Mine YE) (YI X.prog X.w X.K X.mg X.base X.outer n0 CV Mine YL) N s2 (.func [.For tg iter [st, .Expr (.Yield (some e) yp) p1] [] p2] X.env)
      ((model X.prog X.w).den (.func [.For tg iter [st, .Expr (.Yield (some e) yp) p1] [] p2] X.env)) [] s2 := by
  have dead : ∀ (s0 : Shared) (H0 : Hp) (x : Value) (s' : Shared), (Reb X s0 H0).xe x s' → False := fun s0 H0 x s' hx => by
    have q : X.xe x s' := hx
    rw [hxe] at q
    exact q
  refine seg_func (seg_execs_cons (seg_For ?_ hs))
  have hov2 : A.over (.func [.For tg iter [st, .Expr (.Yield (some e) yp) p1] [] p2] X.env) [] = X.A := over_func.trans hov
  rw [hov2]
  refine wpAny_mono ((hi (cutS s2 n0) H2).run _ s2 σ0 H2 _ I ht) (fun v s3 h3 => ?_) fun x s' hx => (dead _ _ x s' hx).elim
  refine wpAny_mono h3 (fun itv s4 h4 => ?_) fun x s' hx => (dead _ _ x s' hx).elim
  intro p
  obtain ⟨it, fp, tn, J, H4, ei, I4, T, st4, f4, W, w0, hstop, hstep⟩ := h4
  subst ei
  refine loop_genI hov hxe hcalm hcell hex hpn hg h1 he hco hint T hmL (fun b hb hm => ?_) hstop hstep (fun s₀ s hR => ?_) N 0 s2 s4 H2 σ0 H4 _ (Nat.add_zero _) w0 hcv hn I4 st4 f4 fun b o a1 a2 a3 a4 a5 => ?_
  · obtain ⟨z1, z2, o, z3, z4⟩ := hCV N s2 H2 b hcv hm
    have q := mem_allP (priv := [X.env.locals]) z3 z1 z2 (fun z => hmL (by rw [← List.mem_singleton.mp z]; exact hm)) z4
    exact (f4 b hb).2.2.2.2.2 (b, o) (List.mem_append_right _ q) rfl
  · refine seg_execs_nil ?_
    exact seg_end (.ok (.ret .none)) hR
  · exact mem_allP a1 a2 a3 (fun z => a4 (by rw [List.mem_singleton.mp z]; exact List.mem_cons_self)) a5
end

/-! ### the call of such a def -/
def GMadeI (P : Program) (w : World) (K : PySem.W.Frag) (mg : Str → Option Value) (base : Heap) (k : Nat) (outer : List Env) (H : Hp) (s : Shared) (N : Nat) (YL : Nat → V → Hp → Hp → Prop) (YE : Hp → Hp → Prop) (u : Value) (s' : Shared) : Prop :=
  ∃ (a L : Addr) (g : Nat) (c : Code) (go : Obj), u = .ref a ∧ s.gens.size ≤ g ∧ s.heap.objs.size ≤ L ∧ L < a ∧ a < s'.heap.objs.size ∧ s'.heap.get? a = some go ∧ (∀ h : Heap, h.get? a = some go → h.IsGen a g) ∧ (∀ v, go.data ≠ .cell v) ∧ s'.gens[g]? = some (.fresh c) ∧
    s'.os = s.os ∧ AllBare s'.gens ∧ s'.heap.NoLimit ∧ (∀ b o, s.heap.get? b = some o → s'.heap.get? b = some o) ∧ (∃ o, s'.heap.get? L = some o ∧ ∀ v, o.data ≠ .cell v) ∧
    ∀ (A : Around) (CV : CVt) (Mine : Addr → Prop), Room k A → A.frames = some outer → CvOk CV Mine outer → ¬ Mine L → ∀ s2 H2, Awk P w K mg base outer s.heap.objs.size [L] H s' H2 s2 → CV N s2 H2 →
      Seg (model P w) A (RI P w outer s.heap.objs.size CV Mine YE) (YI P w K mg base outer s.heap.objs.size CV Mine YL) N s2 c ((model P w).den c) [] s2
abbrev SpI := List V → Hp → Nat → (Nat → V → Hp → Hp → Prop) → (Hp → Hp → Prop) → Prop
structure GFnI (P : Program) (w : World) (K : PySem.W.Frag) (mg : Str → Option Value) (base : Heap) (k : Nat) (f : Addr) (fd : FuncData) (ps : List Str) (sp : SpI) : Prop where
  len : ∀ vs H N YL YE, sp vs H N YL YE → vs.length = ps.length
  run : ∀ (A : Around) (outer : List Env) (s : Shared) (H : Hp) (args : Args) (us : List Value) (vs : List V) (N : Nat) (YL : Nat → V → Hp → Hp → Prop) (YE : Hp → Hp → Prop), Room k A → Env0 P w K mg base A outer s H → BindsTo s fd args (ps.zip us) → Vals vs us → sp vs H N YL YE →
    codeAny (model P w) A (.call (.ref f) args) (fun r s' => match r with | .ok (.ret u) => GMadeI P w K mg base k outer H s N YL YE u s' | _ => False) s
theorem gfnI_of {P : Program} {w : World} {K : PySem.W.Frag} {mg : Str → Option Value} {base : Heap} {x qual : Str} {params : Arguments} {scope : Scope} {dvs : List V} {kws : List (Str × V)} {f : Addr} {fd : FuncData} {NN ps : List Str} {k : Nat} {sp : SpI}
    {tg iter e : Expr} {st : Stmt} {yp p1 p2 : Pos} (F : FunD K x qual params [.For tg iter [st, .Expr (.Yield (some e) yp) p1] [] p2] scope dvs kws f fd) (S : GScope NN ps scope) (len : ∀ vs H N YL YE, sp vs H N YL YE → vs.length = ps.length)
    (hcells : ∀ n, cellsFrom n scope.names [] = []) (hint : ∀ n cd, interactive (envOfC qual scope n f cd) = false) (hs : ∀ n cd x, foldedSetIterable iter (envOfC qual scope n f cd) x = pure x)
    (hbody : ∀ (cdv : Value) (A : Around) (outer : List Env) (s : Shared) (H : Hp) (vs : List V) (N : Nat) (YL : Nat → V → Hp → Hp → Prop) (YE : Hp → Hp → Prop), Room k (A.deeper (envOfC qual scope s.heap.objs.size f cdv)) → sp vs H N YL YE →
      ∃ (wi : TI) (g : TG) (t1 : TS) (te : TE), (∀ s0 H0, PI (Reb (gcxOf P w K mg base NN qual scope f cdv A outer s H E0 []).nox s0 H0) tg iter wi ∧ PG (Reb (gcxOf P w K mg base NN qual scope f cdv A outer s H E0 []).nox s0 H0) tg g ∧
        PS (Reb (gcxOf P w K mg base NN qual scope f cdv A outer s H E0 []).nox s0 H0) st t1 ∧ PE (Reb (gcxOf P w K mg base NN qual scope f cdv A outer s H E0 []).nox s0 H0) e te) ∧ ∀ H2, Same H H2 → tGI wi g t1 te N YL YE (start NN vs) H2) :
    GFnI P w K mg base (k + 1) f fd ps sp := by
  obtain ⟨_, _, _, _, _, _, _, cdv, _, _, rfl, lk, hcd, _, _⟩ := F.ex
  refine ⟨len, fun A outer s H args us vs N YL YE hr e0 hb r hsp => ?_⟩
  have KX : K.In s.heap := e0.mod.kin.keeps fun b o e => (e0.bs b o e).1
  have lim : s.heap.NoLimit := e0.mod.nolimit.keeps fun b o e => (e0.bs b o e).1
  have hl := len _ _ _ _ _ hsp
  have hkind : ∀ y ∈ ps.zip us, scope.names.lookup y.1 = some .local ∨ (scope.names.lookup y.1 = some .cell ∧ ((cellsFrom (s.heap.objs.size + 1) scope.names []).lookup y.1).isSome = true) := fun ⟨n, v⟩ hy => by
    rcases S.par n (List.of_mem_zip hy).1 with q | q
    · exact .inl q
    · exact .inr ⟨q, PySem.W.cellsFrom_some _ _ _ (.inl q)⟩
  refine codeAny_call_generator hr.depth (KX _ _ lk) rfl S.co S.gen rfl (PySem.W.codeRec_of KX hcd) (hb _ _ _ _ ?_)
  refine wpAny_newFunctionEnv_cells S.kind hkind fun env he s1 x => ?_
  subst he
  have lim1 : s1.heap.NoLimit := lim.keeps x.toInCall.keep
  refine ⟨lim1, ?_⟩
  obtain ⟨h1, tk, es1, hk1⟩ := x.done
  have os1 : s1.os = s.os := by rw [es1]
  have gen1 : s1.gens = s.gens := by rw [es1]
  have lt1 : s.heap.objs.size < s1.heap.objs.size := x.toInCall.ns.lt
  have kp1 : ∀ b o, s.heap.get? b = some o → s1.heap.get? b = some o := x.toInCall.keep
  refine ⟨s1.heap.objs.size, s.heap.objs.size, s1.gens.size, _, _, rfl, Nat.le_of_eq (by rw [gen1]), Nat.le_refl _, lt1, ?_, Heap.get?_push_size _ rfl, fun h eh => ⟨_, _, _, eh, rfl, rfl, rfl⟩, (fun v q => by cases q), Array.getElem?_push_size .., os1, ?_, lim1.keeps fun b o e => Heap.get?_push_of_some _ e, fun b o e => Heap.get?_push_of_some _ (kp1 b o e), ?_, ?_⟩
  · show _ < (s1.heap.push _).objs.size
    rw [Heap.size_push]; exact Nat.lt_succ_self _
  · exact AllBare.push (by rw [gen1]; exact e0.bare) rfl
  · obtain ⟨o, es, ep, ho, hd, _⟩ := x.toInCall.ns
    exact ⟨o, Heap.get?_push_of_some _ ho, fun v q => by rw [hd] at q; cases q⟩
  · intro Aw CV Mine hrw hfr hCV hmL s2 H2 aw hcv
    have e0w : Env0 P w K mg base Aw outer s H := ⟨hfr, e0.mod, e0.bs, e0.bsz, e0.funs, e0.frf, e0.hok, e0.bare⟩
    have I1 : Inv (gcxOf P w K mg base NN qual scope f cdv Aw outer s H E0 []) [] (start NN vs) H s1 := inv_startG S hrw.hd e0w hl r x
    have I1' := I1.wish (fun _ _ => False)
    obtain ⟨wi, g, t1, te, hX, ht⟩ := hbody cdv Aw outer s H vs N YL YE (hrw.deeper _) hsp
    obtain ⟨A', e2⟩ := aw.env
    have own := aw.own s.heap.objs.size (List.mem_singleton.mpr rfl)
    have I2 := reb (X := (gcxOf P w K mg base NN qual scope f cdv Aw outer s H E0 []).nox) (n0 := s.heap.objs.size) (s' := s2) (H' := H2) (pins' := allP s2.heap H2 (frs outer) [s.heap.objs.size]) I1' rfl (hcells _) rfl rfl e2
      (fun o eo => own.2 o (Heap.get?_push_of_some _ eo)) own.1 aw.size fun q hq => by
        obtain ⟨z1, z2, z3, z4, z5⟩ := of_allP hq
        exact ⟨z1, z2, fun z => z4 (List.mem_singleton.mpr z), z3, z5⟩
    exact seg_genI (X := (gcxOf P w K mg base NN qual scope f cdv Aw outer s H E0 []).nox) (n0 := s.heap.objs.size) rfl rfl rfl (hcells _) rfl rfl (fun s0 H0 => (hX s0 H0).1) (fun s0 H0 => (hX s0 H0).2.1) (fun s0 H0 => (hX s0 H0).2.2.1) (fun s0 H0 => (hX s0 H0).2.2.2)
      S.co (hint _ _) hmL hCV (hs _ _) I2 aw.size hcv (ht H2 aw.same)
end Tb
set_option Elab.async false
set_option linter.all false
set_option maxRecDepth 100000
set_option maxHeartbeats 4000000
/-! Code that makes and wakes no generator: the table of generators stands. -/
namespace Tb
open PySem PySem.Spec PyProof.Rows L2 GenW

structure PEg (X : Cx) (e : Expr) (t : TE) : Prop where
  run : ∀ (pins : List (Addr × Obj)) (s : Shared) (σ : L2.St) (H : Hp) (Q : VK), Inv X pins σ H s → t σ H Q → wpAny (model X.prog X.w) X.A (eval e X.env) (fun u s' => s'.gens = s.gens ∧ EP X pins σ Q u s') X.xe s
section
variable {X : Cx} {e o : Expr} {f : Str} {pos apos p : Pos} {ta : TE}
theorem pv_g (i : Nat) {x : Str} (hN : X.N[i]? = some x := by rfl) (hv : Vis X.env.scope x := by first | exact Or.inl rfl | exact Or.inr (Or.inl rfl) | exact Or.inr (Or.inr rfl)) (hd : (x == ("__debug__" : Str)) = false := by decide)
    (hcd : (x == ("__classdict__" : Str)) = false := by decide) : PEg X (.Name x pos) (tVar i) := by
  refine ⟨fun pins s σ H Q I h => ?_⟩
  obtain ⟨v, e, h⟩ := h
  obtain ⟨m, hn, hl⟩ := I.loc
  obtain ⟨u, r, l⟩ := hl i x v hN e hv
  have fin : s.gens = s.gens ∧ EP X pins σ Q u s := ⟨rfl, v, H, I, r, h⟩
  rcases l with ⟨hk, hm⟩ | ⟨hk, c, hc, hcl⟩
  · exact wpAny_Name (wpAny_loadName_local I.ok.kind hk hn hm fin) hd
  · rcases hk with hk | hk
    · exact wpAny_Name (wpAny_loadName_cell I.ok.kind hk hc hcl fin) hd
    · exact wpAny_Name (wpAny_loadName_free I.ok.kind hk hc hcl fin hcd) hd
theorem fld_g (he : PEg X e ta) (hb : attributeBase e f X.env (eval e X.env) = eval e X.env) : PEg X (.Attribute e f pos) (tFld X.K ta f) := by
  refine ⟨fun pins s σ H Q I h => ?_⟩
  refine attr_of hb (thn (he.run pins s σ H _ I h) fun u s1 ⟨g1, x, H1, I1, rx, a, C, dx, fs, v, ex, ea, c, n, l, q⟩ => ?_)
  subst ex
  obtain rfl : u = Value.ref a := rx
  obtain ⟨mA, O, r, _, _, _⟩ := ins_get I1.hok ea
  obtain ⟨u', hu, ru⟩ := RelO.some_of (v := v) (o := mA f) (by rw [← l]; exact r f)
  exact get_map I1.kIn O (c.get f) c.hd n hu (handed_of ru) ⟨g1, v, H1, I1.tok _, ru, q⟩
/-- tuple(x), x a list -/
def tTupL (K : PySem.W.Frag) (ta : TE) : TE := fun σ H Q => ta σ H fun x H1 => ∃ l ys, x = .ref l ∧ SqL K H1 l ys ∧ ∀ p, H1 p = none → Q (.ref p) (upd H1 p (.tup ys))
theorem tup_g (he : PEg X e ta) (hg : Gl X "tuple") (hm : X.mg "tuple" = none) (hv : bootBuiltins "tuple" = some (.type "tuple")) (he1 : starEach [e] X.env = (false, eval e X.env) :: starEach [] X.env := by rfl) :
    PEg X (.Call (.Name "tuple" p) [e] [] pos) (tTupL X.K ta) := by
  refine ⟨fun pins s σ H Q I h => ?_⟩
  refine wpAny_Call_Name_kw (ld_blt I hg hm hv ?_ (by decide) (by decide))
  refine PyProof.Rows.callWith_type1 ?_ he1 rfl
  rw [he1]
  show wpAny _ _ (spliced ((false, eval e X.env) :: backTo pos (starEach [] X.env))) _ _ s
  refine Calls.spliced_cons (thn (he.run pins s σ H _ I h) fun u s1 ⟨g1, x, H1, I1, rx, l, ys, ex, hq, q⟩ => ?_)
  refine Calls.spliced_nil ?_
  subst ex
  obtain rfl : u = Value.ref l := rx
  obtain ⟨its, r', pl, hz⟩ := I1.list hq
  have hlen := r'.length
  refine call_tuple_list pl.isList (fun h' kp => ?_) (by simp only [List.size_toArray] <;> omega)
  have I2 : Inv X pins σ H1 { s1 with heap := h' } := I1.kept (t' := s1.toks) kp
  have I3 : Inv X pins σ (upd H1 h'.objs.size (.tup ys)) { s1 with heap := h'.push { cls := .type "tuple", data := .seq its.toArray } } :=
    I2.laid (t' := s1.toks) (fun b o e => Heap.get?_push_of_some _ e) (Nat.le_refl _) (show ObjOk X.prog X.w _ _ _ (.tup ys) from ⟨hz, its, r', IsTup.new _ _⟩)
  exact ⟨g1, .ref h'.objs.size, _, I3, rfl, q _ (I2.hok.fresh (Nat.le_refl _))⟩
end
/-- a def that lets the table of generators stand -/
structure FnS (P : Program) (w : World) (K : PySem.W.Frag) (mg : Str → Option Value) (base : Heap) (k : Nat) (f : Addr) (fd : FuncData) (ps : List Str) (sp : Sp) : Prop where
  len : ∀ vs H Q E, sp vs H Q E → vs.length = ps.length
  run : ∀ (A : Around) (outer : List Env) (s : Shared) (H : Hp) (args : Args) (us : List Value) (vs : List V) (Q : VK), Room k A → Env0 P w K mg base A outer s H → BindsTo s fd args (ps.zip us) → Vals vs us → sp vs H Q E0 →
    codeAny (model P w) A (.call (.ref f) args) (fun r s' => ∃ u, r = .ok (.ret u) ∧ s'.gens = s.gens ∧ CE outer P w H s Q u s') s
theorem fnS_of {P : Program} {w : World} {K : PySem.W.Frag} {mg : Str → Option Value} {base : Heap} {x qual : Str} {params : Arguments} {e : Expr} {pos : Pos} {scope : Scope} {dvs : List V} {kws : List (Str × V)} {f : Addr} {fd : FuncData} {N ps : List Str} {k : Nat} {sp : Sp}
    (F : FunD K x qual params [.Return (some e) pos] scope dvs kws f fd) (S : FnScope N ps scope) (len : ∀ vs H Q E, sp vs H Q E → vs.length = ps.length)
    (hbody : ∀ (cdv : Value) (A : Around) (outer : List Env) (s : Shared) (H : Hp) (vs : List V) (Q : VK), Room k (A.deeper (envOfC qual scope s.heap.objs.size f cdv)) → sp vs H Q E0 →
      ∃ t, PEg (cxOf CX0 P w K mg base N qual scope f cdv A outer s H E0).nox e t ∧ t (start N vs) H Q) : FnS P w K mg base (k + 1) f fd ps sp := by
  obtain ⟨_, _, _, _, _, _, _, cdv, _, _, rfl, lk, hcd, _, _⟩ := F.ex
  refine ⟨len, fun A outer s H args us vs Q hr e0 hb r hsp => ?_⟩
  have here : ∀ b o, base.get? b = some o → s.heap.get? b = some o := fun b o z => (e0.bs b o z).1
  have KX := e0.mod.kin.keeps here
  have lim := e0.mod.nolimit.keeps here
  refine codeAny_call_function hr.depth (KX _ _ lk) rfl S.co S.gen rfl (PySem.W.codeRec_of KX hcd) (hb _ _ _ _ (wpAny_newFunctionEnv_cells S.kind (fun y hy => ?_) fun env he s1 x => ?_))
  · rcases S.par y.1 (List.of_mem_zip hy).1 with q | q
    · exact Or.inl q
    · exact Or.inr ⟨q, PySem.W.cellsFrom_some _ _ _ (Or.inl q)⟩
  · cases he
    refine ⟨lim.keeps x.toInCall.keep, codeAny_func ?_⟩
    obtain ⟨h1, tk, es1, _⟩ := x.done
    have gen1 : s1.gens = s.gens := by rw [es1]
    obtain ⟨t, ht, hq⟩ := hbody cdv A outer s H vs Q (hr.deeper _) hsp
    have I0 := inv_start (CX := CX0) (E := E0) (cd := cdv) S hr.hd e0 (len _ _ _ _ hsp) r x
    refine wpAny_execs_cons (wpAny_Return_some (wpAny_mono (ht.run [] s1 (start N vs) H _ (I0.wish _) hq) (fun u s' hs => ?_) fun _ _ z => z.elim))
    obtain ⟨g1, v, H', J, rv, q⟩ := hs
    exact ⟨u, rfl, g1.trans gen1, v, H', J.os, J.bare, J.base, J.hok, rv, q⟩
theorem meth0_g {X : Cx} {o : Expr} {ta : TE} {C f : Addr} {m : Str} {fd : FuncData} {ps : List Str} {sp : Sp} {k : Nat} {apos pos : Pos} {pl : Sem Bool} (he : PEg X o ta) (c : Cls X.K C) (hm : Meth X.K C m f) (F : FnS X.prog X.w X.K X.mg X.base k f fd ps sp) (hr : Room k X.A) (hb : Binds X.K fd ps [])
    (ht : eval (.Call (.Attribute o m apos) [] [] pos) X.env = (do
      let ov ← eval o X.env
      standAt apos.atName
      let (f, first) ← holding [ov] (getMethod ov m pl)
      callWith pos f first (backTo pos (starEach [] X.env)) (backToKw pos (keywordEach [] X.env))) := by rfl) :
    PEg X (.Call (.Attribute o m apos) [] [] pos) (tMeth C m sp [] E0 ta tNil) := by
  refine ⟨fun pins s σ H Q I h => ?_⟩
  refine PySem.W.methodCall_KW (pl := pl) (thn (he.run pins s σ H _ I h) fun u s1 ⟨g1, x, H1, I1, rx, a, dx, fs, ex, ea, l, q⟩ => ?_) ht
  subst ex
  obtain rfl : u = Value.ref a := rx
  refine getmeth_ok I1 ea c hm l ?_
  have q' : sp [.ref a] H1 Q E0 := q
  refine PySem.W.callWith_K0 (first := [.ref a]) I1.kIn hm.kp (wpAny_call (codeAny_mono (F.run X.A X.stack s1 H1 ⟨[.ref a], []⟩ [.ref a] [.ref a] Q hr I1.env0 ?_ (.cons rfl .nil) q') fun r s' hq => ?_))
  · exact hb s1 [.ref a] I1.kIn (by have := F.len _ _ _ _ q'; simpa using this)
  · obtain ⟨u, rfl, g2, hc⟩ := hq
    exact ⟨g2.trans g1, I1.after hc⟩

/-! ### a name is stored -/
theorem store_g {X : Cx} {pins : List (Addr × Obj)} {σ : L2.St} {H : Hp} {s : Shared} {M : Model} {A : Around} {E : Value → Shared → Prop} {i : Nat} {x : Str} {v : V} {u : Value} {Q : Unit → Shared → Prop} (I : Inv X pins σ H s) (hN : X.N.Nodup) (hi : X.N[i]? = some x)
    (hk : X.env.scope.names.lookup x = some .local) (hcell : X.env.cells = []) (r : RelV v u) (h : ∀ h' tk, Inv X pins (σ.set i (some v)) H { s with heap := h', toks := tk } → Heap.SameBut X.env.locals s.heap h' → Q () { s with heap := h', toks := tk }) : wpAny M A (storeName X.env x u) Q E s := by
  have nc : ∀ y c, X.env.cells.lookup y = some c → False := fun y c z => by rw [hcell] at z; cases z
  obtain ⟨m, hn, hl⟩ := id I.loc
  have hcls : (X.env.scope.kind == .class || (X.env.scope.kind == .module && X.env.locals != X.env.globals)) = false := by rw [I.ok.kind]; rfl
  have hiσ : i < σ.length := by rw [I.len]; exact (List.getElem?_eq_some_iff.mp hi).1
  refine wpAny_storeName_local hk hn (fun h' hn' hs => h h' _ ?_ hs) hcls
  have older : ∀ b o, X.s_0.heap.get? b = some o → b ≠ X.env.locals := fun b o z => Nat.ne_of_lt (Nat.lt_of_lt_of_le (Heap.lt_size z) I.ok.above)
  have here : ∀ b o, b ≠ X.env.locals → s.heap.get? b = some o → h'.get? b = some o := fun b o n z => (hs.2 b n).trans z
  refine ⟨I.ok, I.os, I.bare, ⟨fun b o e n hb hx => here b o (older b o e) (I.base.keep b o e n hb hx), fun b o e n hb hx => ?_, I.base.free, fun b o e hx => ?_, I.base.tups, I.base.frzs, I.base.tbls⟩, ⟨_, hn', fun j y w e1 e2 e3 => ?_⟩, fun y c z => (nc y c z).elim, I.free, I.freeC, fun p hp => ?_, fun b ob e => ?_, by simpa using I.len⟩
  · obtain ⟨sl, e1⟩ := I.base.slot b o e n hb hx
    exact ⟨sl, here b _ (older b o e) e1⟩
  · obtain ⟨o', e1⟩ := I.base.there b o e hx
    exact ⟨o', here b _ (older b o e) e1⟩
  · by_cases hj : j = i
    · subst hj
      rw [hi] at e1; cases e1
      rw [List.getElem?_set_self hiσ] at e2
      cases e2
      exact ⟨u, r, .inl ⟨hk, by simp⟩⟩
    · rw [List.getElem?_set_ne (Ne.symm hj)] at e2
      obtain ⟨u', r', q⟩ := hl j y w e1 e2 e3
      refine ⟨u', r', ?_⟩
      rcases q with ⟨k, z⟩ | ⟨_, c, z, _⟩
      · have ne : y ≠ x := fun z => hj (nodup_ix hN e1 (z ▸ hi))
        exact .inl ⟨k, by simp [ne, z]⟩
      · exact (nc y c z).elim
  · obtain ⟨z1, z2, z3, z4, z5⟩ := I.pin p hp
    exact ⟨here _ _ z3 z1, z2, z3, z4, z5⟩
  · refine (I.hok b ob e).stay (fun c w hc q => here c w ?_ q) (fun _ q => q) fun _ _ q => q
    rintro rfl
    rcases hc with z | z
    · rw [← z, I.free] at e; cases e
    · rw [I.free] at z; cases z
end Tb
set_option Elab.async false
set_option linter.all false
set_option maxRecDepth 100000
set_option maxHeartbeats 4000000
/-! for x in g: yield e, in a generator whose items go to a list; g a generator of the kind of RuH. -/
namespace Tb
open PySem PySem.Spec PyProof.Rows L2 GenW

structure SleptG (S : Addr) (g : Nat) (v : Value) (s s' : Shared) : Prop extends Slept S v s s' where
  gens : ∀ i, i ≠ g → s'.gens[i]? = s.gens[i]?
def YP (sc : Shared) (S a : Addr) (g N : Nat) : Protocol := fun n s₀ v s1 kap => s1.os = sc.os ∧ AllBare s1.gens ∧ s1.heap.NoLimit ∧ s1.heap.IsGen a g ∧ (∃ (acc : Array Value) (c : Nat), s1.heap.get? S = some (lstObj acc c) ∧ n + 1 + acc.size = N) ∧ ∀ s', SleptG S g v s1 s' → kap (.send .none) s'
def FP (P : Program) (w : World) (outer : List Env) (H : Hp) (sc : Shared) (S : Addr) (Q : List V → Hp → Prop) (s1 : Shared) : Prop :=
  ∃ H' ys acc c, s1.os = sc.os ∧ AllBare s1.gens ∧ Un (frs outer) [] H H' sc.heap s1.heap ∧ HOk P w H' s1.heap ∧ H' S = none ∧ s1.heap.get? S = some (lstObj acc c) ∧ Vals ys acc.toList ∧ ys.length ≤ sizeLine ∧ Q ys H'
def RP (P : Program) (w : World) (outer : List Env) (H : Hp) (sc : Shared) (S : Addr) (Q : List V → Hp → Prop) : GenEnd := fun n s₀ r s1 =>
  ((r = .ok (.ret .none) ∨ r = .ok .next) ∧ FP P w outer H sc S Q s1) ∨ ∃ e, r = .error e ∧ False

/-! ### an expression that makes a generator of that kind -/
structure PGenI (X : Cx) (k : Nat) (e : Expr) (N : Nat) (YL : Nat → V → Hp → Hp → Prop) (YE : Hp → Hp → Prop) (tg : L2.St → Hp → (Hp → Prop) → Prop) : Prop where
  run : ∀ (pins : List (Addr × Obj)) (s : Shared) (σ : L2.St) (H : Hp) (R : Hp → Prop), Inv X pins σ H s → tg σ H R → wpAny (model X.prog X.w) X.A (eval e X.env)
    (fun u s' => ∃ H1 s1, s.gens.size ≤ s1.gens.size ∧ Inv X pins σ H1 s1 ∧ R H1 ∧ GMadeI X.prog X.w X.K X.mg X.base k X.stack H1 s1 N YL YE u s') X.xe s
theorem wpAny_gsz' {α : Type} {M : Model} {A : Around} {s : Shared} {t : Sem α} {Q : α → Shared → Prop} {E : Value → Shared → Prop} {n : Nat} (hn : n ≤ s.gens.size) (h : wpAny M A t Q E s) : wpAny M A t (fun a s' => n ≤ s'.gens.size ∧ Q a s') E s :=
  wpAny_gsz hn (wpAny_mono h (fun _ _ q z => ⟨z, q⟩) fun _ _ q _ => q)
theorem pgenI_call {X : Cx} {k : Nat} {x : Str} {f : Addr} {fd : FuncData} {ps : List Str} {sp : SpI} {e : Expr} {es : List Expr} {t : TA} {p pos : Pos} {N : Nat} {YL : Nat → V → Hp → Hp → Prop} {YE : Hp → Hp → Prop} (F : GFnI X.prog X.w X.K X.mg X.base k f fd ps sp) (hr : Room k X.A) (hg : Gl X x)
    (hm : X.mg x = some (.ref f)) (hk : PySem.W.keepIn X.K (.ref f) = true) (hb : Binds X.K fd ps []) (ha : PA X (e :: es) t) (hdb : (x == ("__debug__" : Str)) = false := by decide) (he : starEach (e :: es) X.env = (false, eval e X.env) :: starEach es X.env := by rfl)
    (hpl : (backTo pos (starEach es X.env)).any (·.1) = false := by rfl) : PGenI X k (.Call (.Name x p) (e :: es) [] pos) N YL YE (fun σ H R => t σ H fun vs H1 => sp vs H1 N YL YE ∧ R H1) := by
  refine ⟨fun pins s σ H R I h => ?_⟩
  refine wpAny_Call_Name_kw (ld_glob I hg hm ?_ hdb)
  refine PySem.W.callWith_K (h₀ := X.base) I.ok.mod.kin hk (thn (wpAny_gsz' (Nat.le_refl s.gens.size) (ha.run pos pins s σ H _ I h)) fun us s1 ⟨hsz, vs, H1, I1, r, q1, q2⟩ => ⟨I1.kIn, ?_⟩) he hpl
  have hl : (us ++ []).length = ps.length := by
    rw [List.append_nil, ← r.length]
    exact F.len _ _ _ _ _ q1
  have bb := hb s1 us I1.kIn hl
  rw [List.append_nil] at bb
  refine wpAny_call (codeAny_mono (F.run X.A X.stack s1 H1 ⟨us, []⟩ us vs N YL YE hr I1.env0 bb r q1) fun r s' hq => ?_)
  cases r with
  | error e => exact False.elim hq
  | ok fl =>
    cases fl with
    | ret u => exact ⟨H1, s1, hsz, I1, q2, hq⟩
    | next => exact False.elim hq
    | brk => exact False.elim hq
    | cont => exact False.elim hq

section
variable {X : Cx} {A : Around} {told : Str} {i k : Nat} {pt yp p1 p : Pos} {e : Expr} {te : TE} {N : Nat} {YL : Nat → V → Hp → Hp → Prop} {YE : Hp → Hp → Prop} {Q : List V → Hp → Prop} {Wo : Nat → List V → L2.St → Hp → Prop}
  {bd : List Stmt} {KK : Flow → Sem PySem.Fin} {JJ : Value → Sem PySem.Fin} {S ao ai Li : Addr} {goo goi : Obj} {gO gI n0 : Nat}
/-- what the outer generator knows when it wakes the inner -/
def CVo (X : Cx) (S ao ai : Addr) (goo goi : Obj) (N : Nat) (Wo : Nat → List V → L2.St → Hp → Prop) : CVt := fun m s H => ∃ (acc : Array Value) (c : Nat) (ys : List V) (σ : L2.St), Vals ys acc.toList ∧ acc.size + m = N ∧ Inv X [(S, lstObj acc c), (ao, goo), (ai, goi)] σ H s ∧ Wo m ys σ H
abbrev Mo (S ao ai : Addr) : Addr → Prop := fun b => b = S ∨ b = ao ∨ b = ai
theorem cvo_ok : CvOk (CVo X S ao ai goo goi N Wo) (Mo S ao ai) X.stack := by
  rintro n s H b ⟨acc, c, ys, σ, _, _, I, _⟩ hb
  have fin : ∀ o, (b, o) ∈ [(S, lstObj acc c), (ao, goo), (ai, goi)] → H b = none ∧ b ∉ frs X.stack ∧ ∃ o, s.heap.get? b = some o ∧ ∀ v, o.data ≠ .cell v := fun o hm => by
    obtain ⟨z1, z2, z3, z4, z5⟩ := I.pin (b, o) (List.mem_append_right _ hm)
    exact ⟨z2, fun m => (List.mem_cons.mp (I.stkSub b m)).elim z3 z4, o, z1, z5⟩
  rcases hb with z | z | z
  · exact fin (lstObj acc c) (by rw [z]; simp)
  · exact fin goo (by rw [z]; simp)
  · exact fin goi (by rw [z]; simp)
theorem loopP (hov : A.deeper X.env = X.A) (hxe : X.xe = fun _ _ => False) (hcalm : X.calm = true) (hcell : X.env.cells = []) (hex : X.ex = []) (hpn : X.pn = []) (hN : X.N.Nodup) (hi : X.N[i]? = some told) (hk : X.env.scope.names.lookup told = some .local)
    (hey : PEg X e te) (hco : X.env.scope.isCoroutine = false) (hint : interactive X.env = false) (hroom : X.A.depth < recursionLimit) (hAp : Apart X S) (hSo : ao ≠ S) (hSi : ai ≠ S) (hL0 : X.env.locals < n0) (h00 : X.s_0.heap.objs.size ≤ n0) (hai : n0 < ai)
    (hoG : ∀ h : Heap, h.get? ao = some goo → h.IsGen ao gO) (hiG : ∀ h : Heap, h.get? ai = some goi → h.IsGen ai gI) (hgg : gI ≠ gO) (hNs : N ≤ sizeLine)
    (hstep : ∀ m ys σ H0 H1 x, Wo (m + 1) ys σ H0 → YL m x H0 H1 → te (σ.set i (some x)) H1 fun y H2 => Same H1 H2 ∧ Wo m (ys ++ [y]) (σ.set i (some x)) H2) (hend : ∀ ys σ H0 H1, Wo 0 ys σ H0 → YE H0 H1 → Q ys H1)
    (hK : ∀ s₀ s, RP X.prog X.w X.outer X.H_0 X.s_0 S Q 0 s₀ (.ok (.ret .none)) s → Seg (model X.prog X.w) A (RP X.prog X.w X.outer X.H_0 X.s_0 S Q) (YP X.s_0 S ao gO N) 0 s₀ (.func bd X.env) (KK .next) [] s) :
    ∀ (m : Nat) (s₀ s : Shared), (∃ gs acc c, s.gens[gI]? = some gs ∧ gs.Goes (model X.prog X.w) X.A.in1 (RI X.prog X.w X.stack n0 (CVo X S ao ai goo goi N Wo) (Mo S ao ai) YE) (YI X.prog X.w X.K X.mg X.base X.stack n0 (CVo X S ao ai goo goi N Wo) (Mo S ao ai) YL) m (.send .none) (s.setGen gI .running) ∧
        s.heap.get? ai = some goi ∧ s.heap.NoLimit ∧ s.heap.get? S = some (lstObj acc c) ∧ acc.size + m = N ∧ X.A.handled = none) →
      Seg (model X.prog X.w) A (RP X.prog X.w X.outer X.H_0 X.s_0 S Q) (YP X.s_0 S ao gO N) m s₀ (.forLoop (.Name told pt) (.ref ai) [.Expr (.Yield (some e) yp) p1] [] X.env)
        ((model X.prog X.w).den (.forLoop (.Name told pt) (.ref ai) [.Expr (.Yield (some e) yp) p1] [] X.env)) [waits KK JJ id id X.env (.func bd X.env) p] s := by
  have hov' : A.over (.forLoop (.Name told pt) (.ref ai) [.Expr (.Yield (some e) yp) p1] [] X.env) [waits KK JJ id id X.env (.func bd X.env) p] = X.A := (over_loop rfl rfl).trans (over_func.trans hov)
  have noc : ∀ x c, X.env.cells.lookup x = some c → c < n0 := fun x c z => by rw [hcell] at z; cases z
  -- the consumer behind a turn of the inner
  have behind : ∀ {m : Nat} {s0 s1 : Shared} {H0 H1 : Hp} {pv : List Addr}, CVo X S ao ai goo goi N Wo m s0 H0 → Trn X.prog X.w X.stack n0 pv H0 s0 H1 s1 → (∀ b ∈ pv, ¬ Mo S ao ai b) →
      ∃ acc c ys σ, Vals ys acc.toList ∧ acc.size + m = N ∧ s0.heap.get? S = some (lstObj acc c) ∧ Inv X [(S, lstObj acc c), (ao, goo), (ai, goi)] σ H1 s1 ∧ Wo m ys σ H0 := fun {m s0 s1 H0 H1 pv} hcv T hM => by
    obtain ⟨acc, c, ys, σ, rv, hsz, I, hW⟩ := hcv
    refine ⟨acc, c, ys, σ, rv, hsz, (I.pin (S, lstObj acc c) (List.mem_append_right _ List.mem_cons_self)).1, turnG I T h00 hL0 noc fun q hq hm => hM _ hm ?_, hW⟩
    have hq' : q ∈ X.pn ++ [(S, lstObj acc c), (ao, goo), (ai, goi)] := hq
    rw [hpn, List.nil_append] at hq'
    rcases List.mem_cons.mp hq' with z | z
    · exact .inl (by rw [z])
    rcases List.mem_cons.mp z with z | z
    · exact .inr (.inl (by rw [z]))
    · exact .inr (.inr (by rw [List.mem_singleton.mp z]))
  intro m
  induction m with
  | zero =>
    intro s₀ s ⟨gs, acc, c, hgs, hgo, hga, hl, hS, hsz, hh⟩
    refine seg_forLoop ?_
    rw [hov']
    refine next_genG (A := X.A) hh hl hroom (hiG _ hga) hgs hgo (fun v s1 gs' _ hy => ?_) (fun s1 hf h' hk' => ?_) fun _ _ z => z.elim
    · obtain ⟨x, H0, H1, pv, _, hcv, _⟩ := hy
      obtain ⟨acc', c', _, _, _, hsz', I, _⟩ := hcv
      have q : s.heap.get? S = some (lstObj acc' c') := (I.pin (S, lstObj acc' c') (List.mem_append_right _ List.mem_cons_self)).1
      rw [hS] at q
      cases q
      exfalso
      omega
    · obtain ⟨_, H0, H1, pv, hcv, hye, T, hM⟩ := hf
      obtain ⟨acc', c', ys, σ, rv, hsz', hS', I, hW⟩ := behind hcv T hM
      have I2 : Inv X [(S, lstObj acc' c'), (ao, goo), (ai, goi)] σ H1 { s1.setGen gI .finished with heap := h' } :=
        I.call' (ch := []) rfl (Un.kept hk') (I.hok.kept hk') (allBare_setGen I.bare rfl) fun b z => by simp at z
      have pS := I2.pin (S, lstObj acc' c') (List.mem_append_right _ List.mem_cons_self)
      refine seg_again rfl (seg_blockNil (seg_leaf (.ok .next) (hK s₀ _ (.inl ⟨.inl rfl, H1, ys, acc', c', I2.os, I2.bare, ?_, I2.hok, pS.2.1, pS.1, rv, ?_, hend ys σ H0 H1 hW hye⟩))))
      · have q := I2.base
        rw [hex] at q
        exact q
      · have q := rv.length
        rw [q, Array.length_toList]; omega
  | succ m ih =>
    intro s₀ s ⟨gs, acc, c, hgs, hgo, hga, hl, hS, hsz, hh⟩
    have hgl : gI < s.gens.size := (Array.getElem?_eq_some_iff.mp hgs).1
    refine seg_forLoop ?_
    rw [hov']
    refine wpAny_gsz (n := gI + 1) hgl (next_genG (A := X.A) hh hl hroom (hiG _ hga) hgs hgo (fun v s1 gs' hbare hy => ?_) (fun s1 hf h' hk' => ?_) fun _ _ z => z.elim)
    · intro hsz1
      obtain ⟨x, H0, H1, pv, rx, hcv, hyl, T, hpv, wake⟩ := hy
      obtain ⟨acc1, c1, ys, σ, rv, hszA, hS', I, hW⟩ := behind hcv T fun b hb => (hpv b hb).2.1
      have hszB : acc1.size + (m + 1) = N := hszA
      clear hszA
      have hsz2 : gI < s1.gens.size := by
        have q : (s1.setGen gI gs').gens.size = s1.gens.size := setGen_size _ _ _
        have z : gI + 1 ≤ (s1.setGen gI gs').gens.size := hsz1
        omega
      have I1 : Inv X [(S, lstObj acc1 c1), (ao, goo), (ai, goi)] σ H1 (s1.setGen gI gs') :=
        I.call' (ch := []) rfl Un.refl I.hok (allBare_setGen I.bare hbare) fun b z => by simp at z
      have pin2 : ∀ q ∈ [(S, lstObj acc1 c1), (ao, goo), (ai, goi)] ++ pinsAt pv s1.heap, s1.heap.get? q.1 = some q.2 ∧ H1 q.1 = none ∧ q.1 ≠ X.env.locals ∧ q.1 ∉ X.fs ∧ ∀ v, q.2.data ≠ .cell v := fun q hq => by
        rcases List.mem_append.mp hq with z | z
        · exact I.pin q (List.mem_append_right _ z)
        · obtain ⟨z1, z2⟩ := of_pinsAt z
          obtain ⟨w1, w2, w3, o, w4, w5⟩ := hpv q.1 z1
          rw [z2] at w4
          cases w4
          refine ⟨z2, w3, Nat.ne_of_gt (Nat.lt_of_lt_of_le hL0 w1), fun z => ?_, w5⟩
          obtain ⟨_, of, ho, _⟩ := I.ok.funs.mem z
          exact absurd (Nat.lt_of_lt_of_le (Nat.lt_of_lt_of_le (Heap.lt_size ho) h00) w1) (Nat.lt_irrefl _)
      have I2 : Inv X ([(S, lstObj acc1 c1), (ao, goo), (ai, goi)] ++ pinsAt pv s1.heap) σ H1 (s1.setGen gI gs') := I1.pins_of pin2
      refine wpAny_pure (wpAny_assign_Name ?_)
      refine store_g I2 hN hi hk hcell rx fun h3 tk3 I3 sb3 => ?_
      refine seg_execs_cons (seg_Expr_Yield rfl rfl rfl ?_ hco hint)
      rw [hov']
      refine wpAny_mono (hey.run _ _ (σ.set i (some x)) H1 _ I3 (hstep m ys σ H0 H1 x hW hyl)) (fun v4 s4 h4 => ?_) fun x s' hx => by
        rw [hxe] at hx; exact hx.elim
      obtain ⟨g4, y, H4, I4, ry, hsame, hW4⟩ := h4
      intro kap hkap
      have gens4 : s4.gens = (s1.setGen gI gs').gens := g4
      have pS := I4.pin (S, lstObj acc1 c1) (List.mem_append_right _ List.mem_cons_self)
      have po := I4.pin (ao, goo) (List.mem_append_right _ (by simp))
      refine ⟨I4.os, I4.bare, I4.nolimit, hoG _ po.1, ⟨acc1, c1, pS.1, by omega⟩, fun s' sl => hkap .none s' ?_⟩
      have hipS : ∀ q ∈ [(ao, goo), (ai, goi)] ++ pinsAt pv s1.heap, q.1 ≠ S := fun q hq => by
        rcases List.mem_append.mp hq with z | z
        · rcases List.mem_cons.mp z with z | z
          · rw [z]; exact hSo
          · rw [List.mem_singleton.mp z]; exact hSi
        · exact fun z2 => (hpv q.1 (of_pinsAt z).1).2.1 (.inl z2)
      have G4 : GI X S ([(ao, goo), (ai, goi)] ++ pinsAt pv s1.heap) ys (σ.set i (some x)) H4 s4 := ⟨acc1, c1, rv, I4⟩
      obtain ⟨acc5, c5, rv5, I5⟩ := G4.woken (fun q hq => by rw [hpn] at hq; cases hq) hipS hAp ry sl.toSlept
      have hsz5 : acc5.size + m = N := by
        have q1 : ys.length + 1 = acc5.size := by simpa using rv5.length
        have q2 : ys.length = acc1.size := by simpa using rv.length
        omega
      have I5' : Inv X [(S, lstObj acc5 c5), (ao, goo), (ai, goi)] (σ.set i (some x)) H4 s' := I5.pins_of fun q hq => I5.pin q (List.mem_append_right _ (by
        rcases List.mem_cons.mp hq with z | z
        · rw [z]; exact List.mem_cons_self
        · exact List.mem_cons_of_mem _ (List.mem_append_left _ z)))
      have pai := I5'.pin (ai, goi) (List.mem_append_right _ (by simp))
      have pS5 := I5'.pin (S, lstObj acc5 c5) (List.mem_append_right _ (by simp))
      have I6 : Inv X [(S, lstObj acc5 c5), (ao, goo), (ai, goi)] (σ.set i (some x)) H4 (s'.setGen gI .running) := I5'.call' (ch := []) rfl Un.refl I5'.hok (allBare_setGen I5'.bare rfl) fun b z => by simp at z
      refine seg_execs_nil (seg_again rfl (ih s' s' ⟨gs', acc5, c5, ?_, ?_, pai.1, I5'.nolimit, pS5.1, hsz5, hh⟩))
      · rw [sl.gens gI hgg, gens4]
        exact setGen_at hsz2
      · refine wake (s'.setGen gI .running) H4 ⟨⟨X.A, I6.env0⟩, hsame, fun b hb => ?_, ?_⟩ ⟨acc5, c5, _, _, rv5, hsz5, I6, hW4⟩
        · obtain ⟨w1, w2, w3, o, w4, w5⟩ := hpv b hb
          have z := I5.pin (b, o) (List.mem_append_right _ (List.mem_cons_of_mem _ (List.mem_append_right _ (mem_pinsAt hb w4))))
          exact ⟨z.2.1, fun o' e' => by rw [w4] at e'; cases e'; exact z.1⟩
        · exact Nat.le_of_lt (Nat.lt_trans hai (Heap.lt_size pai.1))
    · intro _
      exact absurd hf.1 (Nat.succ_ne_zero m)
end
end Tb
set_option Elab.async false
set_option linter.all false
set_option maxRecDepth 100000
set_option maxHeartbeats 4000000
/-! list(..) over a generator whose body ends in for x in g: yield e. -/
namespace Tb
open PySem PySem.Spec PyProof.Rows L2 GenW

theorem execs_split (rest : List Stmt) (env : Env) : ∀ pre : List Stmt, execs (pre ++ rest) env = (execs pre env >>= fun f => match f with | .next => execs rest env | f => pure f)
  | [] => rfl
  | st :: pre => by
    show execs (st :: (pre ++ rest)) env = _
    rw [execs_cons, execs_cons, bind_assoc]
    refine bind_congr fun f => ?_
    cases f with
    | next => exact execs_split rest env pre
    | brk => rfl
    | cont => rfl
    | ret v => rfl
section
variable {X : Cx} {A : Around} {told : Str} {i k : Nat} {pt yp p1 p2 : Pos} {e ge : Expr} {te : TE} {N : Nat} {ι : Type} {YL : ι → Nat → V → Hp → Hp → Prop} {YE : ι → Hp → Hp → Prop} {Q : List V → Hp → Prop} {pre : List Stmt} {t0 : TS} {tg : ι → L2.St → Hp → (Hp → Prop) → Prop} {S ao : Addr} {goo : Obj} {gO : Nat}
theorem seg_pict (hov : A.deeper X.env = X.A) (hxe : X.xe = fun _ _ => False) (hcalm : X.calm = true) (hcell : X.env.cells = []) (hex : X.ex = []) (hpn : X.pn = []) (hN : X.N.Nodup) (hi : X.N[i]? = some told) (hk : X.env.scope.names.lookup told = some .local)
    (h0 : PSs X pre t0) (hge : ∀ j : ι, PGenI X k ge N (YL j) (YE j) (tg j)) (hey : PEg X e te) (hco : X.env.scope.isCoroutine = false) (hint : interactive X.env = false) (hr : Room (k + 1) X.A) (hs : ∀ x, foldedSetIterable ge X.env x = pure x)
    (hNs : N ≤ sizeLine) (hAp : Apart X S) (hSo : ao ≠ S) (hoG : ∀ h : Heap, h.get? ao = some goo → h.IsGen ao gO) {s2 : Shared} {H0 : Hp} {σ0 : L2.St} {c0 : Nat} (I : Inv X [(S, lstObj #[] c0), (ao, goo)] σ0 H0 s2) (hg2 : gO < s2.gens.size)
    (ht : t0 { nx := fun σ H => ∃ j : ι, tg j σ H fun H1 => ∃ Wo : Nat → List V → L2.St → Hp → Prop, Wo N [] σ H1 ∧ (∀ m ys σ H0 H1 x, Wo (m + 1) ys σ H0 → YL j m x H0 H1 → te (σ.set i (some x)) H1 fun y H2 => Same H1 H2 ∧ Wo m (ys ++ [y]) (σ.set i (some x)) H2) ∧
      (∀ ys σ H0 H1, Wo 0 ys σ H0 → YE j H0 H1 → Q ys H1), rt := fun _ _ => False } σ0 H0) :
    Seg (model X.prog X.w) A (RP X.prog X.w X.outer X.H_0 X.s_0 S Q) (YP X.s_0 S ao gO N) N s2 (.func (pre ++ [.For (.Name told pt) ge [.Expr (.Yield (some e) yp) p1] [] p2]) X.env)
      ((model X.prog X.w).den (.func (pre ++ [.For (.Name told pt) ge [.Expr (.Yield (some e) yp) p1] [] p2]) X.env)) [] s2 := by
  have dead : ∀ (x : Value) (s' : Shared), X.xe x s' → False := fun x s' hx => by rw [hxe] at hx; exact hx
  have hov2 : A.over (.func (pre ++ [.For (.Name told pt) ge [.Expr (.Yield (some e) yp) p1] [] p2]) X.env) [] = X.A := over_func.trans hov
  refine seg_func ?_
  rw [execs_split, Sem.bind_eq_wrap', Sem.wrap_wrap]
  refine seg_wrap ?_
  rw [hov2]
  refine wpAny_mono (wpAny_gsz' hg2 (h0.run _ s2 σ0 H0 _ I ht)) (fun f s3 h3 => ?_) fun x s' hx => (dead x s' hx).elim
  obtain ⟨hsz3, h3⟩ := h3
  cases f with
  | brk => exact h3.elim fun _ q => q.elim fun _ q => q.2.elim
  | cont => exact h3.elim fun _ q => q.elim fun _ q => q.2.elim
  | ret v => exact h3.elim fun _ q => q.elim fun _ q => q.elim fun _ q => q.2.2.elim
  | next =>
    obtain ⟨σ3, H3, I3, j, q3⟩ := h3
    refine seg_execs_cons (seg_For ?_ hs)
    rw [hov2]
    refine wpAny_mono ((hge j).run _ s3 σ3 H3 _ I3 q3) (fun u s4 h4 => ?_) fun x s' hx => (dead x s' hx).elim
    obtain ⟨H4, sc, hgsc, I4, ⟨Wo, w0, hstep, hend⟩, a, L, g, c, go, rfl, hgs, hL, hLa, has, hga, hiG, hgd, hfresh, hos, hb, hl, hkp, ⟨oL, hoL, _⟩, wake⟩ := h4
    refine wpAny_pyIter_gen (hiG _ hga) fun p => ?_
    have pS := I4.pin (S, lstObj #[] c0) (List.mem_append_right _ List.mem_cons_self)
    have po := I4.pin (ao, goo) (List.mem_append_right _ (by simp))
    have hSn : S < sc.heap.objs.size := Heap.lt_size pS.1
    have hon : ao < sc.heap.objs.size := Heap.lt_size po.1
    have hna : sc.heap.objs.size < a := Nat.lt_of_le_of_lt hL hLa
    have I5 : Inv X [(S, lstObj #[] c0), (ao, goo)] σ3 H4 s4 := I4.call' (ch := []) hos (Un.kept hkp) (I4.hok.kept hkp) hb fun b z => by simp at z
    have fresh : ∀ b, sc.heap.objs.size ≤ b → H4 b = none := fun b hb => I4.hok.fresh hb
    have I6 : Inv X [(S, lstObj #[] c0), (ao, goo), (a, go)] σ3 H4 s4 := I5.pins_of fun q hq => by
      rcases List.mem_cons.mp hq with z | z
      · rw [z]; exact I5.pin _ (List.mem_append_right _ List.mem_cons_self)
      rcases List.mem_cons.mp z with z | z
      · rw [z]; exact I5.pin _ (List.mem_append_right _ (by simp))
      · rw [List.mem_singleton.mp z]
        exact ⟨hga, fresh a (Nat.le_of_lt hna), Nat.ne_of_gt (Nat.lt_trans I4.lt hna), I4.nofs (Nat.le_of_lt hna), hgd⟩
    have I7 : Inv X [(S, lstObj #[] c0), (ao, goo), (a, go)] σ3 H4 (s4.setGen g .running) := I6.call' (ch := []) rfl Un.refl I6.hok (allBare_setGen I6.bare rfl) fun b z => by simp at z
    have hpS := I6.pin (S, lstObj #[] c0) (List.mem_append_right _ List.mem_cons_self)
    refine loopP (Wo := Wo) (n0 := sc.heap.objs.size) hov hxe hcalm hcell hex hpn hN hi hk hey hco hint hr.depth hAp hSo (Nat.ne_of_gt (Nat.lt_trans hSn hna)) I4.lt I4.sz hna hoG hiG ?_ hNs hstep hend (fun s₀ s hR => ?_) N s2 s4
      ⟨_, #[], c0, hfresh, ⟨rfl, wake X.A.in1 (CVo X S ao a goo go N Wo) (Mo S ao a) hr.in1 I4.ok.frames cvo_ok ?_ (s4.setGen g .running) H4 ⟨⟨X.A, I7.env0⟩, Same.refl _, fun b hb => ?_, ?_⟩ ⟨#[], c0, [], σ3, .nil, by simp, I7, w0⟩⟩, hga, hl, hpS.1, by simp, I4.ok.hd hcalm⟩
    · have z : gO < g := Nat.lt_of_lt_of_le (Nat.lt_of_lt_of_le (Nat.lt_of_lt_of_le hsz3 hgsc) hgs) (Nat.le_refl _)
      exact Nat.ne_of_gt z
    · refine seg_execs_nil ?_
      exact seg_end (.ok (.ret .none)) hR
    · rintro (z | z | z)
      · exact absurd (Nat.lt_of_lt_of_le hSn (z ▸ hL)) (Nat.lt_irrefl _)
      · exact absurd (Nat.lt_of_lt_of_le hon (z ▸ hL)) (Nat.lt_irrefl _)
      · exact absurd (z ▸ hLa) (Nat.lt_irrefl _)
    · rw [List.mem_singleton.mp hb]
      exact ⟨fresh L hL, fun o e => e⟩
    · exact Nat.le_of_lt (Nat.lt_trans hna has)
end

/-! ### the call of such a def -/
def GMadeP (P : Program) (w : World) (k : Nat) (outer : List Env) (H : Hp) (s : Shared) (N : Nat) (Q : List V → Hp → Prop) (u : Value) (s' : Shared) : Prop :=
  ∃ (a : Addr) (g : Nat) (c : Code), u = .ref a ∧ s.heap.objs.size ≤ a ∧ a < s'.heap.objs.size ∧ s'.heap.IsGen a g ∧ s'.gens[g]? = some (.fresh c) ∧ s'.os = s.os ∧ AllBare s'.gens ∧ s'.heap.NoLimit ∧ (∀ b o, s.heap.get? b = some o → s'.heap.get? b = some o) ∧ N ≤ sizeLine ∧
    ∀ (A : Around) (S : Addr) (s2 : Shared), Room k A → A.frames = some outer → s'.heap.objs.size ≤ S → (∀ b o, s'.heap.get? b = some o → s2.heap.get? b = some o) → (∃ c, s2.heap.get? S = some (lstObj #[] c)) → s2.os = s.os → AllBare s2.gens → g < s2.gens.size →
      Seg (model P w) A (RP P w outer H s S Q) (YP s S a g N) N s2 c ((model P w).den c) [] s2
abbrev SpP := List V → Hp → Nat → (List V → Hp → Prop) → Prop
structure GFnP (P : Program) (w : World) (K : PySem.W.Frag) (mg : Str → Option Value) (base : Heap) (k : Nat) (f : Addr) (fd : FuncData) (ps : List Str) (sp : SpP) : Prop where
  len : ∀ vs H N Q, sp vs H N Q → vs.length = ps.length
  run : ∀ (A : Around) (outer : List Env) (s : Shared) (H : Hp) (args : Args) (us : List Value) (vs : List V) (N : Nat) (Q : List V → Hp → Prop), Room k A → Env0 P w K mg base A outer s H → BindsTo s fd args (ps.zip us) → Vals vs us → sp vs H N Q →
    codeAny (model P w) A (.call (.ref f) args) (fun r s' => match r with | .ok (.ret u) => GMadeP P w k outer H s N Q u s' | _ => False) s
theorem gfnP_of {P : Program} {w : World} {K : PySem.W.Frag} {mg : Str → Option Value} {base : Heap} {x qual : Str} {params : Arguments} {scope : Scope} {dvs : List V} {kws : List (Str × V)} {f : Addr} {fd : FuncData} {NN ps : List Str} {k i : Nat} {sp : SpP}
    {pre : List Stmt} {told : Str} {ge e : Expr} {pt yp p1 p2 : Pos} (F : FunD K x qual params (pre ++ [.For (.Name told pt) ge [.Expr (.Yield (some e) yp) p1] [] p2]) scope dvs kws f fd) (S : GScope NN ps scope) (len : ∀ vs H N Q, sp vs H N Q → vs.length = ps.length)
    (hi : NN[i]? = some told) (hk : scope.names.lookup told = some .local) (hcells : ∀ n, cellsFrom n scope.names [] = []) (hint : ∀ n cd, interactive (envOfC qual scope n f cd) = false) (hs : ∀ n cd x, foldedSetIterable ge (envOfC qual scope n f cd) x = pure x)
    (hbody : ∀ (cdv : Value) (A : Around) (outer : List Env) (s : Shared) (H : Hp) (vs : List V) (N : Nat) (Q : List V → Hp → Prop), Room (k + 1) (A.deeper (envOfC qual scope s.heap.objs.size f cdv)) → sp vs H N Q →
      N ≤ sizeLine ∧ ∃ (ι : Type) (YL : ι → Nat → V → Hp → Hp → Prop) (YE : ι → Hp → Hp → Prop) (t0 : TS) (tg : ι → L2.St → Hp → (Hp → Prop) → Prop) (te : TE), PSs (gcxOf P w K mg base NN qual scope f cdv A outer s H E0 []).nox pre t0 ∧
        (∀ j : ι, PGenI (gcxOf P w K mg base NN qual scope f cdv A outer s H E0 []).nox k ge N (YL j) (YE j) (tg j)) ∧ PEg (gcxOf P w K mg base NN qual scope f cdv A outer s H E0 []).nox e te ∧
        t0 { nx := fun σ H => ∃ j : ι, tg j σ H fun H1 => ∃ Wo : Nat → List V → L2.St → Hp → Prop, Wo N [] σ H1 ∧ (∀ m ys σ H0 H1 x, Wo (m + 1) ys σ H0 → YL j m x H0 H1 → te (σ.set i (some x)) H1 fun y H2 => Same H1 H2 ∧ Wo m (ys ++ [y]) (σ.set i (some x)) H2) ∧
          (∀ ys σ H0 H1, Wo 0 ys σ H0 → YE j H0 H1 → Q ys H1), rt := fun _ _ => False } (start NN vs) H) :
    GFnP P w K mg base (k + 1 + 1) f fd ps sp := by
  obtain ⟨_, _, _, _, _, _, _, cdv, _, _, rfl, lk, hcd, _, _⟩ := F.ex
  refine ⟨len, fun A outer s H args us vs N Q hr e0 hb r hsp => ?_⟩
  have KX : K.In s.heap := e0.mod.kin.keeps fun b o e => (e0.bs b o e).1
  have lim : s.heap.NoLimit := e0.mod.nolimit.keeps fun b o e => (e0.bs b o e).1
  have hl := len _ _ _ _ hsp
  have hkind : ∀ y ∈ ps.zip us, scope.names.lookup y.1 = some .local ∨ (scope.names.lookup y.1 = some .cell ∧ ((cellsFrom (s.heap.objs.size + 1) scope.names []).lookup y.1).isSome = true) := fun ⟨n, v⟩ hy => by
    rcases S.par n (List.of_mem_zip hy).1 with q | q
    · exact .inl q
    · exact .inr ⟨q, PySem.W.cellsFrom_some _ _ _ (.inl q)⟩
  refine codeAny_call_generator hr.depth (KX _ _ lk) rfl S.co S.gen rfl (PySem.W.codeRec_of KX hcd) (hb _ _ _ _ ?_)
  refine wpAny_newFunctionEnv_cells S.kind hkind fun env he s1 x => ?_
  subst he
  have lim1 : s1.heap.NoLimit := lim.keeps x.toInCall.keep
  refine ⟨lim1, ?_⟩
  obtain ⟨h1, tk, es1, hk1⟩ := x.done
  have os1 : s1.os = s.os := by rw [es1]
  have gen1 : s1.gens = s.gens := by rw [es1]
  have lt1 : s.heap.objs.size < s1.heap.objs.size := x.toInCall.ns.lt
  have sz1 : s.heap.objs.size ≤ s1.heap.objs.size := Nat.le_of_lt lt1
  have kp1 : ∀ b o, s.heap.get? b = some o → s1.heap.get? b = some o := x.toInCall.keep
  have main : ∀ (go : Obj) (nm qn : Value) (tk2 : Nat), go.cls = .type "generator" → go.data = .fields #[.int s1.gens.size 0, nm, qn] → go.slots = #[] → (∀ h : Heap, (h.push go).get? h.objs.size = some go) →
      GMadeP P w (k + 1 + 1) outer H s N Q (.ref s1.heap.objs.size) { s1 with gens := s1.gens.push (.fresh (.func (pre ++ [.For (.Name told pt) ge [.Expr (.Yield (some e) yp) p1] [] p2]) (envOfC qual scope s.heap.objs.size f cdv))), toks := tk2, heap := s1.heap.push go } := by
    intro go nm qn tk2 hgc hgd0 hgs hgp
    have hgen : ∀ h : Heap, h.get? s1.heap.objs.size = some go → h.IsGen s1.heap.objs.size s1.gens.size := fun h e => ⟨go, nm, qn, e, hgc, hgd0, hgs⟩
    have hpushed : (s1.heap.push go).get? s1.heap.objs.size = some go := hgp _
    have hNs : N ≤ sizeLine := (hbody cdv A outer s H vs N Q (hr.deeper _) hsp).1
    refine ⟨s1.heap.objs.size, s1.gens.size, _, rfl, sz1, ?_, hgen _ hpushed, Array.getElem?_push_size .., os1, ?_, lim1.keeps fun b o e => Heap.get?_push_of_some _ e, fun b o e => Heap.get?_push_of_some _ (kp1 b o e), hNs, ?_⟩
    · show _ < (s1.heap.push _).objs.size
      rw [Heap.size_push]; exact Nat.lt_succ_self _
    · exact AllBare.push (by rw [gen1]; exact e0.bare) rfl
    intro Aw Sx s2 hrw hfr hSx hk2 hSo hos hba hg2
    have e0w : Env0 P w K mg base Aw outer s H := ⟨hfr, e0.mod, e0.bs, e0.bsz, e0.funs, e0.frf, e0.hok, e0.bare⟩
    obtain ⟨_, ι, YL, YE, t0, tg, te, hP1, hP2, hP3, hq⟩ := hbody cdv Aw outer s H vs N Q (hrw.deeper _) hsp
    have I1 : Inv (gcxOf P w K mg base NN qual scope f cdv Aw outer s H E0 []).nox [] (start NN vs) H s1 := (inv_startG S hrw.hd e0w hl r x).wish _
    have kp2 : ∀ b o, s1.heap.get? b = some o → s2.heap.get? b = some o := fun b o e => hk2 b o (Heap.get?_push_of_some _ e)
    have I2 : Inv (gcxOf P w K mg base NN qual scope f cdv Aw outer s H E0 []).nox [] (start NN vs) H s2 := I1.call' (ch := []) (hos.trans os1.symm) (Un.kept kp2) (I1.hok.kept kp2) hba fun b z => by simp at z
    have hSz : s1.heap.objs.size < Sx := by
      have hSx' : (s1.heap.push go).objs.size ≤ Sx := hSx
      rw [Heap.size_push] at hSx'
      exact hSx'
    obtain ⟨cS, heS⟩ := hSo
    have hea : s2.heap.get? s1.heap.objs.size = some go := hk2 s1.heap.objs.size go hpushed
    have hgd : ∀ v, go.data ≠ .cell v := fun v q => by rw [hgd0] at q; cases q
    have young : ∀ b, s1.heap.objs.size ≤ b → H b = none ∧ b ≠ s.heap.objs.size ∧ b ∉ frs outer ∧ s.heap.objs.size ≤ b := fun b hb => ⟨I1.hok.fresh hb, Nat.ne_of_gt (Nat.lt_of_lt_of_le lt1 hb), I1.nofs hb, Nat.le_trans sz1 hb⟩
    have I3 : Inv (gcxOf P w K mg base NN qual scope f cdv Aw outer s H E0 []).nox [(Sx, lstObj #[] cS), (s1.heap.objs.size, go)] (start NN vs) H s2 := I2.pins_of fun p hp => by
      rcases List.mem_cons.mp hp with z | z
      · rw [z]
        obtain ⟨y1, y2, y3, _⟩ := young Sx (Nat.le_of_lt hSz)
        exact ⟨heS, y1, y2, y3, fun v q => by cases q⟩
      · rw [List.mem_singleton.mp z]
        obtain ⟨y1, y2, y3, _⟩ := young s1.heap.objs.size (Nat.le_refl _)
        exact ⟨hea, y1, y2, y3, hgd⟩
    have hAp : Apart (gcxOf P w K mg base NN qual scope f cdv Aw outer s H E0 []).nox Sx := by
      obtain ⟨_, y2, _, y4⟩ := young Sx (Nat.le_of_lt hSz)
      refine ⟨y4, y2, fun y c z => ?_⟩
      have z' : (cellsFrom (s.heap.objs.size + 1) scope.names []).lookup y = some c := z
      rw [hcells] at z'; cases z'
    exact seg_pict (X := (gcxOf P w K mg base NN qual scope f cdv Aw outer s H E0 []).nox) rfl rfl rfl (hcells _) rfl rfl S.nd hi hk hP1 hP2 hP3 S.co (hint _ _) (hrw.deeper _) (hs _ _) hNs hAp (Nat.ne_of_lt hSz) hgen I3 hg2 hq
  exact main _ _ _ _ rfl rfl rfl fun h => Heap.get?_push_size _ rfl
end Tb
set_option Elab.async false
set_option linter.all false
set_option maxRecDepth 100000
set_option maxHeartbeats 4000000
/-! list(f(..)), f a generator def of the kind of RuK. -/
namespace Tb
open PySem PySem.Spec PyProof.Rows L2 GenW

theorem pushG {S : Addr} {g : Nat} {gs' : GenState} {v : Value} {s : Shared} {acc : Array Value} {c : Nat} (hS : s.heap.get? S = some (lstObj acc c)) (hb : AllBare s.gens) (hbare : gs'.bare = true) :
    SleptG S g v s (({ s.setGen g gs' with heap := s.heap.update S (Obj.mapSeq (·.push v)) } : Shared).setGen g .running) := by
  refine ⟨Slept.push hS (allBare_setGen (s := s.setGen g gs') (allBare_setGen hb hbare) rfl), fun i hi => ?_⟩
  show ((s.gens.setIfInBounds g gs').setIfInBounds g .running)[i]? = s.gens[i]?
  rw [Array.getElem?_setIfInBounds_ne (Ne.symm hi), Array.getElem?_setIfInBounds_ne (Ne.symm hi)]
theorem drainP {P : Program} {w : World} {outer : List Env} {H : Hp} {sc : Shared} {Q : List V → Hp → Prop} {A : Around} {R : Result → Shared → Prop} {S a : Addr} {g N : Nat} {res : Value}
    (hh : A.handled = none) (hd : A.depth < recursionLimit) (hSa : S ≠ a) (hSc : S ≠ cStatics) (hNs : N ≤ sizeLine)
    (hend : ∀ s', FP P w outer H sc S Q s' → R (.ok (.ret res)) s') :
    ∀ (m : Nat) (s : Shared), s.heap.IsGen a g → s.heap.NoLimit → (∃ gs, s.gens[g]? = some gs ∧ gs.Goes (model P w) A.in1.in1 (RP P w outer H sc S Q) (YP sc S a g N) m (.send .none) (s.setGen g .running)) →
      codeAny (model P w) A (.builtin "list.extend.loop" ⟨[.ref S, .ref a, res], []⟩) R s := by
  have over : ∀ {s₁ : Shared} {h' : Heap}, FP P w outer H sc S Q s₁ → (∀ b o, s₁.heap.get? b = some o → h'.get? b = some o) → R (.ok (.ret res)) { s₁.setGen g .finished with heap := h' } := fun {s₁ h'} hp hk => by
    obtain ⟨H', ys, acc, c, os1, hb1, un, hok, hSn, hS1, hv, hle, hQ⟩ := hp
    exact hend _ ⟨H', ys, acc, c, os1, allBare_setGen hb1 rfl, un.trans (Un.kept hk), hok.kept hk, hSn, hk _ _ hS1, hv, hle, hQ⟩
  intro m
  induction m with
  | zero =>
    intro s hg hl ⟨gs, hgs, hgo⟩
    refine codeAny_builtin F.entry_extend_loop ?_
    rw [Around.under_plainId F.plain_extend_loop _]
    show wpAny _ A.in1 (pyNext (.ref a) >>= _) _ _ s
    refine wpAny_bind (next_genG (A := A.in1) hh hl hd hg hgs hgo (fun v s₁ gs' hbare hv => ?_) (fun s₁ hp h' hk => wpAny_pure (over hp hk)) fun _ _ z => z.elim)
    obtain ⟨_, hb1, _, _, ⟨acc, c, hS1, _⟩, hk⟩ := hv
    exact False.elim (hk _ (pushG hS1 hb1 hbare))
  | succ m ih =>
    intro s hg hl ⟨gs, hgs, hgo⟩
    have hgl : g < s.gens.size := (Array.getElem?_eq_some_iff.mp hgs).1
    refine codeAny_builtin F.entry_extend_loop ?_
    rw [Around.under_plainId F.plain_extend_loop _]
    show wpAny _ A.in1 (pyNext (.ref a) >>= _) _ _ s
    refine wpAny_bind (wpAny_gsz (n := g + 1) hgl (next_genG (A := A.in1) hh hl hd hg hgs hgo (fun v s₁ gs' hbare hv => ?_) (fun s₁ hp h' hk => fun _ => wpAny_pure (over hp hk)) fun _ _ z => z.elim))
    intro hsz
    obtain ⟨os1, hb1, hl1, hg1, ⟨acc, c, hS1, hasz⟩, hk⟩ := hv
    have hasz' : acc.size < sizeLine := by omega
    show wpAny _ A.in1 (updateSeq S (·.push v) >>= _) _ _ _
    refine wpAny_bind ?_
    refine wpAny_updateSeq hS1 rfl (wpAny_pure ⟨plainId_quiet F.plain_extend_loop _, ?_⟩) (Nat.le_of_lt hasz') (by show (acc.push v).size ≤ sizeLine + 1; rw [Array.size_push]; omega)
    have keep3 : ∀ b o, b ≠ S → s₁.heap.get? b = some o → (s₁.heap.update S (Obj.mapSeq (·.push v))).get? b = some o := fun b o hbS e => (Heap.get?_update_other _ _ (Ne.symm hbS)).trans e
    have hsz1 : g < s₁.gens.size := by
      have q : (s₁.setGen g gs').gens.size = s₁.gens.size := setGen_size _ _ _
      have z : g + 1 ≤ (s₁.setGen g gs').gens.size := hsz
      omega
    refine ih { s₁.setGen g gs' with heap := s₁.heap.update S (Obj.mapSeq (·.push v)) } ?_ ?_ ⟨gs', setGen_at hsz1, ?_⟩
    · obtain ⟨o, nm, qn, ho, r⟩ := hg1
      exact ⟨o, nm, qn, keep3 a o (Ne.symm hSa) ho, r⟩
    · obtain ⟨mc, hns, hnn⟩ := hl1
      exact ⟨mc, hns.at' fun o e => keep3 _ o (Ne.symm hSc) e, hnn⟩
    · exact hk _ (pushG hS1 hb1 hbare)
theorem call_listP {P : Program} {w : World} {outer : List Env} {H : Hp} {sc s : Shared} {Q : List V → Hp → Prop} {A : Around} {k N : Nat} {u : Value} {Q' : Value → Shared → Prop} {E : Value → Shared → Prop}
    (hr : Room (k + 3) A) (hfr : A.frames = some outer) (h : GMadeP P w k outer H sc N Q u s) (hQ : ∀ S s', s.heap.objs.size ≤ S → FP P w outer H sc S Q s' → Q' (.ref S) s') : wpAny (model P w) A (call (.type "list") [u]) Q' E s := by
  obtain ⟨a, g, c, rfl, ha1, ha2, hg, hgs, hos, hb, hl, hkp, hNs, wake⟩ := h
  have hSa : s.heap.objs.size ≠ a := Nat.ne_of_gt ha2
  have hcl : cStatics < s.heap.objs.size := let ⟨_, hn, _⟩ := hl; hn.lt
  have hSc : s.heap.objs.size ≠ cStatics := Nat.ne_of_gt hcl
  refine callType_codes (Q₁ := fun obj s₁ => obj = .ref s.heap.objs.size ∧ s₁ = { s with heap := s.heap.push { cls := .type "list", data := .seq #[] } }) F.called_list (F.typeCall_list_1 _) F.entry_list_init
    (code_list_new _ ⟨rfl, rfl⟩) fun obj s₁ h₁ => ?_
  obtain ⟨rfl, rfl⟩ := h₁
  have hS : (s.heap.push { cls := .type "list", data := .seq #[] }).get? s.heap.objs.size = some { cls := .type "list", data := .seq #[] } := Heap.get?_push_size _ rfl
  refine ⟨⟨_, hS, rfl⟩, F.args_list_init_2 _ _, ?_⟩
  show wpAny _ A.in1.in1 (do let old ← Builtin.List.listItems (.ref s.heap.objs.size); Builtin.List.listUpdate (.ref s.heap.objs.size) (fun _ => #[]); letGo old.toList.reverse; Builtin.List.listExtendWith (.ref s.heap.objs.size) (.ref a) .none) _ _ _
  refine wpAny_bind ?_
  unfold Builtin.List.listItems
  refine wpAny_bind (wpAny_seqItems hS rfl (wpAny_pure ?_))
  show wpAny _ A.in1.in1 (updateSeq s.heap.objs.size (fun _ => #[]) >>= fun _ => letGo (#[] : Array Value).toList.reverse >>= fun _ => Builtin.List.listExtendWith (.ref s.heap.objs.size) (.ref a) .none) _ _ _
  refine wpAny_bind (wpAny_updateSeq hS rfl ?_)
  have hS2 := Heap.get?_update_self (Obj.mapSeq (fun _ => (#[] : Array Value))) hS rfl
  refine wpAny_bind (wpAny_letGo ?_)
  unfold Builtin.List.listExtendWith
  have up : ∀ (h : Heap) (f : Obj → Obj), (∀ b o, s.heap.get? b = some o → h.get? b = some o) → ∀ b o, s.heap.get? b = some o → (h.update s.heap.objs.size f).get? b = some o := fun h f q b o e =>
    (Heap.get?_update_other _ _ (Ne.symm (Nat.ne_of_lt (Heap.lt_size e)))).trans (q b o e)
  have k1 : ∀ b o, s.heap.get? b = some o → (s.heap.push { cls := .type "list", data := .seq #[] }).get? b = some o := fun b o e => Heap.get?_push_of_some _ e
  have k2 := up _ (Obj.mapSeq (fun _ => (#[] : Array Value))) k1
  have gty : ∀ {h : Heap}, (∀ b o, s.heap.get? b = some o → h.get? b = some o) → h.IsGen a g := fun {h} q => hg.keeps q
  refine wpAny_bind (wpAny_typeOf (Heap.IsGen.typeIs (s := { s with heap := _ }) (gty k2)) ?_)
  have h1 : Builtin.List.listSameRef (.ref s.heap.objs.size) (.ref a) = false := by simp [Builtin.List.listSameRef, hSa]
  have h2 : (Value.type "generator" == Value.type "list") = false := by decide
  have h3 : (Value.type "generator" == Value.type "tuple") = false := by decide
  simp only [h1, h2, h3, Bool.or_false, Bool.false_eq_true, if_false]
  refine wpAny_bind (wpAny_pyIter_gen (s := { s with heap := _ }) (gty k2) ?_)
  refine wpAny_bind (wpAny_holding ?_)
  unfold Builtin.List.listLengthHint
  refine wpAny_bind (wpAny_specialOf (Heap.IsGen.typeIs (s := { s with heap := _ }) (gty k2)) F.gen_no_len ?_)
  show wpAny _ A.in1.in1 (specialOf (Value.ref a) (Str.ofString "__length_hint__") >>= _) _ _ _
  refine wpAny_bind (wpAny_specialOf (Heap.IsGen.typeIs (s := { s with heap := _ }) (gty k2)) F.gen_no_hint ?_)
  refine wpAny_pure ?_
  show wpAny _ A.in1.in1 (rule "list.extend.makes-room" >>= fun _ => Builtin.List.listTouch (.ref s.heap.objs.size) >>= fun _ =>
    again (.builtin "list.extend.loop" ⟨[.ref s.heap.objs.size, .ref a, .none], []⟩)) _ _ _
  refine wpAny_bind (wpAny_rule ?_)
  refine wpAny_bind ?_
  show wpAny _ A.in1.in1 (updateSeq s.heap.objs.size (·.push .none) >>= fun _ => updateSeq s.heap.objs.size (·.pop)) _ _ _
  refine wpAny_bind (wpAny_updateSeq hS2 rfl ?_)
  have hS3 := Heap.get?_update_self (Obj.mapSeq (·.push Value.none)) hS2 rfl
  refine wpAny_updateSeq (hz := by seq_fits) hS3 rfl ?_
  have hS4 := Heap.get?_update_self (Obj.mapSeq (·.pop)) hS3 rfl
  have k4 := up _ (Obj.mapSeq (·.pop)) (up _ (Obj.mapSeq (·.push Value.none)) k2)
  have hgl : g < s.gens.size := (Array.getElem?_eq_some_iff.mp hgs).1
  refine wpAny_pure ⟨plainId_quiet F.plain_extend_loop _, ?_⟩
  refine drainP (P := P) (w := w) (outer := outer) (H := H) (sc := sc) (Q := Q) (A := A.in1) (g := g) hr.hd (by have := hr.dp; show A.depth < _; omega) hSa hSc hNs
    (fun s' hf => ⟨rfl, hQ _ s' (Nat.le_refl _) hf⟩) N _ (gty k4) (hl.keeps k4) ⟨_, hgs, rfl, ?_⟩
  refine wake _ _ _ ⟨hr.hd, ?_, ?_⟩ hfr (Nat.le_refl _) k4 ⟨_, hS4⟩ hos (allBare_setGen (s := { s with heap := _ }) hb rfl) ?_
  · have := hr.dp
    show A.depth + 3 * k + 5 < _
    omega
  · have := hr.un
    show A.units + 1 + 1 + 1 + 16 * k + 200 < _
    omega
  · rw [setGen_size]; exact hgl

/-- f(e, ..) of such a def -/
structure PGenP (X : Cx) (k : Nat) (e : Expr) (tg : L2.St → Hp → (List V → Hp → Prop) → Prop) : Prop where
  run : ∀ (pins : List (Addr × Obj)) (s : Shared) (σ : L2.St) (H : Hp) (Q : List V → Hp → Prop), Inv X pins σ H s → tg σ H Q → wpAny (model X.prog X.w) X.A (eval e X.env)
    (fun u s' => ∃ H1 sc N, Inv X pins σ H1 sc ∧ GMadeP X.prog X.w k X.stack H1 sc N Q u s') X.xe s
theorem pgenP_call {X : Cx} {k : Nat} {x : Str} {f : Addr} {fd : FuncData} {ps : List Str} {sp : SpP} {e : Expr} {es : List Expr} {t : TA} {p pos : Pos} (F : GFnP X.prog X.w X.K X.mg X.base k f fd ps sp) (hr : Room k X.A) (hg : Gl X x)
    (hm : X.mg x = some (.ref f)) (hk : PySem.W.keepIn X.K (.ref f) = true) (hb : Binds X.K fd ps []) (ha : PA X (e :: es) t) (hdb : (x == ("__debug__" : Str)) = false := by decide) (he : starEach (e :: es) X.env = (false, eval e X.env) :: starEach es X.env := by rfl)
    (hpl : (backTo pos (starEach es X.env)).any (·.1) = false := by rfl) : PGenP X k (.Call (.Name x p) (e :: es) [] pos) (fun σ H Q => t σ H fun vs H1 => ∃ N, sp vs H1 N Q) := by
  refine ⟨fun pins s σ H Q I h => ?_⟩
  refine wpAny_Call_Name_kw (ld_glob I hg hm ?_ hdb)
  refine PySem.W.callWith_K (h₀ := X.base) I.ok.mod.kin hk (thn (ha.run pos pins s σ H _ I h) fun us s1 ⟨vs, H1, I1, r, N, q1⟩ => ⟨I1.kIn, ?_⟩) he hpl
  have hl : (us ++ []).length = ps.length := by
    rw [List.append_nil, ← r.length]
    exact F.len _ _ _ _ q1
  have bb := hb s1 us I1.kIn hl
  rw [List.append_nil] at bb
  refine wpAny_call (codeAny_mono (F.run X.A X.stack s1 H1 ⟨us, []⟩ us vs N Q hr I1.env0 bb r q1) fun r s' hq => ?_)
  cases r with
  | error e => exact False.elim hq
  | ok fl =>
    cases fl with
    | ret u => exact ⟨H1, s1, N, I1, hq⟩
    | next => exact False.elim hq
    | brk => exact False.elim hq
    | cont => exact False.elim hq
/-- list(g) -/
theorem pe_listP {X : Cx} {k : Nat} {e : Expr} {tg : L2.St → Hp → (List V → Hp → Prop) → Prop} {nm : Str} {p pos : Pos} (h : PGenP X k e tg) (hr : Room (k + 3) X.A) (hg : Gl X nm) (hmg : X.mg nm = none) (hv : bootBuiltins nm = some (.type "list")) (hnm : nm ≠ "__name__" := by decide)
    (hdb : (nm == ("__debug__" : Str)) = false := by decide) (he : starEach [e] X.env = (false, eval e X.env) :: starEach [] X.env := by rfl) : PE X (.Call (.Name nm p) [e] [] pos) (tListG tg) := by
  refine ⟨fun pins s σ H Q I hq => ?_⟩
  refine wpAny_Call_Name_kw (ld_blt I hg hmg hv ?_ hnm hdb)
  refine PyProof.Rows.callWith_type1 ?_ he rfl
  rw [he]
  show wpAny _ _ (spliced ((false, eval e X.env) :: backTo pos (starEach [] X.env))) _ _ s
  refine Calls.spliced_cons (thn (h.run pins s σ H _ I hq) fun u s1 ⟨H1, sc, N, I1, hG⟩ => ?_)
  refine Calls.spliced_nil ?_
  have hsz : sc.heap.objs.size ≤ s1.heap.objs.size := by
    obtain ⟨a, g, c, _, h1, h2, _⟩ := hG
    exact Nat.le_trans h1 (Nat.le_of_lt h2)
  refine call_listP hr I1.ok.frames hG fun S s' q0 hf => ?_
  obtain ⟨H', ys, acc, c, q3, q4, q5, q6, q7, q1, q2, hl, q8⟩ := hf
  exact ⟨.ref S, upd H' S (.lst ys), Inv.drained I1 (Nat.le_trans hsz q0) hl q1 q2 .nil q3 q4 q5 q6 q7, rfl, q8 S q7⟩
end Tb
set_option Elab.async false
set_option linter.all false
set_option maxRecDepth 100000
set_option maxHeartbeats 4000000
namespace Tb
open PySem PySem.Spec PyProof.Rows L2 He
structure Tx (K : PySem.W.Frag) (mg : Str → Option Value) (base : Heap) : Prop where
  says : Says K
  kin : K.In base
  glob : base.Ns mainGlobals mg
section
variable {K : PySem.W.Frag} {mg : Str → Option Value} {base : Heap}
theorem F_is_integer (T : Tx K mg base) : ∃ fd, FunD K "is_integer" "is_integer" (C8.fnArgs s_is_integer) (C8.fnBody s_is_integer) (C8.fnScope s_is_integer) [] [] (He.ga K "is_integer") fd := T.says.d.def_ 0 (d := fn_is_integer) rfl
theorem D_is_integer (T : Tx K mg base) : DefAt K "is_integer" "is_integer" s_is_integer ["value"] (He.ga K "is_integer") := by
  obtain ⟨fd, F⟩ := F_is_integer T
  exact ⟨fd, F, F.bindsN fun _ _ _ _ _ _ us hl => match us, hl with | [_], _ => rfl⟩
theorem F_is_below (T : Tx K mg base) : ∃ fd, FunD K "is_below" "is_below" (C8.fnArgs s_is_below) (C8.fnBody s_is_below) (C8.fnScope s_is_below) [] [] (He.ga K "is_below") fd := T.says.d.def_ 1 (d := fn_is_below) rfl
theorem D_is_below (T : Tx K mg base) : DefAt K "is_below" "is_below" s_is_below ["value", "many"] (He.ga K "is_below") := by
  obtain ⟨fd, F⟩ := F_is_below T
  exact ⟨fd, F, F.bindsN fun _ _ _ _ _ _ us hl => match us, hl with | [_, _], _ => rfl⟩
theorem F_is_number (T : Tx K mg base) : ∃ fd, FunD K "is_number" "is_number" (C8.fnArgs s_is_number) (C8.fnBody s_is_number) (C8.fnScope s_is_number) [] [] (He.ga K "is_number") fd := T.says.d.def_ 2 (d := fn_is_number) rfl
theorem D_is_number (T : Tx K mg base) : DefAt K "is_number" "is_number" s_is_number ["value"] (He.ga K "is_number") := by
  obtain ⟨fd, F⟩ := F_is_number T
  exact ⟨fd, F, F.bindsN fun _ _ _ _ _ _ us hl => match us, hl with | [_], _ => rfl⟩
theorem F_is_place (T : Tx K mg base) : ∃ fd, FunD K "is_place" "is_place" (C8.fnArgs s_is_place) (C8.fnBody s_is_place) (C8.fnScope s_is_place) [] [] (He.ga K "is_place") fd := T.says.d.def_ 3 (d := fn_is_place) rfl
theorem D_is_place (T : Tx K mg base) : DefAt K "is_place" "is_place" s_is_place ["value"] (He.ga K "is_place") := by
  obtain ⟨fd, F⟩ := F_is_place T
  exact ⟨fd, F, F.bindsN fun _ _ _ _ _ _ us hl => match us, hl with | [_], _ => rfl⟩
theorem F_is_rest (T : Tx K mg base) : ∃ fd, FunD K "is_rest" "is_rest" (C8.fnArgs s_is_rest) (C8.fnBody s_is_rest) (C8.fnScope s_is_rest) [] [] (He.ga K "is_rest") fd := T.says.d.def_ 4 (d := fn_is_rest) rfl
theorem D_is_rest (T : Tx K mg base) : DefAt K "is_rest" "is_rest" s_is_rest ["value"] (He.ga K "is_rest") := by
  obtain ⟨fd, F⟩ := F_is_rest T
  exact ⟨fd, F, F.bindsN fun _ _ _ _ _ _ us hl => match us, hl with | [_], _ => rfl⟩
theorem F_is_word (T : Tx K mg base) : ∃ fd, FunD K "is_word" "is_word" (C8.fnArgs s_is_word) (C8.fnBody s_is_word) (C8.fnScope s_is_word) [] [] (He.ga K "is_word") fd := T.says.d.def_ 5 (d := fn_is_word) rfl
theorem D_is_word (T : Tx K mg base) : DefAt K "is_word" "is_word" s_is_word ["value"] (He.ga K "is_word") := by
  obtain ⟨fd, F⟩ := F_is_word T
  exact ⟨fd, F, F.bindsN fun _ _ _ _ _ _ us hl => match us, hl with | [_], _ => rfl⟩
theorem F_is_level_word (T : Tx K mg base) : ∃ fd, FunD K "is_level_word" "is_level_word" (C8.fnArgs s_is_level_word) (C8.fnBody s_is_level_word) (C8.fnScope s_is_level_word) [] [] (He.ga K "is_level_word") fd := T.says.d.def_ 6 (d := fn_is_level_word) rfl
theorem D_is_level_word (T : Tx K mg base) : DefAt K "is_level_word" "is_level_word" s_is_level_word ["value"] (He.ga K "is_level_word") := by
  obtain ⟨fd, F⟩ := F_is_level_word T
  exact ⟨fd, F, F.bindsN fun _ _ _ _ _ _ us hl => match us, hl with | [_], _ => rfl⟩
theorem F_is_pair (T : Tx K mg base) : ∃ fd, FunD K "is_pair" "is_pair" (C8.fnArgs s_is_pair) (C8.fnBody s_is_pair) (C8.fnScope s_is_pair) [] [] (He.ga K "is_pair") fd := T.says.d.def_ 7 (d := fn_is_pair) rfl
theorem D_is_pair (T : Tx K mg base) : DefAt K "is_pair" "is_pair" s_is_pair ["value"] (He.ga K "is_pair") := by
  obtain ⟨fd, F⟩ := F_is_pair T
  exact ⟨fd, F, F.bindsN fun _ _ _ _ _ _ us hl => match us, hl with | [_], _ => rfl⟩
theorem F_is_triple (T : Tx K mg base) : ∃ fd, FunD K "is_triple" "is_triple" (C8.fnArgs s_is_triple) (C8.fnBody s_is_triple) (C8.fnScope s_is_triple) [] [] (He.ga K "is_triple") fd := T.says.d.def_ 8 (d := fn_is_triple) rfl
theorem D_is_triple (T : Tx K mg base) : DefAt K "is_triple" "is_triple" s_is_triple ["value"] (He.ga K "is_triple") := by
  obtain ⟨fd, F⟩ := F_is_triple T
  exact ⟨fd, F, F.bindsN fun _ _ _ _ _ _ us hl => match us, hl with | [_], _ => rfl⟩
theorem F_is_entry (T : Tx K mg base) : ∃ fd, FunD K "is_entry" "is_entry" (C8.fnArgs s_is_entry) (C8.fnBody s_is_entry) (C8.fnScope s_is_entry) [] [] (He.ga K "is_entry") fd := T.says.d.def_ 9 (d := fn_is_entry) rfl
theorem D_is_entry (T : Tx K mg base) : DefAt K "is_entry" "is_entry" s_is_entry ["word", "value"] (He.ga K "is_entry") := by
  obtain ⟨fd, F⟩ := F_is_entry T
  exact ⟨fd, F, F.bindsN fun _ _ _ _ _ _ us hl => match us, hl with | [_, _], _ => rfl⟩
theorem F_is_level_for (T : Tx K mg base) : ∃ fd, FunD K "is_level_for" "is_level_for" (C8.fnArgs s_is_level_for) (C8.fnBody s_is_level_for) (C8.fnScope s_is_level_for) [] [] (He.ga K "is_level_for") fd := T.says.d.def_ 10 (d := fn_is_level_for) rfl
theorem D_is_level_for (T : Tx K mg base) : DefAt K "is_level_for" "is_level_for" s_is_level_for ["level", "index", "many"] (He.ga K "is_level_for") := by
  obtain ⟨fd, F⟩ := F_is_level_for T
  exact ⟨fd, F, F.bindsN fun _ _ _ _ _ _ us hl => match us, hl with | [_, _, _], _ => rfl⟩
theorem F_require_book (T : Tx K mg base) : ∃ fd, FunD K "require_book" "require_book" (C8.fnArgs s_require_book) (C8.fnBody s_require_book) (C8.fnScope s_require_book) [] [] (He.ga K "require_book") fd := T.says.d.def_ 11 (d := fn_require_book) rfl
theorem D_require_book (T : Tx K mg base) : DefAt K "require_book" "require_book" s_require_book ["book"] (He.ga K "require_book") := by
  obtain ⟨fd, F⟩ := F_require_book T
  exact ⟨fd, F, F.bindsN fun _ _ _ _ _ _ us hl => match us, hl with | [_], _ => rfl⟩
theorem F_slice_of (T : Tx K mg base) : ∃ fd, FunD K "slice_of" "slice_of" (C8.fnArgs s_slice_of) (C8.fnBody s_slice_of) (C8.fnScope s_slice_of) [] [] (He.ga K "slice_of") fd := T.says.d.def_ 12 (d := fn_slice_of) rfl
theorem D_slice_of (T : Tx K mg base) : DefAt K "slice_of" "slice_of" s_slice_of ["book", "level"] (He.ga K "slice_of") := by
  obtain ⟨fd, F⟩ := F_slice_of T
  exact ⟨fd, F, F.bindsN fun _ _ _ _ _ _ us hl => match us, hl with | [_, _], _ => rfl⟩
theorem F_fresh_at (T : Tx K mg base) : ∃ fd, FunD K "fresh_at" "fresh_at" (C8.fnArgs s_fresh_at) (C8.fnBody s_fresh_at) (C8.fnScope s_fresh_at) [] [] (He.ga K "fresh_at") fd := T.says.d.def_ 13 (d := fn_fresh_at) rfl
theorem D_fresh_at (T : Tx K mg base) : DefAt K "fresh_at" "fresh_at" s_fresh_at ["book", "level"] (He.ga K "fresh_at") := by
  obtain ⟨fd, F⟩ := F_fresh_at T
  exact ⟨fd, F, F.bindsN fun _ _ _ _ _ _ us hl => match us, hl with | [_, _], _ => rfl⟩
theorem F_worked_in (T : Tx K mg base) : ∃ fd, FunD K "worked_in" "worked_in" (C8.fnArgs s_worked_in) (C8.fnBody s_worked_in) (C8.fnScope s_worked_in) [] [] (He.ga K "worked_in") fd := T.says.d.def_ 14 (d := fn_worked_in) rfl
theorem D_worked_in (T : Tx K mg base) : DefAt K "worked_in" "worked_in" s_worked_in ["state"] (He.ga K "worked_in") := by
  obtain ⟨fd, F⟩ := F_worked_in T
  exact ⟨fd, F, F.bindsN fun _ _ _ _ _ _ us hl => match us, hl with | [_], _ => rfl⟩
theorem F_moved_in (T : Tx K mg base) : ∃ fd, FunD K "moved_in" "moved_in" (C8.fnArgs s_moved_in) (C8.fnBody s_moved_in) (C8.fnScope s_moved_in) [] [] (He.ga K "moved_in") fd := T.says.d.def_ 15 (d := fn_moved_in) rfl
theorem D_moved_in (T : Tx K mg base) : DefAt K "moved_in" "moved_in" s_moved_in ["book", "word", "state"] (He.ga K "moved_in") := by
  obtain ⟨fd, F⟩ := F_moved_in T
  exact ⟨fd, F, F.bindsN fun _ _ _ _ _ _ us hl => match us, hl with | [_, _, _], _ => rfl⟩
theorem F_after_work (T : Tx K mg base) : ∃ fd, FunD K "after_work" "after_work" (C8.fnArgs s_after_work) (C8.fnBody s_after_work) (C8.fnScope s_after_work) [] [] (He.ga K "after_work") fd := T.says.d.def_ 16 (d := fn_after_work) rfl
theorem D_after_work (T : Tx K mg base) : DefAt K "after_work" "after_work" s_after_work ["book", "state", "word"] (He.ga K "after_work") := by
  obtain ⟨fd, F⟩ := F_after_work T
  exact ⟨fd, F, F.bindsN fun _ _ _ _ _ _ us hl => match us, hl with | [_, _, _], _ => rfl⟩
theorem F_entered (T : Tx K mg base) : ∃ fd, FunD K "entered" "entered" (C8.fnArgs s_entered) (C8.fnBody s_entered) (C8.fnScope s_entered) [] [] (He.ga K "entered") fd := T.says.d.def_ 17 (d := fn_entered) rfl
theorem D_entered (T : Tx K mg base) : DefAt K "entered" "entered" s_entered ["book", "word", "posture"] (He.ga K "entered") := by
  obtain ⟨fd, F⟩ := F_entered T
  exact ⟨fd, F, F.bindsN fun _ _ _ _ _ _ us hl => match us, hl with | [_, _, _], _ => rfl⟩
theorem F_is_coming (T : Tx K mg base) : ∃ fd, FunD K "is_coming" "is_coming" (C8.fnArgs s_is_coming) (C8.fnBody s_is_coming) (C8.fnScope s_is_coming) [] [] (He.ga K "is_coming") fd := T.says.d.def_ 18 (d := fn_is_coming) rfl
theorem D_is_coming (T : Tx K mg base) : DefAt K "is_coming" "is_coming" s_is_coming ["value"] (He.ga K "is_coming") := by
  obtain ⟨fd, F⟩ := F_is_coming T
  exact ⟨fd, F, F.bindsN fun _ _ _ _ _ _ us hl => match us, hl with | [_], _ => rfl⟩
theorem F_is_tick (T : Tx K mg base) : ∃ fd, FunD K "is_tick" "is_tick" (C8.fnArgs s_is_tick) (C8.fnBody s_is_tick) (C8.fnScope s_is_tick) [] [] (He.ga K "is_tick") fd := T.says.d.def_ 19 (d := fn_is_tick) rfl
theorem D_is_tick (T : Tx K mg base) : DefAt K "is_tick" "is_tick" s_is_tick ["value"] (He.ga K "is_tick") := by
  obtain ⟨fd, F⟩ := F_is_tick T
  exact ⟨fd, F, F.bindsN fun _ _ _ _ _ _ us hl => match us, hl with | [_], _ => rfl⟩
theorem F_comers_in (T : Tx K mg base) : ∃ fd, FunD K "comers_in" "comers_in" (C8.fnArgs s_comers_in) (C8.fnBody s_comers_in) (C8.fnScope s_comers_in) [] [] (He.ga K "comers_in") fd := T.says.d.def_ 20 (d := fn_comers_in) rfl
theorem D_comers_in (T : Tx K mg base) : DefAt K "comers_in" "comers_in" s_comers_in ["load"] (He.ga K "comers_in") := by
  obtain ⟨fd, F⟩ := F_comers_in T
  exact ⟨fd, F, F.bindsN fun _ _ _ _ _ _ us hl => match us, hl with | [_], _ => rfl⟩
theorem F_is_load (T : Tx K mg base) : ∃ fd, FunD K "is_load" "is_load" (C8.fnArgs s_is_load) (C8.fnBody s_is_load) (C8.fnScope s_is_load) [] [] (He.ga K "is_load") fd := T.says.d.def_ 21 (d := fn_is_load) rfl
theorem D_is_load (T : Tx K mg base) : DefAt K "is_load" "is_load" s_is_load ["value"] (He.ga K "is_load") := by
  obtain ⟨fd, F⟩ := F_is_load T
  exact ⟨fd, F, F.bindsN fun _ _ _ _ _ _ us hl => match us, hl with | [_], _ => rfl⟩
theorem F_require_load (T : Tx K mg base) : ∃ fd, FunD K "require_load" "require_load" (C8.fnArgs s_require_load) (C8.fnBody s_require_load) (C8.fnScope s_require_load) [] [] (He.ga K "require_load") fd := T.says.d.def_ 22 (d := fn_require_load) rfl
theorem D_require_load (T : Tx K mg base) : DefAt K "require_load" "require_load" s_require_load ["load"] (He.ga K "require_load") := by
  obtain ⟨fd, F⟩ := F_require_load T
  exact ⟨fd, F, F.bindsN fun _ _ _ _ _ _ us hl => match us, hl with | [_], _ => rfl⟩
theorem F_let_all_come (T : Tx K mg base) : ∃ fd, FunD K "let_all_come" "let_all_come" (C8.fnArgs s_let_all_come) (C8.fnBody s_let_all_come) (C8.fnScope s_let_all_come) [] [] (He.ga K "let_all_come") fd := T.says.d.def_ 23 (d := fn_let_all_come) rfl
theorem D_let_all_come (T : Tx K mg base) : DefAt K "let_all_come" "let_all_come" s_let_all_come ["course", "index", "comings"] (He.ga K "let_all_come") := by
  obtain ⟨fd, F⟩ := F_let_all_come T
  exact ⟨fd, F, F.bindsN fun _ _ _ _ _ _ us hl => match us, hl with | [_, _, _], _ => rfl⟩
theorem F_done_by (T : Tx K mg base) : ∃ fd, FunD K "done_by" "done_by" (C8.fnArgs s_done_by) (C8.fnBody s_done_by) (C8.fnScope s_done_by) [] [] (He.ga K "done_by") fd := T.says.d.def_ 24 (d := fn_done_by) rfl
theorem D_done_by (T : Tx K mg base) : DefAt K "done_by" "done_by" s_done_by ["course", "load"] (He.ga K "done_by") := by
  obtain ⟨fd, F⟩ := F_done_by T
  exact ⟨fd, F, F.bindsN fun _ _ _ _ _ _ us hl => match us, hl with | [_, _], _ => rfl⟩
theorem F_chart (T : Tx K mg base) : ∃ fd, FunD K "chart" "chart" (C8.fnArgs s_chart) (C8.fnBody s_chart) (C8.fnScope s_chart) [] [] (He.ga K "chart") fd := T.says.d.def_ 25 (d := fn_chart) rfl
theorem D_chart (T : Tx K mg base) : DefAt K "chart" "chart" s_chart ["book", "load"] (He.ga K "chart") := by
  obtain ⟨fd, F⟩ := F_chart T
  exact ⟨fd, F, F.bindsN fun _ _ _ _ _ _ us hl => match us, hl with | [_, _], _ => rfl⟩
theorem F_pictures (T : Tx K mg base) : ∃ fd, FunD K "pictures" "pictures" (C8.fnArgs s_pictures) (C8.fnBody s_pictures) (C8.fnScope s_pictures) [] [] (He.ga K "pictures") fd := T.says.d.def_ 26 (d := fn_pictures) rfl
theorem D_pictures (T : Tx K mg base) : DefAt K "pictures" "pictures" s_pictures ["book", "load"] (He.ga K "pictures") := by
  obtain ⟨fd, F⟩ := F_pictures T
  exact ⟨fd, F, F.bindsN fun _ _ _ _ _ _ us hl => match us, hl with | [_, _], _ => rfl⟩
theorem F_work_of (T : Tx K mg base) : ∃ fd, FunD K "work_of" "work_of" (C8.fnArgs s_work_of) (C8.fnBody s_work_of) (C8.fnScope s_work_of) [] [] (He.ga K "work_of") fd := T.says.d.def_ 27 (d := fn_work_of) rfl
theorem D_work_of (T : Tx K mg base) : DefAt K "work_of" "work_of" s_work_of ["book", "calls"] (He.ga K "work_of") := by
  obtain ⟨fd, F⟩ := F_work_of T
  exact ⟨fd, F, F.bindsN fun _ _ _ _ _ _ us hl => match us, hl with | [_, _], _ => rfl⟩
theorem F__law_dice (T : Tx K mg base) : ∃ fd, FunD K "_law_dice" "_law_dice" (C8.fnArgs s__law_dice) (C8.fnBody s__law_dice) (C8.fnScope s__law_dice) [] [] (He.ga K "_law_dice") fd := T.says.d.def_ 28 (d := fn__law_dice) rfl
theorem D__law_dice (T : Tx K mg base) : DefAt K "_law_dice" "_law_dice" s__law_dice ["_law_script", "_law_spot"] (He.ga K "_law_dice") := by
  obtain ⟨fd, F⟩ := F__law_dice T
  exact ⟨fd, F, F.bindsN fun _ _ _ _ _ _ us hl => match us, hl with | [_, _], _ => rfl⟩
theorem F__law_roll (T : Tx K mg base) : ∃ fd, FunD K "_law_roll" "_law_roll" (C8.fnArgs s__law_roll) (C8.fnBody s__law_roll) (C8.fnScope s__law_roll) [] [] (He.ga K "_law_roll") fd := T.says.d.def_ 29 (d := fn__law_roll) rfl
theorem D__law_roll (T : Tx K mg base) : DefAt K "_law_roll" "_law_roll" s__law_roll ["_law_dice_here", "_law_upto"] (He.ga K "_law_roll") := by
  obtain ⟨fd, F⟩ := F__law_roll T
  exact ⟨fd, F, F.bindsN fun _ _ _ _ _ _ us hl => match us, hl with | [_, _], _ => rfl⟩
theorem F__law_pick (T : Tx K mg base) : ∃ fd, FunD K "_law_pick" "_law_pick" (C8.fnArgs s__law_pick) (C8.fnBody s__law_pick) (C8.fnScope s__law_pick) [] [] (He.ga K "_law_pick") fd := T.says.d.def_ 30 (d := fn__law_pick) rfl
theorem D__law_pick (T : Tx K mg base) : DefAt K "_law_pick" "_law_pick" s__law_pick ["_law_dice_here", "_law_items"] (He.ga K "_law_pick") := by
  obtain ⟨fd, F⟩ := F__law_pick T
  exact ⟨fd, F, F.bindsN fun _ _ _ _ _ _ us hl => match us, hl with | [_, _], _ => rfl⟩
theorem F__law_level (T : Tx K mg base) : ∃ fd, FunD K "_law_level" "_law_level" (C8.fnArgs s__law_level) (C8.fnBody s__law_level) (C8.fnScope s__law_level) [] [] (He.ga K "_law_level") fd := T.says.d.def_ 31 (d := fn__law_level) rfl
theorem D__law_level (T : Tx K mg base) : DefAt K "_law_level" "_law_level" s__law_level ["_law_dice_here", "_law_index", "_law_lots", "_law_most"] (He.ga K "_law_level") := by
  obtain ⟨fd, F⟩ := F__law_level T
  exact ⟨fd, F, F.bindsN fun _ _ _ _ _ _ us hl => match us, hl with | [_, _, _, _], _ => rfl⟩
theorem F__law_book (T : Tx K mg base) : ∃ fd, FunD K "_law_book" "_law_book" (C8.fnArgs s__law_book) (C8.fnBody s__law_book) (C8.fnScope s__law_book) [] [] (He.ga K "_law_book") fd := T.says.d.def_ 32 (d := fn__law_book) rfl
theorem D__law_book (T : Tx K mg base) : DefAt K "_law_book" "_law_book" s__law_book ["_law_dice_here", "_law_lots", "_law_kinds", "_law_most"] (He.ga K "_law_book") := by
  obtain ⟨fd, F⟩ := F__law_book T
  exact ⟨fd, F, F.bindsN fun _ _ _ _ _ _ us hl => match us, hl with | [_, _, _, _], _ => rfl⟩
theorem F__law_level_made (T : Tx K mg base) : ∃ fd, FunD K "_law_level_made" "_law_level_made" (C8.fnArgs s__law_level_made) (C8.fnBody s__law_level_made) (C8.fnScope s__law_level_made) [] [] (He.ga K "_law_level_made") fd := T.says.d.def_ 33 (d := fn__law_level_made) rfl
theorem D__law_level_made (T : Tx K mg base) : DefAt K "_law_level_made" "_law_level_made" s__law_level_made ["_law_plain"] (He.ga K "_law_level_made") := by
  obtain ⟨fd, F⟩ := F__law_level_made T
  exact ⟨fd, F, F.bindsN fun _ _ _ _ _ _ us hl => match us, hl with | [_], _ => rfl⟩
theorem F__law_book_made (T : Tx K mg base) : ∃ fd, FunD K "_law_book_made" "_law_book_made" (C8.fnArgs s__law_book_made) (C8.fnBody s__law_book_made) (C8.fnScope s__law_book_made) [] [] (He.ga K "_law_book_made") fd := T.says.d.def_ 34 (d := fn__law_book_made) rfl
theorem D__law_book_made (T : Tx K mg base) : DefAt K "_law_book_made" "_law_book_made" s__law_book_made ["_law_plain"] (He.ga K "_law_book_made") := by
  obtain ⟨fd, F⟩ := F__law_book_made T
  exact ⟨fd, F, F.bindsN fun _ _ _ _ _ _ us hl => match us, hl with | [_], _ => rfl⟩
theorem F__law_shown (T : Tx K mg base) : ∃ fd, FunD K "_law_shown" "_law_shown" (C8.fnArgs s__law_shown) (C8.fnBody s__law_shown) (C8.fnScope s__law_shown) [] [] (He.ga K "_law_shown") fd := T.says.d.def_ 35 (d := fn__law_shown) rfl
theorem D__law_shown (T : Tx K mg base) : DefAt K "_law_shown" "_law_shown" s__law_shown ["_law_processor"] (He.ga K "_law_shown") := by
  obtain ⟨fd, F⟩ := F__law_shown T
  exact ⟨fd, F, F.bindsN fun _ _ _ _ _ _ us hl => match us, hl with | [_], _ => rfl⟩
theorem F__law_fresh (T : Tx K mg base) : ∃ fd, FunD K "_law_fresh" "_law_fresh" (C8.fnArgs s__law_fresh) (C8.fnBody s__law_fresh) (C8.fnScope s__law_fresh) [] [] (He.ga K "_law_fresh") fd := T.says.d.def_ 36 (d := fn__law_fresh) rfl
theorem D__law_fresh (T : Tx K mg base) : DefAt K "_law_fresh" "_law_fresh" s__law_fresh ["_law_book_here", "_law_calls"] (He.ga K "_law_fresh") := by
  obtain ⟨fd, F⟩ := F__law_fresh T
  exact ⟨fd, F, F.bindsN fun _ _ _ _ _ _ us hl => match us, hl with | [_, _], _ => rfl⟩
theorem F__law_called (T : Tx K mg base) : ∃ fd, FunD K "_law_called" "_law_called" (C8.fnArgs s__law_called) (C8.fnBody s__law_called) (C8.fnScope s__law_called) [] [] (He.ga K "_law_called") fd := T.says.d.def_ 37 (d := fn__law_called) rfl
theorem D__law_called (T : Tx K mg base) : DefAt K "_law_called" "_law_called" s__law_called ["_law_dice_here", "_law_processor", "_law_plain", "_law_left"] (He.ga K "_law_called") := by
  obtain ⟨fd, F⟩ := F__law_called T
  exact ⟨fd, F, F.bindsN fun _ _ _ _ _ _ us hl => match us, hl with | [_, _, _, _], _ => rfl⟩
theorem F__law_is_like_its_log (T : Tx K mg base) : ∃ fd, FunD K "_law_is_like_its_log" "_law_is_like_its_log" (C8.fnArgs s__law_is_like_its_log) (C8.fnBody s__law_is_like_its_log) (C8.fnScope s__law_is_like_its_log) [] [] (He.ga K "_law_is_like_its_log") fd := T.says.d.def_ 38 (d := fn__law_is_like_its_log) rfl
theorem D__law_is_like_its_log (T : Tx K mg base) : DefAt K "_law_is_like_its_log" "_law_is_like_its_log" s__law_is_like_its_log ["_law_processor", "_law_book_here"] (He.ga K "_law_is_like_its_log") := by
  obtain ⟨fd, F⟩ := F__law_is_like_its_log T
  exact ⟨fd, F, F.bindsN fun _ _ _ _ _ _ us hl => match us, hl with | [_, _], _ => rfl⟩
theorem F_law (T : Tx K mg base) : ∃ fd, FunD K "law" "law" (C8.fnArgs s_law) (C8.fnBody s_law) (C8.fnScope s_law) [] [] (He.ga K "law") fd := T.says.d.def_ 39 (d := fn_law) rfl
theorem D_law (T : Tx K mg base) : DefAt K "law" "law" s_law ["_law_script"] (He.ga K "law") := by
  obtain ⟨fd, F⟩ := F_law T
  exact ⟨fd, F, F.bindsN fun _ _ _ _ _ _ us hl => match us, hl with | [_], _ => rfl⟩
theorem F_Level___init__ (T : Tx K mg base) : ∃ fd, FunD K "__init__" "Level.__init__" (C8.fnArgs s_Level___init__) (C8.fnBody s_Level___init__) (C8.fnScope s_Level___init__) [.non] [("takes", .int 0)] (He.ma K (He.ga K "Level") "__init__") fd := T.says.d.def_ 40 (d := fn_Level___init__) rfl
theorem F_Level___getitem__ (T : Tx K mg base) : ∃ fd, FunD K "__getitem__" "Level.__getitem__" (C8.fnArgs s_Level___getitem__) (C8.fnBody s_Level___getitem__) (C8.fnScope s_Level___getitem__) [] [] (He.ma K (He.ga K "Level") "__getitem__") fd := T.says.d.def_ 41 (d := fn_Level___getitem__) rfl
theorem D_Level___getitem__ (T : Tx K mg base) : DefAt K "__getitem__" "Level.__getitem__" s_Level___getitem__ ["self", "word"] (He.ma K (He.ga K "Level") "__getitem__") := by
  obtain ⟨fd, F⟩ := F_Level___getitem__ T
  exact ⟨fd, F, F.bindsN fun _ _ _ _ _ _ us hl => match us, hl with | [_, _], _ => rfl⟩
theorem F_Book___init__ (T : Tx K mg base) : ∃ fd, FunD K "__init__" "Book.__init__" (C8.fnArgs s_Book___init__) (C8.fnBody s_Book___init__) (C8.fnScope s_Book___init__) [] [] (He.ma K (He.ga K "Book") "__init__") fd := T.says.d.def_ 42 (d := fn_Book___init__) rfl
theorem F_Book_of (T : Tx K mg base) : ∃ fd, FunD K "of" "Book.of" (C8.fnArgs s_Book_of) (C8.fnBody s_Book_of) (C8.fnScope s_Book_of) [] [] (He5.wf K (He.ga K "Book") "classmethod" "of") fd := T.says.d.def_ 43 (d := fn_Book_of) rfl
theorem D_Book_of (T : Tx K mg base) : DefAt K "of" "Book.of" s_Book_of ["cls", "levels", "ranks"] (He5.wf K (He.ga K "Book") "classmethod" "of") := by
  obtain ⟨fd, F⟩ := F_Book_of T
  exact ⟨fd, F, F.bindsN fun _ _ _ _ _ _ us hl => match us, hl with | [_, _, _], _ => rfl⟩
theorem F_Book___eq__ (T : Tx K mg base) : ∃ fd, FunD K "__eq__" "Book.__eq__" (C8.fnArgs s_Book___eq__) (C8.fnBody s_Book___eq__) (C8.fnScope s_Book___eq__) [] [] (He.ma K (He.ga K "Book") "__eq__") fd := T.says.d.def_ 44 (d := fn_Book___eq__) rfl
theorem D_Book___eq__ (T : Tx K mg base) : DefAt K "__eq__" "Book.__eq__" s_Book___eq__ ["self", "other"] (He.ma K (He.ga K "Book") "__eq__") := by
  obtain ⟨fd, F⟩ := F_Book___eq__ T
  exact ⟨fd, F, F.bindsN fun _ _ _ _ _ _ us hl => match us, hl with | [_, _], _ => rfl⟩
theorem F_Queues___init__ (T : Tx K mg base) : ∃ fd, FunD K "__init__" "Queues.__init__" (C8.fnArgs s_Queues___init__) (C8.fnBody s_Queues___init__) (C8.fnScope s_Queues___init__) [] [] (He.ma K (He.ga K "Queues") "__init__") fd := T.says.d.def_ 45 (d := fn_Queues___init__) rfl
theorem D_Queues___init__ (T : Tx K mg base) : DefAt K "__init__" "Queues.__init__" s_Queues___init__ ["self", "many"] (He.ma K (He.ga K "Queues") "__init__") := by
  obtain ⟨fd, F⟩ := F_Queues___init__ T
  exact ⟨fd, F, F.bindsN fun _ _ _ _ _ _ us hl => match us, hl with | [_, _], _ => rfl⟩
theorem F_Queues_put (T : Tx K mg base) : ∃ fd, FunD K "put" "Queues.put" (C8.fnArgs s_Queues_put) (C8.fnBody s_Queues_put) (C8.fnScope s_Queues_put) [] [] (He.ma K (He.ga K "Queues") "put") fd := T.says.d.def_ 46 (d := fn_Queues_put) rfl
theorem D_Queues_put (T : Tx K mg base) : DefAt K "put" "Queues.put" s_Queues_put ["self", "task", "level", "place"] (He.ma K (He.ga K "Queues") "put") := by
  obtain ⟨fd, F⟩ := F_Queues_put T
  exact ⟨fd, F, F.bindsN fun _ _ _ _ _ _ us hl => match us, hl with | [_, _, _, _], _ => rfl⟩
theorem F_Queues_pick (T : Tx K mg base) : ∃ fd, FunD K "pick" "Queues.pick" (C8.fnArgs s_Queues_pick) (C8.fnBody s_Queues_pick) (C8.fnScope s_Queues_pick) [] [] (He.ma K (He.ga K "Queues") "pick") fd := T.says.d.def_ 47 (d := fn_Queues_pick) rfl
theorem D_Queues_pick (T : Tx K mg base) : DefAt K "pick" "Queues.pick" s_Queues_pick ["self"] (He.ma K (He.ga K "Queues") "pick") := by
  obtain ⟨fd, F⟩ := F_Queues_pick T
  exact ⟨fd, F, F.bindsN fun _ _ _ _ _ _ us hl => match us, hl with | [_], _ => rfl⟩
theorem F_Queues_best (T : Tx K mg base) : ∃ fd, FunD K "best" "Queues.best" (C8.fnArgs s_Queues_best) (C8.fnBody s_Queues_best) (C8.fnScope s_Queues_best) [] [] (He5.wf K (He.ga K "Queues") "property" "best") fd := T.says.d.def_ 48 (d := fn_Queues_best) rfl
theorem D_Queues_best (T : Tx K mg base) : DefAt K "best" "Queues.best" s_Queues_best ["self"] (He5.wf K (He.ga K "Queues") "property" "best") := by
  obtain ⟨fd, F⟩ := F_Queues_best T
  exact ⟨fd, F, F.bindsN fun _ _ _ _ _ _ us hl => match us, hl with | [_], _ => rfl⟩
theorem F_Queues_tasks (T : Tx K mg base) : ∃ fd, FunD K "tasks" "Queues.tasks" (C8.fnArgs s_Queues_tasks) (C8.fnBody s_Queues_tasks) (C8.fnScope s_Queues_tasks) [] [] (He.ma K (He.ga K "Queues") "tasks") fd := T.says.d.def_ 49 (d := fn_Queues_tasks) rfl
theorem D_Queues_tasks (T : Tx K mg base) : DefAt K "tasks" "Queues.tasks" s_Queues_tasks ["self"] (He.ma K (He.ga K "Queues") "tasks") := by
  obtain ⟨fd, F⟩ := F_Queues_tasks T
  exact ⟨fd, F, F.bindsN fun _ _ _ _ _ _ us hl => match us, hl with | [_], _ => rfl⟩
theorem F_Queues_twin (T : Tx K mg base) : ∃ fd, FunD K "twin" "Queues.twin" (C8.fnArgs s_Queues_twin) (C8.fnBody s_Queues_twin) (C8.fnScope s_Queues_twin) [] [] (He.ma K (He.ga K "Queues") "twin") fd := T.says.d.def_ 50 (d := fn_Queues_twin) rfl
theorem D_Queues_twin (T : Tx K mg base) : DefAt K "twin" "Queues.twin" s_Queues_twin ["self"] (He.ma K (He.ga K "Queues") "twin") := by
  obtain ⟨fd, F⟩ := F_Queues_twin T
  exact ⟨fd, F, F.bindsN fun _ _ _ _ _ _ us hl => match us, hl with | [_], _ => rfl⟩
theorem F_Queues___eq__ (T : Tx K mg base) : ∃ fd, FunD K "__eq__" "Queues.__eq__" (C8.fnArgs s_Queues___eq__) (C8.fnBody s_Queues___eq__) (C8.fnScope s_Queues___eq__) [] [] (He.ma K (He.ga K "Queues") "__eq__") fd := T.says.d.def_ 51 (d := fn_Queues___eq__) rfl
theorem D_Queues___eq__ (T : Tx K mg base) : DefAt K "__eq__" "Queues.__eq__" s_Queues___eq__ ["self", "other"] (He.ma K (He.ga K "Queues") "__eq__") := by
  obtain ⟨fd, F⟩ := F_Queues___eq__ T
  exact ⟨fd, F, F.bindsN fun _ _ _ _ _ _ us hl => match us, hl with | [_, _], _ => rfl⟩
theorem F_Course___init__ (T : Tx K mg base) : ∃ fd, FunD K "__init__" "Course.__init__" (C8.fnArgs s_Course___init__) (C8.fnBody s_Course___init__) (C8.fnScope s_Course___init__) [] [] (He.ma K (He.ga K "Course") "__init__") fd := T.says.d.def_ 52 (d := fn_Course___init__) rfl
theorem D_Course___init__ (T : Tx K mg base) : DefAt K "__init__" "Course.__init__" s_Course___init__ ["self", "book"] (He.ma K (He.ga K "Course") "__init__") := by
  obtain ⟨fd, F⟩ := F_Course___init__ T
  exact ⟨fd, F, F.bindsN fun _ _ _ _ _ _ us hl => match us, hl with | [_, _], _ => rfl⟩
theorem F_Course_twin (T : Tx K mg base) : ∃ fd, FunD K "twin" "Course.twin" (C8.fnArgs s_Course_twin) (C8.fnBody s_Course_twin) (C8.fnScope s_Course_twin) [] [] (He.ma K (He.ga K "Course") "twin") fd := T.says.d.def_ 53 (d := fn_Course_twin) rfl
theorem D_Course_twin (T : Tx K mg base) : DefAt K "twin" "Course.twin" s_Course_twin ["self"] (He.ma K (He.ga K "Course") "twin") := by
  obtain ⟨fd, F⟩ := F_Course_twin T
  exact ⟨fd, F, F.bindsN fun _ _ _ _ _ _ us hl => match us, hl with | [_], _ => rfl⟩
theorem F_Course_enter (T : Tx K mg base) : ∃ fd, FunD K "enter" "Course.enter" (C8.fnArgs s_Course_enter) (C8.fnBody s_Course_enter) (C8.fnScope s_Course_enter) [] [] (He.ma K (He.ga K "Course") "enter") fd := T.says.d.def_ 54 (d := fn_Course_enter) rfl
theorem D_Course_enter (T : Tx K mg base) : DefAt K "enter" "Course.enter" s_Course_enter ["self", "task", "posture", "place"] (He.ma K (He.ga K "Course") "enter") := by
  obtain ⟨fd, F⟩ := F_Course_enter T
  exact ⟨fd, F, F.bindsN fun _ _ _ _ _ _ us hl => match us, hl with | [_, _, _, _], _ => rfl⟩
theorem F_Course_come (T : Tx K mg base) : ∃ fd, FunD K "come" "Course.come" (C8.fnArgs s_Course_come) (C8.fnBody s_Course_come) (C8.fnScope s_Course_come) [] [] (He.ma K (He.ga K "Course") "come") fd := T.says.d.def_ 55 (d := fn_Course_come) rfl
theorem D_Course_come (T : Tx K mg base) : DefAt K "come" "Course.come" s_Course_come ["self", "rank"] (He.ma K (He.ga K "Course") "come") := by
  obtain ⟨fd, F⟩ := F_Course_come T
  exact ⟨fd, F, F.bindsN fun _ _ _ _ _ _ us hl => match us, hl with | [_, _], _ => rfl⟩
theorem F_Course_is_asleep (T : Tx K mg base) : ∃ fd, FunD K "is_asleep" "Course.is_asleep" (C8.fnArgs s_Course_is_asleep) (C8.fnBody s_Course_is_asleep) (C8.fnScope s_Course_is_asleep) [] [] (He.ma K (He.ga K "Course") "is_asleep") fd := T.says.d.def_ 56 (d := fn_Course_is_asleep) rfl
theorem D_Course_is_asleep (T : Tx K mg base) : DefAt K "is_asleep" "Course.is_asleep" s_Course_is_asleep ["self", "task"] (He.ma K (He.ga K "Course") "is_asleep") := by
  obtain ⟨fd, F⟩ := F_Course_is_asleep T
  exact ⟨fd, F, F.bindsN fun _ _ _ _ _ _ us hl => match us, hl with | [_, _], _ => rfl⟩
theorem F_Course_wake_up (T : Tx K mg base) : ∃ fd, FunD K "wake_up" "Course.wake_up" (C8.fnArgs s_Course_wake_up) (C8.fnBody s_Course_wake_up) (C8.fnScope s_Course_wake_up) [] [] (He.ma K (He.ga K "Course") "wake_up") fd := T.says.d.def_ 57 (d := fn_Course_wake_up) rfl
theorem D_Course_wake_up (T : Tx K mg base) : DefAt K "wake_up" "Course.wake_up" s_Course_wake_up ["self", "task"] (He.ma K (He.ga K "Course") "wake_up") := by
  obtain ⟨fd, F⟩ := F_Course_wake_up T
  exact ⟨fd, F, F.bindsN fun _ _ _ _ _ _ us hl => match us, hl with | [_, _], _ => rfl⟩
theorem F_Course_can_come (T : Tx K mg base) : ∃ fd, FunD K "can_come" "Course.can_come" (C8.fnArgs s_Course_can_come) (C8.fnBody s_Course_can_come) (C8.fnScope s_Course_can_come) [] [] (He.ma K (He.ga K "Course") "can_come") fd := T.says.d.def_ 58 (d := fn_Course_can_come) rfl
theorem D_Course_can_come (T : Tx K mg base) : DefAt K "can_come" "Course.can_come" s_Course_can_come ["self", "coming"] (He.ma K (He.ga K "Course") "can_come") := by
  obtain ⟨fd, F⟩ := F_Course_can_come T
  exact ⟨fd, F, F.bindsN fun _ _ _ _ _ _ us hl => match us, hl with | [_, _], _ => rfl⟩
theorem F_Course_let_come (T : Tx K mg base) : ∃ fd, FunD K "let_come" "Course.let_come" (C8.fnArgs s_Course_let_come) (C8.fnBody s_Course_let_come) (C8.fnScope s_Course_let_come) [] [] (He.ma K (He.ga K "Course") "let_come") fd := T.says.d.def_ 59 (d := fn_Course_let_come) rfl
theorem D_Course_let_come (T : Tx K mg base) : DefAt K "let_come" "Course.let_come" s_Course_let_come ["self", "coming"] (He.ma K (He.ga K "Course") "let_come") := by
  obtain ⟨fd, F⟩ := F_Course_let_come T
  exact ⟨fd, F, F.bindsN fun _ _ _ _ _ _ us hl => match us, hl with | [_, _], _ => rfl⟩
theorem F_Course_taking (T : Tx K mg base) : ∃ fd, FunD K "taking" "Course.taking" (C8.fnArgs s_Course_taking) (C8.fnBody s_Course_taking) (C8.fnScope s_Course_taking) [] [] (He.ma K (He.ga K "Course") "taking") fd := T.says.d.def_ 60 (d := fn_Course_taking) rfl
theorem D_Course_taking (T : Tx K mg base) : DefAt K "taking" "Course.taking" s_Course_taking ["self"] (He.ma K (He.ga K "Course") "taking") := by
  obtain ⟨fd, F⟩ := F_Course_taking T
  exact ⟨fd, F, F.bindsN fun _ _ _ _ _ _ us hl => match us, hl with | [_], _ => rfl⟩
theorem F_Course_is_taken (T : Tx K mg base) : ∃ fd, FunD K "is_taken" "Course.is_taken" (C8.fnArgs s_Course_is_taken) (C8.fnBody s_Course_is_taken) (C8.fnScope s_Course_is_taken) [] [] (He.ma K (He.ga K "Course") "is_taken") fd := T.says.d.def_ 61 (d := fn_Course_is_taken) rfl
theorem D_Course_is_taken (T : Tx K mg base) : DefAt K "is_taken" "Course.is_taken" s_Course_is_taken ["self", "word"] (He.ma K (He.ga K "Course") "is_taken") := by
  obtain ⟨fd, F⟩ := F_Course_is_taken T
  exact ⟨fd, F, F.bindsN fun _ _ _ _ _ _ us hl => match us, hl with | [_, _], _ => rfl⟩
theorem F_Course_give_up (T : Tx K mg base) : ∃ fd, FunD K "give_up" "Course.give_up" (C8.fnArgs s_Course_give_up) (C8.fnBody s_Course_give_up) (C8.fnScope s_Course_give_up) [] [] (He.ma K (He.ga K "Course") "give_up") fd := T.says.d.def_ 62 (d := fn_Course_give_up) rfl
theorem D_Course_give_up (T : Tx K mg base) : DefAt K "give_up" "Course.give_up" s_Course_give_up ["self"] (He.ma K (He.ga K "Course") "give_up") := by
  obtain ⟨fd, F⟩ := F_Course_give_up T
  exact ⟨fd, F, F.bindsN fun _ _ _ _ _ _ us hl => match us, hl with | [_], _ => rfl⟩
theorem F_Course_next_worker (T : Tx K mg base) : ∃ fd, FunD K "next_worker" "Course.next_worker" (C8.fnArgs s_Course_next_worker) (C8.fnBody s_Course_next_worker) (C8.fnScope s_Course_next_worker) [] [] (He.ma K (He.ga K "Course") "next_worker") fd := T.says.d.def_ 63 (d := fn_Course_next_worker) rfl
theorem D_Course_next_worker (T : Tx K mg base) : DefAt K "next_worker" "Course.next_worker" s_Course_next_worker ["self"] (He.ma K (He.ga K "Course") "next_worker") := by
  obtain ⟨fd, F⟩ := F_Course_next_worker T
  exact ⟨fd, F, F.bindsN fun _ _ _ _ _ _ us hl => match us, hl with | [_], _ => rfl⟩
theorem F_Course_tick (T : Tx K mg base) : ∃ fd, FunD K "tick" "Course.tick" (C8.fnArgs s_Course_tick) (C8.fnBody s_Course_tick) (C8.fnScope s_Course_tick) [] [] (He.ma K (He.ga K "Course") "tick") fd := T.says.d.def_ 64 (d := fn_Course_tick) rfl
theorem D_Course_tick (T : Tx K mg base) : DefAt K "tick" "Course.tick" s_Course_tick ["self", "word"] (He.ma K (He.ga K "Course") "tick") := by
  obtain ⟨fd, F⟩ := F_Course_tick T
  exact ⟨fd, F, F.bindsN fun _ _ _ _ _ _ us hl => match us, hl with | [_, _], _ => rfl⟩
theorem F_Course_shown (T : Tx K mg base) : ∃ fd, FunD K "shown" "Course.shown" (C8.fnArgs s_Course_shown) (C8.fnBody s_Course_shown) (C8.fnScope s_Course_shown) [] [] (He.ma K (He.ga K "Course") "shown") fd := T.says.d.def_ 65 (d := fn_Course_shown) rfl
theorem D_Course_shown (T : Tx K mg base) : DefAt K "shown" "Course.shown" s_Course_shown ["self"] (He.ma K (He.ga K "Course") "shown") := by
  obtain ⟨fd, F⟩ := F_Course_shown T
  exact ⟨fd, F, F.bindsN fun _ _ _ _ _ _ us hl => match us, hl with | [_], _ => rfl⟩
theorem F_Course_is_like (T : Tx K mg base) : ∃ fd, FunD K "is_like" "Course.is_like" (C8.fnArgs s_Course_is_like) (C8.fnBody s_Course_is_like) (C8.fnScope s_Course_is_like) [] [] (He.ma K (He.ga K "Course") "is_like") fd := T.says.d.def_ 66 (d := fn_Course_is_like) rfl
theorem D_Course_is_like (T : Tx K mg base) : DefAt K "is_like" "Course.is_like" s_Course_is_like ["self", "other"] (He.ma K (He.ga K "Course") "is_like") := by
  obtain ⟨fd, F⟩ := F_Course_is_like T
  exact ⟨fd, F, F.bindsN fun _ _ _ _ _ _ us hl => match us, hl with | [_, _], _ => rfl⟩
theorem F_Work___init__ (T : Tx K mg base) : ∃ fd, FunD K "__init__" "Work.__init__" (C8.fnArgs s_Work___init__) (C8.fnBody s_Work___init__) (C8.fnScope s_Work___init__) [] [] (He.ma K (He.ga K "Work") "__init__") fd := T.says.d.def_ 67 (d := fn_Work___init__) rfl
theorem D_Work___init__ (T : Tx K mg base) : DefAt K "__init__" "Work.__init__" s_Work___init__ ["self", "book"] (He.ma K (He.ga K "Work") "__init__") := by
  obtain ⟨fd, F⟩ := F_Work___init__ T
  exact ⟨fd, F, F.bindsN fun _ _ _ _ _ _ us hl => match us, hl with | [_, _], _ => rfl⟩
theorem F_Work_branch (T : Tx K mg base) : ∃ fd, FunD K "branch" "Work.branch" (C8.fnArgs s_Work_branch) (C8.fnBody s_Work_branch) (C8.fnScope s_Work_branch) [] [] (He.ma K (He.ga K "Work") "branch") fd := T.says.d.def_ 68 (d := fn_Work_branch) rfl
theorem D_Work_branch (T : Tx K mg base) : DefAt K "branch" "Work.branch" s_Work_branch ["self"] (He.ma K (He.ga K "Work") "branch") := by
  obtain ⟨fd, F⟩ := F_Work_branch T
  exact ⟨fd, F, F.bindsN fun _ _ _ _ _ _ us hl => match us, hl with | [_], _ => rfl⟩
theorem F_Work_require_room (T : Tx K mg base) : ∃ fd, FunD K "require_room" "Work.require_room" (C8.fnArgs s_Work_require_room) (C8.fnBody s_Work_require_room) (C8.fnScope s_Work_require_room) [] [] (He.ma K (He.ga K "Work") "require_room") fd := T.says.d.def_ 69 (d := fn_Work_require_room) rfl
theorem D_Work_require_room (T : Tx K mg base) : DefAt K "require_room" "Work.require_room" s_Work_require_room ["self"] (He.ma K (He.ga K "Work") "require_room") := by
  obtain ⟨fd, F⟩ := F_Work_require_room T
  exact ⟨fd, F, F.bindsN fun _ _ _ _ _ _ us hl => match us, hl with | [_], _ => rfl⟩
theorem F_Work_let_in (T : Tx K mg base) : ∃ fd, FunD K "let_in" "Work.let_in" (C8.fnArgs s_Work_let_in) (C8.fnBody s_Work_let_in) (C8.fnScope s_Work_let_in) [] [] (He.ma K (He.ga K "Work") "let_in") fd := T.says.d.def_ 70 (d := fn_Work_let_in) rfl
theorem D_Work_let_in (T : Tx K mg base) : DefAt K "let_in" "Work.let_in" s_Work_let_in ["self", "rank"] (He.ma K (He.ga K "Work") "let_in") := by
  obtain ⟨fd, F⟩ := F_Work_let_in T
  exact ⟨fd, F, F.bindsN fun _ _ _ _ _ _ us hl => match us, hl with | [_, _], _ => rfl⟩
theorem F_Work_rouse (T : Tx K mg base) : ∃ fd, FunD K "rouse" "Work.rouse" (C8.fnArgs s_Work_rouse) (C8.fnBody s_Work_rouse) (C8.fnScope s_Work_rouse) [] [] (He.ma K (He.ga K "Work") "rouse") fd := T.says.d.def_ 71 (d := fn_Work_rouse) rfl
theorem D_Work_rouse (T : Tx K mg base) : DefAt K "rouse" "Work.rouse" s_Work_rouse ["self", "task"] (He.ma K (He.ga K "Work") "rouse") := by
  obtain ⟨fd, F⟩ := F_Work_rouse T
  exact ⟨fd, F, F.bindsN fun _ _ _ _ _ _ us hl => match us, hl with | [_, _], _ => rfl⟩
theorem F_Work_kept (T : Tx K mg base) : ∃ fd, FunD K "kept" "Work.kept" (C8.fnArgs s_Work_kept) (C8.fnBody s_Work_kept) (C8.fnScope s_Work_kept) [] [] (He.ma K (He.ga K "Work") "kept") fd := T.says.d.def_ 72 (d := fn_Work_kept) rfl
theorem D_Work_kept (T : Tx K mg base) : DefAt K "kept" "Work.kept" s_Work_kept ["self", "coming"] (He.ma K (He.ga K "Work") "kept") := by
  obtain ⟨fd, F⟩ := F_Work_kept T
  exact ⟨fd, F, F.bindsN fun _ _ _ _ _ _ us hl => match us, hl with | [_, _], _ => rfl⟩
theorem F_Work_turn (T : Tx K mg base) : ∃ fd, FunD K "turn" "Work.turn" (C8.fnArgs s_Work_turn) (C8.fnBody s_Work_turn) (C8.fnScope s_Work_turn) [] [] (He.ma K (He.ga K "Work") "turn") fd := T.says.d.def_ 73 (d := fn_Work_turn) rfl
theorem D_Work_turn (T : Tx K mg base) : DefAt K "turn" "Work.turn" s_Work_turn ["self", "word"] (He.ma K (He.ga K "Work") "turn") := by
  obtain ⟨fd, F⟩ := F_Work_turn T
  exact ⟨fd, F, F.bindsN fun _ _ _ _ _ _ us hl => match us, hl with | [_, _], _ => rfl⟩
theorem F_Work_again (T : Tx K mg base) : ∃ fd, FunD K "again" "Work.again" (C8.fnArgs s_Work_again) (C8.fnBody s_Work_again) (C8.fnScope s_Work_again) [] [] (He.ma K (He.ga K "Work") "again") fd := T.says.d.def_ 74 (d := fn_Work_again) rfl
theorem D_Work_again (T : Tx K mg base) : DefAt K "again" "Work.again" s_Work_again ["self", "call"] (He.ma K (He.ga K "Work") "again") := by
  obtain ⟨fd, F⟩ := F_Work_again T
  exact ⟨fd, F, F.bindsN fun _ _ _ _ _ _ us hl => match us, hl with | [_, _], _ => rfl⟩
theorem F_Trial___init__ (T : Tx K mg base) : ∃ fd, FunD K "__init__" "Trial.__init__" (C8.fnArgs s_Trial___init__) (C8.fnBody s_Trial___init__) (C8.fnScope s_Trial___init__) [] [] (He.ma K (He.ga K "Trial") "__init__") fd := T.says.d.def_ 75 (d := fn_Trial___init__) rfl
theorem D_Trial___init__ (T : Tx K mg base) : DefAt K "__init__" "Trial.__init__" s_Trial___init__ ["self", "processor"] (He.ma K (He.ga K "Trial") "__init__") := by
  obtain ⟨fd, F⟩ := F_Trial___init__ T
  exact ⟨fd, F, F.bindsN fun _ _ _ _ _ _ us hl => match us, hl with | [_, _], _ => rfl⟩
theorem F_Trial___enter__ (T : Tx K mg base) : ∃ fd, FunD K "__enter__" "Trial.__enter__" (C8.fnArgs s_Trial___enter__) (C8.fnBody s_Trial___enter__) (C8.fnScope s_Trial___enter__) [] [] (He.ma K (He.ga K "Trial") "__enter__") fd := T.says.d.def_ 76 (d := fn_Trial___enter__) rfl
theorem D_Trial___enter__ (T : Tx K mg base) : DefAt K "__enter__" "Trial.__enter__" s_Trial___enter__ ["self"] (He.ma K (He.ga K "Trial") "__enter__") := by
  obtain ⟨fd, F⟩ := F_Trial___enter__ T
  exact ⟨fd, F, F.bindsN fun _ _ _ _ _ _ us hl => match us, hl with | [_], _ => rfl⟩
theorem F_Trial___exit__ (T : Tx K mg base) : ∃ fd, FunD K "__exit__" "Trial.__exit__" (C8.fnArgs s_Trial___exit__) (C8.fnBody s_Trial___exit__) (C8.fnScope s_Trial___exit__) [] [] (He.ma K (He.ga K "Trial") "__exit__") fd := T.says.d.def_ 77 (d := fn_Trial___exit__) rfl
theorem D_Trial___exit__ (T : Tx K mg base) : DefAt K "__exit__" "Trial.__exit__" s_Trial___exit__ ["self", "kind", "value", "trace"] (He.ma K (He.ga K "Trial") "__exit__") := by
  obtain ⟨fd, F⟩ := F_Trial___exit__ T
  exact ⟨fd, F, F.bindsN fun _ _ _ _ _ _ us hl => match us, hl with | [_, _, _, _], _ => rfl⟩
theorem F_Processor___init__ (T : Tx K mg base) : ∃ fd, FunD K "__init__" "Processor.__init__" (C8.fnArgs s_Processor___init__) (C8.fnBody s_Processor___init__) (C8.fnScope s_Processor___init__) [] [] (He.ma K (He.ga K "Processor") "__init__") fd := T.says.d.def_ 78 (d := fn_Processor___init__) rfl
theorem D_Processor___init__ (T : Tx K mg base) : DefAt K "__init__" "Processor.__init__" s_Processor___init__ ["self", "book"] (He.ma K (He.ga K "Processor") "__init__") := by
  obtain ⟨fd, F⟩ := F_Processor___init__ T
  exact ⟨fd, F, F.bindsN fun _ _ _ _ _ _ us hl => match us, hl with | [_, _], _ => rfl⟩
theorem F_Processor_come (T : Tx K mg base) : ∃ fd, FunD K "come" "Processor.come" (C8.fnArgs s_Processor_come) (C8.fnBody s_Processor_come) (C8.fnScope s_Processor_come) [] [] (He.ma K (He.ga K "Processor") "come") fd := T.says.d.def_ 79 (d := fn_Processor_come) rfl
theorem D_Processor_come (T : Tx K mg base) : DefAt K "come" "Processor.come" s_Processor_come ["self", "rank"] (He.ma K (He.ga K "Processor") "come") := by
  obtain ⟨fd, F⟩ := F_Processor_come T
  exact ⟨fd, F, F.bindsN fun _ _ _ _ _ _ us hl => match us, hl with | [_, _], _ => rfl⟩
theorem F_Processor_wake_up (T : Tx K mg base) : ∃ fd, FunD K "wake_up" "Processor.wake_up" (C8.fnArgs s_Processor_wake_up) (C8.fnBody s_Processor_wake_up) (C8.fnScope s_Processor_wake_up) [] [] (He.ma K (He.ga K "Processor") "wake_up") fd := T.says.d.def_ 80 (d := fn_Processor_wake_up) rfl
theorem D_Processor_wake_up (T : Tx K mg base) : DefAt K "wake_up" "Processor.wake_up" s_Processor_wake_up ["self", "task"] (He.ma K (He.ga K "Processor") "wake_up") := by
  obtain ⟨fd, F⟩ := F_Processor_wake_up T
  exact ⟨fd, F, F.bindsN fun _ _ _ _ _ _ us hl => match us, hl with | [_, _], _ => rfl⟩
theorem F_Processor_tick (T : Tx K mg base) : ∃ fd, FunD K "tick" "Processor.tick" (C8.fnArgs s_Processor_tick) (C8.fnBody s_Processor_tick) (C8.fnScope s_Processor_tick) [] [] (He.ma K (He.ga K "Processor") "tick") fd := T.says.d.def_ 81 (d := fn_Processor_tick) rfl
theorem D_Processor_tick (T : Tx K mg base) : DefAt K "tick" "Processor.tick" s_Processor_tick ["self", "word"] (He.ma K (He.ga K "Processor") "tick") := by
  obtain ⟨fd, F⟩ := F_Processor_tick T
  exact ⟨fd, F, F.bindsN fun _ _ _ _ _ _ us hl => match us, hl with | [_, _], _ => rfl⟩
theorem F_Processor_bell (T : Tx K mg base) : ∃ fd, FunD K "bell" "Processor.bell" (C8.fnArgs s_Processor_bell) (C8.fnBody s_Processor_bell) (C8.fnScope s_Processor_bell) [] [] (He.ma K (He.ga K "Processor") "bell") fd := T.says.d.def_ 82 (d := fn_Processor_bell) rfl
theorem D_Processor_bell (T : Tx K mg base) : DefAt K "bell" "Processor.bell" s_Processor_bell ["self"] (He.ma K (He.ga K "Processor") "bell") := by
  obtain ⟨fd, F⟩ := F_Processor_bell T
  exact ⟨fd, F, F.bindsN fun _ _ _ _ _ _ us hl => match us, hl with | [_], _ => rfl⟩
theorem F_Processor_do (T : Tx K mg base) : ∃ fd, FunD K "do" "Processor.do" (C8.fnArgs s_Processor_do) (C8.fnBody s_Processor_do) (C8.fnScope s_Processor_do) [] [] (He.ma K (He.ga K "Processor") "do") fd := T.says.d.def_ 83 (d := fn_Processor_do) rfl
theorem D_Processor_do (T : Tx K mg base) : DefAt K "do" "Processor.do" s_Processor_do ["self", "load"] (He.ma K (He.ga K "Processor") "do") := by
  obtain ⟨fd, F⟩ := F_Processor_do T
  exact ⟨fd, F, F.bindsN fun _ _ _ _ _ _ us hl => match us, hl with | [_, _], _ => rfl⟩
theorem F_Processor_book (T : Tx K mg base) : ∃ fd, FunD K "book" "Processor.book" (C8.fnArgs s_Processor_book) (C8.fnBody s_Processor_book) (C8.fnScope s_Processor_book) [] [] (He5.wf K (He.ga K "Processor") "property" "book") fd := T.says.d.def_ 84 (d := fn_Processor_book) rfl
theorem D_Processor_book (T : Tx K mg base) : DefAt K "book" "Processor.book" s_Processor_book ["self"] (He5.wf K (He.ga K "Processor") "property" "book") := by
  obtain ⟨fd, F⟩ := F_Processor_book T
  exact ⟨fd, F, F.bindsN fun _ _ _ _ _ _ us hl => match us, hl with | [_], _ => rfl⟩
theorem F_Processor_picture (T : Tx K mg base) : ∃ fd, FunD K "picture" "Processor.picture" (C8.fnArgs s_Processor_picture) (C8.fnBody s_Processor_picture) (C8.fnScope s_Processor_picture) [] [] (He5.wf K (He.ga K "Processor") "property" "picture") fd := T.says.d.def_ 85 (d := fn_Processor_picture) rfl
theorem D_Processor_picture (T : Tx K mg base) : DefAt K "picture" "Processor.picture" s_Processor_picture ["self"] (He5.wf K (He.ga K "Processor") "property" "picture") := by
  obtain ⟨fd, F⟩ := F_Processor_picture T
  exact ⟨fd, F, F.bindsN fun _ _ _ _ _ _ us hl => match us, hl with | [_], _ => rfl⟩
theorem F_Processor_runner (T : Tx K mg base) : ∃ fd, FunD K "runner" "Processor.runner" (C8.fnArgs s_Processor_runner) (C8.fnBody s_Processor_runner) (C8.fnScope s_Processor_runner) [] [] (He5.wf K (He.ga K "Processor") "property" "runner") fd := T.says.d.def_ 86 (d := fn_Processor_runner) rfl
theorem D_Processor_runner (T : Tx K mg base) : DefAt K "runner" "Processor.runner" s_Processor_runner ["self"] (He5.wf K (He.ga K "Processor") "property" "runner") := by
  obtain ⟨fd, F⟩ := F_Processor_runner T
  exact ⟨fd, F, F.bindsN fun _ _ _ _ _ _ us hl => match us, hl with | [_], _ => rfl⟩
theorem F_Processor_next_one (T : Tx K mg base) : ∃ fd, FunD K "next_one" "Processor.next_one" (C8.fnArgs s_Processor_next_one) (C8.fnBody s_Processor_next_one) (C8.fnScope s_Processor_next_one) [] [] (He5.wf K (He.ga K "Processor") "property" "next_one") fd := T.says.d.def_ 87 (d := fn_Processor_next_one) rfl
theorem D_Processor_next_one (T : Tx K mg base) : DefAt K "next_one" "Processor.next_one" s_Processor_next_one ["self"] (He5.wf K (He.ga K "Processor") "property" "next_one") := by
  obtain ⟨fd, F⟩ := F_Processor_next_one T
  exact ⟨fd, F, F.bindsN fun _ _ _ _ _ _ us hl => match us, hl with | [_], _ => rfl⟩
theorem F_Processor_chart (T : Tx K mg base) : ∃ fd, FunD K "chart" "Processor.chart" (C8.fnArgs s_Processor_chart) (C8.fnBody s_Processor_chart) (C8.fnScope s_Processor_chart) [] [] (He5.wf K (He.ga K "Processor") "property" "chart") fd := T.says.d.def_ 88 (d := fn_Processor_chart) rfl
theorem D_Processor_chart (T : Tx K mg base) : DefAt K "chart" "Processor.chart" s_Processor_chart ["self"] (He5.wf K (He.ga K "Processor") "property" "chart") := by
  obtain ⟨fd, F⟩ := F_Processor_chart T
  exact ⟨fd, F, F.bindsN fun _ _ _ _ _ _ us hl => match us, hl with | [_], _ => rfl⟩
theorem F_Processor_done (T : Tx K mg base) : ∃ fd, FunD K "done" "Processor.done" (C8.fnArgs s_Processor_done) (C8.fnBody s_Processor_done) (C8.fnScope s_Processor_done) [] [] (He5.wf K (He.ga K "Processor") "property" "done") fd := T.says.d.def_ 89 (d := fn_Processor_done) rfl
theorem D_Processor_done (T : Tx K mg base) : DefAt K "done" "Processor.done" s_Processor_done ["self"] (He5.wf K (He.ga K "Processor") "property" "done") := by
  obtain ⟨fd, F⟩ := F_Processor_done T
  exact ⟨fd, F, F.bindsN fun _ _ _ _ _ _ us hl => match us, hl with | [_], _ => rfl⟩
theorem F_Processor_log (T : Tx K mg base) : ∃ fd, FunD K "log" "Processor.log" (C8.fnArgs s_Processor_log) (C8.fnBody s_Processor_log) (C8.fnScope s_Processor_log) [] [] (He5.wf K (He.ga K "Processor") "property" "log") fd := T.says.d.def_ 90 (d := fn_Processor_log) rfl
theorem D_Processor_log (T : Tx K mg base) : DefAt K "log" "Processor.log" s_Processor_log ["self"] (He5.wf K (He.ga K "Processor") "property" "log") := by
  obtain ⟨fd, F⟩ := F_Processor_log T
  exact ⟨fd, F, F.bindsN fun _ _ _ _ _ _ us hl => match us, hl with | [_], _ => rfl⟩
theorem F_Processor_queues (T : Tx K mg base) : ∃ fd, FunD K "queues" "Processor.queues" (C8.fnArgs s_Processor_queues) (C8.fnBody s_Processor_queues) (C8.fnScope s_Processor_queues) [] [] (He.ma K (He.ga K "Processor") "queues") fd := T.says.d.def_ 91 (d := fn_Processor_queues) rfl
theorem D_Processor_queues (T : Tx K mg base) : DefAt K "queues" "Processor.queues" s_Processor_queues ["self"] (He.ma K (He.ga K "Processor") "queues") := by
  obtain ⟨fd, F⟩ := F_Processor_queues T
  exact ⟨fd, F, F.bindsN fun _ _ _ _ _ _ us hl => match us, hl with | [_], _ => rfl⟩
theorem F_Processor_undo (T : Tx K mg base) : ∃ fd, FunD K "undo" "Processor.undo" (C8.fnArgs s_Processor_undo) (C8.fnBody s_Processor_undo) (C8.fnScope s_Processor_undo) [] [("many", .int 1)] (He.ma K (He.ga K "Processor") "undo") fd := T.says.d.def_ 92 (d := fn_Processor_undo) rfl
theorem F_Processor_redo (T : Tx K mg base) : ∃ fd, FunD K "redo" "Processor.redo" (C8.fnArgs s_Processor_redo) (C8.fnBody s_Processor_redo) (C8.fnScope s_Processor_redo) [] [("many", .int 1)] (He.ma K (He.ga K "Processor") "redo") fd := T.says.d.def_ 93 (d := fn_Processor_redo) rfl
theorem F_Processor_trial (T : Tx K mg base) : ∃ fd, FunD K "trial" "Processor.trial" (C8.fnArgs s_Processor_trial) (C8.fnBody s_Processor_trial) (C8.fnScope s_Processor_trial) [] [] (He.ma K (He.ga K "Processor") "trial") fd := T.says.d.def_ 94 (d := fn_Processor_trial) rfl
theorem D_Processor_trial (T : Tx K mg base) : DefAt K "trial" "Processor.trial" s_Processor_trial ["self"] (He.ma K (He.ga K "Processor") "trial") := by
  obtain ⟨fd, F⟩ := F_Processor_trial T
  exact ⟨fd, F, F.bindsN fun _ _ _ _ _ _ us hl => match us, hl with | [_], _ => rfl⟩
theorem F_Processor_during (T : Tx K mg base) : ∃ fd, FunD K "during" "Processor.during" (C8.fnArgs s_Processor_during) (C8.fnBody s_Processor_during) (C8.fnScope s_Processor_during) [] [] (He.ma K (He.ga K "Processor") "during") fd := T.says.d.def_ 95 (d := fn_Processor_during) rfl
theorem D_Processor_during (T : Tx K mg base) : DefAt K "during" "Processor.during" s_Processor_during ["self", "call"] (He.ma K (He.ga K "Processor") "during") := by
  obtain ⟨fd, F⟩ := F_Processor_during T
  exact ⟨fd, F, F.bindsN fun _ _ _ _ _ _ us hl => match us, hl with | [_, _], _ => rfl⟩
theorem F_Processor_twin (T : Tx K mg base) : ∃ fd, FunD K "twin" "Processor.twin" (C8.fnArgs s_Processor_twin) (C8.fnBody s_Processor_twin) (C8.fnScope s_Processor_twin) [] [] (He.ma K (He.ga K "Processor") "twin") fd := T.says.d.def_ 96 (d := fn_Processor_twin) rfl
theorem D_Processor_twin (T : Tx K mg base) : DefAt K "twin" "Processor.twin" s_Processor_twin ["self"] (He.ma K (He.ga K "Processor") "twin") := by
  obtain ⟨fd, F⟩ := F_Processor_twin T
  exact ⟨fd, F, F.bindsN fun _ _ _ _ _ _ us hl => match us, hl with | [_], _ => rfl⟩
theorem F_Processor___len__ (T : Tx K mg base) : ∃ fd, FunD K "__len__" "Processor.__len__" (C8.fnArgs s_Processor___len__) (C8.fnBody s_Processor___len__) (C8.fnScope s_Processor___len__) [] [] (He.ma K (He.ga K "Processor") "__len__") fd := T.says.d.def_ 97 (d := fn_Processor___len__) rfl
theorem D_Processor___len__ (T : Tx K mg base) : DefAt K "__len__" "Processor.__len__" s_Processor___len__ ["self"] (He.ma K (He.ga K "Processor") "__len__") := by
  obtain ⟨fd, F⟩ := F_Processor___len__ T
  exact ⟨fd, F, F.bindsN fun _ _ _ _ _ _ us hl => match us, hl with | [_], _ => rfl⟩
theorem F_Processor___eq__ (T : Tx K mg base) : ∃ fd, FunD K "__eq__" "Processor.__eq__" (C8.fnArgs s_Processor___eq__) (C8.fnBody s_Processor___eq__) (C8.fnScope s_Processor___eq__) [] [] (He.ma K (He.ga K "Processor") "__eq__") fd := T.says.d.def_ 98 (d := fn_Processor___eq__) rfl
theorem D_Processor___eq__ (T : Tx K mg base) : DefAt K "__eq__" "Processor.__eq__" s_Processor___eq__ ["self", "other"] (He.ma K (He.ga K "Processor") "__eq__") := by
  obtain ⟨fd, F⟩ := F_Processor___eq__ T
  exact ⟨fd, F, F.bindsN fun _ _ _ _ _ _ us hl => match us, hl with | [_, _], _ => rfl⟩
theorem F_Processor___str__ (T : Tx K mg base) : ∃ fd, FunD K "__str__" "Processor.__str__" (C8.fnArgs s_Processor___str__) (C8.fnBody s_Processor___str__) (C8.fnScope s_Processor___str__) [] [] (He.ma K (He.ga K "Processor") "__str__") fd := T.says.d.def_ 99 (d := fn_Processor___str__) rfl
theorem D_Processor___str__ (T : Tx K mg base) : DefAt K "__str__" "Processor.__str__" s_Processor___str__ ["self"] (He.ma K (He.ga K "Processor") "__str__") := by
  obtain ⟨fd, F⟩ := F_Processor___str__ T
  exact ⟨fd, F, F.bindsN fun _ _ _ _ _ _ us hl => match us, hl with | [_], _ => rfl⟩
theorem g_is_integer (T : Tx K mg base) : mg "is_integer" = some (.ref (He.ga K "is_integer")) := He.glo_ok T.kin T.glob (T.says.d.fact 0 (f := .glo "is_integer") rfl)
theorem g_is_below (T : Tx K mg base) : mg "is_below" = some (.ref (He.ga K "is_below")) := He.glo_ok T.kin T.glob (T.says.d.fact 1 (f := .glo "is_below") rfl)
theorem g_is_number (T : Tx K mg base) : mg "is_number" = some (.ref (He.ga K "is_number")) := He.glo_ok T.kin T.glob (T.says.d.fact 2 (f := .glo "is_number") rfl)
theorem g_is_place (T : Tx K mg base) : mg "is_place" = some (.ref (He.ga K "is_place")) := He.glo_ok T.kin T.glob (T.says.d.fact 3 (f := .glo "is_place") rfl)
theorem g_is_rest (T : Tx K mg base) : mg "is_rest" = some (.ref (He.ga K "is_rest")) := He.glo_ok T.kin T.glob (T.says.d.fact 4 (f := .glo "is_rest") rfl)
theorem g_is_word (T : Tx K mg base) : mg "is_word" = some (.ref (He.ga K "is_word")) := He.glo_ok T.kin T.glob (T.says.d.fact 5 (f := .glo "is_word") rfl)
theorem g_is_level_word (T : Tx K mg base) : mg "is_level_word" = some (.ref (He.ga K "is_level_word")) := He.glo_ok T.kin T.glob (T.says.d.fact 6 (f := .glo "is_level_word") rfl)
theorem g_is_pair (T : Tx K mg base) : mg "is_pair" = some (.ref (He.ga K "is_pair")) := He.glo_ok T.kin T.glob (T.says.d.fact 7 (f := .glo "is_pair") rfl)
theorem g_is_triple (T : Tx K mg base) : mg "is_triple" = some (.ref (He.ga K "is_triple")) := He.glo_ok T.kin T.glob (T.says.d.fact 8 (f := .glo "is_triple") rfl)
theorem g_is_entry (T : Tx K mg base) : mg "is_entry" = some (.ref (He.ga K "is_entry")) := He.glo_ok T.kin T.glob (T.says.d.fact 9 (f := .glo "is_entry") rfl)
theorem g_is_level_for (T : Tx K mg base) : mg "is_level_for" = some (.ref (He.ga K "is_level_for")) := He.glo_ok T.kin T.glob (T.says.d.fact 10 (f := .glo "is_level_for") rfl)
theorem g_require_book (T : Tx K mg base) : mg "require_book" = some (.ref (He.ga K "require_book")) := He.glo_ok T.kin T.glob (T.says.d.fact 11 (f := .glo "require_book") rfl)
theorem g_slice_of (T : Tx K mg base) : mg "slice_of" = some (.ref (He.ga K "slice_of")) := He.glo_ok T.kin T.glob (T.says.d.fact 12 (f := .glo "slice_of") rfl)
theorem g_fresh_at (T : Tx K mg base) : mg "fresh_at" = some (.ref (He.ga K "fresh_at")) := He.glo_ok T.kin T.glob (T.says.d.fact 13 (f := .glo "fresh_at") rfl)
theorem g_worked_in (T : Tx K mg base) : mg "worked_in" = some (.ref (He.ga K "worked_in")) := He.glo_ok T.kin T.glob (T.says.d.fact 14 (f := .glo "worked_in") rfl)
theorem g_moved_in (T : Tx K mg base) : mg "moved_in" = some (.ref (He.ga K "moved_in")) := He.glo_ok T.kin T.glob (T.says.d.fact 15 (f := .glo "moved_in") rfl)
theorem g_after_work (T : Tx K mg base) : mg "after_work" = some (.ref (He.ga K "after_work")) := He.glo_ok T.kin T.glob (T.says.d.fact 16 (f := .glo "after_work") rfl)
theorem g_entered (T : Tx K mg base) : mg "entered" = some (.ref (He.ga K "entered")) := He.glo_ok T.kin T.glob (T.says.d.fact 17 (f := .glo "entered") rfl)
theorem g_is_coming (T : Tx K mg base) : mg "is_coming" = some (.ref (He.ga K "is_coming")) := He.glo_ok T.kin T.glob (T.says.d.fact 18 (f := .glo "is_coming") rfl)
theorem g_is_tick (T : Tx K mg base) : mg "is_tick" = some (.ref (He.ga K "is_tick")) := He.glo_ok T.kin T.glob (T.says.d.fact 19 (f := .glo "is_tick") rfl)
theorem g_comers_in (T : Tx K mg base) : mg "comers_in" = some (.ref (He.ga K "comers_in")) := He.glo_ok T.kin T.glob (T.says.d.fact 20 (f := .glo "comers_in") rfl)
theorem g_is_load (T : Tx K mg base) : mg "is_load" = some (.ref (He.ga K "is_load")) := He.glo_ok T.kin T.glob (T.says.d.fact 21 (f := .glo "is_load") rfl)
theorem g_require_load (T : Tx K mg base) : mg "require_load" = some (.ref (He.ga K "require_load")) := He.glo_ok T.kin T.glob (T.says.d.fact 22 (f := .glo "require_load") rfl)
theorem g_let_all_come (T : Tx K mg base) : mg "let_all_come" = some (.ref (He.ga K "let_all_come")) := He.glo_ok T.kin T.glob (T.says.d.fact 23 (f := .glo "let_all_come") rfl)
theorem g_done_by (T : Tx K mg base) : mg "done_by" = some (.ref (He.ga K "done_by")) := He.glo_ok T.kin T.glob (T.says.d.fact 24 (f := .glo "done_by") rfl)
theorem g_chart (T : Tx K mg base) : mg "chart" = some (.ref (He.ga K "chart")) := He.glo_ok T.kin T.glob (T.says.d.fact 25 (f := .glo "chart") rfl)
theorem g_pictures (T : Tx K mg base) : mg "pictures" = some (.ref (He.ga K "pictures")) := He.glo_ok T.kin T.glob (T.says.d.fact 26 (f := .glo "pictures") rfl)
theorem g_work_of (T : Tx K mg base) : mg "work_of" = some (.ref (He.ga K "work_of")) := He.glo_ok T.kin T.glob (T.says.d.fact 27 (f := .glo "work_of") rfl)
theorem g__law_dice (T : Tx K mg base) : mg "_law_dice" = some (.ref (He.ga K "_law_dice")) := He.glo_ok T.kin T.glob (T.says.d.fact 28 (f := .glo "_law_dice") rfl)
theorem g__law_roll (T : Tx K mg base) : mg "_law_roll" = some (.ref (He.ga K "_law_roll")) := He.glo_ok T.kin T.glob (T.says.d.fact 29 (f := .glo "_law_roll") rfl)
theorem g__law_pick (T : Tx K mg base) : mg "_law_pick" = some (.ref (He.ga K "_law_pick")) := He.glo_ok T.kin T.glob (T.says.d.fact 30 (f := .glo "_law_pick") rfl)
theorem g__law_level (T : Tx K mg base) : mg "_law_level" = some (.ref (He.ga K "_law_level")) := He.glo_ok T.kin T.glob (T.says.d.fact 31 (f := .glo "_law_level") rfl)
theorem g__law_book (T : Tx K mg base) : mg "_law_book" = some (.ref (He.ga K "_law_book")) := He.glo_ok T.kin T.glob (T.says.d.fact 32 (f := .glo "_law_book") rfl)
theorem g__law_level_made (T : Tx K mg base) : mg "_law_level_made" = some (.ref (He.ga K "_law_level_made")) := He.glo_ok T.kin T.glob (T.says.d.fact 33 (f := .glo "_law_level_made") rfl)
theorem g__law_book_made (T : Tx K mg base) : mg "_law_book_made" = some (.ref (He.ga K "_law_book_made")) := He.glo_ok T.kin T.glob (T.says.d.fact 34 (f := .glo "_law_book_made") rfl)
theorem g__law_shown (T : Tx K mg base) : mg "_law_shown" = some (.ref (He.ga K "_law_shown")) := He.glo_ok T.kin T.glob (T.says.d.fact 35 (f := .glo "_law_shown") rfl)
theorem g__law_fresh (T : Tx K mg base) : mg "_law_fresh" = some (.ref (He.ga K "_law_fresh")) := He.glo_ok T.kin T.glob (T.says.d.fact 36 (f := .glo "_law_fresh") rfl)
theorem g__law_called (T : Tx K mg base) : mg "_law_called" = some (.ref (He.ga K "_law_called")) := He.glo_ok T.kin T.glob (T.says.d.fact 37 (f := .glo "_law_called") rfl)
theorem g__law_is_like_its_log (T : Tx K mg base) : mg "_law_is_like_its_log" = some (.ref (He.ga K "_law_is_like_its_log")) := He.glo_ok T.kin T.glob (T.says.d.fact 38 (f := .glo "_law_is_like_its_log") rfl)
theorem g_law (T : Tx K mg base) : mg "law" = some (.ref (He.ga K "law")) := He.glo_ok T.kin T.glob (T.says.d.fact 39 (f := .glo "law") rfl)
theorem g_Level (T : Tx K mg base) : mg "Level" = some (.ref (He.ga K "Level")) := He.glo_ok T.kin T.glob (T.says.d.fact 40 (f := .glo "Level") rfl)
theorem c_Level (T : Tx K mg base) : Cls K (He.ga K "Level") := He.cls_ok (x := "Level") (T.says.d.fact 41 (f := .cls "Level") rfl)
theorem k_Level (T : Tx K mg base) : Mk K (He.ga K "Level") (He.ma K (He.ga K "Level") "__init__") := He.mkr_ok (x := "Level") (T.says.d.fact 42 (f := .mkr "Level") rfl)
theorem n_Level_own_entries (T : Tx K mg base) : NoAttr K (He.ga K "Level") "own_entries" := He.noat_ok (x := "Level") (f := "own_entries") (T.says.d.fact 43 (f := .noat "Level" "own_entries") rfl)
theorem x_Level___getitem__ (T : Tx K mg base) : SpcF K (He.ga K "Level") "__getitem__" := spcB_ok (T.says.x 0 (f := fun K => spcB K (He.ga K "Level") "__getitem__") rfl)
theorem i_Level (T : Tx K mg base) : C8.InsC K (He.ga K "Level") := insB_ok (c_Level T) (T.says.x 1 (f := fun K => insB K (He.ga K "Level")) rfl)
theorem g_Book (T : Tx K mg base) : mg "Book" = some (.ref (He.ga K "Book")) := He.glo_ok T.kin T.glob (T.says.d.fact 44 (f := .glo "Book") rfl)
theorem c_Book (T : Tx K mg base) : Cls K (He.ga K "Book") := He.cls_ok (x := "Book") (T.says.d.fact 45 (f := .cls "Book") rfl)
theorem k_Book (T : Tx K mg base) : Mk K (He.ga K "Book") (He.ma K (He.ga K "Book") "__init__") := He.mkr_ok (x := "Book") (T.says.d.fact 46 (f := .mkr "Book") rfl)
theorem n_Book_own_levels (T : Tx K mg base) : NoAttr K (He.ga K "Book") "own_levels" := He.noat_ok (x := "Book") (f := "own_levels") (T.says.d.fact 47 (f := .noat "Book" "own_levels") rfl)
theorem n_Book_own_ranks (T : Tx K mg base) : NoAttr K (He.ga K "Book") "own_ranks" := He.noat_ok (x := "Book") (f := "own_ranks") (T.says.d.fact 48 (f := .noat "Book" "own_ranks") rfl)
theorem cm_Book_of (T : Tx K mg base) : ClX.CMet K (He.ga K "Book") (.type "type") "of" (He.ma K (He.ga K "Book") "of") (He5.wf K (He.ga K "Book") "classmethod" "of") := cmB_ok (T.says.x 2 (f := fun K => cmB K (He.ga K "Book") "of") rfl)
theorem cr_Book (T : Tx K mg base) : ClX.CRead K (He.ga K "Book") (.type "type") := crB_ok (T.says.x 3 (f := fun K => crB K (He.ga K "Book")) rfl)
theorem x_Book___eq__ (T : Tx K mg base) : SpcF K (He.ga K "Book") "__eq__" := spcB_ok (T.says.x 4 (f := fun K => spcB K (He.ga K "Book") "__eq__") rfl)
theorem i_Book (T : Tx K mg base) : C8.InsC K (He.ga K "Book") := insB_ok (c_Book T) (T.says.x 5 (f := fun K => insB K (He.ga K "Book")) rfl)
theorem g_Queues (T : Tx K mg base) : mg "Queues" = some (.ref (He.ga K "Queues")) := He.glo_ok T.kin T.glob (T.says.d.fact 49 (f := .glo "Queues") rfl)
theorem c_Queues (T : Tx K mg base) : Cls K (He.ga K "Queues") := He.cls_ok (x := "Queues") (T.says.d.fact 50 (f := .cls "Queues") rfl)
theorem k_Queues (T : Tx K mg base) : Mk K (He.ga K "Queues") (He.ma K (He.ga K "Queues") "__init__") := He.mkr_ok (x := "Queues") (T.says.d.fact 51 (f := .mkr "Queues") rfl)
theorem n_Queues_own_lists (T : Tx K mg base) : NoAttr K (He.ga K "Queues") "own_lists" := He.noat_ok (x := "Queues") (f := "own_lists") (T.says.d.fact 52 (f := .noat "Queues" "own_lists") rfl)
theorem m_Queues_put (T : Tx K mg base) : Meth K (He.ga K "Queues") "put" (He.ma K (He.ga K "Queues") "put") := He.meth_ok (x := "Queues") (m := "put") (T.says.d.fact 53 (f := .meth "Queues" "put") rfl)
theorem m_Queues_pick (T : Tx K mg base) : Meth K (He.ga K "Queues") "pick" (He.ma K (He.ga K "Queues") "pick") := He.meth_ok (x := "Queues") (m := "pick") (T.says.d.fact 54 (f := .meth "Queues" "pick") rfl)
theorem p_Queues_best (T : Tx K mg base) : PropOf K (He.ga K "Queues") "best" (He.ma K (He.ga K "Queues") "best") (He5.wf K (He.ga K "Queues") "property" "best") := propB_ok (T.says.x 6 (f := fun K => propB K (He.ga K "Queues") "best") rfl)
theorem m_Queues_tasks (T : Tx K mg base) : Meth K (He.ga K "Queues") "tasks" (He.ma K (He.ga K "Queues") "tasks") := He.meth_ok (x := "Queues") (m := "tasks") (T.says.d.fact 55 (f := .meth "Queues" "tasks") rfl)
theorem m_Queues_twin (T : Tx K mg base) : Meth K (He.ga K "Queues") "twin" (He.ma K (He.ga K "Queues") "twin") := He.meth_ok (x := "Queues") (m := "twin") (T.says.d.fact 56 (f := .meth "Queues" "twin") rfl)
theorem x_Queues___eq__ (T : Tx K mg base) : SpcF K (He.ga K "Queues") "__eq__" := spcB_ok (T.says.x 7 (f := fun K => spcB K (He.ga K "Queues") "__eq__") rfl)
theorem i_Queues (T : Tx K mg base) : C8.InsC K (He.ga K "Queues") := insB_ok (c_Queues T) (T.says.x 8 (f := fun K => insB K (He.ga K "Queues")) rfl)
theorem g_Course (T : Tx K mg base) : mg "Course" = some (.ref (He.ga K "Course")) := He.glo_ok T.kin T.glob (T.says.d.fact 57 (f := .glo "Course") rfl)
theorem c_Course (T : Tx K mg base) : Cls K (He.ga K "Course") := He.cls_ok (x := "Course") (T.says.d.fact 58 (f := .cls "Course") rfl)
theorem k_Course (T : Tx K mg base) : Mk K (He.ga K "Course") (He.ma K (He.ga K "Course") "__init__") := He.mkr_ok (x := "Course") (T.says.d.fact 59 (f := .mkr "Course") rfl)
theorem n_Course_own_book (T : Tx K mg base) : NoAttr K (He.ga K "Course") "own_book" := He.noat_ok (x := "Course") (f := "own_book") (T.says.d.fact 60 (f := .noat "Course" "own_book") rfl)
theorem n_Course_own_tasks (T : Tx K mg base) : NoAttr K (He.ga K "Course") "own_tasks" := He.noat_ok (x := "Course") (f := "own_tasks") (T.says.d.fact 61 (f := .noat "Course" "own_tasks") rfl)
theorem n_Course_own_queues (T : Tx K mg base) : NoAttr K (He.ga K "Course") "own_queues" := He.noat_ok (x := "Course") (f := "own_queues") (T.says.d.fact 62 (f := .noat "Course" "own_queues") rfl)
theorem n_Course_own_runner (T : Tx K mg base) : NoAttr K (He.ga K "Course") "own_runner" := He.noat_ok (x := "Course") (f := "own_runner") (T.says.d.fact 63 (f := .noat "Course" "own_runner") rfl)
theorem m_Course_twin (T : Tx K mg base) : Meth K (He.ga K "Course") "twin" (He.ma K (He.ga K "Course") "twin") := He.meth_ok (x := "Course") (m := "twin") (T.says.d.fact 64 (f := .meth "Course" "twin") rfl)
theorem m_Course_enter (T : Tx K mg base) : Meth K (He.ga K "Course") "enter" (He.ma K (He.ga K "Course") "enter") := He.meth_ok (x := "Course") (m := "enter") (T.says.d.fact 65 (f := .meth "Course" "enter") rfl)
theorem m_Course_come (T : Tx K mg base) : Meth K (He.ga K "Course") "come" (He.ma K (He.ga K "Course") "come") := He.meth_ok (x := "Course") (m := "come") (T.says.d.fact 66 (f := .meth "Course" "come") rfl)
theorem m_Course_is_asleep (T : Tx K mg base) : Meth K (He.ga K "Course") "is_asleep" (He.ma K (He.ga K "Course") "is_asleep") := He.meth_ok (x := "Course") (m := "is_asleep") (T.says.d.fact 67 (f := .meth "Course" "is_asleep") rfl)
theorem m_Course_wake_up (T : Tx K mg base) : Meth K (He.ga K "Course") "wake_up" (He.ma K (He.ga K "Course") "wake_up") := He.meth_ok (x := "Course") (m := "wake_up") (T.says.d.fact 68 (f := .meth "Course" "wake_up") rfl)
theorem m_Course_can_come (T : Tx K mg base) : Meth K (He.ga K "Course") "can_come" (He.ma K (He.ga K "Course") "can_come") := He.meth_ok (x := "Course") (m := "can_come") (T.says.d.fact 69 (f := .meth "Course" "can_come") rfl)
theorem m_Course_let_come (T : Tx K mg base) : Meth K (He.ga K "Course") "let_come" (He.ma K (He.ga K "Course") "let_come") := He.meth_ok (x := "Course") (m := "let_come") (T.says.d.fact 70 (f := .meth "Course" "let_come") rfl)
theorem m_Course_taking (T : Tx K mg base) : Meth K (He.ga K "Course") "taking" (He.ma K (He.ga K "Course") "taking") := He.meth_ok (x := "Course") (m := "taking") (T.says.d.fact 71 (f := .meth "Course" "taking") rfl)
theorem m_Course_is_taken (T : Tx K mg base) : Meth K (He.ga K "Course") "is_taken" (He.ma K (He.ga K "Course") "is_taken") := He.meth_ok (x := "Course") (m := "is_taken") (T.says.d.fact 72 (f := .meth "Course" "is_taken") rfl)
theorem m_Course_give_up (T : Tx K mg base) : Meth K (He.ga K "Course") "give_up" (He.ma K (He.ga K "Course") "give_up") := He.meth_ok (x := "Course") (m := "give_up") (T.says.d.fact 73 (f := .meth "Course" "give_up") rfl)
theorem m_Course_next_worker (T : Tx K mg base) : Meth K (He.ga K "Course") "next_worker" (He.ma K (He.ga K "Course") "next_worker") := He.meth_ok (x := "Course") (m := "next_worker") (T.says.d.fact 74 (f := .meth "Course" "next_worker") rfl)
theorem m_Course_tick (T : Tx K mg base) : Meth K (He.ga K "Course") "tick" (He.ma K (He.ga K "Course") "tick") := He.meth_ok (x := "Course") (m := "tick") (T.says.d.fact 75 (f := .meth "Course" "tick") rfl)
theorem m_Course_shown (T : Tx K mg base) : Meth K (He.ga K "Course") "shown" (He.ma K (He.ga K "Course") "shown") := He.meth_ok (x := "Course") (m := "shown") (T.says.d.fact 76 (f := .meth "Course" "shown") rfl)
theorem m_Course_is_like (T : Tx K mg base) : Meth K (He.ga K "Course") "is_like" (He.ma K (He.ga K "Course") "is_like") := He.meth_ok (x := "Course") (m := "is_like") (T.says.d.fact 77 (f := .meth "Course" "is_like") rfl)
theorem g_Work (T : Tx K mg base) : mg "Work" = some (.ref (He.ga K "Work")) := He.glo_ok T.kin T.glob (T.says.d.fact 78 (f := .glo "Work") rfl)
theorem c_Work (T : Tx K mg base) : Cls K (He.ga K "Work") := He.cls_ok (x := "Work") (T.says.d.fact 79 (f := .cls "Work") rfl)
theorem k_Work (T : Tx K mg base) : Mk K (He.ga K "Work") (He.ma K (He.ga K "Work") "__init__") := He.mkr_ok (x := "Work") (T.says.d.fact 80 (f := .mkr "Work") rfl)
theorem n_Work_own_course (T : Tx K mg base) : NoAttr K (He.ga K "Work") "own_course" := He.noat_ok (x := "Work") (f := "own_course") (T.says.d.fact 81 (f := .noat "Work" "own_course") rfl)
theorem n_Work_own_waiting (T : Tx K mg base) : NoAttr K (He.ga K "Work") "own_waiting" := He.noat_ok (x := "Work") (f := "own_waiting") (T.says.d.fact 82 (f := .noat "Work" "own_waiting") rfl)
theorem n_Work_own_ticks (T : Tx K mg base) : NoAttr K (He.ga K "Work") "own_ticks" := He.noat_ok (x := "Work") (f := "own_ticks") (T.says.d.fact 83 (f := .noat "Work" "own_ticks") rfl)
theorem n_Work_own_told (T : Tx K mg base) : NoAttr K (He.ga K "Work") "own_told" := He.noat_ok (x := "Work") (f := "own_told") (T.says.d.fact 84 (f := .noat "Work" "own_told") rfl)
theorem n_Work_own_calls (T : Tx K mg base) : NoAttr K (He.ga K "Work") "own_calls" := He.noat_ok (x := "Work") (f := "own_calls") (T.says.d.fact 85 (f := .noat "Work" "own_calls") rfl)
theorem m_Work_branch (T : Tx K mg base) : Meth K (He.ga K "Work") "branch" (He.ma K (He.ga K "Work") "branch") := He.meth_ok (x := "Work") (m := "branch") (T.says.d.fact 86 (f := .meth "Work" "branch") rfl)
theorem m_Work_require_room (T : Tx K mg base) : Meth K (He.ga K "Work") "require_room" (He.ma K (He.ga K "Work") "require_room") := He.meth_ok (x := "Work") (m := "require_room") (T.says.d.fact 87 (f := .meth "Work" "require_room") rfl)
theorem m_Work_let_in (T : Tx K mg base) : Meth K (He.ga K "Work") "let_in" (He.ma K (He.ga K "Work") "let_in") := He.meth_ok (x := "Work") (m := "let_in") (T.says.d.fact 88 (f := .meth "Work" "let_in") rfl)
theorem m_Work_rouse (T : Tx K mg base) : Meth K (He.ga K "Work") "rouse" (He.ma K (He.ga K "Work") "rouse") := He.meth_ok (x := "Work") (m := "rouse") (T.says.d.fact 89 (f := .meth "Work" "rouse") rfl)
theorem m_Work_kept (T : Tx K mg base) : Meth K (He.ga K "Work") "kept" (He.ma K (He.ga K "Work") "kept") := He.meth_ok (x := "Work") (m := "kept") (T.says.d.fact 90 (f := .meth "Work" "kept") rfl)
theorem m_Work_turn (T : Tx K mg base) : Meth K (He.ga K "Work") "turn" (He.ma K (He.ga K "Work") "turn") := He.meth_ok (x := "Work") (m := "turn") (T.says.d.fact 91 (f := .meth "Work" "turn") rfl)
theorem m_Work_again (T : Tx K mg base) : Meth K (He.ga K "Work") "again" (He.ma K (He.ga K "Work") "again") := He.meth_ok (x := "Work") (m := "again") (T.says.d.fact 92 (f := .meth "Work" "again") rfl)
theorem g_Trial (T : Tx K mg base) : mg "Trial" = some (.ref (He.ga K "Trial")) := He.glo_ok T.kin T.glob (T.says.d.fact 93 (f := .glo "Trial") rfl)
theorem c_Trial (T : Tx K mg base) : Cls K (He.ga K "Trial") := He.cls_ok (x := "Trial") (T.says.d.fact 94 (f := .cls "Trial") rfl)
theorem k_Trial (T : Tx K mg base) : Mk K (He.ga K "Trial") (He.ma K (He.ga K "Trial") "__init__") := He.mkr_ok (x := "Trial") (T.says.d.fact 95 (f := .mkr "Trial") rfl)
theorem n_Trial_own_processor (T : Tx K mg base) : NoAttr K (He.ga K "Trial") "own_processor" := He.noat_ok (x := "Trial") (f := "own_processor") (T.says.d.fact 96 (f := .noat "Trial" "own_processor") rfl)
theorem n_Trial_own_work (T : Tx K mg base) : NoAttr K (He.ga K "Trial") "own_work" := He.noat_ok (x := "Trial") (f := "own_work") (T.says.d.fact 97 (f := .noat "Trial" "own_work") rfl)
theorem n_Trial_own_undone (T : Tx K mg base) : NoAttr K (He.ga K "Trial") "own_undone" := He.noat_ok (x := "Trial") (f := "own_undone") (T.says.d.fact 98 (f := .noat "Trial" "own_undone") rfl)
theorem x_Trial___enter__ (T : Tx K mg base) : SpcF K (He.ga K "Trial") "__enter__" := spcB_ok (T.says.x 9 (f := fun K => spcB K (He.ga K "Trial") "__enter__") rfl)
theorem x_Trial___exit__ (T : Tx K mg base) : SpcF K (He.ga K "Trial") "__exit__" := spcB_ok (T.says.x 10 (f := fun K => spcB K (He.ga K "Trial") "__exit__") rfl)
theorem g_Processor (T : Tx K mg base) : mg "Processor" = some (.ref (He.ga K "Processor")) := He.glo_ok T.kin T.glob (T.says.d.fact 99 (f := .glo "Processor") rfl)
theorem c_Processor (T : Tx K mg base) : Cls K (He.ga K "Processor") := He.cls_ok (x := "Processor") (T.says.d.fact 100 (f := .cls "Processor") rfl)
theorem k_Processor (T : Tx K mg base) : Mk K (He.ga K "Processor") (He.ma K (He.ga K "Processor") "__init__") := He.mkr_ok (x := "Processor") (T.says.d.fact 101 (f := .mkr "Processor") rfl)
theorem n_Processor_own_work (T : Tx K mg base) : NoAttr K (He.ga K "Processor") "own_work" := He.noat_ok (x := "Processor") (f := "own_work") (T.says.d.fact 102 (f := .noat "Processor" "own_work") rfl)
theorem n_Processor_own_undone (T : Tx K mg base) : NoAttr K (He.ga K "Processor") "own_undone" := He.noat_ok (x := "Processor") (f := "own_undone") (T.says.d.fact 103 (f := .noat "Processor" "own_undone") rfl)
theorem m_Processor_come (T : Tx K mg base) : Meth K (He.ga K "Processor") "come" (He.ma K (He.ga K "Processor") "come") := He.meth_ok (x := "Processor") (m := "come") (T.says.d.fact 104 (f := .meth "Processor" "come") rfl)
theorem m_Processor_wake_up (T : Tx K mg base) : Meth K (He.ga K "Processor") "wake_up" (He.ma K (He.ga K "Processor") "wake_up") := He.meth_ok (x := "Processor") (m := "wake_up") (T.says.d.fact 105 (f := .meth "Processor" "wake_up") rfl)
theorem m_Processor_tick (T : Tx K mg base) : Meth K (He.ga K "Processor") "tick" (He.ma K (He.ga K "Processor") "tick") := He.meth_ok (x := "Processor") (m := "tick") (T.says.d.fact 106 (f := .meth "Processor" "tick") rfl)
theorem m_Processor_bell (T : Tx K mg base) : Meth K (He.ga K "Processor") "bell" (He.ma K (He.ga K "Processor") "bell") := He.meth_ok (x := "Processor") (m := "bell") (T.says.d.fact 107 (f := .meth "Processor" "bell") rfl)
theorem m_Processor_do (T : Tx K mg base) : Meth K (He.ga K "Processor") "do" (He.ma K (He.ga K "Processor") "do") := He.meth_ok (x := "Processor") (m := "do") (T.says.d.fact 108 (f := .meth "Processor" "do") rfl)
theorem p_Processor_book (T : Tx K mg base) : PropOf K (He.ga K "Processor") "book" (He.ma K (He.ga K "Processor") "book") (He5.wf K (He.ga K "Processor") "property" "book") := propB_ok (T.says.x 11 (f := fun K => propB K (He.ga K "Processor") "book") rfl)
theorem p_Processor_picture (T : Tx K mg base) : PropOf K (He.ga K "Processor") "picture" (He.ma K (He.ga K "Processor") "picture") (He5.wf K (He.ga K "Processor") "property" "picture") := propB_ok (T.says.x 12 (f := fun K => propB K (He.ga K "Processor") "picture") rfl)
theorem p_Processor_runner (T : Tx K mg base) : PropOf K (He.ga K "Processor") "runner" (He.ma K (He.ga K "Processor") "runner") (He5.wf K (He.ga K "Processor") "property" "runner") := propB_ok (T.says.x 13 (f := fun K => propB K (He.ga K "Processor") "runner") rfl)
theorem p_Processor_next_one (T : Tx K mg base) : PropOf K (He.ga K "Processor") "next_one" (He.ma K (He.ga K "Processor") "next_one") (He5.wf K (He.ga K "Processor") "property" "next_one") := propB_ok (T.says.x 14 (f := fun K => propB K (He.ga K "Processor") "next_one") rfl)
theorem p_Processor_chart (T : Tx K mg base) : PropOf K (He.ga K "Processor") "chart" (He.ma K (He.ga K "Processor") "chart") (He5.wf K (He.ga K "Processor") "property" "chart") := propB_ok (T.says.x 15 (f := fun K => propB K (He.ga K "Processor") "chart") rfl)
theorem p_Processor_done (T : Tx K mg base) : PropOf K (He.ga K "Processor") "done" (He.ma K (He.ga K "Processor") "done") (He5.wf K (He.ga K "Processor") "property" "done") := propB_ok (T.says.x 16 (f := fun K => propB K (He.ga K "Processor") "done") rfl)
theorem p_Processor_log (T : Tx K mg base) : PropOf K (He.ga K "Processor") "log" (He.ma K (He.ga K "Processor") "log") (He5.wf K (He.ga K "Processor") "property" "log") := propB_ok (T.says.x 17 (f := fun K => propB K (He.ga K "Processor") "log") rfl)
theorem m_Processor_queues (T : Tx K mg base) : Meth K (He.ga K "Processor") "queues" (He.ma K (He.ga K "Processor") "queues") := He.meth_ok (x := "Processor") (m := "queues") (T.says.d.fact 109 (f := .meth "Processor" "queues") rfl)
theorem m_Processor_undo (T : Tx K mg base) : Meth K (He.ga K "Processor") "undo" (He.ma K (He.ga K "Processor") "undo") := He.meth_ok (x := "Processor") (m := "undo") (T.says.d.fact 110 (f := .meth "Processor" "undo") rfl)
theorem m_Processor_redo (T : Tx K mg base) : Meth K (He.ga K "Processor") "redo" (He.ma K (He.ga K "Processor") "redo") := He.meth_ok (x := "Processor") (m := "redo") (T.says.d.fact 111 (f := .meth "Processor" "redo") rfl)
theorem m_Processor_trial (T : Tx K mg base) : Meth K (He.ga K "Processor") "trial" (He.ma K (He.ga K "Processor") "trial") := He.meth_ok (x := "Processor") (m := "trial") (T.says.d.fact 112 (f := .meth "Processor" "trial") rfl)
theorem m_Processor_during (T : Tx K mg base) : Meth K (He.ga K "Processor") "during" (He.ma K (He.ga K "Processor") "during") := He.meth_ok (x := "Processor") (m := "during") (T.says.d.fact 113 (f := .meth "Processor" "during") rfl)
theorem m_Processor_twin (T : Tx K mg base) : Meth K (He.ga K "Processor") "twin" (He.ma K (He.ga K "Processor") "twin") := He.meth_ok (x := "Processor") (m := "twin") (T.says.d.fact 114 (f := .meth "Processor" "twin") rfl)
theorem x_Processor___len__ (T : Tx K mg base) : SpcF K (He.ga K "Processor") "__len__" := spcB_ok (T.says.x 18 (f := fun K => spcB K (He.ga K "Processor") "__len__") rfl)
theorem x_Processor___eq__ (T : Tx K mg base) : SpcF K (He.ga K "Processor") "__eq__" := spcB_ok (T.says.x 19 (f := fun K => spcB K (He.ga K "Processor") "__eq__") rfl)
theorem x_Processor___str__ (T : Tx K mg base) : SpcF K (He.ga K "Processor") "__str__" := spcB_ok (T.says.x 20 (f := fun K => spcB K (He.ga K "Processor") "__str__") rfl)
theorem i_Processor (T : Tx K mg base) : C8.InsC K (He.ga K "Processor") := insB_ok (c_Processor T) (T.says.x 21 (f := fun K => insB K (He.ga K "Processor")) rfl)
theorem ne_Processor (T : Tx K mg base) : PySem.W.findIn K (.ref (He.ga K "Processor")) "__ne__" = some (some (.builtin "object.__ne__")) := He.eqO_ok (T.says.x 22 (f := fun K => He.eqO (PySem.W.findIn K (.ref (He.ga K "Processor")) "__ne__") (some (some (.builtin "object.__ne__")))) rfl)
theorem v_BACK (T : Tx K mg base) : ∃ u, mg "BACK" = some u ∧ RelV (.str "back") u := by
  obtain ⟨t, h⟩ := He.str_ok T.kin T.glob (T.says.d.fact 115 (f := .str "BACK" "back") rfl)
  exact ⟨_, h, t, rfl⟩
theorem v_FRONT (T : Tx K mg base) : ∃ u, mg "FRONT" = some u ∧ RelV (.str "front") u := by
  obtain ⟨t, h⟩ := He.str_ok T.kin T.glob (T.says.d.fact 116 (f := .str "FRONT" "front") rfl)
  exact ⟨_, h, t, rfl⟩
theorem v_KEPT (T : Tx K mg base) : ∃ u, mg "KEPT" = some u ∧ RelV (.str "kept") u := by
  obtain ⟨t, h⟩ := He.str_ok T.kin T.glob (T.says.d.fact 117 (f := .str "KEPT" "kept") rfl)
  exact ⟨_, h, t, rfl⟩
theorem v_NEW (T : Tx K mg base) : ∃ u, mg "NEW" = some u ∧ RelV (.str "new") u := by
  obtain ⟨t, h⟩ := He.str_ok T.kin T.glob (T.says.d.fact 118 (f := .str "NEW" "new") rfl)
  exact ⟨_, h, t, rfl⟩
theorem v_ON (T : Tx K mg base) : ∃ u, mg "ON" = some u ∧ RelV (.str "on") u := by
  obtain ⟨t, h⟩ := He.str_ok T.kin T.glob (T.says.d.fact 119 (f := .str "ON" "on") rfl)
  exact ⟨_, h, t, rfl⟩
theorem v_SLEEP (T : Tx K mg base) : ∃ u, mg "SLEEP" = some u ∧ RelV (.str "sleep") u := by
  obtain ⟨t, h⟩ := He.str_ok T.kin T.glob (T.says.d.fact 120 (f := .str "SLEEP" "sleep") rfl)
  exact ⟨_, h, t, rfl⟩
theorem v_WAY (T : Tx K mg base) : ∃ u, mg "WAY" = some u ∧ RelV (.str "way") u := by
  obtain ⟨t, h⟩ := He.str_ok T.kin T.glob (T.says.d.fact 121 (f := .str "WAY" "way") rfl)
  exact ⟨_, h, t, rfl⟩
theorem v_END (T : Tx K mg base) : ∃ u, mg "END" = some u ∧ RelV (.str "end") u := by
  obtain ⟨t, h⟩ := He.str_ok T.kin T.glob (T.says.d.fact 122 (f := .str "END" "end") rfl)
  exact ⟨_, h, t, rfl⟩
theorem v_BELL (T : Tx K mg base) : ∃ u, mg "BELL" = some u ∧ RelV (.str "bell") u := by
  obtain ⟨t, h⟩ := He.str_ok T.kin T.glob (T.says.d.fact 123 (f := .str "BELL" "bell") rfl)
  exact ⟨_, h, t, rfl⟩
theorem v_TICKS (T : Tx K mg base) : ∃ u, mg "TICKS" = some u ∧ RelV (.str "ticks") u := by
  obtain ⟨t, h⟩ := He.str_ok T.kin T.glob (T.says.d.fact 124 (f := .str "TICKS" "ticks") rfl)
  exact ⟨_, h, t, rfl⟩
theorem v_USED (T : Tx K mg base) : ∃ u, mg "USED" = some u ∧ RelV (.str "used") u := by
  obtain ⟨t, h⟩ := He.str_ok T.kin T.glob (T.says.d.fact 125 (f := .str "USED" "used") rfl)
  exact ⟨_, h, t, rfl⟩
theorem v_WAKE (T : Tx K mg base) : ∃ u, mg "WAKE" = some u ∧ RelV (.str "wake") u := by
  obtain ⟨t, h⟩ := He.str_ok T.kin T.glob (T.says.d.fact 126 (f := .str "WAKE" "wake") rfl)
  exact ⟨_, h, t, rfl⟩
theorem v_LOST (T : Tx K mg base) : ∃ u, mg "LOST" = some u ∧ RelV (.str "lost") u := by
  obtain ⟨t, h⟩ := He.str_ok T.kin T.glob (T.says.d.fact 127 (f := .str "LOST" "lost") rfl)
  exact ⟨_, h, t, rfl⟩
theorem v_TAKES (T : Tx K mg base) : ∃ u, mg "TAKES" = some u ∧ RelV (.str "takes") u := by
  obtain ⟨t, h⟩ := He.str_ok T.kin T.glob (T.says.d.fact 128 (f := .str "TAKES" "takes") rfl)
  exact ⟨_, h, t, rfl⟩
theorem v_COME (T : Tx K mg base) : ∃ u, mg "COME" = some u ∧ RelV (.str "come") u := by
  obtain ⟨t, h⟩ := He.str_ok T.kin T.glob (T.says.d.fact 129 (f := .str "COME" "come") rfl)
  exact ⟨_, h, t, rfl⟩
theorem v_ASLEEP (T : Tx K mg base) : ∃ u, mg "ASLEEP" = some u ∧ RelV (.str "asleep") u := by
  obtain ⟨t, h⟩ := He.str_ok T.kin T.glob (T.says.d.fact 130 (f := .str "ASLEEP" "asleep") rfl)
  exact ⟨_, h, t, rfl⟩
theorem v_READY (T : Tx K mg base) : ∃ u, mg "READY" = some u ∧ RelV (.str "ready") u := by
  obtain ⟨t, h⟩ := He.str_ok T.kin T.glob (T.says.d.fact 131 (f := .str "READY" "ready") rfl)
  exact ⟨_, h, t, rfl⟩
theorem v_RUNS (T : Tx K mg base) : ∃ u, mg "RUNS" = some u ∧ RelV (.str "runs") u := by
  obtain ⟨t, h⟩ := He.str_ok T.kin T.glob (T.says.d.fact 132 (f := .str "RUNS" "runs") rfl)
  exact ⟨_, h, t, rfl⟩
theorem v_TICK (T : Tx K mg base) : ∃ u, mg "TICK" = some u ∧ RelV (.str "tick") u := by
  obtain ⟨t, h⟩ := He.str_ok T.kin T.glob (T.says.d.fact 133 (f := .str "TICK" "tick") rfl)
  exact ⟨_, h, t, rfl⟩
theorem v_MAX_LEVELS (T : Tx K mg base) : ∃ u, mg "MAX_LEVELS" = some u ∧ RelV (.int 3) u := by
  obtain ⟨t, h⟩ := He.int_ok T.kin T.glob (T.says.d.fact 134 (f := .int "MAX_LEVELS" 3) rfl)
  exact ⟨_, h, t, rfl⟩
theorem v_MAX_RANKS (T : Tx K mg base) : ∃ u, mg "MAX_RANKS" = some u ∧ RelV (.int 3) u := by
  obtain ⟨t, h⟩ := He.int_ok T.kin T.glob (T.says.d.fact 135 (f := .int "MAX_RANKS" 3) rfl)
  exact ⟨_, h, t, rfl⟩
theorem v_MAX_SLICE (T : Tx K mg base) : ∃ u, mg "MAX_SLICE" = some u ∧ RelV (.int 3) u := by
  obtain ⟨t, h⟩ := He.int_ok T.kin T.glob (T.says.d.fact 136 (f := .int "MAX_SLICE" 3) rfl)
  exact ⟨_, h, t, rfl⟩
theorem v_BEYOND (T : Tx K mg base) : ∃ u, mg "BEYOND" = some u ∧ RelV (.int (10 ^ 40)) u := by
  obtain ⟨t, h⟩ := He.int_ok T.kin T.glob (T.says.d.fact 137 (f := .int "BEYOND" (10 ^ 40)) rfl)
  exact ⟨_, h, t, rfl⟩
theorem v_MAX_LOAD (T : Tx K mg base) : ∃ u, mg "MAX_LOAD" = some u ∧ RelV (.int 400) u := by
  obtain ⟨t, h⟩ := He.int_ok T.kin T.glob (T.says.d.fact 138 (f := .int "MAX_LOAD" 400) rfl)
  exact ⟨_, h, t, rfl⟩
theorem v_MAX_COMINGS (T : Tx K mg base) : ∃ u, mg "MAX_COMINGS" = some u ∧ RelV (.int 20) u := by
  obtain ⟨t, h⟩ := He.int_ok T.kin T.glob (T.says.d.fact 139 (f := .int "MAX_COMINGS" 20) rfl)
  exact ⟨_, h, t, rfl⟩
theorem v_MAX_TASKS (T : Tx K mg base) : ∃ u, mg "MAX_TASKS" = some u ∧ RelV (.int 60) u := by
  obtain ⟨t, h⟩ := He.int_ok T.kin T.glob (T.says.d.fact 140 (f := .int "MAX_TASKS" 60) rfl)
  exact ⟨_, h, t, rfl⟩
theorem v_WORDS (T : Tx K mg base) : ∃ u, mg "WORDS" = some u ∧ RelV (.ref (He.ga K "WORDS")) u := ⟨_, He.glo_ok T.kin T.glob (T.says.d.fact 141 (f := .glo "WORDS") rfl), rfl⟩
theorem t_WORDS (T : Tx K mg base) (H : Hp) : SqT K H (He.ga K "WORDS") [.str "on", .str "sleep", .str "way", .str "end"] := He.tupB_ok (vs := [.str "on", .str "sleep", .str "way", .str "end"]) (T.says.x 23 (f := fun K => He.tupB K "WORDS" [.str "on", .str "sleep", .str "way", .str "end"]) rfl) H
theorem v_LEVEL_WORDS (T : Tx K mg base) : ∃ u, mg "LEVEL_WORDS" = some u ∧ RelV (.ref (He.ga K "LEVEL_WORDS")) u := ⟨_, He.glo_ok T.kin T.glob (T.says.d.fact 142 (f := .glo "LEVEL_WORDS") rfl), rfl⟩
theorem t_LEVEL_WORDS (T : Tx K mg base) (H : Hp) : SqT K H (He.ga K "LEVEL_WORDS") [.str "ticks", .str "used", .str "wake", .str "way", .str "lost", .str "takes"] := He.tupB_ok (vs := [.str "ticks", .str "used", .str "wake", .str "way", .str "lost", .str "takes"]) (T.says.x 24 (f := fun K => He.tupB K "LEVEL_WORDS" [.str "ticks", .str "used", .str "wake", .str "way", .str "lost", .str "takes"]) rfl) H
theorem v_MOVING (T : Tx K mg base) : ∃ u, mg "MOVING" = some u ∧ RelV (.ref (He.ga K "MOVING")) u := ⟨_, He.glo_ok T.kin T.glob (T.says.d.fact 143 (f := .glo "MOVING") rfl), rfl⟩
theorem t_MOVING (T : Tx K mg base) (H : Hp) : SqT K H (He.ga K "MOVING") [.str "wake", .str "way", .str "lost"] := He.tupB_ok (vs := [.str "wake", .str "way", .str "lost"]) (T.says.x 25 (f := fun K => He.tupB K "MOVING" [.str "wake", .str "way", .str "lost"]) rfl) H
theorem v_ENDED (T : Tx K mg base) : ∃ u, mg "ENDED" = some u ∧ RelV (.ref (He.ga K "ENDED")) u := ⟨_, He.glo_ok T.kin T.glob (T.says.d.fact 144 (f := .glo "ENDED") rfl), rfl⟩
theorem t_ENDED (T : Tx K mg base) (H : Hp) : SqT K H (He.ga K "ENDED") [.str "ended"] := He.tupB_ok (vs := [.str "ended"]) (T.says.x 26 (f := fun K => He.tupB K "ENDED" [.str "ended"]) rfl) H
theorem f_isinstance (T : Tx K mg base) : mg "isinstance" = none := He.free_ok T.kin T.glob (T.says.d.fact 145 (f := .free "isinstance") rfl)
theorem f_int (T : Tx K mg base) : mg "int" = none := He.free_ok T.kin T.glob (T.says.d.fact 146 (f := .free "int") rfl)
theorem f_bool (T : Tx K mg base) : mg "bool" = none := He.free_ok T.kin T.glob (T.says.d.fact 147 (f := .free "bool") rfl)
theorem f_str (T : Tx K mg base) : mg "str" = none := He.free_ok T.kin T.glob (T.says.d.fact 148 (f := .free "str") rfl)
theorem f_tuple (T : Tx K mg base) : mg "tuple" = none := He.free_ok T.kin T.glob (T.says.d.fact 149 (f := .free "tuple") rfl)
theorem f_len (T : Tx K mg base) : mg "len" = none := He.free_ok T.kin T.glob (T.says.d.fact 150 (f := .free "len") rfl)
theorem f_all (T : Tx K mg base) : mg "all" = none := He.free_ok T.kin T.glob (T.says.d.fact 151 (f := .free "all") rfl)
theorem f_enumerate (T : Tx K mg base) : mg "enumerate" = none := He.free_ok T.kin T.glob (T.says.d.fact 152 (f := .free "enumerate") rfl)
theorem f_list (T : Tx K mg base) : mg "list" = none := He.free_ok T.kin T.glob (T.says.d.fact 153 (f := .free "list") rfl)
theorem f_range (T : Tx K mg base) : mg "range" = none := He.free_ok T.kin T.glob (T.says.d.fact 154 (f := .free "range") rfl)
theorem f_min (T : Tx K mg base) : mg "min" = none := He.free_ok T.kin T.glob (T.says.d.fact 155 (f := .free "min") rfl)
theorem f_max (T : Tx K mg base) : mg "max" = none := He.free_ok T.kin T.glob (T.says.d.fact 156 (f := .free "max") rfl)
theorem f_abs (T : Tx K mg base) : mg "abs" = none := He.free_ok T.kin T.glob (T.says.d.fact 157 (f := .free "abs") rfl)
theorem f_repr (T : Tx K mg base) : mg "repr" = none := He.free_ok T.kin T.glob (T.says.d.fact 158 (f := .free "repr") rfl)
end
end Tb
set_option Elab.async false
set_option linter.all false
set_option maxRecDepth 100000
set_option maxHeartbeats 4000000
/-! The objects of the program in the abstract heap. -/
namespace Tb
open PySem PySem.Spec PyProof.Rows L2

/-! ### what stays -/
/-- all but what stands at T is as it was; so is what never changes -/
structure Fr (T : List Addr) (H H' : Hp) : Prop where
  keep : ∀ a o, H a = some o → a ∉ T → H' a = some o
  tup : ∀ a xs, H a = some (.tup xs) → H' a = some (.tup xs)
  frz : ∀ a o u, H a = some (.frz o u) → H' a = some (.frz o u)
theorem Fr.refl (T : List Addr) (H : Hp) : Fr T H H := ⟨fun _ _ h _ => h, fun _ _ h => h, fun _ _ _ h => h⟩
theorem Fr.of (T : List Addr) {H H' : Hp} (s : Same H H') : Fr T H H' := ⟨fun a o h _ => s a o h, fun a xs h => s a _ h, fun a o u h => s a _ h⟩
theorem Fr.same {H H' : Hp} (f : Fr [] H H') : Same H H' := fun a o h => f.keep a o h List.not_mem_nil
theorem Fr.mono {T U : List Addr} {H H' : Hp} (f : Fr T H H') (h : ∀ a ∈ T, a ∈ U) : Fr U H H' := ⟨fun a o e n => f.keep a o e fun m => n (h a m), f.tup, f.frz⟩
theorem Fr.trans {T : List Addr} {H H1 H2 : Hp} (a : Fr T H H1) (b : Fr T H1 H2) : Fr T H H2 :=
  ⟨fun c o h n => b.keep c o (a.keep c o h n) n, fun c xs h => b.tup c xs (a.tup c xs h), fun c o u h => b.frz c o u (a.frz c o u h)⟩
/-- a new set of addresses, those of the old or new ones -/
def Grow (H : Hp) (S S' : List Addr) : Prop := ∀ a ∈ S', a ∈ S ∨ H a = none
theorem Grow.refl (H : Hp) (S : List Addr) : Grow H S S := fun _ h => .inl h
theorem Fr.trans2 {T U : List Addr} {H H1 H2 : Hp} (a : Fr T H H1) (g : Grow H T U) (b : Fr U H1 H2) : Fr T H H2 :=
  ⟨fun c o h n => b.keep c o (a.keep c o h n) fun m => (g c m).elim n (fun z => by rw [z] at h; cases h), fun c xs h => b.tup c xs (a.tup c xs h), fun c o u h => b.frz c o u (a.frz c o u h)⟩
theorem Fr.gone {T : List Addr} {H H' : Hp} (f : Fr T H H') {a : Addr} (h : H' a = none) (hT : a ∉ T) : H a = none := by
  cases q : H a with
  | none => rfl
  | some o => rw [f.keep a o q hT] at h; cases h
/-- what may change never stands for good -/
def Soft : HO → Prop
  | .tup _ => False
  | .frz _ _ => False
  | _ => True
theorem Fr.wr {T : List Addr} {H : Hp} {a : Addr} {o u : HO} (h : H a = some o) (s : Soft o) (m : a ∈ T) : Fr T H (upd H a u) := by
  refine ⟨fun b o' e n => ?_, fun b xs e => ?_, fun b o' v e => ?_⟩
  · rw [upd_ne (fun z => n (by rw [z]; exact m))]; exact e
  · rw [upd_ne]
    · exact e
    · rintro rfl
      rw [h] at e; cases e; exact s
  · rw [upd_ne]
    · exact e
    · rintro rfl
      rw [h] at e; cases e; exact s
theorem Fr.lay {T : List Addr} {H : Hp} {a : Addr} {u : HO} (h : H a = none) : Fr T H (upd H a u) := Fr.of T fun b o e => by rw [upd_ne (ne_of_none e h)]; exact e
theorem Fr.rd {T : List Addr} {H H' : Hp} (f : Fr T H H') {a : Addr} {xs : List V} (h : Rd H a (.tup xs)) : Rd H' a (.tup xs) := by
  rcases h with h | ⟨o, h⟩
  · exact .inl (f.tup a xs h)
  · exact .inr ⟨o, f.frz a o _ h⟩
theorem Fr.sqT {K : PySem.W.Frag} {T : List Addr} {H H' : Hp} (f : Fr T H H') {a : Addr} {xs : List V} (h : SqT K H a xs) : SqT K H' a xs := by
  rcases h with h | h
  · exact .inl (f.rd h)
  · exact .inr h
theorem sqT_len {K : PySem.W.Frag} {H : Hp} {X : Cx} {pins : List (Addr × Obj)} {σ : L2.St} {s : Shared} (I : Inv X pins σ H s) {a : Addr} {xs : List V} (h : SqT X.K H a xs) : xs.length ≤ sizeLine := (I.tuple h).choose_spec.2.2

/-! ### data of tuples -/
mutual
inductive Td (K : PySem.W.Frag) (H : Hp) : V → PyData → Prop
  | non : Td K H .non .none
  | int (i : Int) : Td K H (.int i) (.int i)
  | str (x : Str) : Td K H (.str x) (.str x)
  | tup {a : Addr} {xs : List V} {ds : List PyData} : SqT K H a xs → Tds K H xs ds → Td K H (.ref a) (.tuple ds)
inductive Tds (K : PySem.W.Frag) (H : Hp) : List V → List PyData → Prop
  | nil : Tds K H [] []
  | cons {v : V} {vs : List V} {d : PyData} {ds : List PyData} : Td K H v d → Tds K H vs ds → Tds K H (v :: vs) (d :: ds)
end
mutual
theorem Td.dp {K : PySem.W.Frag} {H : Hp} : ∀ {v : V} {d : PyData}, Td K H v d → Dp K H v d
  | _, _, .non => .non
  | _, _, .int i => .int i
  | _, _, .str x => .str x
  | _, _, .tup h t => .tup h (Tds.dp t)
theorem Tds.dp {K : PySem.W.Frag} {H : Hp} : ∀ {vs : List V} {ds : List PyData}, Tds K H vs ds → DpAll K H vs ds
  | _, _, .nil => .nil
  | _, _, .cons h t => .cons (Td.dp h) (Tds.dp t)
end
mutual
theorem Td.fr {K : PySem.W.Frag} {T : List Addr} {H H' : Hp} (f : Fr T H H') : ∀ {v : V} {d : PyData}, Td K H v d → Td K H' v d
  | _, _, .non => .non
  | _, _, .int i => .int i
  | _, _, .str x => .str x
  | _, _, .tup h t => .tup (f.sqT h) (Tds.fr f t)
theorem Tds.fr {K : PySem.W.Frag} {T : List Addr} {H H' : Hp} (f : Fr T H H') : ∀ {vs : List V} {ds : List PyData}, Tds K H vs ds → Tds K H' vs ds
  | _, _, .nil => .nil
  | _, _, .cons h t => .cons (Td.fr f h) (Tds.fr f t)
end
theorem Td.same {K : PySem.W.Frag} {H H' : Hp} (f : Same H H') {v : V} {d : PyData} (h : Td K H v d) : Td K H' v d := h.fr (Fr.of [] f)
theorem Tds.len {K : PySem.W.Frag} {H : Hp} : ∀ {vs : List V} {ds : List PyData}, Tds K H vs ds → vs.length = ds.length
  | _, _, .nil => rfl
  | _, _, .cons _ t => congrArg Nat.succ t.len
theorem Tds.get {K : PySem.W.Frag} {H : Hp} : ∀ {vs : List V} {ds : List PyData} {i : Nat} {d : PyData}, Tds K H vs ds → ds[i]? = some d → ∃ v, vs[i]? = some v ∧ Td K H v d
  | _, _, _, _, .nil, h => by simp at h
  | _, _, 0, _, .cons a _, h => by simp at h; subst h; exact ⟨_, rfl, a⟩
  | _, _, i + 1, _, .cons _ t, h => by
    obtain ⟨v, e, r⟩ := t.get (i := i) (by simpa using h)
    exact ⟨v, by simpa using e, r⟩
theorem Tds.append {K : PySem.W.Frag} {H : Hp} : ∀ {vs ws : List V} {ds es : List PyData}, Tds K H vs ds → Tds K H ws es → Tds K H (vs ++ ws) (ds ++ es)
  | _, _, _, _, .nil, h => h
  | _, _, _, _, .cons a t, h => .cons a (t.append h)
theorem Tds.set {K : PySem.W.Frag} {H : Hp} : ∀ {vs : List V} {ds : List PyData} (i : Nat) {v : V} {d : PyData}, Tds K H vs ds → Td K H v d → Tds K H (vs.set i v) (ds.set i d)
  | _, _, _, _, _, .nil, _ => .nil
  | _, _, 0, _, _, .cons _ t, h => .cons h t
  | _, _, i + 1, _, _, .cons a t, h => .cons a (Tds.set i t h)
theorem Tds.take {K : PySem.W.Frag} {H : Hp} : ∀ {vs : List V} {ds : List PyData} (i : Nat), Tds K H vs ds → Tds K H (vs.take i) (ds.take i)
  | _, _, 0, _ => by simp only [List.take_zero]; exact .nil
  | _, _, _ + 1, .nil => .nil
  | _, _, i + 1, .cons a t => .cons a (Tds.take i t)
theorem Tds.drop {K : PySem.W.Frag} {H : Hp} : ∀ {vs : List V} {ds : List PyData} (i : Nat), Tds K H vs ds → Tds K H (vs.drop i) (ds.drop i)
  | _, _, 0, t => t
  | _, _, _ + 1, .nil => .nil
  | _, _, i + 1, .cons _ t => Tds.drop i t
/-- a tuple's parts -/
theorem Td.tuple {K : PySem.W.Frag} {H : Hp} {v : V} {ds : List PyData} (h : Td K H v (.tuple ds)) : ∃ a xs, v = .ref a ∧ SqT K H a xs ∧ Tds K H xs ds := by
  cases h with
  | tup h t => exact ⟨_, _, rfl, h, t⟩
theorem Td.str' {K : PySem.W.Frag} {H : Hp} {v : V} {z : Str} (h : Td K H v (.str z)) : v = .str z := by cases h; rfl
theorem Td.int' {K : PySem.W.Frag} {H : Hp} {v : V} {i : Int} (h : Td K H v (.int i)) : v = .int i := by cases h; rfl
theorem Td.non' {K : PySem.W.Frag} {H : Hp} {v : V} (h : Td K H v .none) : v = .non := by cases h; rfl
def leftV : Option Nat → V
  | none => .non
  | some k => .int k
theorem Td.left' {K : PySem.W.Frag} {H : Hp} {v : V} {k : Option Nat} (h : Td K H v (leftD k)) : v = leftV k := by
  cases k with
  | none => exact h.non'
  | some n => exact h.int'
theorem td_left {K : PySem.W.Frag} {H : Hp} (k : Option Nat) : Td K H (leftV k) (leftD k) := by
  cases k with
  | none => exact .non
  | some n => exact .int _
theorem Td.two {K : PySem.W.Frag} {H : Hp} {v : V} {d e : PyData} (h : Td K H v (.tuple [d, e])) : ∃ a x y, v = .ref a ∧ SqT K H a [x, y] ∧ Td K H x d ∧ Td K H y e := by
  obtain ⟨a, xs, rfl, h, t⟩ := h.tuple
  cases t with
  | cons a1 t =>
    cases t with
    | cons a2 t => cases t; exact ⟨_, _, _, rfl, h, a1, a2⟩
theorem Td.three {K : PySem.W.Frag} {H : Hp} {v : V} {d e f : PyData} (h : Td K H v (.tuple [d, e, f])) : ∃ a x y z, v = .ref a ∧ SqT K H a [x, y, z] ∧ Td K H x d ∧ Td K H y e ∧ Td K H z f := by
  obtain ⟨a, xs, rfl, h, t⟩ := h.tuple
  cases t with
  | cons a1 t =>
    cases t with
    | cons a2 t =>
      cases t with
      | cons a3 t => cases t; exact ⟨_, _, _, _, rfl, h, a1, a2, a3⟩
theorem Td.post {K : PySem.W.Frag} {H : Hp} {v : V} {m : Md} {l : Nat} {k : Option Nat} (h : Td K H v (Post.st m l k).d) : ∃ a, v = .ref a ∧ SqT K H a [.str m.s, .int l, leftV k] := by
  obtain ⟨a, x, y, z, rfl, hs, h1, h2, h3⟩ := Td.three h
  have e1 := h1.str'
  have e2 := h2.int'
  have e3 := h3.left'
  subst e1 e2 e3
  exact ⟨a, rfl, hs⟩
theorem Td.ended {K : PySem.W.Frag} {H : Hp} {v : V} (h : Td K H v Post.ended.d) : ∃ a, v = .ref a ∧ SqT K H a [.str "ended"] := by
  obtain ⟨a, xs, rfl, hs, t⟩ := Td.tuple h
  cases t with
  | cons a1 t =>
    cases t
    have e1 := a1.str'
    subst e1
    exact ⟨a, rfl, hs⟩
theorem td_post {K : PySem.W.Frag} {H : Hp} {a : Addr} {m : Md} {l : Nat} {k : Option Nat} (h : SqT K H a [.str m.s, .int l, leftV k]) : Td K H (.ref a) (Post.st m l k).d := .tup h (.cons (.str _) (.cons (.int _) (.cons (td_left k) .nil)))

/-- a list of such data -/
def Dl (K : PySem.W.Frag) (H : Hp) (l : Addr) (ds : List PyData) : Prop := ∃ xs, H l = some (.lst xs) ∧ Tds K H xs ds
theorem Dl.fr {K : PySem.W.Frag} {T : List Addr} {H H' : Hp} {l : Addr} {ds : List PyData} (h : Dl K H l ds) (f : Fr T H H') (n : l ∉ T) : Dl K H' l ds := by
  obtain ⟨xs, e, t⟩ := h
  exact ⟨xs, f.keep l _ e n, t.fr f⟩
/-! ### levels, books -/
def plV (front : Bool) : Str := if front then "front" else "back"
def rsV (new : Bool) : Str := if new then "new" else "kept"
def Ent.d2 (e : Ent) : PyData := .tuple [.int e.lv, .str (plV e.front)]
def Ent.d (e : Ent) : PyData := .tuple [.int e.lv, .str (plV e.front), .str (rsV e.new)]
/-- the entries of a level, by word -/
def levKv (tk : V) (us wk wy lo : V) (tks : V) : List (Key × V) := [(.inr "ticks", tk), (.inr "used", us), (.inr "wake", wk), (.inr "way", wy), (.inr "lost", lo), (.inr "takes", tks)]
structure LevAt (K : PySem.W.Frag) (H : Hp) (a : Addr) (l : Lev) : Prop where
  ex : ∃ dx d us wk wy lo, H a = some (.ins (He.ga K "Level") dx [("own_entries", .ref d)]) ∧ H d = some (.dK (levKv (leftV l.ticks) us wk wy lo (.int l.takes))) ∧ Td K H us l.used.d2 ∧ Td K H wk l.wake.d ∧ Td K H wy l.way.d ∧ Td K H lo l.lost.d
theorem LevAt.same {K : PySem.W.Frag} {H H' : Hp} {a : Addr} {l : Lev} (h : LevAt K H a l) (s : Same H H') : LevAt K H' a l := by
  obtain ⟨dx, d, us, wk, wy, lo, h1, h2, h3, h4, h5, h6⟩ := h.ex
  exact ⟨dx, d, us, wk, wy, lo, s _ _ h1, s _ _ h2, h3.same s, h4.same s, h5.same s, h6.same s⟩
structure BkAt (K : PySem.W.Frag) (H : Hp) (a : Addr) (b : Bk) : Prop where
  ex : ∃ dx lt rt as, H a = some (.ins (He.ga K "Book") dx [("own_levels", .ref lt), ("own_ranks", .ref rt)]) ∧ SqT K H lt (as.map V.ref) ∧ Paired (LevAt K H) as b.levels ∧ SqT K H rt (b.ranks.map fun (r : Nat) => V.int (r : Int))
theorem Paired.imp {α β : Type} {F G : α → β → Prop} (f : ∀ a b, F a b → G a b) : ∀ {xs : List α} {ys : List β}, Paired F xs ys → Paired G xs ys
  | _, _, .nil => .nil
  | _, _, .cons h t => .cons (f _ _ h) (Paired.imp f t)
theorem Paired.get {α β : Type} {F : α → β → Prop} : ∀ {xs : List α} {ys : List β} {i : Nat} {y : β}, Paired F xs ys → ys[i]? = some y → ∃ x, xs[i]? = some x ∧ F x y
  | _, _, _, _, .nil, h => by simp at h
  | _, _, 0, _, .cons a _, h => by simp at h; subst h; exact ⟨_, rfl, a⟩
  | _, _, i + 1, _, .cons _ t, h => by
    obtain ⟨x, e, r⟩ := Paired.get (i := i) t (by simpa using h)
    exact ⟨x, by simpa using e, r⟩
theorem Paired.len {α β : Type} {F : α → β → Prop} : ∀ {xs : List α} {ys : List β}, Paired F xs ys → xs.length = ys.length
  | _, _, .nil => rfl
  | _, _, .cons _ t => congrArg Nat.succ (Paired.len t)
theorem BkAt.same {K : PySem.W.Frag} {H H' : Hp} {a : Addr} {b : Bk} (h : BkAt K H a b) (s : Same H H') : BkAt K H' a b := by
  obtain ⟨dx, lt, rt, as, h1, h2, h3, h4⟩ := h.ex
  exact ⟨dx, lt, rt, as, s _ _ h1, (Fr.of [] s).sqT h2, Paired.imp (fun _ _ z => z.same s) h3, (Fr.of [] s).sqT h4⟩
/-- a book made before H0 is there as long as H0 is -/
structure BkIn (K : PySem.W.Frag) (H0 H : Hp) (a : Addr) (b : Bk) : Prop where
  at_ : BkAt K H0 a b
  same : Same H0 H
theorem BkIn.now {K : PySem.W.Frag} {H0 H : Hp} {a : Addr} {b : Bk} (h : BkIn K H0 H a b) : BkAt K H a b := h.at_.same h.same
theorem BkIn.fr {K : PySem.W.Frag} {H0 H H' : Hp} {a : Addr} {b : Bk} {T : List Addr} (h : BkIn K H0 H a b) (f : Fr T H H') (n : ∀ x ∈ T, H0 x = none) : BkIn K H0 H' a b :=
  ⟨h.at_, fun x o e => f.keep x o (h.same x o e) fun m => by rw [n x m] at e; cases e⟩
theorem BkIn.step {K : PySem.W.Frag} {H0 H H' : Hp} {a : Addr} {b : Bk} (h : BkIn K H0 H a b) (s : Same H H') : BkIn K H0 H' a b := ⟨h.at_, h.same.trans s⟩
end Tb
set_option Elab.async false
set_option linter.all false
set_option maxRecDepth 100000
set_option maxHeartbeats 4000000
/-! Promises by names: defs, methods, classes, properties. -/
namespace Tb
open PySem PySem.Spec PyProof.Rows L2
section
variable (P : Program) (w : World) (K : PySem.W.Frag) (mg : Str → Option Value) (base : Heap)
structure Fnc (k : Nat) (x : Str) (sp : Sp) : Prop where
  ex : ∃ (f : Addr) (fd : FuncData) (ps : List Str), FnOk P w K mg base CX0 k f fd ps sp ∧ mg x = some (.ref f) ∧ PySem.W.keepIn K (.ref f) = true ∧ Binds K fd ps []
structure Mth (k : Nat) (C : Addr) (m : Str) (sp : Sp) : Prop where
  ex : ∃ (f : Addr) (fd : FuncData) (ps : List Str), Cls K C ∧ Meth K C m f ∧ FnOk P w K mg base CX0 k f fd ps sp ∧ Binds K fd ps []
structure Mkr (k : Nat) (x : Str) (C : Addr) (sp : Sp) : Prop where
  ex : ∃ (f : Addr) (fd : FuncData) (ps : List Str), Mk K C f ∧ FnOk P w K mg base CX0 k f fd ps sp ∧ mg x = some (.ref C) ∧ Binds K fd ps []
structure Prp (k : Nat) (C : Addr) (m : Str) (sp : Sp) : Prop where
  ex : ∃ (p f : Addr) (fd : FuncData) (ps : List Str), Cls K C ∧ PropOf K C m p f ∧ FnOk P w K mg base CX0 k f fd ps sp ∧ Binds K fd ps []
end
section
variable {P : Program} {w : World} {K : PySem.W.Frag} {mg : Str → Option Value} {base : Heap} {k : Nat} {x m qual : Str} {st : Stmt} {ps N : List Str} {f C p : Addr} {sp : Sp}
/-- a def by its body -/
theorem fn_ok (D : DefAt K x qual st ps f) (S : FnScope N ps (C8.fnScope st)) (len : ∀ vs H Q E, sp vs H Q E → vs.length = ps.length)
    (hbody : ∀ (cdv : Value) (A : Around) (outer : List Env) (s : Shared) (H : Hp) (vs : List V) (Q : VK), Room k (A.deeper (envOfC qual (C8.fnScope st) s.heap.objs.size f cdv)) → sp vs H Q E0 →
      ∃ t, PSs (cxOf CX0 P w K mg base N qual (C8.fnScope st) f cdv A outer s H E0).nox (C8.fnBody st) t ∧ t { nx := fun _ H' => Q .non H', rt := Q } (start N vs) H) (hE : ∀ vs H Q E, sp vs H Q E → sp vs H Q E0) :
    ∃ fd, FnOk P w K mg base CX0 (k + 1) f fd ps sp ∧ PySem.W.keepIn K (.ref f) = true ∧ Binds K fd ps [] := by
  obtain ⟨fd, F, b⟩ := D
  refine ⟨fd, F.ok S len fun cdv A outer s H vs Q E hr h => ?_, F.kp, b⟩
  obtain ⟨t, ht, hq⟩ := hbody cdv A outer s H vs Q hr (hE vs H Q E h)
  exact ⟨t, ht.nox, hq⟩
theorem fnc_ok (D : DefAt K x x st ps f) (g : mg x = some (.ref f)) (S : FnScope N ps (C8.fnScope st)) (len : ∀ vs H Q E, sp vs H Q E → vs.length = ps.length)
    (hbody : ∀ (cdv : Value) (A : Around) (outer : List Env) (s : Shared) (H : Hp) (vs : List V) (Q : VK), Room k (A.deeper (envOfC x (C8.fnScope st) s.heap.objs.size f cdv)) → sp vs H Q E0 →
      ∃ t, PSs (cxOf CX0 P w K mg base N x (C8.fnScope st) f cdv A outer s H E0).nox (C8.fnBody st) t ∧ t { nx := fun _ H' => Q .non H', rt := Q } (start N vs) H) (hE : ∀ vs H Q E, sp vs H Q E → sp vs H Q E0 := by intro _ _ _ _ h; exact h) : Fnc P w K mg base (k + 1) x sp := by
  obtain ⟨fd, F, kp, b⟩ := fn_ok D S len hbody hE
  exact ⟨f, fd, ps, F, g, kp, b⟩
theorem mth_ok (D : DefAt K m qual st ps f) (c : Cls K C) (hm : Meth K C m f) (S : FnScope N ps (C8.fnScope st)) (len : ∀ vs H Q E, sp vs H Q E → vs.length = ps.length)
    (hbody : ∀ (cdv : Value) (A : Around) (outer : List Env) (s : Shared) (H : Hp) (vs : List V) (Q : VK), Room k (A.deeper (envOfC qual (C8.fnScope st) s.heap.objs.size f cdv)) → sp vs H Q E0 →
      ∃ t, PSs (cxOf CX0 P w K mg base N qual (C8.fnScope st) f cdv A outer s H E0).nox (C8.fnBody st) t ∧ t { nx := fun _ H' => Q .non H', rt := Q } (start N vs) H) (hE : ∀ vs H Q E, sp vs H Q E → sp vs H Q E0 := by intro _ _ _ _ h; exact h) : Mth P w K mg base (k + 1) C m sp := by
  obtain ⟨fd, F, _, b⟩ := fn_ok D S len hbody hE
  exact ⟨f, fd, ps, c, hm, F, b⟩
theorem mkr_ok (D : DefAt K "__init__" qual st ps f) (M : Mk K C f) (g : mg x = some (.ref C)) (S : FnScope N ps (C8.fnScope st)) (len : ∀ vs H Q E, sp vs H Q E → vs.length = ps.length)
    (hbody : ∀ (cdv : Value) (A : Around) (outer : List Env) (s : Shared) (H : Hp) (vs : List V) (Q : VK), Room k (A.deeper (envOfC qual (C8.fnScope st) s.heap.objs.size f cdv)) → sp vs H Q E0 →
      ∃ t, PSs (cxOf CX0 P w K mg base N qual (C8.fnScope st) f cdv A outer s H E0).nox (C8.fnBody st) t ∧ t { nx := fun _ H' => Q .non H', rt := Q } (start N vs) H) (hE : ∀ vs H Q E, sp vs H Q E → sp vs H Q E0 := by intro _ _ _ _ h; exact h) : Mkr P w K mg base (k + 1) x C sp := by
  obtain ⟨fd, F, _, b⟩ := fn_ok D S len hbody hE
  exact ⟨f, fd, ps, M, F, g, b⟩
theorem prp_ok (D : DefAt K m qual st ps f) (c : Cls K C) (hp : PropOf K C m p f) (S : FnScope N ps (C8.fnScope st)) (len : ∀ vs H Q E, sp vs H Q E → vs.length = ps.length)
    (hbody : ∀ (cdv : Value) (A : Around) (outer : List Env) (s : Shared) (H : Hp) (vs : List V) (Q : VK), Room k (A.deeper (envOfC qual (C8.fnScope st) s.heap.objs.size f cdv)) → sp vs H Q E0 →
      ∃ t, PSs (cxOf CX0 P w K mg base N qual (C8.fnScope st) f cdv A outer s H E0).nox (C8.fnBody st) t ∧ t { nx := fun _ H' => Q .non H', rt := Q } (start N vs) H) (hE : ∀ vs H Q E, sp vs H Q E → sp vs H Q E0 := by intro _ _ _ _ h; exact h) : Prp P w K mg base (k + 1) C m sp := by
  obtain ⟨fd, F, _, b⟩ := fn_ok D S len hbody hE
  exact ⟨p, f, fd, ps, c, hp, F, b⟩
theorem spc_ok (D : DefAt K m qual st ps (He.ma K C m)) (x : SpcF K C m) (S : FnScope N ps (C8.fnScope st)) (len : ∀ vs H Q E, sp vs H Q E → vs.length = ps.length)
    (hbody : ∀ (cdv : Value) (A : Around) (outer : List Env) (s : Shared) (H : Hp) (vs : List V) (Q : VK), Room k (A.deeper (envOfC qual (C8.fnScope st) s.heap.objs.size (He.ma K C m) cdv)) → sp vs H Q E0 →
      ∃ t, PSs (cxOf CX0 P w K mg base N qual (C8.fnScope st) (He.ma K C m) cdv A outer s H E0).nox (C8.fnBody st) t ∧ t { nx := fun _ H' => Q .non H', rt := Q } (start N vs) H) (hE : ∀ vs H Q E, sp vs H Q E → sp vs H Q E0 := by intro _ _ _ _ h; exact h) : Spc P w K mg base (k + 1) C m sp := by
  obtain ⟨fd, F, _, b⟩ := fn_ok D S len hbody hE
  exact ⟨He.ma K C m, fd, ps, x.at_, x.fn, x.fi, F, b⟩
end
section
variable {X : Cx} {k j : Nat} {C : Addr} {x m : Str} {sp : Sp} {p pos apos : Pos} {e o : Expr} {es : List Expr} {ta : TE} {t : TA}
theorem pe_f (c : Fnc X.prog X.w X.K X.mg X.base k x sp) (hr : Room j X.A) (hk : k ≤ j) (hg : Gl X x) (ha : PA X (e :: es) t)
    (hdb : (x == ("__debug__" : Str)) = false := by decide) (he : starEach (e :: es) X.env = (false, eval e X.env) :: starEach es X.env := by rfl) (hpl : (backTo pos (starEach es X.env)).any (·.1) = false := by rfl) :
    PE X (.Call (.Name x p) (e :: es) [] pos) (tCall sp [] E0 t) := by
  obtain ⟨f, fd, ps, F, hm, kp, b⟩ := c.ex
  exact pe_call F (hr.mono hk) hg hm kp b .nil pass0 ha hdb he hpl
theorem pe_k (c : Mkr X.prog X.w X.K X.mg X.base k x C sp) (hr : Room j X.A) (hk : k + 1 ≤ j) (hg : Gl X x) (ha : PA X (e :: es) t)
    (hdb : (x == ("__debug__" : Str)) = false := by decide) (he : starEach (e :: es) X.env = (false, eval e X.env) :: starEach es X.env := by rfl) (hpl : (backTo pos (starEach es X.env)).any (·.1) = false := by rfl) :
    PE X (.Call (.Name x p) (e :: es) [] pos) (tMake C sp [] E0 t) := by
  obtain ⟨f, fd, ps, M, F, hm, b⟩ := c.ex
  exact pe_make M F (hr.mono hk) hg hm b .nil pass0 ha hdb he hpl
theorem pe_m {pl : Sem Bool} (c : Mth X.prog X.w X.K X.mg X.base k C m sp) (hr : Room j X.A) (hk : k ≤ j) (he : PE X o ta) (ha : PA X (e :: es) t)
    (hst : starEach (e :: es) X.env = (false, eval e X.env) :: starEach es X.env := by rfl) (hpl : (backTo pos (starEach es X.env)).any (·.1) = false := by rfl)
    (ht : eval (.Call (.Attribute o m apos) (e :: es) [] pos) X.env = (do
      let ov ← eval o X.env
      standAt apos.atName
      let (f, first) ← holding [ov] (getMethod ov m pl)
      callWith pos f first (backTo pos (starEach (e :: es) X.env)) (backToKw pos (keywordEach [] X.env))) := by rfl) :
    PE X (.Call (.Attribute o m apos) (e :: es) [] pos) (tMeth C m sp [] E0 ta t) := by
  obtain ⟨f, fd, ps, hc, hm, F, b⟩ := c.ex
  exact pe_meth (pl := pl) he hc hm F (hr.mono hk) b .nil pass0 ha hst hpl ht
theorem pe_m0 {pl : Sem Bool} (c : Mth X.prog X.w X.K X.mg X.base k C m sp) (hr : Room j X.A) (hk : k ≤ j) (he : PE X o ta)
    (ht : eval (.Call (.Attribute o m apos) [] [] pos) X.env = (do
      let ov ← eval o X.env
      standAt apos.atName
      let (f, first) ← holding [ov] (getMethod ov m pl)
      callWith pos f first (backTo pos (starEach [] X.env)) (backToKw pos (keywordEach [] X.env))) := by rfl) :
    PE X (.Call (.Attribute o m apos) [] [] pos) (tMeth C m sp [] E0 ta tNil) := by
  obtain ⟨f, fd, ps, hc, hm, F, b⟩ := c.ex
  exact pe_meth0 (pl := pl) he hc hm F (hr.mono hk) b .nil pass0 ht
theorem pe_pr (c : Prp X.prog X.w X.K X.mg X.base k C m sp) (hr : Room j X.A) (hk : k + 1 ≤ j) (he : PE X e ta) (hab : attributeBase e m X.env (eval e X.env) = eval e X.env := by rfl) :
    PE X (.Attribute e m pos) (tProp C sp [] E0 ta) := by
  obtain ⟨pp, f, fd, ps, hc, hp, F, b⟩ := c.ex
  exact pe_prop he hc hp F (hr.mono hk) b .nil pass0 hab
end
end Tb
namespace Tb
open PySem PySem.Spec PyProof.Rows L2
/-! ### small words -/
theorem isi_ty {K : PySem.W.Frag} {H : Hp} {Q : VK} {x : V} {t n : String} {b : Bool} (h : TyX K H x (.type t)) (e : kitB t n = some b) (q : Q (.bl b) H) : rIsi K [x, .ty n] H Q := ⟨x, .ty n, _, _, b, rfl, .ty n, h, kit_ty e, q⟩
theorem tyI {K : PySem.W.Frag} {H : Hp} (i : Int) : TyX K H (.int i) (.type "int") := .base (.int i)
theorem tyS {K : PySem.W.Frag} {H : Hp} (x : Str) : TyX K H (.str x) (.type "str") := .base (.str x)
theorem tyT {K : PySem.W.Frag} {H : Hp} {a : Addr} {xs : List V} (h : SqT K H a xs) : TyX K H (.ref a) (.type "tuple") := by
  rcases h with (h | ⟨o, h⟩) | ⟨o, its, n, h, c, _⟩
  · exact .base (.tup h)
  · exact .fTuple h
  · exact .kTuple h c
theorem andT {c : Bool} {A B : Prop} (hc : c = true) (h : A) : if c = true then A else B := by rw [if_pos hc]; exact h
theorem andF {c : Bool} {A B : Prop} (hc : c = false) (h : B) : if c = true then A else B := by rw [if_neg (by rw [hc]; exact Bool.false_ne_true)]; exact h
section
variable {X : Cx} {x : Str} {pos : Pos} {n : String}
/-- a built-in type's name -/
theorem pe_ty (hg : Gl X x) (hm : X.mg x = none) (hv : bootBuiltins x = some (.type n)) (hnm : x ≠ "__name__" := by decide) (hdb : (x == ("__debug__" : Str)) = false := by decide) : PE X (.Name x pos) (tC (.ty n)) := pe_bltn hg hm hv rfl hnm hdb
end
theorem b_int : bootBuiltins "int" = some (.type "int") := by decide +kernel
theorem b_bool : bootBuiltins "bool" = some (.type "bool") := by decide +kernel
theorem b_str : bootBuiltins "str" = some (.type "str") := by decide +kernel
theorem b_tuple : bootBuiltins "tuple" = some (.type "tuple") := by decide +kernel
theorem b_list : bootBuiltins "list" = some (.type "list") := by decide +kernel
theorem b_isinstance : bootBuiltins "isinstance" = some (.builtin "isinstance") := by decide +kernel
theorem b_len : bootBuiltins "len" = some (.builtin "len") := by decide +kernel
theorem b_all : bootBuiltins "all" = some (.builtin "all") := by decide +kernel
theorem b_min : bootBuiltins "min" = some (.builtin "min") := by decide +kernel
theorem b_max : bootBuiltins "max" = some (.builtin "max") := by decide +kernel
theorem b_abs : bootBuiltins "abs" = some (.builtin "abs") := by decide +kernel
theorem b_repr : bootBuiltins "repr" = some (.builtin "repr") := by decide +kernel
/-- isinstance(a, T), T a built-in type -/
def rIst (K : PySem.W.Frag) (n : String) : List V → Hp → VK → Prop := fun xs H Q => ∃ (x : V) (t : String) (b : Bool), xs = [x, .ty n] ∧ TyX K H x (.type t) ∧ kitB t n = some b ∧ Q (.bl b) H
theorem call_ist {X : Cx} (n : String) : CallR X (.builtin "isinstance") (rIst X.K n) := by
  intro pins s σ H xs us Q I r h
  obtain ⟨x, t, b, e, ht, hk, q⟩ := h
  exact call_isi pins s σ H xs us Q I r ⟨x, .ty n, _, _, b, e, .ty n, ht, kit_ty hk, q⟩
theorem pe_isi {X : Cx} {a : Expr} {ta : TE} {tn : Str} {p q pos : Pos} {n : String} (T : Tx X.K X.mg X.base) (hg : Gl X "isinstance") (ha : PE X a ta) (ht : Gl X tn) (hm : X.mg tn = none) (hv : bootBuiltins tn = some (.type n))
    (hnm : tn ≠ "__name__" := by decide) (hdb : (tn == ("__debug__" : Str)) = false := by decide) (h1 : starEach [a, .Name tn q] X.env = (false, eval a X.env) :: starEach [.Name tn q] X.env := by rfl) (h2 : starEach [.Name tn q] X.env = (false, eval (.Name tn q) X.env) :: starEach [] X.env := by rfl) (h3 : (backTo pos (starEach [.Name tn q] X.env)).any (·.1) = false := by rfl) :
    PE X (.Call (.Name "isinstance" p) [a, .Name tn q] [] pos) (tCB (rIst X.K n) (tCons ta (tCons (tC (.ty n)) tNil))) :=
  pe_callB (call_ist n) hg (f_isinstance T) b_isinstance (pa_cons ha (pa_cons (pe_ty ht hm hv hnm hdb) pa_nil h2) h1) (by decide) (by decide) h1 h3
end Tb
set_option Elab.async false
set_option linter.all false
set_option maxRecDepth 100000
set_option maxHeartbeats 4000000
/-! Words. -/
namespace Tb
open PySem PySem.Spec PyProof.Rows L2
theorem qT {Q : VK} {H : Hp} {c : Bool} (h : c = true) (q : Q (.bl true) H) : Q (.bl c) H := by rw [h]; exact q
theorem qF {Q : VK} {H : Hp} {c : Bool} (h : c = false) (q : Q (.bl false) H) : Q (.bl c) H := by rw [h]; exact q
theorem same_new {H : Hp} {T : Addr} {o : HO} (n : H T = none) : Same H (upd H T o) := fun b o' e => by rw [upd_ne (ne_of_none e n)]; exact e
section
variable {P : Program} {w : World} {K : PySem.W.Frag} {mg : Str → Option Value} {base : Heap}
def sp_is_integer : Sp := fun vs H Q _ => ∃ i : Int, vs = [.int i] ∧ -(10 ^ 40) < i ∧ i < 10 ^ 40 ∧ Q (.bl true) H
theorem k_is_integer (T : Tx K mg base) : Fnc P w K mg base 1 "is_integer" sp_is_integer := by
  refine fnc_ok (D_is_integer T) (g_is_integer T) sc_is_integer (fun vs H Q E h => ?_) (fun cdv A outer s H vs Q hr h => ?_)
  · obtain ⟨i, rfl, _⟩ := h; rfl
  · obtain ⟨i, rfl, h1, h2, q⟩ := h
    refine ⟨_, (pss_one (ps_ret (pe_and (pe_isi T rfl (pv 0) rfl (f_int T) b_int) (pe_and (pe_not (pe_isi T rfl (pv 0) rfl (f_bool T) b_bool)) (pe_one (pe_chain op_lt op_lt (pe_un un_neg (C8.pe_gc rfl (v_BEYOND T))) (pv 0) (C8.pe_gc rfl (v_BEYOND T)))))))), ?_⟩
    refine ⟨_, rfl, _, _, true, rfl, tyI i, by decide +kernel, _, rfl, andT rfl ?_⟩
    refine ⟨_, rfl, _, _, false, rfl, tyI i, by decide +kernel, _, rfl, _, rfl, andT rfl ?_⟩
    refine ⟨_, rfl, _, rfl, _, _, rfl, rfl, _, rfl, andT (decide_eq_true h1) ⟨_, _, rfl, rfl, ?_⟩⟩
    exact qT (decide_eq_true h2) q
def sp_is_below : Sp := fun vs H Q _ => ∃ i m : Int, vs = [.int i, .int m] ∧ 0 ≤ i ∧ i < m ∧ m ≤ 1000 ∧ Q (.bl true) H
theorem k_is_below (T : Tx K mg base) : Fnc P w K mg base 2 "is_below" sp_is_below := by
  refine fnc_ok (D_is_below T) (g_is_below T) sc_is_below (fun vs H Q E h => ?_) (fun cdv A outer s H vs Q hr h => ?_)
  · obtain ⟨i, m, rfl, _⟩ := h; rfl
  · obtain ⟨i, m, rfl, h1, h2, h3, q⟩ := h
    refine ⟨_, (pss_one (ps_ret (pe_and (pe_f (k_is_integer T) hr (by decide) rfl (pa_cons (pv 0) pa_nil)) (pe_one (pe_chain op_le op_lt pe_int (pv 0) (pv 1)))))), ?_⟩
    refine ⟨_, rfl, i, rfl, by omega, by omega, _, rfl, andT rfl ?_⟩
    refine ⟨_, rfl, _, _, rfl, rfl, _, rfl, andT (decide_eq_true h1) ⟨_, rfl, _, _, rfl, rfl, ?_⟩⟩
    exact qT (decide_eq_true h2) q
def sp_is_number : Sp := fun vs H Q _ => ∃ i : Int, vs = [.int i] ∧ 0 ≤ i ∧ i < 1000 ∧ Q (.bl true) H
theorem k_is_number (T : Tx K mg base) : Fnc P w K mg base 2 "is_number" sp_is_number := by
  refine fnc_ok (D_is_number T) (g_is_number T) sc_is_number (fun vs H Q E h => ?_) (fun cdv A outer s H vs Q hr h => ?_)
  · obtain ⟨i, rfl, _⟩ := h; rfl
  · obtain ⟨i, rfl, h1, h2, q⟩ := h
    refine ⟨_, (pss_one (ps_ret (pe_and (pe_f (k_is_integer T) hr (by decide) rfl (pa_cons (pv 0) pa_nil)) (pe_one (pe_cmpR op_ge (pv 0) pe_int (nomark _)))))), ?_⟩
    refine ⟨_, rfl, i, rfl, by omega, by omega, _, rfl, andT rfl ?_⟩
    refine ⟨_, rfl, _, _, rfl, rfl, ?_⟩
    exact qT (decide_eq_true h1) q
def sp_is_place : Sp := fun vs H Q _ => ∃ f : Bool, vs = [.str (plV f)] ∧ ∀ H', Same H H' → Q (.bl true) H'
theorem k_is_place (T : Tx K mg base) : Fnc P w K mg base 1 "is_place" sp_is_place := by
  refine fnc_ok (D_is_place T) (g_is_place T) sc_is_place (fun vs H Q E h => ?_) (fun cdv A outer s H vs Q hr h => ?_)
  · obtain ⟨i, rfl, _⟩ := h; rfl
  · obtain ⟨f, rfl, q⟩ := h
    refine ⟨_, (pss_one (ps_ret (pe_and (pe_isi T rfl (pv 0) rfl (f_str T) b_str) (pe_one (pe_cmpR op_in_seq (pv 0) (pe_tup (pa_cons (C8.pe_gc rfl (v_BACK T)) (pa_cons (C8.pe_gc rfl (v_FRONT T)) pa_nil))) (by rfl)))))), ?_⟩
    refine ⟨_, rfl, _, _, true, rfl, tyS _, by decide +kernel, _, rfl, andT rfl ?_⟩
    refine ⟨_, rfl, ?_⟩
    refine ⟨by show 2 ≤ sizeLine; decide, fun t ht => ?_⟩
    refine ⟨_, _, rfl, .inr (.inl (.inl upd_same)), rfl, by rfl, ?_⟩
    refine qT ?_ (q _ (same_new ht))
    cases f <;> decide +kernel
def sp_is_rest : Sp := fun vs H Q _ => ∃ f : Bool, vs = [.str (rsV f)] ∧ ∀ H', Same H H' → Q (.bl true) H'
theorem k_is_rest (T : Tx K mg base) : Fnc P w K mg base 1 "is_rest" sp_is_rest := by
  refine fnc_ok (D_is_rest T) (g_is_rest T) sc_is_rest (fun vs H Q E h => ?_) (fun cdv A outer s H vs Q hr h => ?_)
  · obtain ⟨i, rfl, _⟩ := h; rfl
  · obtain ⟨f, rfl, q⟩ := h
    refine ⟨_, (pss_one (ps_ret (pe_and (pe_isi T rfl (pv 0) rfl (f_str T) b_str) (pe_one (pe_cmpR op_in_seq (pv 0) (pe_tup (pa_cons (C8.pe_gc rfl (v_KEPT T)) (pa_cons (C8.pe_gc rfl (v_NEW T)) pa_nil))) (by rfl)))))), ?_⟩
    refine ⟨_, rfl, _, _, true, rfl, tyS _, by decide +kernel, _, rfl, andT rfl ?_⟩
    refine ⟨_, rfl, ?_⟩
    refine ⟨by show 2 ≤ sizeLine; decide, fun t ht => ?_⟩
    refine ⟨_, _, rfl, .inr (.inl (.inl upd_same)), rfl, by rfl, ?_⟩
    refine qT ?_ (q _ (same_new ht))
    cases f <;> decide +kernel
def sp_is_word : Sp := fun vs H Q _ => ∃ x : Wd, vs = [.str x.s] ∧ Q (.bl true) H
theorem k_is_word (T : Tx K mg base) : Fnc P w K mg base 1 "is_word" sp_is_word := by
  refine fnc_ok (D_is_word T) (g_is_word T) sc_is_word (fun vs H Q E h => ?_) (fun cdv A outer s H vs Q hr h => ?_)
  · obtain ⟨i, rfl, _⟩ := h; rfl
  · obtain ⟨x, rfl, q⟩ := h
    refine ⟨_, (pss_one (ps_ret (pe_and (pe_isi T rfl (pv 0) rfl (f_str T) b_str) (pe_one (pe_or (pe_cmpR op_in_seq (pv 0) (C8.pe_gc rfl (v_WORDS T)) (by rfl)) (pe_one (pe_cmpR op_eq (pv 0) (C8.pe_gc rfl (v_BELL T)) (nomark _)))))))), ?_⟩
    refine ⟨_, rfl, _, _, true, rfl, tyS _, by decide +kernel, _, rfl, andT rfl ?_⟩
    refine ⟨_, rfl, ?_⟩
    refine ⟨_, _, rfl, .inr (t_WORDS T _), rfl, rfl, _, rfl, ?_⟩
    cases x
    · exact andT (by decide +kernel) q
    · exact andT (by decide +kernel) q
    · exact andT (by decide +kernel) q
    · exact andT (by decide +kernel) q
    · exact andF (by decide +kernel) ⟨_, rfl, rfl, qT (by decide +kernel) q⟩
def sp_is_level_word : Sp := fun vs H Q _ => ∃ x : Str, vs = [.str x] ∧ x ∈ (["ticks", "used", "wake", "way", "lost", "takes"] : List Str) ∧ Q (.bl true) H
theorem k_is_level_word (T : Tx K mg base) : Fnc P w K mg base 1 "is_level_word" sp_is_level_word := by
  refine fnc_ok (D_is_level_word T) (g_is_level_word T) sc_is_level_word (fun vs H Q E h => ?_) (fun cdv A outer s H vs Q hr h => ?_)
  · obtain ⟨i, rfl, _⟩ := h; rfl
  · obtain ⟨x, rfl, hx, q⟩ := h
    refine ⟨_, (pss_one (ps_ret (pe_and (pe_isi T rfl (pv 0) rfl (f_str T) b_str) (pe_one (pe_cmpR op_in_seq (pv 0) (C8.pe_gc rfl (v_LEVEL_WORDS T)) (by rfl)))))), ?_⟩
    refine ⟨_, rfl, _, _, true, rfl, tyS _, by decide +kernel, _, rfl, andT rfl ?_⟩
    refine ⟨_, rfl, _, _, rfl, .inr (t_LEVEL_WORDS T _), rfl, rfl, ?_⟩
    refine qT ?_ q
    simp only [List.mem_cons, List.not_mem_nil, or_false] at hx
    rcases hx with rfl | rfl | rfl | rfl | rfl | rfl <;> decide +kernel
def sp_is_pair : Sp := fun vs H Q _ => ∃ (l : Nat) (f : Bool) (v : V), vs = [v] ∧ l < 3 ∧ Td K H v (.tuple [.int l, .str (plV f)]) ∧ ∀ H', Same H H' → Q (.bl true) H'
theorem k_is_pair (T : Tx K mg base) : Fnc P w K mg base 3 "is_pair" (sp_is_pair (K := K)) := by
  refine fnc_ok (D_is_pair T) (g_is_pair T) sc_is_pair (fun vs H Q E h => ?_) (fun cdv A outer s H vs Q hr h => ?_)
  · obtain ⟨l, f, v, rfl, _⟩ := h; rfl
  · obtain ⟨l, f, v, rfl, hl, hv, q⟩ := h
    obtain ⟨a, x, y, rfl, ht, h1, h2⟩ := hv.two
    have e1 := h1.int'
    have e2 := h2.str'
    subst e1 e2
    refine ⟨_, (pss_one (ps_ret (pe_and (pe_isi T rfl (pv 0) rfl (f_tuple T) b_tuple) (pe_and (pe_cmpR op_eq (pe_callB call_len_seq rfl (f_len T) b_len (pa_cons (pv 0) pa_nil) (by decide) (by decide)) pe_int (nomark _)) (pe_and (pe_f (k_is_below T) hr (by decide) rfl (pa_cons (pe_ix ix_tup (pv 0) pe_int (fun _ _ => rfl)) (pa_cons (C8.pe_gc rfl (v_MAX_LEVELS T)) pa_nil))) (pe_one (pe_f (k_is_place T) hr (by decide) rfl (pa_cons (pe_ix ix_tup (pv 0) pe_int (fun _ _ => rfl)) pa_nil)))))))), ?_⟩
    refine ⟨_, rfl, _, _, true, rfl, tyT ht, by decide +kernel, _, rfl, andT rfl ?_⟩
    refine ⟨_, rfl, ?_⟩
    refine ⟨_, _, rfl, .inr ht, rfl, _, rfl, andT rfl ?_⟩
    refine ⟨_, rfl, a, _, _, _, rfl, rfl, ht, atI_nat (j := 0) rfl, l, 3, rfl, by omega, by omega, by decide, _, rfl, andT rfl ?_⟩
    refine ⟨_, rfl, a, _, _, _, rfl, rfl, ht, atI_nat (j := 1) rfl, f, rfl, q⟩
def sp_is_triple : Sp := fun vs H Q _ => ∃ (l : Nat) (f r : Bool) (v : V), vs = [v] ∧ l < 3 ∧ Td K H v (.tuple [.int l, .str (plV f), .str (rsV r)]) ∧ ∀ H', Same H H' → Q (.bl true) H'
theorem k_is_triple (T : Tx K mg base) : Fnc P w K mg base 4 "is_triple" (sp_is_triple (K := K)) := by
  refine fnc_ok (D_is_triple T) (g_is_triple T) sc_is_triple (fun vs H Q E h => ?_) (fun cdv A outer s H vs Q hr h => ?_)
  · obtain ⟨l, f, r, v, rfl, _⟩ := h; rfl
  · obtain ⟨l, f, r, v, rfl, hl, hv, q⟩ := h
    obtain ⟨a, x, y, z, rfl, ht, h1, h2, h3⟩ := hv.three
    have e1 := h1.int'
    have e2 := h2.str'
    have e3 := h3.str'
    subst e1 e2 e3
    refine ⟨_, (pss_one (ps_ret (pe_and (pe_isi T rfl (pv 0) rfl (f_tuple T) b_tuple) (pe_and (pe_cmpR op_eq (pe_callB call_len_seq rfl (f_len T) b_len (pa_cons (pv 0) pa_nil) (by decide) (by decide)) pe_int (nomark _)) (pe_and (pe_f (k_is_pair T) hr (by decide) rfl (pa_cons (pe_slice sl_tupA (pv 0) po_none (po_some pe_int)) pa_nil)) (pe_one (pe_f (k_is_rest T) hr (by decide) rfl (pa_cons (pe_ix ix_tup (pv 0) pe_int (fun _ _ => rfl)) pa_nil)))))))), ?_⟩
    refine ⟨_, rfl, _, _, true, rfl, tyT ht, by decide +kernel, _, rfl, andT rfl ?_⟩
    refine ⟨_, rfl, ?_⟩
    refine ⟨_, _, rfl, .inr ht, rfl, _, rfl, andT rfl ?_⟩
    refine ⟨_, rfl, ?_⟩
    refine ⟨2, rfl, a, _, rfl, ht, fun z => ?_, fun _ p hp => ?_⟩
    · exact absurd z.2 (by show ¬ (2 = 3); decide)
    refine ⟨l, f, .ref p, rfl, hl, .tup (.inl (.inl upd_same)) (.cons (.int _) (.cons (.str _) .nil)), fun H2 s2 => ⟨_, rfl, andT rfl ?_⟩⟩
    have S := (same_new hp).trans s2
    refine ⟨_, rfl, a, _, _, _, rfl, rfl, (Fr.of [] S).sqT ht, atI_nat (j := 2) rfl, r, rfl, fun H3 s3 => q _ (S.trans s3)⟩
def EntV (K : PySem.W.Frag) (H : Hp) (x : Str) (v : V) : Prop :=
  (x = "ticks" ∧ ∃ k : Option Nat, v = leftV k ∧ ∀ n, k = some n → 1 ≤ n ∧ n ≤ 3) ∨ (x = "used" ∧ ∃ (l : Nat) (f : Bool), l < 3 ∧ Td K H v (.tuple [.int l, .str (plV f)])) ∨
  ((x = "wake" ∨ x = "way" ∨ x = "lost") ∧ ∃ (l : Nat) (f r : Bool), l < 3 ∧ Td K H v (.tuple [.int l, .str (plV f), .str (rsV r)])) ∨ (x = "takes" ∧ ∃ l : Nat, l < 3 ∧ v = .int l)
def sp_is_entry : Sp := fun vs H Q _ => ∃ (x : Str) (v : V), vs = [.str x, v] ∧ EntV K H x v ∧ ∀ H', Same H H' → Q (.bl true) H'
theorem k_is_entry (T : Tx K mg base) : Fnc P w K mg base 5 "is_entry" (sp_is_entry (K := K)) := by
  refine fnc_ok (D_is_entry T) (g_is_entry T) sc_is_entry (fun vs H Q E h => ?_) (fun cdv A outer s H vs Q hr h => ?_)
  · obtain ⟨x, v, rfl, _⟩ := h; rfl
  · obtain ⟨x, v, rfl, hv, q⟩ := h
    refine ⟨_, (pss_cons (ps_if (PW.pt (pw_and (pt_not (pt_val (pe_f (k_is_level_word T) hr (by decide) rfl (pa_cons (pv 0) pa_nil)))) (pw_and1 (pt_not (PW.pt (pw_and (pt_val (pe_isi T rfl (pv 0) rfl (f_str T) b_str)) (pw_and1 (pt_cmpR op_eq (pv 0) (C8.pe_gc rfl (v_COME T)) (nomark _))))))))) (pss_one ps_never) pss_nil)
      (pss_cons (ps_if (pt_cmpR op_eq (pv 0) (C8.pe_gc rfl (v_TICKS T)) (nomark _)) (pss_one (ps_ret (pe_or (pe_cmp (pc_isN (pv 1)) rfl) (pe_one (pe_and (pe_f (k_is_integer T) hr (by decide) rfl (pa_cons (pv 1) pa_nil)) (pe_one (pe_chain op_le op_le pe_int (pv 1) (C8.pe_gc rfl (v_MAX_SLICE T))))))))) pss_nil)
      (pss_cons (ps_if (pt_cmpR op_eq (pv 0) (C8.pe_gc rfl (v_USED T)) (nomark _)) (pss_one (ps_ret (pe_f (k_is_pair T) hr (by decide) rfl (pa_cons (pv 1) pa_nil)))) pss_nil)
      (pss_one (ps_ret (pe_ifExp (pt_cmpR op_in_seq (pv 0) (C8.pe_gc rfl (v_MOVING T)) (by rfl)) (pe_f (k_is_triple T) hr (by decide) rfl (pa_cons (pv 1) pa_nil)) (pe_f (k_is_below T) hr (by decide) rfl (pa_cons (pv 1) (pa_cons (C8.pe_gc rfl (v_MAX_LEVELS T)) pa_nil))))))))), ?_⟩
    have lw : x ∈ (["ticks", "used", "wake", "way", "lost", "takes"] : List Str) := by
      rcases hv with ⟨rfl, _⟩ | ⟨rfl, _⟩ | ⟨rfl | rfl | rfl, _⟩ | ⟨rfl, _⟩ <;> decide +kernel
    refine ⟨_, rfl, x, rfl, lw, _, rfl, andF rfl ?_⟩
    rcases hv with ⟨rfl, k, rfl, hk⟩ | ⟨rfl, l, f, hl, hv⟩ | ⟨hx, l, f, r, hl, hv⟩ | ⟨rfl, l, hl, rfl⟩
    · refine ⟨_, rfl, rfl, true, rfl, andT rfl ⟨_, rfl, ?_⟩⟩
      cases k with
      | none => exact ⟨_, rfl, andT rfl (q _ (Same.refl _))⟩
      | some n =>
        obtain ⟨h1, h2⟩ := hk n rfl
        refine ⟨_, rfl, andF rfl ⟨_, rfl, n, rfl, by omega, by omega, _, rfl, andT rfl ?_⟩⟩
        refine ⟨_, rfl, _, _, rfl, rfl, _, rfl, andT (decide_eq_true (by omega)) ⟨_, _, rfl, rfl, qT (decide_eq_true (by omega)) (q _ (Same.refl _))⟩⟩
    · refine ⟨_, rfl, rfl, false, by decide +kernel, andF rfl ⟨_, rfl, rfl, true, rfl, andT rfl ⟨_, rfl, l, f, _, rfl, hl, hv, q⟩⟩⟩
    · have e1 : decide (V.str x = V.str "ticks") = false := by rcases hx with rfl | rfl | rfl <;> decide +kernel
      have e2 : decide (V.str x = V.str "used") = false := by rcases hx with rfl | rfl | rfl <;> decide +kernel
      have e3 : inV (V.str x) [.str "wake", .str "way", .str "lost"] = true := by rcases hx with rfl | rfl | rfl <;> decide +kernel
      refine ⟨_, rfl, rfl, _, rfl, andF e1 ⟨_, rfl, rfl, _, rfl, andF e2 ⟨_, rfl, _, _, rfl, .inr (t_MOVING T _), rfl, rfl, _, rfl, andT e3 ⟨_, rfl, l, f, r, _, rfl, hl, hv, q⟩⟩⟩⟩
    · refine ⟨_, rfl, rfl, false, by decide +kernel, andF rfl ⟨_, rfl, rfl, false, by decide +kernel, andF rfl ⟨_, rfl, _, _, rfl, .inr (t_MOVING T _), rfl, rfl, false, by decide +kernel, andF rfl ⟨_, rfl, l, 3, rfl, by omega, by omega, by decide, q _ (Same.refl _)⟩⟩⟩⟩
end
end Tb
set_option Elab.async false
set_option linter.all false
set_option maxRecDepth 100000
set_option maxHeartbeats 4000000
/-! Rules that name K, for the elements of comprehensions. -/
namespace Tb
open PySem PySem.Spec PyProof.Rows L2
section
variable {X : Cx} {K : PySem.W.Frag}
theorem ix_tupK (h : X.K = K) : IxR X (rIxT K) := by subst h; exact ix_tup
theorem ix_listK (h : X.K = K) : IxR X (rIxL K) := by subst h; exact ix_list
def rListOf (K : PySem.W.Frag) : List V → Hp → VK → Prop := fun xs H Q => ∃ p ys, xs = [V.ref p] ∧ (SqL K H p ys ∨ SqT K H p ys) ∧ ∀ l, H l = none → Q (V.ref l) (upd H l (HO.lst ys))
theorem call_list_ofK (h : X.K = K) : CallR X (Value.type "list") (rListOf K) := by subst h; exact call_list_of
def rLenOf (K : PySem.W.Frag) : List V → Hp → VK → Prop := fun xs H Q => ∃ p ys, xs = [V.ref p] ∧ (SqL K H p ys ∨ SqT K H p ys) ∧ Q (V.int (ys.length : Nat)) H
theorem call_len_seqK (h : X.K = K) : CallR X (Value.builtin "len") (rLenOf K) := by subst h; exact call_len_seq
theorem pe_fldK {e : Expr} {f : Str} {pos : Pos} {ta : TE} (hk : X.K = K) (h : PE X e ta) (hb : attributeBase e f X.env (eval e X.env) = eval e X.env) : PE X (.Attribute e f pos) (tFld K ta f) := by subst hk; exact pe_fld h hb
theorem pg_tupK {pos : Pos} {es : List Expr} {k : Nat} {t : TGs} {n : Nat} (hk : X.K = K) (hc : X.calm = true) (h : PGs X es t) (h1 : (assignEach es X.env).length = n := by rfl) (h2 : List.findIdx? (fun x => x.fst) (assignEach es X.env) = none := by rfl) : PG X (.Tuple es k pos) (gTup K n t) := by subst hk; exact pg_tup hc h h1 h2
end
end Tb
set_option Elab.async false
set_option linter.all false
set_option maxRecDepth 100000
set_option maxHeartbeats 4000000
/-! Books. -/
namespace Tb
open PySem PySem.Spec PyProof.Rows L2
theorem same_items {xs ys : Nat → Option V} {i : Nat} {H H' : Hp} {x : V} (h : YPair xs ys i H x H') : Same H H' := by
  obtain ⟨T, x, y, rfl, hT, rfl, _⟩ := h
  exact same_new hT
theorem same_at {xs : List V} {i : Nat} {H H' : Hp} {x : V} (h : YAt xs i H x H') : Same H H' := by
  obtain ⟨rfl, _⟩ := h
  exact Same.refl _
theorem same_fn {f : Nat → V} {i : Nat} {H H' : Hp} {x : V} (h : YFn f i H x H') : Same H H' := by
  obtain ⟨rfl, _⟩ := h
  exact Same.refl _
theorem walk_enumT {K : PySem.W.Frag} {a : Addr} {xs : List V} : Walk (IteT K a) xs.length (fun H => SqT K H a xs) (YPair (fun i => some (.int (i : Nat))) (fun i => xs[i]?)) where
  goes := fun i H hi h => ⟨xs, xs[i], h, List.getElem?_eq_getElem hi⟩
  stops := fun H h => ⟨xs, h, Nat.le_refl _⟩
  yields := fun i H v H' hi h y => by
    obtain ⟨T, x, rfl, hT, rfl, hx⟩ := y
    exact ⟨T, _, x, rfl, hT, rfl, rfl, hx xs h⟩
theorem Fr.updNew {T : List Addr} {H H1 : Hp} {p : Addr} {o : HO} (f : Fr T H H1) (hp : H p = none) : Fr T H (upd H1 p o) :=
  ⟨fun b o' e n => by rw [upd_ne (ne_of_none e hp)]; exact f.keep b o' e n, fun b xs e => by rw [upd_ne (ne_of_none e hp)]; exact f.tup b xs e, fun b o' v e => by rw [upd_ne (ne_of_none e hp)]; exact f.frz b o' v e⟩
theorem Fr.updIn {T : List Addr} {H H1 : Hp} {a : Addr} {o u : HO} (f : Fr T H H1) (h : H a = some o) (s : Soft o) (m : a ∈ T) : Fr T H (upd H1 a u) := by
  refine ⟨fun b o' e n => ?_, fun b xs e => ?_, fun b o' v e => ?_⟩
  · rw [upd_ne (fun z => n (by rw [z]; exact m))]; exact f.keep b o' e n
  · rw [upd_ne]
    · exact f.tup b xs e
    · rintro rfl
      rw [h] at e; cases e; exact s
  · rw [upd_ne]
    · exact f.frz b o' v e
    · rintro rfl
      rw [h] at e; cases e; exact s
theorem Fr.step {T : List Addr} {H H1 H2 : Hp} (f : Fr T H H1) (s : Same H1 H2) : Fr T H H2 := f.trans (Fr.of T s)
/-- a comprehension without a test that only makes new things -/
theorem lc_all {J : It} {n : Nat} {G : Hp → Prop} {Y : Nat → Hp → V → Hp → Prop} (w : Walk J n G Y) {g : TG} {te : TE} {vs : List Nat} {σ : L2.St} {H1 : Hp} {D : Addr} {Qd : Hp → Prop}
    (R : Nat → V → Hp → Prop) (hD : H1 D = none) (hn : n < sizeLine) (hY : ∀ i H x H', Y i H x H' → Same H H') (hG : ∀ H, Fr [D] H1 H → (∃ acc, H D = some (.lst acc)) → G H)
    (Rm : ∀ i y H H', Fr [D] H H' → (∃ acc, H D = some (.lst acc)) → R i y H → R i y H')
    (turn : ∀ i x H H' (Q' : VK), i < n → Same H1 H → Y i H x H' → (∀ y H4, Same H' H4 → R i y H4 → Q' y H4) → g x (wipe σ vs) H' fun σ2 H2 => wipe σ2 vs = wipe σ vs ∧ te σ2 H2 Q')
    (hd : ∀ H ys, Same H1 H → H D = some (.lst ys) → ys.length = n → (∀ i y, ys[i]? = some y → R i y H) → Qd H) :
    ∃ W : Nat → Nat → Hp → Prop, (∃ m, W 0 m (upd H1 D (.lst []))) ∧ ∀ i m H, W i m H → J.stop i H ∧ Qd H ∨ J.go i H ∧ ∃ Nx : Hp → Prop, (∀ H', Nx H' → ∃ m', m' < m ∧ W (i + 1) m' H') ∧
      ∀ x H', J.yld i H x H' → g x (wipe σ vs) H' fun σ2 H2 => wipe σ2 vs = wipe σ vs ∧ tYes σ2 H2 fun b H3 => if b = true then te σ2 H3 fun y H4 => ∃ acc, H4 D = some (.lst acc) ∧ acc.length < sizeLine ∧ Nx (upd H4 D (.lst (acc ++ [y]))) else Nx H3 := by
  refine lc_it w (fun i H => Fr [D] H1 H ∧ ∃ acc, H D = some (.lst acc) ∧ acc.length = i ∧ ∀ j y, acc[j]? = some y → R j y H) ?_ ?_ ?_ ?_
  · exact ⟨Fr.lay hD, [], upd_same, rfl, fun j y h => by simp at h⟩
  · rintro i H _ ⟨f, acc, h, _⟩
    exact hG H f ⟨acc, h⟩
  · rintro i x H H' hi ⟨f, acc, h, hl, ha⟩ hy
    have sS : Same H1 H := fun b o e => f.keep b o e (by rw [List.mem_singleton]; exact ne_of_none e hD)
    have key := turn i x H H' (fun y H4 => ∃ acc, H4 D = some (.lst acc) ∧ acc.length < sizeLine ∧ (Fr [D] H1 (upd H4 D (.lst (acc ++ [y]))) ∧ ∃ acc', upd H4 D (.lst (acc ++ [y])) D = some (.lst acc') ∧ acc'.length = i + 1 ∧ ∀ j z, acc'[j]? = some z → R j z (upd H4 D (.lst (acc ++ [y]))))) hi sS hy ?_
    · exact key
    · intro y H4 s4 r4
      have S4 : Same H H4 := (hY i H x H' hy).trans s4
      have h4 := S4 _ _ h
      refine ⟨acc, h4, by omega, (f.trans (Fr.of _ S4)).trans (Fr.wr h4 trivial (List.mem_singleton.2 rfl)), _, upd_same, by rw [List.length_append, hl]; rfl, fun j z e => ?_⟩
      have fw : Fr [D] H4 (upd H4 D (.lst (acc ++ [y]))) := Fr.wr h4 trivial (List.mem_singleton.2 rfl)
      by_cases hj : j < acc.length
      · rw [List.getElem?_append_left hj] at e
        exact Rm j z H4 _ fw ⟨_, h4⟩ (Rm j z H H4 (Fr.of _ S4) ⟨_, h⟩ (ha j z e))
      · have hj2 : j < (acc ++ [y]).length := (List.getElem?_eq_some_iff.1 e).1
        have hj3 : j = acc.length := by rw [List.length_append] at hj2; simp at hj2; omega
        subst hj3
        rw [List.getElem?_concat_length] at e
        cases e
        rw [hl]
        exact Rm i y H4 _ fw ⟨_, h4⟩ r4
  · rintro H ⟨f, acc, h, hl, ha⟩
    exact hd H acc (fun b o e => f.keep b o e (by rw [List.mem_singleton]; exact ne_of_none e hD)) h hl ha
theorem all_true {ys : List V} {n : Nat} (hl : ys.length = n) (h : ∀ (i : Nat) (y : V), ys[i]? = some y → y = V.bl true) : ys = (List.replicate n true).map V.bl := by
  apply List.ext_getElem?
  intro i
  rw [List.getElem?_map, List.getElem?_replicate]
  by_cases hi : i < n
  · rw [if_pos hi]
    have e := List.getElem?_eq_getElem (l := ys) (i := i) (by omega)
    rw [e, h i _ e]
    rfl
  · rw [if_neg hi, List.getElem?_eq_none (by omega)]
    rfl
theorem all_ok {K : PySem.W.Frag} {H : Hp} {D : Addr} {ys : List V} {n : Nat} (h : H D = some (.lst ys)) (hl : ys.length = n) (hr : ∀ (i : Nat) (y : V), ys[i]? = some y → y = V.bl true) : SqL K H D ((List.replicate n true).map V.bl) := by
  rw [all_true hl hr] at h
  exact .inl (.inl h)
theorem all_rep (n : Nat) : (List.replicate n true).all id = true := by
  rw [List.all_eq_true]
  intro x hx
  rw [List.eq_of_mem_replicate hx]
  rfl
section
variable {P : Program} {w : World} {K : PySem.W.Frag} {mg : Str → Option Value} {base : Heap}
structure LevEnts (K : PySem.W.Frag) (H : Hp) (k : Option Nat) (us wk wy lo : V) (tk : Nat) (l : Lev) : Prop where
  k : k = l.ticks
  tk : tk = l.takes
  us : Td K H us l.used.d2
  wk : Td K H wk l.wake.d
  wy : Td K H wy l.way.d
  lo : Td K H lo l.lost.d
theorem LevEnts.fr {Z : List Addr} {H H' : Hp} {k : Option Nat} {us wk wy lo : V} {tk : Nat} {l : Lev} (h : LevEnts K H k us wk wy lo tk l) (s : Fr Z H H') : LevEnts K H' k us wk wy lo tk l :=
  ⟨h.k, h.tk, h.us.fr s, h.wk.fr s, h.wy.fr s, h.lo.fr s⟩
/-- entries of a level of a book of at most three -/
structure LevSm (l : Lev) : Prop where
  ticks : ∀ t, l.ticks = some t → 1 ≤ t ∧ t ≤ 3
  used : l.used.lv < 3
  wake : l.wake.lv < 3
  way : l.way.lv < 3
  lost : l.lost.lv < 3
  takes : l.takes < 3
def sp_Level___init__ (K : PySem.W.Frag) : Sp := fun vs H Q _ => ∃ (a dx : Addr) (k : Option Nat) (us wk wy lo : V) (tk : Nat) (l : Lev), vs = [.ref a, leftV k, us, wk, wy, lo, .int tk] ∧ H a = some (.ins (He.ga K "Level") dx []) ∧ LevEnts K H k us wk wy lo tk l ∧ LevSm l ∧
  ∀ H', Fr [a] H H' → LevAt K H' a l → Q .non H'
theorem ent_level {H : Hp} {k : Option Nat} {us wk wy lo : V} {tk : Nat} {l : Lev} (e : LevEnts K H k us wk wy lo tk l) (s : LevSm l) {i : Nat} {x : Key} {v : V} (h : (levKv (leftV k) us wk wy lo (.int tk))[i]? = some (x, v)) : ∃ z, x = .inr z ∧ EntV K H z v := by
  obtain ⟨rfl, rfl, h1, h2, h3, h4⟩ := e
  match i, h with
  | 0, h => cases h; exact ⟨_, rfl, .inl ⟨rfl, _, rfl, s.ticks⟩⟩
  | 1, h => cases h; exact ⟨_, rfl, .inr (.inl ⟨rfl, _, _, s.used, h1⟩)⟩
  | 2, h => cases h; exact ⟨_, rfl, .inr (.inr (.inl ⟨.inl rfl, _, _, _, s.wake, h2⟩))⟩
  | 3, h => cases h; exact ⟨_, rfl, .inr (.inr (.inl ⟨.inr (.inl rfl), _, _, _, s.way, h3⟩))⟩
  | 4, h => cases h; exact ⟨_, rfl, .inr (.inr (.inl ⟨.inr (.inr rfl), _, _, _, s.lost, h4⟩))⟩
  | 5, h => cases h; exact ⟨_, rfl, .inr (.inr (.inr ⟨rfl, _, s.takes, rfl⟩))⟩
theorem k_Level___init__ (T : Tx K mg base) : ∃ fd, FunD K "__init__" "Level.__init__" (C8.fnArgs s_Level___init__) (C8.fnBody s_Level___init__) (C8.fnScope s_Level___init__) [.non] [("takes", .int 0)] (He.ma K (He.ga K "Level") "__init__") fd ∧ FnOk P w K mg base CX0 6 (He.ma K (He.ga K "Level") "__init__") fd ["self", "ticks", "used", "wake", "way", "lost", "takes"] (sp_Level___init__ K) := by
  obtain ⟨fd, F⟩ := F_Level___init__ T
  refine ⟨fd, F, F.ok sc_Level___init__ (fun vs H Q E h => ?_) fun cdv A outer s H vs Q E hr h => ?_⟩
  · obtain ⟨a, dx, k, us, wk, wy, lo, tk, l, rfl, _⟩ := h; rfl
  · obtain ⟨a, dx, k, us, wk, wy, lo, tk, l, rfl, ha, en, sm, q⟩ := h
    refine ⟨_, PSs.nox ((pss_cons (ps_fld (pv 0) (pe_disp (pps_cons (C8.pe_gc rfl (v_TICKS T)) (pv 1) (pps_cons (C8.pe_gc rfl (v_USED T)) (pv 2) (pps_cons (C8.pe_gc rfl (v_WAKE T)) (pv 3) (pps_cons (C8.pe_gc rfl (v_WAY T)) (pv 4) (pps_cons (C8.pe_gc rfl (v_LOST T)) (pv 5) (pps_cons (C8.pe_gc rfl (v_TAKES T)) (pv 6) pps_nil)))))) (by rfl) (by rfl) (fun z => by cases z) (by decide)) rfl)
      (pss_one (ps_if (pt_not (pt_val (pe_callB (cr_all rfl) rfl (f_all T) b_all (pa_cons (pe_lock (pe_lc (own := [("word", 7), ("value", 8)]) rfl sc_Level___init__.nd (pi_items (pe_fld (pv 0) rfl)) (blkOk_by (own := [("word", 7), ("value", 8)]) (N := N_Level___init__) (sc := C8.fnScope s_Level___init__) (by decide +kernel)) (fun _ _ _ _ _ => (pg_tupK (K := K) (n := 2) rfl rfl (pgs_cons (pg_name (i := 7) sc_Level___init__.nd rfl (Or.inl rfl)) (pgs_cons (pg_name (i := 8) sc_Level___init__.nd rfl (Or.inl rfl)) pgs_nil)))) (fun _ _ _ _ _ => pts_nil) (fun _ _ _ _ _ => (pe_f (k_is_entry T) hr (by decide) rfl (pa_cons (pv 7) (pa_cons (pv 8) pa_nil)))))) pa_nil) (by decide) (by decide)))) (pss_one ps_never) pss_nil)))), ?_⟩
    intro p hp
    refine ⟨_, rfl, _, rfl, _, rfl, _, rfl, _, rfl, _, rfl, upd_same, levKv (leftV k) us wk wy lo (.int tk), rfl, by show 6 ≤ 15; decide, ?_⟩
    have m0 : mergeK [] (levKv (leftV k) us wk wy lo (.int tk)) = levKv (leftV k) us wk wy lo (.int tk) := rfl
    rw [m0]
    have hap : a ≠ p := ne_of_none ha hp
    refine ⟨_, rfl, a, _, dx, [], rfl, ?_, c_Level T, n_Level_own_entries T, by decide, ?_⟩
    · rw [upd_ne hap, upd_ne hap]; exact ha
    have Hp0 : ∀ (o : HO), upd (upd (upd H p (.dK [])) p (.dK (levKv (leftV k) us wk wy lo (.int tk)))) a o p = some (.dK (levKv (leftV k) us wk wy lo (.int tk))) := fun o => by rw [upd_ne hap.symm]; exact upd_same
    have F0 := ((((Fr.refl [a] H).updNew (o := .dK []) hp).updNew (o := .dK (levKv (leftV k) us wk wy lo (.int tk))) hp).updIn (u := .ins (He.ga K "Level") dx (putF "own_entries" (.ref p) [])) ha trivial (List.mem_singleton.2 rfl))
    refine ⟨p, _, Hp0 _, trivial, fun od => ?_⟩
    have F1 := F0.updNew (o := .frz od (.dK (levKv (leftV k) us wk wy lo (.int tk)))) hp
    refine ⟨_, rfl, a, _, dx, [("own_entries", .ref p)], .ref p, rfl, ?_, c_Level T, n_Level_own_entries T, rfl, p, od, _, rfl, upd_same, fun D hD => ?_⟩
    · rw [upd_ne hap]; exact upd_same
    refine lc_all walk_items (fun _ y _ => y = .bl true) hD (by show 6 < sizeLine; decide) (fun _ _ _ _ => same_items) (fun H2 f2 _ => f2.frz _ _ _ upd_same) (fun _ _ _ _ _ _ h => h) ?_ ?_
    · rintro i x H2 H3 Q' hi S2 ⟨t, x1, x2, rfl, ht, rfl, e1, e2⟩ q'
      refine ⟨t, _, rfl, .inl (.inl upd_same), rfl, ?_⟩
      have e0 : ∃ z, (levKv (leftV k) us wk wy lo (.int tk))[i]? = some z := ⟨_, List.getElem?_eq_getElem hi⟩
      obtain ⟨⟨z1, z2⟩, e0⟩ := e0
      have F2 := (F1.step S2).step (same_new (o := .tup [x1, x2]) ht)
      obtain ⟨z, rfl, ez⟩ := ent_level (en.fr F2) sm e0
      simp only [e0, Option.map_some, Option.some.injEq] at e1 e2
      subst e1 e2
      refine ⟨_, _, rfl, _, _, rfl, rfl, rfl, ?_⟩
      exact ⟨_, rfl, _, rfl, z, z2, rfl, ez, fun H4 s4 => q' _ H4 s4 rfl⟩
    · intro H2 ys S2 h2 l2 r2
      have F2 := F1.step S2
      have hdp : D ≠ p := fun z => by rw [z, upd_same] at hD; cases hD
      refine ⟨S2 _ _ upd_same, D, List.replicate 6 true, rfl, all_ok (by rw [upd_ne hdp]; exact h2) l2 r2, _, rfl, ?_⟩
      refine q _ (F2.updNew hp) ?_
      have F3 := F2.updNew (o := .dK (levKv (leftV k) us wk wy lo (.int tk))) hp
      have e3 := en.fr F3
      obtain ⟨rfl, rfl, h1, h2, h3, h4⟩ := e3
      refine ⟨dx, p, us, wk, wy, lo, ?_, upd_same, h1, h2, h3, h4⟩
      rw [upd_ne hap]
      exact S2 _ _ (by rw [upd_ne hap]; exact upd_same)
def sp_Level___getitem__ (K : PySem.W.Frag) : Sp := fun vs H Q _ => ∃ (a dx d : Addr) (x : Str) (kvs : List (Key × V)) (v : V), vs = [.ref a, .str x] ∧ H a = some (.ins (He.ga K "Level") dx [("own_entries", .ref d)]) ∧ H d = some (.dK kvs) ∧
  x ∈ (["ticks", "used", "wake", "way", "lost", "takes"] : List Str) ∧ valV kvs (.inr x) = some v ∧ Q v H
theorem k_Level___getitem__ (T : Tx K mg base) : Spc P w K mg base 2 (He.ga K "Level") "__getitem__" (sp_Level___getitem__ K) := by
  refine spc_ok (D_Level___getitem__ T) (x_Level___getitem__ T) sc_Level___getitem__ (fun vs H Q E h => ?_) (fun cdv A outer s H vs Q hr h => ?_)
  · obtain ⟨a, dx, d, x, kvs, v, rfl, _⟩ := h; rfl
  · obtain ⟨a, dx, d, x, kvs, v, rfl, ha, hd, hx, hv, q⟩ := h
    refine ⟨_, (pss_cons (ps_if (pt_not (pt_val (pe_f (k_is_level_word T) hr (by decide) rfl (pa_cons (pv 1) pa_nil)))) (pss_one ps_never) pss_nil)
      (pss_one (ps_ret (pe_dget (hu_of hr) (pe_fld (pv 0) rfl) (pv 1) (fun _ _ => rfl))))), ?_⟩
    refine ⟨_, rfl, x, rfl, hx, _, rfl, andF rfl ?_⟩
    exact ⟨_, rfl, a, _, dx, [("own_entries", .ref d)], .ref d, rfl, ha, c_Level T, n_Level_own_entries T, rfl, _, rfl, d, v, rfl, .inl ⟨kvs, .inr x, .inl hd, rfl, hv.symm⟩, q⟩
def sp_is_level_for (K : PySem.W.Frag) : Sp := fun vs H Q _ => ∃ (a : Addr) (l : Lev) (i n : Nat), vs = [.ref a, .int i, .int n] ∧ LevAt K H a l ∧ LevOk n i l ∧ ∀ H', Same H H' → Q (.bl true) H'
theorem lev_word {H : Hp} {l : Lev} {i n : Nat} {us wk wy lo : V} (ok : LevOk n i l) (h1 : Td K H us l.used.d2) (h2 : Td K H wk l.wake.d) (h3 : Td K H wy l.way.d) (h4 : Td K H lo l.lost.d) {j : Nat} {y : V}
    (h : ([.str "used", .str "wake", .str "way", .str "lost"] : List V)[j]? = some y) : ∃ (x : Str) (b : Addr) (xs : List V) (e : Nat), y = .str x ∧ x ∈ (["ticks", "used", "wake", "way", "lost", "takes"] : List Str) ∧ valV (levKv (leftV l.ticks) us wk wy lo (.int l.takes)) (.inr x) = some (.ref b) ∧ SqT K H b xs ∧ xs[0]? = some (.int e) ∧ e < n := by
  obtain ⟨a1, x1, y1, rfl, s1, t1, _⟩ := h1.two
  obtain ⟨a2, x2, y2, z2, rfl, s2, t2, _⟩ := h2.three
  obtain ⟨a3, x3, y3, z3, rfl, s3, t3, _⟩ := h3.three
  obtain ⟨a4, x4, y4, z4, rfl, s4, t4, _⟩ := h4.three
  have e1 := t1.int'
  have e2 := t2.int'
  have e3 := t3.int'
  have e4 := t4.int'
  subst e1 e2 e3 e4
  match j, h with
  | 0, h => cases h; exact ⟨_, a1, _, _, rfl, by decide +kernel, rfl, s1, rfl, ok.used⟩
  | 1, h => cases h; exact ⟨_, a2, _, _, rfl, by decide +kernel, rfl, s2, rfl, ok.wake⟩
  | 2, h => cases h; exact ⟨_, a3, _, _, rfl, by decide +kernel, rfl, s3, rfl, ok.way⟩
  | 3, h => cases h; exact ⟨_, a4, _, _, rfl, by decide +kernel, rfl, s4, rfl, ok.lost⟩
theorem k_is_level_for (T : Tx K mg base) : Fnc P w K mg base 5 "is_level_for" (sp_is_level_for K) := by
  refine fnc_ok (D_is_level_for T) (g_is_level_for T) sc_is_level_for (fun vs H Q E h => ?_) (fun cdv A outer s H vs Q hr h => ?_)
  · obtain ⟨a, l, i, n, rfl, _⟩ := h; rfl
  · obtain ⟨a, l, i, n, rfl, ha, ok, q⟩ := h
    refine ⟨_, (pss_cons (ps_if (pt_not (pt_val (pe_callB (C8.call_isC (i_Level T)) rfl (f_isinstance T) b_isinstance (pa_cons (pv 0) (pa_cons (C8.pe_gc (v := .ref (He.ga K "Level")) rfl ⟨_, g_Level T, rfl⟩) pa_nil)) (by decide) (by decide)))) (pss_one (ps_ret pe_bl)) pss_nil)
      (pss_cons (ps_if (pt_not (pt_val (pe_callB (cr_all rfl) rfl (f_all T) b_all (pa_cons (pe_lc (own := [("word", 3)]) rfl sc_is_level_for.nd (pi_tup (pe_tup (pa_cons (C8.pe_gc rfl (v_USED T)) (StX.pa_star (C8.pe_gc rfl (v_MOVING T)) pa_nil)))) (blkOk_by (own := [("word", 3)]) (N := N_is_level_for) (sc := C8.fnScope s_is_level_for) (by decide +kernel)) (fun _ _ _ _ _ => (pg_name (i := 3) sc_is_level_for.nd rfl (Or.inl rfl))) (fun _ _ _ _ _ => pts_nil) (fun _ _ _ _ _ => (pe_cmpR op_lt (pe_ix (ix_tupK (K := K) rfl) (pe_ixO (k_Level___getitem__ T) hr (by decide) (pv 0) (pv 3)) pe_int (fun _ _ => rfl)) (pv 2) (nomark _)))) pa_nil) (by decide) (by decide)))) (pss_one (ps_ret pe_bl)) pss_nil)
      (pss_one (ps_ret (pe_and (pe_cmpR op_ge (pe_ix ix_tup (pe_ixO (k_Level___getitem__ T) hr (by decide) (pv 0) (C8.pe_gc rfl (v_LOST T))) pe_int (fun _ _ => rfl)) (pv 1) (nomark _)) (pe_one (pe_cmpR op_le (pe_ixO (k_Level___getitem__ T) hr (by decide) (pv 0) (C8.pe_gc rfl (v_TAKES T))) (pv 1) (nomark _)))))))), ?_⟩
    obtain ⟨dx, d, us, wk, wy, lo, ha, hd, h1, h2, h3, h4⟩ := ha.ex
    refine ⟨_, rfl, a, dx, _, rfl, ha, _, rfl, andF rfl ?_⟩
    refine ⟨_, _, rfl, .inl (t_MOVING T _), by show 4 ≤ sizeLine; decide, fun t ht => ?_⟩
    refine ⟨t, rfl, ⟨_, .inl (.inl upd_same)⟩, fun D hD => ?_⟩
    have S0 := same_new (o := .tup [.str "used", .str "wake", .str "way", .str "lost"]) ht
    refine lc_all (walk_tup (xs := [.str "used", .str "wake", .str "way", .str "lost"])) (fun _ y _ => y = .bl true) hD (by show 4 < sizeLine; decide) (fun _ _ _ _ => same_at) (fun H2 f2 _ => .inl (.inl (f2.tup _ _ upd_same))) (fun _ _ _ _ _ _ h => h) ?_ ?_
    · rintro j x H2 H3 Q' hi S2 ⟨rfl, hx⟩ q'
      have S := S0.trans S2
      obtain ⟨z, b, xs, e, rfl, hz, hv, hs, hx0, hlt⟩ := lev_word ok (h1.same S) (h2.same S) (h3.same S) (h4.same S) hx
      refine ⟨rfl, _, rfl, _, rfl, a, dx, _, rfl, S _ _ ha, a, dx, d, z, _, _, rfl, S _ _ ha, S _ _ hd, hz, hv, ?_⟩
      refine ⟨b, xs, _, _, rfl, rfl, hs, atI_nat (j := 0) hx0, _, rfl, _, _, rfl, rfl, ?_⟩
      exact q' _ _ (Same.refl _) (congrArg V.bl (decide_eq_true (by omega)))
    · intro H2 ys S2 hD2 l2 r2
      have S := S0.trans S2
      refine ⟨D, List.replicate 4 true, rfl, all_ok hD2 l2 r2, _, rfl, ?_⟩
      obtain ⟨b, x4, y4, z4, rfl, s4, t4, _⟩ := (h4.same S).three
      have e4 := t4.int'
      subst e4
      refine ⟨_, rfl, a, dx, _, rfl, S _ _ ha, a, dx, d, "lost", _, _, rfl, S _ _ ha, S _ _ hd, by decide +kernel, rfl, ?_⟩
      refine ⟨b, _, _, _, rfl, rfl, s4, atI_nat (j := 0) rfl, _, rfl, _, _, rfl, rfl, _, rfl, andT (decide_eq_true (by have := ok.lost2; omega)) ?_⟩
      refine ⟨_, rfl, a, dx, _, rfl, S _ _ ha, a, dx, d, "takes", _, _, rfl, S _ _ ha, S _ _ hd, by decide +kernel, rfl, ?_⟩
      refine ⟨_, rfl, _, _, rfl, rfl, ?_⟩
      exact qT (decide_eq_true (by have := ok.takes; omega)) (q _ S)
end
end Tb
set_option Elab.async false
set_option linter.all false
set_option maxRecDepth 100000
set_option maxHeartbeats 4000000
/-! Books, second part. -/
namespace Tb
open PySem PySem.Spec PyProof.Rows L2
section
variable {P : Program} {w : World} {K : PySem.W.Frag} {mg : Str → Option Value} {base : Heap}
theorem LevAt.fr1 {H H' : Hp} {a b C dx : Addr} {l : Lev} (h : LevAt K H b l) (ha : H a = some (.ins C dx [])) (f : Fr [a] H H') : LevAt K H' b l := by
  obtain ⟨dx, d, us, wk, wy, lo, h1, h2, h3, h4, h5, h6⟩ := h.ex
  refine ⟨dx, d, us, wk, wy, lo, f.keep _ _ h1 fun z => ?_, f.keep _ _ h2 fun z => ?_, h3.fr f, h4.fr f, h5.fr f, h6.fr f⟩
  · rw [List.mem_singleton.1 z, ha] at h1; cases h1
  · rw [List.mem_singleton.1 z, ha] at h2; cases h2
def ranksV (b : Bk) : List V := b.ranks.map fun (r : Nat) => V.int (r : Int)
def sp_Book___init__ (K : PySem.W.Frag) : Sp := fun vs H Q _ => ∃ (a dx p rt : Addr) (as : List Addr) (b : Bk), vs = [.ref a, .ref rt, .ref p] ∧ H a = some (.ins (He.ga K "Book") dx []) ∧ SqT K H p (as.map V.ref) ∧ Paired (LevAt K H) as b.levels ∧ SqT K H rt (ranksV b) ∧ BkOk b ∧
  ∀ H', Fr [a] H H' → BkAt K H' a b → Q .non H'
theorem k_Book___init__ (T : Tx K mg base) : FnKw P w K mg base 6 (He.ma K (He.ga K "Book") "__init__") ["ranks"] (fun vs zs H Q => ∃ v rest z, vs = v :: rest ∧ zs = [z] ∧ rest.length ≤ sizeLine ∧ ∀ (p : Addr), H p = none → sp_Book___init__ K [v, z, V.ref p] (upd H p (HO.tup rest)) Q E0) := by
  obtain ⟨fd, F⟩ := F_Book___init__ T
  refine fnKw_star F sc_Book___init__ (fun _ _ _ _ _ _ _ rest _ => by cases rest <;> rfl) (fun cdv A outer s H vs Q hr h => ?_)
  obtain ⟨a, dx, p, rt, as, b, rfl, ha, hp, hl, hr2, ok, q⟩ := h
  refine ⟨_, PSs.nox ((pss_cons (ps_set (i := 3) sc_Book___init__.nd rfl (Or.inr rfl) (pe_callB call_len_seq rfl (f_len T) b_len (pa_cons (pv 2) pa_nil) (by decide) (by decide)))
      (pss_cons (ps_if (PW.pt (pw_or (pt_not (pt_chain op_le op_le pe_int (pv 3) (C8.pe_gc rfl (v_MAX_LEVELS T)))) (pw_or1 (pt_not (pt_val (pe_callB (cr_all rfl) rfl (f_all T) b_all (pa_cons (pe_lc (own := [("at", 4), ("one", 5)]) rfl sc_Book___init__.nd (pi_enumT (by rfl) (f_enumerate T) (pa_cons (pv 2) pa_nil)) (blkOk_by (own := [("at", 4), ("one", 5)]) (N := N_Book___init__) (sc := C8.fnScope s_Book___init__) (by decide +kernel)) (fun _ _ _ _ _ => (pg_tupK (K := K) (n := 2) rfl rfl (pgs_cons (pg_name (i := 4) sc_Book___init__.nd rfl (Or.inl rfl)) (pgs_cons (pg_name (i := 5) sc_Book___init__.nd rfl (Or.inl rfl)) pgs_nil)))) (fun _ _ _ _ _ => pts_nil) (fun _ _ _ _ _ => (pe_f (k_is_level_for T) hr (by decide) rfl (pa_cons (pv 5) (pa_cons (pv 4) (pa_cons (pv 3) pa_nil)))))) pa_nil) (by decide) (by decide))))))) (pss_one ps_never) pss_nil)
      (pss_cons (ps_if (PW.pt (pw_or (pt_not (pt_val (pe_isi T rfl (pv 1) rfl (f_tuple T) b_tuple))) (pw_or1 (pt_not (pt_chain op_le op_le pe_int (pe_callB call_len_seq rfl (f_len T) b_len (pa_cons (pv 1) pa_nil) (by decide) (by decide)) (C8.pe_gc rfl (v_MAX_RANKS T))))))) (pss_one ps_never) pss_nil)
      (pss_cons (ps_if (pt_not (pt_val (pe_callB (cr_all rfl) rfl (f_all T) b_all (pa_cons (pe_lc (own := [("level", 6)]) rfl sc_Book___init__.nd (pi_tup (pv 1)) (blkOk_by (own := [("level", 6)]) (N := N_Book___init__) (sc := C8.fnScope s_Book___init__) (by decide +kernel)) (fun _ _ _ _ _ => (pg_name (i := 6) sc_Book___init__.nd rfl (Or.inl rfl))) (fun _ _ _ _ _ => pts_nil) (fun _ _ _ _ _ => (pe_f (k_is_below T) hr (by decide) rfl (pa_cons (pv 6) (pa_cons (pv 3) pa_nil))))) pa_nil) (by decide) (by decide)))) (pss_one ps_never) pss_nil)
      (pss_cons (ps_fld (pv 0) (pe_callTy call_tuple_of rfl (f_tuple T) b_tuple (pa_cons (pe_callTy call_list_of rfl (f_list T) b_list (pa_cons (pv 2) pa_nil)) pa_nil)) rfl)
      (pss_one (ps_fld (pv 0) (pv 1) rfl)))))))), ?_⟩
  have lenA : as.length = b.levels.length := Paired.len hl
  have lenV : (as.map V.ref).length = b.levels.length := by rw [List.length_map, lenA]
  have e1 : (((as.map V.ref).length : Nat) : Int) = (b.levels.length : Nat) := by rw [lenV]
  refine ⟨_, rfl, p, as.map V.ref, rfl, .inr hp, ?_⟩
  rw [e1]
  have pos := ok.pos
  have three := ok.three
  have rpos := ok.rpos
  have rthree := ok.rthree
  refine ⟨_, rfl, _, _, rfl, rfl, _, rfl, andT (decide_eq_true (by omega)) ⟨_, _, rfl, rfl, _, rfl, ?_⟩⟩
  rw [show decide ((b.levels.length : Int) ≤ 3) = true from decide_eq_true (by omega)]
  refine andF rfl ⟨_, rfl, p, _, rfl, hp, fun D hD => ?_⟩
  refine lc_all walk_enumT (fun _ y _ => y = .bl true) hD (by rw [lenV]; exact Nat.lt_of_le_of_lt three (by decide)) (fun _ _ _ _ => same_items) (fun H2 f2 _ => f2.sqT hp) (fun _ _ _ _ _ _ h => h) ?_ ?_
  · rintro j x H2 H3 Q' hi S2 ⟨t, x1, x2, rfl, ht, rfl, e1, e2⟩ q'
    rw [lenV] at hi
    obtain ⟨l, hlv⟩ : ∃ l, b.levels[j]? = some l := ⟨_, List.getElem?_eq_getElem hi⟩
    obtain ⟨c, hc, hlc⟩ := Paired.get hl hlv
    have e2' : (as.map V.ref)[j]? = some x2 := e2
    rw [List.getElem?_map, hc] at e2'
    cases e2'
    cases e1
    have S := S2.trans (same_new (o := .tup [.int (j : Nat), .ref c]) ht)
    refine ⟨t, _, rfl, .inl (.inl upd_same), rfl, ?_⟩
    refine ⟨_, _, rfl, _, _, rfl, rfl, rfl, ?_⟩
    exact ⟨_, rfl, _, rfl, _, rfl, c, l, j, b.levels.length, rfl, hlc.same S, ok.lev j l hlv, fun H4 s4 => q' _ H4 s4 rfl⟩
  · intro H2 ys S2 hD2 l2 r2
    refine ⟨D, List.replicate _ true, rfl, all_ok hD2 l2 r2, _, rfl, ?_⟩
    rw [all_rep]
    refine ⟨_, rfl, _, _, true, rfl, tyT ((Fr.of [] S2).sqT hr2), by decide +kernel, _, rfl, andF rfl ?_⟩
    have hr3 : SqT K H2 rt (ranksV b) := (Fr.of [] S2).sqT hr2
    have lenR : (ranksV b).length = b.ranks.length := by unfold ranksV; rw [List.length_map]
    refine ⟨_, rfl, rt, _, rfl, .inr hr3, ?_⟩
    rw [show (((ranksV b).length : Nat) : Int) = (b.ranks.length : Nat) by rw [lenR]]
    refine ⟨_, _, rfl, rfl, _, rfl, andT (decide_eq_true (by omega)) ⟨_, _, rfl, rfl, _, rfl, ?_⟩⟩
    rw [show decide ((b.ranks.length : Int) ≤ 3) = true from decide_eq_true (by omega)]
    refine ⟨_, rfl, rt, rfl, ⟨_, hr3⟩, fun D2 hD2' => ?_⟩
    refine lc_all (walk_tup (xs := ranksV b)) (fun _ y _ => y = .bl true) hD2' (by rw [lenR]; exact Nat.lt_of_le_of_lt rthree (by decide)) (fun _ _ _ _ => same_at) (fun H4 f4 _ => f4.sqT hr3) (fun _ _ _ _ _ _ h => h) ?_ ?_
    · rintro j x H4 H5 Q' hi S4 ⟨rfl, hx⟩ q'
      unfold ranksV at hx
      rw [List.getElem?_map] at hx
      cases hj : b.ranks[j]? with
      | none => rw [hj] at hx; cases hx
      | some r =>
        rw [hj] at hx
        cases hx
        have hlt := ok.ranks r (List.mem_of_getElem? hj)
        exact ⟨rfl, _, rfl, _, rfl, r, b.levels.length, rfl, by omega, by omega, by omega, q' _ _ (Same.refl _) rfl⟩
    · intro H4 zs S4 hD4 l4 r4
      refine ⟨D2, List.replicate _ true, rfl, all_ok hD4 l4 r4, _, rfl, ?_⟩
      rw [all_rep]
      have S := S2.trans S4
      refine ⟨_, rfl, p, _, rfl, .inr ((Fr.of [] S).sqT hp), fun l hl2 => ?_⟩
      refine ⟨l, _, rfl, .inl ⟨.inl (.inl upd_same), fun u hu => ?_⟩⟩
      have S5 := (S.trans (same_new (o := .lst (as.map V.ref)) hl2)).trans (same_new (o := .tup (as.map V.ref)) hu)
      refine ⟨_, rfl, a, _, dx, [], rfl, S5 _ _ ha, c_Book T, n_Book_own_levels T, by decide, ?_⟩
      refine ⟨_, rfl, _, rfl, a, _, dx, _, rfl, upd_same, c_Book T, n_Book_own_ranks T, by show 1 < 1000; decide, ?_⟩
      have F5 := (((Fr.of [a] S5).updIn (u := .ins (He.ga K "Book") dx (putF "own_levels" (.ref u) [])) ha trivial (List.mem_singleton.2 rfl)).updIn (u := .ins (He.ga K "Book") dx (putF "own_ranks" (.ref rt) (putF "own_levels" (.ref u) []))) ha trivial (List.mem_singleton.2 rfl))
      refine q _ F5 ⟨dx, u, rt, as, upd_same, ?_, Paired.imp (fun _ _ h => h.fr1 ha F5) hl, F5.sqT hr2⟩
      refine .inl (.inl ?_)
      have hua : u ≠ a := fun z => by
        have h1 := (S.trans (same_new (o := .lst (as.map V.ref)) hl2)) _ _ ha
        rw [← z, hu] at h1
        cases h1
      rw [upd_ne hua, upd_ne hua]
      exact upd_same
end
end Tb
set_option Elab.async false
set_option linter.all false
set_option maxRecDepth 100000
set_option maxHeartbeats 4000000
/-! States. -/
namespace Tb
open PySem PySem.Spec PyProof.Rows L2
section
variable {P : Program} {w : World} {K : PySem.W.Frag} {mg : Str → Option Value} {base : Heap}
theorem BkAt.lev {H : Hp} {a : Addr} {b : Bk} (h : BkAt K H a b) {l : Nat} (hl : l < b.levels.length) :
    ∃ (dx lt rt : Addr) (as : List Addr) (c : Addr), H a = some (.ins (He.ga K "Book") dx [("own_levels", .ref lt), ("own_ranks", .ref rt)]) ∧ SqT K H lt (as.map V.ref) ∧ (as.map V.ref)[l]? = some (.ref c) ∧ LevAt K H c (b.lev l) := by
  obtain ⟨dx, lt, rt, as, h1, h2, h3, h4⟩ := h.ex
  obtain ⟨c, hc, hv⟩ := Paired.get h3 (i := l) (y := b.lev l) (by unfold Bk.lev; rw [List.getD_eq_getElem?_getD, List.getElem?_eq_getElem hl]; rfl)
  exact ⟨dx, lt, rt, as, c, h1, h2, by rw [List.getElem?_map, hc]; rfl, hv⟩
def sp_require_book (K : PySem.W.Frag) : Sp := fun vs H Q _ => ∃ (a : Addr) (b : Bk), vs = [.ref a] ∧ BkAt K H a b ∧ Q .non H
theorem k_require_book (T : Tx K mg base) : Fnc P w K mg base 1 "require_book" (sp_require_book K) := by
  refine fnc_ok (D_require_book T) (g_require_book T) sc_require_book (fun vs H Q E h => ?_) (fun cdv A outer s H vs Q hr h => ?_)
  · obtain ⟨a, b, rfl, _⟩ := h; rfl
  · obtain ⟨a, b, rfl, ha, q⟩ := h
    obtain ⟨dx, lt, rt, as, h1, h2, h3, h4⟩ := ha.ex
    refine ⟨_, (pss_one (ps_if (pt_not (pt_val (pe_callB (C8.call_isC (i_Book T)) rfl (f_isinstance T) b_isinstance (pa_cons (pv 0) (pa_cons (C8.pe_gc (v := .ref (He.ga K "Book")) rfl ⟨_, g_Book T, rfl⟩) pa_nil)) (by decide) (by decide)))) (pss_one ps_never) pss_nil)), ?_⟩
    exact ⟨_, rfl, a, dx, _, rfl, h1, _, rfl, andF rfl q⟩
def sp_slice_of (K : PySem.W.Frag) : Sp := fun vs H Q _ => ∃ (a : Addr) (b : Bk) (l : Nat), vs = [.ref a, .int l] ∧ BkAt K H a b ∧ l < b.levels.length ∧ Q (leftV (b.lev l).ticks) H
theorem k_slice_of (T : Tx K mg base) : Fnc P w K mg base 1 "slice_of" (sp_slice_of K) := by
  refine fnc_ok (D_slice_of T) (g_slice_of T) sc_slice_of (fun vs H Q E h => ?_) (fun cdv A outer s H vs Q hr h => ?_)
  · obtain ⟨a, b, l, rfl, _⟩ := h; rfl
  · obtain ⟨a, b, l, rfl, ha, hl, q⟩ := h
    obtain ⟨dx, lt, rt, as, c, h1, h2, h3, h4⟩ := ha.lev hl
    obtain ⟨dy, d, us, wk, wy, lo, g1, g2, _⟩ := h4.ex
    refine ⟨_, (pss_one (ps_ret (pe_dget (hu_of hr) (pe_fld (pe_ix ix_tup (pe_fld (pv 0) rfl) (pv 1) (fun _ _ => rfl)) rfl) (C8.pe_gc rfl (v_TICKS T)) (fun _ _ => rfl)))), ?_⟩
    exact ⟨_, rfl, a, _, dx, _, .ref lt, rfl, h1, c_Book T, n_Book_own_levels T, rfl, _, rfl, lt, _, _, _, rfl, rfl, h2, atI_nat h3, c, _, dy, _, .ref d, rfl, g1, c_Level T, n_Level_own_entries T, rfl, d, _, rfl, .inl ⟨_, .inr "ticks", .inl g2, rfl, rfl⟩, q⟩
def sp_fresh_at (K : PySem.W.Frag) : Sp := fun vs H Q _ => ∃ (a : Addr) (b : Bk) (l : Nat), vs = [.ref a, .int l] ∧ BkAt K H a b ∧ l < b.levels.length ∧ ∀ H' t, Same H H' → SqT K H' t [.int l, leftV (b.lev l).ticks] → Q (.ref t) H'
theorem k_fresh_at (T : Tx K mg base) : Fnc P w K mg base 2 "fresh_at" (sp_fresh_at K) := by
  refine fnc_ok (D_fresh_at T) (g_fresh_at T) sc_fresh_at (fun vs H Q E h => ?_) (fun cdv A outer s H vs Q hr h => ?_)
  · obtain ⟨a, b, l, rfl, _⟩ := h; rfl
  · obtain ⟨a, b, l, rfl, ha, hl, q⟩ := h
    refine ⟨_, (pss_one (ps_ret (pe_tup (pa_cons (pv 1) (pa_cons (pe_f (k_slice_of T) hr (by decide) rfl (pa_cons (pv 0) (pa_cons (pv 1) pa_nil))) pa_nil))))), ?_⟩
    exact ⟨_, rfl, _, rfl, _, rfl, a, b, l, rfl, ha, hl, by show 2 ≤ sizeLine; decide, fun t ht => q _ t (same_new ht) (.inl (.inl upd_same))⟩
def sp_worked_in (K : PySem.W.Frag) : Sp := fun vs H Q _ => ∃ (a : Addr) (l : Nat) (k : Option Nat), vs = [.ref a] ∧ SqT K H a [.int l, leftV k] ∧ (∀ n, k = some n → 1 ≤ n) ∧ ∀ H' t, Same H H' → SqT K H' t [.int l, leftV (k.map (· - 1))] → Q (.ref t) H'
theorem k_worked_in (T : Tx K mg base) : Fnc P w K mg base 1 "worked_in" (sp_worked_in K) := by
  refine fnc_ok (D_worked_in T) (g_worked_in T) sc_worked_in (fun vs H Q E h => ?_) (fun cdv A outer s H vs Q hr h => ?_)
  · obtain ⟨a, l, k, rfl, _⟩ := h; rfl
  · obtain ⟨a, l, k, rfl, ha, hk, q⟩ := h
    refine ⟨_, (pss_one (ps_ret (pe_tup (pa_cons (pe_ix ix_tup (pv 0) pe_int (fun _ _ => rfl)) (pa_cons (pe_ifExp (pt_cmpR op_isN (pe_ix ix_tup (pv 0) pe_int (fun _ _ => rfl)) pe_non (nomark _)) pe_non (pe_op op_sub (pe_ix ix_tup (pv 0) pe_int (fun _ _ => rfl)) pe_int)) pa_nil))))), ?_⟩
    refine ⟨_, rfl, a, _, _, _, rfl, rfl, ha, atI_nat (j := 0) rfl, _, rfl, a, _, _, _, rfl, rfl, ha, atI_nat (j := 1) rfl, rfl, ?_⟩
    cases k with
    | none =>
      exact ⟨_, rfl, andT rfl ⟨by show 2 ≤ sizeLine; decide, fun t ht => q _ t (same_new ht) (.inl (.inl upd_same))⟩⟩
    | some n =>
      refine ⟨_, rfl, andF rfl ⟨_, rfl, a, _, _, _, rfl, rfl, ha, atI_nat (j := 1) rfl, _, _, rfl, rfl, by show 2 ≤ sizeLine; decide, fun t ht => q _ t (same_new ht) (.inl (.inl ?_))⟩⟩
      have e : ((n : Int) - 1) = ((n - 1 : Nat) : Int) := by have := hk n rfl; omega
      show upd H t (.tup [.int l, .int ((n : Int) - 1)]) t = _
      rw [e]
      exact upd_same
def entW (l : Lev) (x : Str) : Option Ent :=
  if x = "used" then some { l.used with new := true } else if x = "wake" then some l.wake else if x = "way" then some l.way else if x = "lost" then some l.lost else none
theorem entW_cases {l : Lev} {x : Str} {e : Ent} (h : entW l x = some e) : (x = "used" ∧ e = { l.used with new := true }) ∨ ((x = "wake" ∧ e = l.wake) ∨ (x = "way" ∧ e = l.way) ∨ (x = "lost" ∧ e = l.lost)) := by
  unfold entW at h
  split at h
  · rename_i hx
    cases h
    exact .inl ⟨hx, rfl⟩
  · split at h
    · rename_i hx
      cases h
      exact .inr (.inl ⟨hx, rfl⟩)
    · split at h
      · rename_i hx
        cases h
        exact .inr (.inr (.inl ⟨hx, rfl⟩))
      · split at h
        · rename_i hx
          cases h
          exact .inr (.inr (.inr ⟨hx, rfl⟩))
        · cases h
theorem BkOk.entW {b : Bk} (ok : BkOk b) {l : Nat} (hl : l < b.levels.length) {x : Str} {e : Ent} (h : Tb.entW (b.lev l) x = some e) : e.lv < b.levels.length := by
  have o := ok.at hl
  rcases entW_cases h with ⟨_, rfl⟩ | ⟨_, rfl⟩ | ⟨_, rfl⟩ | ⟨_, rfl⟩
  · exact o.used
  · exact o.wake
  · exact o.way
  · exact o.lost
/-- an own state and a place -/
def MovT (K : PySem.W.Frag) (H : Hp) (t : Addr) (s : Nat × Option Nat) (front : Bool) : Prop := ∃ u, SqT K H u [.int s.1, leftV s.2] ∧ SqT K H t [.ref u, .str (plV front)]
def sp_moved_in (K : PySem.W.Frag) : Sp := fun vs H Q _ => ∃ (a st : Addr) (b : Bk) (l : Nat) (x : Str) (left : Option Nat) (e : Ent), vs = [.ref a, .str x, .ref st] ∧ BkAt K H a b ∧ BkOk b ∧ l < b.levels.length ∧ entW (b.lev l) x = some e ∧ SqT K H st [.int l, leftV left] ∧
  ∀ H' t, Same H H' → MovT K H' t (moved b e left) e.front → Q (.ref t) H'
theorem rd_entry {D : Ends} {H : Hp} {va vst v : V} {x : Str} {e : Ent} (key : (x = "used" ∧ Td K H v (.tuple [.int e.lv, .str (plV e.front)]) ∧ e.new = true) ∨ (x ≠ "used" ∧ Td K H v e.d))
    (h : ∀ H1, Same H H1 → D.nx [some va, some (.str x), some vst, some v, some (.int e.lv), some (.str (plV e.front)), some (.str (rsV e.new)), none] H1) :
    tAsg (tIf (tTest (tOp rEq (tVar 1) (tC (V.str "used")))) (tTup (StX.tStar K (tVar 3) (tCons (tC (V.str "new")) tNil))) (tVar 3)) (gTup K 3 (gCons (gName 4) (gCons (gName 5) (gCons (gName 6) gNil)))) D
      [some va, some (.str x), some vst, some v, none, none, none, none] H := by
  rcases key with ⟨rfl, hv, hn⟩ | ⟨hx, hv⟩
  · obtain ⟨a, y, z, rfl, ht, h1, h2⟩ := hv.two
    have e1 := h1.int'
    have e2 := h2.str'
    subst e1 e2
    refine ⟨_, rfl, rfl, true, rfl, andT rfl ⟨_, rfl, a, _, rfl, .inl ht, by show 3 ≤ sizeLine; decide, fun t hT => ?_⟩⟩
    refine ⟨t, _, rfl, .inl (.inl upd_same), rfl, _, _, rfl, _, _, rfl, _, _, rfl, rfl, ?_⟩
    have := h _ (same_new (o := .tup [.int e.lv, .str (plV e.front), .str "new"]) hT)
    rw [hn] at this
    exact this
  · obtain ⟨a, y, z, u, rfl, ht, h1, h2, h3⟩ := hv.three
    have e1 := h1.int'
    have e2 := h2.str'
    have e3 := h3.str'
    subst e1 e2 e3
    refine ⟨_, rfl, rfl, false, congrArg V.bl (decide_eq_false (fun z => hx (V.str.inj z))), andF rfl ⟨_, rfl, ?_⟩⟩
    exact ⟨a, _, rfl, ht, rfl, _, _, rfl, _, _, rfl, _, _, rfl, rfl, h H (Same.refl _)⟩
theorem k_moved_in (T : Tx K mg base) : Fnc P w K mg base 2 "moved_in" (sp_moved_in K) := by
  refine fnc_ok (D_moved_in T) (g_moved_in T) sc_moved_in (fun vs H Q E h => ?_) (fun cdv A outer s H vs Q hr h => ?_)
  · obtain ⟨a, st, b, l, x, left, e, rfl, _⟩ := h; rfl
  · obtain ⟨a, st, b, l, x, left, e, rfl, ha, ok, hl, he, hs, q⟩ := h
    obtain ⟨dx, lt, rt, as, c, h1, h2, h3, h4⟩ := ha.lev hl
    obtain ⟨dy, d, us, wk, wy, lo, g1, g2, t1, t2, t3, t4⟩ := h4.ex
    have elv := ok.entW hl he
    refine ⟨_, (pss_cons (ps_set (i := 3) sc_moved_in.nd rfl (Or.inl rfl) (pe_dget (hu_of hr) (pe_fld (pe_ix ix_tup (pe_fld (pv 0) rfl) (pe_ix ix_tup (pv 2) pe_int (fun _ _ => rfl)) (fun _ _ => rfl)) rfl) (pv 1) (fun _ _ => rfl)))
      (pss_cons (ps_asg (pe_ifExp (pt_cmpR op_eq (pv 1) (C8.pe_gc rfl (v_USED T)) (nomark _)) (pe_tup (StX.pa_star (pv 3) (pa_cons (C8.pe_gc rfl (v_NEW T)) pa_nil))) (pv 3)) (pg_tup (by rfl) (pgs_cons (pg_name (i := 4) sc_moved_in.nd rfl (Or.inl rfl)) (pgs_cons (pg_name (i := 5) sc_moved_in.nd rfl (Or.inl rfl)) (pgs_cons (pg_name (i := 6) sc_moved_in.nd rfl (Or.inl rfl)) pgs_nil)))))
      (pss_cons (ps_set (i := 7) sc_moved_in.nd rfl (Or.inl rfl) (pe_f (k_slice_of T) hr (by decide) rfl (pa_cons (pv 0) (pa_cons (pv 4) pa_nil))))
      (pss_cons (ps_if (PW.pt (pw_or (pt_cmpR op_eq (pv 6) (C8.pe_gc rfl (v_NEW T)) (nomark _)) (pw_or (pt_cmpR op_isN (pe_ix ix_tup (pv 2) pe_int (fun _ _ => rfl)) pe_non (nomark _)) (pw_or (pt_cmpR op_eq (pe_ix ix_tup (pv 2) pe_int (fun _ _ => rfl)) pe_int (nomark _)) (pw_or1 (pt_cmpR op_isN (pv 7) pe_non (nomark _))))))) (pss_one (ps_ret (pe_tup (pa_cons (pe_tup (pa_cons (pv 4) (pa_cons (pv 7) pa_nil))) (pa_cons (pv 5) pa_nil))))) pss_nil)
      (pss_one (ps_ret (pe_tup (pa_cons (pe_tup (pa_cons (pv 4) (pa_cons (pe_callB (call_min2 rfl) rfl (f_min T) b_min (pa_cons (pv 7) (pa_cons (pe_ix ix_tup (pv 2) pe_int (fun _ _ => rfl)) pa_nil)) (by decide) (by decide)) pa_nil))) (pa_cons (pv 5) pa_nil))))))))), ?_⟩
    -- the entry
    have key : ∃ v, valV (levKv (leftV (b.lev l).ticks) us wk wy lo (.int (b.lev l).takes)) (.inr x) = some v ∧ ((x = "used" ∧ Td K H v (.tuple [.int e.lv, .str (plV e.front)]) ∧ e.new = true) ∨ (x ≠ "used" ∧ Td K H v e.d)) := by
      rcases entW_cases he with ⟨rfl, rfl⟩ | ⟨rfl, rfl⟩ | ⟨rfl, rfl⟩ | ⟨rfl, rfl⟩
      · exact ⟨us, rfl, .inl ⟨rfl, t1, rfl⟩⟩
      · exact ⟨wk, rfl, .inr ⟨by decide +kernel, t2⟩⟩
      · exact ⟨wy, rfl, .inr ⟨by decide +kernel, t3⟩⟩
      · exact ⟨lo, rfl, .inr ⟨by decide +kernel, t4⟩⟩
    obtain ⟨v, hv, key⟩ := key
    refine ⟨_, rfl, a, _, dx, _, .ref lt, rfl, h1, c_Book T, n_Book_own_levels T, rfl, _, rfl, st, _, _, _, rfl, rfl, hs, atI_nat (j := 0) rfl, lt, _, _, _, rfl, rfl, h2, atI_nat h3, c, _, dy, _, .ref d, rfl, g1, c_Level T, n_Level_own_entries T, rfl, _, rfl, d, v, rfl, .inl ⟨_, .inr x, .inl g2, rfl, hv.symm⟩, ?_⟩
    refine rd_entry key fun H1 S1 => ?_
    refine ⟨_, rfl, _, rfl, a, b, e.lv, rfl, ha.same S1, elv, ?_⟩
    have hs1 := (Fr.of [] S1).sqT hs
    have fin : ∀ (m : Option Nat), moved b e left = (e.lv, m) → ∀ u, H1 u = none → ∀ t, upd H1 u (.tup [.int e.lv, leftV m]) t = none → Q (.ref t) (upd (upd H1 u (.tup [.int e.lv, leftV m])) t (.tup [.ref u, .str (plV e.front)])) := by
      intro m hm u hu t ht
      have S2 := same_new (o := .tup [.int e.lv, leftV m]) hu
      have S3 := same_new (o := .tup [.ref u, .str (plV e.front)]) ht
      refine q _ t ((S1.trans S2).trans S3) ⟨u, ?_, .inl (.inl upd_same)⟩
      rw [hm]
      exact .inl (.inl (S3 _ _ upd_same))
    cases hn : e.new with
    | true =>
      refine ⟨_, rfl, rfl, true, by decide +kernel, andT rfl ?_⟩
      refine ⟨_, rfl, _, rfl, by show 2 ≤ sizeLine; decide, fun u hu => ⟨_, rfl, by show 2 ≤ sizeLine; decide, fun t ht => fin _ ?_ u hu t ht⟩⟩
      unfold moved
      cases (b.lev e.lv).ticks with
      | none => rfl
      | some m => simp only [hn, if_true]
    | false =>
      refine ⟨_, rfl, rfl, false, by decide +kernel, andF rfl ?_⟩
      refine ⟨_, rfl, st, _, _, _, rfl, rfl, hs1, atI_nat (j := 1) rfl, rfl, ?_⟩
      cases left with
      | none =>
        refine ⟨true, rfl, andT rfl ?_⟩
        refine ⟨_, rfl, _, rfl, by show 2 ≤ sizeLine; decide, fun u hu => ⟨_, rfl, by show 2 ≤ sizeLine; decide, fun t ht => fin _ ?_ u hu t ht⟩⟩
        unfold moved
        cases (b.lev e.lv).ticks with
        | none => rfl
        | some m => simp only [hn, Bool.false_eq_true, if_false]
      | some k =>
        refine ⟨false, rfl, andF rfl ?_⟩
        refine ⟨_, rfl, st, _, _, _, rfl, rfl, hs1, atI_nat (j := 1) rfl, rfl, ?_⟩
        by_cases hk : k = 0
        · subst hk
          refine ⟨true, rfl, andT rfl ?_⟩
          refine ⟨_, rfl, _, rfl, by show 2 ≤ sizeLine; decide, fun u hu => ⟨_, rfl, by show 2 ≤ sizeLine; decide, fun t ht => fin _ ?_ u hu t ht⟩⟩
          unfold moved
          cases (b.lev e.lv).ticks with
          | none => rfl
          | some m => simp only [hn, Bool.false_eq_true, if_false, if_true]
        · refine ⟨false, congrArg V.bl (decide_eq_false fun z => hk (Int.ofNat.inj (V.int.inj z))), andF rfl ?_⟩
          cases hm : (b.lev e.lv).ticks with
          | none =>
            refine ⟨_, rfl, rfl, true, rfl, andT rfl ?_⟩
            refine ⟨_, rfl, _, rfl, by show 2 ≤ sizeLine; decide, fun u hu => ⟨_, rfl, by show 2 ≤ sizeLine; decide, fun t ht => fin none ?_ u hu t ht⟩⟩
            unfold moved
            rw [hm]
          | some m =>
            refine ⟨_, rfl, rfl, false, rfl, andF rfl ?_⟩
            refine ⟨_, rfl, _, rfl, _, rfl, st, _, _, _, rfl, rfl, hs1, atI_nat (j := 1) rfl, _, _, rfl, ?_⟩
            have em : (if (k : Int) < (m : Int) then (k : Int) else (m : Int)) = ((min m k : Nat) : Int) := by
              by_cases hlt : k < m
              · rw [if_pos (by omega), Nat.min_eq_right (by omega)]
              · rw [if_neg (by omega), Nat.min_eq_left (by omega)]
            rw [em]
            refine ⟨by show 2 ≤ sizeLine; decide, fun u hu => ⟨_, rfl, by show 2 ≤ sizeLine; decide, fun t ht => fin (some (min m k)) ?_ u hu t ht⟩⟩
            unfold moved
            rw [hm]
            simp only [hn, Bool.false_eq_true, if_false, if_neg hk]
end
end Tb
set_option Elab.async false
set_option linter.all false
set_option maxRecDepth 100000
set_option maxHeartbeats 4000000
/-! States, second part. -/
namespace Tb
open PySem PySem.Spec PyProof.Rows L2
section
variable {P : Program} {w : World} {K : PySem.W.Frag} {mg : Str → Option Value} {base : Heap}
def placeV : Option Bool → V
  | none => .non
  | some f => .str (plV f)
/-- a posture and a place -/
def AftT (K : PySem.W.Frag) (H : Hp) (t : Addr) (p : Post) (pl : Option Bool) : Prop := ∃ u, Td K H (.ref u) p.d ∧ SqT K H t [.ref u, placeV pl]
def sp_entered (K : PySem.W.Frag) : Sp := fun vs H Q _ => ∃ (a pt : Addr) (b : Bk) (m : Md) (l : Nat) (x : Str) (left : Option Nat) (e : Ent), vs = [.ref a, .str x, .ref pt] ∧ BkAt K H a b ∧ BkOk b ∧ l < b.levels.length ∧ entW (b.lev l) x = some e ∧ SqT K H pt [.str m.s, .int l, leftV left] ∧
  ∀ H' t, Same H H' → AftT K H' t (.st .ready (moved b e left).1 (moved b e left).2) (some e.front) → Q (.ref t) H'
theorem k_entered (T : Tx K mg base) : Fnc P w K mg base 3 "entered" (sp_entered K) := by
  refine fnc_ok (D_entered T) (g_entered T) sc_entered (fun vs H Q E h => ?_) (fun cdv A outer s H vs Q hr h => ?_)
  · obtain ⟨a, pt, b, m, l, x, left, e, rfl, _⟩ := h; rfl
  · obtain ⟨a, pt, b, m, l, x, left, e, rfl, ha, ok, hl, he, hs, q⟩ := h
    refine ⟨_, (pss_cons (ps_asg (pe_f (k_moved_in T) hr (by decide) rfl (pa_cons (pv 0) (pa_cons (pv 1) (pa_cons (pe_slice sl_tupA (pv 2) (po_some pe_int) po_none) pa_nil)))) (pg_tup (by rfl) (pgs_cons (pg_name (i := 3) sc_entered.nd rfl (Or.inl rfl)) (pgs_cons (pg_name (i := 4) sc_entered.nd rfl (Or.inl rfl)) pgs_nil))))
      (pss_one (ps_ret (pe_tup (pa_cons (pe_tup (pa_cons (C8.pe_gc rfl (v_READY T)) (StX.pa_star (pv 3) pa_nil))) (pa_cons (pv 4) pa_nil)))))), ?_⟩
    refine ⟨_, rfl, _, rfl, _, rfl, 1, rfl, pt, _, rfl, hs, fun z => absurd z.1 (by show ¬ (1 = 0); decide), fun _ st hst => ?_⟩
    have S1 := same_new (o := .tup (cutV [.str m.s, .int l, leftV left] (some 1) none)) hst
    refine ⟨a, st, b, l, x, left, e, rfl, ha.same S1, ok, hl, he, .inl (.inl upd_same), fun H2 t S2 ⟨u, hu, ht⟩ => ?_⟩
    refine ⟨t, _, rfl, ht, rfl, _, _, rfl, _, _, rfl, rfl, ?_⟩
    refine ⟨_, rfl, u, _, rfl, .inl hu, by show 3 ≤ sizeLine; decide, fun p hp => ⟨_, rfl, by show 2 ≤ sizeLine; decide, fun r hr2 => ?_⟩⟩
    have S3 := same_new (o := .tup [.str "ready", .int (moved b e left).1, leftV (moved b e left).2]) hp
    have S4 := same_new (o := .tup [.ref p, .str (plV e.front)]) hr2
    exact q _ r (((S1.trans S2).trans S3).trans S4) ⟨p, td_post (.inl (.inl (S4 _ _ upd_same))), .inl (.inl upd_same)⟩
def sp_after_work (K : PySem.W.Frag) : Sp := fun vs H Q _ => ∃ (a st : Addr) (b : Bk) (l : Nat) (left : Option Nat) (x : Wd), vs = [.ref a, .ref st, .str x.s] ∧ BkAt K H a b ∧ BkOk b ∧ l < b.levels.length ∧ SqT K H st [.int l, leftV left] ∧ (x = .on ∨ x = .sleep ∨ x = .way) ∧
  ∀ H' t, Same H H' → AftT K H' t (afterW b l left x).1 (afterW b l left x).2 → Q (.ref t) H'
theorem k_after_work (T : Tx K mg base) : Fnc P w K mg base 3 "after_work" (sp_after_work K) := by
  refine fnc_ok (D_after_work T) (g_after_work T) sc_after_work (fun vs H Q E h => ?_) (fun cdv A outer s H vs Q hr h => ?_)
  · obtain ⟨a, st, b, l, left, x, rfl, _⟩ := h; rfl
  · obtain ⟨a, st, b, l, left, x, rfl, ha, ok, hl, hs, hx, q⟩ := h
    refine ⟨_, (pss_cons (ps_if (pt_cmpR op_eq (pv 2) (C8.pe_gc rfl (v_SLEEP T)) (nomark _)) (pss_one (ps_ret (pe_tup (pa_cons (pe_tup (pa_cons (C8.pe_gc rfl (v_ASLEEP T)) (StX.pa_star (pv 1) pa_nil))) (pa_cons pe_non pa_nil))))) pss_nil)
      (pss_cons (ps_if (PW.pt (pw_and (pt_cmpR op_eq (pv 2) (C8.pe_gc rfl (v_ON T)) (nomark _)) (pw_and1 (pt_cmpR op_ne (pe_ix ix_tup (pv 1) pe_int (fun _ _ => rfl)) pe_int (nomark _))))) (pss_one (ps_ret (pe_tup (pa_cons (pe_tup (pa_cons (C8.pe_gc rfl (v_RUNS T)) (StX.pa_star (pv 1) pa_nil))) (pa_cons pe_non pa_nil))))) pss_nil)
      (pss_cons (ps_asg (pe_f (k_moved_in T) hr (by decide) rfl (pa_cons (pv 0) (pa_cons (pe_ifExp (pt_cmpR op_eq (pv 2) (C8.pe_gc rfl (v_ON T)) (nomark _)) (C8.pe_gc rfl (v_USED T)) (C8.pe_gc rfl (v_WAY T))) (pa_cons (pv 1) pa_nil)))) (pg_tup (by rfl) (pgs_cons (pg_name (i := 3) sc_after_work.nd rfl (Or.inl rfl)) (pgs_cons (pg_name (i := 4) sc_after_work.nd rfl (Or.inl rfl)) pgs_nil))))
      (pss_one (ps_ret (pe_tup (pa_cons (pe_tup (pa_cons (C8.pe_gc rfl (v_READY T)) (StX.pa_star (pv 3) pa_nil))) (pa_cons (pv 4) pa_nil)))))))), ?_⟩
    have fin : ∀ (H1 : Hp) (m : Md) (s : Nat × Option Nat) (pl : Option Bool), Same H H1 → afterW b l left x = (.st m s.1 s.2, pl) → ∀ p, H1 p = none → ∀ r, upd H1 p (.tup [.str m.s, .int s.1, leftV s.2]) r = none → Q (.ref r) (upd (upd H1 p (.tup [.str m.s, .int s.1, leftV s.2])) r (.tup [.ref p, placeV pl])) := by
      intro H1 m s pl S1 hm p hp r hr2
      have S3 := same_new (o := .tup [.str m.s, .int s.1, leftV s.2]) hp
      have S4 := same_new (o := .tup [.ref p, placeV pl]) hr2
      refine q _ r ((S1.trans S3).trans S4) ?_
      rw [hm]
      exact ⟨p, td_post (.inl (.inl (S4 _ _ upd_same))), .inl (.inl upd_same)⟩
    rcases hx with rfl | rfl | rfl
    · refine ⟨_, rfl, rfl, false, by decide +kernel, andF rfl ⟨_, rfl, rfl, true, by decide +kernel, andT rfl ?_⟩⟩
      refine ⟨_, rfl, st, _, _, _, rfl, rfl, hs, atI_nat (j := 1) rfl, ?_⟩
      by_cases hk : left = some 0
      · subst hk
        refine ⟨rfl, false, by decide +kernel, andF rfl ?_⟩
        refine ⟨_, rfl, _, rfl, rfl, true, by decide +kernel, andT rfl ⟨_, rfl, a, st, b, l, "used", some 0, { (b.lev l).used with new := true }, rfl, ha, ok, hl, rfl, hs, fun H2 t S2 ⟨u, hu, ht⟩ => ?_⟩⟩
        refine ⟨t, _, rfl, ht, rfl, _, _, rfl, _, _, rfl, rfl, ?_⟩
        refine ⟨_, rfl, u, _, rfl, .inl hu, by show 3 ≤ sizeLine; decide, fun p hp => ⟨_, rfl, by show 2 ≤ sizeLine; decide, fun r hr2 => ?_⟩⟩
        exact fin H2 .ready (moved b { (b.lev l).used with new := true } (some 0)) (some (b.lev l).used.front) S2 rfl p hp r hr2
      · have h0 : afterW b l left .on = (.st .runs l left, none) := by
          show (if left = some 0 then _ else _) = _
          rw [if_neg hk]
        refine ⟨by cases left <;> rfl, true, ?_, andT rfl ?_⟩
        · cases left with
          | none => rfl
          | some k =>
            show V.bl (!decide (V.int ((k : Nat) : Int) = V.int 0)) = V.bl true
            have e : decide (V.int ((k : Nat) : Int) = V.int 0) = false := decide_eq_false fun z => hk (congrArg some (Int.ofNat.inj (V.int.inj z)))
            rw [e]
            rfl
        · refine ⟨_, rfl, st, _, rfl, .inl hs, by show 3 ≤ sizeLine; decide, fun p hp => ⟨by show 2 ≤ sizeLine; decide, fun r hr2 => ?_⟩⟩
          exact fin H .runs (l, left) none (Same.refl _) h0 p hp r hr2
    · refine ⟨_, rfl, rfl, true, by decide +kernel, andT rfl ?_⟩
      refine ⟨_, rfl, st, _, rfl, .inl hs, by show 3 ≤ sizeLine; decide, fun p hp => ⟨by show 2 ≤ sizeLine; decide, fun r hr2 => ?_⟩⟩
      exact fin H .asleep (l, left) none (Same.refl _) rfl p hp r hr2
    · refine ⟨_, rfl, rfl, false, by decide +kernel, andF rfl ⟨_, rfl, rfl, false, by decide +kernel, andF rfl ?_⟩⟩
      refine ⟨_, rfl, _, rfl, rfl, false, by decide +kernel, andF rfl ⟨_, rfl, a, st, b, l, "way", left, (b.lev l).way, rfl, ha, ok, hl, rfl, hs, fun H2 t S2 ⟨u, hu, ht⟩ => ?_⟩⟩
      refine ⟨t, _, rfl, ht, rfl, _, _, rfl, _, _, rfl, rfl, ?_⟩
      refine ⟨_, rfl, u, _, rfl, .inl hu, by show 3 ≤ sizeLine; decide, fun p hp => ⟨_, rfl, by show 2 ≤ sizeLine; decide, fun r hr2 => ?_⟩⟩
      exact fin H2 .ready (moved b (b.lev l).way left) (some (b.lev l).way.front) S2 rfl p hp r hr2
end
end Tb
set_option Elab.async false
set_option linter.all false
set_option maxRecDepth 100000
set_option maxHeartbeats 4000000
/-! Queues in the heap. -/
namespace Tb
open PySem PySem.Spec PyProof.Rows L2
theorem ne_mem {α : Type} {x a : α} {l : List α} (n : x ∉ l) (m : a ∈ l) : x ≠ a := fun e => n (by rw [e]; exact m)
def intsV (ts : List Nat) : List V := ts.map fun (t : Nat) => V.int (t : Int)
theorem intsV_len (ts : List Nat) : (intsV ts).length = ts.length := by unfold intsV; rw [List.length_map]
theorem intsV_app (ts us : List Nat) : intsV (ts ++ us) = intsV ts ++ intsV us := by unfold intsV; rw [List.map_append]
theorem intsV_get {ts : List Nat} {i : Nat} {t : Nat} (h : ts[i]? = some t) : (intsV ts)[i]? = some (.int t) := by unfold intsV; rw [List.getElem?_map, h]; rfl
def IntsAt (H : Hp) (a : Addr) (ts : List Nat) : Prop := H a = some (.lst (intsV ts))
structure QuAt (K : PySem.W.Frag) (H : Hp) (q : Addr) (qs : List (List Nat)) (S : List Addr) : Prop where
  ex : ∃ dx ll as, H q = some (.ins (He.ga K "Queues") dx [("own_lists", .ref ll)]) ∧ H ll = some (.lst (as.map V.ref)) ∧ Paired (IntsAt H) as qs ∧ S = q :: ll :: as
  nd : S.Nodup
theorem pairedFr {H H' : Hp} {T : List Addr} (f : Fr T H H') : ∀ {as : List Addr} {qs : List (List Nat)}, Paired (IntsAt H) as qs → (∀ x ∈ as, x ∉ T) → Paired (IntsAt H') as qs
  | _, _, .nil, _ => .nil
  | _, _, .cons h t, n => .cons (f.keep _ _ h (n _ List.mem_cons_self)) (pairedFr f t fun x hx => n x (List.mem_cons_of_mem _ hx))
theorem QuAt.fr {K : PySem.W.Frag} {H H' : Hp} {q : Addr} {qs : List (List Nat)} {S T : List Addr} (h : QuAt K H q qs S) (f : Fr T H H') (n : ∀ x ∈ S, x ∉ T) : QuAt K H' q qs S := by
  obtain ⟨dx, ll, as, h1, h2, h3, rfl⟩ := h.ex
  exact ⟨⟨dx, ll, as, f.keep _ _ h1 (n _ List.mem_cons_self), f.keep _ _ h2 (n _ (List.mem_cons_of_mem _ List.mem_cons_self)), pairedFr f h3 fun x hx => n x (List.mem_cons_of_mem _ (List.mem_cons_of_mem _ hx)), rfl⟩, h.nd⟩
theorem QuAt.same {K : PySem.W.Frag} {H H' : Hp} {q : Addr} {qs : List (List Nat)} {S : List Addr} (h : QuAt K H q qs S) (s : Same H H') : QuAt K H' q qs S := h.fr (Fr.of [] s) fun _ _ => List.not_mem_nil
/-- every address of S stands -/
theorem QuAt.some {K : PySem.W.Frag} {H : Hp} {q : Addr} {qs : List (List Nat)} {S : List Addr} (h : QuAt K H q qs S) : ∀ x ∈ S, H x ≠ none := by
  obtain ⟨dx, ll, as, h1, h2, h3, rfl⟩ := h.ex
  intro x hx
  rcases List.mem_cons.1 hx with rfl | hx
  · rw [h1]; exact nofun
  rcases List.mem_cons.1 hx with rfl | hx
  · rw [h2]; exact nofun
  obtain ⟨i, hi⟩ := List.mem_iff_getElem?.1 hx
  have hlt : i < qs.length := by rw [← Paired.len h3]; exact (List.getElem?_eq_some_iff.1 hi).1
  obtain ⟨a, ha, hq⟩ := Paired.get h3 (List.getElem?_eq_getElem hlt)
  rw [hi] at ha
  cases ha
  have hq' : H x = _ := hq
  rw [hq']; exact nofun
theorem pairedNe {H : Hp} {a : Addr} {o : HO} : ∀ {as : List Addr} {qs : List (List Nat)}, Paired (IntsAt H) as qs → (∀ x ∈ as, x ≠ a) → Paired (IntsAt (upd H a o)) as qs
  | _, _, .nil, _ => .nil
  | _, _, .cons h t, n => .cons (by unfold IntsAt; rw [upd_ne (n _ List.mem_cons_self)]; exact h) (pairedNe t fun x hx => n x (List.mem_cons_of_mem _ hx))
theorem lists_set {H : Hp} {a : Addr} {f : List Nat → List Nat} {as : List Addr} {qs : List (List Nat)} (p : Paired (IntsAt H) as qs) : ∀ {l : Nat} {ts : List Nat}, as.Nodup → as[l]? = some a → qs[l]? = some ts →
    Paired (IntsAt (upd H a (.lst (intsV (f ts))))) as (qs.modify l f) := by
  induction p with
  | nil => intro l ts _ ha; simp at ha
  | @cons x y xs ys h t ih =>
    intro l ts nd ha hq
    have hn := (List.nodup_cons.1 nd).1
    cases l with
    | zero =>
      simp only [List.getElem?_cons_zero, Option.some.injEq] at ha hq
      subst ha hq
      rw [List.modify_zero_cons]
      exact .cons upd_same (pairedNe t fun z hz e => hn (e ▸ hz))
    | succ l =>
      simp only [List.getElem?_cons_succ] at ha hq
      rw [List.modify_succ_cons]
      refine .cons ?_ (ih (List.nodup_cons.1 nd).2 ha hq)
      unfold IntsAt
      rw [upd_ne (ne_mem hn (List.mem_of_getElem? ha))]
      exact h
theorem QuAt.set {K : PySem.W.Frag} {H : Hp} {q : Addr} {qs : List (List Nat)} {S : List Addr} (h : QuAt K H q qs S) {l : Nat} {ts : List Nat} (hq : qs[l]? = Option.some ts) :
    ∃ (dx ll : Addr) (as : List Addr) (a : Addr), H q = Option.some (.ins (He.ga K "Queues") dx [("own_lists", .ref ll)]) ∧ H ll = Option.some (.lst (as.map V.ref)) ∧ (as.map V.ref)[l]? = Option.some (.ref a) ∧ IntsAt H a ts ∧
      ∀ f : List Nat → List Nat, Fr S H (upd H a (.lst (intsV (f ts)))) ∧ QuAt K (upd H a (.lst (intsV (f ts)))) q (qs.modify l f) S := by
  obtain ⟨dx, ll, as, h1, h2, h3, rfl⟩ := h.ex
  obtain ⟨a, ha, hts⟩ := Paired.get h3 hq
  have ma := List.mem_of_getElem? ha
  refine ⟨dx, ll, as, a, h1, h2, by rw [List.getElem?_map, ha]; rfl, hts, fun f => ⟨Fr.wr hts trivial (List.mem_cons_of_mem _ (List.mem_cons_of_mem _ ma)), ⟨dx, ll, as, ?_, ?_, ?_, rfl⟩, h.nd⟩⟩
  · have nd := (List.nodup_cons.1 h.nd).1
    rw [upd_ne (ne_mem nd (List.mem_cons_of_mem _ ma))]
    exact h1
  · have nd := (List.nodup_cons.1 (List.nodup_cons.1 h.nd).2).1
    rw [upd_ne (ne_mem nd ma)]
    exact h2
  · exact lists_set h3 (List.nodup_cons.1 (List.nodup_cons.1 h.nd).2).2 ha hq
end Tb
set_option Elab.async false
set_option linter.all false
set_option maxRecDepth 100000
set_option maxHeartbeats 4000000
/-! Data: shapes. -/
namespace Tb
open PySem PySem.Spec PyProof.Rows L2
/-- data of a depth -/
def Fl (n : Nat) (d : PyData) : Prop := d.canLay0 = true ∧ d.depth ≤ n
theorem Fl.mono {m n : Nat} {d : PyData} (h : Fl m d) (k : m ≤ n) : Fl n d := ⟨h.1, Nat.le_trans h.2 k⟩
theorem flAll {n : Nat} : ∀ {ds : List PyData}, (∀ d ∈ ds, Fl n d) → PyData.canLayAll0 ds = true ∧ PyData.depthAll ds ≤ n
  | [], _ => ⟨by unfold PyData.canLayAll0; rfl, by unfold PyData.depthAll; exact Nat.zero_le _⟩
  | d :: ds, h => by
    have h1 := h d List.mem_cons_self
    have h2 := flAll fun e he => h e (List.mem_cons_of_mem _ he)
    refine ⟨?_, ?_⟩
    · unfold PyData.canLayAll0; rw [h1.1, h2.1]; rfl
    · unfold PyData.depthAll; exact Nat.max_le.2 ⟨h1.2, h2.2⟩
theorem Fl.list {n : Nat} {ds : List PyData} (h : ∀ d ∈ ds, Fl n d) : Fl (n + 1) (.list ds) := ⟨by unfold PyData.canLay0; exact (flAll h).1, by unfold PyData.depth; exact Nat.succ_le_succ (flAll h).2⟩
theorem Fl.tup {n : Nat} {ds : List PyData} (h : ∀ d ∈ ds, Fl n d) : Fl (n + 1) (.tuple ds) := ⟨by unfold PyData.canLay0; exact (flAll h).1, by unfold PyData.depth; exact Nat.succ_le_succ (flAll h).2⟩
theorem Fl.int {n : Nat} (i : Int) : Fl n (.int i) := ⟨by unfold PyData.canLay0; rfl, by unfold PyData.depth; exact Nat.zero_le _⟩
theorem Fl.str {n : Nat} (i : Str) (h : PyData.strOk i = true := by decide +kernel) : Fl n (.str i) := ⟨by unfold PyData.canLay0; exact h, by unfold PyData.depth; exact Nat.zero_le _⟩
theorem Fl.non {n : Nat} : Fl n .none := ⟨by unfold PyData.canLay0; rfl, by unfold PyData.depth; exact Nat.zero_le _⟩
theorem Fl.shaped {n : Nat} {d : PyData} (h : Fl n d) (k : n ≤ 64 := by decide) : SeqAt.shaped d = true := by
  unfold SeqAt.shaped
  rw [h.1, decide_eq_true (Nat.le_trans h.2 k)]
  rfl
theorem Fl.refl {n : Nat} {d : PyData} (h : Fl n d) : d.eqv d = true := SeqAt.eqv_refl d h.1
theorem fl_cons {n : Nat} {d : PyData} {ds : List PyData} (h : Fl n d) (t : ∀ e ∈ ds, Fl n e) : ∀ e ∈ d :: ds, Fl n e := fun e he => by
  rcases List.mem_cons.1 he with rfl | he
  · exact h
  · exact t e he
theorem fl_nil {n : Nat} : ∀ e ∈ ([] : List PyData), Fl n e := fun _ h => absurd h List.not_mem_nil
theorem fl_map {α : Type} {n : Nat} {f : α → PyData} {xs : List α} (h : ∀ x ∈ xs, Fl n (f x)) : ∀ e ∈ xs.map f, Fl n e := fun e he => by
  obtain ⟨x, hx, rfl⟩ := List.mem_map.1 he
  exact h x hx
/-! ints -/
def intsD (ts : List Nat) : PyData := .list (ts.map fun (t : Nat) => PyData.int (t : Int))
theorem dp_ints {K : PySem.W.Frag} {H : Hp} : ∀ ts : List Nat, DpAll K H (intsV ts) (ts.map fun (t : Nat) => PyData.int (t : Int))
  | [] => .nil
  | _ :: ts => .cons (.int _) (dp_ints ts)
theorem IntsAt.dp {K : PySem.W.Frag} {H : Hp} {a : Addr} {ts : List Nat} (h : IntsAt H a ts) : Dp K H (.ref a) (intsD ts) := .lst (.inl (.inl h)) (dp_ints ts)
theorem fl_ints (ts : List Nat) : Fl 1 (intsD ts) := Fl.list (fl_map fun _ _ => Fl.int _)
theorem eqv_empty (ts : List Nat) : (intsD ts).eqv (.list []) = ts.isEmpty := by
  cases ts <;> rfl
theorem Tds.dps {K : PySem.W.Frag} {H : Hp} {vs : List V} {ds : List PyData} (h : Tds K H vs ds) : DpAll K H vs ds := Tds.dp h
theorem fl_left (k : Option Nat) {n : Nat} : Fl n (leftD k) := by
  cases k
  · exact Fl.non
  · exact Fl.int _
theorem Post.fl (p : Post) : Fl 1 p.d := by
  cases p with
  | ended => exact Fl.tup (fl_cons (Fl.str _) fl_nil)
  | st m l k => exact Fl.tup (fl_cons (Fl.str _ (by cases m <;> decide +kernel)) (fl_cons (Fl.int _) (fl_cons (fl_left k) fl_nil)))
theorem Cm.fl (c : Cm) : Fl 1 c.d := by
  cases c <;> exact Fl.tup (fl_cons (Fl.str _) (fl_cons (Fl.int _) fl_nil))
theorem Cl.fl (c : Cl) : Fl 1 c.d := by
  cases c with
  | cm c => exact c.fl
  | tick w => exact Fl.tup (fl_cons (Fl.str _) (fl_cons (Fl.str _ (by cases w <;> decide +kernel)) fl_nil))
theorem Told.fl (c : Told) {n : Nat} : Fl n c.d := by
  cases c
  · exact Fl.non
  · exact Fl.int _
  · exact Fl.str _
theorem Tk.fl (c : Tk) : Fl 3 (Tk.d c) := Fl.tup (fl_cons (Fl.tup (fl_map fun x _ => x.fl)) (fl_cons (Fl.str _ (by cases c.2 <;> decide +kernel)) fl_nil))
end Tb
set_option Elab.async false
set_option linter.all false
set_option maxRecDepth 100000
set_option maxHeartbeats 4000000
/-! Queues. -/
namespace Tb
open PySem PySem.Spec PyProof.Rows L2
section
variable {P : Program} {w : World} {K : PySem.W.Frag} {mg : Str → Option Value} {base : Heap}
def QOk (qs : List (List Nat)) : Prop := qs.length ≤ 3 ∧ ∀ ts ∈ qs, ts.length < 1000
def sp_Queues_put (K : PySem.W.Frag) : Sp := fun vs H Q _ => ∃ (q : Addr) (t l : Nat) (f : Bool) (qs : List (List Nat)) (S : List Addr), vs = [.ref q, .int t, .int l, .str (plV f)] ∧ QuAt K H q qs S ∧ QOk qs ∧ l < qs.length ∧
  ∀ H', Fr S H H' → QuAt K H' q (putQ qs l f t) S → Q .non H'
theorem k_Queues_put (T : Tx K mg base) : Mth P w K mg base 1 (He.ga K "Queues") "put" (sp_Queues_put K) := by
  refine mth_ok (D_Queues_put T) (c_Queues T) (m_Queues_put T) sc_Queues_put (fun vs H Q E h => ?_) (fun cdv A outer s H vs Q hr h => ?_)
  · obtain ⟨q, t, l, f, qs, S, rfl, _⟩ := h; rfl
  · obtain ⟨q, t, l, f, qs, S, rfl, hq, ok, hl, qq⟩ := h
    obtain ⟨ts, hts⟩ : ∃ ts, qs[l]? = some ts := ⟨_, List.getElem?_eq_getElem hl⟩
    obtain ⟨dx, ll, as, a, h1, h2, h3, h4, h5⟩ := hq.set hts
    have lt : (intsV ts).length < sizeLine := by rw [intsV_len]; exact Nat.lt_trans (ok.2 ts (List.mem_of_getElem? hts)) (by decide)
    refine ⟨_, (pss_one (ps_if (pt_cmpR op_eq (pv 3) (C8.pe_gc rfl (v_BACK T)) (nomark _)) (pss_one (ps_expr (pe_bm PySem.F.plainAttrs_list PySem.F.slot_list_append PySem.F.type_list_append mt_append (pe_ix ix_list (pe_fld (pv 0) rfl) (pv 2) (fun _ _ => rfl)) (pa_cons (pv 1) pa_nil)))) (pss_one (ps_expr (pe_bm PySem.F.plainAttrs_list PySem.F.slot_list_insert PySem.F.type_list_insert mt_insert (pe_ix ix_list (pe_fld (pv 0) rfl) (pv 2) (fun _ _ => rfl)) (pa_cons pe_int (pa_cons (pv 1) pa_nil))))))), ?_⟩
    cases f with
    | false =>
      refine ⟨_, rfl, rfl, true, by decide +kernel, andT rfl ?_⟩
      refine ⟨_, rfl, q, _, dx, _, .ref ll, rfl, h1, c_Queues T, n_Queues_own_lists T, rfl, _, rfl, ll, _, _, _, rfl, rfl, .inl (.inl h2), atI_nat h3, ?_⟩
      refine ⟨.inl ⟨rfl, _, .inl (.inl h4)⟩, ?_⟩
      refine ⟨_, rfl, a, _, _, rfl, rfl, h4, lt, ?_⟩
      have := h5 (fun ts => ts ++ [t])
      rw [intsV_app] at this
      exact qq _ this.1 this.2
    | true =>
      refine ⟨_, rfl, rfl, false, by decide +kernel, andF rfl ?_⟩
      refine ⟨_, rfl, q, _, dx, _, .ref ll, rfl, h1, c_Queues T, n_Queues_own_lists T, rfl, _, rfl, ll, _, _, _, rfl, rfl, .inl (.inl h2), atI_nat h3, ?_⟩
      refine ⟨.inl ⟨rfl, _, .inl (.inl h4)⟩, ?_⟩
      refine ⟨_, rfl, a, _, 0, _, rfl, rfl, h4, lt, by decide, by decide, ?_⟩
      have := h5 (fun ts => t :: ts)
      exact qq _ this.1 this.2
def optV : Option Nat → V
  | none => .non
  | some t => .int t
theorem bestQ_at : ∀ {qs : List (List Nat)} {i : Nat} {ts : List Nat}, (∀ j, j < i → qs[j]? = some []) → qs[i]? = some ts → ts ≠ [] → bestQ qs = some i
  | [], _, _, _, h, _ => by simp at h
  | q :: qs, 0, ts, _, h, n => by
    simp only [List.getElem?_cons_zero, Option.some.injEq] at h
    subst h
    unfold bestQ
    rw [if_neg n]
  | q :: qs, i + 1, ts, h, hq, n => by
    have h0 := h 0 (Nat.succ_pos _)
    simp only [List.getElem?_cons_zero, Option.some.injEq] at h0
    unfold bestQ
    rw [if_pos h0, bestQ_at (qs := qs) (i := i) (fun j hj => by simpa using h (j + 1) (Nat.succ_lt_succ hj)) (by simpa using hq) n]
    rfl
theorem bestQ_none : ∀ {qs : List (List Nat)}, (∀ j, j < qs.length → qs[j]? = some []) → bestQ qs = none
  | [], _ => rfl
  | q :: qs, h => by
    have h0 := h 0 (Nat.succ_pos _)
    simp only [List.getElem?_cons_zero, Option.some.injEq] at h0
    unfold bestQ
    rw [if_pos h0, bestQ_none (qs := qs) (fun j hj => by simpa using h (j + 1) (Nat.succ_lt_succ hj))]
    rfl
theorem bestQ_some : ∀ {qs : List (List Nat)} {l : Nat}, bestQ qs = some l → l < qs.length ∧ ∃ t ts, qs[l]? = some (t :: ts)
  | [], _, h => by cases h
  | q :: qs, l, h => by
    unfold bestQ at h
    by_cases hq : q = []
    · rw [if_pos hq] at h
      cases e : bestQ qs with
      | none => rw [e] at h; cases h
      | some m =>
        rw [e] at h
        cases h
        obtain ⟨h1, t, ts, h2⟩ := bestQ_some e
        exact ⟨Nat.succ_lt_succ h1, t, ts, by simpa using h2⟩
    · rw [if_neg hq] at h
      cases h
      cases q with
      | nil => exact absurd rfl hq
      | cons t ts => exact ⟨Nat.succ_pos _, t, ts, rfl⟩
def sp_Queues_best (K : PySem.W.Frag) : Sp := fun vs H Q _ => ∃ (q : Addr) (qs : List (List Nat)) (S : List Addr), vs = [.ref q] ∧ QuAt K H q qs S ∧ QOk qs ∧ ∀ H', Same H H' → Q (optV (bestQ qs)) H'
theorem k_Queues_best (T : Tx K mg base) : Prp P w K mg base 1 (He.ga K "Queues") "best" (sp_Queues_best K) := by
  refine prp_ok (D_Queues_best T) (c_Queues T) (p_Queues_best T) sc_Queues_best (fun vs H Q E h => ?_) (fun cdv A outer s H vs Q hr h => ?_)
  · obtain ⟨q, qs, S, rfl, _⟩ := h; rfl
  · obtain ⟨q, qs, S, rfl, hq, ok, qq⟩ := h
    obtain ⟨dx, ll, as, h1, h2, h3, rfl⟩ := hq.ex
    refine ⟨_, (pss_cons (ps_for PassesOwn.never rfl (pi_enum (by rfl) (f_enumerate T) (pa_cons (pe_fld (pv 0) rfl) pa_nil)) (pg_tup (by rfl) (pgs_cons (pg_name (i := 1) sc_Queues_best.nd rfl (Or.inl rfl)) (pgs_cons (pg_name (i := 2) sc_Queues_best.nd rfl (Or.inl rfl)) pgs_nil))) (pss_one (ps_if (pt_cmpR (op_neD (hr.units)) (pv 2) (pe_lst pa_nil) (nomark _)) (pss_one (ps_ret (pv 1))) pss_nil)))
      (pss_one (ps_ret pe_non))), ?_⟩
    have lenA := Paired.len h3
    refine ⟨_, rfl, q, _, dx, _, .ref ll, rfl, h1, c_Queues T, n_Queues_own_lists T, rfl, ll, as.map V.ref, rfl, .inl (.inl h2), ?_⟩
    refine for_it (walk_enum (xs := as.map V.ref)) (fun i σ H2 => Same H H2 ∧ (∀ j, j < i → qs[j]? = some []) ∧ ∃ a b, σ = [some (.ref q), a, b]) ⟨Same.refl _, fun _ h => absurd h (Nat.not_lt_zero _), _, _, rfl⟩ ?_ ?_ ?_
    · rintro i σ H2 _ ⟨S, _⟩
      exact .inl (.inl (S _ _ h2))
    · rintro i x σ H2 H3 hi ⟨S, hj, a, b, rfl⟩ ⟨t, x1, x2, rfl, ht, rfl, e1, e2⟩
      rw [List.length_map] at hi
      have e2' : (as.map V.ref)[i]? = some x2 := e2
      have hlt : i < qs.length := by omega
      obtain ⟨c, hc, hts⟩ := Paired.get h3 (List.getElem?_eq_getElem hlt)
      rw [List.getElem?_map, hc] at e2'
      cases e2'
      cases e1
      have S1 := S.trans (same_new (o := .tup [.int (i : Nat), .ref c]) ht)
      refine ⟨t, _, rfl, .inl (.inl upd_same), rfl, _, _, rfl, _, _, rfl, rfl, ?_⟩
      refine ⟨_, rfl, by show 0 ≤ sizeLine; decide, fun l hl => ?_⟩
      have S2 := S1.trans (same_new (o := .lst []) hl)
      have hI : IntsAt (upd (upd H2 t (.tup [.int (i : Nat), .ref c])) l (.lst [])) c qs[i] := S2 _ _ hts
      refine ⟨_, _, hI.dp, .lst (.inl (.inl upd_same)) .nil, (fl_ints _).shaped, (Fl.list (n := 0) fl_nil).shaped, ?_⟩
      rw [eqv_empty]
      cases hqi : qs[i] with
      | nil =>
        refine ⟨_, rfl, andF rfl ?_⟩
        refine ⟨S2, fun j hj2 => ?_, _, _, rfl⟩
        by_cases hji : j < i
        · exact hj j hji
        · have : j = i := by omega
          subst this
          rw [List.getElem?_eq_getElem hlt, hqi]
      | cons x xs =>
        refine ⟨_, rfl, andT rfl ⟨_, rfl, ?_⟩⟩
        have e := bestQ_at hj (List.getElem?_eq_getElem hlt) (by rw [hqi]; exact nofun)
        have := qq _ S2
        rw [e] at this
        exact this
    · rintro σ H2 ⟨S, hj, a, b, rfl⟩
      rw [List.length_map, lenA] at hj
      have := qq _ S
      rw [bestQ_none hj] at this
      exact this
end
end Tb
set_option Elab.async false
set_option linter.all false
set_option maxRecDepth 100000
set_option maxHeartbeats 4000000
/-! Queues, second part. -/
namespace Tb
open PySem PySem.Spec PyProof.Rows L2
theorem pairedApp {α β : Type} {F : α → β → Prop} : ∀ {xs us : List α} {ys ws : List β}, Paired F xs ys → Paired F us ws → Paired F (xs ++ us) (ys ++ ws)
  | _, _, _, _, .nil, h => h
  | _, _, _, _, .cons a t, h => .cons a (pairedApp t h)
/-- a comprehension that makes a new list of numbers in each turn -/
theorem lc_new {J : It} {n : Nat} {G : Hp → Prop} {Y : Nat → Hp → V → Hp → Prop} (w : Walk J n G Y) {g : TG} {te : TE} {vs : List Nat} {σ : L2.St} {H1 : Hp} {D : Addr} {Qd : Hp → Prop}
    (qs : List (List Nat)) (hq : qs.length = n) (hD : H1 D = none) (hn : n < sizeLine) (hY : ∀ i H x H', Y i H x H' → Same H H') (hG : ∀ H, Same H1 H → G H)
    (turn : ∀ i x H H' ts (Q' : VK), qs[i]? = some ts → Same H1 H → Y i H x H' → (∀ l, H' l = none → Q' (.ref l) (upd H' l (.lst (intsV ts)))) → g x (wipe σ vs) H' fun σ2 H2 => wipe σ2 vs = wipe σ vs ∧ te σ2 H2 Q')
    (hd : ∀ H as, Same H1 H → H D = some (.lst (as.map V.ref)) → Paired (IntsAt H) as qs → as.Nodup → (∀ a ∈ as, H1 a = none) → D ∉ as → Qd H) :
    ∃ W : Nat → Nat → Hp → Prop, (∃ m, W 0 m (upd H1 D (.lst []))) ∧ ∀ i m H, W i m H → J.stop i H ∧ Qd H ∨ J.go i H ∧ ∃ Nx : Hp → Prop, (∀ H', Nx H' → ∃ m', m' < m ∧ W (i + 1) m' H') ∧
      ∀ x H', J.yld i H x H' → g x (wipe σ vs) H' fun σ2 H2 => wipe σ2 vs = wipe σ vs ∧ tYes σ2 H2 fun b H3 => if b = true then te σ2 H3 fun y H4 => ∃ acc, H4 D = some (.lst acc) ∧ acc.length < sizeLine ∧ Nx (upd H4 D (.lst (acc ++ [y]))) else Nx H3 := by
  refine lc_it w (fun i H => Same H1 H ∧ ∃ as : List Addr, H D = some (.lst (as.map V.ref)) ∧ Paired (IntsAt H) as (qs.take i) ∧ as.Nodup ∧ (∀ a ∈ as, H1 a = none) ∧ D ∉ as) ?_ ?_ ?_ ?_
  · exact ⟨same_new hD, [], upd_same, by rw [List.take_zero]; exact .nil, List.nodup_nil, fun _ h => absurd h List.not_mem_nil, List.not_mem_nil⟩
  · rintro i H _ ⟨s, _⟩
    exact hG H s
  · rintro i x H H' hi ⟨s, as, h1, h2, h3, h4, h5⟩ hy
    have hqi : qs[i]? = some qs[i] := List.getElem?_eq_getElem (by omega)
    have s2 := hY i H x H' hy
    refine turn i x H H' _ (fun y H4 => ∃ acc, H4 D = some (.lst acc) ∧ acc.length < sizeLine ∧ (Same H1 (upd H4 D (.lst (acc ++ [y]))) ∧ ∃ as : List Addr, upd H4 D (.lst (acc ++ [y])) D = some (.lst (as.map V.ref)) ∧ Paired (IntsAt (upd H4 D (.lst (acc ++ [y])))) as (qs.take (i + 1)) ∧ as.Nodup ∧ (∀ a ∈ as, H1 a = none) ∧ D ∉ as)) hqi s hy fun l hl => ?_
    have s3 : Same H' (upd H' l (.lst (intsV qs[i]))) := same_new hl
    have hDl : D ≠ l := ne_of_none (s2 _ _ h1) hl
    have lenA : as.length = i := by
      have := Paired.len h2
      rw [List.length_take] at this
      omega
    have hla : l ∉ as := fun m => by
      obtain ⟨j, hj⟩ := List.mem_iff_getElem?.1 m
      have hjl : j < (qs.take i).length := by rw [← Paired.len h2]; exact (List.getElem?_eq_some_iff.1 hj).1
      obtain ⟨a, ha, hI⟩ := Paired.get h2 (List.getElem?_eq_getElem hjl)
      rw [hj] at ha
      cases ha
      have := s2 _ _ hI
      rw [hl] at this
      cases this
    refine ⟨as.map V.ref, s3 _ _ (s2 _ _ h1), by rw [List.length_map]; omega, ?_, as ++ [l], ?_, ?_, ?_, ?_, ?_⟩
    · intro b o e
      rw [upd_ne (ne_of_none e hD)]
      exact s3 _ _ (s2 _ _ (s _ _ e))
    · rw [upd_same, List.map_append]
      rfl
    · have hp := pairedNe (o := .lst (as.map V.ref ++ [V.ref l])) (a := D) (pairedFr (Fr.of [] (s2.trans s3)) h2 fun _ _ => List.not_mem_nil) (fun x hx e => h5 (e ▸ hx))
      have hl2 : IntsAt (upd (upd H' l (.lst (intsV qs[i]))) D (.lst (as.map V.ref ++ [V.ref l]))) l qs[i] := by
        unfold IntsAt
        rw [upd_ne hDl.symm]
        exact upd_same
      have e2 : qs.take (i + 1) = qs.take i ++ [qs[i]] := by rw [List.take_succ, hqi]; rfl
      rw [e2]
      exact pairedApp hp (.cons hl2 .nil)
    · exact List.nodup_append.2 ⟨h3, List.nodup_cons.2 ⟨List.not_mem_nil, List.nodup_nil⟩, fun a ha b hb e => by
        rw [List.mem_singleton.1 hb] at e
        exact hla (e ▸ ha)⟩
    · intro a ha
      rcases List.mem_append.1 ha with ha | ha
      · exact h4 a ha
      · rw [List.mem_singleton.1 ha]
        cases e : H1 l with
        | none => rfl
        | some o =>
          have := s2 _ _ (s _ _ e)
          rw [hl] at this
          cases this
    · intro m
      rcases List.mem_append.1 m with m | m
      · exact h5 m
      · exact hDl (List.mem_singleton.1 m)
  · rintro H ⟨s, as, h1, h2, h3, h4, h5⟩
    rw [List.take_of_length_le (by omega)] at h2
    exact hd H as s h1 h2 h3 h4 h5
section
variable {P : Program} {w : World} {K : PySem.W.Frag} {mg : Str → Option Value} {base : Heap}
theorem seqIx0 {t : Nat} {ts : List Nat} : seqIndex? 0 (intsV (t :: ts)).length = some 0 := by
  rw [intsV_len]
  unfold seqIndex?
  simp
def sp_Queues_pick (K : PySem.W.Frag) : Sp := fun vs H Q _ => ∃ (q : Addr) (qs : List (List Nat)) (S : List Addr), vs = [.ref q] ∧ QuAt K H q qs S ∧ QOk qs ∧ (bestQ qs = none → ∀ H', Same H H' → Q .non H') ∧
  ∀ l t ts, bestQ qs = some l → qs[l]? = some (t :: ts) → ∀ H', Fr S H H' → QuAt K H' q (popQ qs l) S → Q (.int (t : Nat)) H'
theorem k_Queues_pick (T : Tx K mg base) : Mth P w K mg base 3 (He.ga K "Queues") "pick" (sp_Queues_pick K) := by
  refine mth_ok (D_Queues_pick T) (c_Queues T) (m_Queues_pick T) sc_Queues_pick (fun vs H Q E h => ?_) (fun cdv A outer s H vs Q hr h => ?_)
  · obtain ⟨q, qs, S, rfl, _⟩ := h; rfl
  · obtain ⟨q, qs, S, rfl, hq, ok, q1, q2⟩ := h
    refine ⟨_, (pss_one (ps_ret (pe_ifExp (pt_cmpR op_isN (pe_pr (k_Queues_best T) hr (by decide) (pv 0)) pe_non (nomark _)) pe_non (pe_bm PySem.F.plainAttrs_list PySem.F.slot_list_pop PySem.F.type_list_pop mt_popAt (pe_ix ix_list (pe_fld (pv 0) rfl) (pe_pr (k_Queues_best T) hr (by decide) (pv 0)) (fun _ _ => rfl)) (pa_cons pe_int pa_nil))))), ?_⟩
    obtain ⟨dx, ll, as, h1, h2, h3, _⟩ := hq.ex
    refine ⟨_, rfl, q, dx, _, rfl, h1, q, qs, S, rfl, hq, ok, fun H2 S2 => ⟨rfl, ?_⟩⟩
    cases hb : bestQ qs with
    | none => exact ⟨_, rfl, andT rfl (q1 hb _ S2)⟩
    | some l =>
      obtain ⟨hl, t, ts, hts⟩ := bestQ_some hb
      refine ⟨_, rfl, andF rfl ?_⟩
      refine ⟨_, rfl, q, _, dx, _, .ref ll, rfl, S2 _ _ h1, c_Queues T, n_Queues_own_lists T, rfl, ?_⟩
      refine ⟨_, rfl, q, dx, _, rfl, S2 _ _ h1, q, qs, S, rfl, hq.same S2, ok, fun H3 S3 => ?_⟩
      have S := S2.trans S3
      obtain ⟨dx2, ll2, as2, a, g1, g2, g3, g4, g5⟩ := (hq.same S).set hts
      have e1 := g1.symm.trans (S _ _ h1)
      cases e1
      rw [hb]
      refine ⟨ll, _, _, _, rfl, rfl, .inl (.inl g2), atI_nat g3, ?_⟩
      refine ⟨.inl ⟨rfl, _, .inl (.inl g4)⟩, ?_⟩
      refine ⟨a, _, 0, 0, _, rfl, rfl, g4, by decide, by decide, seqIx0, rfl, ?_⟩
      have := g5 List.tail
      exact q2 l t ts hb hts _ ((Fr.of _ S).trans this.1) this.2
def rangeLst : Nat → List (List Nat) := fun n => List.replicate n []
def sp_Queues___init__ (K : PySem.W.Frag) : Sp := fun vs H Q _ => ∃ (q dx : Addr) (n : Nat), vs = [.ref q, .int n] ∧ 1 ≤ n ∧ n ≤ 3 ∧ H q = some (.ins (He.ga K "Queues") dx []) ∧
  ∀ H' S, Fr [q] H H' → QuAt K H' q (List.replicate n []) S → Grow H [q] S → Q .non H'
theorem k_Queues___init__ (T : Tx K mg base) : Mkr P w K mg base 2 "Queues" (He.ga K "Queues") (sp_Queues___init__ K) := by
  refine mkr_ok (D_Queues___init__ T) (k_Queues T) (g_Queues T) sc_Queues___init__ (fun vs H Q E h => ?_) (fun cdv A outer s H vs Q hr h => ?_)
  · obtain ⟨q, dx, n, rfl, _⟩ := h; rfl
  · obtain ⟨q, dx, n, rfl, hn1, hn3, hq, qq⟩ := h
    refine ⟨_, (pss_cons (ps_if (PW.pt (pw_or (pt_not (pt_val (pe_f (k_is_integer T) hr (by decide) rfl (pa_cons (pv 1) pa_nil)))) (pw_or1 (pt_not (pt_chain op_le op_le pe_int (pv 1) (C8.pe_gc rfl (v_MAX_LEVELS T))))))) (pss_one ps_never) pss_nil)
      (pss_one (ps_fld (pv 0) (pe_lc (own := [("level", 2)]) rfl sc_Queues___init__.nd (pi_range1 rfl (f_range T) (pa_cons (pv 1) pa_nil)) (blkOk_by (own := [("level", 2)]) (N := N_Queues___init__) (sc := C8.fnScope s_Queues___init__) (by decide +kernel)) (fun _ _ _ _ _ => (pg_name (i := 2) sc_Queues___init__.nd rfl (Or.inl rfl))) (fun _ _ _ _ _ => pts_nil) (fun _ _ _ _ _ => (pe_lst pa_nil))) rfl))), ?_⟩
    refine ⟨_, rfl, n, rfl, by omega, by omega, _, rfl, ?_⟩
    refine andF rfl ⟨_, rfl, _, _, rfl, rfl, _, rfl, andT (decide_eq_true (by omega)) ⟨_, _, rfl, rfl, _, rfl, ?_⟩⟩
    rw [show decide ((n : Int) ≤ 3) = true from decide_eq_true (by omega)]
    refine ⟨_, rfl, _, rfl, by omega, by omega, fun D hD => ?_⟩
    have en : ((n : Int).toNat) = n := rfl
    refine lc_new (walk_range (lo := 0) (n := n)) (List.replicate n []) (List.length_replicate ..) hD (Nat.lt_of_le_of_lt hn3 (by decide)) (fun _ _ _ _ => same_fn) (fun _ _ => trivial) ?_ ?_
    · rintro i x H2 H3 ts Q' hts S2 ⟨rfl, hx⟩ q'
      have e := List.eq_of_mem_replicate (List.mem_of_getElem? hts)
      subst e
      refine ⟨rfl, by show 0 ≤ sizeLine; decide, fun l hl => q' l hl⟩
    · intro H2 as S2 hD2 hp nd hnew hDas
      have hqD : q ≠ D := ne_of_none hq hD
      refine ⟨_, rfl, q, _, dx, [], rfl, S2 _ _ hq, c_Queues T, n_Queues_own_lists T, by decide, ?_⟩
      have F2 := (Fr.of [q] S2).updIn (u := .ins (He.ga K "Queues") dx (putF "own_lists" (.ref D) [])) hq trivial (List.mem_singleton.2 rfl)
      have hqas : q ∉ as := fun m => by have := hnew q m; rw [hq] at this; cases this
      refine qq _ (q :: D :: as) F2 ⟨⟨dx, D, as, upd_same, ?_, pairedNe hp (fun x hx e => hqas (e ▸ hx)), rfl⟩, ?_⟩ ?_
      · rw [upd_ne hqD.symm]; exact hD2
      · refine List.nodup_cons.2 ⟨fun m => ?_, List.nodup_cons.2 ⟨hDas, nd⟩⟩
        rcases List.mem_cons.1 m with m | m
        · exact hqD m
        · exact hqas m
      · intro a ha
        rcases List.mem_cons.1 ha with rfl | ha
        · exact .inl List.mem_cons_self
        rcases List.mem_cons.1 ha with rfl | ha
        · exact .inr hD
        · exact .inr (hnew a ha)
def sp_Queues_twin (K : PySem.W.Frag) : Sp := fun vs H Q _ => ∃ (q : Addr) (qs : List (List Nat)) (S : List Addr), vs = [.ref q] ∧ QuAt K H q qs S ∧ QOk qs ∧ 1 ≤ qs.length ∧
  ∀ H' q' S', Same H H' → QuAt K H' q' qs S' → (∀ a ∈ S', H a = none) → Q (.ref q') H'
theorem k_Queues_twin (T : Tx K mg base) : Mth P w K mg base 4 (He.ga K "Queues") "twin" (sp_Queues_twin K) := by
  refine mth_ok (D_Queues_twin T) (c_Queues T) (m_Queues_twin T) sc_Queues_twin (fun vs H Q E h => ?_) (fun cdv A outer s H vs Q hr h => ?_)
  · obtain ⟨q, qs, S, rfl, _⟩ := h; rfl
  · obtain ⟨q, qs, S, rfl, hq, ok, h1, qq⟩ := h
    obtain ⟨dx, ll, as, g1, g2, g3, _⟩ := hq.ex
    have lenA := Paired.len g3
    refine ⟨_, (pss_cons (ps_set (i := 1) sc_Queues_twin.nd rfl (Or.inl rfl) (pe_k (k_Queues___init__ T) hr (by decide) rfl (pa_cons (pe_callB call_len_seq rfl (f_len T) b_len (pa_cons (pe_fld (pv 0) rfl) pa_nil) (by decide) (by decide)) pa_nil)))
      (pss_cons (ps_fld (pv 1) (pe_lc (own := [("tasks", 2)]) rfl sc_Queues_twin.nd (pi_list (pe_fld (pv 0) rfl)) (blkOk_by (own := [("tasks", 2)]) (N := N_Queues_twin) (sc := C8.fnScope s_Queues_twin) (by decide +kernel)) (fun _ _ _ _ _ => (pg_name (i := 2) sc_Queues_twin.nd rfl (Or.inl rfl))) (fun _ _ _ _ _ => pts_nil) (fun _ _ _ _ _ => (pe_callTy (call_list_ofK (K := K) rfl) rfl (f_list T) b_list (pa_cons (pv 2) pa_nil)))) rfl)
      (pss_one (ps_ret (pv 1))))), ?_⟩
    refine ⟨_, rfl, q, _, dx, _, .ref ll, rfl, g1, c_Queues T, n_Queues_own_lists T, rfl, ll, _, rfl, .inl (.inl (.inl g2)), ?_⟩
    intro x dy hx hdy hdx
    rw [List.length_map, lenA]
    have S1 : Same H (upd (upd H dy (.own x)) x (.ins (He.ga K "Queues") dy [])) := (same_new hdy).trans (same_new (by rw [upd_ne hdx.symm]; exact hx))
    refine ⟨x, dy, qs.length, rfl, h1, ok.1, upd_same, fun H2 S' F2 Q2 G2 => ⟨rfl, ?_⟩⟩
    have S2 : Same H H2 := fun b o e => F2.keep b o (S1 _ _ e) (fun m => by rw [List.mem_singleton.1 m, hx] at e; cases e)
    obtain ⟨dx2, ll2, as2, k1, k2, k3, k4⟩ := Q2.ex
    refine ⟨_, rfl, q, _, dx, _, .ref ll, rfl, S2 _ _ g1, c_Queues T, n_Queues_own_lists T, rfl, ll, rfl, ⟨_, .inl (.inl (S2 _ _ g2))⟩, fun D hD => ?_⟩
    refine lc_new (walk_list (xs := as.map V.ref)) qs (by rw [List.length_map, lenA]) hD (by rw [List.length_map, lenA]; exact Nat.lt_of_le_of_lt ok.1 (by decide)) (fun _ _ _ _ => same_at) (fun H3 S3 => .inl (.inl (S3 _ _ (S2 _ _ g2)))) ?_ ?_
    · rintro i y H3 H4 ts Q' hts S3 ⟨rfl, hy⟩ q'
      obtain ⟨c, hc, hI⟩ := Paired.get g3 hts
      rw [List.getElem?_map, hc] at hy
      cases hy
      exact ⟨rfl, _, rfl, c, _, rfl, .inl (.inl (.inl (S3 _ _ (S2 _ _ hI)))), fun l hl => q' l hl⟩
    · intro H3 as3 S3 hD3 hp nd hnew hDas
      have hx2 := S3 _ _ k1
      have hxD : x ≠ D := ne_of_none k1 hD
      refine ⟨_, rfl, x, _, dx2, _, rfl, hx2, c_Queues T, n_Queues_own_lists T, by show 1 < 1000; decide, _, rfl, ?_⟩
      have hxas : x ∉ as3 := fun m => by have := hnew x m; rw [k1] at this; cases this
      have SH : Same H (upd H3 x (.ins (He.ga K "Queues") dx2 (putF "own_lists" (.ref D) [("own_lists", .ref ll2)]))) := fun b o e => by
        rw [upd_ne (ne_of_none e hx)]
        exact S3 _ _ (S2 _ _ e)
      refine qq _ x (x :: D :: as3) SH ⟨⟨dx2, D, as3, upd_same, ?_, pairedNe hp (fun z hz e => hxas (e ▸ hz)), rfl⟩, ?_⟩ ?_
      · rw [upd_ne hxD.symm]; exact hD3
      · refine List.nodup_cons.2 ⟨fun m => ?_, List.nodup_cons.2 ⟨hDas, nd⟩⟩
        rcases List.mem_cons.1 m with m | m
        · exact hxD m
        · exact hxas m
      · have back : ∀ a, H2 a = none → H a = none := fun a ha => by
          cases e : H a with
          | none => rfl
          | some o => have := S2 _ _ e; rw [ha] at this; cases this
        intro a ha
        rcases List.mem_cons.1 ha with rfl | ha
        · exact hx
        rcases List.mem_cons.1 ha with rfl | ha
        · exact back _ hD
        · exact back _ (hnew a ha)
theorem flat_len {m : Nat} : ∀ {qs : List (List Nat)}, (∀ ts ∈ qs, ts.length < m) → qs.flatten.length ≤ m * qs.length
  | [], _ => Nat.zero_le _
  | q :: qs, h => by
    have h1 := h q List.mem_cons_self
    have h2 := flat_len fun ts ht => h ts (List.mem_cons_of_mem _ ht)
    rw [List.flatten_cons, List.length_append, List.length_cons, Nat.mul_succ]
    omega
def sp_Queues_tasks (K : PySem.W.Frag) : Sp := fun vs H Q _ => ∃ (q : Addr) (qs : List (List Nat)) (S : List Addr), vs = [.ref q] ∧ QuAt K H q qs S ∧ QOk qs ∧ ∀ H' t, Same H H' → SqT K H' t (intsV qs.flatten) → Q (.ref t) H'
theorem k_Queues_tasks (T : Tx K mg base) : Mth P w K mg base 1 (He.ga K "Queues") "tasks" (sp_Queues_tasks K) := by
  refine mth_ok (D_Queues_tasks T) (c_Queues T) (m_Queues_tasks T) sc_Queues_tasks (fun vs H Q E h => ?_) (fun cdv A outer s H vs Q hr h => ?_)
  · obtain ⟨q, qs, S, rfl, _⟩ := h; rfl
  · obtain ⟨q, qs, S, rfl, hq, ok, qq⟩ := h
    obtain ⟨dx, ll, as, g1, g2, g3, _⟩ := hq.ex
    have lenA := Paired.len g3
    refine ⟨_, (pss_cons (ps_set (i := 1) sc_Queues_tasks.nd rfl (Or.inl rfl) (pe_lst pa_nil))
      (pss_cons (ps_for PassesOwn.never rfl (pi_list (pe_fld (pv 0) rfl)) (pg_name (i := 2) sc_Queues_tasks.nd rfl (Or.inl rfl)) (pss_one (ps_expr (pe_bm PySem.F.plainAttrs_list PySem.F.slot_list_extend PySem.F.type_list_extend mt_extend (pv 1) (pa_cons (pv 2) pa_nil)))))
      (pss_one (ps_ret (pe_callTy call_tuple_of rfl (f_tuple T) b_tuple (pa_cons (pv 1) pa_nil)))))), ?_⟩
    refine ⟨by show 0 ≤ sizeLine; decide, fun f hf => ?_⟩
    have S0 := same_new (o := .lst []) hf
    refine ⟨_, rfl, q, _, dx, _, .ref ll, rfl, S0 _ _ g1, c_Queues T, n_Queues_own_lists T, rfl, ll, rfl, ⟨_, .inl (.inl (S0 _ _ g2))⟩, ?_⟩
    refine for_it (walk_list (xs := as.map V.ref)) (fun i σ H2 => Same H H2 ∧ H2 f = some (.lst (intsV (qs.take i).flatten)) ∧ ∃ a, σ = [some (.ref q), some (.ref f), a]) ⟨S0, by rw [List.take_zero]; exact upd_same, _, rfl⟩ ?_ ?_ ?_
    · rintro i σ H2 _ ⟨S, _⟩
      exact .inl (.inl (S _ _ g2))
    · rintro i x σ H2 H3 hi ⟨S, hj, a, rfl⟩ ⟨rfl, hx⟩
      rw [List.length_map] at hi
      have hlt : i < qs.length := by omega
      have hqi : qs[i]? = some qs[i] := List.getElem?_eq_getElem hlt
      obtain ⟨c, hc, hts⟩ := Paired.get g3 hqi
      rw [List.getElem?_map, hc] at hx
      cases hx
      have hcf : c ≠ f := ne_of_none hts hf
      have e2 : (qs.take (i + 1)).flatten = (qs.take i).flatten ++ qs[i] := by rw [List.take_succ, hqi, List.flatten_append]; simp
      refine ⟨_, rfl, .inl ⟨rfl, _, .inl (.inl hj)⟩, _, rfl, ?_⟩
      have hlen : (intsV (qs.take i).flatten).length + (intsV qs[i]).length ≤ sizeLine := by
        have h1 := flat_len (m := 1000) (qs := qs.take (i + 1)) fun ts ht => ok.2 ts (List.mem_of_mem_take ht)
        rw [e2, List.length_append, List.length_take] at h1
        rw [intsV_len, intsV_len]
        have h3 := ok.1
        have h2 : min (i + 1) qs.length ≤ 3 := Nat.le_trans (Nat.min_le_right _ _) h3
        have h4 : 1000 * min (i + 1) qs.length ≤ 1000 * 3 := Nat.mul_le_mul_left _ h2
        exact Nat.le_trans h1 (Nat.le_trans h4 (by decide))
      refine ⟨f, c, _, _, rfl, rfl, hj, S _ _ hts, hlen, ?_⟩
      refine ⟨fun b o e => ?_, ?_, _, rfl⟩
      · rw [upd_ne (ne_of_none e hf)]
        exact S _ _ e
      · rw [upd_same, ← intsV_app, e2]
    · rintro σ H2 ⟨S, hj, a, rfl⟩
      rw [List.length_map, List.take_of_length_le (by omega)] at hj
      refine ⟨_, rfl, f, _, rfl, .inl ⟨.inl (.inl hj), fun t ht => ?_⟩⟩
      exact qq _ t (S.trans (same_new ht)) (.inl (.inl upd_same))
theorem dp_lists {H : Hp} : ∀ {as : List Addr} {qs : List (List Nat)}, Paired (IntsAt H) as qs → DpAll K H (as.map V.ref) (qs.map intsD)
  | _, _, .nil => .nil
  | _, _, .cons h t => .cons (IntsAt.dp h) (dp_lists t)
theorem fl_lists (qs : List (List Nat)) : Fl 2 (.list (qs.map intsD)) := Fl.list (fl_map fun ts _ => fl_ints ts)
def sp_Queues___eq__ (K : PySem.W.Frag) : Sp := fun vs H Q _ => ∃ (q q2 : Addr) (qs : List (List Nat)) (S S2 : List Addr), vs = [.ref q, .ref q2] ∧ QuAt K H q qs S ∧ QuAt K H q2 qs S2 ∧ Q (.bl true) H
theorem k_Queues___eq__ (T : Tx K mg base) : Spc P w K mg base 1 (He.ga K "Queues") "__eq__" (sp_Queues___eq__ K) := by
  refine spc_ok (D_Queues___eq__ T) (x_Queues___eq__ T) sc_Queues___eq__ (fun vs H Q E h => ?_) (fun cdv A outer s H vs Q hr h => ?_)
  · obtain ⟨q, q2, qs, S, S2, rfl, _⟩ := h; rfl
  · obtain ⟨q, q2, qs, S, S2, rfl, h1, h2, qq⟩ := h
    obtain ⟨dx, ll, as, g1, g2, g3, _⟩ := h1.ex
    obtain ⟨dx2, ll2, as2, k1, k2, k3, _⟩ := h2.ex
    refine ⟨_, (pss_one (ps_ret (pe_and (pe_callB (C8.call_isC (i_Queues T)) rfl (f_isinstance T) b_isinstance (pa_cons (pv 1) (pa_cons (C8.pe_gc (v := .ref (He.ga K "Queues")) rfl ⟨_, g_Queues T, rfl⟩) pa_nil)) (by decide) (by decide)) (pe_one (pe_cmpR (op_eqD (hr.units)) (pe_fld (pv 0) rfl) (pe_fld (pv 1) rfl) (nomark _)))))), ?_⟩
    refine ⟨_, rfl, q2, dx2, _, rfl, k1, _, rfl, andT rfl ?_⟩
    refine ⟨_, rfl, q, _, dx, _, .ref ll, rfl, g1, c_Queues T, n_Queues_own_lists T, rfl, _, rfl, q2, _, dx2, _, .ref ll2, rfl, k1, c_Queues T, n_Queues_own_lists T, rfl, ?_⟩
    refine ⟨_, _, .lst (.inl (.inl g2)) (dp_lists g3), .lst (.inl (.inl k2)) (dp_lists k3), (fl_lists qs).shaped, (fl_lists qs).shaped, ?_⟩
    rw [(fl_lists qs).refl]
    exact qq
end
end Tb
set_option Elab.async false
set_option linter.all false
set_option maxRecDepth 100000
set_option maxHeartbeats 4000000
/-! The mirror's invariants. -/
namespace Tb
open PySem
structure CrsOk (b : Bk) (x : Crs) : Prop where
  few : x.tasks.length ≤ 12
  post : ∀ (t : Nat) (m : Md) (l : Nat) (k : Option Nat), x.tasks[t]? = some (Post.st m l k) → l < b.levels.length ∧ (∀ j, k = some j → j ≤ 3) ∧ (m ≠ .asleep → ∀ j, k = some j → 1 ≤ j)
  qlen : x.queues.length = b.levels.length
  nd : x.queues.flatten.Nodup
  mem : ∀ t ∈ x.queues.flatten, ∃ (l : Nat) (k : Option Nat), x.tasks[t]? = some (Post.st .ready l k)
  run : ∀ t, x.runner = some t → ∃ (l : Nat) (k : Option Nat), x.tasks[t]? = some (Post.st .runs l k)
theorem nodup_few : ∀ (n : Nat) (l : List Nat), l.Nodup → (∀ t ∈ l, t < n) → l.length ≤ n
  | 0, l, _, h => by
    cases l with
    | nil => exact Nat.le_refl _
    | cons a l => exact absurd (h a List.mem_cons_self) (Nat.not_lt_zero _)
  | n + 1, l, nd, h => by
    by_cases m : n ∈ l
    · have h1 := nodup_few n (l.erase n) (nd.erase n) fun t ht => by
        have h2 := (nd.mem_erase_iff).1 ht
        have := h t h2.2
        omega
      rw [List.length_erase_of_mem m] at h1
      omega
    · have := nodup_few n l nd fun t ht => by
        have h1 := h t ht
        have h2 : t ≠ n := fun e => m (e ▸ ht)
        omega
      omega
theorem putQ_perm (f : Bool) (t : Nat) : ∀ (qs : List (List Nat)) (l : Nat), l < qs.length → (putQ qs l f t).flatten.Perm (t :: qs.flatten)
  | q :: qs, 0, _ => by
    unfold putQ
    rw [List.modify_zero_cons, List.flatten_cons, List.flatten_cons]
    cases f
    · show ((q ++ [t]) ++ qs.flatten).Perm _
      rw [List.append_assoc]
      exact List.perm_middle
    · exact List.Perm.refl _
  | q :: qs, l + 1, h => by
    have ih := putQ_perm f t qs l (Nat.lt_of_succ_lt_succ h)
    unfold putQ at ih ⊢
    rw [List.modify_succ_cons, List.flatten_cons, List.flatten_cons]
    exact (List.Perm.append_left q ih).trans List.perm_middle
theorem popQ_perm {t : Nat} {ts : List Nat} : ∀ (qs : List (List Nat)) (l : Nat), qs[l]? = some (t :: ts) → qs.flatten.Perm (t :: (popQ qs l).flatten)
  | [], _, h => by simp at h
  | q :: qs, 0, h => by
    simp only [List.getElem?_cons_zero, Option.some.injEq] at h
    subst h
    unfold popQ
    rw [List.modify_zero_cons]
    exact List.Perm.refl _
  | q :: qs, l + 1, h => by
    have ih := popQ_perm (t := t) (ts := ts) qs l (by simpa using h)
    unfold popQ at ih ⊢
    rw [List.modify_succ_cons, List.flatten_cons, List.flatten_cons]
    exact (List.Perm.append_left q ih).trans List.perm_middle
theorem putQ_len (qs : List (List Nat)) (l : Nat) (f : Bool) (t : Nat) : (putQ qs l f t).length = qs.length := by unfold putQ; rw [List.length_modify]
theorem popQ_len (qs : List (List Nat)) (l : Nat) : (popQ qs l).length = qs.length := by unfold popQ; rw [List.length_modify]
theorem CrsOk.qfew {b : Bk} {x : Crs} (h : CrsOk b x) : x.queues.flatten.length ≤ 12 := nodup_few 12 _ h.nd fun t ht => by
  obtain ⟨l, k, e⟩ := h.mem t ht
  have := (List.getElem?_eq_some_iff.1 e).1
  have := h.few
  omega
theorem mem_len {qs : List (List Nat)} {ts : List Nat} (h : ts ∈ qs) : ts.length ≤ qs.flatten.length := by
  induction qs with
  | nil => exact absurd h List.not_mem_nil
  | cons q qs ih =>
    rw [List.flatten_cons, List.length_append]
    rcases List.mem_cons.1 h with rfl | h
    · omega
    · have := ih h; omega
theorem CrsOk.qeach {b : Bk} {x : Crs} (h : CrsOk b x) (bo : BkOk b) : x.queues.length ≤ 3 ∧ ∀ ts ∈ x.queues, ts.length < 1000 := ⟨by rw [h.qlen]; exact bo.three, fun ts ht => by have := mem_len ht; have := h.qfew; omega⟩
/-- what an entry leads to -/
theorem moved_ok {b : Bk} (bo : BkOk b) {e : Ent} (he : e.lv < b.levels.length) {left : Option Nat} (hl : ∀ j, left = some j → j ≤ 3) : (moved b e left).1 < b.levels.length ∧ ∀ j, (moved b e left).2 = some j → 1 ≤ j ∧ j ≤ 3 := by
  have ht := (bo.at he).ticks
  unfold moved
  cases hm : (b.lev e.lv).ticks with
  | none => exact ⟨he, fun j h => by cases h⟩
  | some m =>
    have := ht m hm
    dsimp only
    split
    · exact ⟨he, fun j h => by cases h; exact this⟩
    · cases left with
      | none => exact ⟨he, fun j h => by cases h; exact this⟩
      | some k =>
        dsimp only
        split
        · exact ⟨he, fun j h => by cases h; exact this⟩
        · refine ⟨he, fun j h => ?_⟩
          cases h
          have := hl k rfl
          omega
theorem CrsOk.enters {b : Bk} {x : Crs} (h : CrsOk b x) {t : Nat} (ht : t < x.tasks.length) (nq : t ∉ x.queues.flatten) (nr : x.runner ≠ some t) {l : Nat} {k : Option Nat} (hl : l < b.levels.length) (hk : ∀ j, k = some j → 1 ≤ j ∧ j ≤ 3) (f : Bool) :
    CrsOk b { x with tasks := x.tasks.set t (.st .ready l k), queues := putQ x.queues l f t } := by
  have hp := putQ_perm f t x.queues l (by rw [h.qlen]; exact hl)
  refine ⟨?_, ?_, ?_, ?_, ?_, ?_⟩
  · rw [List.length_set]; exact h.few
  · intro u m l' k' e
    dsimp only at e
    by_cases hu : t = u
    · subst hu
      rw [List.getElem?_set_self ht] at e
      cases e
      exact ⟨hl, fun j hj => (hk j hj).2, fun _ j hj => (hk j hj).1⟩
    · rw [List.getElem?_set_ne hu] at e
      exact h.post u m l' k' e
  · rw [putQ_len]; exact h.qlen
  · exact hp.nodup_iff.2 (List.nodup_cons.2 ⟨nq, h.nd⟩)
  · intro u hu
    dsimp only at hu ⊢
    rcases List.mem_cons.1 (hp.mem_iff.1 hu) with rfl | hu
    · exact ⟨l, k, by rw [List.getElem?_set_self ht]⟩
    · rw [List.getElem?_set_ne (fun e => nq (by rw [e]; exact hu))]
      exact h.mem u hu
  · intro u hu
    dsimp only at hu ⊢
    rw [List.getElem?_set_ne (fun e => nr (by rw [e]; exact hu))]
    exact h.run u hu
theorem crsOk_new {b : Bk} (bo : BkOk b) : CrsOk b (Crs.new b) := by
  have e : (List.replicate b.levels.length ([] : List Nat)).flatten = [] := by simp
  refine ⟨by show 0 ≤ 12; decide, fun t m l k h => by simp [Crs.new] at h, by show (List.replicate _ _).length = _; rw [List.length_replicate], ?_, fun t h => ?_, fun t h => by cases h⟩
  · show (List.replicate _ _).flatten.Nodup
    rw [e]; exact List.nodup_nil
  · have h' : t ∈ (List.replicate b.levels.length ([] : List Nat)).flatten := h
    rw [e] at h'
    exact absurd h' List.not_mem_nil
theorem CrsOk.notin {b : Bk} {x : Crs} (h : CrsOk b x) {t : Nat} {m : Md} {l : Nat} {k : Option Nat} (e : x.tasks[t]? = some (.st m l k)) (hm : m ≠ .ready) : t ∉ x.queues.flatten := fun hq => by
  obtain ⟨l', k', e'⟩ := h.mem t hq
  rw [e] at e'
  cases e'
  exact hm rfl
theorem crsOk_come {b : Bk} (bo : BkOk b) {x : Crs} (h : CrsOk b x) {r : Nat} (hr : r < b.ranks.length) (few : x.tasks.length < 12) : CrsOk b (x.come b r) := by
  have hl : b.ranks.getD r 0 < b.levels.length := by
    rw [List.getD_eq_getElem?_getD, List.getElem?_eq_getElem hr]
    exact bo.ranks _ (List.getElem_mem hr)
  have ht := (bo.at hl).ticks
  have hp := putQ_perm false x.tasks.length x.queues (b.ranks.getD r 0) (by rw [h.qlen]; exact hl)
  have nq : x.tasks.length ∉ x.queues.flatten := fun m => by
    obtain ⟨l, k, e⟩ := h.mem _ m
    have := (List.getElem?_eq_some_iff.1 e).1
    omega
  unfold Crs.come
  refine ⟨?_, ?_, ?_, ?_, ?_, ?_⟩
  · rw [List.length_append]; exact few
  · intro u m l' k' e
    dsimp only at e
    by_cases hu : u < x.tasks.length
    · rw [List.getElem?_append_left hu] at e
      exact h.post u m l' k' e
    · rw [List.getElem?_append_right (by omega)] at e
      have h0 : u - x.tasks.length = 0 := by
        have := (List.getElem?_eq_some_iff.1 e).1
        simp at this
        omega
      rw [h0] at e
      cases e
      exact ⟨hl, fun j hj => (ht j hj).2, fun _ j hj => (ht j hj).1⟩
  · rw [putQ_len]; exact h.qlen
  · exact hp.nodup_iff.2 (List.nodup_cons.2 ⟨nq, h.nd⟩)
  · intro u hu
    dsimp only at hu ⊢
    rcases List.mem_cons.1 (hp.mem_iff.1 hu) with rfl | hu
    · exact ⟨_, _, by rw [List.getElem?_concat_length]⟩
    · obtain ⟨l, k, e⟩ := h.mem u hu
      exact ⟨l, k, by rw [List.getElem?_append_left (List.getElem?_eq_some_iff.1 e).1]; exact e⟩
  · intro u hu
    obtain ⟨l, k, e⟩ := h.run u hu
    exact ⟨l, k, by rw [List.getElem?_append_left (List.getElem?_eq_some_iff.1 e).1]; exact e⟩
theorem crsOk_enter {b : Bk} (bo : BkOk b) {x : Crs} (h : CrsOk b x) {t : Nat} {m : Md} {l : Nat} {k : Option Nat} (e : x.tasks[t]? = some (.st m l k)) (hm : m ≠ .ready) (nr : x.runner ≠ some t) {en : Ent} (he : en.lv < b.levels.length) : CrsOk b (x.enter b t en k) := by
  have hk := moved_ok bo he (left := k) (h.post t m l k e).2.1
  exact h.enters (List.getElem?_eq_some_iff.1 e).1 (h.notin e hm) nr hk.1 hk.2 en.front
theorem crsOk_wake {b : Bk} (bo : BkOk b) {x : Crs} (h : CrsOk b x) {t : Nat} (ha : isAsleep x t = true) : CrsOk b (x.wake b t) := by
  unfold isAsleep at ha
  unfold Crs.wake
  cases e : x.tasks[t]? with
  | none => rw [e] at ha; cases ha
  | some p =>
    cases p with
    | ended => rw [e] at ha; cases ha
    | st m l k =>
      cases m with
      | asleep =>
        refine crsOk_enter bo h e nofun (fun hr => ?_) (bo.at (h.post t _ l k e).1).wake
        obtain ⟨l', k', e'⟩ := h.run t hr
        rw [e] at e'
        cases e'
      | ready => rw [e] at ha; cases ha
      | runs => rw [e] at ha; cases ha
theorem CrsOk.noRun {b : Bk} {x : Crs} (h : CrsOk b x) : CrsOk b { x with runner := none } := ⟨h.few, h.post, h.qlen, h.nd, h.mem, fun _ z => by cases z⟩
theorem crsOk_giveUp {b : Bk} (bo : BkOk b) {x : Crs} (h : CrsOk b x) : CrsOk b (x.giveUp b) := by
  unfold Crs.giveUp
  cases hr : x.runner with
  | none => exact h
  | some t =>
    obtain ⟨l, k, e⟩ := h.run t hr
    dsimp only
    rw [e]
    exact crsOk_enter bo h.noRun e nofun nofun (bo.at (h.post t _ l k e).1).lost
theorem CrsOk.sub {b : Bk} {x : Crs} (h : CrsOk b x) {t : Nat} {ts : List Nat} {l : Nat} (e : x.queues[l]? = some (t :: ts)) :
    CrsOk b { x with queues := popQ x.queues l } ∧ t ∉ (popQ x.queues l).flatten ∧ t ∈ x.queues.flatten := by
  have hp := popQ_perm x.queues l e
  have nd := List.nodup_cons.1 (hp.nodup_iff.1 h.nd)
  exact ⟨⟨h.few, h.post, by rw [popQ_len]; exact h.qlen, nd.2, fun u hu => h.mem u (hp.mem_iff.2 (List.mem_cons_of_mem _ hu)), h.run⟩, nd.1, hp.mem_iff.2 List.mem_cons_self⟩
/-- a task changes that is in no queue and does not run -/
theorem CrsOk.setTask {b : Bk} {x : Crs} (h : CrsOk b x) {t : Nat} (nq : t ∉ x.queues.flatten) (nr : x.runner ≠ some t) {p : Post} (hp : ∀ m l k, p = .st m l k → l < b.levels.length ∧ (∀ j, k = some j → j ≤ 3) ∧ (m ≠ .asleep → ∀ j, k = some j → 1 ≤ j)) : CrsOk b { x with tasks := x.tasks.set t p } := by
  refine ⟨?_, ?_, h.qlen, h.nd, ?_, ?_⟩
  · rw [List.length_set]; exact h.few
  · intro u m l' k' e
    dsimp only at e
    rw [List.getElem?_set] at e
    split at e
    · split at e
      · cases e
        exact hp _ _ _ rfl
      · cases e
    · exact h.post u m l' k' e
  · intro u hu
    dsimp only at hu ⊢
    rw [List.getElem?_set_ne (fun e => nq (by rw [e]; exact hu))]
    exact h.mem u hu
  · intro u hu
    dsimp only at hu ⊢
    rw [List.getElem?_set_ne (fun e => nr (by rw [e]; exact hu))]
    exact h.run u hu
/-- the task that works -/
structure Works (b : Bk) (x : Crs) (t : Nat) : Prop where
  ok : CrsOk b x
  nr : x.runner = none
  nq : t ∉ x.queues.flatten
  st : ∃ m l k, x.tasks[t]? = some (Post.st m l k) ∧ l < b.levels.length ∧ (∀ j, k = some j → 1 ≤ j ∧ j ≤ 3)
theorem crsOk_pick {b : Bk} {x : Crs} (h : CrsOk b x) : (x.pick.1 = none → x.pick.2 = x ∧ x.runner = none ∧ bestQ x.queues = none) ∧ ∀ t, x.pick.1 = some t → Works b x.pick.2 t := by
  unfold Crs.pick
  cases hr : x.runner with
  | some t =>
    refine ⟨fun h => by (dsimp only at h; cases h), fun u hu => ?_⟩
    dsimp only at hu ⊢
    cases hu
    obtain ⟨l, k, e⟩ := h.run t hr
    have hp := h.post t _ l k e
    exact ⟨h.noRun, rfl, h.notin e nofun, _, l, k, e, hp.1, fun j hj => ⟨hp.2.2 nofun j hj, hp.2.1 j hj⟩⟩
  | none =>
    cases hb : bestQ x.queues with
    | none => exact ⟨fun _ => ⟨rfl, rfl, rfl⟩, fun t ht => by (dsimp only at ht; cases ht)⟩
    | some l =>
      have hs : ∃ t ts, x.queues[l]? = some (t :: ts) := by
        clear hr h
        generalize x.queues = qs at hb
        induction qs generalizing l with
        | nil => cases hb
        | cons q qs ih =>
          unfold bestQ at hb
          by_cases hq : q = []
          · rw [if_pos hq] at hb
            cases e : bestQ qs with
            | none => rw [e] at hb; cases hb
            | some m =>
              rw [e] at hb
              cases hb
              obtain ⟨t, ts, h2⟩ := ih m e
              exact ⟨t, ts, by simpa using h2⟩
          · rw [if_neg hq] at hb
            cases hb
            cases q with
            | nil => exact absurd rfl hq
            | cons t ts => exact ⟨t, ts, rfl⟩
      obtain ⟨t, ts, e⟩ := hs
      have hd : (x.queues.getD l []).head? = some t := by rw [List.getD_eq_getElem?_getD, e]; rfl
      refine ⟨fun h => by (dsimp only at h; rw [hd] at h; cases h), fun u hu => ?_⟩
      dsimp only at hu ⊢
      rw [hd] at hu
      cases hu
      obtain ⟨h1, h2, h3⟩ := h.sub e
      obtain ⟨l', k, e'⟩ := h.mem t h3
      have hp := h.post t _ l' k e'
      rw [hr] at h1
      exact ⟨h1, rfl, h2, _, l', k, e', hp.1, fun j hj => ⟨hp.2.2 nofun j hj, hp.2.1 j hj⟩⟩
theorem crsOk_work {b : Bk} (bo : BkOk b) {x : Crs} {t : Nat} (h : Works b x t) (w : Wd) : CrsOk b (x.work b t w) := by
  obtain ⟨m, l, k, e, hl, hk⟩ := h.st
  have nr : x.runner ≠ some t := by rw [h.nr]; nofun
  have hlt := (List.getElem?_eq_some_iff.1 e).1
  unfold Crs.work
  by_cases hw : w = .end_
  · rw [if_pos hw]
    exact h.ok.setTask h.nq nr fun m l k z => by cases z
  · rw [if_neg hw, e]
    have hk1 : ∀ j, k.map (· - 1) = some j → j ≤ 3 := fun j hj => by
      cases k with
      | none => cases hj
      | some i => cases hj; have := (hk i rfl).2; show i - 1 ≤ 3; omega
    have way : ∀ en : Ent, en.lv < b.levels.length → CrsOk b { x with tasks := x.tasks.set t (.st .ready (moved b en (k.map (· - 1))).1 (moved b en (k.map (· - 1))).2), queues := putQ x.queues (moved b en (k.map (· - 1))).1 en.front t } := fun en he => by
      have hm := moved_ok bo he hk1
      exact h.ok.enters hlt h.nq nr hm.1 hm.2 en.front
    have o := bo.at hl
    dsimp only
    cases w with
    | sleep =>
      unfold afterW
      dsimp only
      have := h.ok.setTask h.nq nr (p := .st .asleep l (k.map (· - 1))) fun m' l' k' z => by
        cases z
        exact ⟨hl, hk1, fun z => absurd rfl z⟩
      rw [if_pos rfl, ← h.nr]
      exact this
    | on =>
      unfold afterW
      dsimp only
      by_cases h0 : k.map (· - 1) = some 0
      · rw [if_pos h0]
        exact way { (b.lev l).used with new := true } o.used
      · rw [if_neg h0]
        dsimp only
        have ok2 := h.ok.setTask h.nq nr (p := .st .runs l (k.map (· - 1))) fun m' l' k' z => by
          cases z
          refine ⟨hl, hk1, fun _ j hj => ?_⟩
          cases j with
          | zero => exact absurd hj h0
          | succ j => omega
        rw [if_neg (by decide)]
        exact ⟨ok2.few, ok2.post, ok2.qlen, ok2.nd, ok2.mem, fun u hu => by
          cases hu
          exact ⟨l, _, by dsimp only; rw [List.getElem?_set_self hlt]⟩⟩
    | way => exact way _ o.way
    | end_ => exact absurd rfl hw
    | bell => exact way _ o.way
theorem crsOk_tick {b : Bk} (bo : BkOk b) {x : Crs} (h : CrsOk b x) (w : Wd) : CrsOk b (x.tick b w).1 := by
  unfold Crs.tick
  have h1 : CrsOk b (if x.isTaken b (w == .bell) then x.giveUp b else x) := by
    split
    · exact crsOk_giveUp bo h
    · exact h
  dsimp only
  generalize (if x.isTaken b (w == .bell) then x.giveUp b else x) = c1 at h1
  split
  · exact h1
  · have hp := crsOk_pick h1
    cases e : c1.pick with
    | mk o c2 =>
      rw [e] at hp
      cases o with
      | none =>
        have e2 : c2 = c1 := (hp.1 rfl).1
        rw [← e2] at h1
        exact h1
      | some t => exact crsOk_work bo (hp.2 t rfl) w
end Tb
set_option Elab.async false
set_option linter.all false
set_option maxRecDepth 100000
set_option maxHeartbeats 4000000
/-! Courses. -/
namespace Tb
open PySem PySem.Spec PyProof.Rows L2
structure CrsAt (K : PySem.W.Frag) (H : Hp) (c ba : Addr) (x : Crs) (S : List Addr) : Prop where
  ex : ∃ dx tl q Sq, H c = some (.ins (He.ga K "Course") dx [("own_book", .ref ba), ("own_tasks", .ref tl), ("own_queues", .ref q), ("own_runner", optV x.runner)]) ∧ Dl K H tl (x.tasks.map Post.d) ∧ QuAt K H q x.queues Sq ∧ S = c :: tl :: Sq
  nd : S.Nodup
theorem CrsAt.fr {K : PySem.W.Frag} {H H' : Hp} {c ba : Addr} {x : Crs} {S T : List Addr} (h : CrsAt K H c ba x S) (f : Fr T H H') (n : ∀ a ∈ S, a ∉ T) : CrsAt K H' c ba x S := by
  obtain ⟨dx, tl, q, Sq, h1, h2, h3, rfl⟩ := h.ex
  exact ⟨⟨dx, tl, q, Sq, f.keep _ _ h1 (n _ List.mem_cons_self), h2.fr f (n _ (List.mem_cons_of_mem _ List.mem_cons_self)), h3.fr f fun a ha => n a (List.mem_cons_of_mem _ (List.mem_cons_of_mem _ ha)), rfl⟩, h.nd⟩
theorem CrsAt.same {K : PySem.W.Frag} {H H' : Hp} {c ba : Addr} {x : Crs} {S : List Addr} (h : CrsAt K H c ba x S) (s : Same H H') : CrsAt K H' c ba x S := h.fr (Fr.of [] s) fun _ _ => List.not_mem_nil
theorem CrsAt.live {K : PySem.W.Frag} {H : Hp} {c ba : Addr} {x : Crs} {S : List Addr} (h : CrsAt K H c ba x S) : ∀ a ∈ S, H a ≠ none := by
  obtain ⟨dx, tl, q, Sq, h1, ⟨xs, h2, _⟩, h3, rfl⟩ := h.ex
  intro a ha
  rcases List.mem_cons.1 ha with rfl | ha
  · rw [h1]; exact nofun
  rcases List.mem_cons.1 ha with rfl | ha
  · rw [h2]; exact nofun
  exact h3.some a ha
/-- a course with its book, which stands since H0 -/
structure CrsIn (K : PySem.W.Frag) (H0 H : Hp) (c ba : Addr) (b : Bk) (x : Crs) (S : List Addr) : Prop where
  at_ : CrsAt K H c ba x S
  bk : BkIn K H0 H ba b
  bo : BkOk b
  new : ∀ a ∈ S, H0 a = none
  ok : CrsOk b x
theorem CrsIn.step {K : PySem.W.Frag} {H0 H H' : Hp} {c ba : Addr} {b : Bk} {x : Crs} {S : List Addr} (h : CrsIn K H0 H c ba b x S) (s : Same H H') : CrsIn K H0 H' c ba b x S := ⟨h.at_.same s, h.bk.step s, h.bo, h.new, h.ok⟩
theorem CrsIn.to {K : PySem.W.Frag} {H0 H H' : Hp} {c ba : Addr} {b : Bk} {x y : Crs} {S : List Addr} (h : CrsIn K H0 H c ba b x S) (f : Fr S H H') (a : CrsAt K H' c ba y S) (o : CrsOk b y) : CrsIn K H0 H' c ba b y S := ⟨a, h.bk.fr f h.new, h.bo, h.new, o⟩
section
variable {P : Program} {w : World} {K : PySem.W.Frag} {mg : Str → Option Value} {base : Heap}
theorem post_at {H : Hp} {xs : List V} {ps : List Post} (t : Tds K H xs (ps.map Post.d)) {i : Nat} {p : Post} (h : ps[i]? = some p) : ∃ v, xs[i]? = some v ∧ Td K H v p.d := t.get (by rw [List.getElem?_map, h]; rfl)
def sp_Course_is_asleep (K : PySem.W.Frag) : Sp := fun vs H Q _ => ∃ (c ba : Addr) (t : Nat) (x : Crs) (S : List Addr), vs = [.ref c, .int t] ∧ CrsAt K H c ba x S ∧ x.tasks.length < 1000 ∧ Q (.bl (isAsleep x t)) H
theorem k_Course_is_asleep (T : Tx K mg base) : Mth P w K mg base 1 (He.ga K "Course") "is_asleep" (sp_Course_is_asleep K) := by
  refine mth_ok (D_Course_is_asleep T) (c_Course T) (m_Course_is_asleep T) sc_Course_is_asleep (fun vs H Q E h => ?_) (fun cdv A outer s H vs Q hr h => ?_)
  · obtain ⟨c, ba, t, x, S, rfl, _⟩ := h; rfl
  · obtain ⟨c, ba, t, x, S, rfl, hc, few, qq⟩ := h
    obtain ⟨dx, tl, q, Sq, h1, ⟨xs, h2, h3⟩, h4, _⟩ := hc.ex
    have lenX : xs.length = x.tasks.length := by rw [h3.len, List.length_map]
    refine ⟨_, (pss_one (ps_ret (pe_and (pe_cmpR op_lt (pv 1) (pe_callB call_len_seq rfl (f_len T) b_len (pa_cons (pe_fld (pv 0) rfl) pa_nil) (by decide) (by decide)) (nomark _)) (pe_one (pe_cmpR op_eq (pe_ix ix_tup (pe_ix ix_list (pe_fld (pv 0) rfl) (pv 1) (fun _ _ => rfl)) pe_int (fun _ _ => rfl)) (C8.pe_gc rfl (v_ASLEEP T)) (nomark _)))))), ?_⟩
    refine ⟨_, rfl, _, rfl, c, _, dx, _, .ref tl, rfl, h1, c_Course T, n_Course_own_tasks T, rfl, tl, xs, rfl, .inl (.inl (.inl h2)), _, _, rfl, rfl, _, rfl, ?_⟩
    rw [lenX]
    by_cases hlt : t < x.tasks.length
    · refine andT (decide_eq_true (by omega)) ?_
      obtain ⟨v, hv, td⟩ := post_at h3 (List.getElem?_eq_getElem hlt)
      have e : x.tasks[t]? = some x.tasks[t] := List.getElem?_eq_getElem hlt
      unfold isAsleep at qq
      rw [e] at qq
      cases hp : x.tasks[t] with
      | ended =>
        rw [hp] at td qq
        obtain ⟨a, rfl, ha⟩ := td.ended
        exact ⟨_, rfl, c, _, dx, _, .ref tl, rfl, h1, c_Course T, n_Course_own_tasks T, rfl, _, rfl, tl, _, _, _, rfl, rfl, .inl (.inl h2), atI_nat hv, a, _, _, _, rfl, rfl, ha, atI_nat (j := 0) rfl, rfl, qF (by decide +kernel) qq⟩
      | st m l k =>
        rw [hp] at td qq
        obtain ⟨a, rfl, ha⟩ := td.post
        refine ⟨_, rfl, c, _, dx, _, .ref tl, rfl, h1, c_Course T, n_Course_own_tasks T, rfl, _, rfl, tl, _, _, _, rfl, rfl, .inl (.inl h2), atI_nat hv, a, _, _, _, rfl, rfl, ha, atI_nat (j := 0) rfl, rfl, ?_⟩
        cases m
        · exact qT (by decide +kernel) qq
        · exact qF (by decide +kernel) qq
        · exact qF (by decide +kernel) qq
    · refine andF (decide_eq_false (by omega)) ?_
      unfold isAsleep at qq
      rw [List.getElem?_eq_none (by omega)] at qq
      exact qq
def sp_Course_taking (K : PySem.W.Frag) : Sp := fun vs H Q _ => ∃ (H0 : Hp) (c ba : Addr) (b : Bk) (x : Crs) (S : List Addr), vs = [.ref c] ∧ CrsIn K H0 H c ba b x S ∧ Q (.int (x.taking b : Nat)) H
theorem k_Course_taking (T : Tx K mg base) : Mth P w K mg base 1 (He.ga K "Course") "taking" (sp_Course_taking K) := by
  refine mth_ok (D_Course_taking T) (c_Course T) (m_Course_taking T) sc_Course_taking (fun vs H Q E h => ?_) (fun cdv A outer s H vs Q hr h => ?_)
  · obtain ⟨H0, c, ba, b, x, S, rfl, _⟩ := h; rfl
  · obtain ⟨H0, c, ba, b, x, S, rfl, hc, qq⟩ := h
    obtain ⟨dx, tl, q, Sq, h1, ⟨xs, h2, h3⟩, h4, _⟩ := hc.at_.ex
    refine ⟨_, (pss_cons (ps_if (pt_cmpR op_isN (pe_fld (pv 0) rfl) pe_non (nomark _)) (pss_one (ps_ret pe_int)) pss_nil)
      (pss_one (ps_ret (pe_dget (hu_of hr) (pe_fld (pe_ix ix_tup (pe_fld (pe_fld (pv 0) rfl) rfl) (pe_ix ix_tup (pe_ix ix_list (pe_fld (pv 0) rfl) (pe_fld (pv 0) rfl) (fun _ _ => rfl)) pe_int (fun _ _ => rfl)) (fun _ _ => rfl)) rfl) (C8.pe_gc rfl (v_TAKES T)) (fun _ _ => rfl))))), ?_⟩
    refine ⟨_, rfl, c, _, dx, _, _, rfl, h1, c_Course T, n_Course_own_runner T, rfl, rfl, ?_⟩
    unfold Crs.taking at qq
    cases hr : x.runner with
    | none =>
      rw [hr] at qq
      exact ⟨true, rfl, andT rfl qq⟩
    | some t =>
      rw [hr] at qq h1
      obtain ⟨l, k, e⟩ := hc.ok.run t hr
      dsimp only at qq
      rw [e] at qq
      obtain ⟨v, hv, td⟩ := post_at h3 e
      obtain ⟨a, rfl, ha⟩ := td.post
      obtain ⟨dy, lt, rt, as, cl, g1, g2, g3, g4⟩ := hc.bk.now.lev (hc.ok.post t _ l k e).1
      obtain ⟨dz, d, us, wk, wy, lo, k1, k2, _⟩ := g4.ex
      refine ⟨false, rfl, andF rfl ?_⟩
      exact ⟨_, rfl, c, _, dx, _, .ref ba, rfl, h1, c_Course T, n_Course_own_book T, rfl, ba, _, dy, _, .ref lt, rfl, g1, c_Book T, n_Book_own_levels T, rfl,
        _, rfl, c, _, dx, _, .ref tl, rfl, h1, c_Course T, n_Course_own_tasks T, rfl, _, rfl, c, _, dx, _, .int t, rfl, h1, c_Course T, n_Course_own_runner T, rfl,
        tl, _, _, _, rfl, rfl, .inl (.inl h2), atI_nat hv, a, _, _, _, rfl, rfl, ha, atI_nat (j := 1) rfl, lt, _, _, _, rfl, rfl, g2, atI_nat g3, cl, _, dz, _, .ref d, rfl, k1, c_Level T, n_Level_own_entries T, rfl,
        d, _, rfl, .inl ⟨_, .inr "takes", .inl k2, rfl, rfl⟩, qq⟩
end
end Tb
set_option Elab.async false
set_option linter.all false
set_option maxRecDepth 100000
set_option maxHeartbeats 4000000
/-! Courses, second part. -/
namespace Tb
open PySem PySem.Spec PyProof.Rows L2
section
variable {P : Program} {w : World} {K : PySem.W.Frag} {mg : Str → Option Value} {base : Heap}
/-- the word of a tick, or none: whether it is a bell -/
def WordV (v : V) (bell : Bool) : Prop := (bell = true ∧ v = .str "bell") ∨ (bell = false ∧ (v = .non ∨ ∃ w : Wd, w ≠ .bell ∧ v = .str w.s))
def sp_Course_is_taken (K : PySem.W.Frag) : Sp := fun vs H Q _ => ∃ (H0 : Hp) (c ba : Addr) (b : Bk) (x : Crs) (S : List Addr) (v : V) (bell : Bool), vs = [.ref c, v] ∧ WordV v bell ∧ CrsIn K H0 H c ba b x S ∧ ∀ H', Same H H' → Q (.bl (x.isTaken b bell)) H'
theorem k_Course_is_taken (T : Tx K mg base) : Mth P w K mg base 3 (He.ga K "Course") "is_taken" (sp_Course_is_taken K) := by
  refine mth_ok (D_Course_is_taken T) (c_Course T) (m_Course_is_taken T) sc_Course_is_taken (fun vs H Q E h => ?_) (fun cdv A outer s H vs Q hr h => ?_)
  · obtain ⟨H0, c, ba, b, x, S, v, bell, rfl, _⟩ := h; rfl
  · obtain ⟨H0, c, ba, b, x, S, v, bell, rfl, hv, hc, qq⟩ := h
    obtain ⟨dx, tl, q, Sq, h1, h2, h4, _⟩ := hc.at_.ex
    refine ⟨_, (pss_cons (ps_set (i := 2) sc_Course_is_taken.nd rfl (Or.inl rfl) (pe_pr (k_Queues_best T) hr (by decide) (pe_fld (pv 0) rfl)))
      (pss_one (ps_ret (pe_ifExp (pt_cmpR op_eq (pv 1) (C8.pe_gc rfl (v_BELL T)) (nomark _)) (pe_cmpR op_gt (pe_m0 (k_Course_taking T) hr (by decide) (pv 0)) pe_int (nomark _)) (pe_and (pe_cmp (pc_notN (pv 2)) rfl) (pe_one (pe_cmpR op_lt (pv 2) (pe_m0 (k_Course_taking T) hr (by decide) (pv 0)) (nomark _)))))))), ?_⟩
    obtain ⟨dq, ll, as, g1, _⟩ := h4.ex
    refine ⟨_, rfl, c, _, dx, _, .ref q, rfl, h1, c_Course T, n_Course_own_queues T, rfl, q, dq, _, rfl, g1, q, x.queues, Sq, rfl, h4, hc.ok.qeach hc.bo, fun H2 S2 => ?_⟩
    have hc2 := hc.step S2
    unfold Crs.isTaken at qq
    rcases hv with ⟨rfl, rfl⟩ | ⟨rfl, hv⟩
    · refine ⟨_, rfl, rfl, true, by decide +kernel, andT rfl ⟨_, rfl, c, dx, _, rfl, S2 _ _ h1, rfl, H0, c, ba, b, x, S, rfl, hc2, _, _, rfl, rfl, ?_⟩⟩
      have e : decide (((x.taking b : Nat) : Int) > 0) = decide (0 < x.taking b) := by
        by_cases h : 0 < x.taking b
        · rw [decide_eq_true h, decide_eq_true (by omega)]
        · rw [decide_eq_false h, decide_eq_false (by omega)]
      have := qq _ S2
      rw [if_pos rfl, ← e] at this
      exact this
    · have hne : rEq v (.str "bell") H2 fun x' H' => ∃ k, x' = V.bl k ∧ k = false ∧ H' = H2 := by
        rcases hv with rfl | ⟨w, hw, rfl⟩
        · exact ⟨rfl, false, by decide +kernel, rfl, rfl⟩
        · refine ⟨rfl, false, ?_, rfl, rfl⟩
          cases w <;> first | exact absurd rfl hw | decide +kernel
      obtain ⟨hs, k, hk, rfl, _⟩ := hne
      refine ⟨_, rfl, hs, _, hk, andF rfl ?_⟩
      have q2 := qq _ S2
      rw [if_neg (by decide)] at q2
      cases hb : bestQ x.queues with
      | none =>
        rw [hb] at q2
        exact ⟨_, rfl, false, rfl, andF rfl q2⟩
      | some l =>
        rw [hb] at q2
        refine ⟨_, rfl, true, rfl, andT rfl ⟨_, rfl, _, rfl, c, dx, _, rfl, S2 _ _ h1, rfl, H0, c, ba, b, x, S, rfl, hc2, _, _, rfl, rfl, ?_⟩⟩
        have e : decide (((l : Nat) : Int) < ((x.taking b : Nat) : Int)) = decide (l < x.taking b) := by
          by_cases h : l < x.taking b
          · rw [decide_eq_true h, decide_eq_true (by omega)]
          · rw [decide_eq_false h, decide_eq_false (by omega)]
        dsimp only at q2
        rw [← e] at q2
        exact q2
theorem ixN_nat {n t : Nat} (h : t < n) : ixN n (t : Int) = some t := by
  unfold ixN
  rw [if_pos (by omega), if_pos (by omega)]
  rfl
def sp_Course_enter (K : PySem.W.Frag) : Sp := fun vs H Q _ => ∃ (c ba pa : Addr) (t l : Nat) (k : Option Nat) (f : Bool) (x : Crs) (S : List Addr), vs = [.ref c, .int t, .ref pa, .str (plV f)] ∧ CrsAt K H c ba x S ∧ t < x.tasks.length ∧ SqT K H pa [.str "ready", .int l, leftV k] ∧ QOk x.queues ∧ l < x.queues.length ∧
  ∀ H', Fr S H H' → CrsAt K H' c ba { x with tasks := x.tasks.set t (.st .ready l k), queues := putQ x.queues l f t } S → Q .non H'
theorem k_Course_enter (T : Tx K mg base) : Mth P w K mg base 2 (He.ga K "Course") "enter" (sp_Course_enter K) := by
  refine mth_ok (D_Course_enter T) (c_Course T) (m_Course_enter T) sc_Course_enter (fun vs H Q E h => ?_) (fun cdv A outer s H vs Q hr h => ?_)
  · obtain ⟨c, ba, pa, t, l, k, f, x, S, rfl, _⟩ := h; rfl
  · obtain ⟨c, ba, pa, t, l, k, f, x, S, rfl, hc, ht, hp, qok, hl, qq⟩ := h
    obtain ⟨dx, tl, q, Sq, h1, ⟨xs, h2, h3⟩, h4, rfl⟩ := hc.ex
    have lenX : xs.length = x.tasks.length := by rw [h3.len, List.length_map]
    refine ⟨_, (pss_cons (ps_asg (pv 2) (pg_sub (pe_fld (pv 0) rfl) (pv 1) set_list))
      (pss_one (ps_expr (pe_m (k_Queues_put T) hr (by decide) (pe_fld (pv 0) rfl) (pa_cons (pv 1) (pa_cons (pe_ix ix_tup (pv 2) pe_int (fun _ _ => rfl)) (pa_cons (pv 3) pa_nil))))))), ?_⟩
    have nd1 := List.nodup_cons.1 hc.nd
    have nd2 := List.nodup_cons.1 nd1.2
    have hctl : c ≠ tl := ne_mem nd1.1 List.mem_cons_self
    have F1 : Fr [tl] H (upd H tl (.lst (xs.set t (.ref pa)))) := Fr.wr h2 trivial (List.mem_singleton.2 rfl)
    have hq1 := h4.fr F1 fun a ha m => nd2.1 (by rw [← List.mem_singleton.1 m]; exact ha)
    obtain ⟨dq, ll, as, g1, _⟩ := hq1.ex
    refine ⟨_, rfl, _, rfl, c, _, dx, _, .ref tl, rfl, h1, c_Course T, n_Course_own_tasks T, rfl, _, rfl, tl, xs, _, t, rfl, rfl, h2, ixN_nat (by omega), ?_⟩
    refine ⟨_, rfl, c, _, dx, _, .ref q, rfl, by rw [upd_ne hctl]; exact h1, c_Course T, n_Course_own_queues T, rfl, q, dq, _, rfl, g1, rfl, _, rfl, _, rfl, pa, _, _, _, rfl, rfl, F1.sqT hp, atI_nat (j := 1) rfl, _, rfl, ?_⟩
    refine ⟨q, t, l, f, x.queues, Sq, rfl, hq1, qok, hl, fun H2 F2 Q2 => ?_⟩
    have FS : Fr (c :: tl :: Sq) H H2 := (F1.mono fun a m => by rw [List.mem_singleton.1 m]; exact List.mem_cons_of_mem _ List.mem_cons_self).trans (F2.mono fun a m => List.mem_cons_of_mem _ (List.mem_cons_of_mem _ m))
    refine qq _ FS ⟨⟨dx, tl, q, Sq, ?_, ⟨xs.set t (.ref pa), ?_, ?_⟩, Q2, rfl⟩, hc.nd⟩
    · refine F2.keep _ _ ?_ fun m => nd1.1 (List.mem_cons_of_mem _ m)
      rw [upd_ne hctl]; exact h1
    · exact F2.keep _ _ upd_same nd2.1
    · rw [List.map_set]
      exact (h3.fr FS).set t (td_post (m := .ready) (FS.sqT hp))
/-- an entry of a task into its queue -/
def sp_Course_wake_up (K : PySem.W.Frag) : Sp := fun vs H Q _ => ∃ (H0 : Hp) (c ba : Addr) (t : Nat) (b : Bk) (x : Crs) (S : List Addr), vs = [.ref c, .int t] ∧ CrsIn K H0 H c ba b x S ∧ isAsleep x t = true ∧
  ∀ H', Fr S H H' → CrsIn K H0 H' c ba b (x.wake b t) S → Q .non H'
theorem asleep_at {x : Crs} {t : Nat} (h : isAsleep x t = true) : ∃ l k, x.tasks[t]? = some (Post.st .asleep l k) := by
  unfold isAsleep at h
  cases e : x.tasks[t]? with
  | none => rw [e] at h; cases h
  | some p =>
    rw [e] at h
    cases p with
    | ended => cases h
    | st m l k => cases m <;> first | exact ⟨l, k, rfl⟩ | cases h
theorem k_Course_wake_up (T : Tx K mg base) : Mth P w K mg base 4 (He.ga K "Course") "wake_up" (sp_Course_wake_up K) := by
  refine mth_ok (D_Course_wake_up T) (c_Course T) (m_Course_wake_up T) sc_Course_wake_up (fun vs H Q E h => ?_) (fun cdv A outer s H vs Q hr h => ?_)
  · obtain ⟨H0, c, ba, t, b, x, S, rfl, _⟩ := h; rfl
  · obtain ⟨H0, c, ba, t, b, x, S, rfl, hc, hs, qq⟩ := h
    obtain ⟨dx, tl, q, Sq, h1, ⟨xs, h2, h3⟩, h4, _⟩ := hc.at_.ex
    obtain ⟨l, k, e⟩ := asleep_at hs
    obtain ⟨v, hv, td⟩ := post_at h3 e
    obtain ⟨a, rfl, ha⟩ := td.post
    have hpo := hc.ok.post t _ l k e
    have hlt := (List.getElem?_eq_some_iff.1 e).1
    have hen := (hc.bo.at hpo.1).wake
    have hmv := moved_ok hc.bo hen hpo.2.1
    refine ⟨_, (pss_cons (ps_asg (pe_f (k_entered T) hr (by decide) rfl (pa_cons (pe_fld (pv 0) rfl) (pa_cons (C8.pe_gc rfl (v_WAKE T)) (pa_cons (pe_ix ix_list (pe_fld (pv 0) rfl) (pv 1) (fun _ _ => rfl)) pa_nil)))) (pg_tup (by rfl) (pgs_cons (pg_name (i := 2) sc_Course_wake_up.nd rfl (Or.inl rfl)) (pgs_cons (pg_name (i := 3) sc_Course_wake_up.nd rfl (Or.inl rfl)) pgs_nil))))
      (pss_one (ps_expr (pe_m (k_Course_enter T) hr (by decide) (pv 0) (pa_cons (pv 1) (pa_cons (pv 2) (pa_cons (pv 3) pa_nil))))))), ?_⟩
    refine ⟨_, rfl, c, _, dx, _, .ref ba, rfl, h1, c_Course T, n_Course_own_book T, rfl, _, rfl, c, _, dx, _, .ref tl, rfl, h1, c_Course T, n_Course_own_tasks T, rfl, _, rfl, tl, _, _, _, rfl, rfl, .inl (.inl h2), atI_nat hv, ?_⟩
    refine ⟨ba, a, b, .asleep, l, "wake", k, (b.lev l).wake, rfl, hc.bk.now, hc.bo, hpo.1, rfl, ha, fun H2 t2 S2 ⟨u, hu, ht2⟩ => ?_⟩
    obtain ⟨u', e', hu2⟩ := Td.post hu
    cases e'
    refine ⟨t2, _, rfl, ht2, rfl, _, _, rfl, _, _, rfl, rfl, ?_⟩
    have hc2 := hc.step S2
    refine ⟨_, rfl, c, dx, _, rfl, S2 _ _ h1, rfl, _, rfl, _, rfl, _, rfl, c, ba, u, t, (moved b (b.lev l).wake k).1, (moved b (b.lev l).wake k).2, (b.lev l).wake.front, x, S, rfl, hc2.at_, hlt, hu2, hc.ok.qeach hc.bo, by rw [hc.ok.qlen]; exact hmv.1, fun H3 F3 C3 => ?_⟩
    have FS : Fr S H H3 := (Fr.of S S2).trans F3
    have ew : x.wake b t = x.enter b t (b.lev l).wake k := by unfold Crs.wake; rw [e]
    refine qq _ FS (hc.to FS ?_ (crsOk_wake hc.bo hc.ok hs))
    rw [ew]
    exact C3
def sp_Course_give_up (K : PySem.W.Frag) : Sp := fun vs H Q _ => ∃ (H0 : Hp) (c ba : Addr) (t : Nat) (b : Bk) (x : Crs) (S : List Addr), vs = [.ref c] ∧ CrsIn K H0 H c ba b x S ∧ x.runner = some t ∧
  ∀ H', Fr S H H' → CrsIn K H0 H' c ba b (x.giveUp b) S → Q .non H'
theorem CrsAt.setRunner {H : Hp} {c ba : Addr} {x : Crs} {S : List Addr} (h : CrsAt K H c ba x S) (r : Option Nat) : ∀ {dx : Addr} {fs : List (Str × V)}, H c = some (.ins (He.ga K "Course") dx fs) →
    Fr S H (upd H c (.ins (He.ga K "Course") dx (putF "own_runner" (optV r) fs))) ∧ CrsAt K (upd H c (.ins (He.ga K "Course") dx (putF "own_runner" (optV r) fs))) c ba { x with runner := r } S := by
  obtain ⟨dx, tl, q, Sq, h1, h2, h3, rfl⟩ := h.ex
  intro dx' fs e
  rw [h1] at e
  cases e
  have nd1 := List.nodup_cons.1 h.nd
  have F1 : Fr [c] H (upd H c (.ins (He.ga K "Course") dx (putF "own_runner" (optV r) [("own_book", .ref ba), ("own_tasks", .ref tl), ("own_queues", .ref q), ("own_runner", optV x.runner)]))) := Fr.wr h1 trivial (List.mem_singleton.2 rfl)
  refine ⟨F1.mono fun a m => by rw [List.mem_singleton.1 m]; exact List.mem_cons_self, ⟨dx, tl, q, Sq, upd_same, h2.fr F1 fun m => nd1.1 (by rw [← List.mem_singleton.1 m]; exact List.mem_cons_self), h3.fr F1 fun a ha m => nd1.1 (by rw [← List.mem_singleton.1 m]; exact List.mem_cons_of_mem _ ha), rfl⟩, h.nd⟩
theorem k_Course_give_up (T : Tx K mg base) : Mth P w K mg base 4 (He.ga K "Course") "give_up" (sp_Course_give_up K) := by
  refine mth_ok (D_Course_give_up T) (c_Course T) (m_Course_give_up T) sc_Course_give_up (fun vs H Q E h => ?_) (fun cdv A outer s H vs Q hr h => ?_)
  · obtain ⟨H0, c, ba, t, b, x, S, rfl, _⟩ := h; rfl
  · obtain ⟨H0, c, ba, t, b, x, S, rfl, hc, hrun, qq⟩ := h
    obtain ⟨dx, tl, q, Sq, h1, ⟨xs, h2, h3⟩, h4, _⟩ := hc.at_.ex
    obtain ⟨l, k, e⟩ := hc.ok.run t hrun
    have hpo := hc.ok.post t _ l k e
    have hlt := (List.getElem?_eq_some_iff.1 e).1
    have hen := (hc.bo.at hpo.1).lost
    have hmv := moved_ok hc.bo hen hpo.2.1
    refine ⟨_, (pss_cons (ps_asg (pe_tup (pa_cons (pe_fld (pv 0) rfl) (pa_cons pe_non pa_nil))) (pg_tup (by rfl) (pgs_cons (pg_name (i := 1) sc_Course_give_up.nd rfl (Or.inl rfl)) (pgs_cons (pg_fld (pv 0)) pgs_nil))))
      (pss_cons (ps_asg (pe_f (k_entered T) hr (by decide) rfl (pa_cons (pe_fld (pv 0) rfl) (pa_cons (C8.pe_gc rfl (v_LOST T)) (pa_cons (pe_ix ix_list (pe_fld (pv 0) rfl) (pv 1) (fun _ _ => rfl)) pa_nil)))) (pg_tup (by rfl) (pgs_cons (pg_name (i := 2) sc_Course_give_up.nd rfl (Or.inl rfl)) (pgs_cons (pg_name (i := 3) sc_Course_give_up.nd rfl (Or.inl rfl)) pgs_nil))))
      (pss_one (ps_expr (pe_m (k_Course_enter T) hr (by decide) (pv 0) (pa_cons (pv 1) (pa_cons (pv 2) (pa_cons (pv 3) pa_nil)))))))), ?_⟩
    refine ⟨_, rfl, c, _, dx, _, _, rfl, h1, c_Course T, n_Course_own_runner T, rfl, ?_⟩
    rw [hrun] at h1 ⊢
    refine ⟨by show 2 ≤ sizeLine; decide, fun p hp => ⟨p, _, rfl, .inl (.inl upd_same), rfl, _, _, rfl, _, _, rfl, ?_⟩⟩
    have S1 := same_new (o := .tup [optV (some t), .non]) hp
    have hc1 := hc.step S1
    refine ⟨_, rfl, c, _, dx, _, rfl, S1 _ _ h1, c_Course T, n_Course_own_runner T, by show 4 < 1000; decide, rfl, ?_⟩
    obtain ⟨F2, C2⟩ := hc1.at_.setRunner none (S1 _ _ h1)
    have hc2 : CrsIn K H0 _ c ba b { x with runner := none } S := hc1.to F2 C2 hc.ok.noRun
    obtain ⟨dx', tl', q', Sq', g1, ⟨xs', g2, g3⟩, g4, _⟩ := hc2.at_.ex
    obtain ⟨v, hv, td⟩ := post_at g3 e
    obtain ⟨a, rfl, ha⟩ := td.post
    refine ⟨_, rfl, c, _, dx', _, .ref ba, rfl, g1, c_Course T, n_Course_own_book T, rfl, _, rfl, c, _, dx', _, .ref tl', rfl, g1, c_Course T, n_Course_own_tasks T, rfl, _, rfl, tl', _, _, _, rfl, rfl, .inl (.inl g2), atI_nat hv, ?_⟩
    refine ⟨ba, a, b, .runs, l, "lost", k, (b.lev l).lost, rfl, hc2.bk.now, hc.bo, hpo.1, rfl, ha, fun H2 t2 S2 ⟨u, hu, ht2⟩ => ?_⟩
    obtain ⟨u', e', hu2⟩ := Td.post hu
    cases e'
    refine ⟨t2, _, rfl, ht2, rfl, _, _, rfl, _, _, rfl, rfl, ?_⟩
    have hc3 := hc2.step S2
    refine ⟨_, rfl, c, dx', _, rfl, S2 _ _ g1, rfl, _, rfl, _, rfl, _, rfl, c, ba, u, t, (moved b (b.lev l).lost k).1, (moved b (b.lev l).lost k).2, (b.lev l).lost.front, { x with runner := none }, S, rfl, hc3.at_, hlt, hu2, hc.ok.qeach hc.bo, by show _ < x.queues.length; rw [hc.ok.qlen]; exact hmv.1, fun H3 F3 C3 => ?_⟩
    have FS : Fr S H H3 := (((Fr.of S S1).trans F2).trans (Fr.of S S2)).trans F3
    have ew : x.giveUp b = Crs.enter b { x with runner := none } t (b.lev l).lost k := by
      unfold Crs.giveUp
      rw [hrun]
      dsimp only
      rw [e]
    refine qq _ FS (hc.to FS ?_ (crsOk_giveUp hc.bo hc.ok))
    rw [ew]
    exact C3
end
end Tb
set_option Elab.async false
set_option linter.all false
set_option maxRecDepth 100000
set_option maxHeartbeats 4000000
/-! Courses, third part. -/
namespace Tb
open PySem PySem.Spec PyProof.Rows L2
section
variable {P : Program} {w : World} {K : PySem.W.Frag} {mg : Str → Option Value} {base : Heap}
theorem BkAt.rank {H : Hp} {a : Addr} {b : Bk} (h : BkAt K H a b) {r : Nat} (hr : r < b.ranks.length) :
    ∃ dx lt rt, H a = some (.ins (He.ga K "Book") dx [("own_levels", .ref lt), ("own_ranks", .ref rt)]) ∧ SqT K H rt (ranksV b) ∧ (ranksV b)[r]? = some (.int (b.ranks.getD r 0 : Nat)) := by
  obtain ⟨dx, lt, rt, as, h1, h2, h3, h4⟩ := h.ex
  refine ⟨dx, lt, rt, h1, h4, ?_⟩
  unfold ranksV
  rw [List.getElem?_map, List.getD_eq_getElem?_getD, List.getElem?_eq_getElem hr]
  rfl
def sp_Course_come (K : PySem.W.Frag) : Sp := fun vs H Q _ => ∃ (H0 : Hp) (c ba : Addr) (r : Nat) (b : Bk) (x : Crs) (S : List Addr), vs = [.ref c, .int r] ∧ CrsIn K H0 H c ba b x S ∧ r < b.ranks.length ∧ x.tasks.length < 12 ∧
  ∀ H', Fr S H H' → CrsIn K H0 H' c ba b (x.come b r) S → Q (.int (x.tasks.length : Nat)) H'
theorem k_Course_come (T : Tx K mg base) : Mth P w K mg base 3 (He.ga K "Course") "come" (sp_Course_come K) := by
  refine mth_ok (D_Course_come T) (c_Course T) (m_Course_come T) sc_Course_come (fun vs H Q E h => ?_) (fun cdv A outer s H vs Q hr h => ?_)
  · obtain ⟨H0, c, ba, r, b, x, S, rfl, _⟩ := h; rfl
  · obtain ⟨H0, c, ba, r, b, x, S, rfl, hc, hrk, few, qq⟩ := h
    obtain ⟨dx, tl, q, Sq, h1, ⟨xs, h2, h3⟩, h4, rfl⟩ := hc.at_.ex
    have lenX : xs.length = x.tasks.length := by rw [h3.len, List.length_map]
    obtain ⟨dy, lt, rt, g1, g2, g3⟩ := hc.bk.now.rank hrk
    have hl : b.ranks.getD r 0 < b.levels.length := by
      rw [List.getD_eq_getElem?_getD, List.getElem?_eq_getElem hrk]
      exact hc.bo.ranks _ (List.getElem_mem hrk)
    have nd1 := List.nodup_cons.1 hc.at_.nd
    have nd2 := List.nodup_cons.1 nd1.2
    have hctl : c ≠ tl := ne_mem nd1.1 List.mem_cons_self
    refine ⟨_, (pss_cons (ps_asg (pe_f (k_fresh_at T) hr (by decide) rfl (pa_cons (pe_fld (pv 0) rfl) (pa_cons (pe_ix ix_tup (pe_fld (pe_fld (pv 0) rfl) rfl) (pv 1) (fun _ _ => rfl)) pa_nil))) (pg_tup (by rfl) (pgs_cons (pg_name (i := 2) sc_Course_come.nd rfl (Or.inl rfl)) (pgs_cons (pg_name (i := 3) sc_Course_come.nd rfl (Or.inl rfl)) pgs_nil))))
      (pss_cons (ps_expr (pe_bm PySem.F.plainAttrs_list PySem.F.slot_list_append PySem.F.type_list_append mt_append (pe_fld (pv 0) rfl) (pa_cons (pe_tup (pa_cons (C8.pe_gc rfl (v_READY T)) (pa_cons (pv 2) (pa_cons (pv 3) pa_nil)))) pa_nil)))
      (pss_cons (ps_expr (pe_m (k_Queues_put T) hr (by decide) (pe_fld (pv 0) rfl) (pa_cons (pe_op op_sub (pe_callB call_len_seq rfl (f_len T) b_len (pa_cons (pe_fld (pv 0) rfl) pa_nil) (by decide) (by decide)) pe_int) (pa_cons (pv 2) (pa_cons pe_str pa_nil)))))
      (pss_one (ps_ret (pe_op op_sub (pe_callB call_len_seq rfl (f_len T) b_len (pa_cons (pe_fld (pv 0) rfl) pa_nil) (by decide) (by decide)) pe_int)))))), ?_⟩
    refine ⟨_, rfl, c, _, dx, _, .ref ba, rfl, h1, c_Course T, n_Course_own_book T, rfl, _, rfl, c, _, dx, _, .ref ba, rfl, h1, c_Course T, n_Course_own_book T, rfl, ba, _, dy, _, .ref rt, rfl, g1, c_Book T, n_Book_own_ranks T, rfl, _, rfl, rt, _, _, _, rfl, rfl, g2, atI_nat g3, ?_⟩
    refine ⟨ba, b, b.ranks.getD r 0, rfl, hc.bk.now, hl, fun H2 t2 S2 ht2 => ?_⟩
    refine ⟨t2, _, rfl, ht2, rfl, _, _, rfl, _, _, rfl, rfl, ?_⟩
    refine ⟨_, rfl, c, _, dx, _, .ref tl, rfl, S2 _ _ h1, c_Course T, n_Course_own_tasks T, rfl, ?_⟩
    refine ⟨.inl ⟨rfl, _, .inl (.inl (S2 _ _ h2))⟩, _, rfl, _, rfl, by show 3 ≤ sizeLine; decide, fun p hp => ?_⟩
    have S3 := S2.trans (same_new (o := .tup [.str "ready", .int (b.ranks.getD r 0 : Nat), leftV (b.lev (b.ranks.getD r 0)).ticks]) hp)
    refine ⟨tl, xs, _, rfl, rfl, S3 _ _ h2, by rw [lenX]; exact Nat.lt_trans few (by decide), ?_⟩
    have F1 := (Fr.of [tl] S3).trans (Fr.wr (u := .lst (xs ++ [.ref p])) (S3 _ _ h2) trivial (List.mem_singleton.2 rfl))
    have hq1 := h4.fr F1 fun a ha m => nd2.1 (by rw [← List.mem_singleton.1 m]; exact ha)
    obtain ⟨dq, ll, as, k1, _⟩ := hq1.ex
    have hc1 := F1.keep _ _ h1 fun m => hctl (List.mem_singleton.1 m)
    have lenY : (((xs ++ [V.ref p]).length : Nat) : Int) - 1 = (x.tasks.length : Nat) := by rw [List.length_append, lenX]; show ((x.tasks.length + 1 : Nat) : Int) - 1 = _; omega
    refine ⟨_, rfl, c, _, dx, _, .ref q, rfl, hc1, c_Course T, n_Course_own_queues T, rfl, q, dq, _, rfl, k1, rfl, ?_⟩
    refine ⟨_, rfl, c, _, dx, _, .ref tl, rfl, hc1, c_Course T, n_Course_own_tasks T, rfl, tl, _, rfl, .inl (.inl (.inl upd_same)), _, _, rfl, rfl, ?_⟩
    dsimp only
    rw [lenY]
    refine ⟨_, rfl, q, x.tasks.length, b.ranks.getD r 0, false, x.queues, Sq, rfl, hq1, hc.ok.qeach hc.bo, by rw [hc.ok.qlen]; exact hl, fun H3 F3 Q3 => ?_⟩
    have FS : Fr (c :: tl :: Sq) H H3 := (F1.mono fun a m => by rw [List.mem_singleton.1 m]; exact List.mem_cons_of_mem _ List.mem_cons_self).trans (F3.mono fun a m => List.mem_cons_of_mem _ (List.mem_cons_of_mem _ m))
    have hc3 := F3.keep _ _ hc1 fun m => nd1.1 (List.mem_cons_of_mem _ m)
    have htl3 : H3 tl = some (.lst (xs ++ [.ref p])) := F3.keep _ _ upd_same nd2.1
    refine ⟨_, rfl, c, _, dx, _, .ref tl, rfl, hc3, c_Course T, n_Course_own_tasks T, rfl, tl, _, rfl, .inl (.inl (.inl htl3)), _, _, rfl, rfl, ?_⟩
    dsimp only
    rw [lenY]
    refine qq _ FS (hc.to FS ⟨⟨dx, tl, q, Sq, hc3, ⟨_, htl3, ?_⟩, Q3, rfl⟩, hc.at_.nd⟩ (crsOk_come hc.bo hc.ok hrk few))
    show Tds K H3 _ ((x.tasks ++ [_]).map Post.d)
    rw [List.map_append]
    have hpt : SqT K H3 p [.str "ready", .int (b.ranks.getD r 0 : Nat), leftV (b.lev (b.ranks.getD r 0)).ticks] := by
      refine .inl (.inl (F3.tup _ _ ?_))
      rw [upd_ne (ne_of_none (S2 _ _ h2) hp).symm]
      exact upd_same
    exact (h3.fr FS).append (.cons (td_post (m := .ready) hpt) .nil)
/-- a coming that is possible -/
def canCm (b : Bk) (x : Crs) : Cm → Bool
  | .come r => decide (r < b.ranks.length) && decide (x.tasks.length < 12)
  | .wake t => isAsleep x t
theorem cm_at {H : Hp} {v : V} {cm : Cm} (h : Td K H v cm.d) : ∃ (a : Addr) (w : Str) (n : Nat), v = .ref a ∧ SqT K H a [.str w, .int n] ∧ ((w = "come" ∧ cm = .come n) ∨ (w = "wake" ∧ cm = .wake n)) := by
  cases cm with
  | come r =>
    obtain ⟨a, x, y, rfl, hs, h1, h2⟩ := Td.two h
    have e1 := h1.str'
    have e2 := h2.int'
    subst e1 e2
    exact ⟨a, "come", r, rfl, hs, .inl ⟨rfl, rfl⟩⟩
  | wake r =>
    obtain ⟨a, x, y, rfl, hs, h1, h2⟩ := Td.two h
    have e1 := h1.str'
    have e2 := h2.int'
    subst e1 e2
    exact ⟨a, "wake", r, rfl, hs, .inr ⟨rfl, rfl⟩⟩
def sp_Course_can_come (K : PySem.W.Frag) : Sp := fun vs H Q _ => ∃ (H0 : Hp) (c ba : Addr) (v : V) (cm : Cm) (b : Bk) (x : Crs) (S : List Addr), vs = [.ref c, v] ∧ CrsIn K H0 H c ba b x S ∧ Td K H v cm.d ∧ canCm b x cm = true ∧ Q (.bl true) H
theorem k_Course_can_come (T : Tx K mg base) : Mth P w K mg base 2 (He.ga K "Course") "can_come" (sp_Course_can_come K) := by
  refine mth_ok (D_Course_can_come T) (c_Course T) (m_Course_can_come T) sc_Course_can_come (fun vs H Q E h => ?_) (fun cdv A outer s H vs Q hr h => ?_)
  · obtain ⟨H0, c, ba, v, cm, b, x, S, rfl, _⟩ := h; rfl
  · obtain ⟨H0, c, ba, v, cm, b, x, S, rfl, hc, hv, can, qq⟩ := h
    obtain ⟨a, wd, n, rfl, hs, hcm⟩ := cm_at hv
    obtain ⟨dx, tl, q, Sq, h1, h2, h4, _⟩ := hc.at_.ex
    refine ⟨_, (pss_cons (ps_asg (pv 1) (pg_tup (by rfl) (pgs_cons (pg_name (i := 2) sc_Course_can_come.nd rfl (Or.inl rfl)) (pgs_cons (pg_name (i := 3) sc_Course_can_come.nd rfl (Or.inl rfl)) pgs_nil))))
      (pss_one (ps_ret (pe_ifExp (pt_cmpR op_eq (pv 2) (C8.pe_gc rfl (v_WAKE T)) (nomark _)) (pe_m (k_Course_is_asleep T) hr (by decide) (pv 0) (pa_cons (pv 3) pa_nil)) (pe_cmpR op_lt (pv 3) (pe_callB call_len_seq rfl (f_len T) b_len (pa_cons (pe_fld (pe_fld (pv 0) rfl) rfl) pa_nil) (by decide) (by decide)) (nomark _)))))), ?_⟩
    refine ⟨_, rfl, a, _, rfl, hs, rfl, _, _, rfl, _, _, rfl, rfl, ?_⟩
    rcases hcm with ⟨rfl, rfl⟩ | ⟨rfl, rfl⟩
    · refine ⟨_, rfl, rfl, false, by decide +kernel, andF rfl ?_⟩
      have hn : n < b.ranks.length := by
        unfold canCm at can
        rw [Bool.and_eq_true] at can
        exact of_decide_eq_true can.1
      obtain ⟨dy, lt, rt, as, g1, g2, g3, g4⟩ := hc.bk.now.ex
      refine ⟨_, rfl, _, rfl, c, _, dx, _, .ref ba, rfl, h1, c_Course T, n_Course_own_book T, rfl, ba, _, dy, _, .ref rt, rfl, g1, c_Book T, n_Book_own_ranks T, rfl, rt, _, rfl, .inr g4, _, _, rfl, rfl, ?_⟩
      exact qT (decide_eq_true (by rw [List.length_map]; omega)) qq
    · refine ⟨_, rfl, rfl, true, by decide +kernel, andT rfl ?_⟩
      refine ⟨_, rfl, c, dx, _, rfl, h1, rfl, _, rfl, c, ba, n, x, S, rfl, hc.at_, Nat.lt_of_le_of_lt hc.ok.few (by decide), ?_⟩
      have hn : isAsleep x n = true := can
      rw [hn]
      exact qq
theorem crsOk_letCome {b : Bk} (bo : BkOk b) {x : Crs} (h : CrsOk b x) {cm : Cm} (can : canCm b x cm = true) : CrsOk b (x.letCome b cm) := by
  cases cm with
  | come r =>
    unfold canCm at can
    rw [Bool.and_eq_true] at can
    exact crsOk_come bo h (of_decide_eq_true can.1) (of_decide_eq_true can.2)
  | wake t => exact crsOk_wake bo h can
def sp_Course_let_come (K : PySem.W.Frag) : Sp := fun vs H Q _ => ∃ (H0 : Hp) (c ba : Addr) (v : V) (cm : Cm) (b : Bk) (x : Crs) (S : List Addr), vs = [.ref c, v] ∧ CrsIn K H0 H c ba b x S ∧ Td K H v cm.d ∧ canCm b x cm = true ∧
  ∀ H', Fr S H H' → CrsIn K H0 H' c ba b (x.letCome b cm) S → Q .non H'
theorem k_Course_let_come (T : Tx K mg base) : Mth P w K mg base 5 (He.ga K "Course") "let_come" (sp_Course_let_come K) := by
  refine mth_ok (D_Course_let_come T) (c_Course T) (m_Course_let_come T) sc_Course_let_come (fun vs H Q E h => ?_) (fun cdv A outer s H vs Q hr h => ?_)
  · obtain ⟨H0, c, ba, v, cm, b, x, S, rfl, _⟩ := h; rfl
  · obtain ⟨H0, c, ba, v, cm, b, x, S, rfl, hc, hv, can, qq⟩ := h
    obtain ⟨a, wd, n, rfl, hs, hcm⟩ := cm_at hv
    obtain ⟨dx, tl, q, Sq, h1, h2, h4, _⟩ := hc.at_.ex
    refine ⟨_, (pss_cons (ps_asg (pv 1) (pg_tup (by rfl) (pgs_cons (pg_name (i := 2) sc_Course_let_come.nd rfl (Or.inl rfl)) (pgs_cons (pg_name (i := 3) sc_Course_let_come.nd rfl (Or.inl rfl)) pgs_nil))))
      (pss_one (ps_if (pt_cmpR op_eq (pv 2) (C8.pe_gc rfl (v_WAKE T)) (nomark _)) (pss_one (ps_expr (pe_m (k_Course_wake_up T) hr (by decide) (pv 0) (pa_cons (pv 3) pa_nil)))) (pss_one (ps_expr (pe_m (k_Course_come T) hr (by decide) (pv 0) (pa_cons (pv 3) pa_nil))))))), ?_⟩
    refine ⟨_, rfl, a, _, rfl, hs, rfl, _, _, rfl, _, _, rfl, rfl, ?_⟩
    rcases hcm with ⟨rfl, rfl⟩ | ⟨rfl, rfl⟩
    · have hn := can
      unfold canCm at hn
      rw [Bool.and_eq_true] at hn
      exact ⟨_, rfl, rfl, false, by decide +kernel, andF rfl ⟨_, rfl, c, dx, _, rfl, h1, rfl, _, rfl, H0, c, ba, n, b, x, S, rfl, hc, of_decide_eq_true hn.1, of_decide_eq_true hn.2, qq⟩⟩
    · exact ⟨_, rfl, rfl, true, by decide +kernel, andT rfl ⟨_, rfl, c, dx, _, rfl, h1, rfl, _, rfl, H0, c, ba, n, b, x, S, rfl, hc, can, qq⟩⟩
def sp_Course_next_worker (K : PySem.W.Frag) : Sp := fun vs H Q _ => ∃ (H0 : Hp) (c ba : Addr) (b : Bk) (x : Crs) (S : List Addr), vs = [.ref c] ∧ CrsIn K H0 H c ba b x S ∧ ∀ H', Same H H' → Q (optV (x.next b)) H'
theorem k_Course_next_worker (T : Tx K mg base) : Mth P w K mg base 4 (He.ga K "Course") "next_worker" (sp_Course_next_worker K) := by
  refine mth_ok (D_Course_next_worker T) (c_Course T) (m_Course_next_worker T) sc_Course_next_worker (fun vs H Q E h => ?_) (fun cdv A outer s H vs Q hr h => ?_)
  · obtain ⟨H0, c, ba, b, x, S, rfl, _⟩ := h; rfl
  · obtain ⟨H0, c, ba, b, x, S, rfl, hc, qq⟩ := h
    obtain ⟨dx, tl, q, Sq, h1, h2, h4, _⟩ := hc.at_.ex
    refine ⟨_, (pss_cons (ps_if (PW.pt (pw_and (pt_cmpR op_notN (pe_fld (pv 0) rfl) pe_non (nomark _)) (pw_and1 (pt_not (pt_val (pe_m (k_Course_is_taken T) hr (by decide) (pv 0) (pa_cons pe_non pa_nil))))))) (pss_one (ps_ret (pe_fld (pv 0) rfl))) pss_nil)
      (pss_cons (ps_set (i := 1) sc_Course_next_worker.nd rfl (Or.inl rfl) (pe_pr (k_Queues_best T) hr (by decide) (pe_fld (pv 0) rfl)))
      (pss_one (ps_ret (pe_ifExp (pt_cmpR op_isN (pv 1) pe_non (nomark _)) pe_non (pe_ix ix_list (pe_ix ix_list (pe_fld (pe_fld (pv 0) rfl) rfl) (pv 1) (fun _ _ => rfl)) pe_int (fun _ _ => rfl))))))), ?_⟩
    obtain ⟨dq, ll, as, k1, k2, k3, _⟩ := h4.ex
    have rest : ∀ (H1 : Hp), Same H H1 → (x.next b = match bestQ x.queues with
        | none => none
        | some l => (x.queues.getD l []).head?) → ∀ (Q' : VK), (∀ H', Same H H' → Q' (optV (x.next b)) H') →
        tProp (He.ga K "Queues") (sp_Queues_best K) [] E0 (tFld K (tVar 0) "own_queues") [some (.ref c), none] H1 fun y H2 =>
          tIf (tTest (tOp (fun x y H Q => y = V.non ∧ Q (V.bl (decide (x = V.non))) H) (tVar 1) (tC V.non))) (tC V.non) (tOp (rIxL K) (tOp (rIxL K) (tFld K (tFld K (tVar 0) "own_queues") "own_lists") (tVar 1)) (tC (V.int 0))) [some (.ref c), some y] H2 Q' := by
      intro H1 S1 en Q' qq'
      refine ⟨_, rfl, c, _, dx, _, .ref q, rfl, S1 _ _ h1, c_Course T, n_Course_own_queues T, rfl, q, dq, _, rfl, S1 _ _ k1, q, x.queues, Sq, rfl, h4.same S1, hc.ok.qeach hc.bo, fun H2 S2 => ?_⟩
      have S := S1.trans S2
      have q2 := qq' _ S
      rw [en] at q2
      cases hb : bestQ x.queues with
      | none =>
        rw [hb] at q2
        exact ⟨_, rfl, rfl, true, rfl, andT rfl q2⟩
      | some l =>
        rw [hb] at q2
        obtain ⟨hl, t, ts, hts⟩ := bestQ_some hb
        obtain ⟨a, ha, hI⟩ := Paired.get k3 hts
        have hd : (x.queues.getD l []).head? = some t := by rw [List.getD_eq_getElem?_getD, hts]; rfl
        dsimp only at q2
        rw [hd] at q2
        refine ⟨_, rfl, rfl, false, rfl, andF rfl ⟨_, rfl, c, _, dx, _, .ref q, rfl, S _ _ h1, c_Course T, n_Course_own_queues T, rfl, q, _, dq, _, .ref ll, rfl, S _ _ k1, c_Queues T, n_Queues_own_lists T, rfl, _, rfl, ll, _, _, _, rfl, rfl, .inl (.inl (S _ _ k2)), atI_nat (j := l) (by rw [List.getElem?_map, ha]; rfl), a, _, _, _, rfl, rfl, .inl (.inl (S _ _ hI)), atI_nat (j := 0) rfl, q2⟩⟩
    refine ⟨_, rfl, c, _, dx, _, _, rfl, h1, c_Course T, n_Course_own_runner T, rfl, rfl, ?_⟩
    cases hr : x.runner with
    | none =>
      refine ⟨false, rfl, andF rfl ?_⟩
      have en : x.next b = match bestQ x.queues with
        | none => none
        | some l => (x.queues.getD l []).head? := by
        unfold Crs.next
        rw [if_neg (fun z => z.1 hr)] <;> rfl
      exact rest H (Same.refl _) en _ qq
    | some t =>
      refine ⟨true, rfl, andT rfl ?_⟩
      refine ⟨_, rfl, c, dx, _, rfl, h1, rfl, H0, c, ba, b, x, S, .non, false, rfl, .inr ⟨rfl, .inl rfl⟩, hc, fun H2 S2 => ⟨_, rfl, ?_⟩⟩
      cases ht : x.isTaken b false with
      | true =>
        refine andF rfl ?_
        have en : x.next b = match bestQ x.queues with
          | none => none
          | some l => (x.queues.getD l []).head? := by
          unfold Crs.next
          rw [if_neg (fun z => by have := z.2; rw [ht] at this; cases this)] <;> rfl
        exact rest H2 S2 en _ qq
      | false =>
        refine andT rfl ⟨_, rfl, c, _, dx, _, _, rfl, S2 _ _ h1, c_Course T, n_Course_own_runner T, rfl, ?_⟩
        have en : x.next b = x.runner := by
          unfold Crs.next
          rw [if_pos ⟨by rw [hr]; nofun, ht⟩]
        have := qq _ S2
        rw [en] at this
        exact this
def sp_Course_shown (K : PySem.W.Frag) : Sp := fun vs H Q _ => ∃ (c ba : Addr) (x : Crs) (S : List Addr), vs = [.ref c] ∧ CrsAt K H c ba x S ∧ ∀ H' t, Same H H' → Td K H' (.ref t) (.tuple (x.tasks.map Post.d)) → Q (.ref t) H'
theorem k_Course_shown (T : Tx K mg base) : Mth P w K mg base 1 (He.ga K "Course") "shown" (sp_Course_shown K) := by
  refine mth_ok (D_Course_shown T) (c_Course T) (m_Course_shown T) sc_Course_shown (fun vs H Q E h => ?_) (fun cdv A outer s H vs Q hr h => ?_)
  · obtain ⟨c, ba, x, S, rfl, _⟩ := h; rfl
  · obtain ⟨c, ba, x, S, rfl, hc, qq⟩ := h
    obtain ⟨dx, tl, q, Sq, h1, ⟨xs, h2, h3⟩, h4, _⟩ := hc.ex
    refine ⟨_, (pss_one (ps_ret (pe_callTy call_tuple_of rfl (f_tuple T) b_tuple (pa_cons (pe_fld (pv 0) rfl) pa_nil)))), ?_⟩
    exact ⟨_, rfl, c, _, dx, _, .ref tl, rfl, h1, c_Course T, n_Course_own_tasks T, rfl, tl, _, rfl, .inl ⟨.inl (.inl h2), fun t ht => qq _ t (same_new ht) (.tup (.inl (.inl upd_same)) (h3.fr (Fr.of [] (same_new ht))))⟩⟩
def sp_Course_is_like (K : PySem.W.Frag) : Sp := fun vs H Q _ => ∃ (c c2 ba ba2 : Addr) (x : Crs) (S S2 : List Addr), vs = [.ref c, .ref c2] ∧ CrsAt K H c ba x S ∧ CrsAt K H c2 ba2 x S2 ∧ Q (.bl true) H
theorem k_Course_is_like (T : Tx K mg base) : Mth P w K mg base 2 (He.ga K "Course") "is_like" (sp_Course_is_like K) := by
  refine mth_ok (D_Course_is_like T) (c_Course T) (m_Course_is_like T) sc_Course_is_like (fun vs H Q E h => ?_) (fun cdv A outer s H vs Q hr h => ?_)
  · obtain ⟨c, c2, ba, ba2, x, S, S2, rfl, _⟩ := h; rfl
  · obtain ⟨c, c2, ba, ba2, x, S, S2, rfl, hc, hc2, qq⟩ := h
    obtain ⟨dx, tl, q, Sq, h1, ⟨xs, h2, h3⟩, h4, _⟩ := hc.ex
    obtain ⟨dx2, tl2, q2, Sq2, g1, ⟨xs2, g2, g3⟩, g4, _⟩ := hc2.ex
    refine ⟨_, (pss_one (ps_ret (pe_and (pe_cmpR (op_eqD (hr.units)) (pe_fld (pv 0) rfl) (pe_fld (pv 1) rfl) (nomark _)) (pe_one (pe_cmpR (op_eqO (k_Queues___eq__ T) hr (by decide)) (pe_fld (pv 0) rfl) (pe_fld (pv 1) rfl) (nomark _)))))), ?_⟩
    have fl : Fl 2 (.list (x.tasks.map Post.d)) := Fl.list (fl_map fun p _ => p.fl)
    refine ⟨_, rfl, c, _, dx, _, .ref tl, rfl, h1, c_Course T, n_Course_own_tasks T, rfl, _, rfl, c2, _, dx2, _, .ref tl2, rfl, g1, c_Course T, n_Course_own_tasks T, rfl, ?_⟩
    refine ⟨_, _, .lst (.inl (.inl h2)) h3.dps, .lst (.inl (.inl g2)) g3.dps, fl.shaped, fl.shaped, _, rfl, andT fl.refl ?_⟩
    refine ⟨_, rfl, c, _, dx, _, .ref q, rfl, h1, c_Course T, n_Course_own_queues T, rfl, _, rfl, c2, _, dx2, _, .ref q2, rfl, g1, c_Course T, n_Course_own_queues T, rfl, ?_⟩
    obtain ⟨dq, ll, as, k1, _⟩ := h4.ex
    obtain ⟨dq2, ll2, as2, l1, _⟩ := g4.ex
    exact ⟨q, q2, dq, dq2, _, _, rfl, rfl, k1, l1, q, q2, x.queues, Sq, Sq2, rfl, h4, g4, true, rfl, qq⟩
end
end Tb
set_option Elab.async false
set_option linter.all false
set_option maxRecDepth 100000
set_option maxHeartbeats 4000000
/-! Courses: a tick. -/
namespace Tb
open PySem PySem.Spec PyProof.Rows L2
def toldV : Told → V
  | .non => .non
  | .task t => .int t
  | .bell => .str "bell"
theorem toldV_td {K : PySem.W.Frag} {H : Hp} (o : Told) : Td K H (toldV o) o.d := by
  cases o
  · exact .non
  · exact .int _
  · exact .str _
section
variable {P : Program} {w : World} {K : PySem.W.Frag} {mg : Str → Option Value} {base : Heap}
theorem CrsAt.setTask {H : Hp} {c ba : Addr} {x : Crs} {S : List Addr} (h : CrsAt K H c ba x S) {t pa : Addr} {p : Post} (td : Td K H (.ref pa) p.d) :
    ∃ (dx tl q : Addr) (xs : List V), H c = Option.some (.ins (He.ga K "Course") dx [("own_book", .ref ba), ("own_tasks", .ref tl), ("own_queues", .ref q), ("own_runner", optV x.runner)]) ∧ H tl = Option.some (.lst xs) ∧ xs.length = x.tasks.length ∧
      Fr S H (upd H tl (.lst (xs.set t (.ref pa)))) ∧ CrsAt K (upd H tl (.lst (xs.set t (.ref pa)))) c ba { x with tasks := x.tasks.set t p } S := by
  obtain ⟨dx, tl, q, Sq, h1, ⟨xs, h2, h3⟩, h4, rfl⟩ := h.ex
  have nd1 := List.nodup_cons.1 h.nd
  have nd2 := List.nodup_cons.1 nd1.2
  have hctl : c ≠ tl := ne_mem nd1.1 List.mem_cons_self
  have F1 : Fr [tl] H (upd H tl (.lst (xs.set t (.ref pa)))) := Fr.wr h2 trivial (List.mem_singleton.2 rfl)
  refine ⟨dx, tl, q, xs, h1, h2, by rw [h3.len, List.length_map], F1.mono fun a m => by rw [List.mem_singleton.1 m]; exact List.mem_cons_of_mem _ List.mem_cons_self, ⟨dx, tl, q, Sq, ?_, ⟨_, upd_same, ?_⟩, h4.fr F1 fun a ha m => nd2.1 (by rw [← List.mem_singleton.1 m]; exact ha), rfl⟩, h.nd⟩
  · rw [upd_ne hctl]; exact h1
  · rw [List.map_set]
    exact (h3.fr F1).set t (td.fr F1)
theorem CrsAt.setQ {H : Hp} {c ba : Addr} {x : Crs} {S : List Addr} (h : CrsAt K H c ba x S) :
    ∃ (dx tl q dq ll : Addr) (Sq : List Addr), H c = Option.some (.ins (He.ga K "Course") dx [("own_book", .ref ba), ("own_tasks", .ref tl), ("own_queues", .ref q), ("own_runner", optV x.runner)]) ∧ H q = Option.some (.ins (He.ga K "Queues") dq [("own_lists", .ref ll)]) ∧ QuAt K H q x.queues Sq ∧
      ∀ H' qs, Fr Sq H H' → QuAt K H' q qs Sq → Fr S H H' ∧ CrsAt K H' c ba { x with queues := qs } S := by
  obtain ⟨dx, tl, q, Sq, h1, h2, h4, rfl⟩ := h.ex
  obtain ⟨dq, ll, as, k1, _⟩ := h4.ex
  have nd1 := List.nodup_cons.1 h.nd
  have nd2 := List.nodup_cons.1 nd1.2
  refine ⟨dx, tl, q, dq, ll, Sq, h1, k1, h4, fun H' qs F Q' => ⟨F.mono fun a m => List.mem_cons_of_mem _ (List.mem_cons_of_mem _ m), ⟨dx, tl, q, Sq, F.keep _ _ h1 fun m => nd1.1 (List.mem_cons_of_mem _ m), h2.fr F nd2.1, Q', rfl⟩, h.nd⟩⟩
theorem CrsAt.head {H : Hp} {c ba : Addr} {x : Crs} {S : List Addr} (h : CrsAt K H c ba x S) : ∃ (dx tl q : Addr), H c = Option.some (.ins (He.ga K "Course") dx [("own_book", .ref ba), ("own_tasks", .ref tl), ("own_queues", .ref q), ("own_runner", optV x.runner)]) := by
  obtain ⟨dx, tl, q, Sq, h1, _⟩ := h.ex
  exact ⟨dx, tl, q, h1⟩
theorem wordV (wd : Wd) : WordV (.str wd.s) (wd == .bell) := by
  cases wd
  · exact .inr ⟨rfl, .inr ⟨.on, nofun, rfl⟩⟩
  · exact .inr ⟨rfl, .inr ⟨.sleep, nofun, rfl⟩⟩
  · exact .inr ⟨rfl, .inr ⟨.way, nofun, rfl⟩⟩
  · exact .inr ⟨rfl, .inr ⟨.end_, nofun, rfl⟩⟩
  · exact .inl ⟨rfl, rfl⟩
/-- the course once the running task may have been taken away -/
def takenC (b : Bk) (x : Crs) (wd : Wd) : Crs := if x.isTaken b (wd == .bell) then x.giveUp b else x
theorem takenC_ok {b : Bk} (bo : BkOk b) {x : Crs} (h : CrsOk b x) (wd : Wd) : CrsOk b (takenC b x wd) := by
  unfold takenC
  split
  · exact crsOk_giveUp bo h
  · exact h
theorem taken_run {b : Bk} {x : Crs} {bell : Bool} (h : x.isTaken b bell = true) : ∃ t, x.runner = some t := by
  cases hr : x.runner with
  | some t => exact ⟨t, rfl⟩
  | none =>
    have ht : x.taking b = 0 := by unfold Crs.taking; rw [hr]
    unfold Crs.isTaken at h
    rw [ht] at h
    split at h
    · exact absurd (of_decide_eq_true h) (Nat.lt_irrefl _)
    · split at h
      · cases h
      · exact absurd (of_decide_eq_true h) (Nat.not_lt_zero _)
theorem rd_taken (T : Tx K mg base) {H0 H : Hp} {c ba : Addr} {b : Bk} {x : Crs} {S : List Addr} (hc : CrsIn K H0 H c ba b x S) {wd : Wd} {D : Ends} {v2 v3 v4 : Option V} (h : ∀ H1, Fr S H H1 → CrsIn K H0 H1 c ba b (takenC b x wd) S → D.nx [some (.ref c), some (.str wd.s), v2, v3, v4] H1) :
    tIfS (tB (tMeth (He.ga K "Course") "is_taken" (sp_Course_is_taken K) [] E0 (tVar 0) (tCons (tVar 1) tNil))) (tDrop (tMeth (He.ga K "Course") "give_up" (sp_Course_give_up K) [] E0 (tVar 0) tNil)) tNext D [some (.ref c), some (.str wd.s), v2, v3, v4] H := by
  obtain ⟨dx, tl, q, h1⟩ := hc.at_.head
  refine ⟨_, rfl, c, dx, _, rfl, h1, rfl, _, rfl, H0, c, ba, b, x, S, _, (wd == .bell), rfl, wordV wd, hc, fun H2 S2 => ⟨_, rfl, ?_⟩⟩
  unfold takenC at h
  cases ht : x.isTaken b (wd == .bell) with
  | false =>
    rw [ht] at h
    exact andF rfl (h H2 (Fr.of S S2) (hc.step S2))
  | true =>
    rw [ht] at h
    obtain ⟨t, hr⟩ := taken_run ht
    exact andT rfl ⟨_, rfl, c, dx, _, rfl, S2 _ _ h1, rfl, H0, c, ba, t, b, x, S, rfl, hc.step S2, hr, fun H3 F3 C3 => h H3 ((Fr.of S S2).trans F3) C3⟩
theorem Crs.noRunner {x : Crs} (h : x.runner = Option.none) : ({ x with runner := Option.none } : Crs) = x := by
  obtain ⟨a, b, r⟩ := x
  cases h
  rfl
theorem rd_pick (T : Tx K mg base) {H0 H : Hp} {c ba : Addr} {b : Bk} {x : Crs} {S : List Addr} (hc : CrsIn K H0 H c ba b x S) {D : Ends} {v1 v3 v4 : Option V}
    (h : ∀ H1 x', Fr S H H1 → CrsIn K H0 H1 c ba b x' S → { x' with runner := none } = x.pick.2 → D.nx [some (.ref c), v1, some (optV x.pick.1), v3, v4] H1) :
    tAsg (tIf (tTest (tOp (fun x y H Q => y = V.non ∧ Q (V.bl (decide (x = V.non))) H) (tFld K (tVar 0) "own_runner") (tC V.non))) (tMeth (He.ga K "Queues") "pick" (sp_Queues_pick K) [] E0 (tFld K (tVar 0) "own_queues") tNil) (tFld K (tVar 0) "own_runner")) (gName 2) D
      [some (.ref c), v1, none, v3, v4] H := by
  obtain ⟨dx, tl, q, dq, ll, Sq, h1, h2, h3, h4⟩ := hc.at_.setQ
  refine ⟨_, rfl, c, _, dx, _, _, rfl, h1, c_Course T, n_Course_own_runner T, rfl, rfl, ?_⟩
  unfold Crs.pick at h
  cases hr : x.runner with
  | some t =>
    rw [hr] at h
    refine ⟨false, rfl, andF rfl ⟨_, rfl, c, _, dx, _, _, rfl, h1, c_Course T, n_Course_own_runner T, rfl, ?_⟩⟩
    rw [hr]
    exact h H x (Fr.refl _ _) hc rfl
  | none =>
    rw [hr] at h
    refine ⟨true, rfl, andT rfl ⟨_, rfl, c, _, dx, _, _, rfl, h1, c_Course T, n_Course_own_queues T, rfl, q, dq, _, rfl, h2, rfl, q, x.queues, Sq, rfl, h3, hc.ok.qeach hc.bo, ?_, ?_⟩⟩
    · intro hb H2 S2
      rw [hb] at h
      exact h H2 x (Fr.of S S2) (hc.step S2) (Crs.noRunner hr)
    · intro l t ts hb hts H2 F2 Q2
      rw [hb] at h
      obtain ⟨F3, C3⟩ := h4 H2 _ F2 Q2
      have hd : (x.queues.getD l []).head? = some t := by rw [List.getD_eq_getElem?_getD, hts]; rfl
      dsimp only at h
      rw [hd] at h
      exact h H2 _ F3 (hc.to F3 C3 (hc.ok.sub hts).1) rfl
theorem afterW_cases {b : Bk} (bo : BkOk b) {l : Nat} (hl : l < b.levels.length) {left : Option Nat} (hk : ∀ j, left = some j → j ≤ 3) (wd : Wd) :
    (∃ l' k' f, afterW b l left wd = (.st .ready l' k', some f) ∧ l' < b.levels.length) ∨ (wd = .sleep ∧ afterW b l left wd = (.st .asleep l left, none)) ∨ (wd ≠ .sleep ∧ afterW b l left wd = (.st .runs l left, none)) := by
  have o := bo.at hl
  have mv : ∀ e : Ent, e.lv < b.levels.length → (moved b e left).1 < b.levels.length := fun e he => (moved_ok bo he hk).1
  cases wd with
  | on =>
    by_cases h0 : left = some 0
    · refine .inl ⟨(moved b { (b.lev l).used with new := true } left).1, (moved b { (b.lev l).used with new := true } left).2, (b.lev l).used.front, ?_, mv { (b.lev l).used with new := true } o.used⟩
      unfold afterW
      dsimp only
      rw [if_pos h0]
    · refine .inr (.inr ⟨nofun, ?_⟩)
      unfold afterW
      dsimp only
      rw [if_neg h0]
  | sleep => exact .inr (.inl ⟨rfl, rfl⟩)
  | way => exact .inl ⟨_, _, _, rfl, mv _ o.way⟩
  | end_ => exact .inl ⟨_, _, _, rfl, mv _ o.way⟩
  | bell => exact .inl ⟨_, _, _, rfl, mv _ o.way⟩
def sp_Course_tick (K : PySem.W.Frag) : Sp := fun vs H Q _ => ∃ (H0 : Hp) (c ba : Addr) (b : Bk) (x : Crs) (S : List Addr) (wd : Wd), vs = [.ref c, .str wd.s] ∧ CrsIn K H0 H c ba b x S ∧
  ∀ H', Fr S H H' → CrsIn K H0 H' c ba b (x.tick b wd).1 S → Q (toldV (x.tick b wd).2) H'
theorem k_Course_tick (T : Tx K mg base) : Mth P w K mg base 5 (He.ga K "Course") "tick" (sp_Course_tick K) := by
  refine mth_ok (D_Course_tick T) (c_Course T) (m_Course_tick T) sc_Course_tick (fun vs H Q E h => ?_) (fun cdv A outer s H vs Q hr h => ?_)
  · obtain ⟨H0, c, ba, b, x, S, wd, rfl, _⟩ := h; rfl
  · obtain ⟨H0, c, ba, b, x, S, wd, rfl, hc, qq⟩ := h
    refine ⟨_, (pss_cons (ps_if (pt_val (pe_m (k_Course_is_taken T) hr (by decide) (pv 0) (pa_cons (pv 1) pa_nil))) (pss_one (ps_expr (pe_m0 (k_Course_give_up T) hr (by decide) (pv 0)))) pss_nil)
      (pss_cons (ps_if (pt_cmpR op_eq (pv 1) (C8.pe_gc rfl (v_BELL T)) (nomark _)) (pss_one (ps_ret (C8.pe_gc rfl (v_BELL T)))) pss_nil)
      (pss_cons (ps_set (i := 2) sc_Course_tick.nd rfl (Or.inl rfl) (pe_ifExp (pt_cmpR op_isN (pe_fld (pv 0) rfl) pe_non (nomark _)) (pe_m0 (k_Queues_pick T) hr (by decide) (pe_fld (pv 0) rfl)) (pe_fld (pv 0) rfl)))
      (pss_cons (ps_fld (pv 0) pe_non rfl)
      (pss_cons (ps_if (pt_cmpR op_isN (pv 2) pe_non (nomark _)) (pss_one (ps_ret pe_non)) pss_nil)
      (pss_cons (ps_if (pt_cmpR op_eq (pv 1) (C8.pe_gc rfl (v_END T)) (nomark _)) (pss_cons (ps_asg (C8.pe_gc rfl (v_ENDED T)) (pg_sub (pe_fld (pv 0) rfl) (pv 2) set_list))
      (pss_one (ps_ret (pv 2)))) pss_nil)
      (pss_cons (ps_asg (pe_f (k_after_work T) hr (by decide) rfl (pa_cons (pe_fld (pv 0) rfl) (pa_cons (pe_f (k_worked_in T) hr (by decide) rfl (pa_cons (pe_slice sl_tupA (pe_ix ix_list (pe_fld (pv 0) rfl) (pv 2) (fun _ _ => rfl)) (po_some pe_int) po_none) pa_nil)) (pa_cons (pv 1) pa_nil)))) (pg_tup (by rfl) (pgs_cons (pg_name (i := 3) sc_Course_tick.nd rfl (Or.inl rfl)) (pgs_cons (pg_name (i := 4) sc_Course_tick.nd rfl (Or.inl rfl)) pgs_nil))))
      (pss_cons (ps_asg (pv 3) (pg_sub (pe_fld (pv 0) rfl) (pv 2) set_list))
      (pss_cons (ps_if (pt_cmpR op_notN (pv 4) pe_non (nomark _)) (pss_one (ps_expr (pe_m (k_Queues_put T) hr (by decide) (pe_fld (pv 0) rfl) (pa_cons (pv 2) (pa_cons (pe_ix ix_tup (pv 3) pe_int (fun _ _ => rfl)) (pa_cons (pv 4) pa_nil)))))) (pss_one (ps_if (pt_cmpR op_ne (pe_ix ix_tup (pv 3) pe_int (fun _ _ => rfl)) (C8.pe_gc rfl (v_ASLEEP T)) (nomark _)) (pss_one (ps_fld (pv 0) (pv 2) rfl)) pss_nil)))
      (pss_one (ps_ret (pv 2)))))))))))), ?_⟩
    refine rd_taken T hc fun H1 F1 hc1 => ?_
    have eT : x.tick b wd = if wd = .bell then (takenC b x wd, Told.bell) else match (takenC b x wd).pick with
      | (none, c2) => (c2, Told.non)
      | (some t, c2) => (c2.work b t wd, Told.task t) := rfl
    have okT := crsOk_tick hc.bo hc.ok wd
    generalize takenC b x wd = x1 at hc1 eT
    by_cases hb : wd = .bell
    · subst hb
      rw [if_pos rfl] at eT
      refine ⟨_, rfl, rfl, true, by decide +kernel, andT rfl ?_⟩
      rw [eT] at qq
      exact qq H1 F1 hc1
    · rw [if_neg hb] at eT
      refine ⟨_, rfl, rfl, false, by cases wd <;> first | exact absurd rfl hb | decide +kernel, andF rfl ?_⟩
      refine rd_pick T hc1 fun H2 x2 F2 hc2 e2 => ?_
      have pk := crsOk_pick hc1.ok
      obtain ⟨dx, tl, q, g1⟩ := hc2.at_.head
      obtain ⟨F3, C3⟩ := hc2.at_.setRunner none g1
      rw [e2] at C3
      cases hp : x1.pick with
      | mk o c2 =>
        rw [hp] at eT C3 pk
        have FS := (F1.trans F2).trans F3
        refine ⟨_, rfl, c, _, dx, _, rfl, g1, c_Course T, n_Course_own_runner T, by show 4 < 1000; decide, ?_⟩
        cases o with
        | none =>
          dsimp only at eT
          rw [eT] at qq okT
          exact ⟨_, rfl, rfl, true, rfl, andT rfl (qq _ FS (hc.to FS C3 okT))⟩
        | some t =>
          dsimp only at eT
          have wk := pk.2 t rfl
          dsimp only at wk C3
          obtain ⟨m, l, k, et, hl, hk⟩ := wk.st
          have hlt := (List.getElem?_eq_some_iff.1 et).1
          have hc3 : CrsIn K H0 _ c ba b c2 S := hc.to FS C3 wk.ok
          refine ⟨_, rfl, rfl, false, rfl, andF rfl ?_⟩
          rw [eT] at qq okT
          dsimp only at qq okT
          generalize eH3 : (upd H2 c (.ins (He.ga K "Course") dx (putF "own_runner" V.non [("own_book", V.ref ba), ("own_tasks", V.ref tl), ("own_queues", V.ref q), ("own_runner", optV x2.runner)]))) = H3
          have FS3 : Fr S H H3 := by rw [← eH3]; exact FS
          have hc4 : CrsIn K H0 H3 c ba b c2 S := by rw [← eH3]; exact hc3
          clear eH3 hc3 FS F3 C3 g1 hc2 F2 hc1 e2 hp pk eT
          by_cases he : wd = .end_
          · subst he
            obtain ⟨dx, tl, q, xs, g1, g2, gl, F4, C4⟩ := hc4.at_.setTask (t := t) (pa := He.ga K "ENDED") (p := .ended) (.tup (t_ENDED T H3) (.cons (.str _) .nil))
            refine ⟨_, rfl, rfl, true, by decide +kernel, andT rfl ?_⟩
            refine ⟨_, rfl, c, _, dx, _, .ref tl, rfl, g1, c_Course T, n_Course_own_tasks T, rfl, _, rfl, tl, xs, _, t, rfl, rfl, g2, ixN_nat (by omega), ?_⟩
            refine ⟨_, rfl, qq _ (FS3.trans F4) (hc.to (FS3.trans F4) ?_ okT)⟩
            exact C4
          · refine ⟨_, rfl, rfl, false, by cases wd <;> first | exact absurd rfl he | decide +kernel, andF rfl ?_⟩
            obtain ⟨dx, tl, q, Sq, g1, ⟨xs, g2, g3⟩, g4, _⟩ := hc4.at_.ex
            obtain ⟨v, hv, td⟩ := post_at g3 et
            obtain ⟨pa, rfl, hpa⟩ := td.post
            have hx : wd = .on ∨ wd = .sleep ∨ wd = .way := by
              cases wd with
              | on => exact .inl rfl
              | sleep => exact .inr (.inl rfl)
              | way => exact .inr (.inr rfl)
              | end_ => exact absurd rfl he
              | bell => exact absurd rfl hb
            refine ⟨_, rfl, c, _, dx, _, .ref ba, rfl, g1, c_Course T, n_Course_own_book T, rfl, _, rfl, c, _, dx, _, .ref tl, rfl, g1, c_Course T, n_Course_own_tasks T, rfl, _, rfl, tl, _, _, _, rfl, rfl, .inl (.inl g2), atI_nat hv, 1, rfl, pa, _, rfl, hpa, fun z => absurd z.1 (by show ¬ (1 = 0); decide), fun _ st hst => ?_⟩
            have S1 := same_new (o := .tup (cutV [.str m.s, .int l, leftV k] (some 1) none)) hst
            refine ⟨st, l, k, rfl, .inl (.inl upd_same), fun n hn => (hk n hn).1, fun H4 st2 S4 hs2 => ⟨_, rfl, ?_⟩⟩
            have S14 := S1.trans S4
            refine ⟨ba, st2, b, l, k.map (· - 1), wd, rfl, (hc4.step S14).bk.now, hc.bo, hl, hs2, hx, fun H5 t5 S5 ⟨u, hu, ht5⟩ => ?_⟩
            refine ⟨t5, _, rfl, ht5, rfl, _, _, rfl, _, _, rfl, rfl, ?_⟩
            have S15 := S14.trans S5
            have hc5 := hc4.step S15
            have FS5 := FS3.trans (Fr.of S S15)
            obtain ⟨dx6, tl6, q6, xs6, k1, k2, kl, F6, C6⟩ := hc5.at_.setTask (t := t) hu
            have hu6 := hu.fr F6
            have FS6 := FS5.trans F6
            refine ⟨_, rfl, _, rfl, c, _, dx6, _, .ref tl6, rfl, k1, c_Course T, n_Course_own_tasks T, rfl, _, rfl, tl6, xs6, _, t, rfl, rfl, k2, ixN_nat (by omega), ?_⟩
            have ew : c2.work b t wd = match afterW b l (k.map (· - 1)) wd with
              | (p, some front) => { c2 with tasks := c2.tasks.set t p, queues := match p with
                  | .st _ l' _ => putQ c2.queues l' front t
                  | .ended => c2.queues }
              | (p, none) => { c2 with tasks := c2.tasks.set t p, runner := if wd = .sleep then none else some t } := by
              unfold Crs.work
              rw [if_neg he, et] <;> rfl
            have hk1 : ∀ j, k.map (· - 1) = some j → j ≤ 3 := fun j hj => by
              cases k with
              | none => cases hj
              | some i => cases hj; have := (hk i rfl).2; show i - 1 ≤ 3; omega
            have hcs := afterW_cases hc.bo hl hk1 wd
            generalize afterW b l (k.map (· - 1)) wd = r at *
            rcases hcs with ⟨l', k', f, rfl, hl'⟩ | ⟨hw, rfl⟩ | ⟨hw, rfl⟩
            · dsimp only at hu6 ew C6
              obtain ⟨u', e', hus⟩ := Td.post hu6
              cases e'
              obtain ⟨dx7, tl7, q7, dq7, ll7, Sq7, j1, j2, j3, j4⟩ := C6.setQ
              refine ⟨_, rfl, rfl, true, rfl, andT rfl ?_⟩
              refine ⟨_, rfl, c, _, dx7, _, .ref q7, rfl, j1, c_Course T, n_Course_own_queues T, rfl, q7, dq7, _, rfl, j2, rfl, _, rfl, _, rfl, u, _, _, _, rfl, rfl, hus, atI_nat (j := 1) rfl, _, rfl, ?_⟩
              refine ⟨q7, t, l', f, c2.queues, Sq7, rfl, j3, wk.ok.qeach hc.bo, by rw [wk.ok.qlen]; exact hl', fun H7 F7 Q7 => ?_⟩
              obtain ⟨F8, C8⟩ := j4 H7 _ F7 Q7
              rw [ew] at qq okT
              exact ⟨_, rfl, qq H7 (FS6.trans F8) (hc.to (FS6.trans F8) C8 okT)⟩
            · dsimp only at hu6 ew C6
              subst hw
              obtain ⟨u', e', hus⟩ := Td.post hu6
              cases e'
              rw [if_pos rfl] at ew
              rw [ew] at qq okT
              have nr := wk.nr
              refine ⟨_, rfl, rfl, false, rfl, andF rfl ⟨_, rfl, u, _, _, _, rfl, rfl, hus, atI_nat (j := 0) rfl, rfl, false, by decide +kernel, andF rfl ⟨_, rfl, qq _ FS6 (hc.to FS6 ?_ okT)⟩⟩⟩
              rw [nr] at C6
              exact C6
            · dsimp only at hu6 ew C6
              obtain ⟨u', e', hus⟩ := Td.post hu6
              cases e'
              rw [if_neg hw] at ew
              rw [ew] at qq okT
              obtain ⟨dx7, tl7, q7, j1⟩ := C6.head
              obtain ⟨F8, C8⟩ := C6.setRunner (some t) j1
              refine ⟨_, rfl, rfl, false, rfl, andF rfl ⟨_, rfl, u, _, _, _, rfl, rfl, hus, atI_nat (j := 0) rfl, rfl, true, by decide +kernel, andT rfl ?_⟩⟩
              refine ⟨_, rfl, _, rfl, c, _, dx7, _, rfl, j1, c_Course T, n_Course_own_runner T, by show 4 < 1000; decide, ?_⟩
              exact ⟨_, rfl, qq _ (FS6.trans F8) (hc.to (FS6.trans F8) C8 okT)⟩
end
end Tb
set_option Elab.async false
set_option linter.all false
set_option maxRecDepth 100000
set_option maxHeartbeats 4000000
/-! Courses: made, twins. -/
namespace Tb
open PySem PySem.Spec PyProof.Rows L2
theorem none_back {H H' : Hp} (s : Same H H') {a : Addr} (h : H' a = none) : H a = none := by
  cases e : H a with
  | none => rfl
  | some o => have := s _ _ e; rw [h] at this; cases this
theorem ins_ne {H : Hp} {a b C D dx dy : Addr} {fs gs : List (Str × V)} (ha : H a = some (.ins C dx fs)) (hb : H b = some (.ins D dy gs)) (n : fs.length ≠ gs.length) : a ≠ b := fun e => by
  rw [e, hb] at ha
  injection ha with h
  injection h with h1 h2 h3
  exact n (by rw [h3])
theorem Fr.fresh {T : List Addr} {H H' : Hp} (f : Fr T H H') (l : ∀ a ∈ T, H a ≠ none → H' a ≠ none) {a : Addr} (h : H' a = none) : H a = none := by
  cases e : H a with
  | none => rfl
  | some o =>
    by_cases m : a ∈ T
    · exact absurd h (l a m (by rw [e]; exact nofun))
    · rw [f.keep a o e m] at h; cases h
theorem made_same {H H' : Hp} {x d : Addr} {o i : HO} (f : Fr [x] (upd (upd H d o) x i) H') (hx : H x = none) (hd : H d = none) : Same H H' := fun b ob e =>
  f.keep b ob (by rw [upd_ne (ne_of_none e hx), upd_ne (ne_of_none e hd)]; exact e) fun m => ne_of_none e hx (List.mem_singleton.1 m)
theorem made_new {H : Hp} {x d : Addr} {o i : HO} {S : List Addr} (g : Grow (upd (upd H d o) x i) [x] S) (hx : H x = none) (hd : H d = none) : ∀ a ∈ S, H a = none := fun a ha => by
  rcases g a ha with m | h
  · rw [List.mem_singleton.1 m]; exact hx
  · exact none_back (H' := upd (upd H d o) x i) (fun b ob e => by rw [upd_ne (ne_of_none e hx), upd_ne (ne_of_none e hd)]; exact e) h
section
variable {P : Program} {w : World} {K : PySem.W.Frag} {mg : Str → Option Value} {base : Heap}
theorem BkAt.fr1  {H H' : Hp} {a c C dx : Addr} {b : Bk} (h : BkAt K H a b) (hc : H c = some (.ins C dx [])) (f : Fr [c] H H') : BkAt K H' a b := by
  obtain ⟨dy, lt, rt, as, h1, h2, h3, h4⟩ := h.ex
  refine ⟨dy, lt, rt, as, f.keep _ _ h1 fun z => ?_, f.sqT h2, Paired.imp (fun _ _ h => h.fr1 hc f) h3, f.sqT h4⟩
  exact ins_ne h1 hc (by show 2 ≠ 0; decide) (List.mem_singleton.1 z)
def sp_Course___init__ (K : PySem.W.Frag) : Sp := fun vs H Q _ => ∃ (c ba dx : Addr) (b : Bk), vs = [.ref c, .ref ba] ∧ H c = some (.ins (He.ga K "Course") dx []) ∧ BkAt K H ba b ∧ BkOk b ∧
  ∀ H' S, Fr [c] H H' → CrsAt K H' c ba (Crs.new b) S → Grow H [c] S → Q .non H'
theorem k_Course___init__ (T : Tx K mg base) : Mkr P w K mg base 4 "Course" (He.ga K "Course") (sp_Course___init__ K) := by
  refine mkr_ok (D_Course___init__ T) (k_Course T) (g_Course T) sc_Course___init__ (fun vs H Q E h => ?_) (fun cdv A outer s H vs Q hr h => ?_)
  · obtain ⟨c, ba, dx, b, rfl, _⟩ := h; rfl
  · obtain ⟨c, ba, dx, b, rfl, hc, hb, bo, qq⟩ := h
    obtain ⟨dy, lt, rt, as, b1, b2, b3, b4⟩ := hb.ex
    have mc : c ∈ [c] := List.mem_singleton.2 rfl
    refine ⟨_, (pss_cons (ps_fld (pv 0) (pv 1) rfl)
      (pss_cons (ps_fld (pv 0) (pe_lst pa_nil) rfl)
      (pss_cons (ps_fld (pv 0) (pe_k (k_Queues___init__ T) hr (by decide) rfl (pa_cons (pe_callB call_len_seq rfl (f_len T) b_len (pa_cons (pe_fld (pv 1) rfl) pa_nil) (by decide) (by decide)) pa_nil)) rfl)
      (pss_one (ps_fld (pv 0) pe_non rfl))))), ?_⟩
    refine ⟨_, rfl, _, rfl, c, _, dx, [], rfl, hc, c_Course T, n_Course_own_book T, by show 0 < 1000; decide, ?_⟩
    have F1 := (Fr.refl [c] H).updIn (u := .ins (He.ga K "Course") dx (putF "own_book" (.ref ba) [])) hc trivial mc
    refine ⟨by show 0 ≤ sizeLine; decide, fun tl htl => ?_⟩
    have htl0 : H tl = none := by
      cases e : H tl with
      | none => rfl
      | some o =>
        by_cases z : tl = c
        · rw [z, upd_same] at htl; cases htl
        · rw [F1.keep _ _ e (fun m => z (List.mem_singleton.1 m))] at htl; cases htl
    have hctl : c ≠ tl := ne_of_none hc htl0
    have F2 := F1.updNew (o := .lst []) htl0
    refine ⟨_, rfl, c, _, dx, _, rfl, by rw [upd_ne hctl]; exact upd_same, c_Course T, n_Course_own_tasks T, by show 1 < 1000; decide, ?_⟩
    have F3 := F2.updIn (u := .ins (He.ga K "Course") dx (putF "own_tasks" (.ref tl) (putF "own_book" (.ref ba) []))) hc trivial mc
    have hb3 := F3.keep _ _ b1 fun m => ins_ne b1 hc (by show 2 ≠ 0; decide) (List.mem_singleton.1 m)
    refine ⟨_, rfl, ba, _, dy, _, .ref lt, rfl, hb3, c_Book T, n_Book_own_levels T, rfl, lt, _, rfl, .inr (F3.sqT b2), ?_⟩
    intro x dq hx hdq hne
    have lenA : ((as.map V.ref).length : Int) = (b.levels.length : Nat) := by rw [List.length_map, Paired.len b3]
    rw [lenA]
    refine ⟨x, dq, b.levels.length, rfl, bo.pos, bo.three, upd_same, fun H4 Sq F4 Q4 G4 => ⟨rfl, ?_⟩⟩
    have S4 := made_same F4 hx hdq
    have N4 := made_new G4 hx hdq
    have hc4 := S4 _ _ (upd_same (a := c))
    have htl4 := S4 tl (.lst []) (by rw [upd_ne hctl.symm]; exact upd_same)
    have hcS : c ∉ Sq := fun m => by have := N4 c m; rw [upd_same] at this; cases this
    have htS : tl ∉ Sq := fun m => by have := N4 tl m; rw [upd_ne hctl.symm, upd_same] at this; cases this
    refine ⟨_, rfl, c, _, dx, _, rfl, hc4, c_Course T, n_Course_own_queues T, by show 2 < 1000; decide, ?_⟩
    refine ⟨_, rfl, c, _, dx, _, rfl, upd_same, c_Course T, n_Course_own_runner T, by show 3 < 1000; decide, ?_⟩
    have F5 := ((Fr.refl [c] H4).updIn (u := .ins (He.ga K "Course") dx (putF "own_queues" (.ref x) (putF "own_tasks" (.ref tl) (putF "own_book" (.ref ba) [])))) hc4 trivial mc).updIn (u := .ins (He.ga K "Course") dx (putF "own_runner" .non (putF "own_queues" (.ref x) (putF "own_tasks" (.ref tl) (putF "own_book" (.ref ba) []))))) hc4 trivial mc
    refine qq _ (c :: tl :: Sq) ((F3.step S4).trans F5) ⟨⟨dx, tl, x, Sq, upd_same, ⟨[], ?_, .nil⟩, Q4.fr F5 fun a ha m => hcS (by rw [← List.mem_singleton.1 m]; exact ha), rfl⟩, ?_⟩ ?_
    · rw [upd_ne hctl.symm, upd_ne hctl.symm]; exact htl4
    · refine List.nodup_cons.2 ⟨fun m => ?_, List.nodup_cons.2 ⟨htS, Q4.nd⟩⟩
      rcases List.mem_cons.1 m with m | m
      · exact hctl m
      · exact hcS m
    · intro a ha
      rcases List.mem_cons.1 ha with rfl | ha
      · exact .inl mc
      rcases List.mem_cons.1 ha with rfl | ha
      · exact .inr htl0
      · refine .inr (F3.fresh (fun z hz _ => ?_) (N4 a ha))
        rw [List.mem_singleton.1 hz, upd_same]
        exact nofun
def sp_Course_twin (K : PySem.W.Frag) : Sp := fun vs H Q _ => ∃ (H0 : Hp) (c ba : Addr) (b : Bk) (x : Crs) (S : List Addr), vs = [.ref c] ∧ CrsIn K H0 H c ba b x S ∧
  ∀ H' c' S', Same H H' → CrsAt K H' c' ba x S' → (∀ a ∈ S', H a = none) → Q (.ref c') H'
theorem k_Course_twin (T : Tx K mg base) : Mth P w K mg base 6 (He.ga K "Course") "twin" (sp_Course_twin K) := by
  refine mth_ok (D_Course_twin T) (c_Course T) (m_Course_twin T) sc_Course_twin (fun vs H Q E h => ?_) (fun cdv A outer s H vs Q hr h => ?_)
  · obtain ⟨H0, c, ba, b, x, S, rfl, _⟩ := h; rfl
  · obtain ⟨H0, c, ba, b, x, S, rfl, hc, qq⟩ := h
    obtain ⟨dx, tl, q, Sq, h1, ⟨xs, h2, h3⟩, h4, _⟩ := hc.at_.ex
    obtain ⟨dq, ll, as, h5, _⟩ := h4.ex
    refine ⟨_, (pss_cons (ps_set (i := 1) sc_Course_twin.nd rfl (Or.inl rfl) (pe_k (k_Course___init__ T) hr (by decide) rfl (pa_cons (pe_fld (pv 0) rfl) pa_nil)))
      (pss_cons (ps_fld (pv 1) (pe_callTy call_list_of rfl (f_list T) b_list (pa_cons (pe_fld (pv 0) rfl) pa_nil)) rfl)
      (pss_cons (ps_fld (pv 1) (pe_m0 (k_Queues_twin T) hr (by decide) (pe_fld (pv 0) rfl)) rfl)
      (pss_cons (ps_fld (pv 1) (pe_fld (pv 0) rfl) rfl)
      (pss_one (ps_ret (pv 1))))))), ?_⟩
    refine ⟨_, rfl, c, _, dx, _, .ref ba, rfl, h1, c_Course T, n_Course_own_book T, rfl, ?_⟩
    intro y dy hy hdy hne
    have Sy : Same H (upd (upd H dy (.own y)) y (.ins (He.ga K "Course") dy [])) := (same_new hdy).trans (same_new (by rw [upd_ne hne.symm]; exact hy))
    refine ⟨y, ba, dy, b, rfl, upd_same, (hc.step Sy).bk.now, hc.bo, fun H1 S1 F1 C1 G1 => ⟨rfl, ?_⟩⟩
    have SH1 := made_same F1 hy hdy
    have N1 := made_new G1 hy hdy
    obtain ⟨dy1, tl1, q1, Sq1, k1, _, _, k4⟩ := C1.ex
    refine ⟨_, rfl, c, _, dx, _, .ref tl, rfl, SH1 _ _ h1, c_Course T, n_Course_own_tasks T, rfl, tl, xs, rfl, .inl (.inl (.inl (SH1 _ _ h2))), fun l hl => ?_⟩
    have hyl : y ≠ l := ne_of_none k1 hl
    have my : y ∈ [y] := List.mem_singleton.2 rfl
    refine ⟨_, rfl, y, _, dy1, _, rfl, by rw [upd_ne hyl]; exact k1, c_Course T, n_Course_own_tasks T, by show 4 < 1000; decide, ?_⟩
    have F2 := ((Fr.refl [y] H1).updNew (o := .lst xs) hl).updIn (u := .ins (He.ga K "Course") dy1 (putF "own_tasks" (.ref l) [("own_book", .ref ba), ("own_tasks", .ref tl1), ("own_queues", .ref q1), ("own_runner", optV (Crs.new b).runner)])) k1 trivial my
    have up : ∀ {a o}, H a = some o → a ∉ [y] := fun {a o} e m => ne_of_none e hy (List.mem_singleton.1 m)
    have SH2 : Same H _ := fun a o e => F2.keep a o (SH1 _ _ e) (up e)
    refine ⟨_, rfl, c, _, dx, _, .ref q, rfl, SH2 _ _ h1, c_Course T, n_Course_own_queues T, rfl, q, dq, _, rfl, SH2 _ _ h5, rfl, q, x.queues, Sq, rfl, h4.same SH2, hc.ok.qeach hc.bo, by rw [hc.ok.qlen]; exact hc.bo.pos, fun H3 q' Sq' S3 Q3 N3 => ?_⟩
    have hy3 := S3 _ _ (upd_same (a := y))
    have SH3 := SH2.trans S3
    refine ⟨_, rfl, y, _, dy1, _, rfl, hy3, c_Course T, n_Course_own_queues T, by show 4 < 1000; decide, ?_⟩
    have F4 := (Fr.refl [y] H3).updIn (u := .ins (He.ga K "Course") dy1 (putF "own_queues" (.ref q') (putF "own_tasks" (.ref l) [("own_book", .ref ba), ("own_tasks", .ref tl1), ("own_queues", .ref q1), ("own_runner", optV (Crs.new b).runner)]))) hy3 trivial my
    have SH4 : Same H _ := fun a o e => F4.keep a o (SH3 _ _ e) (up e)
    refine ⟨_, rfl, c, _, dx, _, _, rfl, SH4 _ _ h1, c_Course T, n_Course_own_runner T, rfl, _, rfl, y, _, dy1, _, rfl, upd_same, c_Course T, n_Course_own_runner T, by show 4 < 1000; decide, ?_⟩
    have F5 := F4.updIn (u := .ins (He.ga K "Course") dy1 (putF "own_runner" (optV x.runner) (putF "own_queues" (.ref q') (putF "own_tasks" (.ref l) [("own_book", .ref ba), ("own_tasks", .ref tl1), ("own_queues", .ref q1), ("own_runner", optV (Crs.new b).runner)])))) hy3 trivial my
    have SH5 : Same H _ := fun a o e => F5.keep a o (SH3 _ _ e) (up e)
    have hl2 := S3 l (.lst xs) (by rw [upd_ne hyl.symm]; exact upd_same)
    have hyS : y ∉ Sq' := fun m => by have := N3 y m; rw [upd_same] at this; cases this
    have hlS : l ∉ Sq' := fun m => by have := N3 l m; rw [upd_ne hyl.symm, upd_same] at this; cases this
    refine ⟨_, rfl, qq _ y (y :: l :: Sq') SH5 ⟨⟨dy1, l, q', Sq', upd_same, ⟨xs, ?_, h3.fr (Fr.of [] SH5)⟩, Q3.fr F5 fun a ha m => hyS (by rw [← List.mem_singleton.1 m]; exact ha), rfl⟩, ?_⟩ ?_⟩
    · exact F5.keep _ _ hl2 fun m => hyl (List.mem_singleton.1 m).symm
    · refine List.nodup_cons.2 ⟨fun m => ?_, List.nodup_cons.2 ⟨hlS, Q3.nd⟩⟩
      rcases List.mem_cons.1 m with m | m
      · exact hyl m
      · exact hyS m
    · intro a ha
      rcases List.mem_cons.1 ha with rfl | ha
      · exact hy
      rcases List.mem_cons.1 ha with rfl | ha
      · exact none_back SH1 hl
      · exact none_back SH2 (N3 a ha)
end
end Tb
set_option Elab.async false
set_option linter.all false
set_option maxRecDepth 100000
set_option maxHeartbeats 4000000
/-! Works in the heap. -/
namespace Tb
open PySem PySem.Spec PyProof.Rows L2
structure WkOk (b : Bk) (x : Wk) : Prop where
  crs : CrsOk b x.crs
  wait : x.waiting.length ≤ x.crs.queues.flatten.length
  tick : x.ticks.length ≤ x.calls.length
  told : x.told.length = x.ticks.length
theorem WkOk.few {b : Bk} {x : Wk} (h : WkOk b x) : x.waiting.length ≤ 12 := Nat.le_trans h.wait h.crs.qfew
theorem wkOk_new {b : Bk} (bo : BkOk b) : WkOk b (Wk.new b) := ⟨crsOk_new bo, Nat.zero_le _, Nat.le_refl _, rfl⟩
theorem letCome_flat {b : Bk} (bo : BkOk b) {x : Crs} (h : CrsOk b x) {cm : Cm} (can : canCm b x cm = true) : (x.letCome b cm).queues.flatten.length = x.queues.flatten.length + 1 := by
  have put : ∀ l f t, l < b.levels.length → (putQ x.queues l f t).flatten.length = x.queues.flatten.length + 1 := fun l f t hl => by
    rw [(putQ_perm f t x.queues l (by rw [h.qlen]; exact hl)).length_eq]
    rfl
  cases cm with
  | come r =>
    unfold canCm at can
    rw [Bool.and_eq_true] at can
    refine put _ _ _ ?_
    have hr := of_decide_eq_true can.1
    rw [List.getD_eq_getElem?_getD, List.getElem?_eq_getElem hr]
    exact bo.ranks _ (List.getElem_mem hr)
  | wake t =>
    obtain ⟨l, k, e⟩ := asleep_at can
    have hpo := h.post t _ l k e
    show (x.wake b t).queues.flatten.length = _
    unfold Crs.wake
    rw [e]
    exact put _ _ _ (moved_ok bo (bo.at hpo.1).wake hpo.2.1).1
theorem wkOk_kept {b : Bk} (bo : BkOk b) {x : Wk} (h : WkOk b x) {cm : Cm} (can : canCm b x.crs cm = true) : WkOk b (x.kept b cm) := by
  refine ⟨crsOk_letCome bo h.crs can, ?_, ?_, h.told⟩
  · show (x.waiting ++ [cm]).length ≤ (x.crs.letCome b cm).queues.flatten.length
    rw [letCome_flat bo h.crs can, List.length_append]
    exact Nat.succ_le_succ h.wait
  · show x.ticks.length ≤ (x.calls ++ [Cl.cm cm]).length
    rw [List.length_append]
    exact Nat.le_succ_of_le h.tick
theorem wkOk_turn {b : Bk} (bo : BkOk b) {x : Wk} (h : WkOk b x) (wd : Wd) : WkOk b (x.turn b wd) := by
  refine ⟨crsOk_tick bo h.crs wd, Nat.zero_le _, ?_, ?_⟩
  · show (x.ticks ++ [(x.waiting, wd)]).length ≤ (x.calls ++ [Cl.tick wd]).length
    rw [List.length_append, List.length_append]
    exact Nat.succ_le_succ h.tick
  · show (x.told ++ [_]).length = (x.ticks ++ [(x.waiting, wd)]).length
    rw [List.length_append, List.length_append, h.told]
    rfl
structure WorkAt (K : PySem.W.Frag) (H : Hp) (w ba : Addr) (x : Wk) (S : List Addr) : Prop where
  ex : ∃ dx c wl tl ol cl Sc, H w = some (.ins (He.ga K "Work") dx [("own_course", .ref c), ("own_waiting", .ref wl), ("own_ticks", .ref tl), ("own_told", .ref ol), ("own_calls", .ref cl)]) ∧ CrsAt K H c ba x.crs Sc ∧
    Dl K H wl (x.waiting.map Cm.d) ∧ Dl K H tl (x.ticks.map Tk.d) ∧ Dl K H ol (x.told.map Told.d) ∧ Dl K H cl (x.calls.map Cl.d) ∧ S = w :: wl :: tl :: ol :: cl :: Sc
  nd : S.Nodup
structure WorkD (w wl tl ol cl : Addr) (Sc : List Addr) : Prop where
  wwl : w ≠ wl
  wtl : w ≠ tl
  wol : w ≠ ol
  wcl : w ≠ cl
  wltl : wl ≠ tl
  wlol : wl ≠ ol
  wlcl : wl ≠ cl
  tlol : tl ≠ ol
  tlcl : tl ≠ cl
  olcl : ol ≠ cl
  wS : w ∉ Sc
  wlS : wl ∉ Sc
  tlS : tl ∉ Sc
  olS : ol ∉ Sc
  clS : cl ∉ Sc
  nd : Sc.Nodup
theorem workD {w wl tl ol cl : Addr} {Sc : List Addr} (h : (w :: wl :: tl :: ol :: cl :: Sc).Nodup) : WorkD w wl tl ol cl Sc := by
  simp only [List.nodup_cons, List.mem_cons, not_or] at h
  obtain ⟨⟨h1, h2, h3, h4, h5⟩, ⟨h6, h7, h8, h9⟩, ⟨h10, h11, h12⟩, ⟨h13, h14⟩, h15, h16⟩ := h
  exact ⟨h1, h2, h3, h4, h6, h7, h8, h10, h11, h13, h5, h9, h12, h14, h15, h16⟩
theorem WorkD.nodup {w wl tl ol cl : Addr} {Sc : List Addr} (d : WorkD w wl tl ol cl Sc) : (w :: wl :: tl :: ol :: cl :: Sc).Nodup := by
  simp only [List.nodup_cons, List.mem_cons, not_or]
  exact ⟨⟨d.wwl, d.wtl, d.wol, d.wcl, d.wS⟩, ⟨d.wltl, d.wlol, d.wlcl, d.wlS⟩, ⟨d.tlol, d.tlcl, d.tlS⟩, ⟨d.olcl, d.olS⟩, d.clS, d.nd⟩
section
variable {K : PySem.W.Frag}
theorem Dl.live {H : Hp} {l : Addr} {ds : List PyData} (h : Dl K H l ds) : H l ≠ none := by
  obtain ⟨xs, e, _⟩ := h
  rw [e]; exact nofun
theorem WorkAt.fr {H H' : Hp} {w ba : Addr} {x : Wk} {S T : List Addr} (h : WorkAt K H w ba x S) (f : Fr T H H') (n : ∀ a ∈ S, a ∉ T) : WorkAt K H' w ba x S := by
  obtain ⟨dx, c, wl, tl, ol, cl, Sc, h1, h2, h3, h4, h5, h6, rfl⟩ := h.ex
  exact ⟨⟨dx, c, wl, tl, ol, cl, Sc, f.keep _ _ h1 (n _ (by simp)), h2.fr f (fun a ha => n a (by simp [ha])), h3.fr f (n _ (by simp)), h4.fr f (n _ (by simp)), h5.fr f (n _ (by simp)), h6.fr f (n _ (by simp)), rfl⟩, h.nd⟩
theorem WorkAt.same {H H' : Hp} {w ba : Addr} {x : Wk} {S : List Addr} (h : WorkAt K H w ba x S) (s : Same H H') : WorkAt K H' w ba x S := h.fr (Fr.of [] s) fun _ _ => List.not_mem_nil
theorem WorkAt.live {H : Hp} {w ba : Addr} {x : Wk} {S : List Addr} (h : WorkAt K H w ba x S) : ∀ a ∈ S, H a ≠ none := by
  obtain ⟨dx, c, wl, tl, ol, cl, Sc, h1, h2, h3, h4, h5, h6, rfl⟩ := h.ex
  intro a ha
  simp only [List.mem_cons] at ha
  rcases ha with rfl | rfl | rfl | rfl | rfl | ha
  · rw [h1]; exact nofun
  · exact h3.live
  · exact h4.live
  · exact h5.live
  · exact h6.live
  · exact h2.live a ha
theorem WorkAt.head {H : Hp} {w ba : Addr} {x : Wk} {S : List Addr} (h : WorkAt K H w ba x S) : ∃ (dx c wl tl ol cl : Addr) (Sc : List Addr), H w = Option.some (.ins (He.ga K "Work") dx [("own_course", .ref c), ("own_waiting", .ref wl), ("own_ticks", .ref tl), ("own_told", .ref ol), ("own_calls", .ref cl)]) ∧ CrsAt K H c ba x.crs Sc ∧
    Dl K H wl (x.waiting.map Cm.d) ∧ Dl K H tl (x.ticks.map Tk.d) ∧ Dl K H ol (x.told.map Told.d) ∧ Dl K H cl (x.calls.map Cl.d) ∧ (∀ a ∈ Sc, a ∈ S) ∧
    ∀ H' y, Fr Sc H H' → CrsAt K H' c ba y Sc → Fr S H H' ∧ WorkAt K H' w ba { x with crs := y } S := by
  obtain ⟨dx, c, wl, tl, ol, cl, Sc, h1, h2, h3, h4, h5, h6, rfl⟩ := h.ex
  have D := workD h.nd
  refine ⟨dx, c, wl, tl, ol, cl, Sc, h1, h2, h3, h4, h5, h6, fun a ha => by simp [ha], fun H' y f cy => ⟨f.mono fun a m => by simp [m], ⟨dx, c, wl, tl, ol, cl, Sc, f.keep _ _ h1 D.wS, cy, h3.fr f D.wlS, h4.fr f D.tlS, h5.fr f D.olS, h6.fr f D.clS, rfl⟩, h.nd⟩⟩
theorem WorkAt.app_waiting {H : Hp} {w ba : Addr} {x : Wk} {S : List Addr} (h : WorkAt K H w ba x S) {z : Cm} {v : V} (td : Td K H v (Cm.d z)) :
    ∃ (dx c wl tl ol cl : Addr) (xs : List V), H w = Option.some (.ins (He.ga K "Work") dx [("own_course", .ref c), ("own_waiting", .ref wl), ("own_ticks", .ref tl), ("own_told", .ref ol), ("own_calls", .ref cl)]) ∧ H wl = Option.some (.lst xs) ∧ xs.length = x.waiting.length ∧
      Fr S H (upd H wl (.lst (xs ++ [v]))) ∧ WorkAt K (upd H wl (.lst (xs ++ [v]))) w ba { x with waiting := x.waiting ++ [z] } S := by
  obtain ⟨dx, c, wl, tl, ol, cl, Sc, h1, h2, ⟨xs_wl, g_wl, h_wl⟩, ⟨xs_tl, g_tl, h_tl⟩, ⟨xs_ol, g_ol, h_ol⟩, ⟨xs_cl, g_cl, h_cl⟩, rfl⟩ := h.ex
  have D := workD h.nd
  have F1 : Fr [wl] H (upd H wl (.lst (xs_wl ++ [v]))) := Fr.wr g_wl trivial (List.mem_singleton.2 rfl)
  refine ⟨dx, c, wl, tl, ol, cl, xs_wl, h1, g_wl, by rw [h_wl.len, List.length_map], F1.mono fun a m => by rw [List.mem_singleton.1 m]; simp, ⟨dx, c, wl, tl, ol, cl, Sc, ?_, h2.fr F1 (fun a ha m => D.wlS (by rw [← List.mem_singleton.1 m]; exact ha)), ⟨_, upd_same, by rw [List.map_append]; exact (h_wl.fr F1).append (.cons (td.fr F1) .nil)⟩, Dl.fr ⟨_, g_tl, h_tl⟩ F1 (fun m => (Ne.symm (D.wltl)) (List.mem_singleton.1 m)), Dl.fr ⟨_, g_ol, h_ol⟩ F1 (fun m => (Ne.symm (D.wlol)) (List.mem_singleton.1 m)), Dl.fr ⟨_, g_cl, h_cl⟩ F1 (fun m => (Ne.symm (D.wlcl)) (List.mem_singleton.1 m)), rfl⟩, h.nd⟩
  rw [upd_ne D.wwl]
  exact h1

theorem WorkAt.app_ticks {H : Hp} {w ba : Addr} {x : Wk} {S : List Addr} (h : WorkAt K H w ba x S) {z : Tk} {v : V} (td : Td K H v (Tk.d z)) :
    ∃ (dx c wl tl ol cl : Addr) (xs : List V), H w = Option.some (.ins (He.ga K "Work") dx [("own_course", .ref c), ("own_waiting", .ref wl), ("own_ticks", .ref tl), ("own_told", .ref ol), ("own_calls", .ref cl)]) ∧ H tl = Option.some (.lst xs) ∧ xs.length = x.ticks.length ∧
      Fr S H (upd H tl (.lst (xs ++ [v]))) ∧ WorkAt K (upd H tl (.lst (xs ++ [v]))) w ba { x with ticks := x.ticks ++ [z] } S := by
  obtain ⟨dx, c, wl, tl, ol, cl, Sc, h1, h2, ⟨xs_wl, g_wl, h_wl⟩, ⟨xs_tl, g_tl, h_tl⟩, ⟨xs_ol, g_ol, h_ol⟩, ⟨xs_cl, g_cl, h_cl⟩, rfl⟩ := h.ex
  have D := workD h.nd
  have F1 : Fr [tl] H (upd H tl (.lst (xs_tl ++ [v]))) := Fr.wr g_tl trivial (List.mem_singleton.2 rfl)
  refine ⟨dx, c, wl, tl, ol, cl, xs_tl, h1, g_tl, by rw [h_tl.len, List.length_map], F1.mono fun a m => by rw [List.mem_singleton.1 m]; simp, ⟨dx, c, wl, tl, ol, cl, Sc, ?_, h2.fr F1 (fun a ha m => D.tlS (by rw [← List.mem_singleton.1 m]; exact ha)), Dl.fr ⟨_, g_wl, h_wl⟩ F1 (fun m => (D.wltl) (List.mem_singleton.1 m)), ⟨_, upd_same, by rw [List.map_append]; exact (h_tl.fr F1).append (.cons (td.fr F1) .nil)⟩, Dl.fr ⟨_, g_ol, h_ol⟩ F1 (fun m => (Ne.symm (D.tlol)) (List.mem_singleton.1 m)), Dl.fr ⟨_, g_cl, h_cl⟩ F1 (fun m => (Ne.symm (D.tlcl)) (List.mem_singleton.1 m)), rfl⟩, h.nd⟩
  rw [upd_ne D.wtl]
  exact h1

theorem WorkAt.app_told {H : Hp} {w ba : Addr} {x : Wk} {S : List Addr} (h : WorkAt K H w ba x S) {z : Told} {v : V} (td : Td K H v (Told.d z)) :
    ∃ (dx c wl tl ol cl : Addr) (xs : List V), H w = Option.some (.ins (He.ga K "Work") dx [("own_course", .ref c), ("own_waiting", .ref wl), ("own_ticks", .ref tl), ("own_told", .ref ol), ("own_calls", .ref cl)]) ∧ H ol = Option.some (.lst xs) ∧ xs.length = x.told.length ∧
      Fr S H (upd H ol (.lst (xs ++ [v]))) ∧ WorkAt K (upd H ol (.lst (xs ++ [v]))) w ba { x with told := x.told ++ [z] } S := by
  obtain ⟨dx, c, wl, tl, ol, cl, Sc, h1, h2, ⟨xs_wl, g_wl, h_wl⟩, ⟨xs_tl, g_tl, h_tl⟩, ⟨xs_ol, g_ol, h_ol⟩, ⟨xs_cl, g_cl, h_cl⟩, rfl⟩ := h.ex
  have D := workD h.nd
  have F1 : Fr [ol] H (upd H ol (.lst (xs_ol ++ [v]))) := Fr.wr g_ol trivial (List.mem_singleton.2 rfl)
  refine ⟨dx, c, wl, tl, ol, cl, xs_ol, h1, g_ol, by rw [h_ol.len, List.length_map], F1.mono fun a m => by rw [List.mem_singleton.1 m]; simp, ⟨dx, c, wl, tl, ol, cl, Sc, ?_, h2.fr F1 (fun a ha m => D.olS (by rw [← List.mem_singleton.1 m]; exact ha)), Dl.fr ⟨_, g_wl, h_wl⟩ F1 (fun m => (D.wlol) (List.mem_singleton.1 m)), Dl.fr ⟨_, g_tl, h_tl⟩ F1 (fun m => (D.tlol) (List.mem_singleton.1 m)), ⟨_, upd_same, by rw [List.map_append]; exact (h_ol.fr F1).append (.cons (td.fr F1) .nil)⟩, Dl.fr ⟨_, g_cl, h_cl⟩ F1 (fun m => (Ne.symm (D.olcl)) (List.mem_singleton.1 m)), rfl⟩, h.nd⟩
  rw [upd_ne D.wol]
  exact h1

theorem WorkAt.app_calls {H : Hp} {w ba : Addr} {x : Wk} {S : List Addr} (h : WorkAt K H w ba x S) {z : Cl} {v : V} (td : Td K H v (Cl.d z)) :
    ∃ (dx c wl tl ol cl : Addr) (xs : List V), H w = Option.some (.ins (He.ga K "Work") dx [("own_course", .ref c), ("own_waiting", .ref wl), ("own_ticks", .ref tl), ("own_told", .ref ol), ("own_calls", .ref cl)]) ∧ H cl = Option.some (.lst xs) ∧ xs.length = x.calls.length ∧
      Fr S H (upd H cl (.lst (xs ++ [v]))) ∧ WorkAt K (upd H cl (.lst (xs ++ [v]))) w ba { x with calls := x.calls ++ [z] } S := by
  obtain ⟨dx, c, wl, tl, ol, cl, Sc, h1, h2, ⟨xs_wl, g_wl, h_wl⟩, ⟨xs_tl, g_tl, h_tl⟩, ⟨xs_ol, g_ol, h_ol⟩, ⟨xs_cl, g_cl, h_cl⟩, rfl⟩ := h.ex
  have D := workD h.nd
  have F1 : Fr [cl] H (upd H cl (.lst (xs_cl ++ [v]))) := Fr.wr g_cl trivial (List.mem_singleton.2 rfl)
  refine ⟨dx, c, wl, tl, ol, cl, xs_cl, h1, g_cl, by rw [h_cl.len, List.length_map], F1.mono fun a m => by rw [List.mem_singleton.1 m]; simp, ⟨dx, c, wl, tl, ol, cl, Sc, ?_, h2.fr F1 (fun a ha m => D.clS (by rw [← List.mem_singleton.1 m]; exact ha)), Dl.fr ⟨_, g_wl, h_wl⟩ F1 (fun m => (D.wlcl) (List.mem_singleton.1 m)), Dl.fr ⟨_, g_tl, h_tl⟩ F1 (fun m => (D.tlcl) (List.mem_singleton.1 m)), Dl.fr ⟨_, g_ol, h_ol⟩ F1 (fun m => (D.olcl) (List.mem_singleton.1 m)), ⟨_, upd_same, by rw [List.map_append]; exact (h_cl.fr F1).append (.cons (td.fr F1) .nil)⟩, rfl⟩, h.nd⟩
  rw [upd_ne D.wcl]
  exact h1

/-- the comings that wait are a new, empty list -/
theorem WorkAt.reset {H : Hp} {w ba : Addr} {x : Wk} {S : List Addr} (h : WorkAt K H w ba x S) {l : Addr} (hl : H l = Option.none) :
    ∃ (dx c wl tl ol cl : Addr) (S' : List Addr), upd H l (.lst []) w = Option.some (.ins (He.ga K "Work") dx [("own_course", .ref c), ("own_waiting", .ref wl), ("own_ticks", .ref tl), ("own_told", .ref ol), ("own_calls", .ref cl)]) ∧ Grow H S S' ∧
      Fr S H (upd (upd H l (.lst [])) w (.ins (He.ga K "Work") dx [("own_course", .ref c), ("own_waiting", .ref l), ("own_ticks", .ref tl), ("own_told", .ref ol), ("own_calls", .ref cl)])) ∧
      WorkAt K (upd (upd H l (.lst [])) w (.ins (He.ga K "Work") dx [("own_course", .ref c), ("own_waiting", .ref l), ("own_ticks", .ref tl), ("own_told", .ref ol), ("own_calls", .ref cl)])) w ba { x with waiting := [] } S' := by
  obtain ⟨dx, c, wl, tl, ol, cl, Sc, h1, h2, h3, h4, h5, h6, rfl⟩ := h.ex
  have D := workD h.nd
  have live := h.live
  have nl : ∀ a ∈ (w :: wl :: tl :: ol :: cl :: Sc), a ≠ l := fun a ha e => live a ha (by rw [e]; exact hl)
  have hwl := nl w (by simp)
  have F1 : Fr [w] H (upd (upd H l (.lst [])) w (.ins (He.ga K "Work") dx [("own_course", .ref c), ("own_waiting", .ref l), ("own_ticks", .ref tl), ("own_told", .ref ol), ("own_calls", .ref cl)])) := ((Fr.refl [w] H).updNew hl).updIn h1 trivial (List.mem_singleton.2 rfl)
  have off : ∀ {a : Addr}, w ≠ a → a ∉ [w] := fun n m => n (List.mem_singleton.1 m).symm
  refine ⟨dx, c, wl, tl, ol, cl, w :: l :: tl :: ol :: cl :: Sc, by rw [upd_ne hwl]; exact h1, fun a ha => ?_, F1.mono fun a m => by rw [List.mem_singleton.1 m]; simp, ⟨dx, c, l, tl, ol, cl, Sc, upd_same, h2.fr F1 (fun a ha m => D.wS (by rw [← List.mem_singleton.1 m]; exact ha)), ⟨[], ?_, .nil⟩, h4.fr F1 (off D.wtl), h5.fr F1 (off D.wol), h6.fr F1 (off D.wcl), rfl⟩, ?_⟩
  · simp only [List.mem_cons] at ha ⊢
    rcases ha with rfl | rfl | rfl | rfl | rfl | ha
    · exact .inl (.inl rfl)
    · exact .inr hl
    · simp
    · simp
    · simp
    · simp [ha]
  · rw [upd_ne hwl.symm]; exact upd_same
  · exact WorkD.nodup ⟨hwl, D.wtl, D.wol, D.wcl, (nl tl (by simp)).symm, (nl ol (by simp)).symm, (nl cl (by simp)).symm, D.tlol, D.tlcl, D.olcl, D.wS, fun m => nl l (by simp [m]) rfl, D.tlS, D.olS, D.clS, D.nd⟩
structure WorkIn (K : PySem.W.Frag) (H0 H : Hp) (w ba : Addr) (b : Bk) (x : Wk) (S : List Addr) : Prop where
  at_ : WorkAt K H w ba x S
  bk : BkIn K H0 H ba b
  bo : BkOk b
  new : ∀ a ∈ S, H0 a = none
  ok : WkOk b x
theorem WorkIn.step {H0 H H' : Hp} {w ba : Addr} {b : Bk} {x : Wk} {S : List Addr} (h : WorkIn K H0 H w ba b x S) (s : Same H H') : WorkIn K H0 H' w ba b x S := ⟨h.at_.same s, h.bk.step s, h.bo, h.new, h.ok⟩
theorem WorkIn.to {H0 H H' : Hp} {w ba : Addr} {b : Bk} {x y : Wk} {S S' : List Addr} (h : WorkIn K H0 H w ba b x S) (f : Fr S H H') (g : Grow H S S') (a : WorkAt K H' w ba y S') (o : WkOk b y) : WorkIn K H0 H' w ba b y S' :=
  ⟨a, h.bk.fr f h.new, h.bo, fun z hz => (g z hz).elim (h.new z) fun e => none_back h.bk.same e, o⟩
end
end Tb
set_option Elab.async false
set_option linter.all false
set_option maxRecDepth 100000
set_option maxHeartbeats 4000000
/-! Works. -/
namespace Tb
open PySem PySem.Spec PyProof.Rows L2
theorem keepW {H H' : Hp} {w a : Addr} {o : HO} (f : Fr [w] H H') (h : H a = some o) (n : w ≠ a) : H' a = some o := f.keep a o h fun m => n (List.mem_singleton.1 m).symm
section
variable {P : Program} {w : World} {K : PySem.W.Frag} {mg : Str → Option Value} {base : Heap}
theorem WorkIn.crs {H0 H : Hp} {o ba : Addr} {b : Bk} {x : Wk} {S Sc : List Addr} {c : Addr} (h : WorkIn K H0 H o ba b x S) (hc : CrsAt K H c ba x.crs Sc) (sub : ∀ a ∈ Sc, a ∈ S) : CrsIn K H0 H c ba b x.crs Sc := ⟨hc, h.bk, h.bo, fun a ha => h.new a (sub a ha), h.ok.crs⟩
def sp_Work_kept (K : PySem.W.Frag) : Sp := fun vs H Q _ => ∃ (H0 : Hp) (o ba : Addr) (v : V) (cm : Cm) (b : Bk) (x : Wk) (S : List Addr), vs = [.ref o, v] ∧ WorkIn K H0 H o ba b x S ∧ Td K H v cm.d ∧ canCm b x.crs cm = true ∧ x.calls.length < 1000 ∧
  ∀ H', Fr S H H' → WorkIn K H0 H' o ba b (x.kept b cm) S → ∀ n : Int, Q (.int n) H'
theorem k_Work_kept (T : Tx K mg base) : Mth P w K mg base 6 (He.ga K "Work") "kept" (sp_Work_kept K) := by
  refine mth_ok (D_Work_kept T) (c_Work T) (m_Work_kept T) sc_Work_kept (fun vs H Q E h => ?_) (fun cdv A outer s H vs Q hr h => ?_)
  · obtain ⟨H0, o, ba, v, cm, b, x, S, rfl, _⟩ := h; rfl
  · obtain ⟨H0, o, ba, v, cm, b, x, S, rfl, hw, hv, can, few, qq⟩ := h
    obtain ⟨dx, c, wl, tl, ol, cl, Sc, h1, h2, _, _, _, _, sub, set⟩ := hw.at_.head
    obtain ⟨dc, ctl, cq, c1⟩ := h2.head
    refine ⟨_, (pss_cons (ps_expr (pe_m (k_Course_let_come T) hr (by decide) (pe_fld (pv 0) rfl) (pa_cons (pv 1) pa_nil)))
      (pss_cons (ps_expr (pe_bm PySem.F.plainAttrs_list PySem.F.slot_list_append PySem.F.type_list_append mt_append (pe_fld (pv 0) rfl) (pa_cons (pv 1) pa_nil)))
      (pss_cons (ps_expr (pe_bm PySem.F.plainAttrs_list PySem.F.slot_list_append PySem.F.type_list_append mt_append (pe_fld (pv 0) rfl) (pa_cons (pv 1) pa_nil)))
      (pss_one (ps_ret (pe_op op_sub (pe_callB call_len_seq rfl (f_len T) b_len (pa_cons (pe_fld (pe_fld (pv 0) rfl) rfl) pa_nil) (by decide) (by decide)) pe_int)))))), ?_⟩
    refine ⟨_, rfl, o, _, dx, _, .ref c, rfl, h1, c_Work T, n_Work_own_course T, rfl, c, dc, _, rfl, c1, rfl, _, rfl, H0, c, ba, v, cm, b, x.crs, Sc, rfl, hw.crs h2 sub, hv, can, fun H1 F1 C1 => ?_⟩
    obtain ⟨FS1, W1⟩ := set H1 _ F1 C1.at_
    have hv1 := hv.fr FS1
    obtain ⟨dx1, c', wl1, tl1, ol1, cl1, xs, g1, g2, gl, FS2, W2⟩ := W1.app_waiting (z := cm) hv1
    refine ⟨_, rfl, o, _, dx1, _, .ref wl1, rfl, g1, c_Work T, n_Work_own_waiting T, rfl, .inl ⟨rfl, _, .inl (.inl g2)⟩, _, rfl, wl1, xs, v, rfl, rfl, g2, ?_, ?_⟩
    · rw [gl]; exact Nat.lt_of_le_of_lt hw.ok.few (by decide)
    have hv2 := hv1.fr FS2
    obtain ⟨dx2, c'', wl2, tl2, ol2, cl2, ys, k1, k2, kl, FS3, W3⟩ := W2.app_calls (z := Cl.cm cm) hv2
    refine ⟨_, rfl, o, _, dx2, _, .ref cl2, rfl, k1, c_Work T, n_Work_own_calls T, rfl, .inl ⟨rfl, _, .inl (.inl k2)⟩, _, rfl, cl2, ys, v, rfl, rfl, k2, ?_, ?_⟩
    · rw [kl]; exact Nat.lt_trans few (by decide)
    have FS := (FS1.trans FS2).trans FS3
    have fin := qq _ FS (hw.to FS (Grow.refl _ _) W3 (wkOk_kept hw.bo hw.ok can))
    obtain ⟨dx3, c3, wl3, tl3, ol3, cl3, Sc3, m1, m2, _⟩ := W3.head
    obtain ⟨dc3, ctl3, cq3, Sq3, n1, ⟨zs, n2, _⟩, _⟩ := m2.ex
    exact ⟨_, rfl, o, _, dx3, _, .ref c3, rfl, m1, c_Work T, n_Work_own_course T, rfl, c3, _, dc3, _, .ref ctl3, rfl, n1, c_Course T, n_Course_own_tasks T, rfl, ctl3, zs, rfl, .inl (.inl (.inl n2)), _, _, rfl, rfl, fin _⟩
def sp_Work_require_room (K : PySem.W.Frag) : Sp := fun vs H Q _ => ∃ (H0 : Hp) (o ba : Addr) (b : Bk) (x : Wk) (S : List Addr), vs = [.ref o] ∧ WorkIn K H0 H o ba b x S ∧ Q .non H
theorem k_Work_require_room (T : Tx K mg base) : Mth P w K mg base 1 (He.ga K "Work") "require_room" (sp_Work_require_room K) := by
  refine mth_ok (D_Work_require_room T) (c_Work T) (m_Work_require_room T) sc_Work_require_room (fun vs H Q E h => ?_) (fun cdv A outer s H vs Q hr h => ?_)
  · obtain ⟨H0, o, ba, b, x, S, rfl, _⟩ := h; rfl
  · obtain ⟨H0, o, ba, b, x, S, rfl, hw, qq⟩ := h
    obtain ⟨dx, c, wl, tl, ol, cl, Sc, h1, h2, ⟨xs, h3, h4⟩, _⟩ := hw.at_.head
    refine ⟨_, (pss_one (ps_if (pt_cmpR op_ge (pe_callB call_len_seq rfl (f_len T) b_len (pa_cons (pe_fld (pv 0) rfl) pa_nil) (by decide) (by decide)) (C8.pe_gc rfl (v_MAX_COMINGS T)) (nomark _)) (pss_one ps_never) pss_nil)), ?_⟩
    refine ⟨_, rfl, o, _, dx, _, .ref wl, rfl, h1, c_Work T, n_Work_own_waiting T, rfl, wl, xs, rfl, .inl (.inl (.inl h3)), _, _, rfl, rfl, _, rfl, andF (decide_eq_false ?_) qq⟩
    rw [h4.len, List.length_map]
    have := hw.ok.few
    show ¬ ((x.waiting.length : Int) ≥ 20)
    omega
def sp_Work_let_in (K : PySem.W.Frag) : Sp := fun vs H Q _ => ∃ (H0 : Hp) (o ba : Addr) (r : Nat) (b : Bk) (x : Wk) (S : List Addr), vs = [.ref o, .int r] ∧ WorkIn K H0 H o ba b x S ∧ canCm b x.crs (.come r) = true ∧ x.calls.length < 1000 ∧
  ∀ H', Fr S H H' → WorkIn K H0 H' o ba b (x.kept b (.come r)) S → ∀ n : Int, Q (.int n) H'
theorem k_Work_let_in (T : Tx K mg base) : Mth P w K mg base 7 (He.ga K "Work") "let_in" (sp_Work_let_in K) := by
  refine mth_ok (D_Work_let_in T) (c_Work T) (m_Work_let_in T) sc_Work_let_in (fun vs H Q E h => ?_) (fun cdv A outer s H vs Q hr h => ?_)
  · obtain ⟨H0, o, ba, r, b, x, S, rfl, _⟩ := h; rfl
  · obtain ⟨H0, o, ba, r, b, x, S, rfl, hw, can, few, qq⟩ := h
    obtain ⟨dx, c, wl, tl, ol, cl, Sc, h1, h2, _, _, _, _, sub, set⟩ := hw.at_.head
    obtain ⟨dc, ctl, cq, Sq, c1, ⟨zs, c2, c3⟩, _⟩ := h2.ex
    obtain ⟨dy, lt, rt, as, b1, b2, b3, b4⟩ := hw.bk.now.ex
    have hcan := can
    unfold canCm at hcan
    rw [Bool.and_eq_true] at hcan
    have hrk := of_decide_eq_true hcan.1
    have ht := of_decide_eq_true hcan.2
    refine ⟨_, (pss_cons (ps_if (pt_not (pt_val (pe_f (k_is_below T) hr (by decide) rfl (pa_cons (pv 1) (pa_cons (pe_callB call_len_seq rfl (f_len T) b_len (pa_cons (pe_fld (pe_fld (pe_fld (pv 0) rfl) rfl) rfl) pa_nil) (by decide) (by decide)) pa_nil))))) (pss_one ps_never) pss_nil)
      (pss_cons (ps_if (pt_cmpR op_ge (pe_callB call_len_seq rfl (f_len T) b_len (pa_cons (pe_fld (pe_fld (pv 0) rfl) rfl) pa_nil) (by decide) (by decide)) (C8.pe_gc rfl (v_MAX_TASKS T)) (nomark _)) (pss_one ps_never) pss_nil)
      (pss_cons (ps_expr (pe_m0 (k_Work_require_room T) hr (by decide) (pv 0)))
      (pss_one (ps_ret (pe_m (k_Work_kept T) hr (by decide) (pv 0) (pa_cons (pe_tup (pa_cons (C8.pe_gc rfl (v_COME T)) (pa_cons (pv 1) pa_nil))) pa_nil))))))), ?_⟩
    have rl := hw.bo.rthree
    refine ⟨_, rfl, _, rfl, o, _, dx, _, .ref c, rfl, h1, c_Work T, n_Work_own_course T, rfl, c, _, dc, _, .ref ba, rfl, c1, c_Course T, n_Course_own_book T, rfl, ba, _, dy, _, .ref rt, rfl, b1, c_Book T, n_Book_own_ranks T, rfl, rt, _, rfl, .inr b4, ?_⟩
    refine ⟨r, _, rfl, by omega, by rw [List.length_map]; omega, by rw [List.length_map]; omega, _, rfl, andF rfl ?_⟩
    refine ⟨_, rfl, o, _, dx, _, .ref c, rfl, h1, c_Work T, n_Work_own_course T, rfl, c, _, dc, _, .ref ctl, rfl, c1, c_Course T, n_Course_own_tasks T, rfl, ctl, zs, rfl, .inl (.inl (.inl c2)), _, _, rfl, rfl, _, rfl, andF (decide_eq_false ?_) ?_⟩
    · rw [c3.len, List.length_map]
      show ¬ ((x.crs.tasks.length : Int) ≥ 60)
      omega
    refine ⟨_, rfl, o, dx, _, rfl, h1, rfl, H0, o, ba, b, x, S, rfl, hw, ?_⟩
    refine ⟨_, rfl, o, dx, _, rfl, h1, rfl, _, rfl, by show 2 ≤ sizeLine; decide, fun p hp => ?_⟩
    have S1 := same_new (o := .tup [.str "come", .int r]) hp
    refine ⟨H0, o, ba, .ref p, .come r, b, x, S, rfl, hw.step S1, .tup (.inl (.inl upd_same)) (.cons (.str _) (.cons (.int _) .nil)), can, few, fun H2 F2 W2 n => qq _ ((Fr.of S S1).trans F2) W2 n⟩
def sp_Work_rouse (K : PySem.W.Frag) : Sp := fun vs H Q _ => ∃ (H0 : Hp) (o ba : Addr) (t : Nat) (b : Bk) (x : Wk) (S : List Addr), vs = [.ref o, .int t] ∧ WorkIn K H0 H o ba b x S ∧ isAsleep x.crs t = true ∧ x.calls.length < 1000 ∧
  ∀ H', Fr S H H' → WorkIn K H0 H' o ba b (x.kept b (.wake t)) S → Q .non H'
theorem k_Work_rouse (T : Tx K mg base) : Mth P w K mg base 7 (He.ga K "Work") "rouse" (sp_Work_rouse K) := by
  refine mth_ok (D_Work_rouse T) (c_Work T) (m_Work_rouse T) sc_Work_rouse (fun vs H Q E h => ?_) (fun cdv A outer s H vs Q hr h => ?_)
  · obtain ⟨H0, o, ba, t, b, x, S, rfl, _⟩ := h; rfl
  · obtain ⟨H0, o, ba, t, b, x, S, rfl, hw, can, few, qq⟩ := h
    obtain ⟨dx, c, wl, tl, ol, cl, Sc, h1, h2, _, _, _, _, sub, set⟩ := hw.at_.head
    obtain ⟨dc, ctl, cq, Sq, c1, ⟨zs, c2, c3⟩, _⟩ := h2.ex
    obtain ⟨l, k, e⟩ := asleep_at can
    have hlt := (List.getElem?_eq_some_iff.1 e).1
    have := hw.ok.crs.few
    refine ⟨_, (pss_cons (ps_if (PW.pt (pw_or (pt_not (pt_val (pe_f (k_is_number T) hr (by decide) rfl (pa_cons (pv 1) pa_nil)))) (pw_or1 (pt_not (pt_val (pe_m (k_Course_is_asleep T) hr (by decide) (pe_fld (pv 0) rfl) (pa_cons (pv 1) pa_nil))))))) (pss_one ps_never) pss_nil)
      (pss_cons (ps_expr (pe_m0 (k_Work_require_room T) hr (by decide) (pv 0)))
      (pss_one (ps_expr (pe_m (k_Work_kept T) hr (by decide) (pv 0) (pa_cons (pe_tup (pa_cons (C8.pe_gc rfl (v_WAKE T)) (pa_cons (pv 1) pa_nil))) pa_nil)))))), ?_⟩
    refine ⟨_, rfl, t, rfl, by omega, by omega, _, rfl, andF rfl ?_⟩
    refine ⟨_, rfl, o, _, dx, _, .ref c, rfl, h1, c_Work T, n_Work_own_course T, rfl, c, dc, _, rfl, c1, rfl, _, rfl, c, ba, t, x.crs, Sc, rfl, h2, by omega, _, rfl, ?_⟩
    rw [can]
    refine andF rfl ?_
    refine ⟨_, rfl, o, dx, _, rfl, h1, rfl, H0, o, ba, b, x, S, rfl, hw, ?_⟩
    refine ⟨_, rfl, o, dx, _, rfl, h1, rfl, _, rfl, by show 2 ≤ sizeLine; decide, fun p hp => ?_⟩
    have S1 := same_new (o := .tup [.str "wake", .int t]) hp
    refine ⟨H0, o, ba, .ref p, .wake t, b, x, S, rfl, hw.step S1, .tup (.inl (.inl upd_same)) (.cons (.str _) (.cons (.int _) .nil)), can, few, fun H2 F2 W2 n => qq _ ((Fr.of S S1).trans F2) W2⟩
end
end Tb
set_option Elab.async false
set_option linter.all false
set_option maxRecDepth 100000
set_option maxHeartbeats 4000000
/-! Works: turns, calls of a log. -/
namespace Tb
open PySem PySem.Spec PyProof.Rows L2
theorem Grow.trans {H H' : Hp} {S S' S'' : List Addr} {T : List Addr} (g : Grow H S S') (f : Fr T H H') (l : ∀ a ∈ T, H a ≠ none → H' a ≠ none) (k : Grow H' S' S'') : Grow H S S'' := fun a ha => by
  rcases k a ha with m | h
  · exact g a m
  · exact .inr (f.fresh l h)
section
variable {P : Program} {w : World} {K : PySem.W.Frag} {mg : Str → Option Value} {base : Heap}
/-- frames whose changed addresses go on to stand -/
theorem WorkAt.lives {H H' : Hp} {o ba : Addr} {x y : Wk} {S S' : List Addr} (h : WorkAt K H o ba x S) (h' : WorkAt K H' o ba y S) : ∀ a ∈ S, H a ≠ none → H' a ≠ none := fun a ha _ => h'.live a ha
def sp_Work_turn (K : PySem.W.Frag) : Sp := fun vs H Q _ => ∃ (H0 : Hp) (o ba : Addr) (wd : Wd) (b : Bk) (x : Wk) (S : List Addr), vs = [.ref o, .str wd.s] ∧ WorkIn K H0 H o ba b x S ∧ x.ticks.length < 400 ∧ x.calls.length < 1000 ∧
  ∀ H' S', Fr S H H' → Grow H S S' → WorkIn K H0 H' o ba b (x.turn b wd) S' → Q (toldV (x.crs.tick b wd).2) H'
theorem k_Work_turn (T : Tx K mg base) : Mth P w K mg base 6 (He.ga K "Work") "turn" (sp_Work_turn K) := by
  refine mth_ok (D_Work_turn T) (c_Work T) (m_Work_turn T) sc_Work_turn (fun vs H Q E h => ?_) (fun cdv A outer s H vs Q hr h => ?_)
  · obtain ⟨H0, o, ba, wd, b, x, S, rfl, _⟩ := h; rfl
  · obtain ⟨H0, o, ba, wd, b, x, S, rfl, hw, ft, fc, qq⟩ := h
    obtain ⟨dx, c, wl, tl, ol, cl, Sc, h1, h2, _, ⟨xs, h3, h4⟩, _, _, sub, set⟩ := hw.at_.head
    obtain ⟨dc, ctl, cq, c1⟩ := h2.head
    refine ⟨_, (pss_cons (ps_if (pt_not (pt_val (pe_f (k_is_word T) hr (by decide) rfl (pa_cons (pv 1) pa_nil)))) (pss_one ps_never) pss_nil)
      (pss_cons (ps_if (pt_cmpR op_ge (pe_callB call_len_seq rfl (f_len T) b_len (pa_cons (pe_fld (pv 0) rfl) pa_nil) (by decide) (by decide)) (C8.pe_gc rfl (v_MAX_LOAD T)) (nomark _)) (pss_one ps_never) pss_nil)
      (pss_cons (ps_set (i := 2) sc_Work_turn.nd rfl (Or.inl rfl) (pe_m (k_Course_tick T) hr (by decide) (pe_fld (pv 0) rfl) (pa_cons (pv 1) pa_nil)))
      (pss_cons (ps_expr (pe_bm PySem.F.plainAttrs_list PySem.F.slot_list_append PySem.F.type_list_append mt_append (pe_fld (pv 0) rfl) (pa_cons (pe_tup (pa_cons (pe_callTy call_tuple_of rfl (f_tuple T) b_tuple (pa_cons (pe_fld (pv 0) rfl) pa_nil)) (pa_cons (pv 1) pa_nil))) pa_nil)))
      (pss_cons (ps_fld (pv 0) (pe_lst pa_nil) rfl)
      (pss_cons (ps_expr (pe_bm PySem.F.plainAttrs_list PySem.F.slot_list_append PySem.F.type_list_append mt_append (pe_fld (pv 0) rfl) (pa_cons (pv 2) pa_nil)))
      (pss_cons (ps_expr (pe_bm PySem.F.plainAttrs_list PySem.F.slot_list_append PySem.F.type_list_append mt_append (pe_fld (pv 0) rfl) (pa_cons (pe_tup (pa_cons (C8.pe_gc rfl (v_TICK T)) (pa_cons (pv 1) pa_nil))) pa_nil)))
      (pss_one (ps_ret (pv 2)))))))))), ?_⟩
    refine ⟨_, rfl, wd, rfl, _, rfl, andF rfl ?_⟩
    refine ⟨_, rfl, o, _, dx, _, .ref tl, rfl, h1, c_Work T, n_Work_own_ticks T, rfl, tl, xs, rfl, .inl (.inl (.inl h3)), _, _, rfl, rfl, _, rfl, andF (decide_eq_false ?_) ?_⟩
    · rw [h4.len, List.length_map]
      show ¬ ((x.ticks.length : Int) ≥ 400)
      omega
    refine ⟨_, rfl, o, _, dx, _, .ref c, rfl, h1, c_Work T, n_Work_own_course T, rfl, c, dc, _, rfl, c1, rfl, _, rfl, H0, c, ba, b, x.crs, Sc, wd, rfl, hw.crs h2 sub, fun H1 F1 C1 => ?_⟩
    obtain ⟨FS1, W1⟩ := set H1 _ F1 C1.at_
    -- the tick
    obtain ⟨dx1, c', wl1, tl1, ol1, cl1, Sc1, g1, _, ⟨ws, g2, g3⟩, ⟨ts, g4, _⟩, _⟩ := W1.head
    refine ⟨_, rfl, o, _, dx1, _, .ref tl1, rfl, g1, c_Work T, n_Work_own_ticks T, rfl, .inl ⟨rfl, _, .inl (.inl g4)⟩, ?_⟩
    refine ⟨_, rfl, o, _, dx1, _, .ref wl1, rfl, g1, c_Work T, n_Work_own_waiting T, rfl, wl1, ws, rfl, .inl ⟨.inl (.inl g2), fun p1 hp1 => ?_⟩⟩
    have S1 := same_new (o := .tup ws) hp1
    refine ⟨_, rfl, by show 2 ≤ sizeLine; decide, fun p2 hp2 => ?_⟩
    have S2 := S1.trans (same_new (o := .tup [.ref p1, .str wd.s]) hp2)
    have hp12 : p1 ≠ p2 := ne_of_none upd_same hp2
    have td : Td K _ (.ref p2) (Tk.d (x.waiting, wd)) := .tup (.inl (.inl (upd_same (H := upd H1 p1 (.tup ws)) (a := p2) (o := .tup [.ref p1, .str wd.s])))) (.cons (.tup (.inl (.inl (by rw [upd_ne hp12]; exact upd_same))) (g3.fr (Fr.of [] S2))) (.cons (.str _) .nil))
    have W1' := W1.same S2
    obtain ⟨dx2, c2, wl2, tl2, ol2, cl2, us, k1, k2, kl, FS2, W2⟩ := W1'.app_ticks (z := (x.waiting, wd)) td
    have e1 := k1.symm.trans (S2 _ _ g1)
    cases e1
    refine ⟨tl1, us, .ref p2, rfl, rfl, k2, by rw [kl]; exact Nat.lt_trans ft (by decide), ?_⟩
    -- the comings that wait
    refine ⟨by show 0 ≤ sizeLine; decide, fun l hl => ?_⟩
    obtain ⟨dx3, c3, wl3, tl3, ol3, cl3, S', m1, G3, FS3, W3⟩ := W2.reset hl
    refine ⟨_, rfl, o, _, dx3, _, rfl, m1, c_Work T, n_Work_own_waiting T, by show 5 < 1000; decide, ?_⟩
    obtain ⟨dx4, c4, wl4, tl4, ol4, cl4, vs4, n1, n2, nl, FS4, W4⟩ := W3.app_told (z := (x.crs.tick b wd).2) (toldV_td _)
    refine ⟨_, rfl, o, _, dx4, _, .ref ol4, rfl, n1, c_Work T, n_Work_own_told T, rfl, .inl ⟨rfl, _, .inl (.inl n2)⟩, _, rfl, ol4, vs4, _, rfl, rfl, n2, ?_, ?_⟩
    · rw [nl]
      show x.told.length < _
      rw [hw.ok.told]
      exact Nat.lt_trans ft (by decide)
    obtain ⟨dx5, c5, wl5, tl5, ol5, cl5, Sc5, r1, _, _, _, _, ⟨ys5, r2, _⟩, _⟩ := W4.head
    refine ⟨_, rfl, o, _, dx5, _, .ref cl5, rfl, r1, c_Work T, n_Work_own_calls T, rfl, .inl ⟨rfl, _, .inl (.inl r2)⟩, _, rfl, by show 2 ≤ sizeLine; decide, fun p3 hp3 => ?_⟩
    have S5 := same_new (o := .tup [.str "tick", .str wd.s]) hp3
    obtain ⟨dx6, c6, wl6, tl6, ol6, cl6, vs6, t1, t2, tlen, FS6, W6⟩ := (W4.same S5).app_calls (z := Cl.tick wd) (v := .ref p3) (.tup (.inl (.inl upd_same)) (.cons (.str _) (.cons (.str _) .nil)))
    have e2 := t1.symm.trans (S5 _ _ r1)
    cases e2
    refine ⟨cl5, vs6, _, rfl, rfl, t2, by rw [tlen]; exact Nat.lt_trans fc (by decide), ?_⟩
    have FA : Fr S H _ := (FS1.trans (Fr.of S S2)).trans FS2
    have GS : Grow H S S' := fun a ha => by
      rcases G3 a ha with m | h
      · exact .inl m
      · exact .inr (FA.fresh (fun z hz _ => W2.live z hz) h)
    have FB : Fr S H _ := (FA.trans FS3).trans2 GS ((FS4.trans (Fr.of S' S5)).trans FS6)
    exact ⟨_, rfl, qq _ S' FB GS (hw.to FB GS W6 (wkOk_turn hw.bo hw.ok wd))⟩
/-- a call of a log that can be done -/
theorem canDo_cm {b : Bk} {x : Wk} {cm : Cm} : canDo b x (.cm cm) = canCm b x.crs cm := by
  cases cm <;> rfl
theorem wkOk_step {b : Bk} (bo : BkOk b) {x : Wk} (h : WkOk b x) {cl : Cl} (can : canDo b x cl = true) : WkOk b (x.step b cl) := by
  cases cl with
  | cm cm => exact wkOk_kept bo h (canDo_cm ▸ can)
  | tick wd => exact wkOk_turn bo h wd
def sp_Work_again (K : PySem.W.Frag) : Sp := fun vs H Q _ => ∃ (H0 : Hp) (o ba : Addr) (v : V) (cl : Cl) (b : Bk) (x : Wk) (S : List Addr), vs = [.ref o, v] ∧ WorkIn K H0 H o ba b x S ∧ Td K H v cl.d ∧ canDo b x cl = true ∧ x.calls.length < 400 ∧
  ∀ H' S', Fr S H H' → Grow H S S' → WorkIn K H0 H' o ba b (x.step b cl) S' → Q .non H'
theorem k_Work_again (T : Tx K mg base) : Mth P w K mg base 8 (He.ga K "Work") "again" (sp_Work_again K) := by
  refine mth_ok (D_Work_again T) (c_Work T) (m_Work_again T) sc_Work_again (fun vs H Q E h => ?_) (fun cdv A outer s H vs Q hr h => ?_)
  · obtain ⟨H0, o, ba, v, cl, b, x, S, rfl, _⟩ := h; rfl
  · obtain ⟨H0, o, ba, v, cl, b, x, S, rfl, hw, hv, can, few, qq⟩ := h
    obtain ⟨dx, c, wl, tl, ol, cl', Sc, h1, _⟩ := hw.at_.head
    refine ⟨_, (pss_cons (ps_asg (pv 1) (pg_tup (by rfl) (pgs_cons (pg_name (i := 2) sc_Work_again.nd rfl (Or.inl rfl)) (pgs_cons (pg_name (i := 3) sc_Work_again.nd rfl (Or.inl rfl)) pgs_nil))))
      (pss_one (ps_if (pt_cmpR op_eq (pv 2) (C8.pe_gc rfl (v_TICK T)) (nomark _)) (pss_one (ps_expr (pe_m (k_Work_turn T) hr (by decide) (pv 0) (pa_cons (pv 3) pa_nil)))) (pss_one (ps_if (pt_cmpR op_eq (pv 2) (C8.pe_gc rfl (v_COME T)) (nomark _)) (pss_one (ps_expr (pe_m (k_Work_let_in T) hr (by decide) (pv 0) (pa_cons (pv 3) pa_nil)))) (pss_one (ps_expr (pe_m (k_Work_rouse T) hr (by decide) (pv 0) (pa_cons (pv 3) pa_nil))))))))), ?_⟩
    cases cl with
    | tick wd =>
      obtain ⟨a, y, z, rfl, hs, t1, t2⟩ := Td.two hv
      have e1 := t1.str'
      have e2 := t2.str'
      subst e1 e2
      refine ⟨_, rfl, a, _, rfl, hs, rfl, _, _, rfl, _, _, rfl, rfl, ?_⟩
      refine ⟨_, rfl, rfl, true, by decide +kernel, andT rfl ⟨_, rfl, o, dx, _, rfl, h1, rfl, _, rfl, H0, o, ba, wd, b, x, S, rfl, hw, Nat.lt_of_le_of_lt hw.ok.tick few, Nat.lt_trans few (by decide), fun H' S' F G W => qq H' S' F G W⟩⟩
    | cm cm =>
      have hcm := cm_at hv
      obtain ⟨a, wo, n, rfl, hs, hcm⟩ := hcm
      refine ⟨_, rfl, a, _, rfl, hs, rfl, _, _, rfl, _, _, rfl, rfl, ?_⟩
      rcases hcm with ⟨rfl, rfl⟩ | ⟨rfl, rfl⟩
      · refine ⟨_, rfl, rfl, false, by decide +kernel, andF rfl ⟨_, rfl, rfl, true, by decide +kernel, andT rfl ⟨_, rfl, o, dx, _, rfl, h1, rfl, _, rfl, H0, o, ba, n, b, x, S, rfl, hw, canDo_cm ▸ can, Nat.lt_trans few (by decide), fun H' F W _ => qq H' S F (Grow.refl _ _) W⟩⟩⟩
      · refine ⟨_, rfl, rfl, false, by decide +kernel, andF rfl ⟨_, rfl, rfl, false, by decide +kernel, andF rfl ⟨_, rfl, o, dx, _, rfl, h1, rfl, _, rfl, H0, o, ba, n, b, x, S, rfl, hw, can, Nat.lt_trans few (by decide), fun H' F W => qq H' S F (Grow.refl _ _) W⟩⟩⟩
end
end Tb
set_option Elab.async false
set_option linter.all false
set_option maxRecDepth 100000
set_option maxHeartbeats 4000000
/-! Works: made, branches. -/
namespace Tb
open PySem PySem.Spec PyProof.Rows L2
/-- a store of a new list into a field of w -/
theorem laid {H : Hp} {w l C dx : Addr} {fs gs : List (Str × V)} {xs : List V} (hw : H w = some (.ins C dx fs)) (hl : H l = none) :
    Fr [w] H (upd (upd H l (.lst xs)) w (.ins C dx gs)) ∧ upd (upd H l (.lst xs)) w (.ins C dx gs) l = some (.lst xs) ∧ upd H l (.lst xs) w = some (.ins C dx fs) ∧ w ≠ l := by
  have n := ne_of_none hw hl
  exact ⟨((Fr.refl [w] H).updNew hl).updIn hw trivial (List.mem_singleton.2 rfl), by rw [upd_ne n.symm]; exact upd_same, by rw [upd_ne n]; exact hw, n⟩
section
variable {P : Program} {w : World} {K : PySem.W.Frag} {mg : Str → Option Value} {base : Heap}
def sp_Work___init__ (K : PySem.W.Frag) : Sp := fun vs H Q _ => ∃ (o ba dx : Addr) (b : Bk), vs = [.ref o, .ref ba] ∧ H o = some (.ins (He.ga K "Work") dx []) ∧ BkAt K H ba b ∧ BkOk b ∧
  ∀ H' S, Fr [o] H H' → WorkAt K H' o ba (Wk.new b) S → Grow H [o] S → Q .non H'
theorem k_Work___init__ (T : Tx K mg base) : Mkr P w K mg base 6 "Work" (He.ga K "Work") (sp_Work___init__ K) := by
  refine mkr_ok (D_Work___init__ T) (k_Work T) (g_Work T) sc_Work___init__ (fun vs H Q E h => ?_) (fun cdv A outer s H vs Q hr h => ?_)
  · obtain ⟨o, ba, dx, b, rfl, _⟩ := h; rfl
  · obtain ⟨o, ba, dx, b, rfl, ho, hb, bo, qq⟩ := h
    have mo : o ∈ [o] := List.mem_singleton.2 rfl
    refine ⟨_, (pss_cons (ps_fld (pv 0) (pe_k (k_Course___init__ T) hr (by decide) rfl (pa_cons (pv 1) pa_nil)) rfl)
      (pss_cons (ps_fld (pv 0) (pe_lst pa_nil) rfl)
      (pss_cons (ps_fld (pv 0) (pe_lst pa_nil) rfl)
      (pss_cons (ps_fld (pv 0) (pe_lst pa_nil) rfl)
      (pss_one (ps_fld (pv 0) (pe_lst pa_nil) rfl)))))), ?_⟩
    refine ⟨_, rfl, ?_⟩
    intro c dc hc hdc hne
    have Sc0 : Same H (upd (upd H dc (.own c)) c (.ins (He.ga K "Course") dc [])) := (same_new hdc).trans (same_new (by rw [upd_ne hne.symm]; exact hc))
    refine ⟨c, ba, dc, b, rfl, upd_same, hb.same Sc0, bo, fun H1 Sc F1 C1 G1 => ⟨rfl, ?_⟩⟩
    have SH1 := made_same F1 hc hdc
    have N1 := made_new G1 hc hdc
    have oS : o ∉ Sc := fun m => by have := N1 o m; rw [ho] at this; cases this
    refine ⟨_, rfl, o, _, dx, [], rfl, SH1 _ _ ho, c_Work T, n_Work_own_course T, by show 0 < 1000; decide, ?_⟩
    have F2 := (Fr.refl [o] H1).updIn (u := .ins (He.ga K "Work") dx (putF "own_course" (.ref c) [])) (SH1 _ _ ho) trivial mo
    refine ⟨by show 0 ≤ sizeLine; decide, fun l1 hl1 => ?_⟩
    obtain ⟨F3, p1, q1, n1⟩ := laid (xs := []) (gs := putF "own_waiting" (.ref l1) (putF "own_course" (.ref c) [])) upd_same hl1
    refine ⟨_, rfl, o, _, dx, _, rfl, q1, c_Work T, n_Work_own_waiting T, by show 1 < 1000; decide, ?_⟩
    refine ⟨by show 0 ≤ sizeLine; decide, fun l2 hl2 => ?_⟩
    obtain ⟨F4, p2, q2, n2⟩ := laid (xs := []) (gs := putF "own_ticks" (.ref l2) (putF "own_waiting" (.ref l1) (putF "own_course" (.ref c) []))) upd_same hl2
    refine ⟨_, rfl, o, _, dx, _, rfl, q2, c_Work T, n_Work_own_ticks T, by show 2 < 1000; decide, ?_⟩
    refine ⟨by show 0 ≤ sizeLine; decide, fun l3 hl3 => ?_⟩
    obtain ⟨F5, p3, q3, n3⟩ := laid (xs := []) (gs := putF "own_told" (.ref l3) (putF "own_ticks" (.ref l2) (putF "own_waiting" (.ref l1) (putF "own_course" (.ref c) [])))) upd_same hl3
    refine ⟨_, rfl, o, _, dx, _, rfl, q3, c_Work T, n_Work_own_told T, by show 3 < 1000; decide, ?_⟩
    refine ⟨by show 0 ≤ sizeLine; decide, fun l4 hl4 => ?_⟩
    obtain ⟨F6, p4, q4, n4⟩ := laid (xs := []) (gs := putF "own_calls" (.ref l4) (putF "own_told" (.ref l3) (putF "own_ticks" (.ref l2) (putF "own_waiting" (.ref l1) (putF "own_course" (.ref c) []))))) upd_same hl4
    refine ⟨_, rfl, o, _, dx, _, rfl, q4, c_Work T, n_Work_own_calls T, by show 4 < 1000; decide, ?_⟩
    -- all at the end
    have p1' := keepW F6 (keepW F5 (keepW F4 p1 n1) n1) n1
    have p2' := keepW F6 (keepW F5 p2 n2) n2
    have p3' := keepW F6 p3 n3
    have d12 : l1 ≠ l2 := ne_of_none p1 hl2
    have d13 : l1 ≠ l3 := ne_of_none (keepW F4 p1 n1) hl3
    have d14 : l1 ≠ l4 := ne_of_none (keepW F5 (keepW F4 p1 n1) n1) hl4
    have d23 : l2 ≠ l3 := ne_of_none p2 hl3
    have d24 : l2 ≠ l4 := ne_of_none (keepW F5 p2 n2) hl4
    have d34 : l3 ≠ l4 := ne_of_none p3 hl4
    have off : ∀ a ∈ Sc, a ∉ [o] := fun a ha m => oS (by rw [← List.mem_singleton.1 m]; exact ha)
    have C2 := C1.fr F2 off
    have C3 := C2.fr F3 off
    have C4 := C3.fr F4 off
    have C5 := C4.fr F5 off
    have s1 : l1 ∉ Sc := fun m => C2.live l1 m hl1
    have s2 : l2 ∉ Sc := fun m => C3.live l2 m hl2
    have s3 : l3 ∉ Sc := fun m => C4.live l3 m hl3
    have s4 : l4 ∉ Sc := fun m => C5.live l4 m hl4
    have FA := ((((Fr.of [o] SH1).trans F2).trans F3).trans F4).trans F5
    have liv : ∀ {H' : Hp} {u : HO}, H' o = some u → ∀ z ∈ [o], H z ≠ none → H' z ≠ none := fun {H' u} e z hz _ => by rw [List.mem_singleton.1 hz, e]; exact nofun
    have z1 : H l1 = none := ((Fr.of [o] SH1).trans F2).fresh (liv upd_same) hl1
    have z2 : H l2 = none := (((Fr.of [o] SH1).trans F2).trans F3).fresh (liv upd_same) hl2
    have z3 : H l3 = none := ((((Fr.of [o] SH1).trans F2).trans F3).trans F4).fresh (liv upd_same) hl3
    have z4 : H l4 = none := FA.fresh (liv upd_same) hl4
    refine qq _ (o :: l1 :: l2 :: l3 :: l4 :: Sc) (FA.trans F6) ⟨⟨dx, c, l1, l2, l3, l4, Sc, upd_same, C5.fr F6 off, ⟨[], p1', .nil⟩, ⟨[], p2', .nil⟩, ⟨[], p3', .nil⟩, ⟨[], p4, .nil⟩, rfl⟩, ?_⟩ ?_
    · exact WorkD.nodup ⟨n1, n2, n3, n4, d12, d13, d14, d23, d24, d34, oS, s1, s2, s3, s4, C1.nd⟩
    · intro a ha
      simp only [List.mem_cons] at ha
      rcases ha with rfl | rfl | rfl | rfl | rfl | ha
      · exact .inl mo
      · exact .inr z1
      · exact .inr z2
      · exact .inr z3
      · exact .inr z4
      · exact .inr (N1 a ha)
def sp_Work_branch (K : PySem.W.Frag) : Sp := fun vs H Q _ => ∃ (H0 : Hp) (o ba : Addr) (b : Bk) (x : Wk) (S : List Addr), vs = [.ref o] ∧ WorkIn K H0 H o ba b x S ∧
  ∀ H' o' S', Same H H' → WorkAt K H' o' ba x S' → (∀ a ∈ S', H a = none) → Q (.ref o') H'
theorem k_Work_branch (T : Tx K mg base) : Mth P w K mg base 8 (He.ga K "Work") "branch" (sp_Work_branch K) := by
  refine mth_ok (D_Work_branch T) (c_Work T) (m_Work_branch T) sc_Work_branch (fun vs H Q E h => ?_) (fun cdv A outer s H vs Q hr h => ?_)
  · obtain ⟨H0, o, ba, b, x, S, rfl, _⟩ := h; rfl
  · obtain ⟨H0, o, ba, b, x, S, rfl, hw, qq⟩ := h
    obtain ⟨dx, c, wl, tl, ol, cl, Sc, h1, h2, ⟨w1, w2, w3⟩, ⟨t1, t2, t3⟩, ⟨o1, o2, o3⟩, ⟨c1, c2, c3⟩, sub, _⟩ := hw.at_.head
    obtain ⟨dc, ctl, cq, hcc⟩ := h2.head
    refine ⟨_, (pss_cons (ps_set (i := 1) sc_Work_branch.nd rfl (Or.inl rfl) (pe_k (k_Work___init__ T) hr (by decide) rfl (pa_cons (pe_fld (pe_fld (pv 0) rfl) rfl) pa_nil)))
      (pss_cons (ps_fld (pv 1) (pe_m0 (k_Course_twin T) hr (by decide) (pe_fld (pv 0) rfl)) rfl)
      (pss_cons (ps_fld (pv 1) (pe_callTy call_list_of rfl (f_list T) b_list (pa_cons (pe_fld (pv 0) rfl) pa_nil)) rfl)
      (pss_cons (ps_fld (pv 1) (pe_callTy call_list_of rfl (f_list T) b_list (pa_cons (pe_fld (pv 0) rfl) pa_nil)) rfl)
      (pss_cons (ps_fld (pv 1) (pe_callTy call_list_of rfl (f_list T) b_list (pa_cons (pe_fld (pv 0) rfl) pa_nil)) rfl)
      (pss_cons (ps_fld (pv 1) (pe_callTy call_list_of rfl (f_list T) b_list (pa_cons (pe_fld (pv 0) rfl) pa_nil)) rfl)
      (pss_one (ps_ret (pv 1))))))))), ?_⟩
    refine ⟨_, rfl, o, _, dx, _, .ref c, rfl, h1, c_Work T, n_Work_own_course T, rfl, c, _, dc, _, .ref ba, rfl, hcc, c_Course T, n_Course_own_book T, rfl, ?_⟩
    intro y dy hy hdy hne
    have my : y ∈ [y] := List.mem_singleton.2 rfl
    have Sy : Same H (upd (upd H dy (.own y)) y (.ins (He.ga K "Work") dy [])) := (same_new hdy).trans (same_new (by rw [upd_ne hne.symm]; exact hy))
    refine ⟨y, ba, dy, b, rfl, upd_same, (hw.step Sy).bk.now, hw.bo, fun H1 S1 F1 W1 G1 => ⟨rfl, ?_⟩⟩
    have SH1 := made_same F1 hy hdy
    obtain ⟨dy1, yc, yw, yt, yo, ycl, _, k1, _⟩ := W1.head
    -- the course
    refine ⟨_, rfl, o, _, dx, _, .ref c, rfl, SH1 _ _ h1, c_Work T, n_Work_own_course T, rfl, c, dc, _, rfl, SH1 _ _ hcc, rfl, H0, c, ba, b, x.crs, Sc, rfl, (hw.step SH1).crs (h2.same SH1) sub, fun H2 c' Sc' S2 C2 N2 => ?_⟩
    have k2 := S2 _ _ k1
    have yS : y ∉ Sc' := fun m => by have := N2 y m; rw [k1] at this; cases this
    have off : ∀ a ∈ Sc', a ∉ [y] := fun a ha m => yS (by rw [← List.mem_singleton.1 m]; exact ha)
    have up : ∀ {a : Addr} {ob : HO}, H a = some ob → a ∉ [y] := fun e m => ne_of_none e hy (List.mem_singleton.1 m)
    have SF : ∀ {H' H'' : Hp}, Same H H' → Fr [y] H' H'' → Same H H'' := fun s f a ob e => f.keep a ob (s _ _ e) (up e)
    have SH2 := SH1.trans S2
    refine ⟨_, rfl, y, _, dy1, _, rfl, k2, c_Work T, n_Work_own_course T, by show 5 < 1000; decide, ?_⟩
    have F3 := (Fr.refl [y] H2).updIn (u := .ins (He.ga K "Work") dy1 (putF "own_course" (.ref c') [("own_course", .ref yc), ("own_waiting", .ref yw), ("own_ticks", .ref yt), ("own_told", .ref yo), ("own_calls", .ref ycl)])) k2 trivial my
    have SH3 := SF SH2 F3
    have C3 := C2.fr F3 off
    -- the comings
    refine ⟨_, rfl, o, _, dx, _, .ref wl, rfl, SH3 _ _ h1, c_Work T, n_Work_own_waiting T, rfl, wl, w1, rfl, .inl (.inl (.inl (SH3 _ _ w2))), fun l1 hl1 => ?_⟩
    obtain ⟨F4, p1, q1, n1⟩ := laid (xs := w1) (gs := [("own_course", .ref c'), ("own_waiting", .ref l1), ("own_ticks", .ref yt), ("own_told", .ref yo), ("own_calls", .ref ycl)]) upd_same hl1
    refine ⟨_, rfl, y, _, dy1, _, rfl, q1, c_Work T, n_Work_own_waiting T, by show 5 < 1000; decide, ?_⟩
    have SH4 := SF SH3 F4
    have C4 := C3.fr F4 off
    -- the ticks
    refine ⟨_, rfl, o, _, dx, _, .ref tl, rfl, SH4 _ _ h1, c_Work T, n_Work_own_ticks T, rfl, tl, t1, rfl, .inl (.inl (.inl (SH4 _ _ t2))), fun l2 hl2 => ?_⟩
    obtain ⟨F5, p2, q2, n2⟩ := laid (xs := t1) (gs := [("own_course", .ref c'), ("own_waiting", .ref l1), ("own_ticks", .ref l2), ("own_told", .ref yo), ("own_calls", .ref ycl)]) upd_same hl2
    refine ⟨_, rfl, y, _, dy1, _, rfl, q2, c_Work T, n_Work_own_ticks T, by show 5 < 1000; decide, ?_⟩
    have SH5 := SF SH4 F5
    have C5 := C4.fr F5 off
    -- what was told
    refine ⟨_, rfl, o, _, dx, _, .ref ol, rfl, SH5 _ _ h1, c_Work T, n_Work_own_told T, rfl, ol, o1, rfl, .inl (.inl (.inl (SH5 _ _ o2))), fun l3 hl3 => ?_⟩
    obtain ⟨F6, p3, q3, n3⟩ := laid (xs := o1) (gs := [("own_course", .ref c'), ("own_waiting", .ref l1), ("own_ticks", .ref l2), ("own_told", .ref l3), ("own_calls", .ref ycl)]) upd_same hl3
    refine ⟨_, rfl, y, _, dy1, _, rfl, q3, c_Work T, n_Work_own_told T, by show 5 < 1000; decide, ?_⟩
    have SH6 := SF SH5 F6
    have C6 := C5.fr F6 off
    -- the calls
    refine ⟨_, rfl, o, _, dx, _, .ref cl, rfl, SH6 _ _ h1, c_Work T, n_Work_own_calls T, rfl, cl, c1, rfl, .inl (.inl (.inl (SH6 _ _ c2))), fun l4 hl4 => ?_⟩
    obtain ⟨F7, p4, q4, n4⟩ := laid (xs := c1) (gs := [("own_course", .ref c'), ("own_waiting", .ref l1), ("own_ticks", .ref l2), ("own_told", .ref l3), ("own_calls", .ref l4)]) upd_same hl4
    refine ⟨_, rfl, y, _, dy1, _, rfl, q4, c_Work T, n_Work_own_calls T, by show 5 < 1000; decide, ?_⟩
    have SH7 := SF SH6 F7
    have C7 := C6.fr F7 off
    -- all at the end
    have p1' := keepW F7 (keepW F6 (keepW F5 p1 n1) n1) n1
    have p2' := keepW F7 (keepW F6 p2 n2) n2
    have p3' := keepW F7 p3 n3
    have d12 : l1 ≠ l2 := ne_of_none p1 hl2
    have d13 : l1 ≠ l3 := ne_of_none (keepW F5 p1 n1) hl3
    have d14 : l1 ≠ l4 := ne_of_none (keepW F6 (keepW F5 p1 n1) n1) hl4
    have d23 : l2 ≠ l3 := ne_of_none p2 hl3
    have d24 : l2 ≠ l4 := ne_of_none (keepW F6 p2 n2) hl4
    have d34 : l3 ≠ l4 := ne_of_none p3 hl4
    have s1 : l1 ∉ Sc' := fun m => C3.live l1 m hl1
    have s2 : l2 ∉ Sc' := fun m => C4.live l2 m hl2
    have s3 : l3 ∉ Sc' := fun m => C5.live l3 m hl3
    have s4 : l4 ∉ Sc' := fun m => C6.live l4 m hl4
    refine ⟨_, rfl, qq _ y (y :: l1 :: l2 :: l3 :: l4 :: Sc') SH7 ⟨⟨dy1, c', l1, l2, l3, l4, Sc', upd_same, C7, ⟨_, p1', w3.fr (Fr.of [] SH7)⟩, ⟨_, p2', t3.fr (Fr.of [] SH7)⟩, ⟨_, p3', o3.fr (Fr.of [] SH7)⟩, ⟨_, p4, c3.fr (Fr.of [] SH7)⟩, rfl⟩, ?_⟩ ?_⟩
    · exact WorkD.nodup ⟨n1, n2, n3, n4, d12, d13, d14, d23, d24, d34, yS, s1, s2, s3, s4, C2.nd⟩
    · intro a ha
      simp only [List.mem_cons] at ha
      rcases ha with rfl | rfl | rfl | rfl | rfl | ha
      · exact hy
      · exact none_back SH3 hl1
      · exact none_back SH4 hl2
      · exact none_back SH5 hl3
      · exact none_back SH6 hl4
      · exact none_back SH1 (N2 a ha)
end
end Tb
set_option Elab.async false
set_option linter.all false
set_option maxRecDepth 100000
set_option maxHeartbeats 4000000
/-! The mirror: logs. -/
namespace Tb
open PySem
theorem replayF_append (b : Bk) : ∀ (cs ds : List Cl) (w : Wk), replayF b w (cs ++ ds) = (replayF b w cs).bind fun z => replayF b z ds
  | [], _, _ => rfl
  | c :: cs, ds, w => by
    show (if canDo b w c then replayF b (w.step b c) (cs ++ ds) else none) = (if canDo b w c then replayF b (w.step b c) cs else none).bind _
    split
    · exact replayF_append b cs ds _
    · rfl
theorem replay_append {b : Bk} {cs ds : List Cl} : replay b (cs ++ ds) = (replay b cs).bind fun z => replayF b z ds := replayF_append b cs ds _
theorem replayF_one {b : Bk} {w : Wk} {c : Cl} : replayF b w [c] = if canDo b w c then some (w.step b c) else none := rfl
theorem replay_snoc {b : Bk} {cs : List Cl} {z : Wk} (h : replay b cs = some z) {c : Cl} (can : canDo b z c = true) : replay b (cs ++ [c]) = some (z.step b c) := by
  rw [replay_append, h]
  show replayF b z [c] = _
  rw [replayF_one, if_pos can]
theorem step_calls {b : Bk} {w : Wk} {c : Cl} : (w.step b c).calls = w.calls ++ [c] := by
  cases c <;> rfl
theorem replayF_calls {b : Bk} : ∀ {cs : List Cl} {w z : Wk}, replayF b w cs = some z → z.calls = w.calls ++ cs
  | [], w, z, h => by
    cases h
    rw [List.append_nil]
  | c :: cs, w, z, h => by
    have h' : (if canDo b w c then replayF b (w.step b c) cs else none) = some z := h
    split at h'
    · rw [replayF_calls h', step_calls, List.append_assoc]
      rfl
    · cases h'
theorem replay_calls {b : Bk} {cs : List Cl} {z : Wk} (h : replay b cs = some z) : z.calls = cs := replayF_calls h
theorem replayF_ok {b : Bk} (bo : BkOk b) : ∀ {cs : List Cl} {w z : Wk}, WkOk b w → replayF b w cs = some z → WkOk b z
  | [], w, z, o, h => by
    cases h
    exact o
  | c :: cs, w, z, o, h => by
    have h' : (if canDo b w c then replayF b (w.step b c) cs else none) = some z := h
    split at h'
    · rename_i can
      exact replayF_ok bo (wkOk_step bo o can) h'
    · cases h'
theorem replay_ok {b : Bk} (bo : BkOk b) {cs : List Cl} {z : Wk} (h : replay b cs = some z) : WkOk b z := replayF_ok bo (wkOk_new bo) h
/-- one call further -/
theorem replay_next {b : Bk} {cs : List Cl} {z : Wk} (h : replay b cs = some z) {i : Nat} {c : Cl} (hc : cs[i]? = some c) {zi : Wk} (hi : replay b (cs.take i) = some zi) : canDo b zi c = true ∧ replay b (cs.take (i + 1)) = some (zi.step b c) := by
  have hlt := (List.getElem?_eq_some_iff.1 hc).1
  have e1 : cs.take (i + 1) = cs.take i ++ [c] := by rw [List.take_succ, hc]; rfl
  have e2 : cs = cs.take i ++ (c :: cs.drop (i + 1)) := by
    have := (List.take_append_drop i cs).symm
    rw [List.drop_eq_getElem_cons hlt] at this
    rw [(List.getElem?_eq_some_iff.1 hc).2] at this
    exact this
  have can : canDo b zi c = true := by
    rw [e2, replay_append, hi] at h
    have h' : (if canDo b zi c then replayF b (zi.step b c) (cs.drop (i + 1)) else none) = some z := h
    split at h'
    · assumption
    · cases h'
  exact ⟨can, by rw [e1]; exact replay_snoc hi can⟩
theorem replay_pre {b : Bk} {cs ds : List Cl} {z : Wk} (h : replay b (cs ++ ds) = some z) : ∃ y, replay b cs = some y := by
  rw [replay_append] at h
  cases e : replay b cs with
  | none => rw [e] at h; cases h
  | some y => exact ⟨y, rfl⟩
/-! ### ticks -/
/-- the comings, one by one, are possible -/
def comsOk (b : Bk) : Crs → List Cm → Bool
  | _, [] => true
  | c, m :: ms => canCm b c m && comsOk b (c.letCome b m) ms
def coms (b : Bk) (c : Crs) (ms : List Cm) : Crs := ms.foldl (Crs.letCome b) c
theorem comsOk_snoc {b : Bk} {m : Cm} : ∀ {ms : List Cm} {c : Crs}, comsOk b c ms = true → canCm b (coms b c ms) m = true → comsOk b c (ms ++ [m]) = true
  | [], c, _, h => by
    show (canCm b c m && true) = true
    rw [Bool.and_true]; exact h
  | n :: ms, c, h, k => by
    have h' : (canCm b c n && comsOk b (c.letCome b n) ms) = true := h
    rw [Bool.and_eq_true] at h'
    show (canCm b c n && comsOk b (c.letCome b n) (ms ++ [m])) = true
    rw [h'.1, comsOk_snoc h'.2 k]
    rfl
theorem coms_snoc {b : Bk} {ms : List Cm} {m : Cm} {c : Crs} : coms b c (ms ++ [m]) = (coms b c ms).letCome b m := by
  unfold coms
  rw [List.foldl_append]
  rfl
/-- the course behind the ticks of a load -/
def ticksC (b : Bk) : Crs → List Tk → Crs
  | c, [] => c
  | c, t :: ts => ticksC b ((coms b c t.1).tick b t.2).1 ts
def ticksT (b : Bk) : Crs → List Tk → List Told
  | _, [] => []
  | c, t :: ts => ((coms b c t.1).tick b t.2).2 :: ticksT b ((coms b c t.1).tick b t.2).1 ts
def ticksOk (b : Bk) : Crs → List Tk → Bool
  | _, [] => true
  | c, t :: ts => comsOk b c t.1 && ticksOk b ((coms b c t.1).tick b t.2).1 ts
theorem ticks_snoc {b : Bk} {t : Tk} : ∀ {ts : List Tk} {c : Crs}, ticksC b c (ts ++ [t]) = ((coms b (ticksC b c ts) t.1).tick b t.2).1 ∧ ticksT b c (ts ++ [t]) = ticksT b c ts ++ [((coms b (ticksC b c ts) t.1).tick b t.2).2] ∧
    (ticksOk b c ts = true → comsOk b (ticksC b c ts) t.1 = true → ticksOk b c (ts ++ [t]) = true)
  | [], c => ⟨rfl, rfl, fun _ h => by show (comsOk b c t.1 && true) = true; rw [Bool.and_true]; exact h⟩
  | u :: ts, c => by
    obtain ⟨h1, h2, h3⟩ := ticks_snoc (b := b) (t := t) (ts := ts) (c := ((coms b c u.1).tick b u.2).1)
    refine ⟨h1, ?_, fun h k => ?_⟩
    · show _ :: ticksT b _ (ts ++ [t]) = _ :: (ticksT b _ ts ++ [_])
      rw [h2]
      rfl
    · have h' : (comsOk b c u.1 && ticksOk b ((coms b c u.1).tick b u.2).1 ts) = true := h
      rw [Bool.and_eq_true] at h'
      show (comsOk b c u.1 && ticksOk b _ (ts ++ [t])) = true
      rw [h'.1, h3 h'.2 k]
      rfl
/-- a work and its load -/
structure Load (b : Bk) (z : Wk) : Prop where
  ok : ticksOk b (Crs.new b) z.ticks = true
  told : ticksT b (Crs.new b) z.ticks = z.told
  wok : comsOk b (ticksC b (Crs.new b) z.ticks) z.waiting = true
  crs : coms b (ticksC b (Crs.new b) z.ticks) z.waiting = z.crs
  last : ∀ w cs, z.calls = cs ++ [Cl.tick w] → z.waiting = [] ∧ z.ticks ≠ []
  few : ∀ t ∈ z.ticks, t.1.length ≤ 20
theorem load_new (b : Bk) : Load b (Wk.new b) := ⟨rfl, rfl, rfl, rfl, fun w cs h => absurd (show ([] : List Cl) = cs ++ [Cl.tick w] from h) (by cases cs <;> exact nofun), fun t h => absurd h List.not_mem_nil⟩
theorem load_step {b : Bk} {z : Wk} (o : WkOk b z) (h : Load b z) {c : Cl} (can : canDo b z c = true) : Load b (z.step b c) := by
  cases c with
  | cm m =>
    have can' : canCm b z.crs m = true := canDo_cm (b := b) (x := z) ▸ can
    refine ⟨h.ok, h.told, ?_, ?_, fun w cs e => ?_, h.few⟩
    · exact comsOk_snoc h.wok (by show canCm b (coms b (ticksC b (Crs.new b) z.ticks) z.waiting) m = true; rw [h.crs]; exact can')
    · show coms b _ (z.waiting ++ [m]) = z.crs.letCome b m
      rw [coms_snoc]
      exact congrArg (fun c => Crs.letCome b c m) h.crs
    · have e' : z.calls ++ [Cl.cm m] = cs ++ [Cl.tick w] := e
      have := List.append_inj_right' e' rfl
      cases this
  | tick w =>
    obtain ⟨s1, s2, s3⟩ := ticks_snoc (b := b) (t := (z.waiting, w)) (ts := z.ticks) (c := Crs.new b)
    refine ⟨s3 h.ok h.wok, ?_, rfl, ?_, fun w' cs e => ⟨rfl, ?_⟩, fun t ht => ?_⟩
    · show ticksT b _ (z.ticks ++ [(z.waiting, w)]) = z.told ++ [(z.crs.tick b w).2]
      rw [s2, h.told]
      show z.told ++ [((coms b _ z.waiting).tick b w).2] = _
      rw [h.crs]
    · show ticksC b _ (z.ticks ++ [(z.waiting, w)]) = (z.crs.tick b w).1
      rw [s1]
      show ((coms b _ z.waiting).tick b w).1 = _
      rw [h.crs]
    · show z.ticks ++ [(z.waiting, w)] ≠ []
      simp
    · have ht' : t ∈ z.ticks ++ [(z.waiting, w)] := ht
      rcases List.mem_append.1 ht' with m | m
      · exact h.few t m
      · rw [List.mem_singleton.1 m]
        exact Nat.le_trans o.few (by decide)
theorem replayF_load {b : Bk} (bo : BkOk b) : ∀ {cs : List Cl} {w z : Wk}, WkOk b w → Load b w → replayF b w cs = some z → Load b z
  | [], w, z, _, o, h => by
    cases h
    exact o
  | c :: cs, w, z, k, o, h => by
    have h' : (if canDo b w c then replayF b (w.step b c) cs else none) = some z := h
    split at h'
    · rename_i can
      exact replayF_load bo (wkOk_step bo k can) (load_step k o can) h'
    · cases h'
theorem replay_load {b : Bk} (bo : BkOk b) {cs : List Cl} {z : Wk} (h : replay b cs = some z) : Load b z := replayF_load bo (wkOk_new bo) (load_new b) h
end Tb
set_option Elab.async false
set_option linter.all false
set_option maxRecDepth 100000
set_option maxHeartbeats 4000000
/-! Works of logs. -/
namespace Tb
open PySem PySem.Spec PyProof.Rows L2
section
variable {P : Program} {w : World} {K : PySem.W.Frag} {mg : Str → Option Value} {base : Heap}
theorem cl_at {H : Hp} {xs : List V} {cs : List Cl} (t : Tds K H xs (cs.map Cl.d)) {i : Nat} {v : V} (h : xs[i]? = some v) : ∃ c, cs[i]? = some c ∧ Td K H v c.d := by
  have hlt : i < cs.length := by
    have := (List.getElem?_eq_some_iff.1 h).1
    rw [t.len, List.length_map] at this
    exact this
  obtain ⟨v', hv, td⟩ := t.get (i := i) (d := cs[i].d) (by rw [List.getElem?_map, List.getElem?_eq_getElem hlt]; rfl)
  rw [h] at hv
  cases hv
  exact ⟨cs[i], List.getElem?_eq_getElem hlt, td⟩
def sp_work_of (K : PySem.W.Frag) : Sp := fun vs H Q _ => ∃ (ba cl : Addr) (xs : List V) (b : Bk) (cs : List Cl) (z : Wk), vs = [.ref ba, .ref cl] ∧ BkAt K H ba b ∧ BkOk b ∧ H cl = some (.lst xs) ∧ Tds K H xs (cs.map Cl.d) ∧ replay b cs = some z ∧ cs.length < 400 ∧
  ∀ H' o' S', Same H H' → WorkAt K H' o' ba z S' → (∀ a ∈ S', H a = none) → Q (.ref o') H'
theorem k_work_of (T : Tx K mg base) : Fnc P w K mg base 9 "work_of" (sp_work_of K) := by
  refine fnc_ok (D_work_of T) (g_work_of T) sc_work_of (fun vs H Q E h => ?_) (fun cdv A outer s H vs Q hr h => ?_)
  · obtain ⟨ba, cl, xs, b, cs, z, rfl, _⟩ := h; rfl
  · obtain ⟨ba, cl, xs, b, cs, z, rfl, hb, bo, hcl, hxs, hz, few, qq⟩ := h
    have lenX : xs.length = cs.length := by rw [hxs.len, List.length_map]
    refine ⟨_, (pss_cons (ps_set (i := 2) sc_work_of.nd rfl (Or.inl rfl) (pe_k (k_Work___init__ T) hr (by decide) rfl (pa_cons (pv 0) pa_nil)))
      (pss_cons (ps_for PassesOwn.never rfl (pi_list (pv 1)) (pg_name (i := 3) sc_work_of.nd rfl (Or.inl rfl)) (pss_one (ps_expr (pe_m (k_Work_again T) hr (by decide) (pv 2) (pa_cons (pv 3) pa_nil)))))
      (pss_one (ps_ret (pv 2))))), ?_⟩
    refine ⟨_, rfl, ?_⟩
    intro y dy hy hdy hne
    have Sy : Same H (upd (upd H dy (.own y)) y (.ins (He.ga K "Work") dy [])) := (same_new hdy).trans (same_new (by rw [upd_ne hne.symm]; exact hy))
    refine ⟨y, ba, dy, b, rfl, upd_same, hb.same Sy, bo, fun H1 S1 F1 W1 G1 => ⟨rfl, ?_⟩⟩
    have SH1 := made_same F1 hy hdy
    have N1 := made_new G1 hy hdy
    have I1 : WorkIn K H H1 y ba b (Wk.new b) S1 := ⟨W1, ⟨hb, SH1⟩, bo, N1, wkOk_new bo⟩
    refine ⟨_, rfl, cl, rfl, ⟨_, .inl (.inl (SH1 _ _ hcl))⟩, ?_⟩
    refine for_it (walk_list (xs := xs)) (fun i σ H2 => ∃ zi S a, replay b (cs.take i) = some zi ∧ WorkIn K H H2 y ba b zi S ∧ σ = [some (.ref ba), some (.ref cl), some (.ref y), a]) ⟨Wk.new b, S1, _, rfl, I1, rfl⟩ ?_ ?_ ?_
    · rintro i σ H2 _ ⟨zi, S, a, _, hi, _⟩
      exact .inl (.inl (hi.bk.same _ _ hcl))
    · rintro i x σ H2 H3 hi ⟨zi, S, a, hzi, hw, rfl⟩ ⟨rfl, hx⟩
      obtain ⟨c, hc, td⟩ := cl_at hxs hx
      obtain ⟨can, hn⟩ := replay_next hz hc hzi
      obtain ⟨dx, c', wl, tl, ol, cl', Sc, g1, _⟩ := hw.at_.head
      refine ⟨_, rfl, y, dx, _, rfl, g1, rfl, _, rfl, H, y, ba, x, c, b, zi, S, rfl, hw, td.same hw.bk.same, can, ?_, fun H4 S4 F4 G4 W4 => ⟨_, S4, _, hn, W4, rfl⟩⟩
      rw [replay_calls hzi, List.length_take]
      exact Nat.lt_of_le_of_lt (Nat.min_le_right _ _) few
    · rintro σ H2 ⟨zi, S, a, hzi, hw, rfl⟩
      rw [List.take_of_length_le (by omega), hz] at hzi
      cases hzi
      exact ⟨_, rfl, qq _ y S hw.bk.same hw.at_ hw.new⟩
end
end Tb
set_option Elab.async false
set_option linter.all false
set_option maxRecDepth 100000
set_option maxHeartbeats 4000000
/-! Processors in the heap. -/
namespace Tb
open PySem PySem.Spec PyProof.Rows L2
structure ProcAt (K : PySem.W.Frag) (H : Hp) (p ba : Addr) (z : Wk) (und : List Cl) (S : List Addr) : Prop where
  ex : ∃ dx o ut So, H p = some (.ins (He.ga K "Processor") dx [("own_work", .ref o), ("own_undone", .ref ut)]) ∧ WorkAt K H o ba z So ∧ Td K H (.ref ut) (.tuple (und.map Cl.d)) ∧ S = p :: So
  nd : S.Nodup
section
variable {K : PySem.W.Frag}
theorem ProcAt.fr {H H' : Hp} {p ba : Addr} {z : Wk} {und : List Cl} {S T : List Addr} (h : ProcAt K H p ba z und S) (f : Fr T H H') (n : ∀ a ∈ S, a ∉ T) : ProcAt K H' p ba z und S := by
  obtain ⟨dx, o, ut, So, h1, h2, h3, rfl⟩ := h.ex
  exact ⟨⟨dx, o, ut, So, f.keep _ _ h1 (n _ List.mem_cons_self), h2.fr f (fun a ha => n a (List.mem_cons_of_mem _ ha)), h3.fr f, rfl⟩, h.nd⟩
theorem ProcAt.same {H H' : Hp} {p ba : Addr} {z : Wk} {und : List Cl} {S : List Addr} (h : ProcAt K H p ba z und S) (s : Same H H') : ProcAt K H' p ba z und S := h.fr (Fr.of [] s) fun _ _ => List.not_mem_nil
theorem ProcAt.live {H : Hp} {p ba : Addr} {z : Wk} {und : List Cl} {S : List Addr} (h : ProcAt K H p ba z und S) : ∀ a ∈ S, H a ≠ none := by
  obtain ⟨dx, o, ut, So, h1, h2, h3, rfl⟩ := h.ex
  intro a ha
  rcases List.mem_cons.1 ha with rfl | ha
  · rw [h1]; exact nofun
  · exact h2.live a ha
/-- its work goes on, or another work stands in its place; its undone calls are others -/
theorem ProcAt.head {H : Hp} {p ba : Addr} {z : Wk} {und : List Cl} {S : List Addr} (h : ProcAt K H p ba z und S) :
    ∃ (dx o ut : Addr) (So : List Addr), H p = Option.some (.ins (He.ga K "Processor") dx [("own_work", .ref o), ("own_undone", .ref ut)]) ∧ WorkAt K H o ba z So ∧ Td K H (.ref ut) (.tuple (und.map Cl.d)) ∧ S = p :: So ∧ p ∉ So ∧
      ∀ H' z' So', Fr So H H' → Grow H So So' → WorkAt K H' o ba z' So' → Fr S H H' ∧ Grow H S (p :: So') ∧ ProcAt K H' p ba z' und (p :: So') := by
  obtain ⟨dx, o, ut, So, h1, h2, h3, rfl⟩ := h.ex
  have nd := List.nodup_cons.1 h.nd
  refine ⟨dx, o, ut, So, h1, h2, h3, rfl, nd.1, fun H' z' So' f g w => ?_⟩
  have hp : p ∉ So' := fun m => by
    rcases g p m with m | e
    · exact nd.1 m
    · rw [h1] at e; cases e
  refine ⟨f.mono fun a m => List.mem_cons_of_mem _ m, fun a ha => ?_, ⟨dx, o, ut, So', f.keep _ _ h1 nd.1, w, h3.fr f, rfl⟩, List.nodup_cons.2 ⟨hp, w.nd⟩⟩
  rcases List.mem_cons.1 ha with rfl | ha
  · exact .inl List.mem_cons_self
  · exact (g a ha).imp (List.mem_cons_of_mem _) id
/-- a store of undone calls -/
theorem ProcAt.setUnd {H : Hp} {p ba : Addr} {z : Wk} {und und' : List Cl} {S : List Addr} (h : ProcAt K H p ba z und S) {ut' : Addr} (td : Td K H (.ref ut') (.tuple (und'.map Cl.d))) :
    ∃ (dx o ut : Addr), H p = Option.some (.ins (He.ga K "Processor") dx [("own_work", .ref o), ("own_undone", .ref ut)]) ∧
      Fr S H (upd H p (.ins (He.ga K "Processor") dx [("own_work", .ref o), ("own_undone", .ref ut')])) ∧ ProcAt K (upd H p (.ins (He.ga K "Processor") dx [("own_work", .ref o), ("own_undone", .ref ut')])) p ba z und' S := by
  obtain ⟨dx, o, ut, So, h1, h2, h3, rfl⟩ := h.ex
  have nd := List.nodup_cons.1 h.nd
  have F1 : Fr [p] H (upd H p (.ins (He.ga K "Processor") dx [("own_work", .ref o), ("own_undone", .ref ut')])) := Fr.wr h1 trivial (List.mem_singleton.2 rfl)
  exact ⟨dx, o, ut, h1, F1.mono fun a m => by rw [List.mem_singleton.1 m]; exact List.mem_cons_self, ⟨dx, o, ut', So, upd_same, h2.fr F1 (fun a ha m => nd.1 (by rw [← List.mem_singleton.1 m]; exact ha)), td.fr F1, rfl⟩, h.nd⟩
/-- a store of another work, of new addresses -/
theorem ProcAt.setWork {H H1 : Hp} {p ba o' : Addr} {z z' : Wk} {und : List Cl} {S So' : List Addr} (h : ProcAt K H p ba z und S) (s : Same H H1) (w : WorkAt K H1 o' ba z' So') (n : ∀ a ∈ So', H a = none) :
    ∃ (dx o ut : Addr), H1 p = Option.some (.ins (He.ga K "Processor") dx [("own_work", .ref o), ("own_undone", .ref ut)]) ∧
      Fr S H (upd H1 p (.ins (He.ga K "Processor") dx [("own_work", .ref o'), ("own_undone", .ref ut)])) ∧ Grow H S (p :: So') ∧ ProcAt K (upd H1 p (.ins (He.ga K "Processor") dx [("own_work", .ref o'), ("own_undone", .ref ut)])) p ba z' und (p :: So') := by
  obtain ⟨dx, o, ut, So, h1, h2, h3, rfl⟩ := h.ex
  have F1 : Fr [p] H1 (upd H1 p (.ins (He.ga K "Processor") dx [("own_work", .ref o'), ("own_undone", .ref ut)])) := Fr.wr (s _ _ h1) trivial (List.mem_singleton.2 rfl)
  have hp : p ∉ So' := fun m => by have := n p m; rw [h1] at this; cases this
  refine ⟨dx, o, ut, s _ _ h1, ((Fr.of [p] s).trans F1).mono fun a m => by rw [List.mem_singleton.1 m]; exact List.mem_cons_self, fun a ha => ?_, ⟨dx, o', ut, So', upd_same, w.fr F1 (fun a ha m => hp (by rw [← List.mem_singleton.1 m]; exact ha)), h3.fr (((Fr.of [p] s).trans F1)), rfl⟩, List.nodup_cons.2 ⟨hp, w.nd⟩⟩
  rcases List.mem_cons.1 ha with rfl | ha
  · exact .inl List.mem_cons_self
  · exact .inr (n a ha)
/-- what a processor has come to -/
structure PrOk (b : Bk) (z : Wk) (und : List Cl) : Prop where
  log : replay b z.calls = some z
  all : ∃ y, replay b (z.calls ++ und) = some y
theorem prOk_none {b : Bk} {z : Wk} (h : replay b z.calls = some z) : PrOk b z [] := ⟨h, by rw [List.append_nil]; exact ⟨z, h⟩⟩
theorem PrOk.step {b : Bk} {z : Wk} {und : List Cl} (h : PrOk b z und) {c : Cl} (can : canDo b z c = true) : PrOk b (z.step b c) [] := by
  refine prOk_none ?_
  rw [step_calls]
  exact replay_snoc h.log can
structure ProcIn (K : PySem.W.Frag) (H0 H : Hp) (p ba : Addr) (b : Bk) (z : Wk) (und : List Cl) (S : List Addr) : Prop where
  at_ : ProcAt K H p ba z und S
  bk : BkIn K H0 H ba b
  bo : BkOk b
  new : ∀ a ∈ S, H0 a = none
  ok : PrOk b z und
theorem ProcIn.step {H0 H H' : Hp} {p ba : Addr} {b : Bk} {z : Wk} {und : List Cl} {S : List Addr} (h : ProcIn K H0 H p ba b z und S) (s : Same H H') : ProcIn K H0 H' p ba b z und S := ⟨h.at_.same s, h.bk.step s, h.bo, h.new, h.ok⟩
theorem ProcIn.to {H0 H H' : Hp} {p ba : Addr} {b : Bk} {z z' : Wk} {und und' : List Cl} {S S' : List Addr} (h : ProcIn K H0 H p ba b z und S) (f : Fr S H H') (g : Grow H S S') (a : ProcAt K H' p ba z' und' S') (o : PrOk b z' und') : ProcIn K H0 H' p ba b z' und' S' :=
  ⟨a, h.bk.fr f h.new, h.bo, fun x hx => (g x hx).elim (h.new x) fun e => none_back h.bk.same e, o⟩
theorem ProcIn.work {H0 H : Hp} {p ba o : Addr} {b : Bk} {z : Wk} {und : List Cl} {S So : List Addr} (h : ProcIn K H0 H p ba b z und S) (w : WorkAt K H o ba z So) (sub : S = p :: So) : WorkIn K H0 H o ba b z So :=
  ⟨w, h.bk, h.bo, fun a ha => h.new a (by rw [sub]; exact List.mem_cons_of_mem _ ha), replay_ok h.bo h.ok.log⟩
theorem ProcIn.fr {H0 H H' : Hp} {p ba : Addr} {b : Bk} {z : Wk} {und : List Cl} {S T : List Addr} (h : ProcIn K H0 H p ba b z und S) (f : Fr T H H') (n : ∀ a ∈ S, a ∉ T) (nT : ∀ a ∈ T, H0 a = none) : ProcIn K H0 H' p ba b z und S := ⟨h.at_.fr f n, h.bk.fr f nT, h.bo, h.new, h.ok⟩
end
end Tb
set_option Elab.async false
set_option linter.all false
set_option maxRecDepth 100000
set_option maxHeartbeats 4000000
/-! Processors: single calls. -/
namespace Tb
open PySem PySem.Spec PyProof.Rows L2
section
variable {P : Program} {w : World} {K : PySem.W.Frag} {mg : Str → Option Value} {base : Heap}
theorem td_empty {H : Hp} {u : Addr} (h : H u = some (.tup [])) : Td K H (.ref u) (.tuple (([] : List Cl).map Cl.d)) := .tup (.inl (.inl h)) .nil
def sp_Processor___init__ (K : PySem.W.Frag) : Sp := fun vs H Q _ => ∃ (p ba dx : Addr) (b : Bk), vs = [.ref p, .ref ba] ∧ H p = some (.ins (He.ga K "Processor") dx []) ∧ BkAt K H ba b ∧ BkOk b ∧
  ∀ H' S, Fr [p] H H' → ProcAt K H' p ba (Wk.new b) [] S → Grow H [p] S → Q .non H'
theorem k_Processor___init__ (T : Tx K mg base) : Mkr P w K mg base 8 "Processor" (He.ga K "Processor") (sp_Processor___init__ K) := by
  refine mkr_ok (D_Processor___init__ T) (k_Processor T) (g_Processor T) sc_Processor___init__ (fun vs H Q E h => ?_) (fun cdv A outer s H vs Q hr h => ?_)
  · obtain ⟨p, ba, dx, b, rfl, _⟩ := h; rfl
  · obtain ⟨p, ba, dx, b, rfl, hp, hb, bo, qq⟩ := h
    refine ⟨_, (pss_cons (ps_expr (pe_f (k_require_book T) hr (by decide) rfl (pa_cons (pv 1) pa_nil)))
      (pss_cons (ps_fld (pv 0) (pe_k (k_Work___init__ T) hr (by decide) rfl (pa_cons (pv 1) pa_nil)) rfl)
      (pss_one (ps_fld (pv 0) (pe_tup pa_nil) rfl)))), ?_⟩
    refine ⟨_, rfl, ba, b, rfl, hb, ?_⟩
    refine ⟨_, rfl, ?_⟩
    intro y dy hy hdy hne
    have Sy : Same H (upd (upd H dy (.own y)) y (.ins (He.ga K "Work") dy [])) := (same_new hdy).trans (same_new (by rw [upd_ne hne.symm]; exact hy))
    refine ⟨y, ba, dy, b, rfl, upd_same, hb.same Sy, bo, fun H1 S1 F1 W1 G1 => ⟨rfl, ?_⟩⟩
    have SH1 := made_same F1 hy hdy
    have N1 := made_new G1 hy hdy
    have pS : p ∉ S1 := fun m => by have := N1 p m; rw [hp] at this; cases this
    have mp : p ∈ [p] := List.mem_singleton.2 rfl
    refine ⟨_, rfl, p, _, dx, [], rfl, SH1 _ _ hp, c_Processor T, n_Processor_own_work T, by show 0 < 1000; decide, ?_⟩
    have F2 := (Fr.refl [p] H1).updIn (u := .ins (He.ga K "Processor") dx (putF "own_work" (.ref y) [])) (SH1 _ _ hp) trivial mp
    refine ⟨by show 0 ≤ sizeLine; decide, fun u hu => ?_⟩
    have hpu : p ≠ u := ne_of_none upd_same hu
    refine ⟨_, rfl, p, _, dx, _, rfl, by rw [upd_ne hpu]; exact upd_same, c_Processor T, n_Processor_own_undone T, by show 1 < 1000; decide, ?_⟩
    have F3 := ((Fr.refl [p] _).updNew (o := .tup []) hu).updIn (u := .ins (He.ga K "Processor") dx (putF "own_undone" (.ref u) (putF "own_work" (.ref y) []))) (upd_same (H := H1) (a := p)) trivial mp
    have off : ∀ a ∈ S1, a ∉ [p] := fun a ha m => pS (by rw [← List.mem_singleton.1 m]; exact ha)
    refine qq _ (p :: S1) (((Fr.of [p] SH1).trans F2).trans F3) ⟨⟨dx, y, u, S1, upd_same, (W1.fr F2 off).fr F3 off, td_empty ?_, rfl⟩, List.nodup_cons.2 ⟨pS, W1.nd⟩⟩ ?_
    · rw [upd_ne hpu.symm]; exact upd_same
    · intro a ha
      rcases List.mem_cons.1 ha with rfl | ha
      · exact .inl mp
      · exact .inr (N1 a ha)
def sp_Processor_come (K : PySem.W.Frag) : Sp := fun vs H Q _ => ∃ (H0 : Hp) (p ba : Addr) (r : Nat) (b : Bk) (z : Wk) (und : List Cl) (S : List Addr), vs = [.ref p, .int r] ∧ ProcIn K H0 H p ba b z und S ∧ canDo b z (.cm (.come r)) = true ∧ z.calls.length < 400 ∧
  ∀ H' S' (n : Int), Fr S H H' → Grow H S S' → ProcIn K H0 H' p ba b (z.step b (.cm (.come r))) [] S' → Q (.int n) H'
theorem k_Processor_come (T : Tx K mg base) : Mth P w K mg base 8 (He.ga K "Processor") "come" (sp_Processor_come K) := by
  refine mth_ok (D_Processor_come T) (c_Processor T) (m_Processor_come T) sc_Processor_come (fun vs H Q E h => ?_) (fun cdv A outer s H vs Q hr h => ?_)
  · obtain ⟨H0, p, ba, r, b, z, und, S, rfl, _⟩ := h; rfl
  · obtain ⟨H0, p, ba, r, b, z, und, S, rfl, hp, can, few, qq⟩ := h
    obtain ⟨dx, o, ut, So, h1, h2, h3, hS, hpS, set⟩ := hp.at_.head
    obtain ⟨dw, c, wl, tl, ol, cl, Sc, g1, _⟩ := h2.head
    refine ⟨_, (pss_cons (ps_set (i := 2) sc_Processor_come.nd rfl (Or.inl rfl) (pe_m (k_Work_let_in T) hr (by decide) (pe_fld (pv 0) rfl) (pa_cons (pv 1) pa_nil)))
      (pss_cons (ps_fld (pv 0) (pe_tup pa_nil) rfl)
      (pss_one (ps_ret (pv 2))))), ?_⟩
    refine ⟨_, rfl, p, _, dx, _, .ref o, rfl, h1, c_Processor T, n_Processor_own_work T, rfl, o, dw, _, rfl, g1, rfl, _, rfl, H0, o, ba, r, b, z, So, rfl, hp.work h2 hS, canDo_cm ▸ can, Nat.lt_trans few (by decide), fun H1 F1 W1 n => ?_⟩
    obtain ⟨FS1, G1, P1⟩ := set H1 _ So F1 (Grow.refl _ _) W1.at_
    refine ⟨by show 0 ≤ sizeLine; decide, fun u hu => ?_⟩
    have S1 := same_new (o := .tup []) hu
    obtain ⟨dx2, o2, ut2, k1, FS2, P2⟩ := (P1.same S1).setUnd (und' := []) (td_empty upd_same)
    refine ⟨_, rfl, p, _, dx2, _, rfl, k1, c_Processor T, n_Processor_own_undone T, by show 2 < 1000; decide, ?_⟩
    have FA := (FS1.trans2 G1 ((Fr.of _ S1).trans FS2))
    exact ⟨_, rfl, qq _ (p :: So) n FA G1 (hp.to FA G1 P2 (hp.ok.step can))⟩
def sp_Processor_wake_up (K : PySem.W.Frag) : Sp := fun vs H Q _ => ∃ (H0 : Hp) (p ba : Addr) (t : Nat) (b : Bk) (z : Wk) (und : List Cl) (S : List Addr), vs = [.ref p, .int t] ∧ ProcIn K H0 H p ba b z und S ∧ canDo b z (.cm (.wake t)) = true ∧ z.calls.length < 400 ∧
  ∀ H' S', Fr S H H' → Grow H S S' → ProcIn K H0 H' p ba b (z.step b (.cm (.wake t))) [] S' → Q .non H'
theorem k_Processor_wake_up (T : Tx K mg base) : Mth P w K mg base 8 (He.ga K "Processor") "wake_up" (sp_Processor_wake_up K) := by
  refine mth_ok (D_Processor_wake_up T) (c_Processor T) (m_Processor_wake_up T) sc_Processor_wake_up (fun vs H Q E h => ?_) (fun cdv A outer s H vs Q hr h => ?_)
  · obtain ⟨H0, p, ba, t, b, z, und, S, rfl, _⟩ := h; rfl
  · obtain ⟨H0, p, ba, t, b, z, und, S, rfl, hp, can, few, qq⟩ := h
    obtain ⟨dx, o, ut, So, h1, h2, h3, hS, hpS, set⟩ := hp.at_.head
    obtain ⟨dw, c, wl, tl, ol, cl, Sc, g1, _⟩ := h2.head
    refine ⟨_, (pss_cons (ps_expr (pe_m (k_Work_rouse T) hr (by decide) (pe_fld (pv 0) rfl) (pa_cons (pv 1) pa_nil)))
      (pss_one (ps_fld (pv 0) (pe_tup pa_nil) rfl))), ?_⟩
    refine ⟨_, rfl, p, _, dx, _, .ref o, rfl, h1, c_Processor T, n_Processor_own_work T, rfl, o, dw, _, rfl, g1, rfl, _, rfl, H0, o, ba, t, b, z, So, rfl, hp.work h2 hS, can, Nat.lt_trans few (by decide), fun H1 F1 W1 => ?_⟩
    obtain ⟨FS1, G1, P1⟩ := set H1 _ So F1 (Grow.refl _ _) W1.at_
    refine ⟨by show 0 ≤ sizeLine; decide, fun u hu => ?_⟩
    have S1 := same_new (o := .tup []) hu
    obtain ⟨dx2, o2, ut2, k1, FS2, P2⟩ := (P1.same S1).setUnd (und' := []) (td_empty upd_same)
    refine ⟨_, rfl, p, _, dx2, _, rfl, k1, c_Processor T, n_Processor_own_undone T, by show 2 < 1000; decide, ?_⟩
    have FA := (FS1.trans2 G1 ((Fr.of _ S1).trans FS2))
    exact qq _ (p :: So) FA G1 (hp.to FA G1 P2 (hp.ok.step can))
def sp_Processor_tick (K : PySem.W.Frag) : Sp := fun vs H Q _ => ∃ (H0 : Hp) (p ba : Addr) (wd : Wd) (b : Bk) (z : Wk) (und : List Cl) (S : List Addr), vs = [.ref p, .str wd.s] ∧ ProcIn K H0 H p ba b z und S ∧ z.calls.length < 400 ∧
  ∀ H' S', Fr S H H' → Grow H S S' → ProcIn K H0 H' p ba b (z.step b (.tick wd)) [] S' → Q (toldV (z.crs.tick b wd).2) H'
theorem k_Processor_tick (T : Tx K mg base) : Mth P w K mg base 7 (He.ga K "Processor") "tick" (sp_Processor_tick K) := by
  refine mth_ok (D_Processor_tick T) (c_Processor T) (m_Processor_tick T) sc_Processor_tick (fun vs H Q E h => ?_) (fun cdv A outer s H vs Q hr h => ?_)
  · obtain ⟨H0, p, ba, wd, b, z, und, S, rfl, _⟩ := h; rfl
  · obtain ⟨H0, p, ba, wd, b, z, und, S, rfl, hp, few, qq⟩ := h
    obtain ⟨dx, o, ut, So, h1, h2, h3, hS, hpS, set⟩ := hp.at_.head
    obtain ⟨dw, c, wl, tl, ol, cl, Sc, g1, _⟩ := h2.head
    have hw := hp.work h2 hS
    refine ⟨_, (pss_cons (ps_set (i := 2) sc_Processor_tick.nd rfl (Or.inl rfl) (pe_m (k_Work_turn T) hr (by decide) (pe_fld (pv 0) rfl) (pa_cons (pv 1) pa_nil)))
      (pss_cons (ps_fld (pv 0) (pe_tup pa_nil) rfl)
      (pss_one (ps_ret (pv 2))))), ?_⟩
    refine ⟨_, rfl, p, _, dx, _, .ref o, rfl, h1, c_Processor T, n_Processor_own_work T, rfl, o, dw, _, rfl, g1, rfl, _, rfl, H0, o, ba, wd, b, z, So, rfl, hw, Nat.lt_of_le_of_lt hw.ok.tick few, Nat.lt_trans few (by decide), fun H1 So' F1 G0 W1 => ?_⟩
    obtain ⟨FS1, G1, P1⟩ := set H1 _ So' F1 G0 W1.at_
    refine ⟨by show 0 ≤ sizeLine; decide, fun u hu => ?_⟩
    have S1 := same_new (o := .tup []) hu
    obtain ⟨dx2, o2, ut2, k1, FS2, P2⟩ := (P1.same S1).setUnd (und' := []) (td_empty upd_same)
    refine ⟨_, rfl, p, _, dx2, _, rfl, k1, c_Processor T, n_Processor_own_undone T, by show 2 < 1000; decide, ?_⟩
    have FA := (FS1.trans2 G1 ((Fr.of _ S1).trans FS2))
    exact ⟨_, rfl, qq _ (p :: So') FA G1 (hp.to FA G1 P2 (hp.ok.step rfl))⟩
def sp_Processor_bell (K : PySem.W.Frag) : Sp := fun vs H Q _ => ∃ (H0 : Hp) (p ba : Addr) (b : Bk) (z : Wk) (und : List Cl) (S : List Addr), vs = [.ref p] ∧ ProcIn K H0 H p ba b z und S ∧ z.calls.length < 400 ∧
  ∀ H' S', Fr S H H' → Grow H S S' → ProcIn K H0 H' p ba b (z.step b (.tick .bell)) [] S' → Q (toldV (z.crs.tick b .bell).2) H'
theorem k_Processor_bell (T : Tx K mg base) : Mth P w K mg base 8 (He.ga K "Processor") "bell" (sp_Processor_bell K) := by
  refine mth_ok (D_Processor_bell T) (c_Processor T) (m_Processor_bell T) sc_Processor_bell (fun vs H Q E h => ?_) (fun cdv A outer s H vs Q hr h => ?_)
  · obtain ⟨H0, p, ba, b, z, und, S, rfl, _⟩ := h; rfl
  · obtain ⟨H0, p, ba, b, z, und, S, rfl, hp, few, qq⟩ := h
    obtain ⟨dx, o, ut, So, h1, _⟩ := hp.at_.head
    refine ⟨_, (pss_one (ps_ret (pe_m (k_Processor_tick T) hr (by decide) (pv 0) (pa_cons (C8.pe_gc rfl (v_BELL T)) pa_nil)))), ?_⟩
    exact ⟨_, rfl, p, dx, _, rfl, h1, rfl, H0, p, ba, .bell, b, z, und, S, rfl, hp, few, qq⟩
end
end Tb
set_option Elab.async false
set_option linter.all false
set_option maxRecDepth 100000
set_option maxHeartbeats 4000000
/-! Processors: what they tell. -/
namespace Tb
open PySem PySem.Spec PyProof.Rows L2
section
variable {P : Program} {w : World} {K : PySem.W.Frag} {mg : Str → Option Value} {base : Heap}
/-- the parts of a processor -/
theorem ProcIn.parts {H0 H : Hp} {p ba : Addr} {b : Bk} {z : Wk} {und : List Cl} {S : List Addr} (h : ProcIn K H0 H p ba b z und S) :
    ∃ (dx o ut dw c wl tl ol cl dc ctl cq : Addr) (Sc Sq So : List Addr), H p = some (.ins (He.ga K "Processor") dx [("own_work", .ref o), ("own_undone", .ref ut)]) ∧
      H o = some (.ins (He.ga K "Work") dw [("own_course", .ref c), ("own_waiting", .ref wl), ("own_ticks", .ref tl), ("own_told", .ref ol), ("own_calls", .ref cl)]) ∧
      H c = some (.ins (He.ga K "Course") dc [("own_book", .ref ba), ("own_tasks", .ref ctl), ("own_queues", .ref cq), ("own_runner", optV z.crs.runner)]) ∧
      CrsIn K H0 H c ba b z.crs Sc ∧ Dl K H ctl (z.crs.tasks.map Post.d) ∧ QuAt K H cq z.crs.queues Sq ∧ Dl K H tl (z.ticks.map Tk.d) ∧ Dl K H ol (z.told.map Told.d) ∧ Dl K H cl (z.calls.map Cl.d) ∧ WorkIn K H0 H o ba b z So ∧ Td K H (.ref ut) (.tuple (und.map Cl.d)) := by
  obtain ⟨dx, o, ut, So, h1, h2, h3, hS, _⟩ := h.at_.head
  have hw := h.work h2 hS
  obtain ⟨dw, c, wl, tl, ol, cl, Sc, g1, g2, _, g3, g4, g5, sub, _⟩ := h2.head
  obtain ⟨dc, ctl, cq, Sq, k1, k2, k3, _⟩ := g2.ex
  exact ⟨dx, o, ut, dw, c, wl, tl, ol, cl, dc, ctl, cq, Sc, Sq, So, h1, g1, k1, hw.crs g2 sub, k2, k3, g3, g4, g5, hw, h3⟩
/-- a tuple of a list's data -/
theorem tup_of {H : Hp} {l : Addr} {ds : List PyData} {xs : List V} (t : Tds K H xs ds) {u : Addr} (hu : H u = none) : Td K (upd H u (.tup xs)) (.ref u) (.tuple ds) := .tup (.inl (.inl upd_same)) (t.fr (Fr.of [] (same_new hu)))
def sp_Processor_book (K : PySem.W.Frag) : Sp := fun vs H Q _ => ∃ (p ba : Addr) (z : Wk) (und : List Cl) (S : List Addr), vs = [.ref p] ∧ ProcAt K H p ba z und S ∧ Q (.ref ba) H
theorem k_Processor_book (T : Tx K mg base) : Prp P w K mg base 1 (He.ga K "Processor") "book" (sp_Processor_book K) := by
  refine prp_ok (D_Processor_book T) (c_Processor T) (p_Processor_book T) sc_Processor_book (fun vs H Q E h => ?_) (fun cdv A outer s H vs Q hr h => ?_)
  · obtain ⟨p, ba, z, und, S, rfl, _⟩ := h; rfl
  · obtain ⟨p, ba, z, und, S, rfl, hp, qq⟩ := h
    obtain ⟨dx, o, ut, So, h1, w1, _⟩ := hp.head
    obtain ⟨dw, c, wl, tl, ol, cl, Sc, h2, c1, _⟩ := w1.head
    obtain ⟨dc, ctl, cq, h3⟩ := c1.head
    refine ⟨_, (pss_one (ps_ret (pe_fld (pe_fld (pe_fld (pv 0) rfl) rfl) rfl))), ?_⟩
    exact ⟨_, rfl, p, _, dx, _, .ref o, rfl, h1, c_Processor T, n_Processor_own_work T, rfl, o, _, dw, _, .ref c, rfl, h2, c_Work T, n_Work_own_course T, rfl, c, _, dc, _, .ref ba, rfl, h3, c_Course T, n_Course_own_book T, rfl, qq⟩
def sp_Processor_picture (K : PySem.W.Frag) : Sp := fun vs H Q _ => ∃ (H0 : Hp) (p ba : Addr) (b : Bk) (z : Wk) (und : List Cl) (S : List Addr), vs = [.ref p] ∧ ProcIn K H0 H p ba b z und S ∧
  ∀ H' t, Same H H' → Td K H' (.ref t) (.tuple (z.crs.tasks.map Post.d)) → Q (.ref t) H'
theorem k_Processor_picture (T : Tx K mg base) : Prp P w K mg base 2 (He.ga K "Processor") "picture" (sp_Processor_picture K) := by
  refine prp_ok (D_Processor_picture T) (c_Processor T) (p_Processor_picture T) sc_Processor_picture (fun vs H Q E h => ?_) (fun cdv A outer s H vs Q hr h => ?_)
  · obtain ⟨H0, p, ba, b, z, und, S, rfl, _⟩ := h; rfl
  · obtain ⟨H0, p, ba, b, z, und, S, rfl, hp, qq⟩ := h
    obtain ⟨dx, o, ut, dw, c, wl, tl, ol, cl, dc, ctl, cq, Sc, Sq, So, h1, h2, h3, h4, _⟩ := hp.parts
    refine ⟨_, (pss_one (ps_ret (pe_m0 (k_Course_shown T) hr (by decide) (pe_fld (pe_fld (pv 0) rfl) rfl)))), ?_⟩
    exact ⟨_, rfl, p, _, dx, _, .ref o, rfl, h1, c_Processor T, n_Processor_own_work T, rfl, o, _, dw, _, .ref c, rfl, h2, c_Work T, n_Work_own_course T, rfl, c, dc, _, rfl, h3, rfl, c, ba, z.crs, Sc, rfl, h4.at_, qq⟩
def sp_Processor_runner (K : PySem.W.Frag) : Sp := fun vs H Q _ => ∃ (H0 : Hp) (p ba : Addr) (b : Bk) (z : Wk) (und : List Cl) (S : List Addr), vs = [.ref p] ∧ ProcIn K H0 H p ba b z und S ∧ Q (optV z.crs.runner) H
theorem k_Processor_runner (T : Tx K mg base) : Prp P w K mg base 1 (He.ga K "Processor") "runner" (sp_Processor_runner K) := by
  refine prp_ok (D_Processor_runner T) (c_Processor T) (p_Processor_runner T) sc_Processor_runner (fun vs H Q E h => ?_) (fun cdv A outer s H vs Q hr h => ?_)
  · obtain ⟨H0, p, ba, b, z, und, S, rfl, _⟩ := h; rfl
  · obtain ⟨H0, p, ba, b, z, und, S, rfl, hp, qq⟩ := h
    obtain ⟨dx, o, ut, dw, c, wl, tl, ol, cl, dc, ctl, cq, Sc, Sq, So, h1, h2, h3, _⟩ := hp.parts
    refine ⟨_, (pss_one (ps_ret (pe_fld (pe_fld (pe_fld (pv 0) rfl) rfl) rfl))), ?_⟩
    exact ⟨_, rfl, p, _, dx, _, .ref o, rfl, h1, c_Processor T, n_Processor_own_work T, rfl, o, _, dw, _, .ref c, rfl, h2, c_Work T, n_Work_own_course T, rfl, c, _, dc, _, _, rfl, h3, c_Course T, n_Course_own_runner T, rfl, qq⟩
def sp_Processor_next_one (K : PySem.W.Frag) : Sp := fun vs H Q _ => ∃ (H0 : Hp) (p ba : Addr) (b : Bk) (z : Wk) (und : List Cl) (S : List Addr), vs = [.ref p] ∧ ProcIn K H0 H p ba b z und S ∧ ∀ H', Same H H' → Q (optV (z.crs.next b)) H'
theorem k_Processor_next_one (T : Tx K mg base) : Prp P w K mg base 5 (He.ga K "Processor") "next_one" (sp_Processor_next_one K) := by
  refine prp_ok (D_Processor_next_one T) (c_Processor T) (p_Processor_next_one T) sc_Processor_next_one (fun vs H Q E h => ?_) (fun cdv A outer s H vs Q hr h => ?_)
  · obtain ⟨H0, p, ba, b, z, und, S, rfl, _⟩ := h; rfl
  · obtain ⟨H0, p, ba, b, z, und, S, rfl, hp, qq⟩ := h
    obtain ⟨dx, o, ut, dw, c, wl, tl, ol, cl, dc, ctl, cq, Sc, Sq, So, h1, h2, h3, h4, _⟩ := hp.parts
    refine ⟨_, (pss_one (ps_ret (pe_m0 (k_Course_next_worker T) hr (by decide) (pe_fld (pe_fld (pv 0) rfl) rfl)))), ?_⟩
    exact ⟨_, rfl, p, _, dx, _, .ref o, rfl, h1, c_Processor T, n_Processor_own_work T, rfl, o, _, dw, _, .ref c, rfl, h2, c_Work T, n_Work_own_course T, rfl, c, dc, _, rfl, h3, rfl, H0, c, ba, b, z.crs, Sc, rfl, h4, qq⟩
def sp_Processor_chart (K : PySem.W.Frag) : Sp := fun vs H Q _ => ∃ (H0 : Hp) (p ba : Addr) (b : Bk) (z : Wk) (und : List Cl) (S : List Addr), vs = [.ref p] ∧ ProcIn K H0 H p ba b z und S ∧
  ∀ H' t, Same H H' → Td K H' (.ref t) (.tuple (z.told.map Told.d)) → Q (.ref t) H'
theorem k_Processor_chart (T : Tx K mg base) : Prp P w K mg base 1 (He.ga K "Processor") "chart" (sp_Processor_chart K) := by
  refine prp_ok (D_Processor_chart T) (c_Processor T) (p_Processor_chart T) sc_Processor_chart (fun vs H Q E h => ?_) (fun cdv A outer s H vs Q hr h => ?_)
  · obtain ⟨H0, p, ba, b, z, und, S, rfl, _⟩ := h; rfl
  · obtain ⟨H0, p, ba, b, z, und, S, rfl, hp, qq⟩ := h
    obtain ⟨dx, o, ut, dw, c, wl, tl, ol, cl, dc, ctl, cq, Sc, Sq, So, h1, h2, h3, h4, _, _, h5, ⟨xs, h6, h7⟩, _⟩ := hp.parts
    refine ⟨_, (pss_one (ps_ret (pe_callTy call_tuple_of rfl (f_tuple T) b_tuple (pa_cons (pe_fld (pe_fld (pv 0) rfl) rfl) pa_nil)))), ?_⟩
    exact ⟨_, rfl, p, _, dx, _, .ref o, rfl, h1, c_Processor T, n_Processor_own_work T, rfl, o, _, dw, _, .ref ol, rfl, h2, c_Work T, n_Work_own_told T, rfl, ol, xs, rfl, .inl ⟨.inl (.inl h6), fun t ht => qq _ t (same_new ht) (tup_of (l := ol) h7 ht)⟩⟩
def sp_Processor_done (K : PySem.W.Frag) : Sp := fun vs H Q _ => ∃ (H0 : Hp) (p ba : Addr) (b : Bk) (z : Wk) (und : List Cl) (S : List Addr), vs = [.ref p] ∧ ProcIn K H0 H p ba b z und S ∧
  ∀ H' t, Same H H' → Td K H' (.ref t) (.tuple (z.ticks.map Tk.d)) → Q (.ref t) H'
theorem k_Processor_done (T : Tx K mg base) : Prp P w K mg base 1 (He.ga K "Processor") "done" (sp_Processor_done K) := by
  refine prp_ok (D_Processor_done T) (c_Processor T) (p_Processor_done T) sc_Processor_done (fun vs H Q E h => ?_) (fun cdv A outer s H vs Q hr h => ?_)
  · obtain ⟨H0, p, ba, b, z, und, S, rfl, _⟩ := h; rfl
  · obtain ⟨H0, p, ba, b, z, und, S, rfl, hp, qq⟩ := h
    obtain ⟨dx, o, ut, dw, c, wl, tl, ol, cl, dc, ctl, cq, Sc, Sq, So, h1, h2, h3, h4, _, _, ⟨xs, h6, h7⟩, _⟩ := hp.parts
    refine ⟨_, (pss_one (ps_ret (pe_callTy call_tuple_of rfl (f_tuple T) b_tuple (pa_cons (pe_fld (pe_fld (pv 0) rfl) rfl) pa_nil)))), ?_⟩
    exact ⟨_, rfl, p, _, dx, _, .ref o, rfl, h1, c_Processor T, n_Processor_own_work T, rfl, o, _, dw, _, .ref tl, rfl, h2, c_Work T, n_Work_own_ticks T, rfl, tl, xs, rfl, .inl ⟨.inl (.inl h6), fun t ht => qq _ t (same_new ht) (tup_of (l := tl) h7 ht)⟩⟩
def sp_Processor_log (K : PySem.W.Frag) : Sp := fun vs H Q _ => ∃ (H0 : Hp) (p ba : Addr) (b : Bk) (z : Wk) (und : List Cl) (S : List Addr), vs = [.ref p] ∧ ProcIn K H0 H p ba b z und S ∧
  ∀ H' t, Same H H' → Td K H' (.ref t) (.tuple (z.calls.map Cl.d)) → Q (.ref t) H'
theorem k_Processor_log (T : Tx K mg base) : Prp P w K mg base 1 (He.ga K "Processor") "log" (sp_Processor_log K) := by
  refine prp_ok (D_Processor_log T) (c_Processor T) (p_Processor_log T) sc_Processor_log (fun vs H Q E h => ?_) (fun cdv A outer s H vs Q hr h => ?_)
  · obtain ⟨H0, p, ba, b, z, und, S, rfl, _⟩ := h; rfl
  · obtain ⟨H0, p, ba, b, z, und, S, rfl, hp, qq⟩ := h
    obtain ⟨dx, o, ut, dw, c, wl, tl, ol, cl, dc, ctl, cq, Sc, Sq, So, h1, h2, h3, h4, _, _, _, _, ⟨xs, h6, h7⟩, _⟩ := hp.parts
    refine ⟨_, (pss_one (ps_ret (pe_callTy call_tuple_of rfl (f_tuple T) b_tuple (pa_cons (pe_fld (pe_fld (pv 0) rfl) rfl) pa_nil)))), ?_⟩
    exact ⟨_, rfl, p, _, dx, _, .ref o, rfl, h1, c_Processor T, n_Processor_own_work T, rfl, o, _, dw, _, .ref cl, rfl, h2, c_Work T, n_Work_own_calls T, rfl, cl, xs, rfl, .inl ⟨.inl (.inl h6), fun t ht => qq _ t (same_new ht) (tup_of (l := cl) h7 ht)⟩⟩
def sp_Processor_queues (K : PySem.W.Frag) : Sp := fun vs H Q _ => ∃ (H0 : Hp) (p ba : Addr) (b : Bk) (z : Wk) (und : List Cl) (S : List Addr), vs = [.ref p] ∧ ProcIn K H0 H p ba b z und S ∧
  ∀ H' q' S', Same H H' → QuAt K H' q' z.crs.queues S' → Q (.ref q') H'
theorem k_Processor_queues (T : Tx K mg base) : Mth P w K mg base 5 (He.ga K "Processor") "queues" (sp_Processor_queues K) := by
  refine mth_ok (D_Processor_queues T) (c_Processor T) (m_Processor_queues T) sc_Processor_queues (fun vs H Q E h => ?_) (fun cdv A outer s H vs Q hr h => ?_)
  · obtain ⟨H0, p, ba, b, z, und, S, rfl, _⟩ := h; rfl
  · obtain ⟨H0, p, ba, b, z, und, S, rfl, hp, qq⟩ := h
    obtain ⟨dx, o, ut, dw, c, wl, tl, ol, cl, dc, ctl, cq, Sc, Sq, So, h1, h2, h3, h4, _, h5, _⟩ := hp.parts
    obtain ⟨dq, ll, as, q1, _⟩ := h5.ex
    refine ⟨_, (pss_one (ps_ret (pe_m0 (k_Queues_twin T) hr (by decide) (pe_fld (pe_fld (pe_fld (pv 0) rfl) rfl) rfl)))), ?_⟩
    exact ⟨_, rfl, p, _, dx, _, .ref o, rfl, h1, c_Processor T, n_Processor_own_work T, rfl, o, _, dw, _, .ref c, rfl, h2, c_Work T, n_Work_own_course T, rfl, c, _, dc, _, .ref cq, rfl, h3, c_Course T, n_Course_own_queues T, rfl, cq, dq, _, rfl, q1, rfl, cq, z.crs.queues, Sq, rfl, h5, h4.ok.qeach h4.bo, by rw [h4.ok.qlen]; exact h4.bo.pos, fun H' q' S' s q n => qq H' q' S' s q⟩
def sp_Processor___len__ (K : PySem.W.Frag) : Sp := fun vs H Q _ => ∃ (H0 : Hp) (p ba : Addr) (b : Bk) (z : Wk) (und : List Cl) (S : List Addr), vs = [.ref p] ∧ ProcIn K H0 H p ba b z und S ∧ Q (.int (z.crs.tasks.length : Nat)) H
theorem k_Processor___len__ (T : Tx K mg base) : Spc P w K mg base 1 (He.ga K "Processor") "__len__" (sp_Processor___len__ K) := by
  refine spc_ok (D_Processor___len__ T) (x_Processor___len__ T) sc_Processor___len__ (fun vs H Q E h => ?_) (fun cdv A outer s H vs Q hr h => ?_)
  · obtain ⟨H0, p, ba, b, z, und, S, rfl, _⟩ := h; rfl
  · obtain ⟨H0, p, ba, b, z, und, S, rfl, hp, qq⟩ := h
    obtain ⟨dx, o, ut, dw, c, wl, tl, ol, cl, dc, ctl, cq, Sc, Sq, So, h1, h2, h3, h4, ⟨xs, h5, h6⟩, _⟩ := hp.parts
    refine ⟨_, (pss_one (ps_ret (pe_callB call_len_seq rfl (f_len T) b_len (pa_cons (pe_fld (pe_fld (pe_fld (pv 0) rfl) rfl) rfl) pa_nil) (by decide) (by decide)))), ?_⟩
    refine ⟨_, rfl, p, _, dx, _, .ref o, rfl, h1, c_Processor T, n_Processor_own_work T, rfl, o, _, dw, _, .ref c, rfl, h2, c_Work T, n_Work_own_course T, rfl, c, _, dc, _, .ref ctl, rfl, h3, c_Course T, n_Course_own_tasks T, rfl, ctl, xs, rfl, .inl (.inl (.inl h5)), ?_⟩
    rw [h6.len, List.length_map]
    exact qq
def sp_Processor_twin (K : PySem.W.Frag) : Sp := fun vs H Q _ => ∃ (H0 : Hp) (p ba : Addr) (b : Bk) (z : Wk) (und : List Cl) (S : List Addr), vs = [.ref p] ∧ ProcIn K H0 H p ba b z und S ∧
  ∀ H' p' S', Same H H' → ProcAt K H' p' ba z und S' → (∀ a ∈ S', H a = none) → Q (.ref p') H'
theorem k_Processor_twin (T : Tx K mg base) : Mth P w K mg base 10 (He.ga K "Processor") "twin" (sp_Processor_twin K) := by
  refine mth_ok (D_Processor_twin T) (c_Processor T) (m_Processor_twin T) sc_Processor_twin (fun vs H Q E h => ?_) (fun cdv A outer s H vs Q hr h => ?_)
  · obtain ⟨H0, p, ba, b, z, und, S, rfl, _⟩ := h; rfl
  · obtain ⟨H0, p, ba, b, z, und, S, rfl, hp, qq⟩ := h
    obtain ⟨dx, o, ut, dw, c, wl, tl, ol, cl, dc, ctl, cq, Sc, Sq, So, h1, h2, h3, h4, _, _, _, _, _, h5, h6⟩ := hp.parts
    refine ⟨_, (pss_cons (ps_set (i := 1) sc_Processor_twin.nd rfl (Or.inl rfl) (pe_k (k_Processor___init__ T) hr (by decide) rfl (pa_cons (pe_pr (k_Processor_book T) hr (by decide) (pv 0)) pa_nil)))
      (pss_cons (ps_fld (pv 1) (pe_m0 (k_Work_branch T) hr (by decide) (pe_fld (pv 0) rfl)) rfl)
      (pss_cons (ps_fld (pv 1) (pe_fld (pv 0) rfl) rfl)
      (pss_one (ps_ret (pv 1)))))), ?_⟩
    refine ⟨_, rfl, p, dx, _, rfl, h1, p, ba, z, und, S, rfl, hp.at_, ?_⟩
    intro y dy hy hdy hne
    have my : y ∈ [y] := List.mem_singleton.2 rfl
    have Sy : Same H (upd (upd H dy (.own y)) y (.ins (He.ga K "Processor") dy [])) := (same_new hdy).trans (same_new (by rw [upd_ne hne.symm]; exact hy))
    refine ⟨y, ba, dy, b, rfl, upd_same, (hp.step Sy).bk.now, hp.bo, fun H1 S1 F1 P1 G1 => ⟨rfl, ?_⟩⟩
    have SH1 := made_same F1 hy hdy
    refine ⟨_, rfl, p, _, dx, _, .ref o, rfl, SH1 _ _ h1, c_Processor T, n_Processor_own_work T, rfl, o, dw, _, rfl, SH1 _ _ h2, rfl, H0, o, ba, b, z, So, rfl, h5.step SH1, fun H2 o' S2 s2 W2 N2 => ?_⟩
    obtain ⟨dx3, o3, ut3, k1, FS3, G3, P3⟩ := P1.setWork s2 W2 N2
    refine ⟨_, rfl, y, _, dx3, _, rfl, k1, c_Processor T, n_Processor_own_work T, by show 2 < 1000; decide, ?_⟩
    have SH2 := SH1.trans s2
    have F3 : Fr [y] H2 (upd H2 y (.ins (He.ga K "Processor") dx3 [("own_work", .ref o'), ("own_undone", .ref ut3)])) := Fr.wr k1 trivial my
    have up : ∀ {a : Addr} {ob : HO}, H a = some ob → a ∉ [y] := fun e m => ne_of_none e hy (List.mem_singleton.1 m)
    have SH3 : Same H _ := fun a ob e => F3.keep a ob (SH2 _ _ e) (up e)
    obtain ⟨dx4, o4, ut4, k4, FS4, P4⟩ := P3.setUnd (h6.same SH3)
    refine ⟨_, rfl, p, _, dx, _, .ref ut, rfl, SH3 _ _ h1, c_Processor T, n_Processor_own_undone T, rfl, _, rfl, y, _, dx4, _, rfl, k4, c_Processor T, n_Processor_own_undone T, by show 2 < 1000; decide, ?_⟩
    have F4 := Fr.wr (T := [y]) (u := .ins (He.ga K "Processor") dx4 [("own_work", .ref o4), ("own_undone", .ref ut)]) k4 trivial my
    have SH4 : Same H _ := fun a ob e => F4.keep a ob (SH3 _ _ e) (up e)
    refine ⟨_, rfl, qq _ y (y :: S2) SH4 P4 fun a ha => ?_⟩
    rcases List.mem_cons.1 ha with rfl | ha
    · exact hy
    · exact none_back SH1 (N2 a ha)
end
end Tb
set_option Elab.async false
set_option linter.all false
set_option maxRecDepth 100000
set_option maxHeartbeats 4000000
/-! Processors: undoing, doing again. -/
namespace Tb
open PySem PySem.Spec PyProof.Rows L2
section
variable {P : Program} {w : World} {K : PySem.W.Frag} {mg : Str → Option Value} {base : Heap}
theorem catA {Kont : VK} {H : Hp} {a b : Addr} {xs ys : List V} {ds es : List PyData} (ha : SqT K H a xs) (hb : SqT K H b ys) (ta : Tds K H xs ds) (tb : Tds K H ys es) (h : ∀ u H3, Same H H3 → Td K H3 (.ref u) (.tuple (ds ++ es)) → Kont (.ref u) H3) :
    (xs = [] → Kont (.ref b) H) ∧ (xs ≠ [] → ys = [] → Kont (.ref a) H) ∧ (xs ≠ [] → ys ≠ [] → ∀ p, H p = none → Kont (.ref p) (upd H p (.tup (xs ++ ys)))) := by
  refine ⟨fun e => ?_, fun _ e => ?_, fun _ _ p hp => ?_⟩
  · subst e
    cases ta
    exact h b H (Same.refl _) (.tup hb tb)
  · subst e
    cases tb
    exact h a H (Same.refl _) (by rw [List.append_nil]; exact .tup ha ta)
  · exact h p _ (same_new hp) (.tup (.inl (.inl upd_same)) ((ta.append tb).fr (Fr.of [] (same_new hp))))
theorem catR {Kont : VK} {H : Hp} {a b : Addr} {xs ys : List V} {ds es : List PyData} (ha : SqT K H a xs) (hb : SqT K H b ys) (ta : Tds K H xs ds) (tb : Tds K H ys es) (hl : xs.length + ys.length ≤ sizeLine) (h : ∀ u H3, Same H H3 → Td K H3 (.ref u) (.tuple (ds ++ es)) → Kont (.ref u) H3) : rCatA K (.ref a) (.ref b) H Kont :=
  ⟨a, b, xs, ys, rfl, rfl, ha, hb, hl, catA ha hb ta tb h⟩
theorem cutV_drop {xs : List V} {r : Nat} (h : r ≤ xs.length) : cutV xs (some (r : Int)) none = xs.drop r := by
  unfold cutV HT.sIx
  dsimp only
  rw [if_neg (by omega), Int.toNat_natCast, Nat.min_eq_left h]
  exact List.take_of_length_le (by rw [List.length_drop]; exact Nat.le_refl _)
theorem cutV_take {xs : List V} {r : Nat} (h : r ≤ xs.length) : cutV xs none (some (r : Int)) = xs.take r := by
  unfold cutV HT.sIx
  dsimp only
  rw [if_neg (by omega), Int.toNat_natCast, Nat.min_eq_left h, List.drop_zero, Nat.sub_zero]
def sp_Processor_undo (K : PySem.W.Frag) : Sp := fun vs H Q _ => ∃ (H0 : Hp) (p ba : Addr) (n : Nat) (b : Bk) (z : Wk) (und : List Cl) (S : List Addr), vs = [.ref p, .int n] ∧ ProcIn K H0 H p ba b z und S ∧ n ≤ z.calls.length ∧ z.calls.length < 400 ∧ und.length < 400 ∧
  ∀ H' S' z', replay b (z.calls.take (z.calls.length - n)) = some z' → Fr S H H' → Grow H S S' → ProcIn K H0 H' p ba b z' (z.calls.drop (z.calls.length - n) ++ und) S' → Q (.int (z.calls.length - n : Nat)) H'
theorem o_Processor_undo (T : Tx K mg base) : ∃ fd, FunD K "undo" "Processor.undo" (C8.fnArgs s_Processor_undo) (C8.fnBody s_Processor_undo) (C8.fnScope s_Processor_undo) [] [("many", .int 1)] (He.ma K (He.ga K "Processor") "undo") fd ∧ FnOk P w K mg base CX0 10 (He.ma K (He.ga K "Processor") "undo") fd ["self", "many"] (sp_Processor_undo K) := by
  obtain ⟨fd, F⟩ := F_Processor_undo T
  refine ⟨fd, F, F.ok sc_Processor_undo (fun vs H Q E h => ?_) fun cdv A outer s H vs Q E hr h => ?_⟩
  · obtain ⟨H0, p, ba, n, b, z, und, S, rfl, _⟩ := h; rfl
  · obtain ⟨H0, p, ba, n, b, z, und, S, rfl, hp, hn, few, few2, qq⟩ := h
    obtain ⟨dx, o, ut, dw, c, wl, tl, ol, cl, dc, ctl, cq, Sc, Sq, So, h1, h2, h3, h4, _, _, _, _, ⟨xs, h7, h8⟩, h5, h6⟩ := hp.parts
    have lenX : xs.length = z.calls.length := by rw [h8.len, List.length_map]
    refine ⟨_, PSs.nox ((pss_cons (ps_if (PW.pt (pw_or (pt_not (pt_val (pe_f (k_is_integer T) hr (by decide) rfl (pa_cons (pv 1) pa_nil)))) (pw_or1 (pt_cmpR op_lt (pv 1) pe_int (nomark _))))) (pss_one ps_never) pss_nil)
      (pss_cons (ps_set (i := 2) sc_Processor_undo.nd rfl (Or.inl rfl) (pe_fld (pe_fld (pv 0) rfl) rfl))
      (pss_cons (ps_if (pt_cmpR op_gt (pv 1) (pe_callB call_len_seq rfl (f_len T) b_len (pa_cons (pv 2) pa_nil) (by decide) (by decide)) (nomark _)) (pss_one ps_never) pss_nil)
      (pss_cons (ps_set (i := 3) sc_Processor_undo.nd rfl (Or.inl rfl) (pe_op op_sub (pe_callB call_len_seq rfl (f_len T) b_len (pa_cons (pv 2) pa_nil) (by decide) (by decide)) (pv 1)))
      (pss_cons (ps_fld (pv 0) (pe_op op_catA (pe_callTy call_tuple_of rfl (f_tuple T) b_tuple (pa_cons (pe_slice sl_list (pv 2) (po_some (pv 3)) po_none) pa_nil)) (pe_fld (pv 0) rfl)) rfl)
      (pss_cons (ps_fld (pv 0) (pe_f (k_work_of T) hr (by decide) rfl (pa_cons (pe_pr (k_Processor_book T) hr (by decide) (pv 0)) (pa_cons (pe_slice sl_list (pv 2) po_none (po_some (pv 3))) pa_nil))) rfl)
      (pss_one (ps_ret (pv 3)))))))))), ?_⟩
    refine ⟨_, rfl, n, rfl, by omega, by omega, _, rfl, andF rfl ⟨_, rfl, _, _, rfl, rfl, _, rfl, andF (decide_eq_false (by omega)) ?_⟩⟩
    refine ⟨_, rfl, p, _, dx, _, .ref o, rfl, h1, c_Processor T, n_Processor_own_work T, rfl, o, _, dw, _, .ref cl, rfl, h2, c_Work T, n_Work_own_calls T, rfl, ?_⟩
    refine ⟨_, rfl, _, rfl, cl, xs, rfl, .inl (.inl (.inl h7)), _, _, rfl, rfl, _, rfl, andF (decide_eq_false (by rw [lenX]; omega)) ?_⟩
    refine ⟨_, rfl, cl, xs, rfl, .inl (.inl (.inl h7)), _, rfl, _, _, rfl, rfl, ?_⟩
    obtain ⟨r, er⟩ : ∃ r, r = z.calls.length - n := ⟨_, rfl⟩
    rw [← er] at qq
    have hrl : r ≤ xs.length := by omega
    have e0 : ((fun i j => V.int (i - j)) (xs.length : Int) (n : Int)) = V.int (r : Int) := by
      show V.int ((xs.length : Int) - n) = _
      congr 1
      omega
    rw [e0]
    refine ⟨_, rfl, _, rfl, r, rfl, cl, xs, rfl, .inl (.inl h7), fun l1 hl1 => ?_⟩
    have S1 := same_new (o := .lst (cutV xs (some (r : Int)) none)) hl1
    refine ⟨l1, _, rfl, .inl ⟨.inl (.inl upd_same), fun u1 hu1 => ?_⟩⟩
    have S2 := S1.trans (same_new (o := .tup (cutV xs (some (r : Int)) none)) hu1)
    obtain ⟨ut', us, eu, hus, tus⟩ := Td.tuple h6
    cases eu
    refine ⟨_, rfl, p, _, dx, _, .ref ut, rfl, S2 _ _ h1, c_Processor T, n_Processor_own_undone T, rfl, ?_⟩
    have tdd : Tds K H (cutV xs (some (r : Int)) none) ((z.calls.drop r).map Cl.d) := by
      rw [cutV_drop hrl, List.map_drop]
      exact h8.drop r
    have lenU : us.length = und.length := by rw [tus.len, List.length_map]
    refine catR (.inl (.inl upd_same)) ((Fr.of [] S2).sqT hus) (tdd.fr (Fr.of [] S2)) (tus.fr (Fr.of [] S2)) ?_ fun u3 H3 S3 td3 => ?_
    · rw [cutV_drop hrl, List.length_drop, lenU]
      exact Nat.le_trans (show _ ≤ 800 by omega) (by decide)
    rw [← List.map_append] at td3
    have SH3 := S2.trans S3
    obtain ⟨dx4, o4, ut4, k4, FS4, P4⟩ := (hp.at_.same SH3).setUnd td3
    refine ⟨_, rfl, p, _, dx4, _, rfl, k4, c_Processor T, n_Processor_own_undone T, by show 2 < 1000; decide, ?_⟩
    have FA := (Fr.of S SH3).trans FS4
    obtain ⟨dx5, o5, ut5, So5, m1, _⟩ := P4.head
    have hbk := (hp.bk.fr FA hp.new).now
    have hclS : cl ∈ S := by
      obtain ⟨dxq, oq, utq, Soq, hq1, hq2, _, hqS, _⟩ := hp.at_.head
      rw [h1] at hq1
      cases hq1
      obtain ⟨dwq, cq', wlq, tlq, olq, clq, Scq, hw1, _, _, _, _, _, rfl⟩ := hq2.ex
      rw [h2] at hw1
      cases hw1
      rw [hqS]
      simp
    refine ⟨_, rfl, p, dx5, _, rfl, m1, p, ba, z, _, S, rfl, P4, ?_⟩
    have hcl4 := FA.keep
    have hcl : ∃ H4, H4 = upd H3 p (.ins (He.ga K "Processor") dx4 [("own_work", .ref o4), ("own_undone", .ref u3)]) := ⟨_, rfl⟩
    have pcl : p ≠ cl := fun e => by rw [e, h7] at h1; cases h1
    refine ⟨_, rfl, _, rfl, r, rfl, cl, xs, rfl, .inl (.inl (by rw [upd_ne pcl.symm]; exact SH3 _ _ h7)), fun l2 hl2 => ?_⟩
    have S5 := same_new (o := .lst (cutV xs none (some (r : Int)))) hl2
    obtain ⟨z', hz'⟩ := replay_pre (cs := z.calls.take r) (ds := z.calls.drop r) (z := z) (by rw [List.take_append_drop]; exact hp.ok.log)
    have tdt : Tds K H (cutV xs none (some (r : Int))) ((z.calls.take r).map Cl.d) := by
      rw [cutV_take hrl, List.map_take]
      exact h8.take r
    refine ⟨ba, l2, _, b, z.calls.take r, z', rfl, hbk.same S5, hp.bo, upd_same, (tdt.fr FA).fr (Fr.of [] S5), hz', by rw [List.length_take]; exact Nat.lt_of_le_of_lt (Nat.min_le_right _ _) few, fun H6 o6 S6 s6 W6 N6 => ?_⟩
    have S56 := S5.trans s6
    obtain ⟨dx7, o7, ut7, k7, FS7, G7, P7⟩ := P4.setWork S56 W6 (fun a ha => none_back S5 (N6 a ha))
    refine ⟨_, rfl, p, _, dx7, _, rfl, k7, c_Processor T, n_Processor_own_work T, by show 2 < 1000; decide, ?_⟩
    have FB := FA.trans FS7
    have GB : Grow H S (p :: S6) := fun a ha => by
      rcases G7 a ha with m | h
      · exact .inl m
      · exact .inr (FA.fresh (fun x hx _ => P4.live x hx) h)
    refine ⟨_, rfl, qq _ (p :: S6) z' hz' FB GB (hp.to FB GB P7 ⟨?_, ?_⟩)⟩
    · rw [replay_calls hz']; exact hz'
    · rw [replay_calls hz', ← List.append_assoc, List.take_append_drop]
      exact hp.ok.all
theorem und_at {H : Hp} {u : Addr} {und : List Cl} (h : Td K H (.ref u) (.tuple (und.map Cl.d))) : ∃ us, SqT K H u us ∧ Tds K H us (und.map Cl.d) ∧ us.length = und.length := by
  obtain ⟨u', us, e, hs, t⟩ := Td.tuple h
  cases e
  exact ⟨us, hs, t, by rw [t.len, List.length_map]⟩
theorem sIx_nat {n m d : Nat} (h : m ≤ n) : HT.sIx n d (some (m : Int)) = m := by
  unfold HT.sIx
  dsimp only
  rw [if_neg (by omega), Int.toNat_natCast, Nat.min_eq_left h]
/-- the first of a tuple: itself, or a new one -/
theorem slA_take {H : Hp} {a : Addr} {us : List V} {ds : List PyData} {m : Nat} {Kont : VK} (hs : SqT K H a us) (t : Tds K H us ds) (hm : m ≤ us.length) (h : ∀ u H3, Same H H3 → ∀ vs, SqT K H3 u vs → Tds K H3 vs (ds.take m) → Kont (.ref u) H3) : rSlA K (.ref a) none (some (m : Int)) H Kont := by
  refine ⟨a, us, rfl, hs, fun e => ?_, fun _ p hp => ?_⟩
  · have e2 : m = us.length := by rw [← sIx_nat (d := us.length) hm]; exact e.2
    have e3 : ds.take m = ds := List.take_of_length_le (by rw [← t.len]; omega)
    exact h a H (Same.refl _) us hs (by rw [e3]; exact t)
  · exact h p _ (same_new hp) _ (.inl (.inl upd_same)) (by rw [cutV_take hm]; exact (t.take m).fr (Fr.of [] (same_new hp)))
theorem slA_drop {H : Hp} {a : Addr} {us : List V} {ds : List PyData} {m : Nat} {Kont : VK} (hs : SqT K H a us) (t : Tds K H us ds) (hm : m ≤ us.length) (h : ∀ u H3, Same H H3 → ∀ vs, SqT K H3 u vs → Tds K H3 vs (ds.drop m) → Kont (.ref u) H3) : rSlA K (.ref a) (some (m : Int)) none H Kont := by
  refine ⟨a, us, rfl, hs, fun e => ?_, fun _ p hp => ?_⟩
  · have e2 : m = 0 := by rw [← sIx_nat (d := 0) hm]; exact e.1
    subst e2
    exact h a H (Same.refl _) us hs t
  · exact h p _ (same_new hp) _ (.inl (.inl upd_same)) (by rw [cutV_drop hm]; exact (t.drop m).fr (Fr.of [] (same_new hp)))
theorem Grow.trans2 {H H1 : Hp} {S S1 S2 : List Addr} (g : Grow H S S1) (f : Fr S H H1) (k : Grow H1 S1 S2) : Grow H S S2 := fun a ha => by
  rcases k a ha with m | h
  · exact g a m
  · by_cases m : a ∈ S
    · exact .inl m
    · exact .inr (f.gone h m)
theorem take_app {α : Type} (xs ys : List α) (i : Nat) : (xs ++ ys).take (xs.length + i) = xs ++ ys.take i := by
  rw [List.take_append, List.take_of_length_le (by omega), Nat.add_sub_cancel_left]
def sp_Processor_redo (K : PySem.W.Frag) : Sp := fun vs H Q _ => ∃ (H0 : Hp) (p ba : Addr) (n : Nat) (b : Bk) (z : Wk) (und : List Cl) (S : List Addr), vs = [.ref p, .int n] ∧ ProcIn K H0 H p ba b z und S ∧ n ≤ und.length ∧ z.calls.length + und.length < 400 ∧
  ∀ H' S' z', replay b (z.calls ++ und.take n) = some z' → Fr S H H' → Grow H S S' → ProcIn K H0 H' p ba b z' (und.drop n) S' → Q (.int (z'.calls.length : Nat)) H'
theorem o_Processor_redo (T : Tx K mg base) : ∃ fd, FunD K "redo" "Processor.redo" (C8.fnArgs s_Processor_redo) (C8.fnBody s_Processor_redo) (C8.fnScope s_Processor_redo) [] [("many", .int 1)] (He.ma K (He.ga K "Processor") "redo") fd ∧ FnOk P w K mg base CX0 9 (He.ma K (He.ga K "Processor") "redo") fd ["self", "many"] (sp_Processor_redo K) := by
  obtain ⟨fd, F⟩ := F_Processor_redo T
  refine ⟨fd, F, F.ok sc_Processor_redo (fun vs H Q E h => ?_) fun cdv A outer s H vs Q E hr h => ?_⟩
  · obtain ⟨H0, p, ba, n, b, z, und, S, rfl, _⟩ := h; rfl
  · obtain ⟨H0, p, ba, n, b, z, und, S, rfl, hp, hn, few, qq⟩ := h
    obtain ⟨dx, o, ut, So, h1, w1, h6, hS, hpS, set⟩ := hp.at_.head
    obtain ⟨us, hus, tus, lenU⟩ := und_at h6
    refine ⟨_, PSs.nox ((pss_cons (ps_if (PW.pt (pw_or (pt_not (pt_val (pe_f (k_is_integer T) hr (by decide) rfl (pa_cons (pv 1) pa_nil)))) (pw_or1 (pt_cmpR op_lt (pv 1) pe_int (nomark _))))) (pss_one ps_never) pss_nil)
      (pss_cons (ps_if (pt_cmpR op_gt (pv 1) (pe_callB call_len_seq rfl (f_len T) b_len (pa_cons (pe_fld (pv 0) rfl) pa_nil) (by decide) (by decide)) (nomark _)) (pss_one ps_never) pss_nil)
      (pss_cons (ps_for PassesOwn.never rfl (pi_tup (pe_slice sl_tupA (pe_fld (pv 0) rfl) po_none (po_some (pv 1)))) (pg_name (i := 2) sc_Processor_redo.nd rfl (Or.inl rfl)) (pss_one (ps_expr (pe_m (k_Work_again T) hr (by decide) (pe_fld (pv 0) rfl) (pa_cons (pv 2) pa_nil)))))
      (pss_cons (ps_fld (pv 0) (pe_slice sl_tupA (pe_fld (pv 0) rfl) (po_some (pv 1)) po_none) rfl)
      (pss_one (ps_ret (pe_callB call_len_seq rfl (f_len T) b_len (pa_cons (pe_fld (pe_fld (pv 0) rfl) rfl) pa_nil) (by decide) (by decide))))))))), ?_⟩
    refine ⟨_, rfl, n, rfl, by omega, by omega, _, rfl, andF rfl ⟨_, rfl, _, _, rfl, rfl, _, rfl, andF (decide_eq_false (by omega)) ?_⟩⟩
    refine ⟨_, rfl, _, rfl, p, _, dx, _, .ref ut, rfl, h1, c_Processor T, n_Processor_own_undone T, rfl, ut, us, rfl, .inr hus, _, _, rfl, rfl, _, rfl, andF (decide_eq_false (by rw [lenU]; omega)) ?_⟩
    refine ⟨_, rfl, p, _, dx, _, .ref ut, rfl, h1, c_Processor T, n_Processor_own_undone T, rfl, _, rfl, n, rfl, ?_⟩
    refine slA_take hus tus (by omega) fun u3 H3 S3 vs3 hs3 t3 => ?_
    obtain ⟨y, hy⟩ := hp.ok.all
    have len3 : vs3.length = n := by rw [t3.len, List.length_take, List.length_map]; omega
    refine ⟨u3, rfl, ⟨_, hs3⟩, ?_⟩
    refine for_it (walk_tup (xs := vs3)) (fun i σ H4 => ∃ zi Si a, replay b (z.calls ++ und.take i) = some zi ∧ Fr S H3 H4 ∧ Grow H3 S Si ∧ ProcAt K H4 p ba zi und Si ∧ σ = [some (.ref p), some (.int n), a]) ⟨z, S, _, by rw [List.take_zero, List.append_nil]; exact hp.ok.log, Fr.refl _ _, Grow.refl _ _, hp.at_.same S3, rfl⟩ ?_ ?_ ?_
    · rintro i σ H4 _ ⟨zi, Si, a, _, f, _⟩
      exact f.sqT hs3
    · rintro i x σ H4 H5 hi ⟨zi, Si, a, hzi, f, g, pa, rfl⟩ ⟨rfl, hx⟩
      rw [len3] at hi
      have t3' : Tds K H3 vs3 ((und.take n).map Cl.d) := by rw [List.map_take]; exact t3
      obtain ⟨cc, hcc, td⟩ := cl_at t3' hx
      have hcu : und[i]? = some cc := by
        rw [List.getElem?_take, if_pos hi] at hcc
        exact hcc
      have hnx := replay_next hy (i := z.calls.length + i) (c := cc) (by rw [List.getElem?_append_right (by omega), Nat.add_sub_cancel_left]; exact hcu) (zi := zi) (by rw [take_app]; exact hzi)
      rw [Nat.add_assoc, take_app] at hnx
      obtain ⟨dx4, o4, ut4, So4, k1, kw, k6, kS, kpS, kset⟩ := pa.head
      obtain ⟨dw, c, wl, tl, ol, cl, Sc, m1, _⟩ := kw.head
      have FH := (Fr.of S S3).trans f
      have newi : ∀ a ∈ Si, H0 a = none := fun a ha => (g a ha).elim (hp.new a) fun e => none_back hp.bk.same (none_back S3 e)
      have hwi : WorkIn K H0 H5 o4 ba b zi So4 := ⟨kw, hp.bk.fr FH hp.new, hp.bo, fun a ha => newi a (by rw [kS]; exact List.mem_cons_of_mem _ ha), replay_ok hp.bo hzi⟩
      refine ⟨_, rfl, p, _, dx4, _, .ref o4, rfl, k1, c_Processor T, n_Processor_own_work T, rfl, o4, dw, _, rfl, m1, rfl, _, rfl, H0, o4, ba, x, cc, b, zi, So4, rfl, hwi, td.fr f, hnx.1, ?_, fun H6 S6 F6 G6 W6 => ?_⟩
      · rw [replay_calls hzi, List.length_append, List.length_take]
        omega
      · obtain ⟨FS6, GS6, P6⟩ := kset H6 _ S6 F6 G6 W6.at_
        exact ⟨_, p :: S6, _, hnx.2, f.trans2 g FS6, g.trans2 f GS6, P6, rfl⟩
    · rintro σ H4 ⟨zi, Si, a, hzi, f, g, pa, rfl⟩
      rw [len3] at hzi
      have FH := (Fr.of S S3).trans f
      have GH : Grow H S Si := fun a ha => (g a ha).imp id (none_back S3)
      obtain ⟨dx4, o4, ut4, So4, k1, kw, k6, kS, kpS, kset⟩ := pa.head
      obtain ⟨us4, hus4, tus4, lenU4⟩ := und_at k6
      refine ⟨_, rfl, p, _, dx4, _, .ref ut4, rfl, k1, c_Processor T, n_Processor_own_undone T, rfl, _, rfl, n, rfl, ?_⟩
      dsimp only [tNoPart]
      refine slA_drop (m := n) hus4 tus4 (by omega) fun u5 H5 S5 vs5 hs5 t5 => ?_
      have td5 : Td K H5 (.ref u5) (.tuple ((und.drop n).map Cl.d)) := by rw [List.map_drop]; exact .tup hs5 t5
      obtain ⟨dx6, o6, ut6, m1, FS6, P6⟩ := (pa.same S5).setUnd td5
      refine ⟨_, rfl, p, _, dx6, _, rfl, m1, c_Processor T, n_Processor_own_undone T, by show 2 < 1000; decide, ?_⟩
      have FA := FH.trans2 GH ((Fr.of Si S5).trans FS6)
      have fin := qq _ Si zi hzi FA GH (hp.to FA GH P6 ⟨by rw [replay_calls hzi]; exact hzi, by rw [replay_calls hzi, List.append_assoc, List.take_append_drop]; exact hp.ok.all⟩)
      obtain ⟨dx7, o7, ut7, So7, r1, w7, _⟩ := P6.head
      obtain ⟨dw7, c7, wl7, tl7, ol7, cl7, Sc7, r2, _, _, _, _, ⟨ys7, r3, r4⟩, _⟩ := w7.head
      refine ⟨_, rfl, p, _, dx7, _, .ref o7, rfl, r1, c_Processor T, n_Processor_own_work T, rfl, o7, _, dw7, _, .ref cl7, rfl, r2, c_Work T, n_Work_own_calls T, rfl, cl7, ys7, rfl, .inl (.inl (.inl r3)), ?_⟩
      rw [r4.len, List.length_map]
      exact fin
theorem kbn_none {x qual : Str} {params : Arguments} {body : List Stmt} {scope : Scope} {kws : List (Str × V)} {f : Addr} {fd : FuncData} {ps : List Str}
    (F : FunD K x qual params body scope [] kws f fd) (n : Nat) (ks : List Str) (g : {α : Type} → List α → List α → List α)
    (hg : ∀ {vs zs : List V} {us ws : List Value}, Vals vs us → Vals zs ws → Vals (g vs zs) (g us ws))
    (hb : ∀ (kV doc pm : Value) (an : Option Addr) (cdv ct : Value) (us ws : List Value), us.length = n → ws.length = ks.length → bindArgs (PySem.W.fnOf x qual params body scope Value.none kV doc pm an cdv ct) ⟨us, ks.zip ws⟩ = Pure.pure (ps.zip (g us ws))) :
    KBn K fd ps n ks (fun us ws => g us ws) (fun vs zs => g vs zs) := by
  obtain ⟨oc, od, dV, kV, doc, pm, an, cdv, ct, osl, rfl, lk, hcd, hdfl, _⟩ := F.ex
  obtain rfl : dV = Value.none := by
    rcases hdfl with ⟨_, h⟩ | ⟨h, _⟩
    · exact h
    · exact absurd rfl h
  refine ⟨fun s us ws _ h1 h2 M A E Q q => ?_, fun r1 r2 => hg r1 r2⟩
  rw [hb kV doc pm an cdv ct us ws h1 h2]
  exact wpAny_pure q
theorem vals_app : ∀ {vs zs : List V} {us ws : List Value}, Vals vs us → Vals zs ws → Vals (vs ++ zs) (us ++ ws)
  | _, _, _, _, .nil, h => h
  | _, _, _, _, .cons a t, h => .cons a (vals_app t h)
theorem k_Processor_undo (T : Tx K mg base) : FnKw P w K mg base 10 (He.ma K (He.ga K "Processor") "undo") ["many"] (fun vs zs H Q => vs.length = 1 ∧ sp_Processor_undo K (vs ++ zs) H Q E0) := by
  obtain ⟨fd, F, G⟩ := o_Processor_undo (P := P) (w := w) T
  exact fnKw_of G (kbn_none (ps := ["self", "many"]) F 1 ["many"] (fun us ws => us ++ ws) vals_app fun kV doc pm an cdv ct us ws h1 h2 => match us, ws, h1, h2 with
    | [_], [_], _, _ => rfl)
theorem k_Processor_redo (T : Tx K mg base) : FnKw P w K mg base 9 (He.ma K (He.ga K "Processor") "redo") ["many"] (fun vs zs H Q => vs.length = 1 ∧ sp_Processor_redo K (vs ++ zs) H Q E0) := by
  obtain ⟨fd, F, G⟩ := o_Processor_redo (P := P) (w := w) T
  exact fnKw_of G (kbn_none (ps := ["self", "many"]) F 1 ["many"] (fun us ws => us ++ ws) vals_app fun kV doc pm an cdv ct us ws h1 h2 => match us, ws, h1, h2 with
    | [_], [_], _, _ => rfl)
end
end Tb
set_option Elab.async false
set_option linter.all false
set_option maxRecDepth 100000
set_option maxHeartbeats 4000000
/-! Equal books, equal processors. -/
namespace Tb
open PySem PySem.Spec PyProof.Rows L2
/-- the same object -/
def Did : Eqv := fun x y _ => x = y ∧ ∃ a, x = V.ref a
theorem did_mon : Mon Did := fun x y H H' e h => h
theorem did_eq {X : Cx} {n : Nat} : EqG X n Did := by
  intro A pins s σ H x y u v hs I rx ry h
  obtain ⟨rfl, a, rfl⟩ := h
  have hu : u = Value.ref a := rx
  have hv : v = Value.ref a := ry
  subst hu
  subst hv
  exact SeqAt.EqAt.same (A := A) (s := s) (Value.ref a) X.prog X.w X.xe _ ⟨rfl, H, I, fun _ _ h => h⟩
theorem prs_same {H : Hp} (as : List Addr) : Prs Did (as.map V.ref) (as.map V.ref) H := by
  unfold Prs
  refine ⟨rfl, fun i x y h1 h2 => ?_⟩
  rw [h1] at h2
  cases h2
  rw [List.getElem?_map] at h1
  cases e : as[i]? with
  | none => rw [e] at h1; cases h1
  | some a => rw [e] at h1; cases h1; exact ⟨rfl, a, rfl⟩
section
variable {P : Program} {w : World} {K : PySem.W.Frag} {mg : Str → Option Value} {base : Heap}
def sp_Book___eq__ (K : PySem.W.Frag) : Sp := fun vs H Q _ => ∃ (a : Addr) (b : Bk), vs = [.ref a, .ref a] ∧ BkAt K H a b ∧ ∀ H', Same H H' → Q (.bl true) H'
theorem k_Book___eq__ (T : Tx K mg base) : Spc P w K mg base 3 (He.ga K "Book") "__eq__" (sp_Book___eq__ K) := by
  refine spc_ok (D_Book___eq__ T) (x_Book___eq__ T) sc_Book___eq__ (fun vs H Q E h => ?_) (fun cdv A outer s H vs Q hr h => ?_)
  · obtain ⟨a, b, rfl, _⟩ := h; rfl
  · obtain ⟨a, b, rfl, hb, qq⟩ := h
    obtain ⟨dx, lt, rt, as, h1, h2, h3, h4⟩ := hb.ex
    refine ⟨_, (pss_cons (ps_if (pt_not (pt_val (pe_callB (C8.call_isC (i_Book T)) rfl (f_isinstance T) b_isinstance (pa_cons (pv 1) (pa_cons (C8.pe_gc (v := .ref (He.ga K "Book")) rfl ⟨_, g_Book T, rfl⟩) pa_nil)) (by decide) (by decide)))) (pss_one (ps_ret pe_bl)) pss_nil)
      (pss_one (ps_ret (pe_and (pe_cmpR (op_eqG (rcG_tup (n:=1) did_mon did_eq) hr) (pe_fld (pv 0) rfl) (pe_fld (pv 1) rfl) (nomark _)) (pe_one (pe_cmpR (op_eqD (hr.units)) (pe_fld (pv 0) rfl) (pe_fld (pv 1) rfl) (nomark _))))))), ?_⟩
    refine ⟨_, rfl, a, dx, _, rfl, h1, _, rfl, andF rfl ?_⟩
    refine ⟨_, rfl, a, _, dx, _, .ref lt, rfl, h1, c_Book T, n_Book_own_levels T, rfl, _, rfl, a, _, dx, _, .ref lt, rfl, h1, c_Book T, n_Book_own_levels T, rfl, ?_⟩
    refine ⟨⟨lt, lt, _, _, rfl, rfl, h2, h2, prs_same as⟩, fun H2 S2 => ⟨_, rfl, andT rfl ?_⟩⟩
    have S : Same H H2 := S2
    refine ⟨_, rfl, a, _, dx, _, .ref rt, rfl, S _ _ h1, c_Book T, n_Book_own_ranks T, rfl, _, rfl, a, _, dx, _, .ref rt, rfl, S _ _ h1, c_Book T, n_Book_own_ranks T, rfl, ?_⟩
    have fl : Fl 1 (.tuple (b.ranks.map fun (r : Nat) => PyData.int (r : Int))) := Fl.tup (fl_map fun _ _ => Fl.int _)
    have dp : Dp K H2 (.ref rt) (.tuple (b.ranks.map fun (r : Nat) => PyData.int (r : Int))) := .tup ((Fr.of [] S).sqT h4) (dp_ints b.ranks)
    refine ⟨_, _, dp, dp, fl.shaped, fl.shaped, ?_⟩
    rw [fl.refl]
    exact qq H2 S
def sp_Processor___eq__ (K : PySem.W.Frag) : Sp := fun vs H Q _ => ∃ (p p2 ba : Addr) (b : Bk) (z z2 : Wk) (und und2 : List Cl) (S S2 : List Addr), vs = [.ref p, .ref p2] ∧ ProcAt K H p ba z und S ∧ ProcAt K H p2 ba z2 und2 S2 ∧ BkAt K H ba b ∧ z.crs = z2.crs ∧ ∀ H', Same H H' → Q (.bl true) H'
theorem k_Processor___eq__ (T : Tx K mg base) : Spc P w K mg base 4 (He.ga K "Processor") "__eq__" (sp_Processor___eq__ K) := by
  refine spc_ok (D_Processor___eq__ T) (x_Processor___eq__ T) sc_Processor___eq__ (fun vs H Q E h => ?_) (fun cdv A outer s H vs Q hr h => ?_)
  · obtain ⟨p, p2, ba, b, z, z2, und, und2, S, S2, rfl, _⟩ := h; rfl
  · obtain ⟨p, p2, ba, b, z, z2, und, und2, S, S2, rfl, h1, h2, hb, e, qq⟩ := h
    obtain ⟨dx, o, ut, So, a1, a2, _⟩ := h1.head
    obtain ⟨dx2, o2, ut2, So2, b1, b2, _⟩ := h2.head
    obtain ⟨dy, lt, rt, as, k1, _⟩ := hb.ex
    refine ⟨_, (pss_cons (ps_if (pt_not (pt_val (pe_callB (C8.call_isC (i_Processor T)) rfl (f_isinstance T) b_isinstance (pa_cons (pv 1) (pa_cons (C8.pe_gc (v := .ref (He.ga K "Processor")) rfl ⟨_, g_Processor T, rfl⟩) pa_nil)) (by decide) (by decide)))) (pss_one (ps_ret pe_bl)) pss_nil)
      (pss_one (ps_ret (pe_and (pe_cmpR (op_eqO (k_Book___eq__ T) hr (by decide)) (pe_pr (k_Processor_book T) hr (by decide) (pv 0)) (pe_pr (k_Processor_book T) hr (by decide) (pv 1)) (nomark _)) (pe_one (pe_m (k_Course_is_like T) hr (by decide) (pe_fld (pe_fld (pv 0) rfl) rfl) (pa_cons (pe_fld (pe_fld (pv 1) rfl) rfl) pa_nil))))))), ?_⟩
    refine ⟨_, rfl, p2, dx2, _, rfl, b1, _, rfl, andF rfl ?_⟩
    refine ⟨_, rfl, p, dx, _, rfl, a1, p, ba, z, und, S, rfl, h1, _, rfl, p2, dx2, _, rfl, b1, p2, ba, z2, und2, S2, rfl, h2, ?_⟩
    refine ⟨ba, ba, dy, dy, _, _, rfl, rfl, k1, k1, ba, b, rfl, hb, fun H3 S3 => ⟨true, rfl, true, rfl, andT rfl ?_⟩⟩
    obtain ⟨dw, c, wl, tl, ol, cl, Sc, w1, c1, _⟩ := a2.head
    obtain ⟨dw2, c2, wl2, tl2, ol2, cl2, Sc2, w2, c2', _⟩ := b2.head
    obtain ⟨dc, ctl, cq, c3⟩ := c1.head
    refine ⟨_, rfl, p, _, dx, _, .ref o, rfl, S3 _ _ a1, c_Processor T, n_Processor_own_work T, rfl, o, _, dw, _, .ref c, rfl, S3 _ _ w1, c_Work T, n_Work_own_course T, rfl, c, dc, _, rfl, S3 _ _ c3, rfl, ?_⟩
    refine ⟨_, rfl, p2, _, dx2, _, .ref o2, rfl, S3 _ _ b1, c_Processor T, n_Processor_own_work T, rfl, o2, _, dw2, _, .ref c2, rfl, S3 _ _ w2, c_Work T, n_Work_own_course T, rfl, ?_⟩
    rw [← e] at c2'
    exact ⟨c, c2, ba, ba, z.crs, Sc, Sc2, rfl, c1.same S3, c2'.same S3, qq H3 S3⟩
end
end Tb
set_option Elab.async false
set_option linter.all false
set_option maxRecDepth 100000
set_option maxHeartbeats 4000000
/-! Loads. -/
namespace Tb
open PySem PySem.Spec PyProof.Rows L2
def smallCm : Cm → Prop
  | .come n => n < 1000
  | .wake n => n < 1000
/-- a walk, whatever a turn does -/
theorem walk_W {J : It} {n : Nat} {G : Hp → Prop} {Y : Nat → Hp → V → Hp → Prop} (w : Walk J n G Y) {H : Hp} {Stop : Hp → Prop} {Turn : (Hp → Prop) → V → Hp → Prop} (Pv : Nat → Hp → Prop) (h0 : Pv 0 H) (hG : ∀ i H, i ≤ n → Pv i H → G H)
    (hs : ∀ i x H H', i < n → Pv i H → Y i H x H' → Turn (Pv (i + 1)) x H') (hd : ∀ H, Pv n H → Stop H) :
    ∃ W : Nat → Nat → Hp → Prop, (∃ m, W 0 m H) ∧ ∀ i m H, W i m H → J.stop i H ∧ Stop H ∨ J.go i H ∧ ∃ Nx : Hp → Prop, (∀ H', Nx H' → ∃ m', m' < m ∧ W (i + 1) m' H') ∧ ∀ x H', J.yld i H x H' → Turn Nx x H' := by
  refine ⟨fun i m H => m = n - i ∧ i ≤ n ∧ Pv i H, ⟨n, rfl, Nat.zero_le _, h0⟩, ?_⟩
  rintro i m H ⟨rfl, hi, hp⟩
  by_cases h : i < n
  · exact .inr ⟨w.goes i H h (hG i H hi hp), Pv (i + 1), fun H' p => ⟨n - (i + 1), by omega, rfl, h, p⟩, fun x H' y => hs i x H H' h hp (w.yields i H x H' h (hG i H hi hp) y)⟩
  · have e : i = n := by omega
    subst e
    exact .inl ⟨w.stops H (hG i H hi hp), hd H hp⟩
section
variable {P : Program} {w : World} {K : PySem.W.Frag} {mg : Str → Option Value} {base : Heap}
def sp_is_coming (K : PySem.W.Frag) : Sp := fun vs H Q _ => ∃ (v : V) (cm : Cm), vs = [v] ∧ Td K H v cm.d ∧ smallCm cm ∧ ∀ H', Same H H' → Q (.bl true) H'
theorem k_is_coming (T : Tx K mg base) : Fnc P w K mg base 3 "is_coming" (sp_is_coming K) := by
  refine fnc_ok (D_is_coming T) (g_is_coming T) sc_is_coming (fun vs H Q E h => ?_) (fun cdv A outer s H vs Q hr h => ?_)
  · obtain ⟨v, cm, rfl, _⟩ := h; rfl
  · obtain ⟨v, cm, rfl, hv, hs, qq⟩ := h
    obtain ⟨a, wo, n, rfl, ha, hcm⟩ := cm_at hv
    have hn : n < 1000 := by
      rcases hcm with ⟨_, rfl⟩ | ⟨_, rfl⟩ <;> exact hs
    refine ⟨_, (pss_cons (ps_if (PW.pt (pw_or (pt_not (pt_val (pe_isi T rfl (pv 0) rfl (f_tuple T) b_tuple))) (pw_or (pt_cmpR op_ne (pe_callB call_len_seq rfl (f_len T) b_len (pa_cons (pv 0) pa_nil) (by decide) (by decide)) pe_int (nomark _)) (pw_or1 (pt_not (pt_val (pe_isi T rfl (pe_ix ix_tup (pv 0) pe_int (fun _ _ => rfl)) rfl (f_str T) b_str))))))) (pss_one (ps_ret pe_bl)) pss_nil)
      (pss_one (ps_ret (pe_and (pe_cmpR op_in_seq (pe_ix ix_tup (pv 0) pe_int (fun _ _ => rfl)) (pe_tup (pa_cons (C8.pe_gc rfl (v_COME T)) (pa_cons (C8.pe_gc rfl (v_WAKE T)) pa_nil))) (by rfl)) (pe_one (pe_f (k_is_number T) hr (by decide) rfl (pa_cons (pe_ix ix_tup (pv 0) pe_int (fun _ _ => rfl)) pa_nil))))))), ?_⟩
    refine ⟨_, rfl, _, _, true, rfl, tyT ha, by decide +kernel, _, rfl, andF rfl ?_⟩
    refine ⟨_, rfl, a, _, rfl, .inr ha, rfl, _, rfl, andF rfl ?_⟩
    refine ⟨_, rfl, a, _, _, _, rfl, rfl, ha, atI_nat (j := 0) rfl, _, _, true, rfl, tyS _, by decide +kernel, _, rfl, andF rfl ?_⟩
    refine ⟨_, rfl, a, _, _, _, rfl, rfl, ha, atI_nat (j := 0) rfl, by show 2 ≤ sizeLine; decide, fun t ht => ?_⟩
    have S1 := same_new (o := .tup [.str "come", .str "wake"]) ht
    refine ⟨_, _, rfl, .inr (.inl (.inl upd_same)), rfl, by rfl, _, rfl, andT ?_ ?_⟩
    · rcases hcm with ⟨rfl, _⟩ | ⟨rfl, _⟩ <;> decide +kernel
    · exact ⟨_, rfl, a, _, _, _, rfl, rfl, (Fr.of [] S1).sqT ha, atI_nat (j := 1) rfl, n, rfl, by omega, by omega, qq _ S1⟩
theorem cms_at {H : Hp} {xs : List V} {cs : List Cm} (t : Tds K H xs (cs.map Cm.d)) {i : Nat} {v : V} (h : xs[i]? = some v) : ∃ c, cs[i]? = some c ∧ Td K H v c.d := by
  have hlt : i < cs.length := by
    have := (List.getElem?_eq_some_iff.1 h).1
    rw [t.len, List.length_map] at this
    exact this
  obtain ⟨v', hv, td⟩ := t.get (i := i) (d := cs[i].d) (by rw [List.getElem?_map, List.getElem?_eq_getElem hlt]; rfl)
  rw [h] at hv
  cases hv
  exact ⟨cs[i], List.getElem?_eq_getElem hlt, td⟩
/-- the parts of a tick of a load -/
theorem tk_at {H : Hp} {v : V} {t : Tk} (h : Td K H v (Tk.d t)) : ∃ a c xs, v = .ref a ∧ SqT K H a [.ref c, .str t.2.s] ∧ SqT K H c xs ∧ Tds K H xs (t.1.map Cm.d) ∧ xs.length = t.1.length := by
  obtain ⟨a, x, y, rfl, hs, h1, h2⟩ := Td.two h
  obtain ⟨c, xs, rfl, hc, tx⟩ := Td.tuple h1
  have e2 := h2.str'
  subst e2
  exact ⟨a, c, xs, rfl, hs, hc, tx, by rw [tx.len, List.length_map]⟩
structure TkSm (t : Tk) : Prop where
  few : t.1.length ≤ 20
  cms : ∀ m ∈ t.1, smallCm m
def sp_is_tick (K : PySem.W.Frag) : Sp := fun vs H Q _ => ∃ (v : V) (t : Tk), vs = [v] ∧ Td K H v (Tk.d t) ∧ TkSm t ∧ ∀ H', Same H H' → Q (.bl true) H'
theorem k_is_tick (T : Tx K mg base) : Fnc P w K mg base 4 "is_tick" (sp_is_tick K) := by
  refine fnc_ok (D_is_tick T) (g_is_tick T) sc_is_tick (fun vs H Q E h => ?_) (fun cdv A outer s H vs Q hr h => ?_)
  · obtain ⟨v, t, rfl, _⟩ := h; rfl
  · obtain ⟨v, t, rfl, hv, sm, qq⟩ := h
    obtain ⟨a, c, xs, rfl, ha, hc, tx, lx⟩ := tk_at hv
    have few := sm.few
    refine ⟨_, (pss_cons (ps_if (PW.pt (pw_or (pt_not (pt_val (pe_isi T rfl (pv 0) rfl (f_tuple T) b_tuple))) (pw_or (pt_cmpR op_ne (pe_callB call_len_seq rfl (f_len T) b_len (pa_cons (pv 0) pa_nil) (by decide) (by decide)) pe_int (nomark _)) (pw_or (pt_not (pt_val (pe_isi T rfl (pe_ix ix_tup (pv 0) pe_int (fun _ _ => rfl)) rfl (f_tuple T) b_tuple))) (pw_or1 (pt_not (pt_val (pe_f (k_is_word T) hr (by decide) rfl (pa_cons (pe_ix ix_tup (pv 0) pe_int (fun _ _ => rfl)) pa_nil))))))))) (pss_one (ps_ret pe_bl)) pss_nil)
      (pss_one (ps_ret (pe_and (pe_cmpR op_le (pe_callB call_len_seq rfl (f_len T) b_len (pa_cons (pe_ix ix_tup (pv 0) pe_int (fun _ _ => rfl)) pa_nil) (by decide) (by decide)) (C8.pe_gc rfl (v_MAX_COMINGS T)) (nomark _)) (pe_one (pe_callB (cr_all rfl) rfl (f_all T) b_all (pa_cons (pe_lc (own := [("coming", 1)]) rfl sc_is_tick.nd (pi_tup (pe_ix ix_tup (pv 0) pe_int (fun _ _ => rfl))) (blkOk_by (own := [("coming", 1)]) (N := N_is_tick) (sc := C8.fnScope s_is_tick) (by decide +kernel)) (fun _ _ _ _ _ => (pg_name (i := 1) sc_is_tick.nd rfl (Or.inl rfl))) (fun _ _ _ _ _ => pts_nil) (fun _ _ _ _ _ => (pe_f (k_is_coming T) hr (by decide) rfl (pa_cons (pv 1) pa_nil)))) pa_nil) (by decide) (by decide))))))), ?_⟩
    refine ⟨_, rfl, _, _, true, rfl, tyT ha, by decide +kernel, _, rfl, andF rfl ?_⟩
    refine ⟨_, rfl, a, _, rfl, .inr ha, rfl, _, rfl, andF rfl ?_⟩
    refine ⟨_, rfl, a, _, _, _, rfl, rfl, ha, atI_nat (j := 0) rfl, _, _, true, rfl, tyT hc, by decide +kernel, _, rfl, andF rfl ?_⟩
    refine ⟨_, rfl, a, _, _, _, rfl, rfl, ha, atI_nat (j := 1) rfl, t.2, rfl, _, rfl, andF rfl ?_⟩
    refine ⟨_, rfl, a, _, _, _, rfl, rfl, ha, atI_nat (j := 0) rfl, c, xs, rfl, .inr hc, _, _, rfl, rfl, _, rfl, andT (decide_eq_true (by rw [lx]; omega)) ?_⟩
    refine ⟨_, rfl, a, _, _, _, rfl, rfl, ha, atI_nat (j := 0) rfl, c, rfl, ⟨_, hc⟩, fun D hD => ?_⟩
    refine lc_all (walk_tup (xs := xs)) (fun _ y _ => y = .bl true) hD (by rw [lx]; exact Nat.lt_of_le_of_lt few (by decide)) (fun _ _ _ _ => same_at) (fun H2 f2 _ => f2.sqT hc) (fun _ _ _ _ _ _ h => h) ?_ ?_
    · rintro j x H2 H3 Q' hi S2 ⟨rfl, hx⟩ q'
      obtain ⟨cm, hcm, td⟩ := cms_at tx hx
      exact ⟨rfl, _, rfl, x, cm, rfl, td.same S2, sm.cms cm (List.mem_of_getElem? hcm), fun H4 s4 => q' _ H4 s4 rfl⟩
    · intro H2 ys S2 hD2 l2 r2
      refine ⟨D, List.replicate _ true, rfl, all_ok hD2 l2 r2, ?_⟩
      rw [all_rep]
      exact qq _ S2
def isCome : Cm → Bool
  | .come _ => true
  | .wake _ => false
def comers (ts : List Tk) : Nat := (ts.map fun t => t.1.countP isCome).sum
theorem comers_take {ts : List Tk} {i : Nat} {t : Tk} (h : ts[i]? = some t) : comers (ts.take (i + 1)) = comers (ts.take i) + t.1.countP isCome := by
  unfold comers
  rw [List.take_succ, h, List.map_append, List.sum_append]
  simp
theorem count_take {ms : List Cm} {j : Nat} {m : Cm} (h : ms[j]? = some m) : (ms.take (j + 1)).countP isCome = (ms.take j).countP isCome + (if isCome m then 1 else 0) := by
  rw [List.take_succ, h, List.countP_append]
  simp [List.countP_cons]
theorem tks_at {H : Hp} {xs : List V} {cs : List Tk} (t : Tds K H xs (cs.map Tk.d)) {i : Nat} {v : V} (h : xs[i]? = some v) : ∃ c, cs[i]? = some c ∧ Td K H v (Tk.d c) := by
  have hlt : i < cs.length := by
    have := (List.getElem?_eq_some_iff.1 h).1
    rw [t.len, List.length_map] at this
    exact this
  obtain ⟨v', hv, td⟩ := t.get (i := i) (d := Tk.d cs[i]) (by rw [List.getElem?_map, List.getElem?_eq_getElem hlt]; rfl)
  rw [h] at hv
  cases hv
  exact ⟨cs[i], List.getElem?_eq_getElem hlt, td⟩
theorem pi_tupK {X : Cx} {tg l : Expr} {tl : TE} (hk : X.K = K) (h : PE X l tl) : PI X tg l (iTup K tl) := by subst hk; exact pi_tup h
def sp_comers_in (K : PySem.W.Frag) : Sp := fun vs H Q _ => ∃ (v : V) (ts : List Tk), vs = [v] ∧ Td K H v (.tuple (ts.map Tk.d)) ∧ comers ts < 1000 ∧ ∀ H', Same H H' → Q (.int (comers ts : Nat)) H'
theorem k_comers_in (T : Tx K mg base) : Fnc P w K mg base 1 "comers_in" (sp_comers_in K) := by
  refine fnc_ok (D_comers_in T) (g_comers_in T) sc_comers_in (fun vs H Q E h => ?_) (fun cdv A outer s H vs Q hr h => ?_)
  · obtain ⟨v, ts, rfl, _⟩ := h; rfl
  · obtain ⟨v, ts, rfl, hv, few, qq⟩ := h
    obtain ⟨a, xs, rfl, ha, tx⟩ := Td.tuple hv
    refine ⟨_, (pss_one (ps_ret (pe_callB call_len_seq rfl (f_len T) b_len (pa_cons (pe_lc2 (own := [("comings", 1), ("word", 2), ("coming", 3)]) (vs1 := [3]) rfl sc_comers_in.nd (pi_tup (pv 0)) (blkOk_by (own := [("comings", 1), ("word", 2), ("coming", 3)]) (N := N_comers_in) (sc := C8.fnScope s_comers_in) (by decide +kernel)) (by decide)
      (fun _ _ _ _ _ => (pg_tupK (K := K) (n := 2) rfl rfl (pgs_cons (pg_name (i := 1) sc_comers_in.nd rfl (Or.inl rfl)) (pgs_cons (pg_name (i := 2) sc_comers_in.nd rfl (Or.inl rfl)) pgs_nil))))
      (fun _ _ _ _ _ => pts_nil)
      (fun _ _ _ _ _ => pi_tupK (K := K) rfl (pv 1))
      (fun _ _ _ _ _ => (pg_name (i := 3) sc_comers_in.nd rfl (Or.inl rfl)))
      (fun _ _ _ _ _ => (pts_one (pt_cmpR op_eq (pe_ix (ix_tupK (K := K) rfl) (pv 3) pe_int (fun _ _ => rfl)) (C8.pe_gc rfl (v_COME T)) (nomark _))))
      (fun _ _ _ _ _ => (pv 3))) pa_nil) (by decide) (by decide)))), ?_⟩
    refine ⟨_, rfl, a, rfl, ⟨_, ha⟩, fun D hD => ?_⟩
    have lx : xs.length = ts.length := by rw [tx.len, List.length_map]
    refine walk_W (walk_tup (xs := xs)) (fun i H2 => Same H H2 ∧ ∃ acc, H2 D = some (.lst acc) ∧ acc.length = comers (ts.take i)) ⟨same_new hD, [], upd_same, by rw [List.take_zero]; rfl⟩ (fun i H2 _ h => (Fr.of [] h.1).sqT ha) ?_ ?_
    · rintro i x H2 H3 hi ⟨S2, acc, hacc, hl⟩ ⟨rfl, hx⟩
      obtain ⟨t, ht, td⟩ := tks_at tx hx
      obtain ⟨b, c, ys, rfl, hb, hc, ty, ly⟩ := tk_at (td.same S2)
      refine ⟨b, _, rfl, hb, rfl, _, _, rfl, _, _, rfl, rfl, rfl, ?_⟩
      dsimp only [tYes]
      rw [if_pos rfl]
      refine ⟨_, rfl, c, rfl, ⟨_, hc⟩, ?_⟩
      refine walk_W (walk_tup (xs := ys)) (fun j H4 => Same H H4 ∧ Fr [D] H3 H4 ∧ ∃ acc, H4 D = some (.lst acc) ∧ acc.length = comers (ts.take i) + (t.1.take j).countP isCome) ⟨S2, Fr.refl _ _, acc, hacc, by rw [List.take_zero, hl]; rfl⟩ (fun j H4 _ h => h.2.1.sqT hc) ?_ ?_
      · rintro j y H4 H5 hj ⟨S4, F4, acc4, hacc4, hl4⟩ ⟨rfl, hy⟩
        obtain ⟨m, hm, tm⟩ := cms_at ty hy
        obtain ⟨d, wo, n, rfl, hd, hcm⟩ := cm_at (tm.fr F4)
        have ct := count_take hm
        refine ⟨rfl, _, rfl, d, _, _, _, rfl, rfl, hd, atI_nat (j := 0) rfl, rfl, ?_⟩
        rcases hcm with ⟨rfl, rfl⟩ | ⟨rfl, rfl⟩
        · refine ⟨true, by decide +kernel, andT rfl ⟨_, rfl, acc4, hacc4, ?_, ?_⟩⟩
          · have l1 : comers (ts.take (i + 1)) ≤ comers ts := by
              unfold comers
              conv => rhs; rw [← List.take_append_drop (i + 1) ts]
              rw [List.map_append, List.sum_append]
              omega
            have l2 : (t.1.take j).countP isCome ≤ t.1.countP isCome := (List.take_sublist j t.1).countP_le
            rw [comers_take ht] at l1
            rw [hl4]
            exact Nat.lt_of_lt_of_le (show _ < 1000 by omega) (by decide)
          · refine ⟨fun b o e => ?_, F4.trans (Fr.wr hacc4 trivial (List.mem_singleton.2 rfl)), _, upd_same, ?_⟩
            · rw [upd_ne (ne_of_none e hD)]; exact S4 _ _ e
            · rw [List.length_append, hl4, ct]
              show _ + 1 = _ + (_ + 1)
              omega
        · refine ⟨false, by decide +kernel, andF rfl ⟨S4, F4, acc4, hacc4, ?_⟩⟩
          rw [hl4, ct]
          rfl
      · rintro H4 ⟨S4, F4, acc4, hacc4, hl4⟩
        have e3 : t.1.take ys.length = t.1 := List.take_of_length_le (by omega)
        rw [e3] at hl4
        exact ⟨S4, acc4, hacc4, by rw [hl4, comers_take ht]⟩
    · rintro H2 ⟨S2, acc, hacc, hl⟩
      rw [List.take_of_length_le (by omega)] at hl
      refine ⟨D, acc, rfl, .inl (.inl (.inl hacc)), ?_⟩
      rw [hl]
      exact qq _ S2
structure LoadSm (ts : List Tk) : Prop where
  few : ts.length ≤ 400
  tks : ∀ t ∈ ts, TkSm t
  com : comers ts ≤ 60
def sp_is_load (K : PySem.W.Frag) : Sp := fun vs H Q _ => ∃ (v : V) (ts : List Tk), vs = [v] ∧ Td K H v (.tuple (ts.map Tk.d)) ∧ LoadSm ts ∧ ∀ H', Same H H' → Q (.bl true) H'
theorem k_is_load (T : Tx K mg base) : Fnc P w K mg base 5 "is_load" (sp_is_load K) := by
  refine fnc_ok (D_is_load T) (g_is_load T) sc_is_load (fun vs H Q E h => ?_) (fun cdv A outer s H vs Q hr h => ?_)
  · obtain ⟨v, ts, rfl, _⟩ := h; rfl
  · obtain ⟨v, ts, rfl, hv, sm, qq⟩ := h
    obtain ⟨a, xs, rfl, ha, tx⟩ := Td.tuple hv
    have lx : xs.length = ts.length := by rw [tx.len, List.length_map]
    have few := sm.few
    have com := sm.com
    refine ⟨_, (pss_cons (ps_if (PW.pt (pw_or (pt_not (pt_val (pe_isi T rfl (pv 0) rfl (f_tuple T) b_tuple))) (pw_or (pt_cmpR op_gt (pe_callB call_len_seq rfl (f_len T) b_len (pa_cons (pv 0) pa_nil) (by decide) (by decide)) (C8.pe_gc rfl (v_MAX_LOAD T)) (nomark _)) (pw_or1 (pt_not (pt_val (pe_callB (cr_all rfl) rfl (f_all T) b_all (pa_cons (pe_lc (own := [("tick", 1)]) rfl sc_is_load.nd (pi_tup (pv 0)) (blkOk_by (own := [("tick", 1)]) (N := N_is_load) (sc := C8.fnScope s_is_load) (by decide +kernel)) (fun _ _ _ _ _ => (pg_name (i := 1) sc_is_load.nd rfl (Or.inl rfl))) (fun _ _ _ _ _ => pts_nil) (fun _ _ _ _ _ => (pe_f (k_is_tick T) hr (by decide) rfl (pa_cons (pv 1) pa_nil)))) pa_nil) (by decide) (by decide)))))))) (pss_one (ps_ret pe_bl)) pss_nil)
      (pss_one (ps_ret (pe_cmpR op_le (pe_f (k_comers_in T) hr (by decide) rfl (pa_cons (pv 0) pa_nil)) (C8.pe_gc rfl (v_MAX_TASKS T)) (nomark _))))), ?_⟩
    refine ⟨_, rfl, _, _, true, rfl, tyT ha, by decide +kernel, _, rfl, andF rfl ?_⟩
    refine ⟨_, rfl, a, xs, rfl, .inr ha, _, _, rfl, rfl, _, rfl, andF (decide_eq_false (by rw [lx]; omega)) ?_⟩
    refine ⟨_, rfl, a, rfl, ⟨_, ha⟩, fun D hD => ?_⟩
    refine lc_all (walk_tup (xs := xs)) (fun _ y _ => y = .bl true) hD (by rw [lx]; exact Nat.lt_of_le_of_lt few (by decide)) (fun _ _ _ _ => same_at) (fun H2 f2 _ => f2.sqT ha) (fun _ _ _ _ _ _ h => h) ?_ ?_
    · rintro j x H2 H3 Q' hi S2 ⟨rfl, hx⟩ q'
      obtain ⟨t, ht, td⟩ := tks_at tx hx
      exact ⟨rfl, _, rfl, x, t, rfl, td.same S2, sm.tks t (List.mem_of_getElem? ht), fun H4 s4 => q' _ H4 s4 rfl⟩
    · intro H2 ys S2 hD2 l2 r2
      refine ⟨D, List.replicate _ true, rfl, all_ok hD2 l2 r2, _, rfl, ?_⟩
      rw [all_rep]
      refine andF rfl ⟨_, rfl, .ref a, ts, rfl, hv.same S2, by omega, fun H3 S3 => ⟨_, _, rfl, rfl, ?_⟩⟩
      exact qT (decide_eq_true (by omega)) (qq _ (S2.trans S3))
def sp_require_load (K : PySem.W.Frag) : Sp := fun vs H Q _ => ∃ (v : V) (ts : List Tk), vs = [v] ∧ Td K H v (.tuple (ts.map Tk.d)) ∧ LoadSm ts ∧ ∀ H', Same H H' → Q .non H'
theorem k_require_load (T : Tx K mg base) : Fnc P w K mg base 6 "require_load" (sp_require_load K) := by
  refine fnc_ok (D_require_load T) (g_require_load T) sc_require_load (fun vs H Q E h => ?_) (fun cdv A outer s H vs Q hr h => ?_)
  · obtain ⟨v, ts, rfl, _⟩ := h; rfl
  · obtain ⟨v, ts, rfl, hv, sm, qq⟩ := h
    refine ⟨_, (pss_one (ps_if (pt_not (pt_val (pe_f (k_is_load T) hr (by decide) rfl (pa_cons (pv 0) pa_nil)))) (pss_one ps_never) pss_nil)), ?_⟩
    exact ⟨_, rfl, v, ts, rfl, hv, sm, fun H3 S3 => ⟨_, rfl, andF rfl (qq _ S3)⟩⟩
end
end Tb
set_option Elab.async false
set_option linter.all false
set_option maxRecDepth 100000
set_option maxHeartbeats 4000000
/-! Loads done. -/
namespace Tb
open PySem PySem.Spec PyProof.Rows L2
theorem comsOk_next {b : Bk} : ∀ {ms : List Cm} {x : Crs} {i : Nat} {m : Cm}, comsOk b x ms = true → ms[i]? = some m → canCm b (coms b x (ms.take i)) m = true ∧ coms b x (ms.take (i + 1)) = (coms b x (ms.take i)).letCome b m
  | [], _, _, _, _, h => by simp at h
  | n :: ms, x, 0, m, h, e => by
    have h' : (canCm b x n && comsOk b (x.letCome b n) ms) = true := h
    rw [Bool.and_eq_true] at h'
    simp only [List.getElem?_cons_zero, Option.some.injEq] at e
    subst e
    exact ⟨h'.1, rfl⟩
  | n :: ms, x, i + 1, m, h, e => by
    have h' : (canCm b x n && comsOk b (x.letCome b n) ms) = true := h
    rw [Bool.and_eq_true] at h'
    exact comsOk_next (ms := ms) (x := x.letCome b n) h'.2 (by simpa using e)
/-- a walk in a generator -/
theorem walk_G {J : It} {n : Nat} {G : Hp → Prop} {Y : Nat → Hp → V → Hp → Prop} (w : Walk J n G Y) {ys : List V} {σ : L2.St} {H : Hp} {Stop : List V → L2.St → Hp → Prop} {Turn : (List V → L2.St → Hp → Prop) → List V → L2.St → V → Hp → Prop} (Pv : Nat → List V → L2.St → Hp → Prop) (h0 : Pv 0 ys σ H) (hG : ∀ i ys σ H, i ≤ n → Pv i ys σ H → G H)
    (hs : ∀ i ys σ x H H', i < n → Pv i ys σ H → Y i H x H' → Turn (Pv (i + 1)) ys σ x H') (hd : ∀ ys σ H, Pv n ys σ H → Stop ys σ H) :
    ∃ W : Nat → Nat → List V → L2.St → Hp → Prop, (∃ m, W 0 m ys σ H) ∧ ∀ i m ys σ H, W i m ys σ H → J.stop i H ∧ Stop ys σ H ∨ J.go i H ∧ ∃ N : List V → L2.St → Hp → Prop, (∀ ys' σ' H', N ys' σ' H' → ∃ m', m' < m ∧ W (i + 1) m' ys' σ' H') ∧ ∀ x H', J.yld i H x H' → Turn N ys σ x H' := by
  refine ⟨fun i m ys σ H => m = n - i ∧ i ≤ n ∧ Pv i ys σ H, ⟨n, rfl, Nat.zero_le _, h0⟩, ?_⟩
  rintro i m ys σ H ⟨rfl, hi, hp⟩
  by_cases h : i < n
  · exact .inr ⟨w.goes i H h (hG i _ _ H hi hp), Pv (i + 1), fun ys' σ' H' p => ⟨n - (i + 1), by omega, rfl, h, p⟩, fun x H' y => hs i ys σ x H H' h hp (w.yields i H x H' h (hG i _ _ H hi hp) y)⟩
  · have e : i = n := by omega
    subst e
    exact .inl ⟨w.stops H (hG i _ _ H hi hp), hd ys σ H hp⟩
section
variable {P : Program} {w : World} {K : PySem.W.Frag} {mg : Str → Option Value} {base : Heap}
def sp_let_all_come (K : PySem.W.Frag) : Sp := fun vs H Q _ => ∃ (H0 : Hp) (c ba cs : Addr) (v : V) (ms : List Cm) (b : Bk) (x : Crs) (S : List Addr) (xs : List V), vs = [.ref c, v, .ref cs] ∧ CrsIn K H0 H c ba b x S ∧ SqT K H cs xs ∧ Tds K H xs (ms.map Cm.d) ∧ comsOk b x ms = true ∧
  ∀ H', Fr S H H' → CrsIn K H0 H' c ba b (coms b x ms) S → Q .non H'
theorem k_let_all_come (T : Tx K mg base) : Fnc P w K mg base 6 "let_all_come" (sp_let_all_come K) := by
  refine fnc_ok (D_let_all_come T) (g_let_all_come T) sc_let_all_come (fun vs H Q E h => ?_) (fun cdv A outer s H vs Q hr h => ?_)
  · obtain ⟨H0, c, ba, cs, v, ms, b, x, S, xs, rfl, _⟩ := h; rfl
  · obtain ⟨H0, c, ba, cs, v, ms, b, x, S, xs, rfl, hc, hs, tx, ok, qq⟩ := h
    have lx : xs.length = ms.length := by rw [tx.len, List.length_map]
    refine ⟨_, (pss_one (ps_for PassesOwn.never rfl (pi_tup (pv 2)) (pg_name (i := 3) sc_let_all_come.nd rfl (Or.inl rfl)) (pss_cons (ps_if (pt_not (pt_val (pe_m (k_Course_can_come T) hr (by decide) (pv 0) (pa_cons (pv 3) pa_nil)))) (pss_one ps_never) pss_nil)
      (pss_one (ps_expr (pe_m (k_Course_let_come T) hr (by decide) (pv 0) (pa_cons (pv 3) pa_nil))))))), ?_⟩
    refine ⟨_, rfl, cs, rfl, ⟨_, hs⟩, ?_⟩
    refine for_it (walk_tup (xs := xs)) (fun i σ H2 => Fr S H H2 ∧ CrsIn K H0 H2 c ba b (coms b x (ms.take i)) S ∧ ∃ a, σ = [some (.ref c), some v, some (.ref cs), a]) ⟨Fr.refl _ _, hc, _, rfl⟩ ?_ ?_ ?_
    · rintro i σ H2 _ ⟨f, _⟩
      exact f.sqT hs
    · rintro i y σ H2 H3 hi ⟨f, hc2, a, rfl⟩ ⟨rfl, hy⟩
      obtain ⟨m, hm, tm⟩ := cms_at tx hy
      obtain ⟨can, en⟩ := comsOk_next ok hm
      obtain ⟨dc, ctl, cq, h1⟩ := hc2.at_.head
      refine ⟨_, rfl, c, dc, _, rfl, h1, rfl, _, rfl, H0, c, ba, y, m, b, _, S, rfl, hc2, tm.fr f, can, _, rfl, andF rfl ?_⟩
      refine ⟨_, rfl, c, dc, _, rfl, h1, rfl, _, rfl, H0, c, ba, y, m, b, _, S, rfl, hc2, tm.fr f, can, fun H4 F4 C4 => ⟨f.trans F4, ?_, _, rfl⟩⟩
      rw [en]
      exact C4
    · rintro σ H2 ⟨f, hc2, a, rfl⟩
      rw [List.take_of_length_le (by omega)] at hc2
      exact qq _ f hc2
theorem ticks_next {b : Bk} : ∀ {ts : List Tk} {x : Crs} {i : Nat} {t : Tk}, ticksOk b x ts = true → ts[i]? = some t →
    comsOk b (ticksC b x (ts.take i)) t.1 = true ∧ ticksC b x (ts.take (i + 1)) = ((coms b (ticksC b x (ts.take i)) t.1).tick b t.2).1 ∧ ticksT b x (ts.take (i + 1)) = ticksT b x (ts.take i) ++ [((coms b (ticksC b x (ts.take i)) t.1).tick b t.2).2]
  | [], _, _, _, _, h => by simp at h
  | u :: ts, x, 0, t, h, e => by
    have h' : (comsOk b x u.1 && ticksOk b ((coms b x u.1).tick b u.2).1 ts) = true := h
    rw [Bool.and_eq_true] at h'
    simp only [List.getElem?_cons_zero, Option.some.injEq] at e
    subst e
    exact ⟨h'.1, rfl, rfl⟩
  | u :: ts, x, i + 1, t, h, e => by
    have h' : (comsOk b x u.1 && ticksOk b ((coms b x u.1).tick b u.2).1 ts) = true := h
    rw [Bool.and_eq_true] at h'
    obtain ⟨h1, h2, h3⟩ := ticks_next (ts := ts) (x := ((coms b x u.1).tick b u.2).1) h'.2 (i := i) (t := t) (by simpa using e)
    refine ⟨h1, h2, ?_⟩
    show _ :: ticksT b _ (ts.take (i + 1)) = _ :: (ticksT b _ (ts.take i) ++ [_])
    rw [h3]
    rfl
theorem ticksT_len {b : Bk} : ∀ {ts : List Tk} {x : Crs}, (ticksT b x ts).length = ts.length
  | [], _ => rfl
  | _ :: ts, _ => congrArg Nat.succ (ticksT_len (ts := ts))
theorem coms_ok {b : Bk} (bo : BkOk b) : ∀ {ms : List Cm} {x : Crs}, CrsOk b x → comsOk b x ms = true → CrsOk b (coms b x ms)
  | [], _, h, _ => h
  | m :: ms, x, h, k => by
    have h' : (canCm b x m && comsOk b (x.letCome b m) ms) = true := k
    rw [Bool.and_eq_true] at h'
    exact coms_ok bo (ms := ms) (crsOk_letCome bo h h'.1) h'.2
def sp_done_by (K : PySem.W.Frag) : SpG := fun vs H Qg _ => ∃ (H0 : Hp) (c ba lt : Addr) (ts : List Tk) (b : Bk) (x : Crs) (S : List Addr) (xs : List V), vs = [.ref c, .ref lt] ∧ CrsIn K H0 H c ba b x S ∧ SqT K H lt xs ∧ Tds K H xs (ts.map Tk.d) ∧ ticksOk b x ts = true ∧ ts.length ≤ 400 ∧
  ∀ H', Fr S H H' → CrsIn K H0 H' c ba b (ticksC b x ts) S → Qg ((ticksT b x ts).map toldV) H'
theorem o_done_by (T : Tx K mg base) : ∃ fd, GFn P w K mg base 7 (He.ga K "done_by") fd ["course", "load"] (sp_done_by K) ∧ PySem.W.keepIn K (.ref (He.ga K "done_by")) = true ∧ Binds K fd ["course", "load"] [] := by
  obtain ⟨fd, F⟩ := F_done_by T
  have kp := F.kp
  have bn := F.bindsN (ps := ["course", "load"]) fun _ _ _ _ _ _ us hl => match us, hl with | [_, _], _ => rfl
  obtain ⟨oc, od, dV, kV, doc, pm, an, cdv, ct, osl, rfl, lk, hcd, hdfl, _⟩ := F.ex
  refine ⟨_, gfn_of lk hcd sc_done_by (fun vs H Q E h => ?_) (fun A outer s H vs Q E pn hr h => ?_), kp, bn⟩
  · obtain ⟨H0, c, ba, lt, ts, b, x, S, xs, rfl, _⟩ := h; rfl
  · obtain ⟨H0, c, ba, lt, ts, b, x, S, xs, rfl, hc, hl, tx, ok, few, qq⟩ := h
    have lx : xs.length = ts.length := by rw [tx.len, List.length_map]
    refine ⟨_, gss_cons (gs_for owns_gcx rfl (pi_enumT (by rfl) (f_enumerate T) (pa_cons (pv 1) pa_nil)) (pg_tup (by rfl) (pgs_cons (pg_name (i := 2) sc_done_by.nd rfl (Or.inl rfl)) (pgs_cons (pg_tup (by rfl) (pgs_cons (pg_name (i := 3) sc_done_by.nd rfl (Or.inl rfl)) (pgs_cons (pg_name (i := 4) sc_done_by.nd rfl (Or.inl rfl)) pgs_nil))) pgs_nil)))
      (gss_cons (gs_ps (ps_expr (pe_f (k_let_all_come T) hr (by decide) rfl (pa_cons (pv 0) (pa_cons (pv 2) (pa_cons (pv 3) pa_nil)))))) (gss_cons (gs_yield (pe_m (k_Course_tick T) hr (by decide) (pv 0) (pa_cons (pv 4) pa_nil))) gss_nil))) gss_nil, ?_⟩
    refine ⟨_, rfl, lt, xs, rfl, hl, ?_⟩
    refine walk_G (walk_enumT (xs := xs)) (fun i ys σ H2 => Fr S H H2 ∧ CrsIn K H0 H2 c ba b (ticksC b x (ts.take i)) S ∧ ys = (ticksT b x (ts.take i)).map toldV ∧ ∃ a1 a2 a3, σ = [some (.ref c), some (.ref lt), a1, a2, a3]) ⟨Fr.refl _ _, hc, rfl, _, _, _, rfl⟩ ?_ ?_ ?_
    · rintro i ys σ H2 _ ⟨f, _⟩
      exact f.sqT hl
    · rintro i ys σ y H2 H3 hi ⟨f, hc2, rfl, a1, a2, a3, rfl⟩ ⟨t, x1, x2, rfl, ht, rfl, e1, e2⟩
      cases e1
      have S3 := same_new (o := .tup [.int (i : Nat), x2]) ht
      obtain ⟨tk, htk, td⟩ := tks_at tx e2
      obtain ⟨ok1, en1, en2⟩ := ticks_next ok htk
      have f3 := f.step S3
      obtain ⟨a, cs, ys', rfl, ha, hcs, ty, ly⟩ := tk_at (td.fr f3)
      have lys : (ticksT b x (ts.take i)).length ≤ 400 := by rw [ticksT_len, List.length_take]; omega
      refine ⟨t, _, rfl, .inl (.inl upd_same), rfl, _, _, rfl, _, _, rfl, a, _, rfl, ha, rfl, _, _, rfl, _, _, rfl, rfl, rfl, ?_⟩
      refine ⟨_, rfl, _, rfl, _, rfl, H0, c, ba, cs, .int (i : Nat), tk.1, b, _, S, ys', rfl, hc2.step S3, hcs, ty, ok1, fun H4 F4 C4 => ?_⟩
      obtain ⟨dc, ctl, cq, h1⟩ := C4.at_.head
      refine ⟨by rw [List.length_map]; exact Nat.lt_of_le_of_lt lys (by decide), _, rfl, c, dc, _, rfl, h1, rfl, _, rfl, H0, c, ba, b, _, S, tk.2, rfl, C4, fun H5 F5 C5 => ?_⟩
      refine ⟨(f3.trans F4).trans F5, ?_, ?_, _, _, _, rfl⟩
      · rw [en1]; exact C5
      · rw [en2, List.map_append]; rfl
    · rintro ys σ H2 ⟨f, hc2, rfl, a1, a2, a3, rfl⟩
      have e0 : ts.take xs.length = ts := List.take_of_length_le (by omega)
      rw [e0] at hc2 ⊢
      exact qq _ f hc2
theorem passCX {X : Cx} : Passes (CX X.prog X.w) X E0 := fun pins σ H s e s' I c => by
  obtain ⟨a, B, H', cls, d, z1, fl, z2, ub, z3, z4, z5, z6⟩ := c
  exact z6.elim
theorem told_td {K : PySem.W.Frag} {H : Hp} : ∀ os : List Told, Tds K H (os.map toldV) (os.map Told.d)
  | [] => .nil
  | o :: os => .cons (by cases o <;> constructor) (told_td os)
def sp_chart (K : PySem.W.Frag) : Sp := fun vs H Q _ => ∃ (ba lt : Addr) (ts : List Tk) (b : Bk), vs = [.ref ba, .ref lt] ∧ BkAt K H ba b ∧ BkOk b ∧ Td K H (.ref lt) (.tuple (ts.map Tk.d)) ∧ LoadSm ts ∧ ticksOk b (Crs.new b) ts = true ∧
  ∀ H' t, Same H H' → Td K H' (.ref t) (.tuple ((ticksT b (Crs.new b) ts).map Told.d)) → Q (.ref t) H'
theorem k_chart (T : Tx K mg base) : Fnc P w K mg base 12 "chart" (sp_chart K) := by
  obtain ⟨fd, G, kp, bn⟩ := o_done_by (P := P) (w := w) T
  refine fnc_ok (D_chart T) (g_chart T) sc_chart (fun vs H Q E h => ?_) (fun cdv A outer s H vs Q hr h => ?_)
  · obtain ⟨ba, lt, ts, b, rfl, _⟩ := h; rfl
  · obtain ⟨ba, lt, ts, b, rfl, hb, bo, hl, sm, ok, qq⟩ := h
    obtain ⟨lt', xs, e, hlt, tx⟩ := Td.tuple hl
    cases e
    refine ⟨_, (pss_cons (ps_expr (pe_f (k_require_book T) hr (by decide) rfl (pa_cons (pv 0) pa_nil)))
      (pss_cons (ps_expr (pe_f (k_require_load T) hr (by decide) rfl (pa_cons (pv 1) pa_nil)))
      (pss_one (ps_ret (pe_callTy call_tuple_of rfl (f_tuple T) b_tuple (pa_cons (pe_listG (pgen_call (E := E0) G (hr.mono (by decide)) rfl (g_done_by T) kp bn .nil (pa_cons (pe_k (k_Course___init__ T) hr (by decide) rfl (pa_cons (pv 0) pa_nil)) (pa_cons (pv 1) pa_nil))) passCX (fun _ _ _ z => z.elim) (hr.mono (by decide)) rfl (f_list T) b_list) pa_nil)))))), ?_⟩
    refine ⟨_, rfl, ba, b, rfl, hb, ?_⟩
    refine ⟨_, rfl, .ref lt, ts, rfl, hl, sm, fun H1 S1 => ?_⟩
    refine ⟨_, rfl, ?_⟩
    intro y dy hy hdy hne
    have Sy : Same H1 (upd (upd H1 dy (.own y)) y (.ins (He.ga K "Course") dy [])) := (same_new hdy).trans (same_new (by rw [upd_ne hne.symm]; exact hy))
    refine ⟨y, ba, dy, b, rfl, upd_same, hb.same (S1.trans Sy), bo, fun H2 S F2 C2 G2 => ⟨rfl, ?_⟩⟩
    have S2 := made_same F2 hy hdy
    have N2 := made_new G2 hy hdy
    have SH2 := S1.trans S2
    refine ⟨_, rfl, H1, y, ba, lt, ts, b, Crs.new b, S, xs, rfl, ⟨C2, ⟨hb.same S1, S2⟩, bo, N2, crsOk_new bo⟩, (Fr.of [] SH2).sqT hlt, tx.fr (Fr.of [] SH2), ok, sm.few, fun H3 F3 C3 => ?_⟩
    intro l hl3
    have S3 := same_new (o := .lst ((ticksT b (Crs.new b) ts).map toldV)) hl3
    refine ⟨l, _, rfl, .inl ⟨.inl (.inl upd_same), fun t ht => ?_⟩⟩
    refine qq _ t ((S1.trans C3.bk.same).trans (S3.trans (same_new ht))) (.tup (.inl (.inl upd_same)) (told_td _))
end
end Tb
set_option Elab.async false
set_option linter.all false
set_option maxRecDepth 100000
set_option maxHeartbeats 4000000
/-! Whole loads. -/
namespace Tb
open PySem PySem.Spec PyProof.Rows L2
def tkCls (t : Tk) : List Cl := t.1.map Cl.cm ++ [Cl.tick t.2]
def loadCls (ts : List Tk) : List Cl := ts.flatMap tkCls
theorem loadCls_take {ts : List Tk} {i : Nat} {t : Tk} (h : ts[i]? = some t) : loadCls (ts.take (i + 1)) = loadCls (ts.take i) ++ tkCls t := by
  unfold loadCls
  rw [List.take_succ, h, List.flatMap_append]
  simp
theorem loadCls_split {ts : List Tk} {i : Nat} {t : Tk} (h : ts[i]? = some t) : loadCls ts = loadCls (ts.take i) ++ (tkCls t ++ loadCls (ts.drop (i + 1))) := by
  conv => lhs; rw [← List.take_append_drop (i + 1) ts]
  unfold loadCls at *
  rw [List.flatMap_append]
  have := loadCls_take h
  unfold loadCls at this
  rw [this, List.append_assoc]
/-- one call further in a run -/
theorem replayF_mid {b : Bk} {w z zi : Wk} {pre post : List Cl} {c : Cl} (h : replayF b w (pre ++ c :: post) = some z) (hi : replayF b w pre = some zi) : canDo b zi c = true ∧ replayF b w (pre ++ [c]) = some (zi.step b c) := by
  rw [replayF_append, hi] at h
  have h' : (if canDo b zi c then replayF b (zi.step b c) post else none) = some z := h
  split at h'
  · rename_i can
    refine ⟨can, ?_⟩
    rw [replayF_append, hi]
    show replayF b zi [c] = _
    rw [replayF_one, if_pos can]
  · cases h'
section
variable {P : Program} {w : World} {K : PySem.W.Frag} {mg : Str → Option Value} {base : Heap}
def sp_Processor_do (K : PySem.W.Frag) : Sp := fun vs H Q _ => ∃ (H0 : Hp) (p ba : Addr) (v : V) (ts : List Tk) (b : Bk) (z z' : Wk) (und : List Cl) (S : List Addr), vs = [.ref p, v] ∧ ProcIn K H0 H p ba b z und S ∧ Td K H v (.tuple (ts.map Tk.d)) ∧ LoadSm ts ∧ ts ≠ [] ∧ replayF b z (loadCls ts) = some z' ∧ z.calls.length + (loadCls ts).length < 400 ∧
  ∀ H' S' t, Fr S H H' → Grow H S S' → ProcIn K H0 H' p ba b z' [] S' → Q (.ref t) H'
theorem k_Processor_do (T : Tx K mg base) : Mth P w K mg base 9 (He.ga K "Processor") "do" (sp_Processor_do K) := by
  refine mth_ok (D_Processor_do T) (c_Processor T) (m_Processor_do T) sc_Processor_do (fun vs H Q E h => ?_) (fun cdv A outer s H vs Q hr h => ?_)
  · obtain ⟨H0, p, ba, v, ts, b, z, z', und, S, rfl, _⟩ := h; rfl
  · obtain ⟨H0, p, ba, v, ts, b, z, z', und, S, rfl, hp, hv, sm, ne, hz, few, qq⟩ := h
    obtain ⟨dx, o, ut, dw, c, wl, tl, ol, cl, dc, ctl, cq, Sc, Sq, So, h1, h2, h3, h4, _, _, _, _, _, h5, h6⟩ := hp.parts
    obtain ⟨a, xs, rfl, ha, tx⟩ := Td.tuple hv
    have lx : xs.length = ts.length := by rw [tx.len, List.length_map]
    refine ⟨_, (pss_cons (ps_expr (pe_f (k_require_load T) hr (by decide) rfl (pa_cons (pv 1) pa_nil)))
      (pss_cons (ps_set (i := 2) sc_Processor_do.nd rfl (Or.inl rfl) (pe_m0 (k_Work_branch T) hr (by decide) (pe_fld (pv 0) rfl)))
      (pss_cons (ps_set (i := 3) sc_Processor_do.nd rfl (Or.inl rfl) (pe_lst pa_nil))
      (pss_cons (ps_for PassesOwn.never rfl (pi_tup (pv 1)) (pg_tup (by rfl) (pgs_cons (pg_name (i := 4) sc_Processor_do.nd rfl (Or.inl rfl)) (pgs_cons (pg_name (i := 5) sc_Processor_do.nd rfl (Or.inl rfl)) pgs_nil))) (pss_cons (ps_for PassesOwn.never rfl (pi_tup (pv 4)) (pg_name (i := 6) sc_Processor_do.nd rfl (Or.inl rfl)) (pss_one (ps_expr (pe_m (k_Work_again T) hr (by decide) (pv 2) (pa_cons (pv 6) pa_nil)))))
      (pss_one (ps_expr (pe_bm PySem.F.plainAttrs_list PySem.F.slot_list_append PySem.F.type_list_append mt_append (pv 3) (pa_cons (pe_m (k_Work_turn T) hr (by decide) (pv 2) (pa_cons (pv 5) pa_nil)) pa_nil))))))
      (pss_cons (ps_if (pt_cmpR (op_neD (hr.units)) (pv 1) (pe_tup pa_nil) (nomark _)) (pss_cons (ps_fld (pv 0) (pv 2) rfl)
      (pss_one (ps_fld (pv 0) (pe_tup pa_nil) rfl))) pss_nil)
      (pss_one (ps_ret (pe_callTy call_tuple_of rfl (f_tuple T) b_tuple (pa_cons (pv 3) pa_nil))))))))), ?_⟩
    refine ⟨_, rfl, .ref a, ts, rfl, hv, sm, fun H1 S1 => ?_⟩
    refine ⟨_, rfl, p, _, dx, _, .ref o, rfl, S1 _ _ h1, c_Processor T, n_Processor_own_work T, rfl, o, dw, _, rfl, S1 _ _ h2, rfl, H0, o, ba, b, z, So, rfl, h5.step S1, fun H2 o' S2 s2 W2 N2 => ?_⟩
    have SH2 := S1.trans s2
    refine ⟨by show 0 ≤ sizeLine; decide, fun l hl => ?_⟩
    have S3 := same_new (o := .lst []) hl
    have SH3 := SH2.trans S3
    have N2' : ∀ a ∈ S2, H a = none := fun a ha => none_back S1 (N2 a ha)
    have hbk := hp.bk.now
    have I3 : WorkIn K H (upd H2 l (.lst [])) o' ba b z S2 := ⟨W2.same S3, ⟨hbk, SH3⟩, hp.bo, N2', h5.ok⟩
    refine ⟨_, rfl, a, rfl, ⟨_, (Fr.of [] SH3).sqT ha⟩, ?_⟩
    have lS2 : l ∉ S2 := fun m => W2.live l m hl
    refine for_it (walk_tup (xs := xs)) (fun i σ H4 => ∃ zi Si acc a1 a2 a3, replayF b z (loadCls (ts.take i)) = some zi ∧ WorkIn K H H4 o' ba b zi Si ∧ l ∉ Si ∧ H4 l = some (.lst acc) ∧ acc.length = i ∧ σ = [some (.ref p), some (.ref a), some (.ref o'), some (.ref l), a1, a2, a3]) ⟨z, S2, [], _, _, _, rfl, I3, lS2, upd_same, rfl, rfl⟩ ?_ ?_ ?_
    · rintro i σ H4 _ ⟨zi, Si, acc, a1, a2, a3, _, hi, _⟩
      exact (Fr.of [] hi.bk.same).sqT ha
    · rintro i x σ H4 H5 hi ⟨zi, Si, acc, a1, a2, a3, hzi, hw, hlS, hacc, lacc, rfl⟩ ⟨rfl, hx⟩
      obtain ⟨t, ht, td⟩ := tks_at tx hx
      have spl := loadCls_split ht
      obtain ⟨at', cs, ys, rfl, hat, hcs, ty, ly⟩ := tk_at td
      refine ⟨at', _, rfl, (Fr.of [] hw.bk.same).sqT hat, rfl, _, _, rfl, _, _, rfl, rfl, ?_⟩
      refine ⟨_, rfl, cs, rfl, ⟨_, (Fr.of [] hw.bk.same).sqT hcs⟩, ?_⟩
      refine for_it (walk_tup (xs := ys)) (fun j σ H6 => ∃ zj Sj a3, replayF b z (loadCls (ts.take i) ++ (t.1.take j).map Cl.cm) = some zj ∧ WorkIn K H H6 o' ba b zj Sj ∧ l ∉ Sj ∧ H6 l = some (.lst acc) ∧ σ = [some (.ref p), some (.ref a), some (.ref o'), some (.ref l), some (.ref cs), some (.str t.2.s), a3]) ⟨zi, Si, _, by rw [List.take_zero, List.map_nil, List.append_nil]; exact hzi, hw, hlS, hacc, rfl⟩ ?_ ?_ ?_
      · rintro j σ H6 _ ⟨zj, Sj, a3, _, hwj, _⟩
        exact (Fr.of [] hwj.bk.same).sqT hcs
      · rintro j y σ H6 H7 hj ⟨zj, Sj, a3, hzj, hwj, hlj, haccj, rfl⟩ ⟨rfl, hy⟩
        obtain ⟨m, hm, tm⟩ := cms_at ty hy
        have hjl := (List.getElem?_eq_some_iff.1 hm).1
        have e1 : t.1 = t.1.take j ++ m :: t.1.drop (j + 1) := by
          conv => lhs; rw [← List.take_append_drop j t.1]
          rw [List.drop_eq_getElem_cons hjl, (List.getElem?_eq_some_iff.1 hm).2]
        have e2 : loadCls ts = (loadCls (ts.take i) ++ (t.1.take j).map Cl.cm) ++ Cl.cm m :: ((t.1.drop (j + 1)).map Cl.cm ++ ([Cl.tick t.2] ++ loadCls (ts.drop (i + 1)))) := by
          rw [spl]
          unfold tkCls
          conv => lhs; rw [e1]
          simp [List.append_assoc]
        have nx := replayF_mid (by rw [← e2]; exact hz) hzj
        obtain ⟨dw7, c7, wl7, tl7, ol7, cl7, Sc7, g1, _⟩ := hwj.at_.head
        have lc := replayF_calls hzj
        refine ⟨_, rfl, o', dw7, _, rfl, g1, rfl, _, rfl, H, o', ba, y, Cl.cm m, b, zj, Sj, rfl, hwj, tm.same hwj.bk.same, nx.1, ?_, fun H8 S8 F8 G8 W8 => ⟨_, S8, _, ?_, W8, fun hm8 => ?_, F8.keep _ _ haccj hlj, rfl⟩⟩
        · have l2 := congrArg List.length e2
          rw [List.length_append, List.length_cons] at l2
          rw [lc, List.length_append]
          omega
        · rw [List.take_succ, hm]
          show replayF b z (loadCls (ts.take i) ++ ((t.1.take j) ++ [m]).map Cl.cm) = _
          rw [List.map_append, ← List.append_assoc]
          exact nx.2
        · rcases G8 l hm8 with h8 | h8
          · exact hlj h8
          · rw [haccj] at h8; cases h8
      · rintro σ H6 ⟨zj, Sj, a3, hzj, hwj, hlj, haccj, rfl⟩
        have e3 : t.1.take ys.length = t.1 := List.take_of_length_le (by omega)
        rw [e3] at hzj
        have e4 : loadCls ts = (loadCls (ts.take i) ++ t.1.map Cl.cm) ++ Cl.tick t.2 :: loadCls (ts.drop (i + 1)) := by
          rw [spl]
          unfold tkCls
          simp [List.append_assoc]
        have nx := replayF_mid (by rw [← e4]; exact hz) hzj
        have lc := replayF_calls hzj
        have l2 := congrArg List.length e4
        rw [List.length_append, List.length_cons] at l2
        have lcalls : zj.calls.length < 400 := by
          rw [lc, List.length_append]
          omega
        obtain ⟨dw7, c7, wl7, tl7, ol7, cl7, Sc7, g1, _⟩ := hwj.at_.head
        refine ⟨_, rfl, .inl ⟨rfl, _, .inl (.inl haccj)⟩, _, rfl, o', dw7, _, rfl, g1, rfl, _, rfl, H, o', ba, t.2, b, zj, Sj, rfl, hwj, Nat.lt_of_le_of_lt hwj.ok.tick lcalls, Nat.lt_trans lcalls (by decide), fun H8 S8 F8 G8 W8 => ?_⟩
        have hacc8 := F8.keep _ _ haccj hlj
        have hl8 : l ∉ S8 := fun hm8 => by
          rcases G8 l hm8 with h8 | h8
          · exact hlj h8
          · rw [haccj] at h8; cases h8
        refine ⟨l, acc, _, rfl, rfl, hacc8, by rw [lacc]; exact Nat.lt_of_lt_of_le (show i < 400 by have := sm.few; omega) (by decide), ?_⟩
        have Fl := Fr.wr (T := [l]) (u := .lst (acc ++ [toldV (zj.crs.tick b t.2).2])) hacc8 trivial (List.mem_singleton.2 rfl)
        refine ⟨_, S8, _, _, _, _, by rw [loadCls_take ht]; unfold tkCls; rw [← List.append_assoc]; exact nx.2, ⟨W8.at_.fr Fl fun a ha m => hl8 (by rw [← List.mem_singleton.1 m]; exact ha), W8.bk.fr Fl fun x hx => by rw [List.mem_singleton.1 hx]; exact none_back SH2 hl, W8.bo, W8.new, W8.ok⟩, hl8, upd_same, by rw [List.length_append, lacc]; rfl, rfl⟩
    · rintro σ H4 ⟨zi, Si, acc, a1, a2, a3, hzi, hw, hlS, hacc, lacc, rfl⟩
      have e0 : ts.take xs.length = ts := List.take_of_length_le (by omega)
      rw [e0, hz] at hzi
      cases hzi
      have S4 : Same H H4 := hw.bk.same
      refine ⟨_, rfl, by show 0 ≤ sizeLine; decide, fun e he => ?_⟩
      have S5 := same_new (o := .tup []) he
      have SH5 := S4.trans S5
      have fl : SeqAt.shaped (.tuple (ts.map Tk.d)) = true := (Fl.tup (fl_map fun t _ => Tk.fl t)).shaped
      have fl0 : SeqAt.shaped (.tuple []) = true := (Fl.tup (n := 0) fl_nil).shaped
      refine ⟨_, _, (hv.same SH5).dp, .tup (.inl (.inl upd_same)) .nil, fl, fl0, ?_⟩
      have ev : (PyData.tuple (ts.map Tk.d)).eqv (PyData.tuple []) = false := by
        cases ts with
        | nil => exact absurd rfl ne
        | cons t ts => rfl
      rw [ev]
      refine ⟨_, rfl, andT rfl ?_⟩
      obtain ⟨dx6, o6, ut6, k6, FS6, G6, P6⟩ := hp.at_.setWork SH5 (hw.at_.same S5) hw.new
      refine ⟨_, rfl, _, rfl, p, _, dx6, _, rfl, k6, c_Processor T, n_Processor_own_work T, by show 2 < 1000; decide, ?_⟩
      refine ⟨by show 0 ≤ sizeLine; decide, fun u hu => ?_⟩
      have S7 := same_new (o := .tup []) hu
      obtain ⟨dx8, o8, ut8, k8, FS8, P8⟩ := (P6.same S7).setUnd (und' := []) (td_empty upd_same)
      refine ⟨_, rfl, p, _, dx8, _, rfl, k8, c_Processor T, n_Processor_own_undone T, by show 2 < 1000; decide, ?_⟩
      have FA := FS6.trans2 G6 ((Fr.of _ S7).trans FS8)
      have pl : l ≠ p := fun e => by rw [e] at hacc; rw [S4 _ _ h1] at hacc; cases hacc
      have lu : l ≠ u := ne_of_none (by rw [upd_ne pl]; exact S5 _ _ hacc) hu
      refine ⟨_, rfl, l, acc, rfl, .inl ⟨.inl (.inl (by rw [upd_ne pl, upd_ne lu, upd_ne pl]; exact S5 _ _ hacc)), fun t ht => ?_⟩⟩
      have S9 := same_new (o := .tup acc) ht
      have ez : z'.calls = z.calls ++ loadCls ts := replayF_calls hz
      have ok' : PrOk b z' [] := by
        refine prOk_none ?_
        rw [ez, replay_append, hp.ok.log]
        exact hz
      exact qq _ (p :: Si) t (FA.step S9) G6 ((hp.to FA G6 P8 ok').step S9)
end
end Tb
set_option Elab.async false
set_option linter.all false
set_option maxRecDepth 100000
set_option maxHeartbeats 4000000
/-! Trials. -/
namespace Tb
open PySem PySem.Spec PyProof.Rows L2
section
variable {P : Program} {w : World} {K : PySem.W.Frag} {mg : Str → Option Value} {base : Heap}
theorem Fr.up {T : List Addr} {H H1 : Hp} {a : Addr} {o u : HO} (f : Fr T H H1) (h : H1 a = some o) (s : Soft o) (m : a ∈ T) : Fr T H (upd H1 a u) := f.trans (Fr.wr h s m)
def fldsOf : HO → Nat
  | .ins _ _ fs => fs.length
  | _ => 0
theorem ne_flds {H : Hp} {a b : Addr} {o u : HO} (ha : H a = some o) (hb : H b = some u) (n : fldsOf o ≠ fldsOf u) : a ≠ b := fun e => by
  subst e
  rw [ha] at hb
  exact n (congrArg fldsOf (Option.some.inj hb))
abbrev trialO (K : PySem.W.Frag) (dt p : Addr) (o ut : V) : HO := .ins (He.ga K "Trial") dt [("own_processor", .ref p), ("own_work", o), ("own_undone", ut)]
abbrev procO (K : PySem.W.Frag) (dx o ut : Addr) : HO := .ins (He.ga K "Processor") dx [("own_work", .ref o), ("own_undone", .ref ut)]
def sp_Trial___init__ (K : PySem.W.Frag) : Sp := fun vs H Q _ => ∃ (t p dt : Addr), vs = [.ref t, .ref p] ∧ H t = some (.ins (He.ga K "Trial") dt []) ∧ ∀ H' e, Fr [t] H H' → H' t = some (trialO K dt p .non (.ref e)) → Q .non H'
theorem k_Trial___init__ (T : Tx K mg base) : Mkr P w K mg base 1 "Trial" (He.ga K "Trial") (sp_Trial___init__ K) := by
  refine mkr_ok (D_Trial___init__ T) (k_Trial T) (g_Trial T) sc_Trial___init__ (fun vs H Q E h => ?_) (fun cdv A outer s H vs Q hr h => ?_)
  · obtain ⟨t, p, dt, rfl, _⟩ := h; rfl
  · obtain ⟨t, p, dt, rfl, ht, qq⟩ := h
    have mt : t ∈ [t] := List.mem_singleton.2 rfl
    refine ⟨_, (pss_cons (ps_fld (pv 0) (pv 1) rfl)
      (pss_cons (ps_fld (pv 0) pe_non rfl)
      (pss_one (ps_fld (pv 0) (pe_tup pa_nil) rfl)))), ?_⟩
    refine ⟨_, rfl, _, rfl, t, _, dt, [], rfl, ht, c_Trial T, n_Trial_own_processor T, by show 0 < 1000; decide, ?_⟩
    refine ⟨_, rfl, t, _, dt, _, rfl, upd_same, c_Trial T, n_Trial_own_work T, by show 1 < 1000; decide, ?_⟩
    refine ⟨by show 0 ≤ sizeLine; decide, fun u hu => ?_⟩
    have tu : t ≠ u := ne_of_none upd_same hu
    refine ⟨_, rfl, t, _, dt, _, rfl, by rw [upd_ne tu]; exact upd_same, c_Trial T, n_Trial_own_undone T, by show 2 < 1000; decide, ?_⟩
    refine qq _ u (Fr.up (o := .ins (He.ga K "Trial") dt (putF "own_work" .non (putF "own_processor" (.ref p) []))) (Fr.trans (Fr.up (o := .ins (He.ga K "Trial") dt (putF "own_processor" (.ref p) [])) (Fr.up (Fr.refl _ _) ht trivial mt) upd_same trivial mt) (Fr.lay hu)) ?_ trivial mt) upd_same
    rw [upd_ne tu]
    exact upd_same
def sp_Processor_trial (K : PySem.W.Frag) : Sp := fun vs H Q _ => ∃ (p : Addr), vs = [.ref p] ∧ ∀ H' t dt e, Same H H' → H t = none → H' t = some (trialO K dt p .non (.ref e)) → Q (.ref t) H'
theorem k_Processor_trial (T : Tx K mg base) : Mth P w K mg base 3 (He.ga K "Processor") "trial" (sp_Processor_trial K) := by
  refine mth_ok (D_Processor_trial T) (c_Processor T) (m_Processor_trial T) sc_Processor_trial (fun vs H Q E h => ?_) (fun cdv A outer s H vs Q hr h => ?_)
  · obtain ⟨p, rfl, _⟩ := h; rfl
  · obtain ⟨p, rfl, qq⟩ := h
    refine ⟨_, (pss_one (ps_ret (pe_k (k_Trial___init__ T) hr (by decide) rfl (pa_cons (pv 0) pa_nil)))), ?_⟩
    refine ⟨_, rfl, ?_⟩
    intro y dy hy hdy hne
    refine ⟨y, p, dy, rfl, upd_same, fun H' e F1 h1 => ⟨rfl, ?_⟩⟩
    exact qq _ y dy e (made_same F1 hy hdy) hy h1
def sp_Trial___enter__ (K : PySem.W.Frag) : Sp := fun vs H Q _ => ∃ (H0 : Hp) (t p ba dt dx o ut : Addr) (e : V) (b : Bk) (z : Wk) (So : List Addr), vs = [.ref t] ∧ H t = some (trialO K dt p .non e) ∧ H p = some (procO K dx o ut) ∧ WorkIn K H0 H o ba b z So ∧ t ∉ So ∧ p ∉ So ∧ H0 t = none ∧
  ∀ H' o' So', Fr [t, p] H H' → H' t = some (trialO K dt p (.ref o) (.ref ut)) → H' p = some (procO K dx o' ut) → WorkAt K H' o' ba z So' → (∀ a ∈ So', H a = none) → Q (.ref p) H'
theorem k_Trial___enter__ (T : Tx K mg base) : Spc P w K mg base 9 (He.ga K "Trial") "__enter__" (sp_Trial___enter__ K) := by
  refine spc_ok (D_Trial___enter__ T) (x_Trial___enter__ T) sc_Trial___enter__ (fun vs H Q E h => ?_) (fun cdv A outer s H vs Q hr h => ?_)
  · obtain ⟨H0, t, p, ba, dt, dx, o, ut, e, b, z, So, rfl, _⟩ := h; rfl
  · obtain ⟨H0, t, p, ba, dt, dx, o, ut, e, b, z, So, rfl, ht, hp, hw, nt, np, n0, qq⟩ := h
    have tp : t ≠ p := ne_flds ht hp (by show 3 ≠ 2; decide)
    refine ⟨_, (pss_cons (ps_fld (pv 0) (pe_fld (pe_fld (pv 0) rfl) rfl) rfl)
      (pss_cons (ps_fld (pv 0) (pe_fld (pe_fld (pv 0) rfl) rfl) rfl)
      (pss_cons (ps_fld (pe_fld (pv 0) rfl) (pe_m0 (k_Work_branch T) hr (by decide) (pe_fld (pv 0) rfl)) rfl)
      (pss_one (ps_ret (pe_fld (pv 0) rfl)))))), ?_⟩
    refine ⟨_, rfl, t, _, dt, _, .ref p, rfl, ht, c_Trial T, n_Trial_own_processor T, rfl, p, _, dx, _, .ref o, rfl, hp, c_Processor T, n_Processor_own_work T, rfl, ?_⟩
    refine ⟨_, rfl, t, _, dt, _, rfl, ht, c_Trial T, n_Trial_own_work T, by show 3 < 1000; decide, ?_⟩
    refine ⟨_, rfl, t, _, dt, _, .ref p, rfl, upd_same, c_Trial T, n_Trial_own_processor T, rfl, p, _, dx, _, .ref ut, rfl, by rw [upd_ne tp.symm]; exact hp, c_Processor T, n_Processor_own_undone T, rfl, ?_⟩
    refine ⟨_, rfl, t, _, dt, _, rfl, upd_same, c_Trial T, n_Trial_own_undone T, by show 3 < 1000; decide, ?_⟩
    have mt : t ∈ [t, p] := List.mem_cons_self
    have mp : p ∈ [t, p] := List.mem_cons_of_mem _ List.mem_cons_self
    generalize hh : upd (upd H t (.ins (He.ga K "Trial") dt (putF "own_work" (.ref o) [("own_processor", .ref p), ("own_work", .non), ("own_undone", e)]))) t (.ins (He.ga K "Trial") dt (putF "own_undone" (.ref ut) (putF "own_work" (.ref o) [("own_processor", .ref p), ("own_work", .non), ("own_undone", e)]))) = H2
    have F2 : Fr [t] H H2 := by
      rw [← hh]
      exact Fr.up (o := .ins (He.ga K "Trial") dt (putF "own_work" (.ref o) [("own_processor", .ref p), ("own_work", .non), ("own_undone", e)])) (Fr.up (Fr.refl _ _) ht trivial (List.mem_singleton.2 rfl)) upd_same trivial (List.mem_singleton.2 rfl)
    have t2 : H2 t = some (trialO K dt p (.ref o) (.ref ut)) := by rw [← hh]; exact upd_same
    have p2 : H2 p = some (procO K dx o ut) := F2.keep _ _ hp fun m => tp (List.mem_singleton.1 m).symm
    have w2 : WorkIn K H0 H2 o ba b z So := ⟨hw.at_.fr F2 fun a ha m => nt (by rw [← List.mem_singleton.1 m]; exact ha), hw.bk.fr F2 fun x hx => by rw [List.mem_singleton.1 hx]; exact n0, hw.bo, hw.new, hw.ok⟩
    clear hh
    obtain ⟨dw, c, wl, tl, ol, cl, Sc, g1, _⟩ := w2.at_.head
    refine ⟨_, rfl, t, _, dt, _, .ref o, rfl, t2, c_Trial T, n_Trial_own_work T, rfl, o, dw, _, rfl, g1, rfl, H0, o, ba, b, z, So, rfl, w2, fun H3 o' S3 s3 W3 N3 => ?_⟩
    refine ⟨_, rfl, t, _, dt, _, .ref p, rfl, s3 _ _ t2, c_Trial T, n_Trial_own_processor T, rfl, p, _, dx, _, rfl, s3 _ _ p2, c_Processor T, n_Processor_own_work T, by show 2 < 1000; decide, ?_⟩
    refine ⟨_, rfl, t, _, dt, _, .ref p, rfl, by rw [upd_ne tp]; exact s3 _ _ t2, c_Trial T, n_Trial_own_processor T, rfl, ?_⟩
    have np3 : p ∉ S3 := fun m => by have := N3 p m; rw [p2] at this; cases this
    have F4 := Fr.wr (T := [p]) (u := procO K dx o' ut) (s3 _ _ p2) trivial (List.mem_singleton.2 rfl)
    refine qq _ o' S3 (Fr.up ((F2.step s3).mono fun a m => by rw [List.mem_singleton.1 m]; exact mt) (s3 _ _ p2) trivial mp) (by rw [upd_ne tp]; exact s3 _ _ t2) upd_same (W3.fr F4 fun a ha m => np3 (by rw [← List.mem_singleton.1 m]; exact ha)) fun a ha => ?_
    refine F2.gone (N3 a ha) fun m => ?_
    have := N3 a ha
    rw [List.mem_singleton.1 m, t2] at this
    cases this
def sp_Trial___exit__ (K : PySem.W.Frag) : Sp := fun vs H Q _ => ∃ (t p dt dx o ut o2 ut2 : Addr), vs = [.ref t, .non, .non, .non] ∧ H t = some (trialO K dt p (.ref o) (.ref ut)) ∧ H p = some (procO K dx o2 ut2) ∧ Q .non (upd (upd H p (procO K dx o ut2)) p (procO K dx o ut))
theorem k_Trial___exit__ (T : Tx K mg base) : Spc P w K mg base 9 (He.ga K "Trial") "__exit__" (sp_Trial___exit__ K) := by
  refine spc_ok (D_Trial___exit__ T) (x_Trial___exit__ T) sc_Trial___exit__ (fun vs H Q E h => ?_) (fun cdv A outer s H vs Q hr h => ?_)
  · obtain ⟨t, p, dt, dx, o, ut, o2, ut2, rfl, _⟩ := h; rfl
  · obtain ⟨t, p, dt, dx, o, ut, o2, ut2, rfl, ht, hp, qq⟩ := h
    have tp : t ≠ p := ne_flds ht hp (by show 3 ≠ 2; decide)
    refine ⟨_, (pss_cons (ps_fld (pe_fld (pv 0) rfl) (pe_fld (pv 0) rfl) rfl)
      (pss_one (ps_fld (pe_fld (pv 0) rfl) (pe_fld (pv 0) rfl) rfl))), ?_⟩
    refine ⟨_, rfl, t, _, dt, _, .ref o, rfl, ht, c_Trial T, n_Trial_own_work T, rfl, _, rfl, t, _, dt, _, .ref p, rfl, ht, c_Trial T, n_Trial_own_processor T, rfl, p, _, dx, _, rfl, hp, c_Processor T, n_Processor_own_work T, by show 2 < 1000; decide, ?_⟩
    have t2 : upd H p (procO K dx o ut2) t = some (trialO K dt p (.ref o) (.ref ut)) := by rw [upd_ne tp]; exact ht
    exact ⟨_, rfl, t, _, dt, _, .ref ut, rfl, t2, c_Trial T, n_Trial_own_undone T, rfl, _, rfl, t, _, dt, _, .ref p, rfl, t2, c_Trial T, n_Trial_own_processor T, rfl, p, _, dx, _, rfl, upd_same, c_Processor T, n_Processor_own_undone T, by show 2 < 1000; decide, qq⟩
def sp_Processor_during (K : PySem.W.Frag) (mk : Addr → NdefX.NF) (e : Expr) (spL : Sp) : Sp := fun vs H Q _ => ∃ (H0 : Hp) (p ba f c' : Addr) (b : Bk) (z : Wk) (und : List Cl) (S : List Addr), vs = [.ref p, .ref f] ∧ H f = some (LamO f (mk c') e) ∧ H (mk c').c = some (LamX.CodeO (mk c').c (mk c').qual) ∧ ProcIn K H0 H p ba b z und S ∧
  (∀ H1 S1 (QQ : VK), ProcIn K H0 H1 p ba b z und S1 → (∀ H2 S2 z2 und2 v, Fr S1 H1 H2 → Grow H1 S1 S2 → ProcAt K H2 p ba z2 und2 S2 → QQ v H2) → spL [.ref p] H1 QQ E0) ∧
  ∀ H' v, Fr S H H' → ProcIn K H0 H' p ba b z und S → Q v H'
theorem k_Processor_during {kL : Nat} {mk : Addr → NdefX.NF} {e : Expr} {spL : Sp} (T : Tx K mg base) (L : ∀ c', LamR P w K mg base kL (mk c') e spL) (hk : kL ≤ 14) : Mth P w K mg base 15 (He.ga K "Processor") "during" (sp_Processor_during K mk e spL) := by
  refine mth_ok (D_Processor_during T) (c_Processor T) (m_Processor_during T) sc_Processor_during (fun vs H Q E h => ?_) (fun cdv A outer s H vs Q hr h => ?_)
  · obtain ⟨H0, p, ba, f, c', b, z, und, S, rfl, _⟩ := h; rfl
  · obtain ⟨H0, p, ba, f, c', b, z, und, S, rfl, hf, hc, hp, hL, qq⟩ := h
    obtain ⟨dx, o, ut, So, h1, h2, h3, hS, hpS, set⟩ := hp.at_.head
    have hw := hp.work h2 hS
    refine ⟨_, pss_one (ps_with (i := 2) (k_Trial___enter__ T) (k_Trial___exit__ T) hr (by decide) sc_Processor_during.nd rfl (Or.inl rfl) (pe_m0 (k_Processor_trial T) hr (by decide) (pv 0)) (pss_one (ps_ret (pe_callLam (i := 1) (L c') (hr.mono hk) rfl (Or.inl rfl) (pa_cons (pv 2) pa_nil))))), ?_⟩
    refine ⟨_, rfl, p, dx, _, rfl, h1, rfl, p, rfl, fun H1 t dt e1 S1 t0 t1 => ?_⟩
    have tS : ∀ a, H a ≠ none → a ≠ t := fun a ha e => ha (by rw [e]; exact t0)
    have w1 := hw.step S1
    have pS : ∀ a ∈ So, H a ≠ none := fun a ha => h2.live a ha
    refine ⟨t, dt, _, rfl, t1, H0, t, p, ba, dt, dx, o, ut, .ref e1, b, z, So, rfl, t1, S1 _ _ h1, w1, fun m => tS t (pS t m) rfl, hpS, none_back hp.bk.same t0, fun H2 o' S2 F2 t2 p2 W2 N2 => ?_⟩
    have N2H : ∀ a ∈ S2, H a = none := fun a ha => none_back S1 (N2 a ha)
    have np2 : p ∉ S2 := fun m => by have := N2H p m; rw [h1] at this; cases this
    have nt2 : t ∉ S2 := fun m => by have := N2 t m; rw [t1] at this; cases this
    have tp : t ≠ p := fun e => tS p (by rw [h1]; exact nofun) e.symm
    have K2 : ∀ a ob, H a = some ob → a ≠ p → H2 a = some ob := fun a ob ea na => F2.keep a ob (S1 _ _ ea) fun m => by
      rcases List.mem_cons.1 m with m | m
      · exact tS a (by rw [ea]; exact nofun) m
      · exact na (List.mem_singleton.1 m)
    have FA2 : Fr [p] H H2 := ⟨fun a ob ea n => K2 a ob ea fun m => n (by rw [m]; exact List.mem_singleton.2 rfl), fun a xs ea => F2.tup a xs (S1 _ _ ea), fun a ob u ea => F2.frz a ob u (S1 _ _ ea)⟩
    have n0p : ∀ x ∈ [p], H0 x = none := fun x hx => by rw [List.mem_singleton.1 hx]; exact hp.new p (by rw [hS]; exact List.mem_cons_self)
    have I2 : ProcIn K H0 H2 p ba b z und (p :: S2) := ⟨⟨⟨dx, o', ut, S2, p2, W2, h3.fr FA2, rfl⟩, List.nodup_cons.2 ⟨np2, W2.nd⟩⟩, hp.bk.fr FA2 n0p, hp.bo, fun a ha => by
      rcases List.mem_cons.1 ha with rfl | ha
      · exact n0p _ (List.mem_singleton.2 rfl)
      · exact none_back hp.bk.same (N2H a ha), hp.ok⟩
    have fp : f ≠ p := fun e => by rw [e, h1] at hf; cases hf
    have cp : (mk c').c ≠ p := fun e => by rw [e, h1] at hc; cases hc
    have hf2 := K2 _ _ hf fp
    have hc2 := K2 _ _ hc cp
    refine ⟨f, rfl, hf2, _, rfl, hf2, hc2, hL H2 (p :: S2) _ I2 fun H3 S3 z3 und3 v F3 G3 P3 => ?_⟩
    obtain ⟨dx3, o3, ut3, So3, k1, _⟩ := P3.head
    have t3 := F3.keep _ _ t2 fun m => (List.mem_cons.1 m).elim tp nt2
    refine ⟨t, p, dt, dx3, o, ut, o3, ut3, rfl, t3, k1, ?_⟩
    have off2 : ∀ a, H a ≠ none → a ≠ p → a ∉ p :: S2 := fun a ha na m => (List.mem_cons.1 m).elim na fun m => ha (N2H a m)
    have F4 : Fr [p] H3 (upd (upd H3 p (procO K dx3 o ut3)) p (procO K dx3 o ut)) := Fr.up (o := procO K dx3 o ut3) (Fr.wr k1 trivial (List.mem_singleton.2 rfl)) upd_same trivial (List.mem_singleton.2 rfl)
    have FA : Fr [p] H (upd (upd H3 p (procO K dx3 o ut3)) p (procO K dx3 o ut)) := ⟨fun a ob ea n => by
      have na : a ≠ p := fun m => n (by rw [m]; exact List.mem_singleton.2 rfl)
      exact F4.keep _ _ (F3.keep _ _ (K2 a ob ea na) (off2 a (by rw [ea]; exact nofun) na)) n, fun a xs ea => F4.tup _ _ (F3.tup _ _ (FA2.tup _ _ ea)), fun a ob u ea => F4.frz _ _ _ (F3.frz _ _ _ (FA2.frz _ _ _ ea))⟩
    refine qq _ v (FA.mono fun a m => by rw [List.mem_singleton.1 m, hS]; exact List.mem_cons_self) ⟨⟨⟨dx3, o, ut, So, upd_same, h2.fr FA fun a ha m => hpS (by rw [← List.mem_singleton.1 m]; exact ha), h3.fr FA, hS⟩, hp.at_.nd⟩, hp.bk.fr FA n0p, hp.bo, hp.new, hp.ok⟩
end
end Tb
set_option Elab.async false
set_option linter.all false
set_option maxRecDepth 100000
set_option maxHeartbeats 4000000
/-! Data: what is shown of it fits. -/
namespace Tb
open PySem PySem.Spec PyProof.Rows L2
structure Rp (n w : Nat) (d : PyData) : Prop where
  fl : Fl n d
  wt : d.weight ≤ w
  sh : d.intsShort 13 = true
  ok : d.showable = true
theorem rpAll {n w : Nat} : ∀ {ds : List PyData}, (∀ d ∈ ds, Rp n w d) → PyData.weightAll ds ≤ (w + 1) * ds.length ∧ PyData.intsShortAll 13 ds = true ∧ PyData.showableAll ds = true
  | [], _ => ⟨by unfold PyData.weightAll; exact Nat.zero_le _, by unfold PyData.intsShortAll; rfl, by unfold PyData.showableAll; rfl⟩
  | d :: ds, h => by
    have h1 := h d List.mem_cons_self
    have h2 := rpAll fun e he => h e (List.mem_cons_of_mem _ he)
    have w1 := h1.wt
    have w2 := h2.1
    refine ⟨?_, ?_, ?_⟩
    · unfold PyData.weightAll
      rw [List.length_cons, Nat.mul_add, Nat.mul_one]
      omega
    · unfold PyData.intsShortAll; rw [h1.sh, h2.2.1]; rfl
    · unfold PyData.showableAll; rw [h1.ok, h2.2.2]; rfl
theorem Rp.mono {m n v w : Nat} {d : PyData} (h : Rp m v d) (k : m ≤ n) (l : v ≤ w) : Rp n w d := ⟨h.fl.mono k, Nat.le_trans h.wt l, h.sh, h.ok⟩
theorem Rp.tup {n w k : Nat} {ds : List PyData} (h : ∀ d ∈ ds, Rp n w d) (hl : ds.length ≤ k) : Rp (n + 1) ((w + 1) * k) (.tuple ds) := by
  have a := rpAll h
  exact ⟨Fl.tup fun d hd => (h d hd).fl, by unfold PyData.weight; exact Nat.le_trans a.1 (Nat.mul_le_mul_left _ hl), by unfold PyData.intsShort; exact a.2.1, by unfold PyData.showable; exact a.2.2⟩
theorem Rp.int {n : Nat} (i : Nat) (h : i < 1000) : Rp n 10 (.int i) := by
  have hlog : i.log2 ≤ 9 := by
    rcases Nat.eq_zero_or_pos i with rfl | hp
    · decide
    · have := (Nat.log2_lt (n := i) (k := 10) (by omega)).2 (by omega)
      omega
  refine ⟨Fl.int _, ?_, ?_, ?_⟩
  · unfold PyData.weight
    split
    · exact Nat.zero_le _
    · show ((i : Int).natAbs).log2 + 1 ≤ 10
      rw [Int.natAbs_natCast]
      omega
  · unfold PyData.intsShort
    refine decide_eq_true (PyData.shown_int_le ?_)
    rw [Int.natAbs_natCast]
    exact Nat.lt_trans h (by decide)
  · unfold PyData.showable
    refine decide_eq_true ?_
    rw [Int.natAbs_natCast]
    omega
theorem Rp.str {n w : Nat} (x : Str) (hw : x.cps.size ≤ w) (h : PyData.strOk x = true) : Rp n w (.str x) := ⟨Fl.str x h, by unfold PyData.weight; exact hw, by unfold PyData.intsShort; rfl, by unfold PyData.showable; rfl⟩
theorem Rp.non {n w : Nat} : Rp n w .none := ⟨Fl.non, by unfold PyData.weight; exact Nat.zero_le _, by unfold PyData.intsShort; rfl, by unfold PyData.showable; rfl⟩
theorem rp_cons {n w : Nat} {d : PyData} {ds : List PyData} (h : Rp n w d) (t : ∀ e ∈ ds, Rp n w e) : ∀ e ∈ d :: ds, Rp n w e := fun e he => by
  rcases List.mem_cons.1 he with rfl | he
  · exact h
  · exact t e he
theorem rp_nil {n w : Nat} : ∀ e ∈ ([] : List PyData), Rp n w e := fun _ h => absurd h List.not_mem_nil
theorem rp_map {α : Type} {n w : Nat} {f : α → PyData} {xs : List α} (h : ∀ x ∈ xs, Rp n w (f x)) : ∀ e ∈ xs.map f, Rp n w e := fun e he => by
  obtain ⟨x, hx, rfl⟩ := List.mem_map.1 he
  exact h x hx
theorem rp_left {n : Nat} (k : Option Nat) (h : ∀ j, k = some j → j < 1000) : Rp n 10 (leftD k) := by
  cases k with
  | none => exact Rp.non
  | some j => exact Rp.int j (h j rfl)
theorem Post.rp (p : Post) (h : ∀ m l k, p = .st m l k → l < 1000 ∧ ∀ j, k = some j → j < 1000) : Rp 1 33 p.d := by
  cases p with
  | ended => exact (Rp.tup (k := 1) (w := 10) (rp_cons (Rp.str _ (by decide) (by decide +kernel)) rp_nil) (Nat.le_refl _)).mono (Nat.le_refl _) (by decide)
  | st m l k => exact Rp.tup (k := 3) (w := 10) (rp_cons (Rp.str _ (by cases m <;> decide) (by cases m <;> decide +kernel)) (rp_cons (Rp.int _ (h m l k rfl).1) (rp_cons (rp_left k (h m l k rfl).2) rp_nil))) (Nat.le_refl _)
/-- the shown text fits -/
theorem Rp.fits {n w : Nat} {d : PyData} (h : Rp n w d) (hn : n ≤ 64) (hw : w ≤ 2 ^ 20) : PyData.layable0 d = true ∧ d.showable = true ∧ d.shown.length ≤ sizeLine := by
  have hl : PyData.layable0 d = true := by
    show (PyData.canLay0 d && decide (PyData.depth d ≤ 64) && decide (PyData.weight d ≤ 2 ^ 20)) = true
    rw [h.fl.1, decide_eq_true (Nat.le_trans h.fl.2 hn), decide_eq_true (Nat.le_trans h.wt hw)]
    rfl
  exact ⟨hl, h.ok, PyData.shown_fits_of_layable0 (by decide) (by decide) hl h.sh⟩
end Tb
set_option Elab.async false
set_option linter.all false
set_option maxRecDepth 100000
set_option maxHeartbeats 4000000
/-! What a processor shows. -/
namespace Tb
open PySem PySem.Spec PyProof.Rows L2
def isReady : Post → Bool
  | .st .ready _ _ => true
  | _ => false
def strP (n r : Nat) : Str := ((((Str.empty ++ ("processor with " : Str)) ++ (toString (n : Int) : Str)) ++ (" tasks, " : Str)) ++ (toString (r : Int) : Str)) ++ (" ready" : Str)
theorem strP_ok {n r : Nat} (hn : n ≤ 12) (hr : r ≤ 12) : PyData.strOk (strP n r) = true ∧ (strP n r).cps.size ≤ 60 := by
  have h : ∀ n ∈ List.range 13, ∀ r ∈ List.range 13, PyData.strOk (strP n r) = true ∧ (strP n r).cps.size ≤ 60 := by decide +kernel
  exact h n (List.mem_range.2 (by omega)) r (List.mem_range.2 (by omega))
theorem str_short {x : Str} (h : x.cps.size ≤ 60) : x.length ≤ sizeLine := Nat.le_trans (show x.cps.size ≤ _ from h) (by decide)
theorem posts_at {K : PySem.W.Frag} {H : Hp} {xs : List V} {ps : List Post} (t : Tds K H xs (ps.map Post.d)) {i : Nat} {v : V} (h : xs[i]? = some v) : ∃ p, ps[i]? = some p ∧ Td K H v p.d := by
  have hlt : i < ps.length := by
    have := (List.getElem?_eq_some_iff.1 h).1
    rw [t.len, List.length_map] at this
    exact this
  obtain ⟨v', hv, td⟩ := t.get (i := i) (d := ps[i].d) (by rw [List.getElem?_map, List.getElem?_eq_getElem hlt]; rfl)
  rw [h] at hv
  cases hv
  exact ⟨ps[i], List.getElem?_eq_getElem hlt, td⟩
theorem countP_take {α : Type} (f : α → Bool) {l : List α} {i : Nat} {a : α} (h : l[i]? = some a) : (l.take (i + 1)).countP f = (l.take i).countP f + (if f a then 1 else 0) := by
  rw [List.take_succ, h, List.countP_append]
  simp [List.countP_cons]
section
variable {P : Program} {w : World} {K : PySem.W.Frag} {mg : Str → Option Value} {base : Heap}
def sp_Processor___str__ (K : PySem.W.Frag) : Sp := fun vs H Q _ => ∃ (H0 : Hp) (p ba : Addr) (b : Bk) (z : Wk) (und : List Cl) (S : List Addr), vs = [.ref p] ∧ ProcIn K H0 H p ba b z und S ∧ ∀ H', Same H H' → Q (.str (strP z.crs.tasks.length (z.crs.tasks.countP isReady))) H'
theorem k_Processor___str__ (T : Tx K mg base) : Spc P w K mg base 1 (He.ga K "Processor") "__str__" (sp_Processor___str__ K) := by
  refine spc_ok (D_Processor___str__ T) (x_Processor___str__ T) sc_Processor___str__ (fun vs H Q E h => ?_) (fun cdv A outer s H vs Q hr h => ?_)
  · obtain ⟨H0, p, ba, b, z, und, S, rfl, _⟩ := h; rfl
  · obtain ⟨H0, p, ba, b, z, und, S, rfl, hp, qq⟩ := h
    obtain ⟨dx, o, ut, dw, c, wl, tl, ol, cl, dc, ctl, cq, Sc, Sq, So, h1, h2, h3, h4, ⟨xs, h5, h6⟩, _⟩ := hp.parts
    have lx : xs.length = z.crs.tasks.length := by rw [h6.len, List.length_map]
    have few := h4.ok.few
    have fewR : z.crs.tasks.countP isReady ≤ 12 := Nat.le_trans List.countP_le_length few
    have so := strP_ok few fewR
    refine ⟨_, (pss_cons (ps_set (i := 1) sc_Processor___str__.nd rfl (Or.inl rfl) (pe_fld (pe_fld (pv 0) rfl) rfl))
      (pss_cons (ps_set (i := 2) sc_Processor___str__.nd rfl (Or.inl rfl) (pe_callB call_len_seq rfl (f_len T) b_len (pa_cons (pe_lc (own := [("task", 3)]) rfl sc_Processor___str__.nd (pi_list (pe_fld (pv 1) rfl)) (blkOk_by (own := [("task", 3)]) (N := N_Processor___str__) (sc := C8.fnScope s_Processor___str__) (by decide +kernel)) (fun _ _ _ _ _ => (pg_name (i := 3) sc_Processor___str__.nd rfl (Or.inl rfl))) (fun _ _ _ _ _ => (pts_one (pt_cmpR op_eq (pe_ix (ix_tupK (K := K) rfl) (pv 3) pe_int (fun _ _ => rfl)) (C8.pe_gc rfl (v_READY T)) (nomark _)))) (fun _ _ _ _ _ => (pv 3))) pa_nil) (by decide) (by decide)))
      (pss_one (ps_ret (pe_joined (PJ.cons pe_str (PJ.cons (pe_fmt (pe_callB call_len_seq rfl (f_len T) b_len (pa_cons (pe_fld (pv 1) rfl) pa_nil) (by decide) (by decide))) (PJ.cons pe_str (PJ.cons (pe_fmt (pv 2)) (PJ.cons pe_str PJ.nil)))))))))), ?_⟩
    refine ⟨_, rfl, p, _, dx, _, .ref o, rfl, h1, c_Processor T, n_Processor_own_work T, rfl, o, _, dw, _, .ref c, rfl, h2, c_Work T, n_Work_own_course T, rfl, ?_⟩
    refine ⟨_, rfl, c, _, dc, _, .ref ctl, rfl, h3, c_Course T, n_Course_own_tasks T, rfl, ctl, rfl, ⟨_, .inl (.inl h5)⟩, fun D hD => ?_⟩
    have S0 := same_new (o := .lst []) hD
    refine lc_it (walk_list (xs := xs)) (fun i H2 => Same H H2 ∧ ∃ acc, H2 D = some (.lst acc) ∧ acc.length = (z.crs.tasks.take i).countP isReady) ⟨S0, [], upd_same, by rw [List.take_zero]; rfl⟩ (fun i H2 _ h => .inl (.inl (h.1 _ _ h5))) ?_ ?_
    · rintro i x H2 H3 hi ⟨S2, acc, hacc, lacc⟩ ⟨rfl, hx⟩
      obtain ⟨po, hpo, td⟩ := posts_at h6 hx
      have ct := countP_take isReady hpo
      have td := td.same S2
      refine ⟨rfl, ?_⟩
      have add : ∀ y, isReady po = true → ∃ acc', H3 D = some (.lst acc') ∧ acc'.length < sizeLine ∧ (Same H (upd H3 D (.lst (acc' ++ [y]))) ∧ ∃ acc2, upd H3 D (.lst (acc' ++ [y])) D = some (.lst acc2) ∧ acc2.length = (z.crs.tasks.take (i + 1)).countP isReady) := fun y hr => by
        refine ⟨acc, hacc, ?_, fun a ob e => by rw [upd_ne (ne_of_none e hD)]; exact S2 _ _ e, _, upd_same, ?_⟩
        · rw [lacc]
          exact Nat.lt_of_le_of_lt (Nat.le_trans (List.countP_le_length) (by rw [List.length_take]; exact Nat.le_trans (Nat.min_le_right _ _) few)) (by decide)
        · rw [List.length_append, lacc, ct, if_pos hr]
          rfl
      have keep : isReady po = false → (Same H H3 ∧ ∃ acc2, H3 D = some (.lst acc2) ∧ acc2.length = (z.crs.tasks.take (i + 1)).countP isReady) := fun hr => ⟨S2, acc, hacc, by rw [lacc, ct, hr]; rfl⟩
      cases po with
      | ended =>
        obtain ⟨a, rfl, ha⟩ := td.ended
        exact ⟨_, rfl, a, _, _, _, rfl, rfl, ha, atI_nat (j := 0) rfl, rfl, false, by decide +kernel, andF rfl (keep rfl)⟩
      | st m l k =>
        obtain ⟨a, rfl, ha⟩ := td.post
        refine ⟨_, rfl, a, _, _, _, rfl, rfl, ha, atI_nat (j := 0) rfl, rfl, ?_⟩
        cases m with
        | asleep => exact ⟨false, by decide +kernel, andF rfl (keep rfl)⟩
        | ready => exact ⟨true, by decide +kernel, andT rfl ⟨_, rfl, add _ rfl⟩⟩
        | runs => exact ⟨false, by decide +kernel, andF rfl (keep rfl)⟩
    · rintro H2 ⟨S2, acc, hacc, lacc⟩
      rw [List.take_of_length_le (by omega)] at lacc
      refine ⟨D, acc, rfl, .inl (.inl (.inl hacc)), ?_⟩
      have lg : ∀ n : Nat, n ≤ 12 → ((n : Int)).natAbs.log2 < 1920 := fun n hn => by
        rw [Int.natAbs_natCast]
        rcases Nat.eq_zero_or_pos n with rfl | hp
        · decide
        · have := (Nat.log2_lt (n := n) (k := 4) (by omega)).2 (by omega)
          omega
      have pre : ∀ x y : Str, (x ++ y).cps.size ≤ 60 → x.cps.size ≤ 60 := fun x y h => by
        have e : (x ++ y).length = x.length + y.length := strLen_append x y
        have h' : (x ++ y).length ≤ 60 := h
        show x.length ≤ 60
        omega
      have e5 := so.2
      have e4 := pre _ _ e5
      have e3 := pre _ _ e4
      have e2 := pre _ _ e3
      have e1 := pre _ _ e2
      rw [lacc]
      refine ⟨_, rfl, str_short e1, ?_⟩
      refine ⟨_, rfl, c, _, dc, _, .ref ctl, rfl, S2 _ _ h3, c_Course T, n_Course_own_tasks T, rfl, ctl, xs, rfl, .inl (.inl (.inl (S2 _ _ h5))), ?_⟩
      rw [lx]
      refine .inr ⟨_, rfl, lg _ few, _, rfl, str_short e2, ?_⟩
      refine ⟨_, rfl, str_short e3, ?_⟩
      refine ⟨_, rfl, .inr ⟨_, rfl, lg _ fewR, _, rfl, str_short e4, ?_⟩⟩
      exact ⟨_, rfl, str_short e5, qq _ S2⟩
end
end Tb
set_option Elab.async false
set_option linter.all false
set_option maxRecDepth 100000
set_option maxHeartbeats 4000000
/-! The mirror: all is small. -/
namespace Tb
open PySem PySem.Spec PyProof.Rows L2
def smallCl : Cl → Prop
  | .cm m => smallCm m
  | .tick _ => True
def smallTold : Told → Prop
  | .task t => t < 1000
  | _ => True
structure WkSm (z : Wk) : Prop where
  cls : ∀ c ∈ z.calls, smallCl c
  wait : ∀ m ∈ z.waiting, smallCm m
  tks : ∀ t ∈ z.ticks, TkSm t
  told : ∀ o ∈ z.told, smallTold o
  com : comers z.ticks + z.waiting.countP isCome = z.crs.tasks.length
theorem wkSm_new (b : Bk) : WkSm (Wk.new b) := ⟨fun _ h => absurd h List.not_mem_nil, fun _ h => absurd h List.not_mem_nil, fun _ h => absurd h List.not_mem_nil, fun _ h => absurd h List.not_mem_nil, rfl⟩
theorem enter_len {b : Bk} {x : Crs} {t : Nat} {e : Ent} {k : Option Nat} : (x.enter b t e k).tasks.length = x.tasks.length := by
  unfold Crs.enter
  rw [List.length_set]
theorem wake_len {b : Bk} {x : Crs} {t : Nat} : (x.wake b t).tasks.length = x.tasks.length := by
  unfold Crs.wake
  split
  · exact enter_len
  · rfl
theorem giveUp_len {b : Bk} {x : Crs} : (x.giveUp b).tasks.length = x.tasks.length := by
  unfold Crs.giveUp
  split
  · rfl
  · split
    · exact enter_len
    · rfl
theorem pick_len {x : Crs} : x.pick.2.tasks.length = x.tasks.length := by
  unfold Crs.pick
  split
  · rfl
  · split <;> rfl
theorem work_len {b : Bk} {x : Crs} {t : Nat} {w : Wd} : (x.work b t w).tasks.length = x.tasks.length := by
  unfold Crs.work
  split
  · exact List.length_set
  · split
    · split
      · exact List.length_set
      · exact List.length_set
    · rfl
theorem tick_len {b : Bk} {x : Crs} {w : Wd} : (x.tick b w).1.tasks.length = x.tasks.length := by
  unfold Crs.tick
  have e : (if x.isTaken b (w == .bell) then x.giveUp b else x).tasks.length = x.tasks.length := by
    split
    · exact giveUp_len
    · rfl
  dsimp only
  generalize (if x.isTaken b (w == .bell) then x.giveUp b else x) = c1 at e
  split
  · exact e
  · have h := pick_len (x := c1)
    cases q : c1.pick with
    | mk o c2 =>
      rw [q] at h
      have h' : c2.tasks.length = c1.tasks.length := h
      cases o with
      | none => exact h'.trans e
      | some t => exact work_len.trans (h'.trans e)
theorem tick_small {b : Bk} (bo : BkOk b) {x : Crs} (h : CrsOk b x) (w : Wd) : smallTold (x.tick b w).2 := by
  unfold Crs.tick
  have h1 : CrsOk b (if x.isTaken b (w == .bell) then x.giveUp b else x) := by
    split
    · exact crsOk_giveUp bo h
    · exact h
  dsimp only
  generalize (if x.isTaken b (w == .bell) then x.giveUp b else x) = c1 at h1
  split
  · trivial
  · have hp := crsOk_pick h1
    cases q : c1.pick with
    | mk o c2 =>
      rw [q] at hp
      cases o with
      | none => trivial
      | some t =>
        have w2 := hp.2 t rfl
        obtain ⟨m, l, k, e, _⟩ := w2.st
        have := (List.getElem?_eq_some_iff.1 e).1
        have := w2.ok.few
        show t < 1000
        omega
theorem can_small {b : Bk} (bo : BkOk b) {x : Crs} (h : CrsOk b x) {m : Cm} (can : canCm b x m = true) : smallCm m := by
  cases m with
  | come r =>
    unfold canCm at can
    rw [Bool.and_eq_true] at can
    have := of_decide_eq_true can.1
    have := bo.rthree
    show r < 1000
    omega
  | wake t =>
    obtain ⟨l, k, e⟩ := asleep_at can
    have := (List.getElem?_eq_some_iff.1 e).1
    have := h.few
    show t < 1000
    omega
theorem letCome_len {b : Bk} {x : Crs} {m : Cm} : (x.letCome b m).tasks.length = x.tasks.length + (if isCome m then 1 else 0) := by
  cases m with
  | come r => exact List.length_append
  | wake t => exact wake_len
theorem wkSm_step {b : Bk} (bo : BkOk b) {z : Wk} (o : WkOk b z) (h : WkSm z) {c : Cl} (can : canDo b z c = true) : WkSm (z.step b c) := by
  cases c with
  | cm m =>
    have can' : canCm b z.crs m = true := canDo_cm (b := b) (x := z) ▸ can
    have sm := can_small bo o.crs can'
    refine ⟨fun c hc => ?_, fun n hn => ?_, h.tks, h.told, ?_⟩
    · rcases List.mem_append.1 (show c ∈ z.calls ++ [Cl.cm m] from hc) with k | k
      · exact h.cls c k
      · rw [List.mem_singleton.1 k]; exact sm
    · rcases List.mem_append.1 (show n ∈ z.waiting ++ [m] from hn) with k | k
      · exact h.wait n k
      · rw [List.mem_singleton.1 k]; exact sm
    · show comers z.ticks + (z.waiting ++ [m]).countP isCome = (z.crs.letCome b m).tasks.length
      rw [List.countP_append, letCome_len, ← h.com, List.countP_singleton]
      omega
  | tick w =>
    refine ⟨fun c hc => ?_, fun n hn => absurd hn List.not_mem_nil, fun t ht => ?_, fun x hx => ?_, ?_⟩
    · rcases List.mem_append.1 (show c ∈ z.calls ++ [Cl.tick w] from hc) with k | k
      · exact h.cls c k
      · rw [List.mem_singleton.1 k]; trivial
    · rcases List.mem_append.1 (show t ∈ z.ticks ++ [(z.waiting, w)] from ht) with k | k
      · exact h.tks t k
      · rw [List.mem_singleton.1 k]
        exact ⟨Nat.le_trans o.few (by decide), h.wait⟩
    · rcases List.mem_append.1 (show x ∈ z.told ++ [(z.crs.tick b w).2] from hx) with k | k
      · exact h.told x k
      · rw [List.mem_singleton.1 k]; exact tick_small bo o.crs w
    · show comers (z.ticks ++ [(z.waiting, w)]) + 0 = (z.crs.tick b w).1.tasks.length
      rw [tick_len, ← h.com]
      unfold comers
      rw [List.map_append, List.sum_append]
      simp
theorem replayF_sm {b : Bk} (bo : BkOk b) : ∀ {cs : List Cl} {w z : Wk}, WkOk b w → WkSm w → replayF b w cs = some z → WkSm z
  | [], w, z, _, o, h => by
    cases h
    exact o
  | c :: cs, w, z, k, o, h => by
    have h' : (if canDo b w c then replayF b (w.step b c) cs else none) = some z := h
    split at h'
    · rename_i can
      exact replayF_sm bo (wkOk_step bo k can) (wkSm_step bo k o can) h'
    · cases h'
theorem replay_sm {b : Bk} (bo : BkOk b) {cs : List Cl} {z : Wk} (h : replay b cs = some z) : WkSm z := replayF_sm bo (wkOk_new bo) (wkSm_new b) h
/-- the load of a log -/
theorem load_sm {b : Bk} (bo : BkOk b) {cs : List Cl} {z : Wk} (h : replay b cs = some z) (few : cs.length ≤ 400) : LoadSm z.ticks := by
  have s := replay_sm bo h
  have o := replay_ok bo h
  have l := replay_calls h
  have := o.tick
  have := s.com
  have := o.crs.few
  rw [l] at *
  exact ⟨by omega, s.tks, by omega⟩
end Tb
set_option Elab.async false
set_option linter.all false
set_option maxRecDepth 100000
set_option maxHeartbeats 4000000
/-! What a processor tells, as a text. -/
namespace Tb
open PySem PySem.Spec PyProof.Rows L2
structure RpL (n w : Nat) (ds : List PyData) : Prop where
  fl : ∀ d ∈ ds, Fl n d
  wt : PyData.weightAll ds ≤ w
  sh : PyData.intsShortAll 13 ds = true
  ok : PyData.showableAll ds = true
theorem RpL.nil {n : Nat} : RpL n 0 [] := ⟨fl_nil, by unfold PyData.weightAll; exact Nat.le_refl _, by unfold PyData.intsShortAll; rfl, by unfold PyData.showableAll; rfl⟩
theorem RpL.cons {n v w : Nat} {d : PyData} {ds : List PyData} (h : Rp n v d) (t : RpL n w ds) : RpL n (v + 1 + w) (d :: ds) :=
  ⟨fl_cons h.fl t.fl, by unfold PyData.weightAll; exact Nat.add_le_add (Nat.add_le_add_right h.wt _) t.wt, by unfold PyData.intsShortAll; rw [h.sh, t.sh]; rfl, by unfold PyData.showableAll; rw [h.ok, t.ok]; rfl⟩
theorem RpL.list {n w : Nat} {ds : List PyData} (t : RpL n w ds) : Rp (n + 1) w (.list ds) := ⟨Fl.list t.fl, by unfold PyData.weight; exact t.wt, by unfold PyData.intsShort; exact t.sh, by unfold PyData.showable; exact t.ok⟩
theorem Cm.rp {c : Cm} (h : smallCm c) : Rp 1 22 c.d := by
  cases c with
  | come r => exact Rp.tup (k := 2) (w := 10) (rp_cons (Rp.str _ (by decide) (by decide +kernel)) (rp_cons (Rp.int _ h) rp_nil)) (Nat.le_refl _)
  | wake t => exact Rp.tup (k := 2) (w := 10) (rp_cons (Rp.str _ (by decide) (by decide +kernel)) (rp_cons (Rp.int _ h) rp_nil)) (Nat.le_refl _)
theorem Wd.rp (w : Wd) {n : Nat} : Rp n 10 (.str w.s) := Rp.str _ (by cases w <;> decide) (by cases w <;> decide +kernel)
theorem Cl.rp {c : Cl} (h : smallCl c) : Rp 1 22 c.d := by
  cases c with
  | cm m => exact Cm.rp h
  | tick w => exact Rp.tup (k := 2) (w := 10) (rp_cons (Rp.str _ (by decide) (by decide +kernel)) (rp_cons (Wd.rp w) rp_nil)) (Nat.le_refl _)
theorem Told.rp {o : Told} (h : smallTold o) {n : Nat} : Rp n 10 o.d := by
  cases o with
  | non => exact Rp.non
  | task t => exact Rp.int t h
  | bell => exact Rp.str _ (by decide) (by decide +kernel)
theorem Tk.rp {t : Tk} (h : TkSm t) : Rp 3 922 (Tk.d t) :=
  Rp.tup (k := 2) (w := 460) (rp_cons ((Rp.tup (k := 20) (w := 22) (rp_map fun m hm => Cm.rp (h.cms m hm)) (by rw [List.length_map]; exact h.few)).mono (Nat.le_refl _) (by decide)) (rp_cons ((Wd.rp t.2).mono (Nat.le_refl _) (by decide)) rp_nil)) (Nat.le_refl _)
def optD (o : Option Nat) : PyData := leftD o
def shownD (b : Bk) (z : Wk) : PyData := .list [.tuple (z.crs.tasks.map Post.d), leftD z.crs.runner, leftD (z.crs.next b), .tuple (z.told.map Told.d), .tuple (z.ticks.map Tk.d), .tuple (z.calls.map Cl.d),
  .tuple (z.crs.queues.flatten.map fun (t : Nat) => PyData.int (t : Int)), .int (z.crs.tasks.length : Nat), .str (strP z.crs.tasks.length (z.crs.tasks.countP isReady))]
def shownS (b : Bk) (z : Wk) : Str := (shownD b z).shown
theorem next_small {b : Bk} {x : Crs} (h : CrsOk b x) : ∀ j, x.next b = some j → j < 1000 := by
  intro j hj
  have few := h.few
  unfold Crs.next at hj
  have run : ∀ t, x.runner = some t → t < 1000 := fun t ht => by
    obtain ⟨l, k, e⟩ := h.run t ht
    have := (List.getElem?_eq_some_iff.1 e).1
    omega
  split at hj
  · exact run j hj
  · split at hj
    · cases hj
    · rename_i l hl
      have hm : j ∈ x.queues.flatten := by
        refine List.mem_flatten.2 ⟨x.queues.getD l [], ?_, List.mem_of_head? hj⟩
        rw [List.getD_eq_getElem?_getD] at hj ⊢
        cases e : x.queues[l]? with
        | none => rw [e] at hj; cases hj
        | some q => exact List.mem_of_getElem? e
      obtain ⟨l', k, e⟩ := h.mem j hm
      have := (List.getElem?_eq_some_iff.1 e).1
      omega
theorem shown_rp {b : Bk} (bo : BkOk b) {z : Wk} (o : WkOk b z) (s : WkSm z) (few : z.calls.length < 400) : Rp 5 400000 (shownD b z) := by
  have ht := o.crs.few
  have ft : z.ticks.length ≤ 400 := by have := o.tick; omega
  have fo : z.told.length ≤ 400 := by rw [o.told]; exact ft
  have r1 : Rp 4 408 (.tuple (z.crs.tasks.map Post.d)) := (Rp.tup (k := 12) (w := 33) (rp_map fun p hp => Post.rp p fun m l k e => by
    obtain ⟨i, hi⟩ := List.mem_iff_getElem?.1 hp
    rw [e] at hi
    have := o.crs.post i m l k hi
    have := bo.three
    refine ⟨by omega, fun j hj => ?_⟩
    have := this
    have := (o.crs.post i m l k hi).2.1 j hj
    omega) (by rw [List.length_map]; exact ht)).mono (by decide) (by decide)
  have r2 : Rp 4 10 (leftD z.crs.runner) := rp_left _ fun j hj => by
    obtain ⟨l, k, e⟩ := o.crs.run j hj
    have := (List.getElem?_eq_some_iff.1 e).1
    omega
  have r3 : Rp 4 10 (leftD (z.crs.next b)) := rp_left _ (next_small o.crs)
  have r4 : Rp 4 4400 (.tuple (z.told.map Told.d)) := (Rp.tup (n := 0) (k := 400) (w := 10) (rp_map fun p hp => Told.rp (s.told p hp)) (by rw [List.length_map]; exact fo)).mono (by decide) (by decide)
  have r5 : Rp 4 369200 (.tuple (z.ticks.map Tk.d)) := (Rp.tup (k := 400) (w := 922) (rp_map fun p hp => Tk.rp (s.tks p hp)) (by rw [List.length_map]; exact ft)).mono (by decide) (by decide)
  have r6 : Rp 4 9200 (.tuple (z.calls.map Cl.d)) := (Rp.tup (k := 400) (w := 22) (rp_map fun p hp => Cl.rp (s.cls p hp)) (by rw [List.length_map]; exact Nat.le_of_lt few)).mono (by decide) (by decide)
  have r7 : Rp 4 132 (.tuple (z.crs.queues.flatten.map fun (t : Nat) => PyData.int (t : Int))) := (Rp.tup (n := 0) (k := 12) (w := 10) (rp_map fun t ht' => Rp.int t (by
    obtain ⟨l, k, e⟩ := o.crs.mem t ht'
    have := (List.getElem?_eq_some_iff.1 e).1
    omega)) (by rw [List.length_map]; exact o.crs.qfew)).mono (by decide) (by decide)
  have r8 : Rp 4 10 (.int (z.crs.tasks.length : Nat)) := Rp.int _ (by omega)
  have so := strP_ok ht (Nat.le_trans List.countP_le_length ht : z.crs.tasks.countP isReady ≤ 12)
  have r9 : Rp 4 60 (.str (strP z.crs.tasks.length (z.crs.tasks.countP isReady))) := Rp.str _ so.2 so.1
  exact (RpL.list (RpL.cons r1 (RpL.cons r2 (RpL.cons r3 (RpL.cons r4 (RpL.cons r5 (RpL.cons r6 (RpL.cons r7 (RpL.cons r8 (RpL.cons r9 RpL.nil)))))))))).mono (by decide) (by decide)
end Tb
set_option Elab.async false
set_option linter.all false
set_option maxRecDepth 100000
set_option maxHeartbeats 4000000
/-! The law's helpers: shown, fresh. -/
namespace Tb
open PySem PySem.Spec PyProof.Rows L2
section
variable {P : Program} {w : World} {K : PySem.W.Frag} {mg : Str → Option Value} {base : Heap}
theorem calg_ok {k : Nat} {x : Str} {st : Stmt} {ps N : List Str} {f : Addr} {sp : Sp} (D : DefAt K x x st ps f) (g : mg x = some (.ref f)) (S : FnScope N ps (C8.fnScope st)) (len : ∀ vs H Q E, sp vs H Q E → vs.length = ps.length)
    (hbody : ∀ (cdv : Value) (A : Around) (outer : List Env) (s : Shared) (H : Hp) (vs : List V) (Q : VK), A.guards = some [] → Room k (A.deeper (envOfC x (C8.fnScope st) s.heap.objs.size f cdv)) → sp vs H Q E0 →
      ∃ t, PSs (cxOf CX0 P w K mg base N x (C8.fnScope st) f cdv A outer s H E0).nox (C8.fnBody st) t ∧ t { nx := fun _ H' => Q .non H', rt := Q } (start N vs) H) : CalG P w K mg base (k + 1) x sp := by
  obtain ⟨fd, F, b⟩ := D
  exact ⟨f, fd, ps, Tb.FunD.okG F S len hbody, g, F.kp, b⟩
theorem td_opt {H : Hp} (o : Option Nat) : Td K H (optV o) (leftD o) := by
  cases o with
  | none => exact .non
  | some t => exact .int _
def sp__law_shown (K : PySem.W.Frag) : Sp := fun vs H Q _ => ∃ (H0 : Hp) (p ba : Addr) (b : Bk) (z : Wk) (und : List Cl) (S : List Addr), vs = [.ref p] ∧ ProcIn K H0 H p ba b z und S ∧ z.calls.length < 400 ∧ ∀ H', Same H H' → Q (.str (shownS b z)) H'
theorem k__law_shown (T : Tx K mg base) : CalG P w K mg base 8 "_law_shown" (sp__law_shown K) := by
  refine calg_ok (D__law_shown T) (g__law_shown T) sc__law_shown (fun vs H Q E h => ?_) (fun cdv A outer s H vs Q hG hr h => ?_)
  · obtain ⟨H0, p, ba, b, z, und, S, rfl, _⟩ := h; rfl
  · obtain ⟨H0, p, ba, b, z, und, S, rfl, hp, few, qq⟩ := h
    obtain ⟨dx, o, ut, So, h1, _⟩ := hp.at_.head
    have ok := replay_ok hp.bo hp.ok.log
    have rp := shown_rp hp.bo ok (replay_sm hp.bo hp.ok.log) few
    have ft := rp.fits (by decide) (by decide)
    have hu2 : (A.deeper (envOfC "_law_shown" (C8.fnScope s__law_shown) s.heap.objs.size (He.ga K "_law_shown") cdv)).units + 66 < cLine := by have := hr.un; omega
    refine ⟨_, (pss_cons (ps_set (i := 1) sc__law_shown.nd rfl (Or.inl rfl) (pe_m0 (k_Queues_tasks T) hr (by decide) (pe_m0 (k_Processor_queues T) hr (by decide) (pv 0))))
      (pss_cons (ps_set (i := 2) sc__law_shown.nd rfl (Or.inl rfl) (pe_lst (pa_cons (pe_pr (k_Processor_picture T) hr (by decide) (pv 0)) (pa_cons (pe_pr (k_Processor_runner T) hr (by decide) (pv 0)) (pa_cons (pe_pr (k_Processor_next_one T) hr (by decide) (pv 0)) (pa_cons (pe_pr (k_Processor_chart T) hr (by decide) (pv 0)) (pa_cons (pe_pr (k_Processor_done T) hr (by decide) (pv 0)) (pa_cons (pe_pr (k_Processor_log T) hr (by decide) (pv 0)) pa_nil))))))))
      (pss_one (ps_ret (pe_callB (call_reprD hG hu2) rfl (f_repr T) b_repr (pa_cons (pe_op op_cat (pv 2) (pe_lst (pa_cons (pv 1) (pa_cons (pe_callB (call_lenO (k_Processor___len__ T) hr (by decide)) rfl (f_len T) b_len (pa_cons (pv 0) pa_nil) (by decide) (by decide)) (pa_cons (pe_callTy (call_strO (k_Processor___str__ T) hr (by decide)) rfl (f_str T) b_str (pa_cons (pv 0) pa_nil)) pa_nil))))) pa_nil) (by decide) (by decide)))))), ?_⟩
    refine ⟨_, rfl, p, dx, _, rfl, h1, rfl, H0, p, ba, b, z, und, S, rfl, hp, fun H1 q' S' S1 Q1 => ?_⟩
    obtain ⟨dq, ll, as, q1, _⟩ := Q1.ex
    refine ⟨q', dq, _, rfl, q1, rfl, q', z.crs.queues, S', rfl, Q1, ok.crs.qeach hp.bo, fun H2 tq S2 sq => ?_⟩
    have SA := S1.trans S2
    have hp2 := hp.step SA
    have g2 := SA _ _ h1
    refine ⟨_, rfl, p, dx, _, rfl, g2, H0, p, ba, b, z, und, S, rfl, hp2, fun H3 t1 S3 d1 => ?_⟩
    have hp3 := hp2.step S3
    have g3 := S3 _ _ g2
    refine ⟨_, rfl, p, dx, _, rfl, g3, H0, p, ba, b, z, und, S, rfl, hp3, ?_⟩
    refine ⟨_, rfl, p, dx, _, rfl, g3, H0, p, ba, b, z, und, S, rfl, hp3, fun H4 S4 => ?_⟩
    have hp4 := hp3.step S4
    have g4 := S4 _ _ g3
    refine ⟨_, rfl, p, dx, _, rfl, g4, H0, p, ba, b, z, und, S, rfl, hp4, fun H5 t4 S5 d4 => ?_⟩
    have hp5 := hp4.step S5
    have g5 := S5 _ _ g4
    refine ⟨_, rfl, p, dx, _, rfl, g5, H0, p, ba, b, z, und, S, rfl, hp5, fun H6 t5 S6 d5 => ?_⟩
    have hp6 := hp5.step S6
    have g6 := S6 _ _ g5
    refine ⟨_, rfl, p, dx, _, rfl, g6, H0, p, ba, b, z, und, S, rfl, hp6, fun H7 t6 S7 d6 => ?_⟩
    have hp7 := hp6.step S7
    have g7 := S7 _ _ g6
    refine ⟨by show 6 ≤ sizeLine; decide, fun l hl => ?_⟩
    have S8 := same_new (o := .lst [.ref t1, optV z.crs.runner, optV (z.crs.next b), .ref t4, .ref t5, .ref t6]) hl
    have hp8 := hp7.step S8
    have g8 := S8 _ _ g7
    have ht := ok.crs.few
    refine ⟨_, rfl, _, rfl, _, rfl, p, dx, _, rfl, g8, ⟨H0, p, ba, b, z, und, S, rfl, hp8, _, rfl, by omega, by omega, ?_⟩⟩
    refine ⟨_, rfl, p, dx, _, rfl, g8, ⟨H0, p, ba, b, z, und, S, rfl, hp8, fun H9 S9 => ⟨_, rfl, ?_⟩⟩⟩
    refine ⟨by show 3 ≤ sizeLine; decide, fun l2 hl2 => ?_⟩
    have S10 := same_new (o := .lst [.ref tq, .int (z.crs.tasks.length : Nat), .str (strP z.crs.tasks.length (z.crs.tasks.countP isReady))]) hl2
    refine ⟨l, l2, _, _, rfl, rfl, S10 _ _ (S9 _ _ upd_same), upd_same, by show 6 + 3 ≤ sizeLine; decide, fun l3 hl3 => ?_⟩
    have S11 := same_new (o := .lst ([.ref t1, optV z.crs.runner, optV (z.crs.next b), .ref t4, .ref t5, .ref t6] ++ [.ref tq, .int (z.crs.tasks.length : Nat), .str (strP z.crs.tasks.length (z.crs.tasks.countP isReady))])) hl3
    have S9_11 := S9.trans (S10.trans S11)
    have S8_ := S8.trans S9_11
    have S7_ := S7.trans S8_
    have S6_ := S6.trans S7_
    have S5_ := S5.trans S6_
    have S4_ := S4.trans S5_
    have S3_ := S3.trans S4_
    refine ⟨l3, shownD b z, rfl, .lst (.inl (.inl upd_same)) (.cons (d1.same S4_).dp (.cons (td_opt _).dp (.cons (td_opt _).dp (.cons (d4.same S6_).dp (.cons (d5.same S7_).dp (.cons (d6.same S8_).dp (.cons (.tup ((Fr.of [] S3_).sqT sq) (dp_ints _)) (.cons (.int _) (.cons (.str _) .nil))))))))), ft.1, ft.2.1, ft.2.2, ?_⟩
    exact qq _ (SA.trans S3_)
end
end Tb
set_option Elab.async false
set_option linter.all false
set_option maxRecDepth 100000
set_option maxHeartbeats 4000000
/-! A fresh processor that does the calls of a log. -/
namespace Tb
open PySem PySem.Spec PyProof.Rows L2
section
variable {P : Program} {w : World} {K : PySem.W.Frag} {mg : Str → Option Value} {base : Heap}
def sp__law_fresh (K : PySem.W.Frag) : Sp := fun vs H Q _ => ∃ (ba ct : Addr) (b : Bk) (cs : List Cl) (z : Wk), vs = [.ref ba, .ref ct] ∧ BkAt K H ba b ∧ BkOk b ∧ Td K H (.ref ct) (.tuple (cs.map Cl.d)) ∧ replay b cs = some z ∧ cs.length < 400 ∧
  ∀ H' p S, ProcIn K H H' p ba b z [] S → Q (.ref p) H'
theorem k__law_fresh (T : Tx K mg base) : Fnc P w K mg base 10 "_law_fresh" (sp__law_fresh K) := by
  refine fnc_ok (D__law_fresh T) (g__law_fresh T) sc__law_fresh (fun vs H Q E h => ?_) (fun cdv A outer s H vs Q hr h => ?_)
  · obtain ⟨ba, ct, b, cs, z, rfl, _⟩ := h; rfl
  · obtain ⟨ba, ct, b, cs, z, rfl, hb, bo, hct, hz, few, qq⟩ := h
    obtain ⟨ct', xs, e, hxs, tx⟩ := Td.tuple hct
    cases e
    have lx : xs.length = cs.length := by rw [tx.len, List.length_map]
    refine ⟨_, (pss_cons (ps_set (i := 2) sc__law_fresh.nd rfl (Or.inl rfl) (pe_k (k_Processor___init__ T) hr (by decide) rfl (pa_cons (pv 0) pa_nil)))
      (pss_cons (ps_for PassesOwn.never rfl (pi_tup (pv 1)) (pg_tup (by rfl) (pgs_cons (pg_name (i := 3) sc__law_fresh.nd rfl (Or.inl rfl)) (pgs_cons (pg_name (i := 4) sc__law_fresh.nd rfl (Or.inl rfl)) pgs_nil))) (pss_one (ps_if (pt_cmpR op_eq (pv 3) pe_str (nomark _)) (pss_one (ps_expr (pe_m (k_Processor_come T) hr (by decide) (pv 2) (pa_cons (pv 4) pa_nil)))) (pss_one (ps_if (pt_cmpR op_eq (pv 3) pe_str (nomark _)) (pss_one (ps_expr (pe_m (k_Processor_wake_up T) hr (by decide) (pv 2) (pa_cons (pv 4) pa_nil)))) (pss_one (ps_expr (pe_m (k_Processor_tick T) hr (by decide) (pv 2) (pa_cons (pv 4) pa_nil)))))))))
      (pss_one (ps_ret (pv 2))))), ?_⟩
    refine ⟨_, rfl, ?_⟩
    intro y dy hy hdy hne
    have Sy : Same H (upd (upd H dy (.own y)) y (.ins (He.ga K "Processor") dy [])) := (same_new hdy).trans (same_new (by rw [upd_ne hne.symm]; exact hy))
    refine ⟨y, ba, dy, b, rfl, upd_same, hb.same Sy, bo, fun H1 S1 F1 P1 G1 => ⟨rfl, ?_⟩⟩
    have SH1 := made_same F1 hy hdy
    have N1 := made_new G1 hy hdy
    have I1 : ProcIn K H H1 y ba b (Wk.new b) [] S1 := ⟨P1, ⟨hb, SH1⟩, bo, N1, prOk_none rfl⟩
    refine ⟨_, rfl, ct, rfl, ⟨_, (Fr.of [] SH1).sqT hxs⟩, ?_⟩
    refine for_it (walk_tup (xs := xs)) (fun i σ H2 => ∃ zi S a1 a2, replay b (cs.take i) = some zi ∧ ProcIn K H H2 y ba b zi [] S ∧ σ = [some (.ref ba), some (.ref ct), some (.ref y), a1, a2]) ⟨Wk.new b, S1, _, _, rfl, I1, rfl⟩ ?_ ?_ ?_
    · rintro i σ H2 _ ⟨zi, S, a1, a2, _, hi, _⟩
      exact (Fr.of [] hi.bk.same).sqT hxs
    · rintro i x σ H2 H3 hi ⟨zi, S, a1, a2, hzi, hp, rfl⟩ ⟨rfl, hx⟩
      obtain ⟨c, hc, td⟩ := cl_at tx hx
      obtain ⟨can, hn⟩ := replay_next hz hc hzi
      have hv := td.same hp.bk.same
      have lc : zi.calls.length < 400 := by
        rw [replay_calls hzi, List.length_take]
        exact Nat.lt_of_le_of_lt (Nat.min_le_right _ _) few
      obtain ⟨dx, o, ut, So, h1, _⟩ := hp.at_.head
      cases c with
      | tick wd =>
        obtain ⟨a, y', z', rfl, hs, t1, t2⟩ := Td.two hv
        have e1 := t1.str'
        have e2 := t2.str'
        subst e1 e2
        refine ⟨a, _, rfl, hs, rfl, _, _, rfl, _, _, rfl, rfl, ?_⟩
        refine ⟨_, rfl, rfl, false, by decide +kernel, andF rfl ⟨_, rfl, rfl, false, by decide +kernel, andF rfl ⟨_, rfl, y, dx, _, rfl, h1, rfl, _, rfl, H, y, ba, wd, b, zi, [], S, rfl, hp, lc, fun H' S' F G W => ⟨_, S', _, _, hn, W, rfl⟩⟩⟩⟩
      | cm cm =>
        obtain ⟨a, wo, n, rfl, hs, hcm⟩ := cm_at hv
        refine ⟨a, _, rfl, hs, rfl, _, _, rfl, _, _, rfl, rfl, ?_⟩
        rcases hcm with ⟨rfl, rfl⟩ | ⟨rfl, rfl⟩
        · refine ⟨_, rfl, rfl, true, by decide +kernel, andT rfl ⟨_, rfl, y, dx, _, rfl, h1, rfl, _, rfl, H, y, ba, n, b, zi, [], S, rfl, hp, can, lc, fun H' S' _ F G W => ⟨_, S', _, _, hn, W, rfl⟩⟩⟩
        · refine ⟨_, rfl, rfl, false, by decide +kernel, andF rfl ⟨_, rfl, rfl, true, by decide +kernel, andT rfl ⟨_, rfl, y, dx, _, rfl, h1, rfl, _, rfl, H, y, ba, n, b, zi, [], S, rfl, hp, can, lc, fun H' S' F G W => ⟨_, S', _, _, hn, W, rfl⟩⟩⟩⟩
    · rintro σ H2 ⟨zi, S, a1, a2, hzi, hp, rfl⟩
      rw [List.take_of_length_le (by omega), hz] at hzi
      cases hzi
      exact ⟨_, rfl, qq _ y S hp⟩
end
end Tb
set_option Elab.async false
set_option linter.all false
set_option maxRecDepth 100000
set_option maxHeartbeats 4000000
/-! The pictures of a load. -/
namespace Tb
open PySem PySem.Spec PyProof.Rows L2 GenW
section
variable {P : Program} {w : World} {K : PySem.W.Frag} {mg : Str → Option Value} {base : Heap}
theorem z_Course_shown (T : Tx K mg base) : ∃ fd, FnS P w K mg base 1 (He.ma K (He.ga K "Course") "shown") fd ["self"] (sp_Course_shown K) ∧ Binds K fd ["self"] [] := by
  obtain ⟨fd, F, b⟩ := D_Course_shown T
  refine ⟨fd, fnS_of F sc_Course_shown (fun vs H Q E h => ?_) fun cdv A outer s H vs Q hr h => ?_, b⟩
  · obtain ⟨c, ba, x, S, rfl, _⟩ := h; rfl
  · obtain ⟨c, ba, x, S, rfl, hc, qq⟩ := h
    obtain ⟨dx, tl, q, Sq, h1, ⟨xs, h2, h3⟩, h4, _⟩ := hc.ex
    refine ⟨_, tup_g (fld_g (pv_g 0) rfl) rfl (f_tuple T) b_tuple, ?_⟩
    exact ⟨_, rfl, c, _, dx, _, .ref tl, rfl, h1, c_Course T, n_Course_own_tasks T, rfl, tl, xs, rfl, .inl (.inl h2), fun t ht => qq _ t (same_new ht) (tup_of (l := tl) h3 ht)⟩
/-- the ticks of a load, each as its consumer meets it -/
def sp_done_byI (K : PySem.W.Frag) : SpI := fun vs H N YL YE => ∃ (H0 : Hp) (c ba lt : Addr) (ts : List Tk) (b : Bk) (x : Crs) (S : List Addr) (xs : List V), vs = [.ref c, .ref lt] ∧ CrsIn K H0 H c ba b x S ∧ SqT K H lt xs ∧ Tds K H xs (ts.map Tk.d) ∧ ticksOk b x ts = true ∧ N = ts.length ∧
  (∀ i m y Ha Hb, m + 1 + i = N → Fr S Ha Hb → CrsIn K H0 Hb c ba b (ticksC b x (ts.take (i + 1))) S → YL m y Ha Hb) ∧ (∀ Ha, CrsIn K H0 Ha c ba b (ticksC b x ts) S → YE Ha Ha)
theorem i_done_by (T : Tx K mg base) : ∃ fd, GFnI P w K mg base 7 (He.ga K "done_by") fd ["course", "load"] (sp_done_byI K) ∧ PySem.W.keepIn K (.ref (He.ga K "done_by")) = true ∧ Binds K fd ["course", "load"] [] := by
  obtain ⟨fd, F⟩ := F_done_by T
  have kp := F.kp
  have bn := F.bindsN (ps := ["course", "load"]) fun _ _ _ _ _ _ us hl => match us, hl with | [_, _], _ => rfl
  refine ⟨fd, gfnI_of F sc_done_by (fun vs H N YL YE h => ?_) (fun _ => rfl) (fun _ _ => rfl) (fun _ _ _ => rfl) (fun cdv A outer s H vs N YL YE hr h => ?_), kp, bn⟩
  · obtain ⟨H0, c, ba, lt, ts, b, x, S, xs, rfl, _⟩ := h; rfl
  · obtain ⟨H0, c, ba, lt, ts, b, x, S, xs, rfl, hc, hl, tx, ok, rfl, hY, hE⟩ := h
    have lx : xs.length = ts.length := by rw [tx.len, List.length_map]
    refine ⟨iEnumT K (tCons (tVar 1) tNil), gTup K 2 (gCons (gName 2) (gCons (gTup K 2 (gCons (gName 3) (gCons (gName 4) gNil))) gNil)), tDrop (tCall (sp_let_all_come K) [] E0 (tCons (tVar 0) (tCons (tVar 2) (tCons (tVar 3) tNil)))), tMeth (He.ga K "Course") "tick" (sp_Course_tick K) [] E0 (tVar 0) (tCons (tVar 4) tNil), fun s0 H0' => ?_, fun H2 S2 => ?_⟩
    · refine ⟨?_, ?_, ?_, ?_⟩
      · exact pi_enumT (by rfl) (f_enumerate T) (pa_cons (pv 1) pa_nil)
      · exact pg_tup (by rfl) (pgs_cons (pg_name (i := 2) sc_done_by.nd rfl (Or.inl rfl)) (pgs_cons (pg_tup (by rfl) (pgs_cons (pg_name (i := 3) sc_done_by.nd rfl (Or.inl rfl)) (pgs_cons (pg_name (i := 4) sc_done_by.nd rfl (Or.inl rfl)) pgs_nil))) pgs_nil))
      · exact ps_expr (pe_f (k_let_all_come T) hr (by decide) rfl (pa_cons (pv 0) (pa_cons (pv 2) (pa_cons (pv 3) pa_nil))))
      · exact pe_m (k_Course_tick T) hr (by decide) (pv 0) (pa_cons (pv 4) pa_nil)
    refine ⟨_, rfl, lt, xs, rfl, (Fr.of [] S2).sqT hl, ?_⟩
    refine ⟨fun i Ha σ Hb => Ha = Hb ∧ i ≤ ts.length ∧ CrsIn K H0 Hb c ba b (ticksC b x (ts.take i)) S ∧ SqT K Hb lt xs ∧ Tds K Hb xs (ts.map Tk.d) ∧ ∃ a1 a2 a3, σ = [some (.ref c), some (.ref lt), a1, a2, a3], ⟨rfl, Nat.zero_le _, hc.step S2, (Fr.of [] S2).sqT hl, tx.fr (Fr.of [] S2), _, _, _, rfl⟩, ?_, ?_⟩
    · rintro Ha σ Hb ⟨rfl, _, hc2, hl2, tx2, _⟩
      rw [List.take_of_length_le (Nat.le_refl _)] at hc2
      exact ⟨⟨xs, hl2, by omega⟩, hE _ hc2⟩
    · rintro i m Ha σ Hb hmi ⟨rfl, _, hc2, hl2, tx2, a1, a2, a3, rfl⟩
      refine ⟨⟨xs, xs[i]'(by omega), hl2, List.getElem?_eq_getElem _⟩, ?_⟩
      rintro _ H3 ⟨t, y, rfl, ht, rfl, hy⟩
      obtain ⟨tk, htk, td⟩ := tks_at tx2 (hy xs hl2)
      obtain ⟨ok1, en1, en2⟩ := ticks_next ok htk
      have S3 := same_new (o := .tup [.int (i : Nat), y]) ht
      obtain ⟨a, cs, ys', rfl, ha, hcs, ty, ly⟩ := tk_at (td.same S3)
      have hc3 := hc2.step S3
      refine ⟨t, _, rfl, .inl (.inl upd_same), rfl, _, _, rfl, _, _, rfl, a, _, rfl, ha, rfl, _, _, rfl, _, _, rfl, rfl, rfl, ?_⟩
      refine ⟨_, rfl, _, rfl, _, rfl, H0, c, ba, cs, .int (i : Nat), tk.1, b, _, S, ys', rfl, hc3, hcs, ty, ok1, fun H4 F4 C4 => ?_⟩
      obtain ⟨dc, ctl, cq, h1⟩ := C4.at_.head
      refine ⟨_, rfl, c, dc, _, rfl, h1, rfl, _, rfl, H0, c, ba, b, _, S, tk.2, rfl, C4, fun H5 F5 C5 => ?_⟩
      have FA := ((Fr.of S S3).trans F4).trans F5
      rw [← en1] at C5
      refine ⟨hY i m _ _ _ hmi FA C5, fun H6 S6 => ⟨rfl, by omega, C5.step S6, (FA.step S6).sqT hl2, tx2.fr (FA.step S6), _, _, _, rfl⟩⟩
def sp_pictures (K : PySem.W.Frag) : SpP := fun vs H N Q => ∃ (ba lt : Addr) (ts : List Tk) (b : Bk), vs = [.ref ba, .ref lt] ∧ BkAt K H ba b ∧ BkOk b ∧ Td K H (.ref lt) (.tuple (ts.map Tk.d)) ∧ LoadSm ts ∧ ticksOk b (Crs.new b) ts = true ∧ N = ts.length ∧
  ∀ H' ys, Same H H' → ys.length = ts.length → (∀ k y, ys[k]? = some y → Td K H' y (.tuple ((ticksC b (Crs.new b) (ts.take (k + 1))).tasks.map Post.d))) → Q ys H'
theorem o_pictures (T : Tx K mg base) : ∃ fd, GFnP P w K mg base 9 (He.ga K "pictures") fd ["book", "load"] (sp_pictures K) ∧ PySem.W.keepIn K (.ref (He.ga K "pictures")) = true ∧ Binds K fd ["book", "load"] [] := by
  obtain ⟨fd, F⟩ := F_pictures T
  have kp := F.kp
  have bn := F.bindsN (ps := ["book", "load"]) fun _ _ _ _ _ _ us hl => match us, hl with | [_, _], _ => rfl
  obtain ⟨fi, Gi, kpi, bni⟩ := i_done_by (P := P) (w := w) T
  obtain ⟨fz, Gz, bz⟩ := z_Course_shown (P := P) (w := w) T
  refine ⟨fd, gfnP_of (pre := (C8.fnBody s_pictures).take 3) (k := 7) (i := 3) F sc_pictures (fun vs H N Q h => ?_) rfl rfl (fun _ => rfl) (fun _ _ => rfl) (fun _ _ _ => rfl) (fun cdv A outer s H vs N Q hr h => ?_), kp, bn⟩
  · obtain ⟨ba, lt, ts, b, rfl, _⟩ := h; rfl
  · obtain ⟨ba, lt, ts, b, rfl, hb, bo, hl, sm, ok, rfl, qq⟩ := h
    obtain ⟨lt', xs, e, hlt, tx⟩ := Td.tuple hl
    cases e
    refine ⟨Nat.le_trans sm.few (by decide), Addr × List Addr, fun j m _ Ha Hb => Fr j.2 Ha Hb ∧ CrsIn K H Hb j.1 ba b (ticksC b (Crs.new b) (ts.take (ts.length - m))) j.2, fun j Ha Hb => Ha = Hb, _, _, _,
      pss_cons (ps_expr (pe_f (k_require_book T) hr (by decide) rfl (pa_cons (pv 0) pa_nil))) (pss_cons (ps_expr (pe_f (k_require_load T) hr (by decide) rfl (pa_cons (pv 1) pa_nil))) (pss_one (ps_set (i := 2) sc_pictures.nd rfl (Or.inl rfl) (pe_k (k_Course___init__ T) hr (by decide) rfl (pa_cons (pv 0) pa_nil))))),
      fun j => pgenI_call Gi (hr.mono (by decide)) rfl (g_done_by T) kpi bni (pa_cons (pv 2) (pa_cons (pv 1) pa_nil)), meth0_g (pv_g 2) (c_Course T) (m_Course_shown T) Gz (hr.mono (by decide)) bz, ?_⟩
    refine ⟨_, rfl, ba, b, rfl, hb, ?_⟩
    refine ⟨_, rfl, .ref lt, ts, rfl, hl, sm, fun H1 S1 => ?_⟩
    refine ⟨_, rfl, ?_⟩
    intro y dy hy hdy hne
    have Sy : Same H1 (upd (upd H1 dy (.own y)) y (.ins (He.ga K "Course") dy [])) := (same_new hdy).trans (same_new (by rw [upd_ne hne.symm]; exact hy))
    refine ⟨y, ba, dy, b, rfl, upd_same, hb.same (S1.trans Sy), bo, fun H2 S F2 C2 G2 => ⟨rfl, ?_⟩⟩
    have S2 := made_same F2 hy hdy
    have N2 := made_new G2 hy hdy
    have SH2 := S1.trans S2
    have I2 : CrsIn K H H2 y ba b (Crs.new b) S := ⟨C2, ⟨hb, SH2⟩, bo, fun a ha => none_back S1 (N2 a ha), crsOk_new bo⟩
    refine ⟨(y, S), _, rfl, _, rfl, ⟨H, y, ba, lt, ts, b, Crs.new b, S, xs, rfl, I2, (Fr.of [] SH2).sqT hlt, tx.fr (Fr.of [] SH2), ok, rfl, fun i m _ Ha Hb e f c => ⟨f, ?_⟩, fun Ha _ => rfl⟩, ?_⟩
    · show CrsIn K H Hb y ba b (ticksC b (Crs.new b) (ts.take (ts.length - m))) S
      rw [show ts.length - m = i + 1 by omega]
      exact c
    · refine ⟨fun m ys σ H3 => Same H H3 ∧ ys.length + m = ts.length ∧ (∀ k v, ys[k]? = some v → Td K H3 v (.tuple ((ticksC b (Crs.new b) (ts.take (k + 1))).tasks.map Post.d))) ∧ (∃ Hx, Same Hx H3 ∧ Same H Hx) ∧ ∃ a, σ = [some (.ref ba), some (.ref lt), some (.ref y), a], ⟨SH2, by simp, fun k v h => by simp at h, ⟨H2, Same.refl _, SH2⟩, _, rfl⟩, ?_, ?_⟩
      · rintro m ys σ Ha Hb x ⟨s, l, td, _, a, rfl⟩ ⟨f, c⟩
        have c' : CrsIn K H Hb y ba b (ticksC b (Crs.new b) (ts.take (ts.length - m))) S := c
        have f' : Fr S Ha Hb := f
        obtain ⟨dc, ctl, cq, h1⟩ := c'.at_.head
        refine ⟨_, rfl, y, dc, _, rfl, h1, rfl, y, ba, _, S, rfl, c'.at_, fun H5 t S5 td5 => ⟨S5, c'.bk.same.trans S5, by rw [List.length_append]; simp; omega, fun k v hk => ?_, ⟨Hb, S5, c'.bk.same⟩, _, rfl⟩⟩
        by_cases hlt' : k < ys.length
        · rw [List.getElem?_append_left hlt'] at hk
          exact ((td k v hk).fr f').same S5
        · rw [List.getElem?_append_right (by omega)] at hk
          have h0 : k - ys.length = 0 := by
            have := (List.getElem?_eq_some_iff.1 hk).1
            simp at this
            omega
          rw [h0] at hk
          cases hk
          rw [show k + 1 = ts.length - m by omega]
          exact td5
      · rintro ys σ Ha Hb ⟨s, l, td, _, a, rfl⟩ e
        have e' : Ha = Hb := e
        subst e'
        exact qq _ ys s (by omega) td
end
end Tb
set_option Elab.async false
set_option linter.all false
set_option maxRecDepth 100000
set_option maxHeartbeats 4000000
/-! A processor is like its log. -/
namespace Tb
open PySem PySem.Spec PyProof.Rows L2
section
variable {P : Program} {w : World} {K : PySem.W.Frag} {mg : Str → Option Value} {base : Heap}
def sp__law_is_like_its_log (K : PySem.W.Frag) : Sp := fun vs H Q _ => ∃ (H0 : Hp) (p ba : Addr) (b : Bk) (z : Wk) (und : List Cl) (S : List Addr), vs = [.ref p, .ref ba] ∧ ProcIn K H0 H p ba b z und S ∧ z.calls.length < 400 ∧ ∀ H', Same H H' → Q (.bl true) H'
theorem k__law_is_like_its_log (T : Tx K mg base) : CalG P w K mg base 13 "_law_is_like_its_log" (sp__law_is_like_its_log K) := by
  obtain ⟨fg, Gg, kpg, bng⟩ := o_pictures (P := P) (w := w) T
  refine calg_ok (D__law_is_like_its_log T) (g__law_is_like_its_log T) sc__law_is_like_its_log (fun vs H Q E h => ?_) (fun cdv A outer s H vs Q hG hr h => ?_)
  · obtain ⟨H0, p, ba, b, z, und, S, rfl, _⟩ := h; rfl
  · obtain ⟨H0, p, ba, b, z, und, S, rfl, hp, few, qq⟩ := h
    obtain ⟨dx, o, ut, So, h1, _⟩ := hp.at_.head
    refine ⟨_, (pss_cons (ps_set (i := 2) sc__law_is_like_its_log.nd rfl (Or.inl rfl) (pe_f (k__law_fresh T) hr (by decide) rfl (pa_cons (pv 1) (pa_cons (pe_pr (k_Processor_log T) hr (by decide) (pv 0)) pa_nil))))
      (pss_cons (ps_if (PW.pt (pw_or (pt_cmpR op_ne (pe_cG (k__law_shown T) hG hr (by decide) rfl (pa_cons (pv 0) pa_nil)) (pe_cG (k__law_shown T) hG hr (by decide) rfl (pa_cons (pv 2) pa_nil)) (nomark _)) (pw_or1 (pt_cmpR (op_neO (k_Processor___eq__ T) (ne_Processor T) (i_Processor T).hm hr (by decide)) (pv 0) (pv 2) (nomark _))))) (pss_one (ps_ret pe_bl)) pss_nil)
      (pss_cons (ps_set (i := 3) sc__law_is_like_its_log.nd rfl (Or.inl rfl) (pe_pr (k_Processor_done T) hr (by decide) (pv 0)))
      (pss_cons (ps_if (pt_cmpR (op_neD (hr.units)) (pe_f (k_chart T) hr (by decide) rfl (pa_cons (pv 1) (pa_cons (pv 3) pa_nil))) (pe_pr (k_Processor_chart T) hr (by decide) (pv 0)) (nomark _)) (pss_one (ps_ret pe_bl)) pss_nil)
      (pss_cons (ps_if (PW.pt (pw_or (pt_cmpR (op_eqD (hr.units)) (pe_pr (k_Processor_log T) hr (by decide) (pv 0)) (pe_tup pa_nil) (nomark _)) (pw_or1 (pt_cmpR op_ne (pe_ix ix_tup (pe_ix ix_tup (pe_pr (k_Processor_log T) hr (by decide) (pv 0)) (pe_un un_neg pe_int) (fun _ _ => rfl)) pe_int (fun _ _ => rfl)) pe_str (nomark _))))) (pss_one (ps_ret pe_bl)) pss_nil)
      (pss_one (ps_ret (pe_cmpR (op_eqD (hr.units)) (pe_ix ix_list (pe_listP (pgenP_call Gg (hr.mono (by decide)) rfl (g_pictures T) kpg bng (pa_cons (pv 1) (pa_cons (pv 3) pa_nil))) (hr.mono (by decide)) rfl (f_list T) b_list) (pe_un un_neg pe_int) (fun _ _ => rfl)) (pe_pr (k_Processor_picture T) hr (by decide) (pv 0)) (nomark _))))))))), ?_⟩
    refine ⟨_, rfl, _, rfl, p, dx, _, rfl, h1, H0, p, ba, b, z, und, S, rfl, hp, fun H1 tl S1 dl => ?_⟩
    refine ⟨ba, tl, b, z.calls, z, rfl, (hp.step S1).bk.now, hp.bo, dl, hp.ok.log, few, fun H2 q Sq I2 => ?_⟩
    have SA := S1.trans I2.bk.same
    have hp2 := hp.step SA
    refine ⟨_, rfl, H0, p, ba, b, z, und, S, rfl, hp2, few, fun H3 S3 => ?_⟩
    refine ⟨_, rfl, H1, q, ba, b, z, [], Sq, rfl, I2.step S3, few, fun H4 S4 => ?_⟩
    have hp4 := hp2.step (S3.trans S4)
    have I4 := I2.step (S3.trans S4)
    obtain ⟨dxq, oq, utq, Soq, hq, _⟩ := I4.at_.head
    refine ⟨rfl, ?_⟩
    rw [show (!decide (V.str (shownS b z) = V.str (shownS b z))) = false by simp]
    refine ⟨_, rfl, andF rfl ?_⟩
    have g1 := (SA.trans (S3.trans S4)) _ _ h1
    refine ⟨_, rfl, _, rfl, p, q, dx, dxq, _, _, rfl, rfl, g1, hq, p, q, ba, b, z, z, und, [], S, Sq, rfl, hp4.at_, I4.at_, hp4.bk.now, rfl, fun H5 S5 => ⟨true, rfl, _, rfl, andF rfl ?_⟩⟩
    have hp5 := hp4.step S5
    have g5 := S5 _ _ g1
    refine ⟨_, rfl, p, dx, _, rfl, g5, H0, p, ba, b, z, und, S, rfl, hp5, fun H6 lt S6 d6 => ?_⟩
    have hp6 := hp5.step S6
    have g6 := S6 _ _ g5
    have ld := replay_load hp.bo hp.ok.log
    have sm := load_sm hp.bo hp.ok.log (Nat.le_of_lt few)
    have ss := replay_sm hp.bo hp.ok.log
    refine ⟨_, rfl, _, rfl, ba, lt, z.ticks, b, rfl, hp6.bk.now, hp.bo, d6, sm, ld.ok, fun H7 ct S7 d7 => ?_⟩
    have hp7 := hp6.step S7
    have g7 := S7 _ _ g6
    refine ⟨_, rfl, p, dx, _, rfl, g7, H0, p, ba, b, z, und, S, rfl, hp7, fun H8 ct2 S8 d8 => ?_⟩
    have hp8 := hp7.step S8
    have g8 := S8 _ _ g7
    rw [ld.told] at d7
    have flT : Fl 1 (.tuple (z.told.map Told.d)) := Fl.tup (fl_map fun t _ => Told.fl t)
    refine ⟨_, _, (d7.same S8).dp, d8.dp, flT.shaped, flT.shaped, ?_⟩
    rw [flT.refl]
    refine ⟨_, rfl, andF rfl ?_⟩
    have SX := (((((SA.trans (S3.trans S4)).trans S5).trans S6).trans S7).trans S8)
    -- the log
    refine ⟨_, rfl, p, dx, _, rfl, g8, H0, p, ba, b, z, und, S, rfl, hp8, fun H9 l9 S9 d9 => ?_⟩
    have hp9 := hp8.step S9
    have g9 := S9 _ _ g8
    refine ⟨by show 0 ≤ sizeLine; decide, fun e he => ?_⟩
    have S10 := same_new (o := .tup []) he
    have hp10 := hp9.step S10
    have g10 := S10 _ _ g9
    have flC : Fl 2 (.tuple (z.calls.map Cl.d)) := Fl.tup (fl_map fun t _ => Cl.fl t)
    have fl0 : Fl 1 (.tuple []) := Fl.tup fl_nil
    refine ⟨_, _, (d9.same S10).dp, .tup (.inl (.inl upd_same)) .nil, flC.shaped, fl0.shaped, ?_⟩
    have SY := SX.trans (S9.trans S10)
    rw [show (PyData.tuple (z.calls.map Cl.d)).eqv (PyData.tuple []) = z.calls.isEmpty by cases z.calls <;> rfl]
    rcases List.eq_nil_or_concat z.calls with hn | ⟨cs, c, hn⟩
    · rw [hn]
      exact ⟨true, rfl, andT rfl (qq _ SY)⟩
    rw [show z.calls.isEmpty = false by rw [hn]; cases cs <;> rfl]
    refine ⟨false, rfl, andF rfl ?_⟩
    refine ⟨_, rfl, p, dx, _, rfl, g10, H0, p, ba, b, z, und, S, rfl, hp10, fun H11 l11 S11 d11 => ?_⟩
    have hp11 := hp10.step S11
    have g11 := S11 _ _ g10
    obtain ⟨l11', xs, e11, hxs, tx⟩ := Td.tuple d11
    cases e11
    have lx : xs.length = cs.length + 1 := by rw [tx.len, List.length_map, hn]; simp
    obtain ⟨v, hv, tv⟩ := tx.get (i := cs.length) (d := c.d) (by rw [hn]; simp)
    have hlast : atI xs (-(1 : Int)) = some v := by
      rcases List.eq_nil_or_concat xs with h | ⟨ys, y, h⟩
      · rw [h] at lx; simp at lx
      · rw [h] at lx hv ⊢
        have ly : ys.length = cs.length := by simpa using lx
        rw [List.concat_eq_append] at hv ⊢
        rw [List.getElem?_append_right (by omega), ly, Nat.sub_self] at hv
        cases hv
        exact atI_last ys v
    refine ⟨_, rfl, l11, xs, _, v, rfl, rfl, hxs, hlast, ?_⟩
    have SZ := SY.trans S11
    cases c with
    | cm m =>
      obtain ⟨a, wo, n, rfl, ha, hcm⟩ := cm_at tv
      refine ⟨a, _, _, _, rfl, rfl, ha, atI_nat (j := 0) rfl, rfl, ?_⟩
      rcases hcm with ⟨rfl, _⟩ | ⟨rfl, _⟩
      · exact ⟨true, by decide +kernel, andT rfl (qq _ SZ)⟩
      · exact ⟨true, by decide +kernel, andT rfl (qq _ SZ)⟩
    | tick wd =>
      obtain ⟨a, y', z', rfl, hs, t1, t2⟩ := Td.two tv
      have e1 := t1.str'
      have e2 := t2.str'
      subst e1 e2
      refine ⟨a, _, _, _, rfl, rfl, hs, atI_nat (j := 0) rfl, rfl, false, by decide +kernel, andF rfl ?_⟩
      obtain ⟨hw0, hne⟩ := ld.last wd cs (by rw [hn, List.concat_eq_append])
      refine ⟨_, rfl, _, rfl, z.ticks.length, ba, lt, z.ticks, b, rfl, hp11.bk.now, hp.bo, (((((d6.same S7).same S8).same S9).same S10).same S11), sm, ld.ok, rfl, fun H12 ys S12 ly tdy => fun pl hpl => ?_⟩
      have hlt : 0 < z.ticks.length := List.length_pos_iff.2 hne
      have yv := List.getElem?_eq_getElem (l := ys) (i := z.ticks.length - 1) (by omega)
      obtain ⟨y, hy⟩ : ∃ y, ys[z.ticks.length - 1]? = some y := ⟨_, yv⟩
      have ty := tdy _ _ hy
      rw [show z.ticks.length - 1 + 1 = z.ticks.length by omega, List.take_length] at ty
      have ec : ticksC b (Crs.new b) z.ticks = z.crs := by
        have := ld.crs
        rw [hw0] at this
        exact this
      rw [ec] at ty
      have hlast2 : atI ys (-(1 : Int)) = some y := by
        rcases List.eq_nil_or_concat ys with h | ⟨us, u, h⟩
        · rw [h] at ly; simp at ly; omega
        · rw [h] at ly hy ⊢
          rw [List.concat_eq_append] at ly hy ⊢
          have lu : us.length = z.ticks.length - 1 := by
            rw [List.length_append] at ly
            simp at ly
            omega
          rw [List.getElem?_append_right (by omega), lu, Nat.sub_self] at hy
          cases hy
          exact atI_last us y
      have S13 := same_new (o := .lst ys) hpl
      have hp13 := (hp11.step S12).step S13
      refine ⟨_, rfl, pl, ys, _, y, rfl, rfl, .inl (.inl upd_same), hlast2, ?_⟩
      refine ⟨_, rfl, p, dx, _, rfl, S13 _ _ (S12 _ _ g11), H0, p, ba, b, z, und, S, rfl, hp13, fun H14 l14 S14 d14 => ?_⟩
      have flP : Fl 2 (.tuple (z.crs.tasks.map Post.d)) := Fl.tup (fl_map fun t _ => Post.fl t)
      refine ⟨_, _, ((ty.same S13).same S14).dp, d14.dp, flP.shaped, flP.shaped, ?_⟩
      rw [flP.refl]
      exact qq _ (((SZ.trans S12).trans S13).trans S14)
end
end Tb
set_option Elab.async false
set_option linter.all false
set_option maxRecDepth 100000
set_option maxHeartbeats 4000000
/-! The law's dice. -/
namespace Tb
open PySem PySem.Spec PyProof.Rows L2
theorem PE.mono' {X : Cx} {e : Expr} {t t' : TE} (h : PE X e t) (imp : ∀ σ H Q, t' σ H Q → t σ H Q) : PE X e t' := ⟨fun pins s σ H Q I q => h.run pins s σ H Q I (imp σ H Q q)⟩
structure Dice (H : Hp) (d : Addr) (n : Nat) : Prop where
  ex : ∃ a b c : Nat, H d = some (.lst [.int a, .int b, .int c]) ∧ a < 2 ^ 2100 ∧ b < 2 ^ 62 ∧ c ≤ n
theorem Dice.mono {H : Hp} {d : Addr} {m n : Nat} (h : Dice H d m) (k : m ≤ n) : Dice H d n := by
  obtain ⟨a, b, c, h1, h2, h3, h4⟩ := h.ex
  exact ⟨a, b, c, h1, h2, h3, Nat.le_trans h4 k⟩
theorem Dice.same {H H' : Hp} {d : Addr} {n : Nat} (h : Dice H d n) (s : Same H H') : Dice H' d n := by
  obtain ⟨a, b, c, h1, h2⟩ := h.ex
  exact ⟨a, b, c, s _ _ h1, h2⟩
theorem Dice.fr {H H' : Hp} {d : Addr} {n : Nat} {T : List Addr} (h : Dice H d n) (f : Fr T H H') (k : d ∉ T) : Dice H' d n := by
  obtain ⟨a, b, c, h1, h2⟩ := h.ex
  exact ⟨a, b, c, f.keep _ _ h1 k, h2⟩
theorem Dice.live {H : Hp} {d : Addr} {n : Nat} (h : Dice H d n) : H d ≠ none := by
  obtain ⟨a, b, c, h1, h2⟩ := h.ex
  rw [h1]; exact nofun
theorem modB (x : Int) {m : Int} (k : Nat) (hm : 0 < m) (hk : m ≤ 2 ^ k) : (x % m).natAbs < 2 ^ k := by
  have h1 := Int.emod_nonneg x (show m ≠ 0 by omega)
  have h2 := Int.emod_lt_of_pos x hm
  have h3 : ((2 ^ k : Nat) : Int) = 2 ^ k := by simp
  omega
theorem natOf {i : Int} (h : 0 ≤ i) : ∃ n : Nat, i = n := ⟨i.toNat, by omega⟩
section
variable {P : Program} {w : World} {K : PySem.W.Frag} {mg : Str → Option Value} {base : Heap}
def sp__law_roll : Sp := fun vs H Q _ => ∃ (d : Addr) (n k : Nat), vs = [.ref d, .int n] ∧ Dice H d k ∧ 0 < n ∧ n ≤ 1000 ∧ k < 1000 ∧ ∀ H' (r : Nat), Fr [d] H H' → Dice H' d (k + 1) → r < n → Q (.int r) H'
theorem k__law_roll (T : Tx K mg base) : Fnc P w K mg base 1 "_law_roll" sp__law_roll := by
  refine fnc_ok (D__law_roll T) (g__law_roll T) sc__law_roll (fun vs H Q E h => ?_) (fun cdv A outer s H vs Q hr h => ?_)
  · obtain ⟨d, n, k, rfl, _⟩ := h; rfl
  · obtain ⟨d, n, k, rfl, hd, hn, hn2, hk, qq⟩ := h
    obtain ⟨a, b, c, h1, ha, hb, hc⟩ := hd.ex
    have md : d ∈ [d] := List.mem_singleton.2 rfl
    refine ⟨_, (pss_cons (ps_if (pt_cmpR op_gt (pe_ix ix_list (pv 0) pe_int (fun _ _ => rfl)) pe_int (nomark _)) (pss_cons (ps_set (i := 2) sc__law_roll.nd rfl (Or.inl rfl) (pe_op op_mod (pe_callTy call_int1 rfl (f_int T) b_int (pa_cons (pe_ix ix_list (pv 0) pe_int (fun _ _ => rfl)) pa_nil)) (pv 1)))
      (pss_cons (ps_asg (pe_op op_fdiv (pe_ix ix_list (pv 0) pe_int (fun _ _ => rfl)) (pv 1)) (pg_sub (pv 0) pe_int set_list))
      (pss_one (ps_ret (pv 2))))) pss_nil)
      (pss_cons (ps_asg (pe_op op_add (pe_ix ix_list (pv 0) pe_int (fun _ _ => rfl)) pe_int) (pg_sub (pv 0) pe_int set_list))
      (pss_cons (ps_set (i := 3) sc__law_roll.nd rfl (Or.inl rfl) (pe_op op_mod (pe_callTy call_int1 rfl (f_int T) b_int (pa_cons (pe_op op_add (pe_ix ix_list (pv 0) pe_int (fun _ _ => rfl)) (pe_op op_mulW pe_int (pe_ix ix_list (pv 0) pe_int (fun _ _ => rfl)))) pa_nil)) pe_int))
      (pss_cons (ps_set (i := 4) sc__law_roll.nd rfl (Or.inl rfl) (pe_op op_add (pe_op op_mulW (pe_op op_mod (pe_callTy call_int1 rfl (f_int T) b_int (pa_cons (pe_op op_mulW (pv 3) (pv 3)) pa_nil)) pe_int) (pv 3)) (pe_op op_mulW pe_int (pe_ix ix_list (pv 0) pe_int (fun _ _ => rfl)))))
      (pss_one (ps_ret (pe_op op_mod (pe_callTy call_int1 rfl (f_int T) b_int (pa_cons (pe_op op_fdiv (pe_op op_mod (pe_callTy call_int1 rfl (f_int T) b_int (pa_cons (pe_op op_add (pv 4) (pe_ix ix_list (pv 0) pe_int (fun _ _ => rfl))) pa_nil)) pe_int) pe_int) pa_nil)) (pv 1)))))))), ?_⟩
    refine ⟨_, rfl, d, _, _, _, rfl, rfl, .inl (.inl h1), atI_nat (j := 0) rfl, _, _, rfl, rfl, _, rfl, ?_⟩
    by_cases h0 : (a : Int) > 0
    · refine andT (decide_eq_true h0) ?_
      refine ⟨_, rfl, d, _, _, _, rfl, rfl, .inl (.inl h1), atI_nat (j := 0) rfl, .inl ⟨_, rfl, _, rfl, _, _, rfl, rfl, (by omega : (0 : Int) < (n : Int)), ?_⟩⟩
      refine ⟨_, rfl, d, _, _, _, rfl, rfl, .inl (.inl h1), atI_nat (j := 0) rfl, _, rfl, _, _, rfl, rfl, ⟨by omega, by omega⟩, ?_⟩
      refine ⟨_, rfl, d, _, _, 0, rfl, rfl, h1, rfl, ?_⟩
      refine ⟨_, rfl, ?_⟩
      have e1 : (a : Int) % (n : Int) = ((a % n : Nat) : Int) := (Int.natCast_emod a n).symm
      have e2 : (a : Int) / (n : Int) = ((a / n : Nat) : Int) := (Int.natCast_ediv a n).symm
      show Q (V.int ((a : Int) % (n : Int))) _
      rw [e1]
      refine qq _ (a % n) (Fr.wr h1 trivial md) ⟨a / n, b, c, ?_, Nat.lt_of_le_of_lt (Nat.div_le_self _ _) ha, hb, by omega⟩ (Nat.mod_lt _ hn)
      rw [upd_same, ← e2]
      rfl
    · refine andF (decide_eq_false h0) ?_
      refine ⟨_, rfl, d, _, _, _, rfl, rfl, .inl (.inl h1), atI_nat (j := 2) rfl, _, _, rfl, rfl, _, rfl, d, _, _, 2, rfl, rfl, h1, rfl, ?_⟩
      generalize hh : upd H d (HO.lst ([V.int (a : Int), V.int (b : Int), V.int (c : Int)].set 2 ((fun i j => V.int (i + j)) (c : Int) 1))) = H1
      have F1 : Fr [d] H H1 := by rw [← hh]; exact Fr.wr h1 trivial md
      have h2 : H1 d = some (.lst [.int a, .int b, .int ((c : Int) + 1)]) := by rw [← hh]; exact upd_same
      clear hh
      have hc1 : ((c : Int) + 1).natAbs < 2 ^ 10 := by omega
      refine ⟨_, rfl, d, _, _, _, rfl, rfl, .inl (.inl h2), atI_nat (j := 1) rfl, _, rfl, d, _, _, _, rfl, rfl, .inl (.inl h2), atI_nat (j := 2) rfl, _, _, rfl, rfl, wide_mul (a := 30) (by decide) hc1 (by decide) (by decide) (by decide), _, _, rfl, rfl, .inl ⟨_, rfl, _, _, rfl, rfl, (by decide : (0 : Int) < 67280421310693), ?_⟩⟩
      have w1 := modB ((b : Int) + 941083987 * ((c : Int) + 1)) (m := 67280421310693) 46 (by decide) (by decide)
      refine ⟨_, rfl, _, rfl, _, _, rfl, rfl, wide_mul w1 w1 (by decide) (by decide) (by decide), .inl ⟨_, rfl, _, _, rfl, rfl, (by decide : (0 : Int) < 576460752303423433), _, rfl, _, _, rfl, rfl, wide_mul (modB _ 60 (by decide) (by decide)) w1 (by decide) (by decide) (by decide), _, rfl, d, _, _, _, rfl, rfl, .inl (.inl h2), atI_nat (j := 2) rfl, _, _, rfl, rfl, wide_mul (a := 13) (by decide) hc1 (by decide) (by decide) (by decide), _, _, rfl, rfl, ?_⟩⟩
      refine ⟨_, rfl, _, rfl, d, _, _, _, rfl, rfl, .inl (.inl h2), atI_nat (j := 1) rfl, _, _, rfl, rfl, .inl ⟨_, rfl, _, _, rfl, rfl, (by decide : (0 : Int) < 2199023255531), _, _, rfl, rfl, ⟨by decide, by decide⟩, .inl ⟨_, rfl, _, rfl, _, _, rfl, rfl, (by omega : (0 : Int) < (n : Int)), ?_⟩⟩⟩
      have fin : ∀ x : Int, Q (V.int (x % (n : Int))) H1 := fun x => by
        obtain ⟨r, hr⟩ := natOf (Int.emod_nonneg x (show (n : Int) ≠ 0 by omega))
        have hlt := Int.emod_lt_of_pos x (show (0 : Int) < n by omega)
        rw [hr] at hlt ⊢
        exact qq H1 r F1 ⟨a, b, c + 1, h2, ha, hb, by omega⟩ (by omega)
      exact fin _
def sp__law_pick : Sp := fun vs H Q _ => ∃ (d l : Addr) (k : Nat) (xs : List V), vs = [.ref d, .ref l] ∧ Dice H d k ∧ H l = some (.lst xs) ∧ 0 < xs.length ∧ xs.length ≤ 1000 ∧ l ≠ d ∧ k < 1000 ∧ ∀ H' (i : Nat) v, Fr [d] H H' → Dice H' d (k + 1) → xs[i]? = some v → Q v H'
theorem k__law_pick (T : Tx K mg base) : Fnc P w K mg base 2 "_law_pick" sp__law_pick := by
  refine fnc_ok (D__law_pick T) (g__law_pick T) sc__law_pick (fun vs H Q E h => ?_) (fun cdv A outer s H vs Q hr h => ?_)
  · obtain ⟨d, l, k, xs, rfl, _⟩ := h; rfl
  · obtain ⟨d, l, k, xs, rfl, hd, hl, h0, h1, ne, hk, qq⟩ := h
    refine ⟨_, (pss_one (ps_ret (pe_ix ix_list (pv 1) (pe_f (k__law_roll T) hr (by decide) rfl (pa_cons (pv 0) (pa_cons (pe_callB call_len_seq rfl (f_len T) b_len (pa_cons (pv 1) pa_nil) (by decide) (by decide)) pa_nil))) (fun _ _ => rfl)))), ?_⟩
    refine ⟨_, rfl, _, rfl, _, rfl, l, xs, rfl, .inl (.inl (.inl hl)), d, xs.length, k, rfl, hd, h0, h1, hk, fun H' r F D hr => ?_⟩
    exact ⟨l, xs, _, _, rfl, rfl, .inl (.inl (F.keep _ _ hl fun m => ne (List.mem_singleton.1 m))), atI_nat (List.getElem?_eq_getElem hr), qq H' r _ F D (List.getElem?_eq_getElem hr)⟩
theorem powBig : (0 : Int) < ((10 : Int) ^ (61 : Int).toNat) ^ (10 : Int).toNat ∧ ((10 : Int) ^ (61 : Int).toNat) ^ (10 : Int).toNat ≤ 2 ^ 2100 := by decide +kernel
def sp__law_dice (K : PySem.W.Frag) : Sp := fun vs H Q _ => ∃ (a : Addr) (s : Nat) (ns : List Int), vs = [.ref a, .int s] ∧ SqL K H a (ns.map V.int) ∧ s < 1000 ∧ ∀ H' d, Same H H' → H d = none → Dice H' d 0 → Q (.ref d) H'
theorem k__law_dice (T : Tx K mg base) : Fnc P w K mg base 1 "_law_dice" (sp__law_dice K) := by
  refine fnc_ok (D__law_dice T) (g__law_dice T) sc__law_dice (fun vs H Q E h => ?_) (fun cdv A outer s H vs Q hr h => ?_)
  · obtain ⟨a, s, ns, rfl, _⟩ := h; rfl
  · obtain ⟨a, sp, ns, rfl, ha, hs, qq⟩ := h
    refine ⟨_, (pss_cons (ps_set (i := 2) sc__law_dice.nd rfl (Or.inl rfl) (PE.mono' (t' := fun σ H Q => (σ[0]? = some (some (.ref a)) ∧ σ[1]? = some (some (.int (sp : Nat))) ∧ SqL K H a (ns.map V.int)) ∧ ∀ cell : Int, Q (.int cell) H) (pe_ifExp (pt_cmpR op_lt (pv 1) (pe_callB call_len_seq rfl (f_len T) b_len (pa_cons (pv 0) pa_nil) (by decide) (by decide)) (nomark _)) (pe_ix ix_list (pv 0) (pv 1) (fun _ _ => rfl)) (pe_op op_add (pe_op op_mulW pe_int (pv 1)) pe_int)) ?_))
      (pss_cons (ps_set (i := 3) sc__law_dice.nd rfl (Or.inl rfl) (pe_op op_mod (pe_callTy call_int1 rfl (f_int T) b_int (pa_cons (pe_callB call_abs rfl (f_abs T) b_abs (pa_cons (pv 2) pa_nil) (by decide) (by decide)) pa_nil)) (pe_op op_powW (pe_op op_powW pe_int pe_int) pe_int)))
      (pss_cons (ps_set (i := 4) sc__law_dice.nd rfl (Or.inl rfl) (pe_op op_add (pe_op op_add (pe_op op_add (pe_op op_mulW (pv 3) pe_int) (pe_op op_mulW pe_int (pv 1))) (pe_op op_mulW pe_int (pe_callTy call_int1 rfl (f_int T) b_int (pa_cons (pe_cmpR op_lt (pv 2) pe_int (nomark _)) pa_nil)))) pe_int))
      (pss_one (ps_ret (pe_lst (pa_cons (pe_callB (call_max2 rfl) rfl (f_max T) b_max (pa_cons pe_int (pa_cons (pe_op op_sub (pv 3) (pe_op op_powW pe_int pe_int)) pa_nil)) (by decide) (by decide)) (pa_cons (pe_op op_mod (pe_callTy call_int1 rfl (f_int T) b_int (pa_cons (pv 4) pa_nil)) pe_int) (pa_cons pe_int pa_nil))))))))), ?_⟩
    · rintro σ H2 Q2 ⟨⟨s0, s1, hl⟩, q⟩
      refine ⟨_, s1, _, s0, a, _, rfl, .inl hl, _, _, rfl, rfl, _, rfl, ?_⟩
      rw [List.length_map]
      by_cases hlt : sp < ns.length
      · refine andT (decide_eq_true (by omega)) ?_
        exact ⟨_, s0, _, s1, a, _, _, _, rfl, rfl, hl, atI_nat (by rw [List.getElem?_map, List.getElem?_eq_getElem hlt]; rfl), q _⟩
      · refine andF (decide_eq_false (by omega)) ?_
        exact ⟨_, s1, _, _, rfl, rfl, wide_mul (a := 10) (b := 10) (by decide) (by omega) (by decide) (by decide) (by decide), _, _, rfl, rfl, q _⟩
    · refine ⟨⟨rfl, rfl, ha⟩, fun cell => ?_⟩
      refine ⟨_, rfl, _, rfl, .inl ⟨_, rfl, _, _, rfl, rfl, ⟨by decide, by decide +kernel⟩, _, _, rfl, rfl, ⟨by decide, by decide +kernel⟩, _, _, rfl, rfl, powBig.1, ?_⟩⟩
      generalize hv : (fun i j => V.int (i % j)) (if cell < 0 then -cell else cell) (((10 : Int) ^ (61 : Int).toNat) ^ (10 : Int).toNat) = v
      obtain ⟨g, rfl, hg⟩ : ∃ g : Nat, v = V.int (g : Int) ∧ g < 2 ^ 2100 := by
        obtain ⟨g, e⟩ := natOf (Int.emod_nonneg (if cell < 0 then -cell else cell) (Int.ne_of_gt powBig.1))
        have l := Int.emod_lt_of_pos (if cell < 0 then -cell else cell) powBig.1
        rw [e] at l
        refine ⟨g, by rw [← hv, ← e], ?_⟩
        have l2 := Int.lt_of_lt_of_le l powBig.2
        have h3 : ((2 ^ 2100 : Nat) : Int) = 2 ^ 2100 := by simp
        exact Int.ofNat_lt.1 (by rw [h3]; exact l2)
      clear hv
      refine ⟨_, rfl, _, _, rfl, rfl, wide_mul (a := 2100) (b := 62) hg (by decide) (by decide) (by decide) (by decide), _, rfl, _, _, rfl, rfl, wide_mul (a := 10) (b := 10) (by decide) (by omega) (by decide) (by decide) (by decide), _, _, rfl, rfl, ?_⟩
      refine ⟨_, rfl, _, _, rfl, rfl, .inr ⟨_, rfl, _, _, rfl, rfl, wide_mul (a := 10) (b := 2) (by decide) (by split <;> decide) (by decide) (by decide) (by decide), _, _, rfl, rfl, _, _, rfl, rfl, ?_⟩⟩
      refine ⟨_, rfl, _, _, rfl, rfl, ⟨by decide, by decide +kernel⟩, _, _, rfl, rfl, _, _, rfl, ?_⟩
      refine ⟨_, rfl, .inl ⟨_, rfl, _, _, rfl, rfl, (by decide : (0 : Int) < 2305843009213693967), ?_⟩⟩
      refine ⟨by show 3 ≤ sizeLine; decide, fun d hd => ?_⟩
      refine qq _ d (same_new hd) hd ?_
      have h18 : (0 : Int) ≤ (10 : Int) ^ (18 : Int).toNat := by decide +kernel
      generalize (10 : Int) ^ (18 : Int).toNat = e at h18
      obtain ⟨a', ha'⟩ := natOf (show (0 : Int) ≤ (if (g : Int) - e > 0 then (g : Int) - e else 0) by split <;> omega)
      have la : a' ≤ g := by
        have : (a' : Int) ≤ g := by rw [← ha']; split <;> omega
        omega
      generalize hx : ((g : Int) * 3935559000370003845 + 89 * (sp : Int) + 17 * (if decide (cell < 0) = true then 1 else 0) + 3) = x
      obtain ⟨b', hb'⟩ := natOf (Int.emod_nonneg x (show (2305843009213693967 : Int) ≠ 0 by decide))
      have lb := Int.emod_lt_of_pos x (show (0 : Int) < 2305843009213693967 by decide)
      refine ⟨a', b', 0, ?_, Nat.lt_of_le_of_lt la hg, by omega, Nat.le_refl _⟩
      rw [upd_same, ← ha', ← hb', ← hx]
      rfl
end
end Tb
set_option Elab.async false
set_option linter.all false
set_option maxRecDepth 100000
set_option maxHeartbeats 4000000
/-! The law's plain levels. -/
namespace Tb
open PySem PySem.Spec PyProof.Rows L2
structure LevD (K : PySem.W.Frag) (H : Hp) (t : Addr) (l : Lev) : Prop where
  ex : ∃ us wk wy lo, SqT K H t [leftV l.ticks, us, wk, wy, lo, .int (l.takes : Nat)] ∧ LevEnts K H l.ticks us wk wy lo l.takes l
theorem LevD.fr {K : PySem.W.Frag} {T : List Addr} {H H' : Hp} {t : Addr} {l : Lev} (h : LevD K H t l) (f : Fr T H H') : LevD K H' t l := by
  obtain ⟨us, wk, wy, lo, h1, h2⟩ := h.ex
  exact ⟨us, wk, wy, lo, f.sqT h1, h2.fr f⟩
/-- the entry with a number -/
def entD (j : Nat) (e : Ent) : PyData := if j = 1 then e.d2 else e.d
structure EntsTo (K : PySem.W.Frag) (H : Hp) (n x i : Nat) (vs : List V) : Prop where
  len : vs.length = 6
  at_ : ∀ j, 1 ≤ j → j ≤ i → ∃ v e, vs[j]? = some v ∧ Td K H v (entD j e) ∧ e.lv < n ∧ (j = 4 → x ≤ e.lv)
theorem EntsTo.fr {K : PySem.W.Frag} {T : List Addr} {H H' : Hp} {n x i : Nat} {vs : List V} (h : EntsTo K H n x i vs) (f : Fr T H H') : EntsTo K H' n x i vs := ⟨h.len, fun j h1 h2 => by
  obtain ⟨v, e, a, b, c⟩ := h.at_ j h1 h2
  exact ⟨v, e, a, b.fr f, c⟩⟩
section
variable {P : Program} {w : World} {K : PySem.W.Frag} {mg : Str → Option Value} {base : Heap}
def sp__law_level (K : PySem.W.Frag) : Sp := fun vs H Q _ => ∃ (d : Addr) (x n k : Nat), vs = [.ref d, .int x, .int n, .int 3] ∧ Dice H d k ∧ k + 20 < 1000 ∧ x < n ∧ n ≤ 3 ∧ ∀ H' t l, Fr [d] H H' → Dice H' d (k + 14) → LevOk n x l → LevD K H' t l → Q (.ref t) H'
theorem k__law_level (T : Tx K mg base) : Fnc P w K mg base 3 "_law_level" (sp__law_level K) := by
  refine fnc_ok (D__law_level T) (g__law_level T) sc__law_level (fun vs H Q E h => ?_) (fun cdv A outer s H vs Q hr h => ?_)
  · obtain ⟨d, x, n, k, rfl, _⟩ := h; rfl
  · obtain ⟨d, x, n, k, rfl, hd, hk, hx, hn, qq⟩ := h
    have dl := hd.live
    refine ⟨_, (pss_cons (ps_set (i := 4) sc__law_level.nd rfl (Or.inl rfl) (pe_lst (pa_cons (pe_f (k__law_pick T) hr (by decide) rfl (pa_cons (pv 0) (pa_cons (pe_op op_cat (pe_op op_rep (pe_listRg rfl rfl (f_list T) (prg_2 rfl (f_range T) pe_int (pe_op op_add (pv 3) pe_int))) pe_int) (pe_lst (pa_cons pe_non pa_nil))) pa_nil))) (pa_cons pe_non (pa_cons pe_non (pa_cons pe_non (pa_cons pe_non (pa_cons (pe_f (k__law_roll T) hr (by decide) rfl (pa_cons (pv 0) (pa_cons (pe_op op_add (pv 1) pe_int) pa_nil))) pa_nil))))))))
      (pss_cons (ps_for PassesOwn.never rfl (pi_tup (pe_tup (pa_cons pe_int (pa_cons pe_int (pa_cons pe_int (pa_cons pe_int pa_nil)))))) (pg_name (i := 5) sc__law_level.nd rfl (Or.inl rfl))
        (pss_cons (ps_set (i := 6) sc__law_level.nd rfl (Or.inl rfl) (PE.mono' (t' := fun σ H Q => ∃ j x : Nat, σ[5]? = some (some (.int j)) ∧ σ[1]? = some (some (.int x)) ∧ Q (.int ((if j = 4 then x else 0 : Nat) : Int)) H) (pe_ifExp (pt_cmpR op_eq (pv 5) pe_int (nomark _)) (pv 1) pe_int) ?_))
        (pss_cons (ps_set (i := 7) sc__law_level.nd rfl (Or.inl rfl) (pe_tup (pa_cons (pe_op op_add (pv 6) (pe_f (k__law_roll T) hr (by decide) rfl (pa_cons (pv 0) (pa_cons (pe_op op_sub (pv 2) (pv 6)) pa_nil)))) (pa_cons (pe_f (k__law_pick T) hr (by decide) rfl (pa_cons (pv 0) (pa_cons (pe_lst (pa_cons pe_str (pa_cons pe_str (pa_cons pe_str pa_nil)))) pa_nil))) pa_nil))))
        (pss_one (ps_asg (PE.mono' (t' := fun σ H Q => ∃ (d t : Addr) (j lv kk : Nat) (fr : Bool), σ[0]? = some (some (.ref d)) ∧ σ[5]? = some (some (.int j)) ∧ σ[7]? = some (some (.ref t)) ∧ Dice H d kk ∧ kk < 1000 ∧ SqT K H t [.int lv, .str (plV fr)] ∧ ∀ H' v nw, Fr [d] H H' → Dice H' d (kk + 1) → Td K H' v (entD j ⟨lv, fr, nw⟩) → Q v H')
          (pe_ifExp (pt_cmpR op_eq (pv 5) pe_int (nomark _)) (pv 7) (pe_op op_catA (pv 7) (pe_tup (pa_cons (pe_f (k__law_pick T) hr (by decide) rfl (pa_cons (pv 0) (pa_cons (pe_lst (pa_cons pe_str (pa_cons pe_str pa_nil))) pa_nil))) pa_nil)))) ?_) (pg_sub (pv 4) (pv 5) set_list))))))
      (pss_one (ps_ret (pe_callTy call_tuple_of rfl (f_tuple T) b_tuple (pa_cons (pv 4) pa_nil)))))), ?_⟩
    · rintro σ H2 Q2 ⟨j, y, e5, e1, q⟩
      refine ⟨_, e5, rfl, ?_⟩
      by_cases hj : j = 4
      · subst hj
        exact ⟨true, by decide +kernel, andT rfl ⟨_, e1, q⟩⟩
      · rw [if_neg hj] at q
        exact ⟨false, by rw [decide_eq_false (fun e => hj (by have := V.int.inj e; omega))], andF rfl q⟩
    · rintro σ H2 Q2 ⟨d2, t, j, lv, kk, fr, e0, e5, e7, hd2, hkk, ht, q⟩
      refine ⟨_, e5, rfl, ?_⟩
      by_cases hj : j = 1
      · subst hj
        exact ⟨true, by decide +kernel, andT rfl ⟨_, e7, q H2 _ false (Fr.refl _ _) (hd2.mono (Nat.le_succ _)) (.tup ht (.cons (.int _) (.cons (.str _) .nil)))⟩⟩
      · refine ⟨false, by rw [decide_eq_false (fun e => hj (by have := V.int.inj e; omega))], andF rfl ?_⟩
        have dl2 := hd2.live
        refine ⟨_, e7, _, e0, by show 2 ≤ sizeLine; decide, fun l hl => ?_⟩
        have S1 := same_new (o := .lst [.str "kept", .str "new"]) hl
        refine ⟨d2, l, kk, _, rfl, hd2.same S1, upd_same, by show 0 < 2; decide, by show 2 ≤ 1000; decide, fun e => dl2 (by rw [← e]; exact hl), hkk, fun H3 i v F3 D3 hv => ?_⟩
        obtain ⟨nw, rfl⟩ : ∃ nw, v = .str (rsV nw) := by
          match i, hv with
          | 0, hv => cases hv; exact ⟨false, rfl⟩
          | 1, hv => cases hv; exact ⟨true, rfl⟩
        refine ⟨by show 1 ≤ sizeLine; decide, fun t2 ht2 => ?_⟩
        have F4 := ((Fr.of [d2] S1).trans F3).step (same_new (o := .tup [.str (rsV nw)]) ht2)
        refine catR (F4.sqT ht) (.inl (.inl upd_same)) (.cons (.int _) (.cons (.str _) .nil)) (.cons (.str (rsV nw)) .nil) (by show 2 + 1 ≤ sizeLine; decide) fun u H5 S5 td => ?_
        refine q H5 _ nw (F4.step S5) ((D3.same (same_new ht2)).same S5) ?_
        unfold entD
        rw [if_neg hj]
        exact td
    · refine ⟨_, rfl, ?_⟩
      refine ⟨_, rfl, _, _, rfl, rfl, _, _, rfl, rfl, RgOk.of_le (by decide) (by decide) (by decide) (by decide), fun l1 hl1 => ?_⟩
      refine ⟨l1, _, _, rfl, rfl, upd_same, by decide, by decide, by decide +kernel, fun l2 hl2 => ?_⟩
      refine ⟨by show 1 ≤ sizeLine; decide, fun l3 hl3 => ?_⟩
      have S1 := ((same_new hl1).trans (same_new (o := .lst (List.replicate (2 : Int).toNat (rgV 1 (3 + 1))).flatten) hl2)).trans (same_new (o := .lst [.non]) hl3)
      refine ⟨l2, l3, _, _, rfl, rfl, by rw [upd_ne (ne_of_none upd_same hl3)]; exact upd_same, upd_same, by decide +kernel, fun l4 hl4 => ?_⟩
      have S4 := S1.trans (same_new (o := .lst ((List.replicate (2 : Int).toNat (rgV 1 (3 + 1))).flatten ++ [V.non])) hl4)
      have eL : (List.replicate (2 : Int).toNat (rgV 1 (3 + 1))).flatten ++ [V.non] = [.int (1 : Nat), .int (2 : Nat), .int (3 : Nat), .int (1 : Nat), .int (2 : Nat), .int (3 : Nat), .non] := rfl
      refine ⟨d, l4, k, _, rfl, hd.same S4, upd_same, by decide +kernel, by decide +kernel, fun e => dl (none_back S1 (by rw [← e]; exact hl4)), by omega, fun H3 i0 v0 F3 D3 hv0 => ?_⟩
      rw [eL] at hv0
      obtain ⟨tk, rfl, htk⟩ : ∃ tk : Option Nat, v0 = leftV tk ∧ ∀ t, tk = some t → 1 ≤ t ∧ t ≤ 3 := by
        match i0, hv0 with
        | 0, h => cases h; exact ⟨some 1, rfl, fun t e => by cases e; decide⟩
        | 1, h => cases h; exact ⟨some 2, rfl, fun t e => by cases e; decide⟩
        | 2, h => cases h; exact ⟨some 3, rfl, fun t e => by cases e; decide⟩
        | 3, h => cases h; exact ⟨some 1, rfl, fun t e => by cases e; decide⟩
        | 4, h => cases h; exact ⟨some 2, rfl, fun t e => by cases e; decide⟩
        | 5, h => cases h; exact ⟨some 3, rfl, fun t e => by cases e; decide⟩
        | 6, h => cases h; exact ⟨none, rfl, fun t e => by cases e⟩
      refine ⟨_, rfl, _, rfl, _, _, rfl, rfl, d, x + 1, k + 1, rfl, D3, by omega, by omega, by omega, fun H5 r F5 D5 hr5 => ?_⟩
      refine ⟨by show 6 ≤ sizeLine; decide, fun f hf => ?_⟩
      have F6 := (((Fr.of [d] S4).trans F3).trans F5).step (same_new (o := .lst [leftV tk, .non, .non, .non, .non, .int (r : Nat)]) hf)
      have fd : f ≠ d := fun e => D5.live (by rw [← e]; exact hf)
      refine ⟨by show 4 ≤ sizeLine; decide, fun t4 ht4 => ?_⟩
      have F7 := F6.step (same_new (o := .tup [.int 1, .int 2, .int 3, .int 4]) ht4)
      have hf7 : upd (upd H5 f (.lst [leftV tk, .non, .non, .non, .non, .int (r : Nat)])) t4 (.tup [.int 1, .int 2, .int 3, .int 4]) f = some (.lst [leftV tk, .non, .non, .non, .non, .int (r : Nat)]) := by
        rw [upd_ne (ne_of_none upd_same ht4)]; exact upd_same
      refine ⟨t4, rfl, ⟨_, .inl (.inl upd_same)⟩, ?_⟩
      refine for_it (walk_tup (xs := [.int 1, .int 2, .int 3, .int 4])) (fun i σ H2 => ∃ vs a1 a2 a3, Fr [d] H H2 ∧ Dice H2 d (k + 2 + 3 * i) ∧ SqT K H2 t4 [.int 1, .int 2, .int 3, .int 4] ∧ H2 f = some (.lst vs) ∧ vs[0]? = some (leftV tk) ∧ vs[5]? = some (.int (r : Nat)) ∧ EntsTo K H2 n x i vs ∧
        σ = [some (.ref d), some (.int x), some (.int n), some (.int 3), some (.ref f), a1, a2, a3]) ⟨_, _, _, _, F7, ((D5.same (same_new hf)).same (same_new ht4)).mono (by omega), .inl (.inl upd_same), hf7, rfl, rfl, ⟨rfl, fun j h1 h2 => by omega⟩, rfl⟩ ?_ ?_ ?_
      · rintro i σ H2 _ ⟨vs, a1, a2, a3, _, _, h, _⟩
        exact h
      · rintro i y σ H2 H2' hi ⟨vs, a1, a2, a3, f2, d2, ht2, hf2, v02, v52, en, rfl⟩ ⟨rfl, hy⟩
        have hi4 : i < 4 := hi
        obtain rfl : y = .int ((i + 1 : Nat) : Int) := by
          match i, hi4, hy with
          | 0, _, h => cases h; rfl
          | 1, _, h => cases h; rfl
          | 2, _, h => cases h; rfl
          | 3, _, h => cases h; rfl
        refine ⟨i + 1, x, rfl, rfl, ?_⟩
        obtain ⟨lw, elw⟩ : ∃ lw, lw = if i + 1 = 4 then x else 0 := ⟨_, rfl⟩
        rw [← elw]
        have hlw : lw < n := by rw [elw]; split <;> omega
        have e1 : (n : Int) - (lw : Int) = ((n - lw : Nat) : Int) := by omega
        refine ⟨_, rfl, _, rfl, _, rfl, _, rfl, _, _, rfl, rfl, d, n - lw, k + 2 + 3 * i, ?_, d2, by omega, by omega, by omega, fun H8 r8 F8 D8 hr8 => ?_⟩
        · show [V.ref d, V.int ((n : Int) - (lw : Int))] = _
          rw [e1]
        refine ⟨_, _, rfl, rfl, _, rfl, by show 3 ≤ sizeLine; decide, fun l hl => ?_⟩
        have S9 := same_new (o := .lst [.str "back", .str "back", .str "front"]) hl
        refine ⟨d, l, _, _, rfl, D8.same S9, upd_same, by show 0 < 3; decide, by show 3 ≤ 1000; decide, fun e => D8.live (by rw [← e]; exact hl), by omega, fun H9 i9 v9 F9 D9 hv9 => ?_⟩
        obtain ⟨fr, rfl⟩ : ∃ fr, v9 = .str (plV fr) := by
          match i9, hv9 with
          | 0, hv => cases hv; exact ⟨false, rfl⟩
          | 1, hv => cases hv; exact ⟨false, rfl⟩
          | 2, hv => cases hv; exact ⟨true, rfl⟩
        refine ⟨by show 2 ≤ sizeLine; decide, fun t ht => ?_⟩
        have S10 := same_new (o := .tup [.int ((lw + r8 : Nat) : Int), .str (plV fr)]) ht
        have FA := ((F8.step S9).trans F9).step S10
        refine ⟨d, t, i + 1, lw + r8, _, fr, rfl, rfl, rfl, D9.same S10, by omega, .inl (.inl upd_same), fun H11 v nw F11 D11 td => ?_⟩
        have FB := FA.trans F11
        have hf11 := FB.keep _ _ hf2 fun m => fd (List.mem_singleton.1 m)
        have lv := en.len
        refine ⟨_, rfl, _, rfl, f, vs, _, i + 1, rfl, rfl, hf11, ixN_nat (by omega), ?_⟩
        have Ff : Fr [f] H11 (upd H11 f (.lst (vs.set (i + 1) v))) := Fr.wr hf11 trivial (List.mem_singleton.2 rfl)
        have hfH : H f = none := by
          cases e : H f with
          | none => rfl
          | some o =>
            have := (((Fr.of [d] S4).trans F3).trans F5).keep _ _ e fun m => fd (List.mem_singleton.1 m)
            rw [hf] at this
            cases this
        refine ⟨vs.set (i + 1) v, _, _, _, (f2.trans FB).updNew hfH, D11.fr Ff (fun m => fd (List.mem_singleton.1 m).symm) |>.mono (by omega), Ff.sqT (FB.sqT ht2), upd_same, ?_, ?_, ⟨by rw [List.length_set]; exact lv, fun j h1 h2 => ?_⟩, rfl⟩
        · rw [List.getElem?_set_ne (by omega)]; exact v02
        · rw [List.getElem?_set_ne (by omega)]; exact v52
        · by_cases hj : j = i + 1
          · subst hj
            refine ⟨v, ⟨lw + r8, fr, nw⟩, by rw [List.getElem?_set_self (by omega)], td.fr Ff, by show lw + r8 < n; omega, fun e => ?_⟩
            show x ≤ lw + r8
            rw [elw, if_pos e]
            omega
          · obtain ⟨v', e', a, b, c⟩ := en.at_ j h1 (by omega)
            exact ⟨v', e', by rw [List.getElem?_set_ne (by omega)]; exact a, (b.fr FB).fr Ff, c⟩
      · rintro σ H2 ⟨vs, a1, a2, a3, f2, d2, ht2, hf2, v02, v52, en, rfl⟩
        refine ⟨_, rfl, f, vs, rfl, .inl ⟨.inl (.inl hf2), fun t ht => ?_⟩⟩
        have S3' := same_new (o := .tup vs) ht
        obtain ⟨u1, e1, b1, c1, g1, _⟩ := en.at_ 1 (by decide) (by decide)
        obtain ⟨u2, e2, b2, c2, g2, _⟩ := en.at_ 2 (by decide) (by decide)
        obtain ⟨u3, e3, b3, c3, g3, _⟩ := en.at_ 3 (by decide) (by decide)
        obtain ⟨u4, e4, b4, c4, g4, g5⟩ := en.at_ 4 (by decide) (by decide)
        have hvs : vs = [leftV tk, u1, u2, u3, u4, .int (r : Nat)] := by
          match vs, en.len, v02, v52, b1, b2, b3, b4 with
          | [_, _, _, _, _, _], _, h0, h5, h1, h2, h3, h4 =>
            cases h0; cases h5; cases h1; cases h2; cases h3; cases h4
            rfl
        have F0 := f2.step S3'
        refine qq _ t ⟨tk, e1, e2, e3, e4, r⟩ F0 ((d2.same S3').mono (Nat.le_of_eq (show k + 2 + 3 * 4 = k + 14 by omega))) ⟨htk, g1, g2, g3, g4, g5 rfl, by show r ≤ x; omega⟩ ⟨u1, u2, u3, u4, .inl (.inl (by rw [upd_same, hvs])), ⟨rfl, rfl, c1.same S3', c2.same S3', c3.same S3', c4.same S3'⟩⟩
end
end Tb
set_option Elab.async false
set_option linter.all false
set_option maxRecDepth 100000
set_option maxHeartbeats 4000000
/-! The law's plain book. -/
namespace Tb
open PySem PySem.Spec PyProof.Rows L2
theorem Paired.snoc {α β : Type} {F : α → β → Prop} {a : α} {b : β} (h : F a b) : ∀ {xs : List α} {ys : List β}, Paired F xs ys → Paired F (xs ++ [a]) (ys ++ [b])
  | _, _, .nil => .cons h .nil
  | _, _, .cons k t => .cons k (Paired.snoc h t)
section
variable {P : Program} {w : World} {K : PySem.W.Frag} {mg : Str → Option Value} {base : Heap}
structure PlainAt (K : PySem.W.Frag) (H : Hp) (t : Addr) (b : Bk) : Prop where
  ex : ∃ ll rt ts, SqT K H t [.ref ll, .ref rt] ∧ H ll = some (.lst (ts.map V.ref)) ∧ Paired (LevD K H) ts b.levels ∧ SqT K H rt (ranksV b)
def sp__law_book (K : PySem.W.Frag) : Sp := fun vs H Q _ => ∃ (d : Addr), vs = [.ref d, .int 3, .int 3, .int 3] ∧ Dice H d 0 ∧ ∀ H' t b, Fr [d] H H' → BkOk b → PlainAt K H' t b → Q (.ref t) H'
theorem k__law_book (T : Tx K mg base) : Fnc P w K mg base 4 "_law_book" (sp__law_book K) := by
  refine fnc_ok (D__law_book T) (g__law_book T) sc__law_book (fun vs H Q E h => ?_) (fun cdv A outer s H vs Q hr h => ?_)
  · obtain ⟨d, rfl, _⟩ := h; rfl
  · obtain ⟨d, rfl, hd, qq⟩ := h
    have dl := hd.live
    refine ⟨_, (pss_cons (ps_set (i := 4) sc__law_book.nd rfl (Or.inr rfl) (pe_op op_add pe_int (pe_f (k__law_roll T) hr (by decide) rfl (pa_cons (pv 0) (pa_cons (pv 1) pa_nil)))))
      (pss_cons (ps_setLc (i := 5) (own := [("_law_index", 6)]) rfl sc__law_book.nd rfl rfl (sw_true rfl rfl rfl (by decide +kernel)) (pi_range1 rfl (f_range T) (pa_cons (pv 4) pa_nil)) (blkOk_by (own := [("_law_index", 6)]) (N := N__law_book) (sc := C8.fnScope s__law_book) (by decide +kernel)) (fun _ _ _ _ _ => (pg_name (i := 6) sc__law_book.nd rfl (Or.inl rfl))) (fun _ _ _ _ _ => pts_nil) (fun _ _ _ _ _ => (pe_f (k__law_level T) hr (by decide) rfl (pa_cons (pv 0) (pa_cons (pv 6) (pa_cons (pv 4) (pa_cons (pv 3) pa_nil)))))))
      (pss_one (ps_ret (pe_tup (pa_cons (pv 5) (pa_cons (pe_callTy call_tuple_of rfl (f_tuple T) b_tuple (pa_cons (pe_lc (own := [("_law_turn", 7)]) rfl sc__law_book.nd (pi_range1 rfl (f_range T) (pa_cons (pe_op op_add pe_int (pe_f (k__law_roll T) hr (by decide) rfl (pa_cons (pv 0) (pa_cons (pv 2) pa_nil)))) pa_nil)) (blkOk_by (own := [("_law_turn", 7)]) (N := N__law_book) (sc := C8.fnScope s__law_book) (by decide +kernel)) (fun _ _ _ _ _ => (pg_name (i := 7) sc__law_book.nd rfl (Or.inl rfl))) (fun _ _ _ _ _ => pts_nil) (fun _ _ _ _ _ => (pe_f (k__law_roll T) hr (by decide) rfl (pa_cons (pv 0) (pa_cons (pv 4) pa_nil))))) pa_nil)) pa_nil))))))), ?_⟩
    refine ⟨_, rfl, _, rfl, d, 3, 0, rfl, hd, by decide, by decide, by decide, fun H1 r F1 D1 hr1 => ?_⟩
    refine ⟨_, _, rfl, rfl, ?_⟩
    obtain ⟨n, en⟩ : ∃ n, n = 1 + r := ⟨_, rfl⟩
    have e1 : (fun i j => V.int (i + j)) (1 : Int) (r : Int) = V.int (n : Int) := by
      show V.int (1 + (r : Int)) = _
      congr 1
      omega
    rw [e1]
    refine ⟨_, rfl, n, rfl, by omega, by omega, fun D hD => ?_⟩
    have F2 := F1.step (same_new (o := .lst []) hD)
    have Dd : D ≠ d := fun e => D1.live (by rw [← e]; exact hD)
    have hDH : H D = none := by
      cases e : H D with
      | none => rfl
      | some o =>
        have := F1.keep _ _ e fun m => Dd (List.mem_singleton.1 m)
        rw [hD] at this
        cases this
    refine lc_it (walk_range (lo := 0) (n := n)) (fun i H2 => Fr [d] H H2 ∧ Dice H2 d (1 + 14 * i) ∧ ∃ (ts : List Addr) (ls : List Lev), H2 D = some (.lst (ts.map V.ref)) ∧ Paired (LevD K H2) ts ls ∧ ls.length = i ∧ ∀ j l, ls[j]? = some l → LevOk n j l) ⟨F2, D1.same (same_new hD), [], [], upd_same, .nil, rfl, fun j l h => by simp at h⟩ (fun _ _ _ _ => trivial) ?_ ?_
    · rintro i x H2 H3 hi ⟨f2, d2, ts, ls, hD2, hp, hl, ok⟩ ⟨rfl, rfl⟩
      refine ⟨rfl, _, rfl, _, rfl, _, rfl, _, rfl, d, i, n, 1 + 14 * i, ?_, d2, by omega, hi, by omega, fun H4 t l F4 D4 lo ld => ?_⟩
      · show [V.ref d, V.int (0 + (i : Int)), V.int (n : Int), V.int 3] = _
        rw [Int.zero_add]
      · have Dn : D ∉ [d] := fun m => Dd (List.mem_singleton.1 m)
        have hD4 := F4.keep _ _ hD2 Dn
        have lts : ts.length = i := by rw [Paired.len hp]; exact hl
        have F5 : Fr [D] H4 (upd H4 D (.lst (ts.map V.ref ++ [.ref t]))) := Fr.wr hD4 trivial (List.mem_singleton.2 rfl)
        refine ⟨_, hD4, by rw [List.length_map, lts]; exact Nat.lt_of_lt_of_le (show i < 3 by omega) (by decide), (f2.trans F4).updNew hDH, (D4.fr F5 fun m => Dd (List.mem_singleton.1 m).symm).mono (by omega), ts ++ [t], ls ++ [l], by rw [List.map_append]; exact upd_same, Paired.snoc (ld.fr F5) (Paired.imp (fun _ _ z => (z.fr F4).fr F5) hp), by rw [List.length_append, hl]; rfl, fun j l' hj => ?_⟩
        by_cases hlt : j < ls.length
        · rw [List.getElem?_append_left hlt] at hj
          exact ok j l' hj
        · rw [List.getElem?_append_right (by omega)] at hj
          have h0 : j - ls.length = 0 := by
            have := (List.getElem?_eq_some_iff.1 hj).1
            simp at this
            omega
          rw [h0] at hj
          cases hj
          rw [show j = i by omega]
          exact lo
    · rintro H2 ⟨f2, d2, ts, ls, hD2, hp, hl, ok⟩
      refine ⟨_, rfl, _, rfl, _, rfl, d, 3, _, rfl, d2, by decide, by decide, by omega, fun H3 r2 F3 D3 hr2 => ?_⟩
      refine ⟨_, _, rfl, rfl, ?_⟩
      obtain ⟨m, em⟩ : ∃ m, m = 1 + r2 := ⟨_, rfl⟩
      have e2 : (fun i j => V.int (i + j)) (1 : Int) (r2 : Int) = V.int (m : Int) := by
        show V.int (1 + (r2 : Int)) = _
        congr 1
        omega
      rw [e2]
      refine ⟨m, rfl, by omega, by omega, fun E hE => ?_⟩
      have Dn : D ∉ [d] := fun m => Dd (List.mem_singleton.1 m)
      have hD3 := F3.keep _ _ hD2 Dn
      have Ed : E ≠ d := fun e => D3.live (by rw [← e]; exact hE)
      have ED : D ≠ E := ne_of_none hD3 hE
      have hEH : H E = none := by
        cases e : H E with
        | none => rfl
        | some o =>
          have := (f2.trans F3).keep _ _ e fun m => Ed (List.mem_singleton.1 m)
          rw [hE] at this
          cases this
      have FE := (f2.trans F3).step (same_new (o := .lst []) hE)
      refine lc_it (walk_range (lo := 0) (n := m)) (fun i H4 => Fr [d] H H4 ∧ Fr [d, E] H3 H4 ∧ Dice H4 d (50 + i) ∧ ∃ rs : List Nat, H4 E = some (.lst (rs.map fun (r : Nat) => V.int (r : Int))) ∧ rs.length = i ∧ ∀ r ∈ rs, r < n) ⟨FE, (Fr.refl _ _).updNew hE, (D3.same (same_new hE)).mono (by omega), [], upd_same, rfl, fun _ h => absurd h List.not_mem_nil⟩ (fun _ _ _ _ => trivial) ?_ ?_
      · rintro i x H4 H5 hi ⟨f4, g4, d4, rs, hE4, lr, hr⟩ ⟨rfl, rfl⟩
        refine ⟨rfl, _, rfl, _, rfl, d, n, _, rfl, d4, by omega, by omega, by omega, fun H6 r6 F6 D6 hr6 => ?_⟩
        have En : E ∉ [d] := fun m => Ed (List.mem_singleton.1 m)
        have hE6 := F6.keep _ _ hE4 En
        have F7 : Fr [E] H6 (upd H6 E (.lst (rs.map (fun (r : Nat) => V.int (r : Int)) ++ [.int (r6 : Int)]))) := Fr.wr hE6 trivial (List.mem_singleton.2 rfl)
        refine ⟨_, hE6, by rw [List.length_map, lr]; exact Nat.lt_of_lt_of_le (show i < 3 by omega) (by decide), (f4.trans F6).updNew hEH, (g4.trans (F6.mono fun a m => by rw [List.mem_singleton.1 m]; exact List.mem_cons_self)).trans (F7.mono fun a m => by rw [List.mem_singleton.1 m]; simp), (D6.fr F7 fun m => Ed (List.mem_singleton.1 m).symm).mono (by omega), rs ++ [r6], by rw [List.map_append]; exact upd_same, by rw [List.length_append, lr]; rfl, fun r h => ?_⟩
        rcases List.mem_append.1 h with h | h
        · exact hr r h
        · rw [List.mem_singleton.1 h]; exact hr6
      · rintro H4 ⟨f4, g4, d4, rs, hE4, lr, hr⟩
        refine ⟨E, _, rfl, .inl ⟨.inl (.inl hE4), fun u hu => ?_⟩⟩
        have S5 := same_new (o := .tup (rs.map fun (r : Nat) => V.int (r : Int))) hu
        refine ⟨by show 2 ≤ sizeLine; decide, fun t ht => ?_⟩
        have S6 := S5.trans (same_new (o := .tup [.ref D, .ref u]) ht)
        have GD : D ∉ [d, E] := fun m => (List.mem_cons.1 m).elim Dd fun m => ED (List.mem_singleton.1 m)
        have lev : ∀ {a l}, LevD K H2 a l → LevD K (upd (upd H4 u (.tup (rs.map fun (r : Nat) => V.int (r : Int)))) t (.tup [.ref D, .ref u])) a l := fun z => ((z.fr F3).fr g4).fr (Fr.of [] S6)
        refine qq _ t ⟨ls, rs⟩ (f4.step S6) ⟨by show 1 ≤ ls.length; omega, by show ls.length ≤ 3; omega, by show 1 ≤ rs.length; omega, by show rs.length ≤ 3; omega, fun r h => by show r < ls.length; rw [hl]; exact hr r h, fun j l h => by show LevOk ls.length j l; rw [hl]; exact ok j l h⟩
          ⟨D, u, ts, .inl (.inl upd_same), S6 _ _ (g4.keep _ _ hD3 GD), Paired.imp (fun _ _ z => lev z) hp, .inl (.inl ?_)⟩
        rw [upd_ne (ne_of_none upd_same ht)]
        exact upd_same
end
end Tb
set_option Elab.async false
set_option linter.all false
set_option maxRecDepth 100000
set_option maxHeartbeats 4000000
/-! The law's book, made. -/
namespace Tb
open PySem PySem.Spec PyProof.Rows L2
theorem levSm {n i : Nat} {l : Lev} (h : LevOk n i l) (hn : n ≤ 3) (hi : i < n) : LevSm l := by
  have := h.used
  have := h.wake
  have := h.way
  have := h.lost
  have := h.takes
  exact ⟨h.ticks, by omega, by omega, by omega, by omega, by omega⟩
theorem LevAt.frL {K : PySem.W.Frag} {H H' : Hp} {a D : Addr} {l : Lev} {acc : List V} (h : LevAt K H a l) (f : Fr [D] H H') (hD : H D = some (.lst acc)) : LevAt K H' a l := by
  obtain ⟨dx, d, us, wk, wy, lo, h1, h2, h3, h4, h5, h6⟩ := h.ex
  have ne : ∀ {b : Addr} {o : HO}, H b = some o → (∀ xs, o ≠ .lst xs) → b ∉ [D] := fun e n m => by
    rw [List.mem_singleton.1 m, hD] at e
    exact n acc (Option.some.inj e).symm
  exact ⟨dx, d, us, wk, wy, lo, f.keep _ _ h1 (ne h1 fun xs e => by cases e), f.keep _ _ h2 (ne h2 fun xs e => by cases e), h3.fr f, h4.fr f, h5.fr f, h6.fr f⟩
theorem paired_of {F : Addr → Lev → Prop} : ∀ {ys : List V} {ls : List Lev}, ys.length = ls.length → (∀ (i : Nat) (y : V), ys[i]? = some y → ∃ (a : Addr) (l : Lev), y = V.ref a ∧ ls[i]? = some l ∧ F a l) → ∃ as : List Addr, ys = as.map V.ref ∧ Paired F as ls
  | [], [], _, _ => ⟨[], rfl, .nil⟩
  | [], _ :: _, h, _ => by simp at h
  | _ :: _, [], h, _ => by simp at h
  | y :: ys, l :: ls, h, k => by
    obtain ⟨a, l', e1, e2, e3⟩ := k 0 y rfl
    cases e1
    cases e2
    obtain ⟨as, e4, e5⟩ := paired_of (ys := ys) (ls := ls) (by simpa using h) fun i z hz => k (i + 1) z (by simpa using hz)
    exact ⟨a :: as, by rw [e4]; rfl, .cons e3 e5⟩
section
variable {P : Program} {w : World} {K : PySem.W.Frag} {mg : Str → Option Value} {base : Heap}
def sp__law_level_made (K : PySem.W.Frag) : Sp := fun vs H Q _ => ∃ (t : Addr) (l : Lev), vs = [.ref t] ∧ LevD K H t l ∧ LevSm l ∧ ∀ H' a, Same H H' → LevAt K H' a l → Q (.ref a) H'
theorem k__law_level_made (T : Tx K mg base) : Fnc P w K mg base 8 "_law_level_made" (sp__law_level_made K) := by
  obtain ⟨fd, F, G⟩ := k_Level___init__ (P := P) (w := w) T
  obtain ⟨its, kb⟩ := F.kbindsD (ps := ["self", "ticks", "used", "wake", "way", "lost", "takes"]) 2 ["used", "wake", "way", "lost", "takes"] (fun us _ ws => us ++ ws) (by simp) (fun a _ c => vals_app a c) fun T kV doc pm an cdv ct us its ws h1 h2 h3 => match us, its, ws, h1, h2, h3 with
    | [_, _], [_], [_, _, _, _, _], _, _, _ => ⟨_, rfl, rfl⟩
  refine fnc_ok (D__law_level_made T) (g__law_level_made T) sc__law_level_made (fun vs H Q E h => ?_) (fun cdv A outer s H vs Q hr h => ?_)
  · obtain ⟨t, l, rfl, _⟩ := h; rfl
  · obtain ⟨t, l, rfl, hd, sm, qq⟩ := h
    obtain ⟨us, wk, wy, lo, h1, en⟩ := hd.ex
    refine ⟨_, (pss_cons (ps_asg (pv 0) (pg_tup (by rfl) (pgs_cons (pg_name (i := 1) sc__law_level_made.nd rfl (Or.inl rfl)) (pgs_cons (pg_name (i := 2) sc__law_level_made.nd rfl (Or.inl rfl)) (pgs_cons (pg_name (i := 3) sc__law_level_made.nd rfl (Or.inl rfl)) (pgs_cons (pg_name (i := 4) sc__law_level_made.nd rfl (Or.inl rfl)) (pgs_cons (pg_name (i := 5) sc__law_level_made.nd rfl (Or.inl rfl)) (pgs_cons (pg_name (i := 6) sc__law_level_made.nd rfl (Or.inl rfl)) pgs_nil))))))))
      (pss_one (ps_ret (pe_makeN (n := 1) (k_Level T) G (hr.mono (by decide)) rfl (g_Level T) kb pass0 (pa_cons (pv 1) pa_nil) (pk_cons (pv 2) (pk_cons (pv 3) (pk_cons (pv 4) (pk_cons (pv 5) (pk_cons (pv 6) pk_nil))))))))), ?_⟩
    refine ⟨_, rfl, t, _, rfl, h1, rfl, _, _, rfl, _, _, rfl, _, _, rfl, _, _, rfl, _, _, rfl, _, _, rfl, rfl, ?_⟩
    refine ⟨_, rfl, _, rfl, _, rfl, _, rfl, _, rfl, _, rfl, rfl, rfl, fun a dx ha hdx ne => ?_⟩
    have S1 : Same H (upd (upd H dx (.own a)) a (.ins (He.ga K "Level") dx [])) := (same_new hdx).trans (same_new (by rw [upd_ne ne.symm]; exact ha))
    exact ⟨a, dx, l.ticks, us, wk, wy, lo, l.takes, l, rfl, upd_same, en.fr (Fr.of [] S1), sm, fun H' F1 la => ⟨rfl, qq H' a (made_same F1 ha hdx) la⟩⟩
def sp_Book_of (K : PySem.W.Frag) : Sp := fun vs H Q _ => ∃ (lt rt : Addr) (as : List Addr) (b : Bk), vs = [.ref (He.ga K "Book"), .ref lt, .ref rt] ∧ SqT K H lt (as.map V.ref) ∧ Paired (LevAt K H) as b.levels ∧ SqT K H rt (ranksV b) ∧ BkOk b ∧ ∀ H' a, Same H H' → BkAt K H' a b → Q (.ref a) H'
theorem o_Book_of (T : Tx K mg base) : ∃ fd, FnOk P w K mg base CX0 9 (He5.wf K (He.ga K "Book") "classmethod" "of") fd ["cls", "levels", "ranks"] (sp_Book_of K) ∧ PySem.W.keepIn K (.ref (He5.wf K (He.ga K "Book") "classmethod" "of")) = true ∧ Binds K fd ["cls", "levels", "ranks"] [] := by
  refine fn_ok (D_Book_of T) sc_Book_of (fun vs H Q E h => ?_) (fun cdv A outer s H vs Q hr h => ?_) (fun _ _ _ _ h => h)
  · obtain ⟨lt, rt, as, b, rfl, _⟩ := h; rfl
  · obtain ⟨lt, rt, as, b, rfl, hl, hp, hrt, bo, qq⟩ := h
    refine ⟨_, pss_cons (ps_if (pt_not (pt_val (pe_isi T rfl (pv 1) rfl (f_tuple T) b_tuple))) (pss_one ps_never) pss_nil) (pss_one (ps_ret (pe_makeSK (i := 0) (k_Book T) (k_Book___init__ T) (hr.mono (by decide)) rfl (Or.inl rfl) (pv 1) (pk_cons (pv 2) pk_nil)))), ?_⟩
    refine ⟨_, rfl, _, _, true, rfl, tyT hl, by decide +kernel, _, rfl, andF rfl ?_⟩
    refine ⟨rfl, _, rfl, _, rfl, lt, _, rfl, rfl, .inl hl, fun a dx ha hdx ne => ?_⟩
    have la : as.length = b.levels.length := Paired.len hp
    have S1 : Same H (upd (upd H dx (.own a)) a (.ins (He.ga K "Book") dx [])) := (same_new hdx).trans (same_new (by rw [upd_ne ne.symm]; exact ha))
    have b3 := bo.three
    refine ⟨.ref a, as.map V.ref, .ref rt, rfl, rfl, by rw [List.length_map, la]; exact Nat.le_trans b3 (by decide), fun p hp0 => ?_⟩
    have S2 := S1.trans (same_new (o := .tup (as.map V.ref)) hp0)
    have ap : a ≠ p := ne_of_none upd_same hp0
    refine ⟨a, dx, p, rt, as, b, rfl, by rw [upd_ne ap]; exact upd_same, .inl (.inl upd_same), Paired.imp (fun _ _ z => z.same S2) hp, (Fr.of [] S2).sqT hrt, bo, fun H' F1 B => ⟨rfl, qq H' a (fun c o e => F1.keep c o (S2 c o e) fun m => ne_of_none e ha (List.mem_singleton.1 m)) B⟩⟩
def sp__law_book_made (K : PySem.W.Frag) : Sp := fun vs H Q _ => ∃ (t : Addr) (b : Bk), vs = [.ref t] ∧ PlainAt K H t b ∧ BkOk b ∧ ∀ H' a, Same H H' → BkAt K H' a b → Q (.ref a) H'
theorem k__law_book_made (T : Tx K mg base) : Fnc P w K mg base 10 "_law_book_made" (sp__law_book_made K) := by
  obtain ⟨fb, Gb, kpb, bnb⟩ := o_Book_of (P := P) (w := w) T
  have GR : FnR P w K mg base CX0 9 (He5.wf K (He.ga K "Book") "classmethod" "of") (sp_Book_of K) := (FnOk.raw Gb bnb .nil).imp fun vs H Q E h => by rw [List.append_nil]; exact h
  refine fnc_ok (D__law_book_made T) (g__law_book_made T) sc__law_book_made (fun vs H Q E h => ?_) (fun cdv A outer s H vs Q hr h => ?_)
  · obtain ⟨t, b, rfl, _⟩ := h; rfl
  · obtain ⟨t, b, rfl, hb, bo, qq⟩ := h
    obtain ⟨ll, rt, ts, h1, h2, h3, h4⟩ := hb.ex
    refine ⟨_, pss_one (ps_ret (ClX.pe_cmeth (C8.pe_gc (v := .ref (He.ga K "Book")) rfl ⟨_, g_Book T, rfl⟩) (cr_Book T) (cm_Book_of T) GR (hr.mono (by decide)) pass0 (pa_cons (pe_callTy call_tuple_of rfl (f_tuple T) b_tuple (pa_cons (pe_lc (own := [("_law_one", 1)]) rfl sc__law_book_made.nd (pi_list (pe_ix ix_tup (pv 0) pe_int (fun _ _ => rfl))) (blkOk_by (own := [("_law_one", 1)]) (N := N__law_book_made) (sc := C8.fnScope s__law_book_made) (by decide +kernel)) (fun _ _ _ _ _ => (pg_name (i := 1) sc__law_book_made.nd rfl (Or.inl rfl))) (fun _ _ _ _ _ => pts_nil) (fun _ _ _ _ _ => (pe_f (k__law_level_made T) hr (by decide) rfl (pa_cons (pv 1) pa_nil)))) pa_nil)) (pa_cons (pe_ix ix_tup (pv 0) pe_int (fun _ _ => rfl)) pa_nil)))), ?_⟩
    refine ⟨rfl, _, rfl, t, _, _, _, rfl, rfl, h1, atI_nat (j := 0) rfl, ll, rfl, ⟨_, .inl (.inl h2)⟩, fun D hD => ?_⟩
    have lt : ts.length = b.levels.length := Paired.len h3
    have b3 := bo.three
    refine lc_all (walk_list (xs := ts.map V.ref)) (fun i y H' => ∃ a l, y = .ref a ∧ b.levels[i]? = some l ∧ LevAt K H' a l) hD (by rw [List.length_map, lt]; exact Nat.lt_of_le_of_lt b3 (by decide)) (fun _ _ _ _ => same_at) (fun H2 f2 _ => .inl (.inl (f2.keep _ _ h2 fun m => ne_of_none h2 hD (List.mem_singleton.1 m)))) ?_ ?_ ?_
    · rintro i y H2 H3 f ⟨acc, hacc⟩ ⟨a, l, e, hl, la⟩
      exact ⟨a, l, e, hl, la.frL f hacc⟩
    · rintro i x H2 H3 Q' hi S2 ⟨rfl, hx⟩ q'
      rw [List.length_map, lt] at hi
      obtain ⟨tl, htl, ld⟩ := Paired.get h3 (List.getElem?_eq_getElem hi)
      rw [List.getElem?_map, htl] at hx
      cases hx
      refine ⟨rfl, _, rfl, tl, _, rfl, ld.fr (Fr.of [] S2), levSm (bo.lev i _ (List.getElem?_eq_getElem hi)) b3 hi, fun H4 a S4 la => q' _ H4 S4 ⟨a, _, rfl, List.getElem?_eq_getElem hi, la⟩⟩
    · intro H2 ys S2 hD2 l2 r2
      rw [List.length_map, lt] at l2
      obtain ⟨as, rfl, pas⟩ := paired_of l2 r2
      refine ⟨D, _, rfl, .inl ⟨.inl (.inl hD2), fun u hu => ?_⟩⟩
      have S3 := S2.trans (same_new (o := .tup (as.map V.ref)) hu)
      refine ⟨_, rfl, t, _, _, _, rfl, rfl, (Fr.of [] S3).sqT h1, atI_nat (j := 1) rfl, ?_⟩
      exact ⟨u, rt, as, b, rfl, .inl (.inl upd_same), Paired.imp (fun _ _ z => z.same (same_new hu)) pas, (Fr.of [] S3).sqT h4, bo, fun H' a S4 B => qq H' a (S3.trans S4) B⟩
end
end Tb
set_option Elab.async false
set_option linter.all false
set_option maxRecDepth 100000
set_option maxHeartbeats 4000000
/-! Tables beside processors; a def that makes a lambda. -/
namespace Tb
open PySem PySem.Spec PyProof.Rows L2
/-- instances and lists -/
def InsLst : HO → Prop
  | .ins _ _ _ => True
  | .lst _ => True
  | _ => False
abbrev Kinds (H : Hp) (S : List Addr) : Prop := ∀ a ∈ S, ∃ o, H a = some o ∧ InsLst o
theorem kinds_cons {H : Hp} {a : Addr} {o : HO} {S : List Addr} (h : H a = some o) (k : InsLst o) (t : Kinds H S) : Kinds H (a :: S) := fun b hb => by
  rcases List.mem_cons.1 hb with rfl | hb
  · exact ⟨o, h, k⟩
  · exact t b hb
theorem kinds_pair {H : Hp} : ∀ {as : List Addr} {qs : List (List Nat)}, Paired (IntsAt H) as qs → Kinds H as
  | _, _, .nil => fun _ h => absurd h List.not_mem_nil
  | _, _, .cons h t => kinds_cons h trivial (kinds_pair t)
section
variable {K : PySem.W.Frag} {H : Hp}
theorem QuAt.kinds {q : Addr} {qs : List (List Nat)} {S : List Addr} (h : QuAt K H q qs S) : Kinds H S := by
  obtain ⟨dx, ll, as, h1, h2, h3, rfl⟩ := h.ex
  exact kinds_cons h1 trivial (kinds_cons h2 trivial (kinds_pair h3))
theorem CrsAt.kinds {c ba : Addr} {x : Crs} {S : List Addr} (h : CrsAt K H c ba x S) : Kinds H S := by
  obtain ⟨dx, tl, q, Sq, h1, ⟨xs, h2, _⟩, h3, rfl⟩ := h.ex
  exact kinds_cons h1 trivial (kinds_cons h2 trivial h3.kinds)
theorem WorkAt.kinds {w ba : Addr} {x : Wk} {S : List Addr} (h : WorkAt K H w ba x S) : Kinds H S := by
  obtain ⟨dx, c, wl, tl, ol, cl, Sc, h1, h2, ⟨x3, h3, _⟩, ⟨x4, h4, _⟩, ⟨x5, h5, _⟩, ⟨x6, h6, _⟩, rfl⟩ := h.ex
  exact kinds_cons h1 trivial (kinds_cons h3 trivial (kinds_cons h4 trivial (kinds_cons h5 trivial (kinds_cons h6 trivial h2.kinds))))
theorem ProcAt.kinds {p ba : Addr} {z : Wk} {und : List Cl} {S : List Addr} (h : ProcAt K H p ba z und S) : Kinds H S := by
  obtain ⟨dx, o, ut, So, h1, h2, h3, rfl⟩ := h.ex
  exact kinds_cons h1 trivial h2.kinds
end
theorem Dice.kinds {H : Hp} {d : Addr} {n : Nat} (h : Dice H d n) : Kinds H [d] := by
  obtain ⟨a, b, c, h1, _⟩ := h.ex
  exact kinds_cons h1 trivial fun _ h => absurd h List.not_mem_nil
theorem tabs_fr {T : List (Addr × Str)} {U : List Addr} {H H' : Hp} (t : LamX.Tabs T H) (f : Fr U H H') (k : Kinds H U) : LamX.Tabs T H' := by
  intro p hp
  obtain ⟨ps, h1, h2, h3⟩ := t p hp
  have off : ∀ {a : Addr} {o : HO}, H a = some o → ¬ InsLst o → a ∉ U := fun e n m => by
    obtain ⟨o', e', k'⟩ := k _ m
    rw [e] at e'
    cases e'
    exact n k'
  refine ⟨ps, f.keep _ _ h1 (off h1 fun z => z), h2, fun p' cv hc => ?_⟩
  obtain ⟨c, e1, e2⟩ := h3 p' cv hc
  exact ⟨c, e1, f.keep _ _ e2 (off e2 fun z => by unfold LamX.CodeO at z; exact z)⟩
theorem tabs_same {T : List (Addr × Str)} {H H' : Hp} (t : LamX.Tabs T H) (s : Same H H') : LamX.Tabs T H' := tabs_fr t (Fr.of [] s) fun _ h => absurd h List.not_mem_nil
section
variable {P : Program} {w : World} {K : PySem.W.Frag} {mg : Str → Option Value} {base : Heap}
/-- as okG, the code object told -/
theorem okGc {x qual : Str} {params : Arguments} {body : List Stmt} {scope : Scope} {dvs : List V} {kws : List (Str × V)} {f : Addr} {fd : FuncData} {N ps : List Str} {k : Nat} {sp : Sp} (F : FunD K x qual params body scope dvs kws f fd) (S : FnScope N ps scope) (len : ∀ vs H Q E, sp vs H Q E → vs.length = ps.length) (p : Str × Option Str) (hp : He.fAd K p = f)
    (hbody : ∀ (A : Around) (outer : List Env) (s : Shared) (H : Hp) (vs : List V) (Q : VK), A.guards = some [] → Room k (A.deeper (envOfC qual scope s.heap.objs.size f (.ref (He.codeOf K p)))) → sp vs H Q E0 →
      ∃ t, PSs (cxOf CX0 P w K mg base N qual scope f (.ref (He.codeOf K p)) A outer s H E0).nox body t ∧ t { nx := fun _ H' => Q .non H', rt := Q } (start N vs) H) : FnG P w K mg base (k + 1) f fd ps sp := by
  obtain ⟨oc, od, dV, kV, doc, pm, an, cdv, ct, osl, rfl, lk, hcd, h1, h2⟩ := F.ex
  obtain ⟨c, rfl⟩ := He.codeIn_ref hcd
  have ec : He.codeOf K p = c := He.codeOf_eq (by rw [hp]; exact lk) rfl
  rw [ec] at hbody
  refine ⟨len, fun A outer s H args us vs Q hG hr e0 hb r hsp => ?_⟩
  have here : ∀ b o, base.get? b = some o → s.heap.get? b = some o := fun b o e => (e0.bs b o e).1
  have KX := e0.mod.kin.keeps here
  have lim := e0.mod.nolimit.keeps here
  have hy : ∀ y ∈ ps.zip us, scope.names.lookup y.1 = some .local ∨ (scope.names.lookup y.1 = some .cell ∧ ((cellsFrom (s.heap.objs.size + 1) scope.names []).lookup y.1).isSome = true) := fun y hy => by
    rcases S.par y.1 (List.of_mem_zip hy).1 with q | q
    · exact .inl q
    · exact .inr ⟨q, PySem.W.cellsFrom_some _ _ _ (.inl q)⟩
  refine codeAny_call_function hr.depth (KX _ _ lk) rfl S.co S.gen rfl (PySem.W.codeRec_of KX hcd) (hb _ _ _ _ (wpAny_newFunctionEnv_cells S.kind hy fun env he s1 x => ?_))
  cases he
  refine ⟨lim.keeps x.toInCall.keep, codeAny_func ?_⟩
  obtain ⟨t, ht, hq⟩ := hbody A outer s H vs Q hG (hr.deeper _) hsp
  have I0 := inv_start (CX := CX0) (E := E0) (cd := .ref c) S hr.hd e0 (len _ _ _ _ hsp) r x
  refine wpAny_mono (ht.run [] s1 (start N vs) H _ (I0.wish _) hq) (fun fl s' hs => ?_) (fun _ _ z => z.elim)
  match fl, hs with
  | .brk, hs => exact hs.elim fun _ h1 => h1.elim fun _ h2 => h2.2.elim
  | .cont, hs => exact hs.elim fun _ h1 => h1.elim fun _ h2 => h2.2.elim
  | .next, ⟨_, H', J, q⟩ => exact ⟨.none, rfl, .non, H', J.os, J.bare, J.base, J.hok, rfl, q⟩
  | .ret u, ⟨v, _, H', J, rv, q⟩ => exact ⟨u, rfl, v, H', J.os, J.bare, J.base, J.hok, rv, q⟩
end
end Tb
set_option Elab.async false
set_option linter.all false
set_option maxRecDepth 100000
set_option maxHeartbeats 4000000
/-! A drawn call. -/
namespace Tb
open PySem PySem.Spec PyProof.Rows L2
section
variable {P : Program} {w : World} {K : PySem.W.Frag} {mg : Str → Option Value} {base : Heap}
/-- what a def wants that works on a processor -/
def sp_lam (K : PySem.W.Frag) : Sp := fun vs H Q _ => ∃ (H0 : Hp) (p ba : Addr) (b : Bk) (z : Wk) (und : List Cl) (S : List Addr), vs = [.ref p] ∧ ProcIn K H0 H p ba b z und S ∧ z.calls.length < 390 ∧ und.length < 390 ∧
  ∀ H2 S2 z2 und2 v, Fr S H H2 → Grow H S S2 → ProcAt K H2 p ba z2 und2 S2 → Q v H2
/-- the def's code object, its table -/
abbrev cQ (K : PySem.W.Frag) : Addr × Addr := He.cT K ("_law_called", none)
def lamQ : Str := (envOfC "_law_called" (C8.fnScope s__law_called) 0 0 .none).qual ++ "<lambda>"
abbrev tabQ (K : PySem.W.Frag) : List (Addr × Str) := [((cQ K).2, lamQ)]
/-- the lambda's expression -/
def lamX : Expr := match (C8.fnBody s__law_called).getD 6 (.Pass ⟨0, 0, 0, 0⟩) with
  | .If _ (.Expr (.Call _ [l] _ _) _ :: _) _ _ => l
  | _ => .Constant .none 0 ⟨0, 0, 0, 0⟩
def lamP : Arguments := match lamX with
  | .Lambda a _ _ _ => a
  | _ => C8.fnArgs s__law_called
def lamB : Expr := match lamX with
  | .Lambda _ b _ _ => b
  | x => x
def lamC : Scope := match lamX with
  | .Lambda _ _ c _ => c
  | _ => C8.fnScope s__law_called
def mkQ (c' : Addr) : NdefX.NF := ⟨"<lambda>", lamQ, lamP, [], lamC, [], c'⟩
theorem nsc_lam : NdefX.NScope ["_law_same"] ["_law_same"] [] lamC := ⟨by decide +kernel, by decide +kernel, by decide +kernel, by decide +kernel, rfl, by decide +kernel, by decide +kernel, by decide +kernel, by decide +kernel⟩
theorem lamR_Q (T : Tx K mg base) (c' : Addr) : LamR P w K mg base 12 (mkQ c') lamB (sp_lam K) := by
  refine lamR_of (N := ["_law_same"]) (ps := ["_law_same"]) nsc_lam rfl (fun pm cv ctv us h => match us, h with | [_], _ => rfl) (fun vs H Q E h => ?_) fun f A outer s H vs Q hr h => ?_
  · obtain ⟨H0, p, ba, b, z, und, S, rfl, _⟩ := h; rfl
  · obtain ⟨H0, p, ba, b, z, und, S, rfl, hp, l1, l2, qq⟩ := h
    refine ⟨_, (pe_lst (pa_cons (pe_m (k_Processor_tick T) hr (by decide) (pv 0) (pa_cons pe_str pa_nil)) (pa_cons (pe_m (k_Processor_tick T) hr (by decide) (pv 0) (pa_cons pe_str pa_nil)) (pa_cons (pe_methKw (pv 0) (c_Processor T) (m_Processor_undo T) (k_Processor_undo T) (hr.mono (by decide)) (pk_cons pe_int pk_nil)) (pa_cons (pe_m0 (k_Processor_bell T) hr (by decide) (pv 0)) pa_nil))))), ?_⟩
    have lc : ∀ {w : Wk} {c : Cl}, (w.step b c).calls.length = w.calls.length + 1 := fun {w c} => by rw [step_calls, List.length_append]; rfl
    obtain ⟨dx, o, ut, So, h1, _⟩ := hp.at_.head
    refine ⟨_, rfl, p, dx, _, rfl, h1, rfl, H0, p, ba, .on, b, z, und, S, rfl, hp, by omega, fun H1 S1 F1 G1 P1 => ?_⟩
    obtain ⟨dx1, o1, ut1, So1, k1, _⟩ := P1.at_.head
    refine ⟨_, rfl, p, dx1, _, rfl, k1, rfl, H0, p, ba, .sleep, b, _, [], S1, rfl, P1, by rw [lc]; omega, fun H2 S2 F2 G2 P2 => ?_⟩
    obtain ⟨dx2, o2, ut2, So2, k2, _⟩ := P2.at_.head
    have FA2 := F1.trans2 G1 F2
    have GA2 := G1.trans2 F1 G2
    refine ⟨_, rfl, p, dx2, _, rfl, k2, rfl, rfl, rfl, H0, p, ba, 1, b, _, [], S2, rfl, P2, by rw [lc]; omega, by rw [lc, lc]; omega, by decide, fun H3 S3 z3 hz3 F3 G3 P3 => ?_⟩
    obtain ⟨dx3, o3, ut3, So3, k3, _⟩ := P3.at_.head
    have FA3 := FA2.trans2 GA2 F3
    have GA3 := GA2.trans2 FA2 G3
    have l3 : z3.calls.length ≤ z.calls.length + 2 := by
      rw [replay_calls hz3, List.length_take, lc, lc]
      omega
    refine ⟨_, rfl, p, dx3, _, rfl, k3, rfl, H0, p, ba, b, z3, _, S3, rfl, P3, by omega, fun H4 S4 F4 G4 P4 => ?_⟩
    have FA4 := FA3.trans2 GA3 F4
    have GA4 := GA3.trans2 FA3 G4
    refine ⟨by show 4 ≤ sizeLine; decide, fun l hl => ?_⟩
    exact qq _ S4 _ _ _ (FA4.step (same_new hl)) GA4 (P4.at_.same (same_new hl))
def sp__law_called (K : PySem.W.Frag) : Sp := fun vs H Q _ => ∃ (H0 : Hp) (d p pl ba : Addr) (k : Nat) (b : Bk) (z : Wk) (und : List Cl) (S : List Addr), vs = [.ref d, .ref p, .ref pl, .int (und.length : Nat)] ∧ ProcIn K H0 H p ba b z und S ∧ Dice H d k ∧ k + 10 < 1000 ∧ PlainAt K H pl b ∧ LamX.Tabs (tabQ K) H ∧
  d ∉ S ∧ H0 d = none ∧ H0 (cQ K).2 = none ∧ z.calls.length + und.length < 380 ∧
  ∀ H' S' z' und', Fr (d :: (cQ K).2 :: S) H H' → Grow H S S' → ProcIn K H0 H' p ba b z' und' S' → LamX.Tabs (tabQ K) H' → Dice H' d (k + 5) → z'.calls.length + und'.length ≤ z.calls.length + und.length + 3 → Q (.int (und'.length : Nat)) H'
theorem asleep_wake {b : Bk} {z : Wk} {t : Nat} (h : isAsleep z.crs t = true) : canDo b z (.cm (.wake t)) = true := h
end
end Tb
set_option Elab.async false
set_option linter.all false
set_option maxRecDepth 100000
set_option maxHeartbeats 4000000
/-! A drawn call: the walk. -/
namespace Tb
open PySem PySem.Spec PyProof.Rows L2
section
variable {P : Program} {w : World} {K : PySem.W.Frag} {mg : Str → Option Value} {base : Heap}
theorem ifNot {c : Bool} {B R : Prop} (hR : R) (hB : c = true → R → B) : if c = true then B else R := by
  cases c with
  | true => rw [if_pos rfl]; exact hB rfl hR
  | false => rw [if_neg (by decide)]; exact hR
theorem td_nil {K : PySem.W.Frag} {H : Hp} {a : Addr} (_ : H a = none) : Td K (upd H a (.tup [])) (.ref a) (.tuple []) := .tup (.inl (.inl upd_same)) .nil
theorem intsV_at {ts : List Nat} {i : Nat} {v : V} (h : (intsV ts)[i]? = some v) : ∃ t, ts[i]? = some t ∧ v = .int (t : Nat) := by
  unfold intsV at h
  rw [List.getElem?_map] at h
  cases e : ts[i]? with
  | none => rw [e] at h; cases h
  | some t => rw [e] at h; cases h; exact ⟨t, rfl, rfl⟩
theorem k__law_called (T : Tx K mg base) (TB : LamX.TabB base mg (cQ K).1 (cQ K).2) : CalG P w K mg base 17 "_law_called" (sp__law_called K) := by
  obtain ⟨fd, F, bn⟩ := D__law_called T
  refine ⟨_, fd, _, okGc F sc__law_called (fun vs H Q E h => ?_) ("_law_called", none) rfl fun A outer s H vs Q hG hr h => ?_, g__law_called T, F.kp, bn⟩
  · obtain ⟨H0, d, p, pl, ba, k, b, z, und, S, rfl, _⟩ := h; rfl
  · obtain ⟨H0, d, p, pl, ba, k, b, z, und, S, rfl, hp, hd, hk, hpl, hT, dS, d0, P0, few, qq⟩ := h
    refine ⟨_, (pss_cons (ps_setLc (i := 4) (own := [("_law_task", 9), ("_law_post", 10)]) rfl sc__law_called.nd rfl rfl (sw_true rfl rfl rfl (by decide +kernel)) (pi_enumT (by rfl) (f_enumerate T) (pa_cons (pe_pr (k_Processor_picture T) hr (by decide) (pv 1)) pa_nil)) (blkOk_by (own := [("_law_task", 9), ("_law_post", 10)]) (N := N__law_called) (sc := C8.fnScope s__law_called) (by decide +kernel)) (fun _ _ _ _ _ => (pg_tupK (K := K) (n := 2) rfl rfl (pgs_cons (pg_name (i := 9) sc__law_called.nd rfl (Or.inl rfl)) (pgs_cons (pg_name (i := 10) sc__law_called.nd rfl (Or.inl rfl)) pgs_nil)))) (fun _ _ _ _ _ => (pts_one (pt_cmpR op_eq (pe_ix (ix_tupK (K := K) rfl) (pv 10) pe_int (fun _ _ => rfl)) pe_str (nomark _)))) (fun _ _ _ _ _ => (pv 9)))
      (pss_cons (ps_par (i := 5) (j := 6) (by rfl) sc__law_called.nd rfl rfl (by decide) rfl rfl (pa_cons (pe_f (k__law_roll T) hr (by decide) rfl (pa_cons (pv 0) (pa_cons pe_int pa_nil))) (pa_cons (pe_callB call_len_seq rfl (f_len T) b_len (pa_cons (pe_pr (k_Processor_log T) hr (by decide) (pv 1)) pa_nil) (by decide) (by decide)) pa_nil)) (by rfl))
      (pss_cons (ps_if (PW.pt (pw_and (pt_cmpR op_le (pv 5) pe_int (nomark _)) (pw_and1 (pt_cmpR op_lt (pe_callB (call_lenO (k_Processor___len__ T) hr (by decide)) rfl (f_len T) b_len (pa_cons (pv 1) pa_nil) (by decide) (by decide)) pe_int (nomark _))))) (pss_cons (ps_expr (pe_m (k_Processor_come T) hr (by decide) (pv 1) (pa_cons (pe_f (k__law_roll T) hr (by decide) rfl (pa_cons (pv 0) (pa_cons (pe_callB call_len_seq rfl (f_len T) b_len (pa_cons (pe_ix ix_tup (pv 2) pe_int (fun _ _ => rfl)) pa_nil) (by decide) (by decide)) pa_nil))) pa_nil)))
      (pss_one (ps_ret pe_int))) pss_nil)
      (pss_cons (ps_if (PW.pt (pw_and (pt_cmpR op_le (pv 5) pe_int (nomark _)) (pw_and1 (pt_cmpR (op_neD (hr.units)) (pv 4) (pe_lst pa_nil) (nomark _))))) (pss_cons (ps_expr (pe_m (k_Processor_wake_up T) hr (by decide) (pv 1) (pa_cons (pe_f (k__law_pick T) hr (by decide) rfl (pa_cons (pv 0) (pa_cons (pv 4) pa_nil))) pa_nil)))
      (pss_one (ps_ret pe_int))) pss_nil)
      (pss_cons (ps_if (PW.pt (pw_and (pt_cmpR op_eq (pv 5) pe_int (nomark _)) (pw_and1 (pt_cmpR op_gt (pv 6) pe_int (nomark _))))) (pss_cons (ps_set (i := 7) sc__law_called.nd rfl (Or.inl rfl) (pe_op op_add pe_int (pe_f (k__law_roll T) hr (by decide) rfl (pa_cons (pv 0) (pa_cons (pe_callB (call_min2 rfl) rfl (f_min T) b_min (pa_cons pe_int (pa_cons (pv 6) pa_nil)) (by decide) (by decide)) pa_nil)))))
      (pss_cons (ps_expr (pe_methKw (pv 1) (c_Processor T) (m_Processor_undo T) (k_Processor_undo T) (hr.mono (by decide)) (pk_cons (pv 7) pk_nil)))
      (pss_one (ps_ret (pe_op op_add (pv 3) (pv 7)))))) pss_nil)
      (pss_cons (ps_if (PW.pt (pw_and (pt_cmpR op_eq (pv 5) pe_int (nomark _)) (pw_and1 (pt_cmpR op_gt (pv 3) pe_int (nomark _))))) (pss_cons (ps_set (i := 7) sc__law_called.nd rfl (Or.inl rfl) (pe_op op_add pe_int (pe_f (k__law_roll T) hr (by decide) rfl (pa_cons (pv 0) (pa_cons (pv 3) pa_nil)))))
      (pss_cons (ps_expr (pe_methKw (pv 1) (c_Processor T) (m_Processor_redo T) (k_Processor_redo T) (hr.mono (by decide)) (pk_cons (pv 7) pk_nil)))
      (pss_one (ps_ret (pe_op op_sub (pv 3) (pv 7)))))) pss_nil)
      (pss_cons (ps_if (pt_cmpR op_eq (pv 5) pe_int (nomark _)) (pss_cons (ps_expr (pe_m ((k_Processor_during T (kL:=12) (mk:=mkQ) (e:=lamB) (spL:=sp_lam K) (lamR_Q T) (by decide))) hr (by decide) (pv 1) (pa_cons (pe_lam (T:=tabQ K) TB rfl (List.mem_singleton.2 rfl) (fun _ h _ => by rw [List.mem_singleton.1 h] <;> rfl) rfl (by decide +kernel)) pa_nil)))
      (pss_one (ps_ret (pv 3)))) pss_nil)
      (pss_cons (ps_if (PW.pt (pw_and (pt_cmpR op_eq (pv 5) pe_int (nomark _)) (pw_and1 (pt_cmpR op_lt (pe_callB (call_lenO (k_Processor___len__ T) hr (by decide)) rfl (f_len T) b_len (pa_cons (pv 1) pa_nil) (by decide) (by decide)) pe_int (nomark _))))) (pss_cons (ps_set (i := 8) sc__law_called.nd rfl (Or.inl rfl) (pe_f (k__law_roll T) hr (by decide) rfl (pa_cons (pv 0) (pa_cons (pe_callB call_len_seq rfl (f_len T) b_len (pa_cons (pe_ix ix_tup (pv 2) pe_int (fun _ _ => rfl)) pa_nil) (by decide) (by decide)) pa_nil))))
      (pss_cons (ps_expr (pe_m (k_Processor_do T) hr (by decide) (pv 1) (pa_cons (pe_tup (pa_cons (pe_tup (pa_cons (pe_tup (pa_cons (pe_tup (pa_cons pe_str (pa_cons (pv 8) pa_nil))) pa_nil)) (pa_cons pe_str pa_nil))) (pa_cons (pe_tup (pa_cons (pe_tup pa_nil) (pa_cons (pe_f (k__law_pick T) hr (by decide) rfl (pa_cons (pv 0) (pa_cons (pe_lst (pa_cons pe_str (pa_cons pe_str (pa_cons pe_str pa_nil)))) pa_nil))) pa_nil))) pa_nil))) pa_nil)))
      (pss_one (ps_ret pe_int)))) pss_nil)
      (pss_cons (ps_expr (pe_m (k_Processor_tick T) hr (by decide) (pv 1) (pa_cons (pe_f (k__law_pick T) hr (by decide) rfl (pa_cons (pv 0) (pa_cons (pe_lst (pa_cons pe_str (pa_cons pe_str (pa_cons pe_str (pa_cons pe_str (pa_cons pe_str (pa_cons pe_str (pa_cons pe_str pa_nil)))))))) pa_nil))) pa_nil)))
      (pss_one (ps_ret pe_int))))))))))), ?_⟩
    obtain ⟨dx, o, ut, So, h1, _⟩ := hp.at_.head
    obtain ⟨ll, rt, pts, hpl1, hpl2, hpl3, hpl4⟩ := hpl.ex
    refine ⟨_, rfl, p, dx, _, rfl, h1, H0, p, ba, b, z, und, S, rfl, hp, fun H1 t1 S1 d1 => ?_⟩
    obtain ⟨t1', xs, e1, hxs, tx⟩ := Td.tuple d1
    cases e1
    have lx : xs.length = z.crs.tasks.length := by rw [tx.len, List.length_map]
    have okz := replay_ok hp.bo hp.ok.log
    have ft := okz.crs.few
    refine ⟨t1, xs, rfl, hxs, fun D hD => ?_⟩
    refine lc_it (walk_enumT (xs := xs)) (fun i H2 => Same H1 H2 ∧ ∃ ts : List Nat, H2 D = some (.lst (intsV ts)) ∧ ts.length ≤ i ∧ ∀ t ∈ ts, isAsleep z.crs t = true) ⟨same_new hD, [], upd_same, Nat.le_refl _, fun _ h => absurd h List.not_mem_nil⟩ (fun i H2 _ h => (Fr.of [] h.1).sqT hxs) ?_ ?_
    · rintro i x H2 H3 hi ⟨S2, ts, hts, lts, as⟩ ⟨t, x1, x2, rfl, ht, rfl, e1, e2⟩
      cases e1
      obtain ⟨po, hpo, td⟩ := posts_at tx e2
      have S3 := same_new (o := .tup [.int (i : Nat), x2]) ht
      have td := (td.same S2).same S3
      refine ⟨t, _, rfl, .inl (.inl upd_same), rfl, _, _, rfl, _, _, rfl, rfl, rfl, ?_⟩
      have Dt : D ≠ t := ne_of_none hts ht
      have add : isAsleep z.crs i = true → ∃ acc, upd H2 t (.tup [.int (i : Nat), x2]) D = some (.lst acc) ∧ acc.length < sizeLine ∧ (Same H1 (upd (upd H2 t (.tup [.int (i : Nat), x2])) D (.lst (acc ++ [.int (i : Nat)]))) ∧ ∃ ts : List Nat, upd (upd H2 t (.tup [.int (i : Nat), x2])) D (.lst (acc ++ [.int (i : Nat)])) D = some (.lst (intsV ts)) ∧ ts.length ≤ i + 1 ∧ ∀ t ∈ ts, isAsleep z.crs t = true) := fun ha => by
        refine ⟨_, S3 _ _ hts, by rw [intsV_len]; exact Nat.lt_of_le_of_lt lts (Nat.lt_of_lt_of_le (show i < 13 by omega) (by decide)), fun a ob e => by rw [upd_ne (ne_of_none e hD)]; exact S3 _ _ (S2 _ _ e), ts ++ [i], ?_, by rw [List.length_append]; exact Nat.succ_le_succ lts, fun t' h => ?_⟩
        · rw [upd_same, intsV_app]; rfl
        · rcases List.mem_append.1 h with h | h
          · exact as t' h
          · rw [List.mem_singleton.1 h]; exact ha
      have keep : Same H1 (upd H2 t (.tup [.int (i : Nat), x2])) ∧ ∃ ts : List Nat, upd H2 t (.tup [.int (i : Nat), x2]) D = some (.lst (intsV ts)) ∧ ts.length ≤ i + 1 ∧ ∀ t ∈ ts, isAsleep z.crs t = true := ⟨S2.trans S3, ts, S3 _ _ hts, Nat.le_succ_of_le lts, as⟩
      cases po with
      | ended =>
        obtain ⟨a, rfl, ha⟩ := td.ended
        exact ⟨_, rfl, a, _, _, _, rfl, rfl, ha, atI_nat (j := 0) rfl, rfl, false, by decide +kernel, andF rfl keep⟩
      | st m l kk =>
        obtain ⟨a, rfl, ha⟩ := td.post
        refine ⟨_, rfl, a, _, _, _, rfl, rfl, ha, atI_nat (j := 0) rfl, rfl, ?_⟩
        cases m with
        | asleep => exact ⟨true, by decide +kernel, andT rfl ⟨_, rfl, add (by unfold isAsleep; rw [hpo])⟩⟩
        | ready => exact ⟨false, by decide +kernel, andF rfl keep⟩
        | runs => exact ⟨false, by decide +kernel, andF rfl keep⟩
    · rintro H2 ⟨S2, ts, hts, lts, as⟩
      have SA := S1.trans S2
      have hp2 := hp.step SA
      have dD : D ≠ d := fun e => hd.live (none_back S1 (by rw [← e]; exact hD))
      refine ⟨_, rfl, d, 10, k, rfl, hd.same SA, by decide, by decide, by omega, fun H3 r F3 D3 hr3 => ?_⟩
      have nd : ∀ a ∈ S, a ∉ [d] := fun a ha m => dS (by rw [← List.mem_singleton.1 m]; exact ha)
      have n0 : ∀ a ∈ [d], H0 a = none := fun a ha => by rw [List.mem_singleton.1 ha]; exact d0
      have hp3 := hp2.fr F3 nd n0
      obtain ⟨dx3, o3, ut3, So3, g3, _⟩ := hp3.at_.head
      refine ⟨_, rfl, p, dx3, _, rfl, g3, H0, p, ba, b, z, und, S, rfl, hp3, fun H4 t4 S4 d4 => ?_⟩
      obtain ⟨t4', ys, e4, hys, ty⟩ := Td.tuple d4
      cases e4
      have ly : ys.length = z.calls.length := by rw [ty.len, List.length_map]
      refine ⟨t4, ys, rfl, .inr hys, ?_⟩
      rw [ly]
      have FA := ((Fr.of [d] SA).trans F3).step S4
      have D4 := D3.same S4
      have hp4 := hp3.step S4
      have g4 := S4 _ _ g3
      have hts4 : H4 D = some (.lst (intsV ts)) := S4 _ _ (F3.keep _ _ hts fun m => dD (List.mem_singleton.1 m))
      have kd : Kinds H [d] := hd.kinds
      have T4 : LamX.Tabs (tabQ K) H4 := tabs_fr hT FA kd
      refine ⟨_, _, rfl, ?_⟩
      have lc : ∀ {w : Wk} {c : Cl}, (w.step b c).calls.length = w.calls.length + 1 := fun {w c} => by rw [step_calls, List.length_append]; rfl
      have bo := hp.bo
      have rk1 : (ranksV b).length = b.ranks.length := by unfold ranksV; rw [List.length_map]
      have r1 := bo.rpos
      have r3 := bo.rthree
      -- the end of a branch
      have fin : ∀ (H5 : Hp), Fr [d] H H5 → Dice H5 d (k + 5) → ∀ H6 S6 z6 u6, Fr S H5 H6 → Grow H5 S S6 → ProcIn K H0 H6 p ba b z6 u6 S6 → z6.calls.length + u6.length ≤ z.calls.length + und.length + 3 → Q (.int (u6.length : Nat)) H6 := fun H5 F5 D5 H6 S6 z6 u6 F6 G6 P6 l6 => by
        have hp5 := hp.fr F5 nd n0
        refine qq H6 S6 z6 u6 ((F5.mono fun a m => by rw [List.mem_singleton.1 m]; exact List.mem_cons_self).trans (F6.mono fun a m => List.mem_cons_of_mem _ (List.mem_cons_of_mem _ m))) (fun a ha => ?_) P6 (tabs_fr (tabs_fr hT F5 kd) F6 hp5.at_.kinds) (D5.fr F6 dS) l6
        rcases G6 a ha with m | h
        · exact .inl m
        · exact .inr (F5.fresh (fun x hx _ => by rw [List.mem_singleton.1 hx]; exact D5.live) h)
      clear hp2 hp3 D3 F3 S4 d4 hys ty ly g3
      -- a comer
      refine ⟨_, rfl, _, _, rfl, rfl, _, rfl, ?_⟩
      by_cases c : (r : Int) ≤ 1 ∧ z.crs.tasks.length < 12
      · refine andT (decide_eq_true c.1) ⟨_, rfl, p, dx3, _, rfl, g4, ⟨H0, p, ba, b, z, und, S, rfl, hp4, _, rfl, by omega, by omega, _, _, rfl, rfl, _, rfl, andT (decide_eq_true (by omega)) ?_⟩⟩
        refine ⟨_, rfl, p, dx3, _, rfl, g4, rfl, _, rfl, _, rfl, pl, _, _, _, rfl, rfl, FA.sqT hpl1, atI_nat (j := 1) rfl, rt, _, rfl, .inr (FA.sqT hpl4), d, _, k + 1, rfl, D4, by omega, by omega, by omega, fun H5 r5 F5 D5 hr5 => ?_⟩
        have hp5 := hp4.fr F5 nd n0
        have can : canDo b z (.cm (.come r5)) = true := by
          show (decide (r5 < b.ranks.length) && decide (z.crs.tasks.length < 12)) = true
          rw [decide_eq_true (show r5 < b.ranks.length by omega), decide_eq_true c.2]
          rfl
        exact ⟨H0, p, ba, r5, b, z, und, S, rfl, hp5, can, by omega, fun H6 S6 n6 F6 G6 P6 => fin H5 (FA.trans F5) (D5.mono (by omega)) H6 S6 _ [] F6 G6 P6 (by rw [lc]; simp; omega)⟩
      refine ifNot ?_ (fun hc hR => ⟨_, rfl, p, dx3, _, rfl, g4, ⟨H0, p, ba, b, z, und, S, rfl, hp4, _, rfl, by omega, by omega, _, _, rfl, rfl, _, rfl, andF (decide_eq_false fun h => c ⟨of_decide_eq_true hc, by omega⟩) hR⟩⟩)
      -- the tick at the end
      have words : ∀ (i : Nat) (v : V), ([.str "on", .str "on", .str "on", .str "way", .str "sleep", .str "bell", .str "end"] : List V)[i]? = some v → ∃ wd : Wd, v = .str wd.s := fun i v h => by
        match i, h with
        | 0, h => cases h; exact ⟨.on, rfl⟩
        | 1, h => cases h; exact ⟨.on, rfl⟩
        | 2, h => cases h; exact ⟨.on, rfl⟩
        | 3, h => cases h; exact ⟨.way, rfl⟩
        | 4, h => cases h; exact ⟨.sleep, rfl⟩
        | 5, h => cases h; exact ⟨.bell, rfl⟩
        | 6, h => cases h; exact ⟨.end_, rfl⟩
      refine ⟨_, rfl, _, _, rfl, rfl, _, rfl, ?_⟩
      by_cases c3 : (r : Int) ≤ 3
      · refine andT (decide_eq_true c3) ⟨_, rfl, by show 0 ≤ sizeLine; decide, fun e he => ?_⟩
        have S5 := same_new (o := .lst []) he
        have dpD : Dp K (upd H4 e (.lst [])) (.ref D) (intsD ts) := IntsAt.dp (S5 _ _ hts4)
        refine ⟨_, _, dpD, .lst (.inl (.inl upd_same)) .nil, (fl_ints ts).shaped, (Fl.list (n := 0) fl_nil).shaped, ?_⟩
        rw [eqv_empty]
        have hp5 := hp4.step S5
        have g5 := S5 _ _ g4
        have D5 := D4.same S5
        have FA5 := FA.step S5
        cases ts with
        | nil =>
          refine ⟨_, rfl, andF rfl ?_⟩
          have neN : ∀ m : Int, 3 < m → V.int (r : Int) ≠ V.int m := fun m h e => by
            have := V.int.inj e
            omega
          refine ⟨_, rfl, rfl, _, rfl, andF (decide_eq_false (neN 4 (by decide))) ?_⟩
          refine ⟨_, rfl, rfl, _, rfl, andF (decide_eq_false (neN 5 (by decide))) ?_⟩
          refine ⟨_, rfl, rfl, _, rfl, andF (decide_eq_false (neN 6 (by decide))) ?_⟩
          refine ⟨_, rfl, rfl, _, rfl, andF (decide_eq_false (neN 7 (by decide))) ?_⟩
          refine ⟨_, rfl, p, dx3, _, rfl, g5, rfl, _, rfl, by show 7 ≤ sizeLine; decide, fun l hl => ?_⟩
          have S6 := same_new (o := .lst [.str "on", .str "on", .str "on", .str "way", .str "sleep", .str "bell", .str "end"]) hl
          refine ⟨d, l, k + 1, _, rfl, D5.same S6, upd_same, by show 0 < 7; decide, by show 7 ≤ 1000; decide, fun e => D5.live (by rw [← e]; exact hl), by omega, fun H6 i v F6 D6 hv => ?_⟩
          obtain ⟨wd, rfl⟩ := words i v hv
          exact ⟨H0, p, ba, wd, b, z, und, S, rfl, (hp5.step S6).fr F6 nd n0, by omega, fun H7 S7 F7 G7 P7 => fin H6 ((FA5.step S6).trans F6) (D6.mono (by omega)) H7 S7 _ [] F7 G7 P7 (by rw [lc]; simp; omega)⟩
        | cons t0 ts0 =>
          refine ⟨_, rfl, andT rfl ?_⟩
          refine ⟨_, rfl, p, dx3, _, rfl, g5, rfl, _, rfl, _, rfl, d, D, k + 1, _, rfl, D5, S5 _ _ hts4, by rw [intsV_len]; exact Nat.succ_pos _, by rw [intsV_len]; exact Nat.le_trans lts (by omega), dD, by omega, fun H6 i v F6 D6 hv => ?_⟩
          obtain ⟨t, ht, rfl⟩ := intsV_at hv
          have hp6 := hp5.fr F6 nd n0
          exact ⟨H0, p, ba, t, b, z, und, S, rfl, hp6, as t (List.mem_of_getElem? ht), by omega, fun H7 S7 F7 G7 P7 => fin H6 (FA5.trans F6) (D6.mono (by omega)) H7 S7 _ [] F7 G7 P7 (by rw [lc]; simp; omega)⟩
      refine andF (decide_eq_false c3) ?_
      -- undoing
      by_cases c4 : V.int (r : Int) = V.int 4 ∧ 0 < z.calls.length
      · refine ⟨_, rfl, rfl, _, rfl, andT (decide_eq_true c4.1) ⟨_, rfl, _, _, rfl, rfl, _, rfl, andT (decide_eq_true (by omega)) ?_⟩⟩
        obtain ⟨m, em, hm⟩ : ∃ m : Nat, (if (z.calls.length : Int) < 5 then (z.calls.length : Int) else 5) = (m : Int) ∧ 0 < m ∧ m ≤ z.calls.length ∧ m ≤ 5 := by
          by_cases h : (z.calls.length : Int) < 5
          · exact ⟨z.calls.length, by rw [if_pos h], c4.2, Nat.le_refl _, by omega⟩
          · exact ⟨5, by rw [if_neg h]; rfl, by decide, by omega, Nat.le_refl _⟩
        refine ⟨_, rfl, _, rfl, _, _, rfl, d, m, k + 1, ?_, D4, hm.1, by omega, by omega, fun H5 r5 F5 D5 hr5 => ?_⟩
        · show [V.ref d, V.int (if (z.calls.length : Int) < 5 then (z.calls.length : Int) else 5)] = _
          rw [em]
        refine ⟨_, _, rfl, rfl, ?_⟩
        have hp5 := hp4.fr F5 nd n0
        obtain ⟨dx5, o5, ut5, So5, g5, _⟩ := hp5.at_.head
        refine ⟨_, rfl, p, dx5, _, rfl, g5, rfl, _, rfl, rfl, rfl, H0, p, ba, 1 + r5, b, z, und, S, rfl, hp5, by omega, by omega, by omega, fun H6 S6 z6 hz6 F6 G6 P6 => ?_⟩
        refine ⟨_, rfl, _, rfl, _, _, rfl, rfl, ?_⟩
        have l6 : z6.calls.length = z.calls.length - (1 + r5) := by rw [replay_calls hz6, List.length_take]; omega
        have lu : (z.calls.drop (z.calls.length - (1 + r5)) ++ und).length = und.length + (1 + r5) := by rw [List.length_append, List.length_drop]; omega
        have e := fin H5 (FA.trans F5) (D5.mono (by omega)) H6 S6 z6 _ F6 G6 P6 (by rw [l6, lu]; omega)
        rw [lu] at e
        exact e
      refine ⟨_, rfl, rfl, _, rfl, ifNot ?_ (fun hc hR => ⟨_, rfl, _, _, rfl, rfl, _, rfl, andF (decide_eq_false fun h => c4 ⟨of_decide_eq_true hc, by omega⟩) hR⟩)⟩
      -- doing again
      by_cases c5 : V.int (r : Int) = V.int 5 ∧ 0 < und.length
      · refine ⟨_, rfl, rfl, _, rfl, andT (decide_eq_true c5.1) ⟨_, rfl, _, _, rfl, rfl, _, rfl, andT (decide_eq_true (by omega)) ?_⟩⟩
        refine ⟨_, rfl, _, rfl, d, und.length, k + 1, rfl, D4, c5.2, by omega, by omega, fun H5 r5 F5 D5 hr5 => ?_⟩
        refine ⟨_, _, rfl, rfl, ?_⟩
        have hp5 := hp4.fr F5 nd n0
        obtain ⟨dx5, o5, ut5, So5, g5, _⟩ := hp5.at_.head
        refine ⟨_, rfl, p, dx5, _, rfl, g5, rfl, _, rfl, rfl, rfl, H0, p, ba, 1 + r5, b, z, und, S, rfl, hp5, by omega, by omega, fun H6 S6 z6 hz6 F6 G6 P6 => ?_⟩
        refine ⟨_, rfl, _, rfl, _, _, rfl, rfl, ?_⟩
        have l6 : z6.calls.length = z.calls.length + (1 + r5) := by rw [replay_calls hz6, List.length_append, List.length_take]; omega
        have lu : (und.drop (1 + r5)).length = und.length - (1 + r5) := List.length_drop
        have e := fin H5 (FA.trans F5) (D5.mono (by omega)) H6 S6 z6 _ F6 G6 P6 (by rw [l6, lu]; omega)
        have ei : (((und.drop (1 + r5)).length : Nat) : Int) = (und.length : Int) - ((1 : Int) + (r5 : Int)) := by rw [lu]; omega
        rw [ei] at e
        exact e
      refine ⟨_, rfl, rfl, _, rfl, ifNot ?_ (fun hc hR => ⟨_, rfl, _, _, rfl, rfl, _, rfl, andF (decide_eq_false fun h => c5 ⟨of_decide_eq_true hc, by omega⟩) hR⟩)⟩
      -- a trial
      by_cases c6 : V.int (r : Int) = V.int 6
      · refine ⟨_, rfl, rfl, _, rfl, andT (decide_eq_true c6) ?_⟩
        refine ⟨_, rfl, p, dx3, _, rfl, g4, rfl, T4, fun f c' H5 kb T5 f0 f1 c1 => ?_⟩
        obtain ⟨tps, ht1, _⟩ := T4 _ (List.mem_singleton.2 rfl)
        have ht1 : H4 (cQ K).2 = some (.tbl tps) := ht1
        have neP : ∀ {a : Addr} {ob : HO}, H4 a = some ob → (∀ ps, ob ≠ .tbl ps) → a ≠ (cQ K).2 := fun e n m => by
          rw [m, ht1] at e
          exact n tps (Option.some.inj e).symm
        have FP : Fr [(cQ K).2] H4 H5 := ⟨fun a ob e n => kb a ob (fun m => n (List.mem_singleton.2 m)) e, fun a xs e => kb a _ (neP e fun ps q => by cases q) e, fun a ob u e => kb a _ (neP e fun ps q => by cases q) e⟩
        have PS : ∀ a ∈ S, a ∉ [(cQ K).2] := fun a ha m => by
          obtain ⟨ob, e, k⟩ := hp4.at_.kinds a ha
          exact neP e (fun ps q => by rw [q] at k; exact k) (List.mem_singleton.1 m)
        have hp5 := hp4.fr FP PS fun a ha => by rw [List.mem_singleton.1 ha]; exact P0
        have dP : d ∉ [(cQ K).2] := fun m => by
          obtain ⟨ob, e, k⟩ := D4.kinds d (List.mem_singleton.2 rfl)
          exact neP e (fun ps q => by rw [q] at k; exact k) (List.mem_singleton.1 m)
        have D5 := D4.fr FP dP
        refine ⟨H0, p, ba, f, c', b, z, und, S, rfl, f1, c1, hp5, fun H6 S6 QQ P6 fin6 => ?_, fun H6 v F6 P6 => ?_⟩
        · exact ⟨H0, p, ba, b, z, und, S6, rfl, P6, by omega, by omega, fun H7 S7 z7 u7 v F7 G7 P7 => fin6 H7 S7 z7 u7 v F7 G7 P7⟩
        · refine ⟨_, rfl, ?_⟩
          refine qq H6 S z und (((FA.mono fun a m => by rw [List.mem_singleton.1 m]; exact List.mem_cons_self).trans (FP.mono fun a m => by rw [List.mem_singleton.1 m]; exact List.mem_cons_of_mem _ List.mem_cons_self)).trans (F6.mono fun a m => List.mem_cons_of_mem _ (List.mem_cons_of_mem _ m))) (Grow.refl _ _) P6 (tabs_fr T5 F6 hp5.at_.kinds) ((D5.fr F6 dS).mono (by omega)) (by omega)
      refine ⟨_, rfl, rfl, _, rfl, andF (decide_eq_false c6) ?_⟩
      -- a whole load
      by_cases c7 : V.int (r : Int) = V.int 7 ∧ z.crs.tasks.length < 12
      · refine ⟨_, rfl, rfl, _, rfl, andT (decide_eq_true c7.1) ⟨_, rfl, p, dx3, _, rfl, g4, ⟨H0, p, ba, b, z, und, S, rfl, hp4, _, rfl, by omega, by omega, _, _, rfl, rfl, _, rfl, andT (decide_eq_true (by omega)) ?_⟩⟩⟩
        refine ⟨_, rfl, _, rfl, pl, _, _, _, rfl, rfl, FA.sqT hpl1, atI_nat (j := 1) rfl, rt, _, rfl, .inr (FA.sqT hpl4), d, _, k + 1, rfl, D4, by omega, by omega, by omega, fun H5 r5 F5 D5 hr5 => ?_⟩
        have hp5 := hp4.fr F5 nd n0
        obtain ⟨dx5, o5, ut5, So5, g5, _⟩ := hp5.at_.head
        refine ⟨_, rfl, p, dx5, _, rfl, g5, rfl, _, rfl, by show 2 ≤ sizeLine; decide, fun a1 q1 => ?_⟩
        have s1 := same_new (o := .tup [.str "come", .int (r5 : Nat)]) q1
        have td1 : Td K _ (.ref a1) (Cm.d (.come r5)) := .tup (.inl (.inl (upd_same (H := H5) (a := a1)))) (.cons (.str _) (.cons (.int _) .nil))
        refine ⟨by show 1 ≤ sizeLine; decide, fun a2 q2 => ?_⟩
        have s2 := same_new (o := .tup [.ref a1]) q2
        have td2 : Td K _ (.ref a2) (.tuple [Cm.d (.come r5)]) := .tup (.inl (.inl (upd_same (a := a2)))) (.cons (td1.same s2) .nil)
        refine ⟨by show 2 ≤ sizeLine; decide, fun a3 q3 => ?_⟩
        have s3 := same_new (o := .tup [.ref a2, .str "on"]) q3
        have td3 : Td K _ (.ref a3) (Tk.d ([.come r5], .on)) := .tup (.inl (.inl (upd_same (a := a3)))) (.cons (td2.same s3) (.cons (.str _) .nil))
        refine ⟨by show 0 ≤ sizeLine; decide, fun a4 q4 => ?_⟩
        have s4 := same_new (o := .tup []) q4
        have td4 := td_nil (K := K) q4
        have s14 := ((s1.trans s2).trans s3).trans s4
        refine ⟨_, rfl, by show 3 ≤ sizeLine; decide, fun l hl => ?_⟩
        have s5 := same_new (o := .lst [.str "bell", .str "on", .str "sleep"]) hl
        have s15 := s14.trans s5
        refine ⟨d, l, k + 2, _, rfl, D5.same s15, upd_same, by show 0 < 3; decide, by show 3 ≤ 1000; decide, fun e => D5.live (none_back s14 (by rw [← e]; exact hl)), by omega, fun H6 i v F6 D6 hv => ?_⟩
        obtain ⟨wd, rfl⟩ : ∃ wd : Wd, v = .str wd.s := by
          match i, hv with
          | 0, h => cases h; exact ⟨.bell, rfl⟩
          | 1, h => cases h; exact ⟨.on, rfl⟩
          | 2, h => cases h; exact ⟨.sleep, rfl⟩
        refine ⟨by show 2 ≤ sizeLine; decide, fun a5 q5 => ?_⟩
        have s6 := same_new (o := .tup [.ref a4, .str wd.s]) q5
        have td5 : Td K _ (.ref a5) (Tk.d ([], wd)) := .tup (.inl (.inl (upd_same (a := a5)))) (.cons (((td4.same s5).fr F6).same s6) (.cons (.str _) .nil))
        refine ⟨by show 2 ≤ sizeLine; decide, fun a6 q6 => ?_⟩
        have s7 := same_new (o := .tup [.ref a3, .ref a5]) q6
        have td6 : Td K _ (.ref a6) (.tuple (([([.come r5], .on), ([], wd)] : List Tk).map Tk.d)) := .tup (.inl (.inl (upd_same (a := a6)))) (.cons (((((td3.same s4).same s5).fr F6).same s6).same s7) (.cons (td5.same s7) .nil))
        have hp6 := (((hp5.step s15).fr F6 nd n0).step s6).step s7
        have can : canDo b z (.cm (.come r5)) = true := by
          show (decide (r5 < b.ranks.length) && decide (z.crs.tasks.length < 12)) = true
          rw [decide_eq_true (show r5 < b.ranks.length by omega), decide_eq_true c7.2]
          rfl
        have rep : replayF b z (loadCls [([.come r5], .on), ([], wd)]) = some (((z.step b (.cm (.come r5))).step b (.tick .on)).step b (.tick wd)) := by
          show (if canDo b z (.cm (.come r5)) then _ else none) = _
          rw [if_pos can]
          rfl
        have sm : LoadSm [([.come r5], .on), ([], wd)] := by
          refine ⟨by show 2 ≤ 400; decide, fun t ht => ?_, by show 1 ≤ 60; decide⟩
          rcases List.mem_cons.1 ht with rfl | ht
          · exact ⟨by show 1 ≤ 20; decide, fun m hm => by rw [List.mem_singleton.1 hm]; show r5 < 1000; omega⟩
          · rw [List.mem_singleton.1 ht]
            exact ⟨by show 0 ≤ 20; decide, fun m hm => absurd hm List.not_mem_nil⟩
        have F57 := ((F6.step s6).step s7)
        refine ⟨H0, p, ba, .ref a6, _, b, z, _, und, S, rfl, hp6, td6, sm, nofun, rep, by show z.calls.length + 3 < 400; omega, fun H8 S8 t8 F8 G8 P8 => ?_⟩
        exact fin _ (((FA.trans F5).step s15).trans F57) (((D6.same s6).same s7).mono (by omega)) H8 S8 _ [] F8 G8 P8 (by rw [lc, lc, lc]; show z.calls.length + 1 + 1 + 1 + 0 ≤ _; omega)
      refine ⟨_, rfl, rfl, _, rfl, ifNot ?_ (fun hc hR => ⟨_, rfl, p, dx3, _, rfl, g4, ⟨H0, p, ba, b, z, und, S, rfl, hp4, _, rfl, by omega, by omega, _, _, rfl, rfl, _, rfl, andF (decide_eq_false fun h => c7 ⟨of_decide_eq_true hc, by omega⟩) hR⟩⟩)⟩
      refine ⟨_, rfl, p, dx3, _, rfl, g4, rfl, _, rfl, by show 7 ≤ sizeLine; decide, fun l hl => ?_⟩
      have S6 := same_new (o := .lst [.str "on", .str "on", .str "on", .str "way", .str "sleep", .str "bell", .str "end"]) hl
      refine ⟨d, l, k + 1, _, rfl, D4.same S6, upd_same, by show 0 < 7; decide, by show 7 ≤ 1000; decide, fun e => D4.live (by rw [← e]; exact hl), by omega, fun H6 i v F6 D6 hv => ?_⟩
      obtain ⟨wd, rfl⟩ := words i v hv
      exact ⟨H0, p, ba, wd, b, z, und, S, rfl, (hp4.step S6).fr F6 nd n0, by omega, fun H7 S7 F7 G7 P7 => fin H6 ((FA.step S6).trans F6) (D6.mono (by omega)) H7 S7 _ [] F7 G7 P7 (by rw [lc]; simp; omega)⟩
end
end Tb
set_option Elab.async false
set_option linter.all false
set_option maxRecDepth 100000
set_option maxHeartbeats 4000000
/-! What is shown is a text of code points. -/
namespace Tb
open PySem PySem.Spec PyProof.Rows L2
abbrev Cps (l : List Nat) : Prop := ∀ c ∈ l, c < 0x110000
theorem strOk_iff {x : Str} : PyData.strOk x = true ↔ Cps x.cps.toList := by
  unfold PyData.strOk
  constructor
  · intro h c hc
    have := (Array.all_eq_true_iff_forall_mem.mp h) c (Array.mem_toList_iff.mp hc)
    simpa using this
  · intro h
    refine Array.all_eq_true_iff_forall_mem.mpr fun c hc => ?_
    have := h c (Array.mem_toList_iff.mpr hc)
    simpa using this
theorem Cps.app {a b : List Nat} (h : Cps a) (k : Cps b) : Cps (a ++ b) := fun c hc => (List.mem_append.1 hc).elim (h c) (k c)
theorem ok_app {a b : Str} (h : PyData.strOk a = true) (k : PyData.strOk b = true) : PyData.strOk (a ++ b) = true := by
  rw [strOk_iff] at *
  have e : (a ++ b).cps.toList = a.cps.toList ++ b.cps.toList := Array.toList_append
  rw [e]
  exact h.app k
theorem ok_ofString (s : String) : PyData.strOk (Str.ofString s) = true := by
  rw [strOk_iff, Str.ofString_eq_toList]
  intro c hc
  have hc' : c ∈ s.toList.map Char.toNat := by simpa using hc
  obtain ⟨ch, _, rfl⟩ := List.mem_map.1 hc'
  have v := ch.valid
  have v' : ch.toNat < 0xd800 ∨ (0xdfff < ch.toNat ∧ ch.toNat < 0x110000) := v
  omega
theorem cps_hex (n w : Nat) : Cps (List.replicate (w - ((Nat.toDigits 16 n).map Char.toNat).length) 48 ++ (Nat.toDigits 16 n).map Char.toNat) := by
  refine Cps.app (fun c hc => ?_) fun c hc => ?_
  · rw [List.eq_of_mem_replicate hc]; decide
  · obtain ⟨ch, _, rfl⟩ := List.mem_map.1 hc
    have v := ch.valid
    have v' : ch.toNat < 0xd800 ∨ (0xdfff < ch.toNat ∧ ch.toNat < 0x110000) := v
    omega
theorem cps_char {q c : Nat} (hc : c < 0x110000) : Cps (Builtin.Str.reprChar q c) := by
  have two : ∀ a b : Nat, a < 0x110000 → b < 0x110000 → Cps [a, b] := fun a b h k x hx => by
    rcases List.mem_cons.1 hx with rfl | hx
    · exact h
    · rw [List.mem_singleton.1 hx]; exact k
  unfold Builtin.Str.reprChar
  dsimp only
  split
  · exact two _ _ (by decide) hc
  split
  · exact two _ _ (by decide) (by decide)
  split
  · exact two _ _ (by decide) (by decide)
  split
  · exact two _ _ (by decide) (by decide)
  split
  · intro x hx
    rw [List.mem_singleton.1 hx]; exact hc
  split
  · exact (two 92 120 (by decide) (by decide)).app (cps_hex c 2)
  split
  · exact (two 92 117 (by decide) (by decide)).app (cps_hex c 4)
  · exact (two 92 85 (by decide) (by decide)).app (cps_hex c 8)
theorem cps_fold (q : Nat) : ∀ (l : List Nat) (acc : Array Nat), Cps l → Cps acc.toList → Cps (l.foldl (fun out c => out ++ (Builtin.Str.reprChar q c).toArray) acc).toList
  | [], acc, _, h => h
  | c :: l, acc, h, k => by
    refine cps_fold q l _ (fun x hx => h x (List.mem_cons_of_mem _ hx)) ?_
    rw [Array.toList_append]
    exact Cps.app k (cps_char (h c List.mem_cons_self))
theorem ok_repr {x : Str} (h : PyData.strOk x = true) : PyData.strOk (reprText x) = true := by
  rw [strOk_iff] at *
  unfold reprText
  have hq : reprQuote x < 0x110000 := by
    unfold reprQuote
    split <;> decide
  show Cps ((x.cps.foldl (fun out c => out ++ (Builtin.Str.reprChar (reprQuote x) c).toArray) #[reprQuote x]).push (reprQuote x)).toList
  rw [Array.toList_push, ← Array.foldl_toList]
  refine Cps.app (cps_fold _ _ _ h ?_) ?_
  · intro c hc
    have : c = reprQuote x := by simpa using hc
    rw [this]; exact hq
  · intro c hc
    rw [List.mem_singleton.1 hc]; exact hq
theorem ok_join {s : Str} (hs : PyData.strOk s = true) : ∀ {ts : List Str}, (∀ t ∈ ts, PyData.strOk t = true) → PyData.strOk (Str.join s ts) = true
  | [], _ => by show PyData.strOk Str.empty = true; decide +kernel
  | [x], h => h x List.mem_cons_self
  | x :: y :: r, h => ok_app (ok_app (h x List.mem_cons_self) hs) (ok_join hs fun t ht => h t (List.mem_cons_of_mem _ ht))
theorem ok_list {ts : List Str} (h : ∀ t ∈ ts, PyData.strOk t = true) : PyData.strOk (listText ts) = true := by
  rw [listText_eq_join]
  exact ok_app (ok_app (by decide +kernel) (ok_join (by decide +kernel) h)) (by decide +kernel)
theorem ok_tuple {ts : List Str} (h : ∀ t ∈ ts, PyData.strOk t = true) : PyData.strOk (tupleText ts) = true := by
  unfold tupleText
  refine ok_app (ok_app (by decide +kernel) (ok_join (by decide +kernel) h)) ?_
  split <;> decide +kernel
mutual
theorem ok_shown : ∀ d : PyData, d.canLay0 = true → PyData.strOk d.shown = true
  | .none, _ => by unfold PyData.shown; decide +kernel
  | .bool b, _ => by unfold PyData.shown; cases b <;> exact ok_ofString _
  | .int i, _ => by unfold PyData.shown; exact ok_ofString _
  | .str x, h => by unfold PyData.canLay0 at h; unfold PyData.shown; exact ok_repr h
  | .list xs, h => by unfold PyData.canLay0 at h; unfold PyData.shown; exact ok_list (ok_shownAll xs h)
  | .tuple xs, h => by unfold PyData.canLay0 at h; unfold PyData.shown; exact ok_tuple (ok_shownAll xs h)
  | .dict kvs, h => by unfold PyData.canLay0 at h; cases h
theorem ok_shownAll : ∀ ds : List PyData, PyData.canLayAll0 ds = true → ∀ t ∈ PyData.shownAll ds, PyData.strOk t = true
  | [], _ => by unfold PyData.shownAll; exact fun _ h => absurd h List.not_mem_nil
  | d :: ds, h => by
    unfold PyData.canLayAll0 at h
    rw [Bool.and_eq_true] at h
    unfold PyData.shownAll
    intro t ht
    rcases List.mem_cons.1 ht with rfl | ht
    · exact ok_shown d h.1
    · exact ok_shownAll ds h.2 t ht
end
end Tb
set_option Elab.async false
set_option linter.all false
set_option maxRecDepth 100000
set_option maxHeartbeats 4000000
/-! The law's state: some processors, what each has undone. -/
namespace Tb
open PySem PySem.Spec PyProof.Rows L2
/-! ### what stands where no table stands -/
theorem LevAt.frT {K : PySem.W.Frag} {H H' : Hp} {a D : Addr} {l : Lev} {ps : Array Value} (h : LevAt K H a l) (f : Fr [D] H H') (hD : H D = some (.tbl ps)) : LevAt K H' a l := by
  obtain ⟨dx, d, us, wk, wy, lo, h1, h2, h3, h4, h5, h6⟩ := h.ex
  have ne : ∀ {b : Addr} {o : HO}, H b = some o → (∀ xs, o ≠ .tbl xs) → b ∉ [D] := fun e n m => by
    rw [List.mem_singleton.1 m, hD] at e
    exact n ps (Option.some.inj e).symm
  exact ⟨dx, d, us, wk, wy, lo, f.keep _ _ h1 (ne h1 fun xs e => by cases e), f.keep _ _ h2 (ne h2 fun xs e => by cases e), h3.fr f, h4.fr f, h5.fr f, h6.fr f⟩
theorem BkAt.frT {K : PySem.W.Frag} {H H' : Hp} {a D : Addr} {b : Bk} {ps : Array Value} (h : BkAt K H a b) (f : Fr [D] H H') (hD : H D = some (.tbl ps)) : BkAt K H' a b := by
  obtain ⟨dx, lt, rt, as, h1, h2, h3, h4⟩ := h.ex
  have n : a ∉ [D] := fun m => by
    rw [List.mem_singleton.1 m, hD] at h1
    cases h1
  exact ⟨dx, lt, rt, as, f.keep _ _ h1 n, f.sqT h2, Paired.imp (fun _ _ z => z.frT f hD) h3, f.sqT h4⟩
theorem PlainAt.frT {K : PySem.W.Frag} {H H' : Hp} {a D : Addr} {b : Bk} {ps : Array Value} (h : PlainAt K H a b) (f : Fr [D] H H') (hD : H D = some (.tbl ps)) : PlainAt K H' a b := by
  obtain ⟨ll, rt, ts, h1, h2, h3, h4⟩ := h.ex
  have n : ll ∉ [D] := fun m => by
    rw [List.mem_singleton.1 m, hD] at h2
    cases h2
  exact ⟨ll, rt, ts, f.sqT h1, f.keep _ _ h2 n, Paired.imp (fun _ _ z => z.fr f) h3, f.sqT h4⟩
theorem PlainAt.same {K : PySem.W.Frag} {H H' : Hp} {a : Addr} {b : Bk} (h : PlainAt K H a b) (s : Same H H') : PlainAt K H' a b := by
  obtain ⟨ll, rt, ts, h1, h2, h3, h4⟩ := h.ex
  have f := Fr.of [] s
  exact ⟨ll, rt, ts, f.sqT h1, s _ _ h2, Paired.imp (fun _ _ z => z.fr f) h3, f.sqT h4⟩
/-- the script: frozen, or the module's own -/
def Scr (K : PySem.W.Frag) (H : Hp) (a : Addr) (xs : List V) : Prop := (∃ o, H a = some (.frz o (.lst xs))) ∨ ∀ H', SqL K H' a xs
theorem Scr.sq {K : PySem.W.Frag} {H : Hp} {a : Addr} {xs : List V} (h : Scr K H a xs) : SqL K H a xs := by
  rcases h with ⟨o, h⟩ | h
  · exact .inl (.inr ⟨o, h⟩)
  · exact h H
theorem Scr.fr {K : PySem.W.Frag} {H H' : Hp} {a : Addr} {xs : List V} {U : List Addr} (h : Scr K H a xs) (f : Fr U H H') : Scr K H' a xs := by
  rcases h with ⟨o, h⟩ | h
  · exact .inl ⟨o, f.frz _ _ _ h⟩
  · exact .inr h
/-- the heap without what stands at an address -/
def off (H : Hp) (P : Addr) : Hp := fun a => if a = P then none else H a
theorem off_at {H : Hp} {P : Addr} : off H P P = none := if_pos rfl
theorem off_ne {H : Hp} {P a : Addr} (h : a ≠ P) : off H P a = H a := if_neg h
theorem off_same {H : Hp} {P : Addr} : Same (off H P) H := fun a o h => by
  unfold off at h
  split at h
  · cases h
  · exact h
theorem off_fr {H : Hp} {P : Addr} {ps : Array Value} (hP : H P = some (.tbl ps)) : Fr [P] H (off H P) := by
  refine ⟨fun a o h n => ?_, fun a xs h => ?_, fun a o u h => ?_⟩
  · rw [off_ne fun e => n (by rw [e]; exact List.mem_singleton.2 rfl)]; exact h
  · rw [off_ne fun e => by rw [e, hP] at h; cases h]; exact h
  · rw [off_ne fun e => by rw [e, hP] at h; cases h]; exact h
theorem off_none {H : Hp} {P a : Addr} (h : H a = none) : off H P a = none := by
  unfold off
  split
  · rfl
  · exact h
/-! ### the state -/
structure Rec where
  p : Addr
  z : Wk
  u : List Cl
  S : List Addr
def smV (rs : List Rec) : List V := rs.map fun r => V.ref r.p
def lfV (rs : List Rec) : List V := rs.map fun r => V.int (r.u.length : Nat)
structure LS (K : PySem.W.Frag) (H0 H : Hp) (ba sm lf : Addr) (b : Bk) (n : Nat) (rs : List Rec) : Prop where
  pr : ∀ (i : Nat) (r : Rec), rs[i]? = some r → ProcIn K H0 H r.p ba b r.z r.u r.S
  bd : ∀ (i : Nat) (r : Rec), rs[i]? = some r → r.z.calls.length + r.u.length ≤ n
  dj : ∀ (i j : Nat) (r q : Rec), i ≠ j → rs[i]? = some r → rs[j]? = some q → ∀ x ∈ r.S, x ∉ q.S
  smA : H sm = some (.lst (smV rs))
  lfA : H lf = some (.lst (lfV rs))
  ne : sm ≠ lf
  offS : ∀ (i : Nat) (r : Rec), rs[i]? = some r → sm ∉ r.S ∧ lf ∉ r.S
  s0 : H0 sm = none
  l0 : H0 lf = none
  t0 : H0 (cQ K).2 = none
  tabs : LamX.Tabs (tabQ K) H
  bk : BkIn K H0 H ba b
  bo : BkOk b
  pos : 0 < rs.length
  few : rs.length ≤ 4
/-- an address apart from the state -/
structure Apart (H0 : Hp) (d sm lf : Addr) (rs : List Rec) : Prop where
  n0 : H0 d = none
  ns : d ≠ sm
  nl : d ≠ lf
  nS : ∀ (i : Nat) (r : Rec), rs[i]? = some r → d ∉ r.S
section
variable {K : PySem.W.Frag} {H0 H : Hp} {ba sm lf : Addr} {b : Bk} {n : Nat} {rs : List Rec}
theorem LS.step {H' : Hp} (h : LS K H0 H ba sm lf b n rs) (s : Same H H') : LS K H0 H' ba sm lf b n rs :=
  ⟨fun i r e => (h.pr i r e).step s, h.bd, h.dj, s _ _ h.smA, s _ _ h.lfA, h.ne, h.offS, h.s0, h.l0, h.t0, tabs_same h.tabs s, h.bk.step s, h.bo, h.pos, h.few⟩
theorem LS.apart (h : LS K H0 H ba sm lf b n rs) {d : Addr} (e : H d = none) : Apart H0 d sm lf rs :=
  ⟨none_back h.bk.same e, (ne_of_none h.smA e).symm, (ne_of_none h.lfA e).symm, fun i r hr m => (h.pr i r hr).at_.live d m e⟩
theorem LS.fr {H' : Hp} {d : Addr} (h : LS K H0 H ba sm lf b n rs) (ap : Apart H0 d sm lf rs) (f : Fr [d] H H') (k : Kinds H [d]) : LS K H0 H' ba sm lf b n rs := by
  have n0 : ∀ a ∈ [d], H0 a = none := fun a m => by rw [List.mem_singleton.1 m]; exact ap.n0
  exact ⟨fun i r e => (h.pr i r e).fr f (fun a ha m => ap.nS i r e (by rw [← List.mem_singleton.1 m]; exact ha)) n0, h.bd, h.dj, f.keep _ _ h.smA fun m => ap.ns (List.mem_singleton.1 m).symm, f.keep _ _ h.lfA fun m => ap.nl (List.mem_singleton.1 m).symm, h.ne, h.offS, h.s0, h.l0, h.t0, tabs_fr h.tabs f k, h.bk.fr f n0, h.bo, h.pos, h.few⟩
/-- the table is none of them -/
theorem LS.tab (h : LS K H0 H ba sm lf b n rs) : ∃ ps, H (cQ K).2 = some (.tbl ps) := by
  obtain ⟨ps, e, _⟩ := h.tabs ((cQ K).2, lamQ) (List.mem_singleton.2 rfl)
  exact ⟨ps, e⟩
theorem kinds_off {S : List Addr} {P : Addr} {ps : Array Value} (k : Kinds H S) (e : H P = some (.tbl ps)) : P ∉ S := fun m => by
  obtain ⟨o, e', k'⟩ := k _ m
  rw [e] at e'
  cases e'
  exact k'
theorem LS.tabS (h : LS K H0 H ba sm lf b n rs) : (cQ K).2 ≠ sm ∧ (cQ K).2 ≠ lf ∧ ∀ (i : Nat) (r : Rec), rs[i]? = some r → (cQ K).2 ∉ r.S := by
  obtain ⟨ps, e⟩ := h.tab
  refine ⟨fun q => ?_, fun q => ?_, fun i r hr => kinds_off (h.pr i r hr).at_.kinds e⟩
  · rw [q, h.smA] at e; cases e
  · rw [q, h.lfA] at e; cases e
/-- a twin joins -/
theorem LS.join {H1 H2 H3 : Hp} {p : Addr} {S : List Addr} {i : Nat} {r : Rec} (h : LS K H0 H ba sm lf b n rs) (hr : rs[i]? = some r) (s : Same H H1) (P : ProcAt K H1 p ba r.z r.u S) (nw : ∀ a ∈ S, H a = none) (few : rs.length < 4)
    (e2 : H2 = upd H1 sm (.lst (smV rs ++ [.ref p]))) (e3 : H3 = upd H2 lf (.lst (lfV rs ++ [.int (r.u.length : Nat)]))) : LS K H0 H3 ba sm lf b n (rs ++ [⟨p, r.z, r.u, S⟩]) := by
  have h1 := h.step s
  have F2 : Fr [sm, lf] H1 H2 := by rw [e2]; exact Fr.wr h1.smA trivial List.mem_cons_self
  have hl2 : H2 lf = some (.lst (lfV rs)) := by rw [e2, upd_ne h.ne.symm]; exact h1.lfA
  have F3 : Fr [sm, lf] H2 H3 := by rw [e3]; exact Fr.wr hl2 trivial (List.mem_cons_of_mem _ (List.mem_singleton.2 rfl))
  have F := F2.trans F3
  have n0 : ∀ a ∈ [sm, lf], H0 a = none := fun a m => by
    rcases List.mem_cons.1 m with rfl | m
    · exact h.s0
    · rw [List.mem_singleton.1 m]; exact h.l0
  have kk : Kinds H1 [sm, lf] := kinds_cons h1.smA trivial (kinds_cons h1.lfA trivial fun _ z => absurd z List.not_mem_nil)
  have offN : ∀ {T : List Addr}, sm ∉ T → lf ∉ T → ∀ a ∈ T, a ∉ [sm, lf] := fun q1 q2 a ha m => by
    rcases List.mem_cons.1 m with rfl | m
    · exact q1 ha
    · rw [List.mem_singleton.1 m] at ha; exact q2 ha
  have sS : sm ∉ S := fun m => by have := nw _ m; rw [h.smA] at this; cases this
  have lS : lf ∉ S := fun m => by have := nw _ m; rw [h.lfA] at this; cases this
  have split : ∀ {j : Nat} {q : Rec}, (rs ++ [⟨p, r.z, r.u, S⟩])[j]? = some q → (rs[j]? = some q) ∨ (j = rs.length ∧ q = ⟨p, r.z, r.u, S⟩) := fun {j q} e => by
    by_cases hj : j < rs.length
    · rw [List.getElem?_append_left hj] at e
      exact .inl e
    · rw [List.getElem?_append_right (by omega)] at e
      have h0 : j - rs.length = 0 := by
        have := (List.getElem?_eq_some_iff.1 e).1
        simp at this
        omega
      rw [h0] at e
      cases e
      exact .inr ⟨by omega, rfl⟩
  have new : ∀ {j : Nat} {q : Rec}, rs[j]? = some q → ∀ x ∈ q.S, x ∉ S := fun {j q} e x hx m => (h.pr j q e).at_.live x hx (nw x m)
  refine ⟨fun j q e => ?_, fun j q e => ?_, fun j l q t njl ej el => ?_, ?_, ?_, h.ne, fun j q e => ?_, h.s0, h.l0, h.t0, tabs_fr (tabs_same h.tabs s) F kk, (h.bk.step s).fr F n0, h.bo, by rw [List.length_append]; exact Nat.lt_of_lt_of_le h.pos (Nat.le_add_right _ _), by rw [List.length_append]; exact few⟩
  · rcases split e with e | ⟨_, rfl⟩
    · exact (h1.pr j q e).fr F (offN (h.offS j q e).1 (h.offS j q e).2) n0
    · have hp := h.pr i r hr
      exact ⟨P.fr F (offN sS lS), (h1.bk).fr F n0, h.bo, fun a ha => none_back h.bk.same (nw a ha), hp.ok⟩
  · rcases split e with e | ⟨_, rfl⟩
    · exact h.bd j q e
    · exact h.bd i r hr
  · rcases split ej with ej | ⟨ej, rfl⟩
    · rcases split el with el | ⟨el, rfl⟩
      · exact h.dj j l q t njl ej el
      · exact new ej
    · rcases split el with el | ⟨el, rfl⟩
      · exact fun x hx m => new el x m hx
      · omega
  · rw [e3, upd_ne h.ne, e2, upd_same]
    unfold smV
    rw [List.map_append]
    rfl
  · rw [e3, upd_same]
    unfold lfV
    rw [List.map_append]
    rfl
  · rcases split e with e | ⟨_, rfl⟩
    · exact h.offS j q e
    · exact ⟨sS, lS⟩
/-- one of them is called -/
theorem LS.call {H' H2 : Hp} {d : Addr} {i : Nat} {r : Rec} {S' : List Addr} {z' : Wk} {u' : List Cl} (h : LS K H0 H ba sm lf b n rs) (hr : rs[i]? = some r) (ap : Apart H0 d sm lf rs) (kd : Kinds H [d])
    (f : Fr (d :: (cQ K).2 :: r.S) H H') (g : Grow H r.S S') (P : ProcIn K H0 H' r.p ba b z' u' S') (t : LamX.Tabs (tabQ K) H') (l : z'.calls.length + u'.length ≤ r.z.calls.length + r.u.length + 3)
    (e2 : H2 = upd H' lf (.lst ((lfV rs).set i (.int (u'.length : Nat))))) : LS K H0 H2 ba sm lf b (n + 3) (rs.set i ⟨r.p, z', u', S'⟩) := by
  obtain ⟨t1, t2, t3⟩ := h.tabS
  have hp := h.pr i r hr
  have n0 : ∀ a ∈ d :: (cQ K).2 :: r.S, H0 a = none := fun a m => by
    rcases List.mem_cons.1 m with rfl | m
    · exact ap.n0
    · rcases List.mem_cons.1 m with rfl | m
      · exact h.t0
      · exact hp.new a m
  have sm' : H' sm = some (.lst (smV rs)) := f.keep _ _ h.smA fun m => by
    rcases List.mem_cons.1 m with m | m
    · exact ap.ns m.symm
    · rcases List.mem_cons.1 m with m | m
      · exact t1 m.symm
      · exact (h.offS i r hr).1 m
  have lf' : H' lf = some (.lst (lfV rs)) := f.keep _ _ h.lfA fun m => by
    rcases List.mem_cons.1 m with m | m
    · exact ap.nl m.symm
    · rcases List.mem_cons.1 m with m | m
      · exact t2 m.symm
      · exact (h.offS i r hr).2 m
  have F2 : Fr [lf] H' H2 := by rw [e2]; exact Fr.wr lf' trivial (List.mem_singleton.2 rfl)
  have l0 : ∀ a ∈ [lf], H0 a = none := fun a m => by rw [List.mem_singleton.1 m]; exact h.l0
  have kl : Kinds H' [lf] := kinds_cons lf' trivial fun _ z => absurd z List.not_mem_nil
  have sS : sm ∉ S' := fun m => by
    rcases g _ m with m | e
    · exact (h.offS i r hr).1 m
    · rw [h.smA] at e; cases e
  have lS : lf ∉ S' := fun m => by
    rcases g _ m with m | e
    · exact (h.offS i r hr).2 m
    · rw [h.lfA] at e; cases e
  have offL : ∀ {T : List Addr}, lf ∉ T → ∀ a ∈ T, a ∉ [lf] := fun q a ha m => q (by rw [← List.mem_singleton.1 m]; exact ha)
  have split : ∀ {j : Nat} {q : Rec}, (rs.set i ⟨r.p, z', u', S'⟩)[j]? = some q → (j ≠ i ∧ rs[j]? = some q) ∨ (j = i ∧ q = ⟨r.p, z', u', S'⟩) := fun {j q} e => by
    by_cases hj : i = j
    · subst hj
      rw [List.getElem?_set_self (List.getElem?_eq_some_iff.1 hr).1] at e
      cases e
      exact .inr ⟨rfl, rfl⟩
    · rw [List.getElem?_set_ne hj] at e
      exact .inl ⟨fun z => hj z.symm, e⟩
  have new : ∀ {j : Nat} {q : Rec}, j ≠ i → rs[j]? = some q → ∀ x ∈ q.S, x ∉ S' := fun {j q} nj e x hx m => by
    rcases g x m with m | e'
    · exact h.dj j i q r nj e hr x hx m
    · exact (h.pr j q e).at_.live x hx e'
  refine ⟨fun j q e => ?_, fun j q e => ?_, fun j k q t njk ej ek => ?_, ?_, ?_, h.ne, fun j q e => ?_, h.s0, h.l0, h.t0, tabs_fr t F2 kl, (h.bk.fr f n0).fr F2 l0, h.bo, by rw [List.length_set]; exact h.pos, by rw [List.length_set]; exact h.few⟩
  · rcases split e with ⟨nj, e⟩ | ⟨_, rfl⟩
    · refine ((h.pr j q e).fr f (fun a ha m => ?_) n0).fr F2 (offL (h.offS j q e).2) l0
      rcases List.mem_cons.1 m with rfl | m
      · exact ap.nS j q e ha
      · rcases List.mem_cons.1 m with rfl | m
        · exact t3 j q e ha
        · exact h.dj j i q r nj e hr a ha m
    · exact P.fr F2 (offL lS) l0
  · rcases split e with ⟨nj, e⟩ | ⟨_, rfl⟩
    · exact Nat.le_trans (h.bd j q e) (Nat.le_add_right _ _)
    · exact Nat.le_trans l (Nat.add_le_add_right (h.bd i r hr) 3)
  · rcases split ej with ⟨nj, ej⟩ | ⟨ej, rfl⟩
    · rcases split ek with ⟨nk, ek⟩ | ⟨ek, rfl⟩
      · exact h.dj j k q t njk ej ek
      · exact new nj ej
    · rcases split ek with ⟨nk, ek⟩ | ⟨ek, rfl⟩
      · exact fun x hx m => new nk ek x m hx
      · omega
  · rw [e2, upd_ne h.ne, sm']
    congr 2
    unfold smV
    rw [List.map_set]
    apply List.ext_getElem?
    intro j
    by_cases hj : i = j
    · subst hj
      rw [List.getElem?_set_self (by rw [List.length_map]; exact (List.getElem?_eq_some_iff.1 hr).1), List.getElem?_map, hr]
      rfl
    · rw [List.getElem?_set_ne hj]
  · rw [e2, upd_same]
    unfold lfV
    rw [List.map_set]
  · rcases split e with ⟨nj, e⟩ | ⟨_, rfl⟩
    · exact h.offS j q e
    · exact ⟨sS, lS⟩
end
end Tb
set_option Elab.async false
set_option linter.all false
set_option maxRecDepth 100000
set_option maxHeartbeats 4000000
/-! The law. -/
namespace Tb
open PySem PySem.Spec PyProof.Rows L2
theorem PS.mono' {X : Cx} {e : Stmt} {t t' : TS} (h : PS X e t) (imp : ∀ D σ H, t' D σ H → t D σ H) : PS X e t' := ⟨fun pins s σ H D I q => h.run pins s σ H D I (imp D σ H q)⟩
section
variable {P : Program} {w : World} {K : PySem.W.Frag} {mg : Str → Option Value} {base : Heap}
def sp_law (K : PySem.W.Frag) : Sp := fun vs H Q _ => ∃ (a : Addr) (ns : List Int), vs = [.ref a] ∧ Scr K H a (ns.map V.int) ∧ ns.length ≤ sizeLine ∧ H (cQ K).2 = some (.tbl #[]) ∧ ∀ H', Q (.bl true) H'
/-- one more, or as before -/
def tTwin (K : PySem.W.Frag) : TS := fun D σ H => ∃ (H0 : Hp) (ba sm lf d : Addr) (b : Bk) (n k i : Nat) (rs : List Rec) (a0 a1 a2 a5 a8 a9 : Option V), σ = [a0, a1, a2, some (.ref sm), some (.ref lf), a5, some (.ref d), some (.int (i : Nat)), a8, a9] ∧
  LS K H0 H ba sm lf b n rs ∧ Apart H0 d sm lf rs ∧ Dice H d k ∧ k + 1 < 1000 ∧ i < rs.length ∧
  ∀ H' rs', LS K H0 H' ba sm lf b n rs' → Apart H0 d sm lf rs' → Dice H' d (k + 1) → i < rs'.length → D.nx σ H'
/-- like its log -/
def tLike (K : PySem.W.Frag) : TS := fun D σ H => ∃ (H0 : Hp) (ba sm lf d : Addr) (b : Bk) (n k i : Nat) (rs : List Rec) (a0 a1 a5 a8 a9 : Option V), σ = [a0, a1, some (.ref ba), some (.ref sm), some (.ref lf), a5, some (.ref d), some (.int (i : Nat)), a8, a9] ∧
  LS K H0 H ba sm lf b n rs ∧ Apart H0 d sm lf rs ∧ Dice H d k ∧ k + 1 < 1000 ∧ i < rs.length ∧ n < 390 ∧
  ∀ H', Fr [d] H H' → LS K H0 H' ba sm lf b n rs → D.nx σ H'
theorem setD {rs : List Rec} {i : Nat} {r : Rec} : (rs.set i r).take i ++ (rs.set i r).drop (i + 1) = rs.take i ++ rs.drop (i + 1) := by
  rw [List.take_set_of_le (Nat.le_refl _), List.drop_set_of_lt (Nat.lt_succ_self _)]
def othD (b : Bk) (rs : List Rec) : List Str := rs.map fun r => shownS b r.z
theorem oth {a0 a1 a2 a4 a5 a6 a8 a9 : Option V} {H0 H : Hp} {ba sm lf : Addr} {b : Bk} {n i : Nat} {rs : List Rec} {Q : VK} (L : LS K H0 H ba sm lf b n rs) (hi : i < rs.length) (hn : n < 390)
    (q : ∀ D H', Same H H' → H D = none → H' D = some (.lst ((othD b (rs.take i ++ rs.drop (i + 1))).map V.str)) → Q (.ref D) H') :
    tLc (iList K (tOp rCat (tSl (rSlL K) (tVar 3) tNoPart (tPart (tVar 7))) (tSl (rSlL K) (tVar 3) (tPart (tOp (rI0 fun i j => V.int (i + j)) (tVar 7) (tC (V.int 1)))) tNoPart))) (gName 9) tYes (tCall (sp__law_shown K) [] E0 (tCons (tVar 9) tNil)) (List.map (fun x => x.snd) [(("_law_one" : Str), 9)]) [a0, a1, a2, some (.ref sm), a4, a5, a6, some (.int (i : Nat)), a8, a9] H Q := by
  have ls : (smV rs).length = rs.length := by unfold smV; rw [List.length_map]
  refine ⟨_, rfl, _, rfl, _, rfl, sm, _, rfl, .inl (.inl L.smA), fun p1 hp1 => ?_⟩
  have S1 := same_new (o := .lst (cutV (smV rs) none (some (i : Int)))) hp1
  refine ⟨_, rfl, _, rfl, _, _, rfl, rfl, _, rfl, sm, _, rfl, .inl (.inl (S1 _ _ L.smA)), fun p2 hp2 => ?_⟩
  have S2 := S1.trans (same_new (o := .lst (cutV (smV rs) (some ((i : Int) + 1)) none)) hp2)
  have e1 : cutV (smV rs) none (some (i : Int)) = smV (rs.take i) := by
    rw [cutV_take (by omega)]
    unfold smV
    rw [List.map_take]
  have e2 : cutV (smV rs) (some ((i : Int) + 1)) none = smV (rs.drop (i + 1)) := by
    rw [show (i : Int) + 1 = ((i + 1 : Nat) : Int) by omega, cutV_drop (by omega)]
    unfold smV
    rw [List.map_drop]
  have f4 := L.few
  have lo : (rs.take i ++ rs.drop (i + 1)).length < 4 := by
    rw [List.length_append, List.length_take, List.length_drop]
    omega
  refine ⟨p1, p2, _, _, rfl, rfl, by rw [upd_ne (ne_of_none upd_same hp2)]; exact upd_same, upd_same, ?_, fun p3 hp3 => ?_⟩
  · rw [e1, e2]
    unfold smV
    rw [List.length_map, List.length_map, ← List.length_append]
    exact Nat.le_of_lt (Nat.lt_trans lo (by decide))
  rw [e1, e2] at hp3 ⊢
  rw [e1, e2] at S2
  generalize upd (upd H p1 (.lst (smV (rs.take i)))) p2 (.lst (smV (rs.drop (i + 1)))) = H2 at *
  obtain ⟨os, eo⟩ : ∃ os, os = rs.take i ++ rs.drop (i + 1) := ⟨_, rfl⟩
  have em : smV (rs.take i) ++ smV (rs.drop (i + 1)) = smV os := by
    rw [eo]
    unfold smV
    rw [List.map_append]
  rw [em] at *
  rw [← eo] at lo q
  have S3 := S2.trans (same_new (o := .lst (smV os)) hp3)
  have mem : ∀ (j : Nat) (r : Rec), os[j]? = some r → ∃ j', rs[j']? = some r := fun j r e => by
    have m := List.mem_of_getElem? e
    rw [eo] at m
    rcases List.mem_append.1 m with m | m
    · exact List.mem_iff_getElem?.1 (List.mem_of_mem_take m)
    · exact List.mem_iff_getElem?.1 (List.mem_of_mem_drop m)
  have lso : (smV os).length = os.length := by unfold smV; rw [List.length_map]
  refine ⟨p3, rfl, ⟨_, .inl (.inl upd_same)⟩, fun D hD => ?_⟩
  have sp3 : SqL K (upd H2 p3 (.lst (smV os))) p3 (smV os) := .inl (.inl upd_same)
  refine lc_all (walk_list (xs := smV os)) (fun j y _ => ∃ r, os[j]? = some r ∧ y = .str (shownS b r.z)) hD (by rw [lso]; exact Nat.lt_trans lo (by decide)) (fun _ _ _ _ => same_at) (fun H4 f4 _ => .inl (.inl (f4.keep _ _ upd_same fun m => ne_of_none upd_same hD (List.mem_singleton.1 m)))) ?_ ?_ ?_
  · rintro j y H4 H5 _ _ h
    exact h
  · rintro j x H4 H5 Q' hj S4 ⟨rfl, hx⟩ q'
    have hx2 := hx
    unfold smV at hx2
    rw [List.getElem?_map] at hx2
    obtain ⟨r, hr, ex⟩ : ∃ r, os[j]? = some r ∧ x = .ref r.p := by
      cases e : os[j]? with
      | none => rw [e] at hx2; cases hx2
      | some r => rw [e] at hx2; cases hx2; exact ⟨r, rfl, rfl⟩
    subst ex
    obtain ⟨j', hr'⟩ := mem j r hr
    have hp := (L.step (S3.trans S4)).pr j' r hr'
    have hb := L.bd j' r hr'
    exact ⟨rfl, _, rfl, H0, r.p, ba, b, r.z, r.u, r.S, rfl, hp, by omega, fun H6 S6 => q' _ H6 S6 ⟨r, hr, rfl⟩⟩
  · intro H4 ys S4 hD4 l4 r4
    refine q D H4 (S3.trans S4) (none_back S3 hD) ?_
    rw [hD4]
    congr 2
    unfold othD
    apply List.ext_getElem?
    intro j
    rw [List.map_map, List.getElem?_map]
    by_cases hj : j < os.length
    · have hy := List.getElem?_eq_getElem (l := ys) (i := j) (by omega)
      obtain ⟨r, e1, e2⟩ := r4 j _ hy
      rw [hy, e1, e2]
      rfl
    · rw [List.getElem?_eq_none (by omega), List.getElem?_eq_none (by omega)]
      rfl
theorem seq_asg {te : TE} {g : TG} {rest : TS} {D : Ends} {σ : L2.St} {H : Hp} (h : te σ H fun x H1 => g x σ H1 (rest D)) : tSeq (tAsg te g) rest D σ H := h
theorem if_op {r : R2} {ta tb : TE} {sa sb : TS} {D : Ends} {σ : L2.St} {H : Hp} (h : ta σ H fun x H1 => tb σ H1 fun y H2 => r x y H2 fun z H3 => ∃ k, z = .bl k ∧ if k = true then sa D σ H3 else sb D σ H3) : tIfS (tTest (tOp r ta tb)) sa sb D σ H := h
theorem dpStrs {H : Hp} : ∀ ss : List Str, DpAll K H (ss.map V.str) (ss.map PyData.str)
  | [] => .nil
  | _ :: ss => .cons (.str _) (dpStrs ss)
theorem LS.fl {H0 H : Hp} {ba sm lf : Addr} {b : Bk} {n : Nat} {rs : List Rec} (L : LS K H0 H ba sm lf b n rs) (hn : n < 390) (i : Nat) : Fl 1 (.list ((othD b (rs.take i ++ rs.drop (i + 1))).map PyData.str)) := by
  refine Fl.list fun e he => ?_
  unfold othD at he
  rw [List.map_map] at he
  obtain ⟨r, m, rfl⟩ := List.mem_map.1 he
  obtain ⟨j, hj⟩ : ∃ j, rs[j]? = some r := by
    rcases List.mem_append.1 m with m | m
    · exact List.mem_iff_getElem?.1 (List.mem_of_mem_take m)
    · exact List.mem_iff_getElem?.1 (List.mem_of_mem_drop m)
  have hp := L.pr j r hj
  have hb := L.bd j r hj
  have rp := shown_rp hp.bo (replay_ok hp.bo hp.ok.log) (replay_sm hp.bo hp.ok.log) (by omega)
  exact Fl.str _ (ok_shown _ rp.fl.1)
theorem LS.lfK {H0 H H' : Hp} {ba sm lf d : Addr} {b : Bk} {n i : Nat} {r : Rec} {rs : List Rec} (h : LS K H0 H ba sm lf b n rs) (hr : rs[i]? = some r) (ap : Apart H0 d sm lf rs) (f : Fr (d :: (cQ K).2 :: r.S) H H') : H' lf = some (.lst (lfV rs)) := by
  obtain ⟨t1, t2, t3⟩ := h.tabS
  refine f.keep _ _ h.lfA fun m => ?_
  rcases List.mem_cons.1 m with m | m
  · exact ap.nl m.symm
  · rcases List.mem_cons.1 m with m | m
    · exact t2 m.symm
    · exact (h.offS i r hr).2 m
theorem Apart.call {H0 H : Hp} {sm lf d : Addr} {i : Nat} {r : Rec} {rs : List Rec} {S' : List Addr} {p : Addr} {z : Wk} {u : List Cl} (ap : Apart H0 d sm lf rs) (hr : rs[i]? = some r) (live : H d ≠ none) (g : Grow H r.S S') : Apart H0 d sm lf (rs.set i ⟨p, z, u, S'⟩) := by
  refine ⟨ap.n0, ap.ns, ap.nl, fun j q e m => ?_⟩
  by_cases hj : i = j
  · subst hj
    rw [List.getElem?_set_self (List.getElem?_eq_some_iff.1 hr).1] at e
    cases e
    exact (g d m).elim (ap.nS i r hr) live
  · rw [List.getElem?_set_ne hj] at e
    exact ap.nS j q e m
theorem k_law (T : Tx K mg base) (TB : LamX.TabB base mg (cQ K).1 (cQ K).2) : CalG P w K mg base 18 "law" (sp_law K) := by
  refine calg_ok (D_law T) (g_law T) sc_law (fun vs H Q E h => ?_) (fun cdv A outer s H vs Q hG hr h => ?_)
  · obtain ⟨a, ns, rfl, _⟩ := h; rfl
  · obtain ⟨a, ns, rfl, hs, hlen, hP, qq⟩ := h
    refine ⟨_, (pss_cons (ps_set (i := 1) sc_law.nd rfl (Or.inl rfl) (pe_f (k__law_book T) hr (by decide) rfl (pa_cons (pe_f (k__law_dice T) hr (by decide) rfl (pa_cons (pv 0) (pa_cons pe_int pa_nil))) (pa_cons pe_int (pa_cons pe_int (pa_cons pe_int pa_nil))))))
      (pss_cons (ps_set (i := 2) sc_law.nd rfl (Or.inr rfl) (pe_f (k__law_book_made T) hr (by decide) rfl (pa_cons (pv 1) pa_nil)))
      (pss_cons (ps_par (i := 3) (j := 4) (by rfl) sc_law.nd rfl rfl (by decide) rfl rfl (pa_cons (pe_lst (pa_cons (pe_k (k_Processor___init__ T) hr (by decide) rfl (pa_cons (pv 2) pa_nil)) pa_nil)) (pa_cons (pe_lst (pa_cons pe_int pa_nil)) pa_nil)) (by rfl))
      (pss_cons (ps_for PassesOwn.never rfl (pi_range2 rfl (f_range T) (pa_cons pe_int (pa_cons (pe_callB (call_min2 rfl) rfl (f_min T) b_min (pa_cons pe_int (pa_cons (pe_callB (call_max2 rfl) rfl (f_max T) b_max (pa_cons pe_int (pa_cons (pe_callB call_len_seq rfl (f_len T) b_len (pa_cons (pv 0) pa_nil) (by decide) (by decide)) pa_nil)) (by decide) (by decide)) pa_nil)) (by decide) (by decide)) pa_nil))) (pg_name (i := 5) sc_law.nd rfl (Or.inl rfl)) (pss_cons (ps_set (i := 6) sc_law.nd rfl (Or.inl rfl) (pe_f (k__law_dice T) hr (by decide) rfl (pa_cons (pv 0) (pa_cons (pv 5) pa_nil))))
      (pss_cons (ps_set (i := 7) sc_law.nd rfl (Or.inl rfl) (pe_f (k__law_roll T) hr (by decide) rfl (pa_cons (pv 6) (pa_cons (pe_callB call_len_seq rfl (f_len T) b_len (pa_cons (pv 3) pa_nil) (by decide) (by decide)) pa_nil))))
      (pss_cons (PS.mono' (t' := tTwin K) (ps_if (PW.pt (pw_and (pt_cmpR op_lt (pe_callB call_len_seq rfl (f_len T) b_len (pa_cons (pv 3) pa_nil) (by decide) (by decide)) pe_int (nomark _)) (pw_and1 (pt_cmpR op_eq (pe_f (k__law_roll T) hr (by decide) rfl (pa_cons (pv 6) (pa_cons pe_int pa_nil))) pe_int (nomark _))))) (pss_cons (ps_expr (pe_bm PySem.F.plainAttrs_list PySem.F.slot_list_append PySem.F.type_list_append mt_append (pv 3) (pa_cons (pe_m0 (k_Processor_twin T) hr (by decide) (pe_ix ix_list (pv 3) (pv 7) (fun _ _ => rfl))) pa_nil)))
      (pss_one (ps_expr (pe_bm PySem.F.plainAttrs_list PySem.F.slot_list_append PySem.F.type_list_append mt_append (pv 4) (pa_cons (pe_ix ix_list (pv 4) (pv 7) (fun _ _ => rfl)) pa_nil))))) pss_nil) ?_)
      (pss_cons (ps_setLc (i := 8) (own := [("_law_one", 9)]) rfl sc_law.nd rfl rfl (sw_true rfl rfl rfl (by decide +kernel)) (pi_list (pe_op op_cat (pe_slice sl_list (pv 3) po_none (po_some (pv 7))) (pe_slice sl_list (pv 3) (po_some (pe_op op_add (pv 7) pe_int)) po_none))) (blkOk_by (own := [("_law_one", 9)]) (N := N_law) (sc := C8.fnScope s_law) (by decide +kernel)) (fun _ _ _ _ _ => (pg_name (i := 9) sc_law.nd rfl (Or.inl rfl))) (fun _ _ _ _ _ => pts_nil) (fun _ _ _ _ _ => (pe_cG (k__law_shown T) hG hr (by decide) rfl (pa_cons (pv 9) pa_nil))))
      (pss_cons (ps_asg (pe_cG (k__law_called T TB) hG hr (by decide) rfl (pa_cons (pv 6) (pa_cons (pe_ix ix_list (pv 3) (pv 7) (fun _ _ => rfl)) (pa_cons (pv 1) (pa_cons (pe_ix ix_list (pv 4) (pv 7) (fun _ _ => rfl)) pa_nil))))) (pg_sub (pv 4) (pv 7) set_list))
      (pss_cons (PS.mono' (t' := tLike K) (ps_if (PW.pt (pw_and (pt_cmpR op_eq (pe_f (k__law_roll T) hr (by decide) rfl (pa_cons (pv 6) (pa_cons pe_int pa_nil))) pe_int (nomark _)) (pw_and1 (pt_not (pt_val (pe_cG (k__law_is_like_its_log T) hG hr (by decide) rfl (pa_cons (pe_ix ix_list (pv 3) (pv 7) (fun _ _ => rfl)) (pa_cons (pv 2) pa_nil)))))))) (pss_one (ps_ret pe_bl)) pss_nil) ?_)
      (pss_one (ps_if (pt_cmpR (op_neD (hr.units)) (pe_lc (own := [("_law_one", 9)]) rfl sc_law.nd (pi_list (pe_op op_cat (pe_slice sl_list (pv 3) po_none (po_some (pv 7))) (pe_slice sl_list (pv 3) (po_some (pe_op op_add (pv 7) pe_int)) po_none))) (blkOk_by (own := [("_law_one", 9)]) (N := N_law) (sc := C8.fnScope s_law) (by decide +kernel)) (fun _ _ _ _ _ => (pg_name (i := 9) sc_law.nd rfl (Or.inl rfl))) (fun _ _ _ _ _ => pts_nil) (fun _ _ _ _ _ => (pe_cG (k__law_shown T) hG hr (by decide) rfl (pa_cons (pv 9) pa_nil)))) (pv 8) (nomark _)) (pss_one (ps_ret pe_bl)) pss_nil)))))))))
      (pss_one (ps_ret (pe_cmpR (op_eqD (hr.units)) (pe_lc (own := [("_law_one", 9)]) rfl sc_law.nd (pi_list (pv 3)) (blkOk_by (own := [("_law_one", 9)]) (N := N_law) (sc := C8.fnScope s_law) (by decide +kernel)) (fun _ _ _ _ _ => (pg_name (i := 9) sc_law.nd rfl (Or.inl rfl))) (fun _ _ _ _ _ => (pts_one (pt_not (pt_val (pe_cG (k__law_is_like_its_log T) hG hr (by decide) rfl (pa_cons (pv 9) (pa_cons (pv 2) pa_nil))))))) (fun _ _ _ _ _ => (pv 9))) (pe_lst pa_nil) (nomark _)))))))), ?_⟩
    · rintro D σ H2 ⟨H0, ba, sm, lf, d, b, n, k, i, rs, a0, a1, a2, a5, a8, a9, rfl, L, ap, dd, hk, hi, q⟩
      refine ⟨_, rfl, sm, _, rfl, .inl (.inl (.inl L.smA)), _, _, rfl, rfl, _, rfl, ?_⟩
      by_cases c : rs.length < 4
      · have cl : (smV rs).length < 4 := by unfold smV; rw [List.length_map]; exact c
        refine andT (decide_eq_true (by omega)) ?_
        refine ⟨_, rfl, d, 8, k, rfl, dd, by decide, by decide, by omega, fun H3 r F3 D3 hr3 => ?_⟩
        have L3 := L.fr ap F3 dd.kinds
        obtain ⟨rc, hrc⟩ : ∃ rc, rs[i]? = some rc := ⟨_, List.getElem?_eq_getElem hi⟩
        have hsm : (smV rs)[i]? = some (.ref rc.p) := by unfold smV; rw [List.getElem?_map, hrc]; rfl
        have hlf : (lfV rs)[i]? = some (.int (rc.u.length : Nat)) := by unfold lfV; rw [List.getElem?_map, hrc]; rfl
        have hp := L3.pr i rc hrc
        obtain ⟨dx, o, ut, So, h1, _⟩ := hp.at_.head
        refine ⟨rfl, _, rfl, ?_⟩
        by_cases c2 : V.int (r : Int) = V.int 0
        · refine andT (decide_eq_true c2) ?_
          refine ⟨_, rfl, .inl ⟨rfl, _, .inl (.inl L3.smA)⟩, _, rfl, _, rfl, sm, _, _, _, rfl, rfl, .inl (.inl L3.smA), atI_nat hsm, rc.p, dx, _, rfl, h1, rfl, H0, rc.p, ba, b, rc.z, rc.u, rc.S, rfl, hp, fun H4 p' S' S4 P4 N4 => ?_⟩
          have L4 := L3.step S4
          refine ⟨sm, _, _, rfl, rfl, L4.smA, Nat.lt_trans cl (by decide), ?_⟩
          have hl5 : upd H4 sm (.lst (smV rs ++ [.ref p'])) lf = some (.lst (lfV rs)) := by rw [upd_ne L.ne.symm]; exact L4.lfA
          have ll : (lfV rs).length < 4 := by unfold lfV; rw [List.length_map]; exact c
          refine ⟨_, rfl, .inl ⟨rfl, _, .inl (.inl hl5)⟩, _, rfl, _, rfl, lf, _, _, _, rfl, rfl, .inl (.inl hl5), atI_nat hlf, lf, _, _, rfl, rfl, hl5, Nat.lt_trans ll (by decide), ?_⟩
          have L6 := L3.join hrc S4 P4 N4 c rfl rfl
          refine q _ _ L6 ⟨ap.n0, ap.ns, ap.nl, fun j t e m => ?_⟩ ?_ (by rw [List.length_append]; exact Nat.lt_add_right _ hi)
          · by_cases hj : j < rs.length
            · rw [List.getElem?_append_left hj] at e
              exact ap.nS j t e m
            · rw [List.getElem?_append_right (by omega)] at e
              have h0 : j - rs.length = 0 := by
                have := (List.getElem?_eq_some_iff.1 e).1
                simp at this
                omega
              rw [h0] at e
              cases e
              exact D3.live (N4 d m)
          · have F5 : Fr [sm] H4 (upd H4 sm (.lst (smV rs ++ [.ref p']))) := Fr.wr L4.smA trivial (List.mem_singleton.2 rfl)
            have F6 : Fr [lf] (upd H4 sm (.lst (smV rs ++ [.ref p']))) (upd (upd H4 sm (.lst (smV rs ++ [.ref p']))) lf (.lst (lfV rs ++ [.int (rc.u.length : Nat)]))) := Fr.wr hl5 trivial (List.mem_singleton.2 rfl)
            exact ((D3.same S4).fr F5 fun m => ap.ns (List.mem_singleton.1 m)).fr F6 fun m => ap.nl (List.mem_singleton.1 m)
        · exact andF (decide_eq_false c2) (q H3 rs L3 ap D3 hi)
      · have cl : ¬ (smV rs).length < 4 := by unfold smV; rw [List.length_map]; exact c
        exact andF (decide_eq_false (by omega)) (q H2 rs L ap (dd.mono (by omega)) hi)
    · rintro D σ H2 ⟨H0, ba, sm, lf, d, b, n, k, i, rs, a0, a1, a5, a8, a9, rfl, L, ap, dd, hk, hi, hn, q⟩
      refine ⟨_, rfl, d, 3, k, rfl, dd, by decide, by decide, by omega, fun H3 r F3 D3 hr3 => ?_⟩
      have L3 := L.fr ap F3 dd.kinds
      obtain ⟨rc, hrc⟩ : ∃ rc, rs[i]? = some rc := ⟨_, List.getElem?_eq_getElem hi⟩
      have hsm : (smV rs)[i]? = some (.ref rc.p) := by unfold smV; rw [List.getElem?_map, hrc]; rfl
      have hp := L3.pr i rc hrc
      have hb := L3.bd i rc hrc
      refine ⟨rfl, _, rfl, ?_⟩
      by_cases c2 : V.int (r : Int) = V.int 0
      · refine andT (decide_eq_true c2) ⟨_, rfl, _, rfl, sm, _, _, _, rfl, rfl, .inl (.inl L3.smA), atI_nat hsm, _, rfl, H0, rc.p, ba, b, rc.z, rc.u, rc.S, rfl, hp, by omega, fun H4 S4 => ?_⟩
        exact ⟨_, rfl, andF rfl (q H4 (F3.step S4) (L3.step S4))⟩
      · exact andF (decide_eq_false c2) (andF rfl (q H3 F3 L3))
    · refine ⟨_, rfl, a, 0, ns, rfl, hs.sq, by decide, fun H1 d0 S1 n1 D1 => ?_⟩
      refine ⟨d0, rfl, D1, fun H2 pl b F2 bo hpl => ?_⟩
      refine ⟨_, rfl, pl, b, rfl, hpl, bo, fun H3 ba S3 hba => ?_⟩
      have hP3 : H3 (cQ K).2 = some (.tbl #[]) := S3 _ _ (F2.keep _ _ (S1 _ _ hP) fun m => by rw [List.mem_singleton.1 m, n1] at hP; cases hP)
      have FT := off_fr hP3
      have hs0 : Scr K (off H3 (cQ K).2) a (ns.map V.int) := (((hs.fr (Fr.of [] S1)).fr F2).fr (Fr.of [] S3)).fr FT
      have hb0 : BkAt K (off H3 (cQ K).2) ba b := hba.frT FT hP3
      have hpl3 : PlainAt K H3 pl b := PlainAt.same hpl S3
      have hpl0 : PlainAt K (off H3 (cQ K).2) pl b := hpl3.frT FT hP3
      have tb3 : LamX.Tabs (tabQ K) H3 := fun p hp => by
        rw [List.mem_singleton.1 hp]
        refine ⟨#[], hP3, ?_, fun pos cv e => ?_⟩
        · show TriplesOk []
          unfold TriplesOk
          trivial
        · cases e
      refine ⟨_, rfl, ?_⟩
      intro y dy hy hdy hne
      have Sy : Same H3 (upd (upd H3 dy (.own y)) y (.ins (He.ga K "Processor") dy [])) := (same_new hdy).trans (same_new (by rw [upd_ne hne.symm]; exact hy))
      refine ⟨y, ba, dy, b, rfl, upd_same, hba.same Sy, bo, fun H4 Sy4 F4 P4 G4 => ⟨rfl, ?_⟩⟩
      have S4 := made_same F4 hy hdy
      have N4 := made_new G4 hy hdy
      refine ⟨by show 1 ≤ sizeLine; decide, fun sm hsm => ?_⟩
      refine ⟨by show 1 ≤ sizeLine; decide, fun lf hlf => ?_⟩
      refine ⟨_, _, rfl, ?_⟩
      have Ssm := same_new (o := .lst [.ref y]) hsm
      have Slf := same_new (o := .lst [.int 0]) hlf
      have SA := (S4.trans Ssm).trans Slf
      have n0 : ∀ {x : Addr}, H3 x = none → off H3 (cQ K).2 x = none := fun e => off_none e
      have ne : sm ≠ lf := ne_of_none upd_same hlf
      have L0 : LS K (off H3 (cQ K).2) (upd (upd H4 sm (.lst [.ref y])) lf (.lst [.int 0])) ba sm lf b (3 * 0) [⟨y, Wk.new b, [], Sy4⟩] := by
        have hb : BkIn K (off H3 (cQ K).2) (upd (upd H4 sm (.lst [.ref y])) lf (.lst [.int 0])) ba b := ⟨hb0, off_same.trans SA⟩
        have one : ∀ {j : Nat} {q : Rec}, [(⟨y, Wk.new b, [], Sy4⟩ : Rec)][j]? = some q → j = 0 ∧ q = ⟨y, Wk.new b, [], Sy4⟩ := fun {j q} e => by
          match j, e with
          | 0, e => cases e; exact ⟨rfl, rfl⟩
        refine ⟨fun j q e => ?_, fun j q e => ?_, fun j l q t n e1 e2 => ?_, by rw [upd_ne ne]; exact upd_same, upd_same, ne, fun j q e => ?_, n0 (none_back S4 hsm), n0 (none_back S4 (none_back Ssm hlf)), off_at, tabs_same tb3 SA, hb, bo, Nat.zero_lt_one, by show 1 ≤ 4; decide⟩
        · obtain ⟨_, rfl⟩ := one e
          exact ⟨(ProcAt.same P4 Ssm).same Slf, hb, bo, fun x hx => n0 (N4 x hx), prOk_none rfl⟩
        · obtain ⟨_, rfl⟩ := one e
          exact Nat.le_refl 0
        · obtain ⟨rfl, _⟩ := one e1
          obtain ⟨rfl, _⟩ := one e2
          exact absurd rfl n
        · obtain ⟨_, rfl⟩ := one e
          exact ⟨fun m => ProcAt.live P4 sm m hsm, fun m => ProcAt.live P4 lf m (none_back Ssm hlf)⟩
      have hs5 := (hs0.fr (Fr.of [] (off_same.trans SA))).sq
      refine ⟨_, rfl, a, _, rfl, .inl hs5, _, _, rfl, _, _, rfl, _, _, rfl, ?_⟩
      generalize ej : (if (if ((ns.map V.int).length : Int) > 13 then ((ns.map V.int).length : Int) else 13) < 63 then (if ((ns.map V.int).length : Int) > 13 then ((ns.map V.int).length : Int) else 13) else (63 : Int)) = j
      have hj : 13 ≤ j ∧ j ≤ 63 := by
        rw [← ej]
        generalize ((ns.map V.int).length : Int) = l
        by_cases h : l > 13
        · rw [if_pos h]
          split <;> omega
        · rw [if_neg h]
          split <;> omega
      refine ⟨by omega, ?_⟩
      clear ej
      refine for_it (walk_range (lo := 1) (n := (j - 1).toNat)) (fun i σ H5 => ∃ (rs : List Rec) (a5 a6 a7 a8 a9 : Option V), σ = [some (.ref a), some (.ref pl), some (.ref ba), some (.ref sm), some (.ref lf), a5, a6, a7, a8, a9] ∧ LS K (off H3 (cQ K).2) H5 ba sm lf b (3 * i) rs) ⟨_, _, _, _, _, _, rfl, L0⟩ (fun _ _ _ _ _ => trivial) ?_ ?_
      · rintro i x σ H5 H6 hi ⟨rs, a5, a6, a7, a8, a9, rfl, L⟩ ⟨rfl, rfl⟩
        obtain ⟨sp, es⟩ : ∃ sp : Nat, (1 : Int) + (i : Int) = (sp : Int) := ⟨1 + i, by omega⟩
        show gName 5 (V.int (1 + (i : Int))) _ _ _
        rw [es]
        have hs6 := (hs0.fr (Fr.of [] L.bk.same)).sq
        have i61 : i < 62 := by omega
        refine ⟨_, rfl, _, rfl, a, sp, ns, rfl, hs6, by omega, fun H6 d S6 nd D6 => ?_⟩
        have L6 := L.step S6
        have ap := L.apart nd
        have lsm : (smV rs).length = rs.length := by unfold smV; rw [List.length_map]
        have f4 := L.few
        have p4 := L.pos
        refine ⟨_, rfl, _, rfl, sm, _, rfl, .inl (.inl (.inl L6.smA)), d, (smV rs).length, 0, rfl, D6, by omega, by omega, by decide, fun H7 r F7 D7 hr7 => ?_⟩
        have L7 := L6.fr ap F7 D6.kinds
        refine ⟨_, ba, sm, lf, d, b, 3 * i, 1, r, rs, _, _, _, _, _, _, rfl, L7, ap, D7, by decide, by omega, fun H8 rs8 L8 ap8 D8 h8 => ?_⟩
        refine seq_asg (oth L8 h8 (by omega) fun D H9 S9 nD hD9 => ?_)
        have L9 := L8.step S9
        have D9 := D8.same S9
        obtain ⟨rc, hrc⟩ : ∃ rc, rs8[r]? = some rc := ⟨_, List.getElem?_eq_getElem h8⟩
        have hsm8 : (smV rs8)[r]? = some (.ref rc.p) := by unfold smV; rw [List.getElem?_map, hrc]; rfl
        have hlf8 : (lfV rs8)[r]? = some (.int (rc.u.length : Nat)) := by unfold lfV; rw [List.getElem?_map, hrc]; rfl
        have llf : (lfV rs8).length = rs8.length := by unfold lfV; rw [List.length_map]
        have hp := L9.pr r rc hrc
        have hb := L9.bd r rc hrc
        refine ⟨_, rfl, _, rfl, _, rfl, sm, _, _, _, rfl, rfl, .inl (.inl L9.smA), atI_nat hsm8, _, rfl, _, rfl, _, rfl, lf, _, _, _, rfl, rfl, .inl (.inl L9.lfA), atI_nat hlf8, ?_⟩
        refine ⟨_, d, rc.p, pl, ba, 2, b, rc.z, rc.u, rc.S, rfl, hp, D9, by decide, hpl0.same L9.bk.same, L9.tabs, ap8.nS r rc hrc, ap8.n0, L9.t0, by omega, fun H10 S10 z10 u10 F10 G10 P10 T10 D10 l10 => ?_⟩
        have lf10 := L9.lfK hrc ap8 F10
        refine ⟨_, rfl, _, rfl, lf, _, _, r, rfl, rfl, lf10, ixN_nat (by omega), ?_⟩
        have L11 := L9.call hrc ap8 D9.kinds F10 G10 P10 T10 l10 rfl
        have ap11 : Apart _ d sm lf (rs8.set r ⟨rc.p, z10, u10, S10⟩) := ap8.call hrc D9.live G10
        have F11 : Fr [lf] H10 (upd H10 lf (.lst ((lfV rs8).set r (.int (u10.length : Nat))))) := Fr.wr lf10 trivial (List.mem_singleton.2 rfl)
        have D11 := D10.fr F11 fun m => ap8.nl (List.mem_singleton.1 m)
        have Dd : D ≠ d := fun e => D8.live (by rw [← e]; exact nD)
        have hD11 := F11.keep _ _ (F10.keep _ _ hD9 fun m => by
          rcases List.mem_cons.1 m with m | m
          · exact Dd m
          · rcases List.mem_cons.1 m with m | m
            · obtain ⟨ps, e⟩ := L8.tab
              have m' : D = (cQ K).2 := m
              rw [← m', nD] at e
              cases e
            · exact (L8.pr r rc hrc).at_.live D m nD) fun m => by
          have e := L8.lfA
          rw [← List.mem_singleton.1 m, nD] at e
          cases e
        generalize upd H10 lf (.lst ((lfV rs8).set r (.int (u10.length : Nat)))) = H11 at *
        have h11 : r < (rs8.set r ⟨rc.p, z10, u10, S10⟩).length := by rw [List.length_set]; exact h8
        refine ⟨_, ba, sm, lf, d, b, 3 * i + 3, 7, r, _, _, _, _, _, _, rfl, L11, ap11, D11, by decide, h11, by omega, fun H12 F12 L12 => ?_⟩
        have hD12 := F12.keep _ _ hD11 fun m => Dd (List.mem_singleton.1 m)
        refine if_op (oth L12 h11 (by omega) fun E H13 S13 nE hE => ?_)
        have fl := L12.fl (by omega) r
        rw [setD] at hE fl
        refine ⟨_, rfl, _, _, .lst (.inl (.inl hE)) (dpStrs _), .lst (.inl (.inl (S13 _ _ hD12))) (dpStrs _), fl.shaped, fl.shaped, ?_⟩
        rw [fl.refl]
        exact ⟨_, rfl, andF rfl ⟨_, _, _, _, _, _, rfl, L12.step S13⟩⟩
      · rintro σ H5 ⟨rs, a5, a6, a7, a8, a9, rfl, L⟩
        have jb : 3 * (j - 1).toNat < 200 := by omega
        refine ⟨_, rfl, sm, rfl, ⟨_, .inl (.inl L.smA)⟩, fun D hD => ?_⟩
        have lsm : (smV rs).length = rs.length := by unfold smV; rw [List.length_map]
        refine lc_it (walk_list (xs := smV rs)) (fun _ H6 => Same H5 H6 ∧ H6 D = some (.lst [])) ⟨same_new hD, upd_same⟩ (fun _ H6 _ h => .inl (.inl (h.1 _ _ L.smA))) ?_ ?_
        · rintro i x H6 H7 hi ⟨S6, hD6⟩ ⟨rfl, hx⟩
          unfold smV at hx
          rw [List.getElem?_map] at hx
          obtain ⟨r, hr, ex⟩ : ∃ r, rs[i]? = some r ∧ x = .ref r.p := by
            cases e : rs[i]? with
            | none => rw [e] at hx; cases hx
            | some r => rw [e] at hx; cases hx; exact ⟨r, rfl, rfl⟩
          subst ex
          have hp := (L.step S6).pr i r hr
          have hb := L.bd i r hr
          exact ⟨rfl, _, rfl, _, rfl, _, r.p, ba, b, r.z, r.u, r.S, rfl, hp, by omega, fun H8 S8 => ⟨_, rfl, andF rfl ⟨S6.trans S8, S8 _ _ hD6⟩⟩⟩
        · rintro H6 ⟨S6, hD6⟩
          refine ⟨by show 0 ≤ sizeLine; decide, fun e he => ?_⟩
          have S7 := same_new (o := .lst []) he
          have fl : Fl 1 (.list []) := Fl.list (n := 0) fl_nil
          refine ⟨_, _, .lst (.inl (.inl (S7 _ _ hD6))) .nil, .lst (.inl (.inl upd_same)) .nil, fl.shaped, fl.shaped, ?_⟩
          rw [fl.refl]
          exact qq _
end
end Tb
set_option Elab.async false
set_option linter.all false
set_option maxRecDepth 100000
set_option maxHeartbeats 4000000
/-! The end: the call of a law whose promise wants a table and no repr under way. -/
namespace Tb
open PySem PySem.Spec PyProof.Rows L2
theorem law_callT {P : Program} {w : World} {K : PySem.W.Frag} {mg mb : Str → Option Value} {k : Nat} {fa a c D : Addr} {x : Str} {sp : Sp} {s1 : Shared} {vs : List Value} {ns : List Int}
    (kin : K.In s1.heap) (gl : s1.heap.Ns mainGlobals mg) (bl : s1.heap.Ns builtinsNs mb) (bb : ∀ x : Str, x ≠ "__name__" → mb x = bootBuiltins x) (lim : s1.heap.NoLimit) (gens : s1.gens = #[])
    (tab : s1.heap.get? D = some { cls := .none, data := .fields #[] }) (out : K.lookup D = none) (code : PySem.W.codeHdIn K c D = true)
    (bm : ∃ (m : Addr) (ob : Obj), mg "__builtins__" = some (.ref m) ∧ m ≠ builtinsNs ∧ s1.heap.get? m = some ob ∧ ob.cls = .type "module" ∧ ob.dict = some builtinsNs ∧ ob.data = .plain)
    (scr : s1.heap.get? a = some { cls := .type "list", data := .seq vs.toArray }) (hi : IntsAre vs ns) (few : ns.length ≤ sizeLine) (room : Room k callerA)
    (named : mg x = some (.ref fa)) (F : ∀ base : Heap, K.In base → base.Ns mainGlobals mg → LamX.TabB base mg c D → CalG P w K mg base k x sp)
    (prom : ∀ H : Hp, H D = some (.tbl #[]) → Scr K H a (ns.map V.int) → sp [.ref a] H (fun v _ => v = .bl true) E0) :
    codeAny (model P w) callerA (.call (.ref fa) ⟨[.ref a], []⟩) (fun r s' => r = .ok (.ret (.bool true)) ∧ OldK s1.heap s'.heap ∧ s'.os = s1.os ∧ AllBare s'.gens) s1 := by
  obtain ⟨so, eso⟩ : ∃ so : Obj, so = { cls := .type "list", data := .seq vs.toArray } := ⟨_, rfl⟩
  obtain ⟨dt, edt⟩ : ∃ dt : Obj, dt = { cls := .none, data := .fields #[] } := ⟨_, rfl⟩
  have rv := vals_ints hi
  have lv := hi.length
  have aD : a ≠ D := fun e => by
    rw [e, tab] at scr
    cases scr
  -- what is tracked: the table, and the script where it is none of the module's own
  have pick : ∃ H : Hp, H D = some (.tbl #[]) ∧ Scr K H a (ns.map V.int) ∧ HOk P w H s1.heap ∧
      ∀ b u, H b = some u → (b = D ∧ u = .tbl #[]) ∨ (b = a ∧ K.lookup a = none ∧ u = .frz so (.lst (ns.map V.int))) := by
    cases q : K.lookup a with
    | some o =>
      have e := kin a o q
      rw [scr] at e
      refine ⟨fun b => if b = D then some (.tbl #[]) else none, if_pos rfl, .inr fun H' => .inr ⟨o, vs.toArray, 0, q, ?_⟩, fun b u z => ?_, fun b u z => ?_⟩
      · cases e
        exact ⟨rfl, rfl, rfl, by rw [List.size_toArray, lv]; exact few, by simpa using rv⟩
      · by_cases n : b = D
        · have z' := (if_pos n).symm.trans z
          cases z'
          rw [n]
          exact tab
        · have z' := (if_neg n).symm.trans z
          cases z'
      · by_cases n : b = D
        · have z' := (if_pos n).symm.trans z
          cases z'
          exact .inl ⟨n, rfl⟩
        · have z' := (if_neg n).symm.trans z
          cases z'
    | none =>
      refine ⟨fun b => if b = D then some (.tbl #[]) else if b = a then some (.frz so (.lst (ns.map V.int))) else none, if_pos rfl, .inl ⟨so, (if_neg aD).trans (if_pos rfl)⟩, fun b u z => ?_, fun b u z => ?_⟩
      · by_cases n : b = D
        · have z' := (if_pos n).symm.trans z
          cases z'
          rw [n]
          exact tab
        · have z1 := (if_neg n).symm.trans z
          by_cases m : b = a
          · have z' := (if_pos m).symm.trans z1
            cases z'
            rw [m, eso]
            exact ⟨scr, by rw [List.length_map]; exact few, vs, 0, rv, scr⟩
          · have z' := (if_neg m).symm.trans z1
            cases z'
      · by_cases n : b = D
        · have z' := (if_pos n).symm.trans z
          cases z'
          exact .inl ⟨n, rfl⟩
        · have z1 := (if_neg n).symm.trans z
          by_cases m : b = a
          · have z' := (if_pos m).symm.trans z1
            cases z'
            exact .inr ⟨m, rfl, rfl⟩
          · have z' := (if_neg m).symm.trans z1
            cases z'
  obtain ⟨H, hD, hS, hok, only⟩ := pick
  -- all else stands below
  have below : ∀ {b : Addr} {o : Obj}, s1.heap.get? b = some o → o ≠ dt → (o ≠ so ∨ (K.lookup a ≠ none)) → (hidT s1.heap H).get? b = some o := fun {b o} e n1 n2 => hidT_get e (by
    cases q : H b with
    | none => rfl
    | some u =>
      rcases only b u q with ⟨e1, _⟩ | ⟨e1, e2, _⟩
      · rw [e1, tab] at e
        exact absurd ((Option.some.inj e).symm.trans edt.symm) n1
      · rw [e1, scr] at e
        rcases n2 with n | n
        · exact absurd ((Option.some.inj e).symm.trans eso.symm) n
        · exact absurd e2 n)
  have dictN : ∀ {o : Obj} {es : Array DictEntry} {ep : Nat}, o.data = .dict es ep → o ≠ dt ∧ o ≠ so := fun {o es ep} d =>
    ⟨fun e => (by rw [e, edt] at d; cases d), fun e => (by rw [e, eso] at d; cases d)⟩
  have nsK : ∀ {b : Addr} {m : Str → Option Value}, s1.heap.Ns b m → (hidT s1.heap H).Ns b m := fun {b m} ⟨o, es, ep, e, d, r⟩ =>
    ⟨o, es, ep, below e (dictN d).1 (.inl (dictN d).2), d, r⟩
  have kinB : K.In (hidT s1.heap H) := fun b o e => hidT_get (kin b o e) (by
    cases q : H b with
    | none => rfl
    | some u =>
      rcases only b u q with ⟨e1, _⟩ | ⟨e1, e2, _⟩
      · rw [e1, out] at e; cases e
      · rw [e1, e2] at e; cases e)
  have TB : LamX.TabB (hidT s1.heap H) mg c D := by
    refine ⟨PySem.W.codeHd_of_K kinB code, ?_, fun e => ?_⟩
    · obtain ⟨m, ob, b1, b2, b3, b4, b5, b6⟩ := bm
      have p1 : ob ≠ dt := fun e => by rw [e, edt] at b6; cases b6
      have p2 : ob ≠ so := fun e => by rw [e, eso] at b6; cases b6
      refine ⟨m, ob, b1, b2, fun e => ?_, fun e => ?_, below b3 p1 (.inl p2), b4, b5, b6⟩
      · obtain ⟨o, es, ep, e1, d, _⟩ := gl
        rw [← e, b3] at e1
        cases e1
        rw [b6] at d
        cases d
      · rw [e, tab] at b3
        exact p1 ((Option.some.inj b3).symm.trans edt.symm)
    · obtain ⟨o, es, ep, e1, d, _⟩ := gl
      rw [e, tab] at e1
      cases e1
      cases d
  have md : L2.Mod K mg (hidT s1.heap H) := ⟨kinB, nsK gl, ⟨mb, nsK bl, bb⟩, lim.elim fun mc h1 => ⟨mc, nsK h1.1, h1.2⟩⟩
  have e0 : Env0 P w K mg (hidT s1.heap H) callerA [] s1 H := ⟨rfl, md, fun _ _ e => of_hidT e, Nat.le_of_eq (hidT_size _ _), trivial, (fun _ z => absurd z List.not_mem_nil), hok, .of_eq gens⟩
  obtain ⟨f, fd, ps, FG, hf, _, bn⟩ := (F _ kinB (nsK gl) TB).ex
  rw [named] at hf
  cases hf
  have here := prom H hD hS
  have len := FG.len _ _ _ _ here
  have bd := bn s1 [.ref a] kin (by rw [List.append_nil]; exact len)
  rw [List.append_nil] at bd
  refine codeAny_mono (FG.run callerA [] s1 H ⟨[.ref a], []⟩ [.ref a] [.ref a] _ rfl room e0 bd (.cons rfl .nil) here) fun r s' h => ?_
  obtain ⟨u, rfl, v, H', os, bare, un, hok', rr, q⟩ := h
  have q1 : v = .bl true := q
  subst q1
  have eu : u = Value.bool true := rr
  subst eu
  obtain ⟨more, z⟩ := un.tbls D #[] hD
  have grown : s'.heap.get? D = some { cls := .none, data := .fields (#[] ++ more) } := hok' D _ z
  have keep : ∀ {b : Addr} {o : Obj}, b ≠ D → s1.heap.get? b = some o → s'.heap.get? b = some o := fun {b o} n e => by
    cases q : H b with
    | none => exact un.keep b o e q List.not_mem_nil List.not_mem_nil
    | some y =>
      rcases only b y q with ⟨e1, _⟩ | ⟨_, _, rfl⟩
      · exact absurd e1 n
      · have h1 := (hok b _ q).1
        have h2 := (hok' b _ (un.frzs b so _ q)).1
        rw [e] at h1
        cases h1
        exact h2
  refine ⟨rfl, ⟨fun b o e => ?_, fun b o e => ?_⟩, os, bare⟩
  · by_cases n : b = D
    · rw [n] at e ⊢
      rw [tab] at e
      cases e
      exact .inr (.inl ⟨((PySem.W.codeHd_of_K kin code).tab tab).isCodeTable, rfl, #[], more, rfl, by simpa using grown⟩)
    · exact .inl (keep n e)
  · by_cases n : b = D
    · rw [n]
      exact ⟨_, grown⟩
    · exact ⟨o, keep n e⟩
theorem walk_ofT {l : PySem.W.OpenLaw} {n k : Nat} {q : Program} {loose : List Str} {XP : (Str → Option Value) → Heap → Prop} {YP : World → Heap → Prop} {d : DefRec}
    (hn : l.most = some n) (hn2 : n ≤ sizeLine) (hdf : d.params.defaults = []) (hr : Room k callerA)
    (F : ∀ (w : World) (mg : Str → Option Value) (fa : Addr) (h : Heap), YP w h → h.Ns mainGlobals mg → mg d.name = some (.ref fa) →
      ∃ (K : PySem.W.Frag) (c D : Addr) (sp : Sp), K.In h ∧ h.get? D = some { cls := .none, data := .fields #[] } ∧ K.lookup D = none ∧ PySem.W.codeHdIn K c D = true ∧
        (∀ (H : Hp) (a : Addr) (ns : List Int), ns.length ≤ n → H D = some (.tbl #[]) → Scr K H a (ns.map V.int) → sp [.ref a] H (fun v _ => v = .bl true) E0) ∧
        ∀ base : Heap, K.In base → base.Ns mainGlobals mg → LamX.TabB base mg c D → CalG l.prog w K mg base k d.name sp) :
    PySem.W.WalkO q loose XP YP l.row.toRowW d [] (fun f vs => PySem.call f vs) := by
  refine Att.attach_callB hn hdf fun w _ s1 mg _ fa _ _ _ _ a _ ns G Y _ _ _ hm ho hi hlen _ hg => ?_
  obtain ⟨K, c, D, sp, kin, tab, out, code, hsp, hF⟩ := F w mg fa _ Y G.T.g hm
  exact law_callT kin G.T.g G.T.b G.T.builtins G.T.nolimit hg tab out code G.T.bmain ho hi (Nat.le_trans hlen hn2) hr hm hF fun H e hS => hsp H a ns hlen e hS
end Tb
set_option Elab.async false
set_option linter.all false
set_option maxRecDepth 100000
set_option maxHeartbeats 0
/-! The law holds. -/
namespace Tb
open PySem PySem.W PySem.Calls PyProof.Rows
theorem last_call : WalkO qv names (XL qv []) hk.says R.toRowW (HandSHeadRun.topDef R.prog 101) [] (fun f vs => PySem.call f vs) := by
  have nm : (HandSHeadRun.topDef R.prog 101).name = ("law" : PySem.Str) := by kernel_rfl
  refine walk_ofT (l := PySem.Challenge.rw_twoandabell_k30_whole_histories_of_proce) (n := 63) (k := 18) rfl (by decide) (by kernel_rfl) ⟨rfl, by decide, by decide⟩ ?_
  intro w mg fa h Y G hm
  obtain ⟨K, kin, c, tab⟩ := Y
  refine ⟨K, (cQ K).1, (cQ K).2, sp_law K, kin, tab, c.out, c.hd, fun H a ns hl e hS => ⟨a, ns, rfl, hS, Nat.le_trans hl (by decide), e, fun _ => rfl⟩, fun base kb gb tb => ?_⟩
  rw [nm]
  exact k_law ⟨c, kb, gb⟩ tb
end Tb
open PySem PySem.W PySem.Calls PyProof.Rows
theorem PySem.Challenge.cw_twoandabell_k30_whole_histories_of_proce_holds : PySem.Challenge.rw_twoandabell_k30_whole_histories_of_proce.Holds := by
  w_on; o_law
  refine HandSHeadRun.head_any (r := OpenLaw.row PySem.Challenge.rw_twoandabell_k30_whole_histories_of_proce) (q := Tb.qv) (H := Tb.hk) (ob := Tb.ob) (M := 20000) (loose := Tb.names) (d := HandSHeadRun.topDef (OpenLaw.row PySem.Challenge.rw_twoandabell_k30_whole_histories_of_proce).prog 101) (kwd := []) Tb.ob_eq
    (by kernel_rfl) (fun s => by kernel_rfl) Tb.run (by kernel_rfl) (by kernel_rfl) (by kernel_rfl) (by rfl) (by first | assumption | decide +kernel) (by decide +kernel) ⟨rfl, rfl, rfl, rfl, rfl, by decide +kernel⟩ ?hw Tb.last_call
  case hw => w_witness2
