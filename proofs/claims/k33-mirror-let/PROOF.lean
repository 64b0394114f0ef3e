import PyProof.Rows.All
import Wide.All
import OpenK.AllK
import Wide.FinOn
import HandS.ForMost
import HandS.ForExc
import HandS.IsInst
import HandS.TryElse
import HandS.Style
import HandS.TupAny
import HandS.Conv
import HandS.Rev
import HandS.Walk
import HandS.ExcInit
import HandS.ExcField
import HandS.ExcIs
import HandS.ExcValue
import HandS.DictComp
import HandS.Flow
import HandS.Steps
import KE.GoesMore
import HandS.FltList
import HandS.HeadHook2
import HandS.Head0
import HandS.Head1
import HandS.Head2
import HandS.HeadEnd
import KE.KStateDown
import Lean
import PySem.Challenge.RW_mirrorwalk_k33_whole_mirror_let
set_option Elab.async false
set_option linter.all false
set_option maxRecDepth 100000
set_option maxHeartbeats 0
namespace Mw
open PySem PySem.Spec PyProof.Rows L2
/-! ### the text by places -/
def top (i : Nat) : Stmt := PySem.Challenge.pw_mirrorwalk_k33_whole_mirror_let.main.body.getD i (.Pass ⟨0, 0, 0, 0⟩)
/-- the kinds of sayings, of rows -/
inductive SC where | num | box | many | top | not | pair
inductive RC where | add | less | mix | swap | turn | push | pop | call | back | cho | loop | held
/-- where the classes and the written tuples stand -/
structure CA where
  s : SC → Addr
  r : RC → Addr
  (Saying Row Look Program NoWay WayError NoPlain NoProgram NoRow NoSaying NoSheet NoState NoText Stopped : Addr)
  (KEPT MORE_KEPT SIGNS : Addr)

abbrev s_NoWay_init : Stmt := inClass (top 6) 0
abbrev s_is_whole19 : Stmt := top 19
abbrev s_is_word : Stmt := top 21
abbrev s_is_name : Stmt := top 22
abbrev s_once : Stmt := top 27
abbrev s_Saying_inner : Stmt := inClass (top 28) 0
abbrev s_Saying_size : Stmt := inClass (top 28) 1
abbrev s_Saying_depth : Stmt := inClass (top 28) 2
abbrev s_Saying_need_small : Stmt := inClass (top 28) 3
abbrev s_Saying_all_boxes : Stmt := inClass (top 28) 4
abbrev s_Saying_all_stacks : Stmt := inClass (top 28) 5
abbrev s_Saying_box_names : Stmt := inClass (top 28) 6
abbrev s_Saying_stack_names : Stmt := inClass (top 28) 7
abbrev s_Number_init : Stmt := inClass (top 29) 0
abbrev s_Number_told : Stmt := inClass (top 29) 2
abbrev s_Box_init : Stmt := inClass (top 30) 0
abbrev s_Box_all_boxes : Stmt := inClass (top 30) 1
abbrev s_Box_told : Stmt := inClass (top 30) 3
abbrev s_OfStack_init : Stmt := inClass (top 31) 0
abbrev s_OfStack_all_stacks : Stmt := inClass (top 31) 1
abbrev s_OfStack_told : Stmt := inClass (top 31) 2
abbrev s_Many_word_told : Stmt := inClass (top 32) 0
abbrev s_Top_word_told : Stmt := inClass (top 33) 0
abbrev s_Not_init : Stmt := inClass (top 34) 0
abbrev s_Not_inner : Stmt := inClass (top 34) 1
abbrev s_Not_told : Stmt := inClass (top 34) 3
abbrev s_Pair_init : Stmt := inClass (top 37) 0
abbrev s_Pair_inner : Stmt := inClass (top 37) 1
abbrev s_Pair_told : Stmt := inClass (top 37) 3
abbrev s_saying_within : Stmt := top 38
abbrev s_saying_of : Stmt := top 39
abbrev s_is_whole43 : Stmt := top 43
abbrev s_need_names : Stmt := top 45
abbrev s_need_sayings : Stmt := top 46
abbrev s_need_rows : Stmt := top 47
abbrev s_mirrors : Stmt := top 48
abbrev s_told_rows : Stmt := top 49
abbrev s_Row_inner : Stmt := inClass (top 50) 0
abbrev s_Row_sayings : Stmt := inClass (top 50) 1
abbrev s_Row_mirror : Stmt := inClass (top 50) 2
abbrev s_Change_init : Stmt := inClass (top 51) 0
abbrev s_Change_sayings : Stmt := inClass (top 51) 1
abbrev s_Change_told : Stmt := inClass (top 51) 2
abbrev s_Add_word_told : Stmt := inClass (top 52) 0
abbrev s_Add_mirror : Stmt := inClass (top 52) 1
abbrev s_Less_word_told : Stmt := inClass (top 53) 0
abbrev s_Less_mirror : Stmt := inClass (top 53) 1
abbrev s_Mix_word_told : Stmt := inClass (top 54) 0
abbrev s_Swap_init : Stmt := inClass (top 55) 0
abbrev s_Swap_told : Stmt := inClass (top 55) 1
abbrev s_Turn_init : Stmt := inClass (top 56) 0
abbrev s_Turn_mirror : Stmt := inClass (top 56) 1
abbrev s_Turn_told : Stmt := inClass (top 56) 2
abbrev s_Moved_init : Stmt := inClass (top 57) 0
abbrev s_Moved_told : Stmt := inClass (top 57) 1
abbrev s_Push_word_told : Stmt := inClass (top 58) 0
abbrev s_Push_mirror : Stmt := inClass (top 58) 1
abbrev s_Pop_word_told : Stmt := inClass (top 59) 0
abbrev s_Pop_mirror : Stmt := inClass (top 59) 1
abbrev s_Named_init : Stmt := inClass (top 60) 0
abbrev s_Named_told : Stmt := inClass (top 60) 1
abbrev s_Call_word_told : Stmt := inClass (top 61) 0
abbrev s_Back_word_told : Stmt := inClass (top 62) 0
abbrev s_Choice_init : Stmt := inClass (top 63) 0
abbrev s_Choice_inner : Stmt := inClass (top 63) 1
abbrev s_Choice_sayings : Stmt := inClass (top 63) 2
abbrev s_Choice_mirror : Stmt := inClass (top 63) 3
abbrev s_Choice_told : Stmt := inClass (top 63) 4
abbrev s_Loop_init : Stmt := inClass (top 64) 0
abbrev s_Loop_inner : Stmt := inClass (top 64) 1
abbrev s_Loop_sayings : Stmt := inClass (top 64) 2
abbrev s_Loop_mirror : Stmt := inClass (top 64) 3
abbrev s_Loop_told : Stmt := inClass (top 64) 4
abbrev s_Held_init : Stmt := inClass (top 65) 0
abbrev s_Held_inner : Stmt := inClass (top 65) 1
abbrev s_Held_sayings : Stmt := inClass (top 65) 2
abbrev s_Held_mirror : Stmt := inClass (top 65) 3
abbrev s_Held_told : Stmt := inClass (top 65) 4
abbrev s_said : Stmt := top 66
abbrev s_rows_within : Stmt := top 67
abbrev s_change_of : Stmt := top 68
abbrev s_row_within : Stmt := top 69
abbrev s_row_of : Stmt := top 70
abbrev s_field_boxes : Stmt := top 72
abbrev s_Look_init : Stmt := inClass (top 73) 0
abbrev s_Look_need_single : Stmt := inClass (top 73) 1
abbrev s_Look_need_named : Stmt := inClass (top 73) 2
abbrev s_Look_need_kept : Stmt := inClass (top 73) 3
abbrev s_Look_need_row : Stmt := inClass (top 73) 4
abbrev s_Look_need_rows : Stmt := inClass (top 73) 5
abbrev s_look : Stmt := top 74
abbrev s_is_let : Stmt := top 75
abbrev s_are_names : Stmt := top 82
abbrev s_count_of : Stmt := top 83
abbrev s_is_routine : Stmt := top 84
abbrev s_Program_init : Stmt := inClass (top 85) 0
abbrev s_Program_told : Stmt := inClass (top 85) 1
abbrev s_Program_mirror : Stmt := inClass (top 85) 2
abbrev s_routine_of : Stmt := top 86
abbrev s_program_of : Stmt := top 87
abbrev s_L_mix : Stmt := top 89
abbrev s_L_names : Stmt := top 90
abbrev s_L_word : Stmt := top 91
abbrev s_L_saying : Stmt := top 92
abbrev s_L_any_rows : Stmt := top 93
abbrev s_L_any_row : Stmt := top 94
abbrev s_L_any_program : Stmt := top 95
abbrev s_L_world : Stmt := top 96
abbrev s_L_good_row : Stmt := top 97
abbrev s_L_good_block : Stmt := top 98
abbrev s_L_good_rows : Stmt := top 99
abbrev s_L_good_program : Stmt := top 100
abbrev s_L_bad_row : Stmt := top 101
abbrev s_L_put_in : Stmt := top 102
abbrev s_L_spoilt : Stmt := top 103
abbrev s_L_boxes_in : Stmt := top 104
abbrev s_L_stacks_in : Stmt := top 105
abbrev s_L_sayings : Stmt := top 106
abbrev s_L_why : Stmt := top 107
abbrev s_L_within : Stmt := top 108
abbrev s_L_look_rows : Stmt := top 109
abbrev s_L_look : Stmt := top 110
abbrev s_L_asked : Stmt := top 111
abbrev s_L_good : Stmt := top 112
abbrev s_law : Stmt := top 113
def defTab_0 : List (Str × Stmt × List Str) := [("is_word", s_is_word, ["thing"]),
  ("is_name", s_is_name, ["thing"]),
  ("once", s_once, ["names"]),
  ("saying_within", s_saying_within, ["told", "deep"]),
  ("saying_of", s_saying_of, ["told"]),
  ("is_whole", s_is_whole43, ["thing"]),
  ("need_names", s_need_names, ["names"]),
  ("need_sayings", s_need_sayings, ["sayings"]),
  ("need_rows", s_need_rows, ["rows"]),
  ("mirrors", s_mirrors, ["rows"]),
  ("told_rows", s_told_rows, ["rows"]),
  ("said", s_said, ["told"]),
  ("rows_within", s_rows_within, ["told", "deep"]),
  ("change_of", s_change_of, ["told"]),
  ("row_within", s_row_within, ["told", "deep"]),
  ("row_of", s_row_of, ["told"])]
def defTab_1 : List (Str × Stmt × List Str) := [("field_boxes", s_field_boxes, ["row"]),
  ("look", s_look, ["program"]),
  ("is_let", s_is_let, ["program"]),
  ("are_names", s_are_names, ["thing", "least", "most"]),
  ("count_of", s_count_of, ["rows", "deep"]),
  ("is_routine", s_is_routine, ["thing"]),
  ("routine_of", s_routine_of, ["told"]),
  ("program_of", s_program_of, ["told"]),
  ("_law_mix", s_L_mix, ["_law_state", "_law_cell"]),
  ("_law_names", s_L_names, ["_law_state", "_law_many"]),
  ("_law_word", s_L_word, ["_law_state"]),
  ("_law_saying", s_L_saying, ["_law_state", "_law_boxes", "_law_stacks", "_law_deep"]),
  ("_law_any_rows", s_L_any_rows, ["_law_state", "_law_names_here", "_law_room", "_law_deep"]),
  ("_law_any_row", s_L_any_row, ["_law_state", "_law_names_here", "_law_room", "_law_deep"]),
  ("_law_any_program", s_L_any_program, ["_law_state"]),
  ("_law_world", s_L_world, ["_law_state"])]
def defTab_2 : List (Str × Stmt × List Str) := [("_law_good_row", s_L_good_row, ["_law_state", "_law_world_here", "_law_there", "_law_deep"]),
  ("_law_good_block", s_L_good_block, ["_law_state", "_law_world_here", "_law_there", "_law_deep", "_law_way"]),
  ("_law_good_rows", s_L_good_rows, ["_law_state", "_law_world_here", "_law_there", "_law_deep"]),
  ("_law_good_program", s_L_good_program, ["_law_state", "_law_world_here"]),
  ("_law_bad_row", s_L_bad_row, ["_law_state", "_law_world_here"]),
  ("_law_put_in", s_L_put_in, ["_law_state", "_law_rows", "_law_bad", "_law_deep"]),
  ("_law_spoilt", s_L_spoilt, ["_law_state", "_law_told", "_law_world_here"]),
  ("_law_boxes_in", s_L_boxes_in, ["_law_told"]),
  ("_law_stacks_in", s_L_stacks_in, ["_law_told"]),
  ("_law_sayings", s_L_sayings, ["_law_row"]),
  ("_law_why", s_L_why, ["_law_row", "_law_there", "_law_told"]),
  ("_law_within", s_L_within, ["_law_row"]),
  ("_law_look_rows", s_L_look_rows, ["_law_rows", "_law_there", "_law_told", "_law_ahead"]),
  ("_law_look", s_L_look, ["_law_told"]),
  ("_law_asked", s_L_asked, ["_law_program"]),
  ("_law_good", s_L_good, ["_law_told"])]
def defTab_3 : List (Str × Stmt × List Str) := [("law", s_law, ["_law_script"])]
def defTab : List (Str × Stmt × List Str) := defTab_0 ++ (defTab_1 ++ (defTab_2 ++ (defTab_3)))
def aliTab_0 : List (Str × Str × Stmt × List Str) := [("is_whole_words", "is_whole", s_is_whole19, ["thing"]),
  ("is_whole_rows", "is_whole", s_is_whole43, ["thing"])]
def aliTab : List (Str × Str × Stmt × List Str) := aliTab_0
def mthTab_0 (A : CA) : List (Addr × Str × Str × Stmt × List Str) := [(A.s .num, "inner", "Saying.inner", s_Saying_inner, ["self"]),
  (A.s .num, "size", "Saying.size", s_Saying_size, ["self"]),
  (A.s .num, "depth", "Saying.depth", s_Saying_depth, ["self"]),
  (A.s .num, "all_boxes", "Saying.all_boxes", s_Saying_all_boxes, ["self"]),
  (A.s .num, "all_stacks", "Saying.all_stacks", s_Saying_all_stacks, ["self"]),
  (A.s .num, "box_names", "Saying.box_names", s_Saying_box_names, ["self"]),
  (A.s .num, "stack_names", "Saying.stack_names", s_Saying_stack_names, ["self"]),
  (A.s .num, "told", "Number.told", s_Number_told, ["self"]),
  (A.s .num, "need_small", "Saying.need_small", s_Saying_need_small, ["self"]),
  (A.s .box, "inner", "Saying.inner", s_Saying_inner, ["self"]),
  (A.s .box, "size", "Saying.size", s_Saying_size, ["self"]),
  (A.s .box, "depth", "Saying.depth", s_Saying_depth, ["self"]),
  (A.s .box, "all_boxes", "Box.all_boxes", s_Box_all_boxes, ["self"]),
  (A.s .box, "all_stacks", "Saying.all_stacks", s_Saying_all_stacks, ["self"]),
  (A.s .box, "box_names", "Saying.box_names", s_Saying_box_names, ["self"]),
  (A.s .box, "stack_names", "Saying.stack_names", s_Saying_stack_names, ["self"])]
def mthTab_1 (A : CA) : List (Addr × Str × Str × Stmt × List Str) := [(A.s .box, "told", "Box.told", s_Box_told, ["self"]),
  (A.s .box, "need_small", "Saying.need_small", s_Saying_need_small, ["self"]),
  (A.s .many, "inner", "Saying.inner", s_Saying_inner, ["self"]),
  (A.s .many, "size", "Saying.size", s_Saying_size, ["self"]),
  (A.s .many, "depth", "Saying.depth", s_Saying_depth, ["self"]),
  (A.s .many, "all_boxes", "Saying.all_boxes", s_Saying_all_boxes, ["self"]),
  (A.s .many, "all_stacks", "OfStack.all_stacks", s_OfStack_all_stacks, ["self"]),
  (A.s .many, "box_names", "Saying.box_names", s_Saying_box_names, ["self"]),
  (A.s .many, "stack_names", "Saying.stack_names", s_Saying_stack_names, ["self"]),
  (A.s .many, "told", "OfStack.told", s_OfStack_told, ["self"]),
  (A.s .many, "need_small", "Saying.need_small", s_Saying_need_small, ["self"]),
  (A.s .top, "inner", "Saying.inner", s_Saying_inner, ["self"]),
  (A.s .top, "size", "Saying.size", s_Saying_size, ["self"]),
  (A.s .top, "depth", "Saying.depth", s_Saying_depth, ["self"]),
  (A.s .top, "all_boxes", "Saying.all_boxes", s_Saying_all_boxes, ["self"]),
  (A.s .top, "all_stacks", "OfStack.all_stacks", s_OfStack_all_stacks, ["self"])]
def mthTab_2 (A : CA) : List (Addr × Str × Str × Stmt × List Str) := [(A.s .top, "box_names", "Saying.box_names", s_Saying_box_names, ["self"]),
  (A.s .top, "stack_names", "Saying.stack_names", s_Saying_stack_names, ["self"]),
  (A.s .top, "told", "OfStack.told", s_OfStack_told, ["self"]),
  (A.s .top, "need_small", "Saying.need_small", s_Saying_need_small, ["self"]),
  (A.s .not, "inner", "Not.inner", s_Not_inner, ["self"]),
  (A.s .not, "size", "Saying.size", s_Saying_size, ["self"]),
  (A.s .not, "depth", "Saying.depth", s_Saying_depth, ["self"]),
  (A.s .not, "all_boxes", "Saying.all_boxes", s_Saying_all_boxes, ["self"]),
  (A.s .not, "all_stacks", "Saying.all_stacks", s_Saying_all_stacks, ["self"]),
  (A.s .not, "box_names", "Saying.box_names", s_Saying_box_names, ["self"]),
  (A.s .not, "stack_names", "Saying.stack_names", s_Saying_stack_names, ["self"]),
  (A.s .not, "told", "Not.told", s_Not_told, ["self"]),
  (A.s .not, "need_small", "Saying.need_small", s_Saying_need_small, ["self"]),
  (A.s .pair, "inner", "Pair.inner", s_Pair_inner, ["self"]),
  (A.s .pair, "size", "Saying.size", s_Saying_size, ["self"]),
  (A.s .pair, "depth", "Saying.depth", s_Saying_depth, ["self"])]
def mthTab_3 (A : CA) : List (Addr × Str × Str × Stmt × List Str) := [(A.s .pair, "all_boxes", "Saying.all_boxes", s_Saying_all_boxes, ["self"]),
  (A.s .pair, "all_stacks", "Saying.all_stacks", s_Saying_all_stacks, ["self"]),
  (A.s .pair, "box_names", "Saying.box_names", s_Saying_box_names, ["self"]),
  (A.s .pair, "stack_names", "Saying.stack_names", s_Saying_stack_names, ["self"]),
  (A.s .pair, "told", "Pair.told", s_Pair_told, ["self"]),
  (A.s .pair, "need_small", "Saying.need_small", s_Saying_need_small, ["self"]),
  (A.s .many, "word_told", "Many.word_told", s_Many_word_told, ["self"]),
  (A.s .top, "word_told", "Top.word_told", s_Top_word_told, ["self"]),
  (A.r .add, "inner", "Row.inner", s_Row_inner, ["self"]),
  (A.r .add, "sayings", "Change.sayings", s_Change_sayings, ["self"]),
  (A.r .add, "mirror", "Add.mirror", s_Add_mirror, ["self"]),
  (A.r .add, "told", "Change.told", s_Change_told, ["self"]),
  (A.r .less, "inner", "Row.inner", s_Row_inner, ["self"]),
  (A.r .less, "sayings", "Change.sayings", s_Change_sayings, ["self"]),
  (A.r .less, "mirror", "Less.mirror", s_Less_mirror, ["self"]),
  (A.r .less, "told", "Change.told", s_Change_told, ["self"])]
def mthTab_4 (A : CA) : List (Addr × Str × Str × Stmt × List Str) := [(A.r .mix, "inner", "Row.inner", s_Row_inner, ["self"]),
  (A.r .mix, "sayings", "Change.sayings", s_Change_sayings, ["self"]),
  (A.r .mix, "mirror", "Row.mirror", s_Row_mirror, ["self"]),
  (A.r .mix, "told", "Change.told", s_Change_told, ["self"]),
  (A.r .swap, "inner", "Row.inner", s_Row_inner, ["self"]),
  (A.r .swap, "sayings", "Row.sayings", s_Row_sayings, ["self"]),
  (A.r .swap, "mirror", "Row.mirror", s_Row_mirror, ["self"]),
  (A.r .swap, "told", "Swap.told", s_Swap_told, ["self"]),
  (A.r .turn, "inner", "Row.inner", s_Row_inner, ["self"]),
  (A.r .turn, "sayings", "Row.sayings", s_Row_sayings, ["self"]),
  (A.r .turn, "mirror", "Turn.mirror", s_Turn_mirror, ["self"]),
  (A.r .turn, "told", "Turn.told", s_Turn_told, ["self"]),
  (A.r .push, "inner", "Row.inner", s_Row_inner, ["self"]),
  (A.r .push, "sayings", "Row.sayings", s_Row_sayings, ["self"]),
  (A.r .push, "mirror", "Push.mirror", s_Push_mirror, ["self"]),
  (A.r .push, "told", "Moved.told", s_Moved_told, ["self"])]
def mthTab_5 (A : CA) : List (Addr × Str × Str × Stmt × List Str) := [(A.r .pop, "inner", "Row.inner", s_Row_inner, ["self"]),
  (A.r .pop, "sayings", "Row.sayings", s_Row_sayings, ["self"]),
  (A.r .pop, "mirror", "Pop.mirror", s_Pop_mirror, ["self"]),
  (A.r .pop, "told", "Moved.told", s_Moved_told, ["self"]),
  (A.r .call, "inner", "Row.inner", s_Row_inner, ["self"]),
  (A.r .call, "sayings", "Row.sayings", s_Row_sayings, ["self"]),
  (A.r .call, "mirror", "Row.mirror", s_Row_mirror, ["self"]),
  (A.r .call, "told", "Named.told", s_Named_told, ["self"]),
  (A.r .back, "inner", "Row.inner", s_Row_inner, ["self"]),
  (A.r .back, "sayings", "Row.sayings", s_Row_sayings, ["self"]),
  (A.r .back, "mirror", "Row.mirror", s_Row_mirror, ["self"]),
  (A.r .back, "told", "Named.told", s_Named_told, ["self"]),
  (A.r .cho, "inner", "Choice.inner", s_Choice_inner, ["self"]),
  (A.r .cho, "sayings", "Choice.sayings", s_Choice_sayings, ["self"]),
  (A.r .cho, "mirror", "Choice.mirror", s_Choice_mirror, ["self"]),
  (A.r .cho, "told", "Choice.told", s_Choice_told, ["self"])]
def mthTab_6 (A : CA) : List (Addr × Str × Str × Stmt × List Str) := [(A.r .loop, "inner", "Loop.inner", s_Loop_inner, ["self"]),
  (A.r .loop, "sayings", "Loop.sayings", s_Loop_sayings, ["self"]),
  (A.r .loop, "mirror", "Loop.mirror", s_Loop_mirror, ["self"]),
  (A.r .loop, "told", "Loop.told", s_Loop_told, ["self"]),
  (A.r .held, "inner", "Held.inner", s_Held_inner, ["self"]),
  (A.r .held, "sayings", "Held.sayings", s_Held_sayings, ["self"]),
  (A.r .held, "mirror", "Held.mirror", s_Held_mirror, ["self"]),
  (A.r .held, "told", "Held.told", s_Held_told, ["self"]),
  (A.r .add, "word_told", "Add.word_told", s_Add_word_told, ["self"]),
  (A.r .less, "word_told", "Less.word_told", s_Less_word_told, ["self"]),
  (A.r .mix, "word_told", "Mix.word_told", s_Mix_word_told, ["self"]),
  (A.r .push, "word_told", "Push.word_told", s_Push_word_told, ["self"]),
  (A.r .pop, "word_told", "Pop.word_told", s_Pop_word_told, ["self"]),
  (A.r .call, "word_told", "Call.word_told", s_Call_word_told, ["self"]),
  (A.r .back, "word_told", "Back.word_told", s_Back_word_told, ["self"]),
  (A.Look, "need_single", "Look.need_single", s_Look_need_single, ["self"])]
def mthTab_7 (A : CA) : List (Addr × Str × Str × Stmt × List Str) := [(A.Look, "need_named", "Look.need_named", s_Look_need_named, ["self", "row", "there", "place"]),
  (A.Look, "need_kept", "Look.need_kept", s_Look_need_kept, ["self", "row", "there", "place"]),
  (A.Look, "need_row", "Look.need_row", s_Look_need_row, ["self", "row", "there", "place"]),
  (A.Look, "need_rows", "Look.need_rows", s_Look_need_rows, ["self", "rows", "there", "ahead"]),
  (A.Program, "told", "Program.told", s_Program_told, ["self"]),
  (A.Program, "mirror", "Program.mirror", s_Program_mirror, ["self"])]
def mthTab (A : CA) : List (Addr × Str × Str × Stmt × List Str) := mthTab_0 A ++ (mthTab_1 A ++ (mthTab_2 A ++ (mthTab_3 A ++ (mthTab_4 A ++ (mthTab_5 A ++ (mthTab_6 A ++ (mthTab_7 A)))))))
def mkTab_0 (A : CA) : List (Str × Addr × Str × Stmt × List Str) := [("Number", A.s .num, "Number.__init__", s_Number_init, ["self", "word"]),
  ("Box", A.s .box, "Box.__init__", s_Box_init, ["self", "name"]),
  ("Many", A.s .many, "OfStack.__init__", s_OfStack_init, ["self", "stack"]),
  ("Top", A.s .top, "OfStack.__init__", s_OfStack_init, ["self", "stack"]),
  ("Not", A.s .not, "Not.__init__", s_Not_init, ["self", "one"]),
  ("Pair", A.s .pair, "Pair.__init__", s_Pair_init, ["self", "sign", "one", "other"]),
  ("Add", A.r .add, "Change.__init__", s_Change_init, ["self", "box", "saying"]),
  ("Less", A.r .less, "Change.__init__", s_Change_init, ["self", "box", "saying"]),
  ("Mix", A.r .mix, "Change.__init__", s_Change_init, ["self", "box", "saying"]),
  ("Swap", A.r .swap, "Swap.__init__", s_Swap_init, ["self", "one", "other"]),
  ("Turn", A.r .turn, "Turn.__init__", s_Turn_init, ["self", "box", "by"]),
  ("Push", A.r .push, "Moved.__init__", s_Moved_init, ["self", "box", "stack"]),
  ("Pop", A.r .pop, "Moved.__init__", s_Moved_init, ["self", "box", "stack"]),
  ("Call", A.r .call, "Named.__init__", s_Named_init, ["self", "name"]),
  ("Back", A.r .back, "Named.__init__", s_Named_init, ["self", "name"]),
  ("Choice", A.r .cho, "Choice.__init__", s_Choice_init, ["self", "test", "yes", "no", "after"])]
def mkTab_1 (A : CA) : List (Str × Addr × Str × Stmt × List Str) := [("Loop", A.r .loop, "Loop.__init__", s_Loop_init, ["self", "before", "first", "again", "test"]),
  ("Held", A.r .held, "Held.__init__", s_Held_init, ["self", "box", "begin", "rows", "end"]),
  ("Look", A.Look, "Look.__init__", s_Look_init, ["self", "program"]),
  ("Program", A.Program, "Program.__init__", s_Program_init, ["self", "boxes", "stacks", "routines"])]
def mkTab (A : CA) : List (Str × Addr × Str × Stmt × List Str) := mkTab_0 A ++ (mkTab_1 A)
def naTab_0 (A : CA) : List (Addr × Str) := [(A.s .num, "word"),
  (A.s .box, "name"),
  (A.s .many, "stack"),
  (A.s .top, "stack"),
  (A.s .not, "one"),
  (A.s .pair, "sign"),
  (A.s .pair, "one"),
  (A.s .pair, "other"),
  (A.r .add, "box"),
  (A.r .add, "saying"),
  (A.r .less, "box"),
  (A.r .less, "saying"),
  (A.r .mix, "box"),
  (A.r .mix, "saying"),
  (A.r .swap, "one"),
  (A.r .swap, "other")]
def naTab_1 (A : CA) : List (Addr × Str) := [(A.r .turn, "box"),
  (A.r .turn, "by"),
  (A.r .push, "box"),
  (A.r .push, "stack"),
  (A.r .pop, "box"),
  (A.r .pop, "stack"),
  (A.r .call, "name"),
  (A.r .back, "name"),
  (A.r .cho, "test"),
  (A.r .cho, "yes"),
  (A.r .cho, "no"),
  (A.r .cho, "after"),
  (A.r .loop, "before"),
  (A.r .loop, "first"),
  (A.r .loop, "again"),
  (A.r .loop, "test")]
def naTab_2 (A : CA) : List (Addr × Str) := [(A.r .held, "box"),
  (A.r .held, "begin"),
  (A.r .held, "rows"),
  (A.r .held, "end"),
  (A.Look, "boxes"),
  (A.Look, "stacks"),
  (A.Look, "named"),
  (A.Program, "boxes"),
  (A.Program, "stacks"),
  (A.Program, "routines")]
def naTab (A : CA) : List (Addr × Str) := naTab_0 A ++ (naTab_1 A ++ (naTab_2 A))
def intTab_0 : List (Str × Int) := [("MOST_WORD", 65535),
  ("MOST_NAME", 12),
  ("MOST_PARTS", 30),
  ("MOST_DEEP_sayings", 8),
  ("BITS", 16),
  ("MOST_DEEP_rows", 6),
  ("MOST_BOXES", 12),
  ("MOST_STACKS", 4),
  ("MOST_ROUTINES", 8),
  ("MOST_ROWS", 80),
  ("MOST_DEEP_programs", 6)]
def intTab : List (Str × Int) := intTab_0
def strTab_0 : List (Str × Str) := [("LETTERS", "abcdefghijklmnopqrstuvwxyz"),
  ("FIGURES", "0123456789")]
def strTab : List (Str × Str) := strTab_0
def freeTab_0 : List (Str) := ["isinstance",
  "len",
  "abs",
  "sum",
  "all",
  "max",
  "int",
  "tuple",
  "list",
  "set",
  "dict",
  "str",
  "bool",
  "range",
  "enumerate",
  "reversed"]
def freeTab : List (Str) := freeTab_0
def gloTab_0 (A : CA) : List (Str × Addr) := [("Number", A.s .num),
  ("Box", A.s .box),
  ("Many", A.s .many),
  ("Top", A.s .top),
  ("Not", A.s .not),
  ("Pair", A.s .pair),
  ("Add", A.r .add),
  ("Less", A.r .less),
  ("Mix", A.r .mix),
  ("Swap", A.r .swap),
  ("Turn", A.r .turn),
  ("Push", A.r .push),
  ("Pop", A.r .pop),
  ("Call", A.r .call),
  ("Back", A.r .back),
  ("Choice", A.r .cho)]
def gloTab_1 (A : CA) : List (Str × Addr) := [("Loop", A.r .loop),
  ("Held", A.r .held),
  ("Saying", A.Saying),
  ("Row", A.Row),
  ("Look", A.Look),
  ("Program", A.Program),
  ("NoWay", A.NoWay),
  ("WayError", A.WayError),
  ("NoPlain", A.NoPlain),
  ("NoProgram", A.NoProgram),
  ("NoRow", A.NoRow),
  ("NoSaying", A.NoSaying),
  ("NoSheet", A.NoSheet),
  ("NoState", A.NoState),
  ("NoText", A.NoText),
  ("Stopped", A.Stopped)]
def gloTab_2 (A : CA) : List (Str × Addr) := [("KEPT", A.KEPT),
  ("MORE_KEPT", A.MORE_KEPT),
  ("SIGNS", A.SIGNS)]
def gloTab (A : CA) : List (Str × Addr) := gloTab_0 A ++ (gloTab_1 A ++ (gloTab_2 A))
def isiTab_0 (A : CA) : List (Addr × Addr × Bool) := [(A.s .num, A.Saying, true),
  (A.s .box, A.Saying, true),
  (A.s .many, A.Saying, true),
  (A.s .top, A.Saying, true),
  (A.s .not, A.Saying, true),
  (A.s .pair, A.Saying, true),
  (A.r .add, A.Row, true),
  (A.r .less, A.Row, true),
  (A.r .mix, A.Row, true),
  (A.r .swap, A.Row, true),
  (A.r .turn, A.Row, true),
  (A.r .push, A.Row, true),
  (A.r .pop, A.Row, true),
  (A.r .call, A.Row, true),
  (A.r .back, A.Row, true),
  (A.r .cho, A.Row, true)]
def isiTab_1 (A : CA) : List (Addr × Addr × Bool) := [(A.r .loop, A.Row, true),
  (A.r .held, A.Row, true),
  (A.r .add, A.r .add, true),
  (A.r .add, A.r .less, false),
  (A.r .add, A.r .mix, false),
  (A.r .add, A.r .turn, false),
  (A.r .add, A.r .push, false),
  (A.r .add, A.r .pop, false),
  (A.r .add, A.r .swap, false),
  (A.r .add, A.r .call, false),
  (A.r .add, A.r .back, false),
  (A.r .add, A.r .held, false),
  (A.r .less, A.r .add, false),
  (A.r .less, A.r .less, true),
  (A.r .less, A.r .mix, false),
  (A.r .less, A.r .turn, false)]
def isiTab_2 (A : CA) : List (Addr × Addr × Bool) := [(A.r .less, A.r .push, false),
  (A.r .less, A.r .pop, false),
  (A.r .less, A.r .swap, false),
  (A.r .less, A.r .call, false),
  (A.r .less, A.r .back, false),
  (A.r .less, A.r .held, false),
  (A.r .mix, A.r .add, false),
  (A.r .mix, A.r .less, false),
  (A.r .mix, A.r .mix, true),
  (A.r .mix, A.r .turn, false),
  (A.r .mix, A.r .push, false),
  (A.r .mix, A.r .pop, false),
  (A.r .mix, A.r .swap, false),
  (A.r .mix, A.r .call, false),
  (A.r .mix, A.r .back, false),
  (A.r .mix, A.r .held, false)]
def isiTab_3 (A : CA) : List (Addr × Addr × Bool) := [(A.r .swap, A.r .add, false),
  (A.r .swap, A.r .less, false),
  (A.r .swap, A.r .mix, false),
  (A.r .swap, A.r .turn, false),
  (A.r .swap, A.r .push, false),
  (A.r .swap, A.r .pop, false),
  (A.r .swap, A.r .swap, true),
  (A.r .swap, A.r .call, false),
  (A.r .swap, A.r .back, false),
  (A.r .swap, A.r .held, false),
  (A.r .turn, A.r .add, false),
  (A.r .turn, A.r .less, false),
  (A.r .turn, A.r .mix, false),
  (A.r .turn, A.r .turn, true),
  (A.r .turn, A.r .push, false),
  (A.r .turn, A.r .pop, false)]
def isiTab_4 (A : CA) : List (Addr × Addr × Bool) := [(A.r .turn, A.r .swap, false),
  (A.r .turn, A.r .call, false),
  (A.r .turn, A.r .back, false),
  (A.r .turn, A.r .held, false),
  (A.r .push, A.r .add, false),
  (A.r .push, A.r .less, false),
  (A.r .push, A.r .mix, false),
  (A.r .push, A.r .turn, false),
  (A.r .push, A.r .push, true),
  (A.r .push, A.r .pop, false),
  (A.r .push, A.r .swap, false),
  (A.r .push, A.r .call, false),
  (A.r .push, A.r .back, false),
  (A.r .push, A.r .held, false),
  (A.r .pop, A.r .add, false),
  (A.r .pop, A.r .less, false)]
def isiTab_5 (A : CA) : List (Addr × Addr × Bool) := [(A.r .pop, A.r .mix, false),
  (A.r .pop, A.r .turn, false),
  (A.r .pop, A.r .push, false),
  (A.r .pop, A.r .pop, true),
  (A.r .pop, A.r .swap, false),
  (A.r .pop, A.r .call, false),
  (A.r .pop, A.r .back, false),
  (A.r .pop, A.r .held, false),
  (A.r .call, A.r .add, false),
  (A.r .call, A.r .less, false),
  (A.r .call, A.r .mix, false),
  (A.r .call, A.r .turn, false),
  (A.r .call, A.r .push, false),
  (A.r .call, A.r .pop, false),
  (A.r .call, A.r .swap, false),
  (A.r .call, A.r .call, true)]
def isiTab_6 (A : CA) : List (Addr × Addr × Bool) := [(A.r .call, A.r .back, false),
  (A.r .call, A.r .held, false),
  (A.r .back, A.r .add, false),
  (A.r .back, A.r .less, false),
  (A.r .back, A.r .mix, false),
  (A.r .back, A.r .turn, false),
  (A.r .back, A.r .push, false),
  (A.r .back, A.r .pop, false),
  (A.r .back, A.r .swap, false),
  (A.r .back, A.r .call, false),
  (A.r .back, A.r .back, true),
  (A.r .back, A.r .held, false),
  (A.r .cho, A.r .add, false),
  (A.r .cho, A.r .less, false),
  (A.r .cho, A.r .mix, false),
  (A.r .cho, A.r .turn, false)]
def isiTab_7 (A : CA) : List (Addr × Addr × Bool) := [(A.r .cho, A.r .push, false),
  (A.r .cho, A.r .pop, false),
  (A.r .cho, A.r .swap, false),
  (A.r .cho, A.r .call, false),
  (A.r .cho, A.r .back, false),
  (A.r .cho, A.r .held, false),
  (A.r .loop, A.r .add, false),
  (A.r .loop, A.r .less, false),
  (A.r .loop, A.r .mix, false),
  (A.r .loop, A.r .turn, false),
  (A.r .loop, A.r .push, false),
  (A.r .loop, A.r .pop, false),
  (A.r .loop, A.r .swap, false),
  (A.r .loop, A.r .call, false),
  (A.r .loop, A.r .back, false),
  (A.r .loop, A.r .held, false)]
def isiTab_8 (A : CA) : List (Addr × Addr × Bool) := [(A.r .held, A.r .add, false),
  (A.r .held, A.r .less, false),
  (A.r .held, A.r .mix, false),
  (A.r .held, A.r .turn, false),
  (A.r .held, A.r .push, false),
  (A.r .held, A.r .pop, false),
  (A.r .held, A.r .swap, false),
  (A.r .held, A.r .call, false),
  (A.r .held, A.r .back, false),
  (A.r .held, A.r .held, true),
  (A.NoWay, A.NoPlain, false),
  (A.NoWay, A.NoProgram, false),
  (A.NoWay, A.NoRow, false),
  (A.NoWay, A.NoSaying, false),
  (A.NoWay, A.NoSheet, false),
  (A.NoWay, A.NoState, false)]
def isiTab_9 (A : CA) : List (Addr × Addr × Bool) := [(A.NoWay, A.NoText, false),
  (A.NoWay, A.Stopped, false),
  (A.NoWay, A.NoWay, true)]
def isiTab (A : CA) : List (Addr × Addr × Bool) := isiTab_0 A ++ (isiTab_1 A ++ (isiTab_2 A ++ (isiTab_3 A ++ (isiTab_4 A ++ (isiTab_5 A ++ (isiTab_6 A ++ (isiTab_7 A ++ (isiTab_8 A ++ (isiTab_9 A)))))))))
def clsTab_0 (A : CA) : List (Addr) := [A.s .num,
  A.s .box,
  A.s .many,
  A.s .top,
  A.s .not,
  A.s .pair,
  A.r .add,
  A.r .less,
  A.r .mix,
  A.r .swap,
  A.r .turn,
  A.r .push,
  A.r .pop,
  A.r .call,
  A.r .back,
  A.r .cho]
def clsTab_1 (A : CA) : List (Addr) := [A.r .loop,
  A.r .held,
  A.Look,
  A.Program]
def clsTab (A : CA) : List (Addr) := clsTab_0 A ++ (clsTab_1 A)
def tupTab_0 (A : CA) : List (Addr × List Str) := [(A.KEPT, ["boxes", "stacks", "to", "swap", "turn", "push", "pop", "call", "back", "if", "else", "told"]),
  (A.MORE_KEPT, ["loop", "again", "until", "hold", "end", "not", "many", "top"]),
  (A.SIGNS, ["+", "-", "*", "/", ":", "&", "|", "^", "=", "<"])]
def tupTab (A : CA) : List (Addr × List Str) := tupTab_0 A
/-! ### how arguments bind -/
theorem zip_lk : ∀ (ps : List Str) (us : List Value), us.length = ps.length → ps.Nodup → ∀ n ∈ ps, ∃ u, (ps.zip us).lookup n = some u
  | [], _, _, _, n, h => nomatch h
  | p :: ps, [], hl, _, _, _ => nomatch hl
  | p :: ps, u :: us, hl, hn, n, h => by
    by_cases e : n = p
    · subst e
      exact ⟨u, by simp [List.lookup]⟩
    · have h2 : n ∈ ps := (List.mem_cons.mp h).resolve_left e
      obtain ⟨v, hv⟩ := zip_lk ps us (Nat.succ.inj hl) (List.nodup_cons.mp hn).2 n h2
      exact ⟨v, by simp only [List.zip_cons_cons, List.lookup_cons, beq_false_of_ne e]; exact hv⟩
theorem fm_congr {α β : Type} {f g : α → Option β} : ∀ {l : List α}, (∀ x ∈ l, f x = g x) → l.filterMap f = l.filterMap g
  | [], _ => rfl
  | a :: l, h => by
    rw [List.filterMap_cons, List.filterMap_cons, h a List.mem_cons_self, fm_congr fun x hx => h x (List.mem_cons_of_mem _ hx)]
theorem zip_all : ∀ (ps : List Str) (us : List Value), us.length = ps.length → ps.Nodup → (ps.filterMap fun n => ((ps.zip us).lookup n).map (n, ·)) = ps.zip us
  | [], us, _, _ => by simp
  | p :: ps, [], hl, _ => nomatch hl
  | p :: ps, u :: us, hl, hn => by
    have e := zip_all ps us (Nat.succ.inj hl) (List.nodup_cons.mp hn).2
    have e2 : (ps.filterMap fun n => (((p, u) :: ps.zip us).lookup n).map (n, ·)) = ps.filterMap fun n => ((ps.zip us).lookup n).map (n, ·) := by
      refine fm_congr fun n h => ?_
      have ne : n ≠ p := fun z => (List.nodup_cons.mp hn).1 (z ▸ h)
      simp only [List.lookup_cons, beq_false_of_ne ne]
    rw [List.zip_cons_cons, List.filterMap_cons, e2, e]
    simp [List.lookup]
def argB (a : Arguments) (ps : List Str) : Bool := a.posonlyargs.isEmpty && (a.kwonlyargs.isEmpty && (a.vararg.isNone && (a.kwarg.isNone && (decide (a.args.map (·.arg) = ps) && decide ps.Nodup))))
theorem bind_all {fd : FuncData} {ps : List Str} {us : List Value} (h : argB fd.params ps = true) (hd : fd.defaults = .none) (hl : us.length = ps.length) : bindArgs fd ⟨us, []⟩ = pure (ps.zip us) := by
  obtain ⟨h1, h⟩ := Bool.and_eq_true_iff.mp h
  obtain ⟨h2, h⟩ := Bool.and_eq_true_iff.mp h
  obtain ⟨h3, h⟩ := Bool.and_eq_true_iff.mp h
  obtain ⟨h4, h⟩ := Bool.and_eq_true_iff.mp h
  obtain ⟨h5, h6⟩ := Bool.and_eq_true_iff.mp h
  have h1 := List.isEmpty_iff.mp h1
  have h2 := List.isEmpty_iff.mp h2
  have h3 := Option.isNone_iff_eq_none.mp h3
  have h4 := Option.isNone_iff_eq_none.mp h4
  have h5 := of_decide_eq_true h5
  have h6 := of_decide_eq_true h6
  have m : (ps.filter fun n => ((ps.zip us).lookup n).isNone) = [] := by
    refine List.filter_eq_nil_iff.mpr fun n hn => ?_
    obtain ⟨u, e⟩ := zip_lk ps us hl h6 n hn
    rw [e]
    exact Bool.false_ne_true
  have z := zip_all ps us hl h6
  have s0 : seqItems? Value.none = pure none := rfl
  unfold bindArgs
  simp only [h1, h2, h3, h4, h5, hd, s0, List.map_nil, List.nil_append, List.append_nil, List.forIn_nil, pure_bind, Option.getD_none]
  have g1 : (decide (us.length > ps.length) && (none : Option Arg).isNone) = false := by
    rw [hl]
    simp
  have g2 : ps.take ps.length = ps := by simp
  rw [g1]
  simp only [Bool.false_eq_true, if_false, List.drop_nil, List.length_nil, Nat.sub_zero, g2, m, List.isEmpty_nil, Bool.not_true, List.zip_nil_right, List.forIn_nil, pure_bind, z]
/-! ### where the classes stand -/
def caK (K : PySem.W.Frag) : CA where
  s := fun
    | .num => He.ga K "Number"
    | .box => He.ga K "Box"
    | .many => He.ga K "Many"
    | .top => He.ga K "Top"
    | .not => He.ga K "Not"
    | .pair => He.ga K "Pair"
  r := fun
    | .add => He.ga K "Add"
    | .less => He.ga K "Less"
    | .mix => He.ga K "Mix"
    | .swap => He.ga K "Swap"
    | .turn => He.ga K "Turn"
    | .push => He.ga K "Push"
    | .pop => He.ga K "Pop"
    | .call => He.ga K "Call"
    | .back => He.ga K "Back"
    | .cho => He.ga K "Choice"
    | .loop => He.ga K "Loop"
    | .held => He.ga K "Held"
  Saying := He.ga K "Saying"
  Row := He.ga K "Row"
  Look := He.ga K "Look"
  Program := He.ga K "Program"
  NoWay := He.ga K "NoWay"
  WayError := He.ga K "WayError"
  NoPlain := He.ga K "NoPlain"
  NoProgram := He.ga K "NoProgram"
  NoRow := He.ga K "NoRow"
  NoSaying := He.ga K "NoSaying"
  NoSheet := He.ga K "NoSheet"
  NoState := He.ga K "NoState"
  NoText := He.ga K "NoText"
  Stopped := He.ga K "Stopped"
  KEPT := He.ga K "KEPT"
  MORE_KEPT := He.ga K "MORE_KEPT"
  SIGNS := He.ga K "SIGNS"
def caO : CA := ⟨fun _ => 0, fun _ => 0, 0, 0, 0, 0, 0, 0, 0, 0, 0, 0, 0, 0, 0, 0, 0, 0, 0⟩
/-! ### defs by what the top has left -/
abbrev FnO : Type := Option (Str × Str × Arguments × FuncBody × Scope × Value × Addr × Addr × List (Str × Addr))
def fnO (K : PySem.W.Frag) (a : Addr) : FnO := (K.lookup a).bind fun o => match o.data with
  | .func z => some (z.qualname, z.name, z.params, z.body, z.scope, z.defaults, z.builtins, z.globals, z.closure)
  | _ => none
def fnV (q x : Str) (st : Stmt) : FnO := some (q, x, defArgs st, .stmts (defBody st), defScope st, .none, builtinsNs, mainGlobals, [])
def fnB (K : PySem.W.Frag) (a : Addr) (q : Str) : Bool := PySem.W.keepIn K (.ref a) && (K.lookup a).any fun o => match o.data with
  | .func z => PySem.W.codeIn K z.code q
  | _ => false
section
variable {K : PySem.W.Frag} {h : Heap} {mg : Str → Option Value}
open He
theorem fun_at {a : Addr} {q x : Str} {st : Stmt} (e : fnO K a = fnV q x st) (c : fnB K a q = true) : ∃ fd, Fun K x q st a fd := by
  obtain ⟨kp, c2⟩ := ba c
  obtain ⟨o, lk, c3⟩ := PySem.W.any_some c2
  obtain ⟨oc, od, dt, osl⟩ := o
  unfold fnO at e
  rw [lk] at e
  cases dt with
  | func z =>
    obtain ⟨n1, n2, n3, n4, n5, n6, n7, n8, n9, n10, n11, n12, n13, n14, n15⟩ := z
    have e2 : (some (n2, n1, n3, n4, n5, n8, n15, n6, n7) : FnO) = some (q, x, defArgs st, .stmts (defBody st), defScope st, .none, builtinsNs, mainGlobals, []) := e
    simp only [Option.some.injEq, Prod.mk.injEq] at e2
    obtain ⟨h1, h2, h3, h4, h5, h6, h7, h8, h9⟩ := e2
    subst h1 h2 h3 h4 h5 h6 h7 h8 h9
    exact ⟨_, ⟨oc, od, n9, n10, n11, n12, n13, n14, osl, rfl, lk, c3⟩, kp⟩
  | _ => cases c3
theorem binds_at {a : Addr} {q x : Str} {st : Stmt} {ps : List Str} {fd : FuncData} (F : Fun K x q st a fd) (b : argB (defArgs st) ps = true) : Binds K fd ps [] := by
  refine F.binds fun kV doc pm an cdv ct us hl => bind_all b rfl hl
theorem bindsTo_at {a : Addr} {q x : Str} {st : Stmt} {ps : List Str} {fd : FuncData} (F : Fun K x q st a fd) (b : argB (defArgs st) ps = true) (s : Shared) (us : List Value) (hl : us.length = ps.length) : BindsTo s fd ⟨us, []⟩ (ps.zip us) := by
  obtain ⟨oc, od, kV, doc, pm, an, cdv, ct, osl, rfl, lk, hcd⟩ := F.ex
  exact .of_eq (bind_all b rfl hl)
end
section
open He
/-! ### looks at what the top has left -/
def mthB (K : PySem.W.Frag) (C : Addr) (m : Str) : Bool := eqO (PySem.W.findIn K (.ref C) m) (some (some (.ref (ma K C m)))) && PySem.W.isFn K (.ref (ma K C m))
def mkB (K : PySem.W.Frag) (C : Addr) : Bool := PySem.W.makesIn K C && (mthB K C "__init__" && PySem.W.keepIn K (.ref C))
def clsB (K : PySem.W.Frag) (C : Addr) : Bool := PySem.W.hasDictIn K C && (PySem.W.plainGet K C Str.empty && (PySem.W.plainOver K C && decide (PySem.W.findIn K (.ref C) "__setattr__" = some (some (.builtin "object.__setattr__")))))
def tyB (K : PySem.W.Frag) (C : Addr) : Bool := eqO (PySem.W.findIn K (.ref C) "__class__") (some (some (.builtin "object.__class__"))) && decide (PySem.W.mroIn K C (.type "object") = some true)
def ty0 (K : PySem.W.Frag) : Bool := eqO (PySem.W.specialIn K (.builtin "object.__class__") "__get__") (some (some (.builtin "getset_descriptor.__get__"))) && decide (PySem.W.takesIn K (.builtin "object.__class__") = some true)
def globB (K : PySem.W.Frag) (x : Str) (a : Addr) : Bool := eqO (PySem.W.nsIn K mainGlobals x) (some (some (.ref a)))
def oexB (K : PySem.W.Frag) (C : Addr) : Bool := (K.lookup C).any fun o => decide (o.cls = .type "type") && match o.data, o.slots.toList with
  | .cls z, [_, _, _, _, some (.builtin n), _] => z.hasDict && (!z.hasDel && (decide (n = "ValueError.__new__") && match z.mro with
    | .ref D :: bm => decide (D = C) && PySem.HandSPX.refsVE bm
    | _ => false))
  | _, _ => false
def wayB (K : PySem.W.Frag) (W : Addr) : Bool := PySem.W.readsIn K W (.type "type") && (eqO (PySem.W.specialIn K (.ref W) "__getattribute__") (some (some (.builtin "type.__getattribute__"))) && match PySem.W.findCls K (.ref W) (.type "type") "__init__" with
  | some (.val v) => decide (v = .builtin "ValueError.__init__")
  | _ => false)
def excB (K : PySem.W.Frag) (C : Addr) : Bool := xfB K C && (tyB K C && (oexB K C && (decide (PySem.W.findIn K (.ref C) "__setattr__" = some (some (.builtin "object.__setattr__"))) && (decide (PySem.W.typeIn K (.ref C) = some (.type "type")) && PySem.W.keepIn K (.ref C)))))
def noB (K : PySem.W.Frag) : Bool := mthB K (ga K "NoWay") "__init__" && (fnB K (ma K (ga K "NoWay") "__init__") "NoWay.__init__" && (eqO (PySem.W.findIn K (.ref (ga K "NoWay")) "place") (some none) && (eqO (PySem.W.findIn K (.ref (ga K "NoWay")) "reason") (some none) &&
  (decide (PySem.W.exmOne K (.ref (ga K "NoWay")) (.ref (ga K "NoWay")) = some true) && (decide (PySem.W.exmOne K (.ref (ga K "NoWay")) (.ref (ga K "WayError")) = some true) && decide (PySem.W.kitOne K (.ref (ga K "NoWay")) (.type "ValueError") = some true))))))
def tupAt (i : Nat) : List Str := ((tupTab caO).getD i (0, [])).2
structure Fct (K : PySem.W.Frag) : Prop where
  glo : ((gloTab (caK K)).all fun d => globB K d.1 d.2) = true
  dfs : (defTab.all fun d => globB K d.1 (ga K d.1) && fnB K (ga K d.1) d.1) = true
  ali : (aliTab.all fun d => globB K d.1 (ga K d.1) && fnB K (ga K d.1) d.2.1) = true
  mth : ((mthTab (caK K)).all fun d => ((clsTab (caK K)).any fun c => Nat.beq c d.1) && (mthB K d.1 d.2.1 && fnB K (ma K d.1 d.2.1) d.2.2.1)) = true
  mkr : ((mkTab (caK K)).all fun d => globB K d.1 d.2.1 && (mkB K d.2.1 && fnB K (ma K d.2.1 "__init__") d.2.2.1)) = true
  na : ((naTab (caK K)).all fun d => eqO (PySem.W.findIn K (.ref d.1) d.2) (some none)) = true
  int : (intTab.all fun d => (Fa.int d.1 d.2).ok K) = true
  str : (strTab.all fun d => (Fa.str d.1 d.2).ok K) = true
  free : ((("ValueError" : Str) :: freeTab).all fun x => (Fa.free x).ok K) = true
  isi : ((isiTab (caK K)).all fun d => decide (PySem.W.kitOne K (.ref d.1) (.ref d.2.1) = some d.2.2)) = true
  cls : (ty0 K && (clsTab (caK K)).all fun C => clsB K C && tyB K C) = true
  tup : (tupB K "KEPT" ((tupAt 0).map Dv.str) && (tupB K "MORE_KEPT" ((tupAt 1).map Dv.str) && tupB K "SIGNS" ((tupAt 2).map Dv.str))) = true
  exc : (excB K (ga K "NoWay") && (noB K && wayB K (ga K "WayError"))) = true
/-! ### the function objects -/
abbrev FnL : Type := List FnO × List FnO × List FnO × List FnO × FnO
def fnL (K : PySem.W.Frag) : FnL := (defTab.map fun d => fnO K (ga K d.1), aliTab.map fun d => fnO K (ga K d.1), (mthTab (caK K)).map fun d => fnO K (ma K d.1 d.2.1), (mkTab (caK K)).map fun d => fnO K (ma K d.2.1 "__init__"), fnO K (ma K (ga K "NoWay") "__init__"))
def fnLV : FnL := (defTab.map fun d => fnV d.1 d.1 d.2.1, aliTab.map fun d => fnV d.2.1 d.2.1 d.2.2.1, (mthTab caO).map fun d => fnV d.2.2.1 d.2.1 d.2.2.2.1, (mkTab caO).map fun d => fnV d.2.2.1 "__init__" d.2.2.2.1, fnV "NoWay.__init__" "__init__" s_NoWay_init)
/-! ### the looks in five groups -/
def mthH0 (A : CA) : List (Addr × Str × Str × Stmt × List Str) := mthTab_0 A ++ (mthTab_1 A ++ (mthTab_2 A ++ mthTab_3 A))
def mthH1 (A : CA) : List (Addr × Str × Str × Stmt × List Str) := mthTab_4 A ++ (mthTab_5 A ++ (mthTab_6 A ++ mthTab_7 A))
theorem mth_two (A : CA) : mthTab A = mthH0 A ++ mthH1 A := by kernel_rfl
def oA (K : PySem.W.Frag) : Bool × List FnO × List FnO := ((((gloTab (caK K)).all fun d => globB K d.1 d.2)) && (((defTab.all fun d => globB K d.1 (ga K d.1) && fnB K (ga K d.1) d.1)) && (((aliTab.all fun d => globB K d.1 (ga K d.1) && fnB K (ga K d.1) d.2.1)) && (((intTab.all fun d => (Fa.int d.1 d.2).ok K)) && (((strTab.all fun d => (Fa.str d.1 d.2).ok K)) && ((((("ValueError" : Str) :: freeTab).all fun x => (Fa.free x).ok K))))))),
  defTab.map fun d => fnO K (ga K d.1), aliTab.map fun d => fnO K (ga K d.1))
def oB (K : PySem.W.Frag) (t : CA → List (Addr × Str × Str × Stmt × List Str)) : Bool × List FnO := (((t (caK K)).all fun d => ((clsTab (caK K)).any fun c => Nat.beq c d.1) && (mthB K d.1 d.2.1 && fnB K (ma K d.1 d.2.1) d.2.2.1)),
  (t (caK K)).map fun d => fnO K (ma K d.1 d.2.1))
def oD (K : PySem.W.Frag) : Bool × List FnO × FnO := ((((mkTab (caK K)).all fun d => globB K d.1 d.2.1 && (mkB K d.2.1 && fnB K (ma K d.2.1 "__init__") d.2.2.1))) && ((((naTab (caK K)).all fun d => eqO (PySem.W.findIn K (.ref d.1) d.2) (some none)))),
  (mkTab (caK K)).map fun d => fnO K (ma K d.2.1 "__init__"), fnO K (ma K (ga K "NoWay") "__init__"))
def oE (K : PySem.W.Frag) : Bool := (((isiTab (caK K)).all fun d => decide (PySem.W.kitOne K (.ref d.1) (.ref d.2.1) = some d.2.2))) && (((ty0 K && (clsTab (caK K)).all fun C => clsB K C && tyB K C)) && (((tupB K "KEPT" ((tupAt 0).map Dv.str) && (tupB K "MORE_KEPT" ((tupAt 1).map Dv.str) && tupB K "SIGNS" ((tupAt 2).map Dv.str)))) && (((excB K (ga K "NoWay") && (noB K && wayB K (ga K "WayError")))))))
def vA : Bool × List FnO × List FnO := (true, defTab.map fun d => fnV d.1 d.1 d.2.1, aliTab.map fun d => fnV d.2.1 d.2.1 d.2.2.1)
def vB (t : CA → List (Addr × Str × Str × Stmt × List Str)) : Bool × List FnO := (true, (t caO).map fun d => fnV d.2.2.1 d.2.1 d.2.2.2.1)
def vD : Bool × List FnO × FnO := (true, (mkTab caO).map fun d => fnV d.2.2.1 "__init__" d.2.2.2.1, fnV "NoWay.__init__" "__init__" s_NoWay_init)
theorem groups {K : PySem.W.Frag} (a : oA K = vA) (b : oB K mthH0 = vB mthH0) (c : oB K mthH1 = vB mthH1) (e : oD K = vD) (f : oE K = true) : Fct K ∧ fnL K = fnLV := by
  obtain ⟨a1, a⟩ := Prod.mk.inj a
  obtain ⟨a2, a3⟩ := Prod.mk.inj a
  obtain ⟨b1, b2⟩ := Prod.mk.inj b
  obtain ⟨c1, c2⟩ := Prod.mk.inj c
  obtain ⟨e1, e⟩ := Prod.mk.inj e
  obtain ⟨e2, e3⟩ := Prod.mk.inj e
  obtain ⟨h1, a1⟩ := ba a1
  obtain ⟨h2, a1⟩ := ba a1
  obtain ⟨h3, a1⟩ := ba a1
  obtain ⟨h4, a1⟩ := ba a1
  obtain ⟨h5, h6⟩ := ba a1
  obtain ⟨h7, h8⟩ := ba e1
  obtain ⟨h9, f⟩ := ba f
  obtain ⟨h10, f⟩ := ba f
  obtain ⟨h11, h12⟩ := ba f
  refine ⟨⟨h1, h2, h3, ?_, h7, h8, h4, h5, h6, h9, h10, h11, h12⟩, ?_⟩
  · rw [mth_two, List.all_append, b1, c1]
    rfl
  · have e4 : ((mthTab (caK K)).map fun d => fnO K (ma K d.1 d.2.1)) = (mthTab caO).map fun d => fnV d.2.2.1 d.2.1 d.2.2.2.1 := by
      rw [mth_two, mth_two, List.map_append, List.map_append, b2, c2]
    unfold fnL fnLV
    rw [a2, a3, e4, e2, e3]
theorem mth_val (A : CA) : ((mthTab A).map fun d => fnV d.2.2.1 d.2.1 d.2.2.2.1) = (mthTab caO).map fun d => fnV d.2.2.1 d.2.1 d.2.2.2.1 := by kernel_rfl
theorem mk_val (A : CA) : ((mkTab A).map fun d => fnV d.2.2.1 "__init__" d.2.2.2.1) = (mkTab caO).map fun d => fnV d.2.2.1 "__init__" d.2.2.2.1 := by kernel_rfl
theorem arg_def : (defTab.all fun d => argB (defArgs d.2.1) d.2.2) = true := by decide +kernel
theorem arg_ali : (aliTab.all fun d => argB (defArgs d.2.2.1) d.2.2.2) = true := by decide +kernel
theorem arg_mth (A : CA) : ((mthTab A).all fun d => argB (defArgs d.2.2.2.1) d.2.2.2.2) = true := by kernel_rfl
theorem arg_mk (A : CA) : ((mkTab A).all fun d => argB (defArgs d.2.2.2.1) d.2.2.2.2) = true := by kernel_rfl
theorem arg_no : argB (defArgs s_NoWay_init) ["self", "place", "reason"] = true := by decide +kernel
theorem map_at {α β : Type} {l : List α} {f g : α → β} {i : Nat} {d : α} (e : l.map f = l.map g) (h : l[i]? = some d) : f d = g d := by
  have e2 : (l.map f)[i]? = (l.map g)[i]? := by rw [e]
  rw [List.getElem?_map, List.getElem?_map, h] at e2
  exact Option.some.inj e2
theorem all_at {α : Type} {l : List α} {p : α → Bool} {i : Nat} {d : α} (c : l.all p = true) (h : l[i]? = some d) : p d = true := List.all_eq_true.mp c d (List.mem_of_getElem? h)
section
variable {K : PySem.W.Frag} {h : Heap} {mg : Str → Option Value}
theorem glob_ok (X : K.In h) (G : h.Ns mainGlobals mg) {x : Str} {a : Addr} (c : globB K x a = true) : mg x = some (.ref a) := PySem.W.mg_of X G (eqO_ok c)
theorem clsB_ok {C : Addr} (c : clsB K C = true) : Cls K C := by
  obtain ⟨c1, c⟩ := ba c
  obtain ⟨c2, c⟩ := ba c
  obtain ⟨c3, c4⟩ := ba c
  exact ⟨c2, c1, c3, of_decide_eq_true c4⟩
theorem mthB_ok {C : Addr} {m q : Str} (c : mthB K C m = true) (k : fnB K (ma K C m) q = true) : Meth K C m (ma K C m) := by
  obtain ⟨c1, c2⟩ := ba c
  exact ⟨eqO_ok c1, c2, (ba k).1⟩
theorem mkB_ok {C : Addr} (c : mkB K C = true) : Mk K C (ma K C "__init__") := by
  obtain ⟨c1, c⟩ := ba c
  obtain ⟨c2, c3⟩ := ba c
  obtain ⟨c4, c5⟩ := ba c2
  exact ⟨c1, eqO_ok c4, c5, c3⟩
theorem oexB_ok {C : Addr} (c : oexB K C = true) : ∃ nm q N bs bm sn sub ab col dd k0 k1 k2 k3 k5, K.lookup C = some (excClassObj nm q C N bs bm true sn sub ab col dd k0 k1 k2 k3 k5 "ValueError.__new__") ∧ PySem.HandSPX.refsVE bm = true := by
  obtain ⟨o, lk, c0⟩ := PySem.W.any_some c
  obtain ⟨oc, od, dt, sl⟩ := o
  obtain ⟨c1, c2⟩ := ba c0
  clear c c0
  have e1 : oc = .type "type" := of_decide_eq_true c1
  clear c1
  subst e1
  dsimp only at c2
  split at c2
  · rename_i z k0 k1 k2 k3 n k5 hs
    obtain ⟨nm, bs, mro, ns, qn, hdc, sn, sub, ab, col, del⟩ := z
    obtain ⟨d1, c3⟩ := ba c2
    obtain ⟨d2, c4⟩ := ba c3
    obtain ⟨d3, c5⟩ := ba c4
    clear c2 c3 c4
    have d1 : hdc = true := d1
    subst d1
    have d2 : del = false := by
      cases del with
      | false => rfl
      | true => cases d2
    subst d2
    have e3 : n = "ValueError.__new__" := of_decide_eq_true d3
    clear d3
    subst e3
    dsimp only at c5
    split at c5
    · rename_i D bm
      obtain ⟨c1, c2⟩ := ba c5
      have e4 : D = C := of_decide_eq_true c1
      subst e4
      have hsl : sl = #[k0, k1, k2, k3, some (.builtin "ValueError.__new__"), k5] := by
        obtain ⟨l⟩ := sl
        dsimp only at hs
        rw [hs]
      subst hsl
      exact ⟨nm, qn, ns, bs, bm, sn, sub, ab, col, od, k0, k1, k2, k3, k5, lk, c2⟩
    · cases c5
  · cases c2
end
end
/-! ### the names that the view leaves out -/
def ln0 : List Str := ["WayError", "NoSaying", "NoRow", "NoProgram", "NoText", "NoWay", "NoState", "Stopped", "NoPlain", "NoSheet", "MOST_WORD", "MOST_NAME", "LETTERS", "FIGURES", "KEPT", "MORE_KEPT", "wrapped", "is_whole", "is_whole_words", "is_word"]
def ln1 : List Str := ["is_name", "MOST_PARTS", "MOST_DEEP_sayings", "SIGNS", "once", "Saying", "Number", "Box", "OfStack", "Many", "Top", "Not", "parted", "put_together", "Pair", "saying_within", "saying_of", "BITS", "MOST_DEEP_rows", "is_whole_rows"]
def ln2 : List Str := ["need_names", "need_sayings", "need_rows", "mirrors", "told_rows", "Row", "Change", "Add", "Less", "Mix", "Swap", "Turn", "Moved", "Push", "Pop", "Named", "Call", "Back", "Choice", "Loop"]
def ln3 : List Str := ["Held", "said", "rows_within", "change_of", "row_within", "row_of", "field_boxes", "Look", "look", "is_let", "MOST_BOXES", "MOST_STACKS", "MOST_ROUTINES", "MOST_ROWS", "MOST_DEEP_programs", "are_names", "count_of", "is_routine", "Program", "routine_of"]
def ln4 : List Str := ["program_of", "_law_mix", "_law_names", "_law_word", "_law_saying", "_law_any_rows", "_law_any_row", "_law_any_program", "_law_world", "_law_good_row", "_law_good_block", "_law_good_rows", "_law_good_program", "_law_bad_row", "_law_put_in", "_law_spoilt", "_law_boxes_in", "_law_stacks_in", "_law_sayings", "_law_why"]
def ln5 : List Str := ["_law_within", "_law_look_rows", "_law_look", "_law_asked", "_law_good"]
def lns : List Str := ln0 ++ ln1 ++ ln2 ++ ln3 ++ ln4 ++ ln5
/-! ### what the end leans on: the part of the heap that the module's names reach -/
def via (g : Addr → Option Obj) (f : Obj → List Addr) (as : List Addr) : List Addr := as.flatMap fun a => match g a with
  | some o => f o
  | none => []
def clsNs (o : Obj) : List Addr := match o.data with
  | .cls z => [z.ns]
  | _ => []
def fnCode (o : Obj) : List Addr := match o.data with
  | .func z => He.refV z.code
  | _ => []
def dicRefs (o : Obj) : List Addr := match o.data with
  | .dict es _ => es.toList.flatMap fun e => He.refV e.val
  | _ => []
def isC (g : Addr → Option Obj) (a : Addr) : Bool := (g a).any fun o => match o.data with
  | .cls _ => true
  | _ => false
def asM (g : Addr → Option Obj) : List Addr :=
  mainGlobals :: cStatics :: ((via g dicRefs [mainGlobals]).filter (isC g) ++ (via g clsNs ((via g dicRefs [mainGlobals]).filter (isC g)) ++ (via g dicRefs [mainGlobals] ++ (via g fnCode (via g dicRefs [mainGlobals]) ++
    (via g dicRefs (via g clsNs ((via g dicRefs [mainGlobals]).filter (isC g))) ++ via g fnCode (via g dicRefs (via g clsNs ((via g dicRefs [mainGlobals]).filter (isC g)))))))))
abbrev AlM : Type := (Bool × List FnO × List FnO) × (Bool × List FnO) × (Bool × List FnO) × (Bool × List FnO × FnO) × Bool
def obM (K : PySem.W.Frag) : AlM := (oA K, oB K mthH0, oB K mthH1, oD K, oE K)
def vaM : AlM := (vA, vB mthH0, vB mthH1, vD, true)
/-- the part of the heap behind g -/
def frM (g : Addr → Option Obj) : PySem.W.Frag := He.frG g (asM g)
def hookM : PySem.W.Hook where
  α := AlM
  obs := fun s => obM (frM s.heap.get?)
  val := fun _ => vaM
  says := fun _ h => ∃ K : PySem.W.Frag, K.In h ∧ obM K = vaM
  of := fun _ _ e => ⟨_, He.frG_in, e⟩
  keeps := fun _ _ _ ⟨K, hK, c⟩ k => ⟨K, PySem.W.Frag.In.keeps hK k, c⟩
def obT (s : PySem.W.SharedT) : AlM := obM (frM (HandSHeadRun.getT s))
theorem obT_eq (s : PySem.W.SharedT) : obT s = hookM.obs s.abs := by
  have e : HandSHeadRun.getT s = s.abs.heap.get? := funext (HandSHeadRun.getT_eq s)
  show obM (frM (HandSHeadRun.getT s)) = obM (frM s.abs.heap.get?)
  rw [e]
abbrev RL : PySem.W.OpenRow := PySem.W.OpenLaw.row PySem.Challenge.rw_mirrorwalk_k33_whole_mirror_let
/-- the state behind the top -/
noncomputable abbrev endS (w : World) (os : OsState) : Option PySem.W.SharedT := HandSHeadRun.endF (HandSHeadRun.stepQ (HandSHeadRun.denQ HandSHeadRun.tabQ) RL.prog w) 24000 RL.prog w os
theorem both {α β γ : Type} {o : Option α} {f : α → β} {g : α → γ} {x : β} {y : γ} (h1 : o.map f = some x) (h2 : o.map g = some y) : (o.map fun s => (f s, g s)) = some (x, y) := by
  cases o with
  | none => cases h1
  | some s =>
    have e1 : f s = x := Option.some.inj h1
    have e2 : g s = y := Option.some.inj h2
    show some (f s, g s) = some (x, y)
    rw [e1, e2]
theorem run_looks (w : World) (os : OsState) : (endS w os).map (fun s => HandSHeadRun.looksF RL.prog (PySem.W.boot_heap w.params) s.abs) = some true := by kernel_rfl
theorem run_seen (w : World) (os : OsState) : (endS w os).map (fun s => HandSHeadRun.seenQ (PySem.W.view RL.prog [113]) lns (PySem.importedModules RL.prog.main.body) (fun s => PySem.W.xlAt (PySem.W.view RL.prog [113]) [] s && PySem.W.recOk RL.toRowW.records s) s.abs) = some (PySem.W.openGood (PySem.W.view RL.prog [113]) lns) := by kernel_rfl
theorem run_A (w : World) (os : OsState) : (endS w os).map (fun s => oA (frM (HandSHeadRun.getT s))) = some vA := by kernel_rfl
theorem run_B0 (w : World) (os : OsState) : (endS w os).map (fun s => oB (frM (HandSHeadRun.getT s)) mthH0) = some (vB mthH0) := by kernel_rfl
theorem run_B1 (w : World) (os : OsState) : (endS w os).map (fun s => oB (frM (HandSHeadRun.getT s)) mthH1) = some (vB mthH1) := by kernel_rfl
theorem run_D (w : World) (os : OsState) : (endS w os).map (fun s => oD (frM (HandSHeadRun.getT s))) = some vD := by kernel_rfl
theorem run_E (w : World) (os : OsState) : (endS w os).map (fun s => oE (frM (HandSHeadRun.getT s))) = some true := by kernel_rfl
theorem run_all (w : World) : HandSHeadRun.RunEq RL (PySem.W.view RL.prog [113]) hookM obT 24000 lns w := fun os =>
  both (run_looks w os) (both (run_seen w os) (both (run_A w os) (both (run_B0 w os) (both (run_B1 w os) (both (run_D w os) (run_E w os))))))
/-! ### the row's own looks -/
open PySem.W PySem.Calls in
theorem row_open : opening RL.prog = plainProg RL.prog.main.scope.names := by kernel_rfl
open PySem.W PySem.Calls in
theorem row_fence (s : Shared) : fenceModules? RL.prog s = some s := by kernel_rfl
open PySem.W PySem.Calls in
theorem row_def : defOf (view RL.prog [113]) RL.name = some (HandSHeadRun.topDef RL.prog 113, []) := by kernel_rfl
open PySem.W PySem.Calls in
theorem row_the : RL.prog.theDef RL.name = some ((HandSHeadRun.topDef RL.prog 113).params, (HandSHeadRun.topDef RL.prog 113).body, (HandSHeadRun.topDef RL.prog 113).scope) := by kernel_rfl
open PySem.W PySem.Calls in
theorem row_kwd : kwWritten? (HandSHeadRun.topDef RL.prog 113).params.kwonlyargs (HandSHeadRun.topDef RL.prog 113).params.kw_defaults = some [] := by kernel_rfl
open PySem.W PySem.Calls in
theorem row_chains : chainsOk (view RL.prog [113]) = true := by decide +kernel
open PySem.W PySem.Calls in
theorem row_opens : opensWell RL.prog = true := by decide +kernel
open PySem.W PySem.Calls in
theorem row_frees : (frees RL.toRowW && RL.within.isEmpty) = true := by decide +kernel
open PySem.W PySem.Calls in
theorem row_ok : (chainsOk (view RL.prog [113]) && opensWell RL.prog && (frees RL.toRowW && RL.within.isEmpty)) = true := by
  rw [row_chains, row_opens, row_frees]
  rfl
open PySem.W PySem.Calls in
theorem row_bare : RL.prog.bare := ⟨rfl, rfl, rfl, rfl, rfl, by decide +kernel⟩
open PySem PySem.W PySem.Calls PyProof.Rows in
theorem row_said (h : RL.wellSaid = true → RL.Holds) : PySem.Challenge.rw_mirrorwalk_k33_whole_mirror_let.Holds := by
  w_on; o_law
  exact h (by assumption)

/-! ### callees -/
section
variable (P : Program) (w : World) (K : PySem.W.Frag) (mg : Str → Option Value) (base : Heap)
def Cal (CX : CXT) (x : Str) (k : Nat) (ps : List Str) (sp : Sp) : Prop :=
  ∃ f fd, FnOk P w K mg base CX k f fd ps sp ∧ mg x = some (.ref f) ∧ PySem.W.keepIn K (.ref f) = true ∧ Binds K fd ps []
def Mth (CX : CXT) (C : Addr) (m : Str) (k : Nat) (ps : List Str) (sp : Sp) : Prop :=
  ∃ f fd, FnOk P w K mg base CX k f fd ps sp ∧ Cls K C ∧ Meth K C m f ∧ Binds K fd ps []
def Mkr (CX : CXT) (x : Str) (C : Addr) (k : Nat) (ps : List Str) (sp : Sp) : Prop :=
  ∃ f fd, FnOk P w K mg base CX k f fd ps sp ∧ Mk K C f ∧ mg x = some (.ref C) ∧ Binds K fd ps []
/-- a def as it stands behind the top -/
def DefAt (x : Str) (st : Stmt) (ps : List Str) : Prop := ∃ f fd, Fun K x x st f fd ∧ mg x = some (.ref f) ∧ Binds K fd ps []
def MthAt (C : Addr) (m qual : Str) (st : Stmt) (ps : List Str) : Prop := ∃ f fd, Fun K m qual st f fd ∧ Cls K C ∧ Meth K C m f ∧ Binds K fd ps []
def MkAt (x : Str) (C : Addr) (qual : Str) (st : Stmt) (ps : List Str) : Prop := ∃ f fd, Fun K "__init__" qual st f fd ∧ Mk K C f ∧ mg x = some (.ref C) ∧ Binds K fd ps []
end
section
variable {P : Program} {w : World} {K : PySem.W.Frag} {mg : Str → Option Value} {base : Heap}
theorem Cal.mono {CX : CXT} {x : Str} {j k : Nat} {ps : List Str} {sp : Sp} (c : Cal P w K mg base CX x j ps sp) (h : j ≤ k) : Cal P w K mg base CX x k ps sp := by
  obtain ⟨f, fd, F, r⟩ := c
  exact ⟨f, fd, F.mono h, r⟩
theorem Mth.mono {CX : CXT} {C : Addr} {m : Str} {j k : Nat} {ps : List Str} {sp : Sp} (c : Mth P w K mg base CX C m j ps sp) (h : j ≤ k) : Mth P w K mg base CX C m k ps sp := by
  obtain ⟨f, fd, F, r⟩ := c
  exact ⟨f, fd, F.mono h, r⟩
theorem Mkr.mono {CX : CXT} {x : Str} {C : Addr} {j k : Nat} {ps : List Str} {sp : Sp} (c : Mkr P w K mg base CX x C j ps sp) (h : j ≤ k) : Mkr P w K mg base CX x C k ps sp := by
  obtain ⟨f, fd, F, r⟩ := c
  exact ⟨f, fd, F.mono h, r⟩
/-- a def that lets nothing out keeps its promise -/
theorem DefAt.ok {x : Str} {st : Stmt} {N ps : List Str} {k : Nat} {sp : Sp} (d : DefAt K mg x st ps) (S : FnScope N ps (defScope st)) (len : ∀ vs H Q E, sp vs H Q E → vs.length = ps.length)
    (hbody : ∀ (f : Addr) (cdv : Value) (A : Around) (outer : List Env) (s : Shared) (H : Hp) (vs : List V) (Q : VK) (E : XK), Room k (A.deeper (envOfC x (defScope st) s.heap.objs.size f cdv)) → sp vs H Q E →
      ∃ t, PSs (cxOf CX0 P w K mg base N x (defScope st) f cdv A outer s H E).nox (defBody st) t ∧ t { nx := fun _ H' => Q .non H', rt := Q } (start N vs) H) : Cal P w K mg base CX0 x (k + 1) ps sp := by
  obtain ⟨f, fd, F, g, b⟩ := d
  exact ⟨f, fd, F.ok S len fun cdv A outer s H vs Q E hr h => hbody f cdv A outer s H vs Q E hr h, g, F.kp, b⟩
theorem DefAt.okX {x : Str} {st : Stmt} {N ps : List Str} {k : Nat} {sp : Sp} (d : DefAt K mg x st ps) (S : FnScope N ps (defScope st)) (len : ∀ vs H Q E, sp vs H Q E → vs.length = ps.length)
    (hbody : ∀ (f : Addr) (cdv : Value) (A : Around) (outer : List Env) (s : Shared) (H : Hp) (vs : List V) (Q : VK) (E : XK), Room k (A.deeper (envOfC x (defScope st) s.heap.objs.size f cdv)) → sp vs H Q E →
      ∃ t, PSs (cxOf (L2.CX P w) P w K mg base N x (defScope st) f cdv A outer s H E) (defBody st) t ∧ t { nx := fun _ H' => Q .non H', rt := Q } (start N vs) H) : Cal P w K mg base (L2.CX P w) x (k + 1) ps sp := by
  obtain ⟨f, fd, F, g, b⟩ := d
  exact ⟨f, fd, F.okX S len fun cdv A outer s H vs Q E hr h => hbody f cdv A outer s H vs Q E hr h, g, F.kp, b⟩
theorem MthAt.ok {C : Addr} {m qual : Str} {st : Stmt} {N ps : List Str} {k : Nat} {sp : Sp} (d : MthAt K C m qual st ps) (S : FnScope N ps (defScope st)) (len : ∀ vs H Q E, sp vs H Q E → vs.length = ps.length)
    (hbody : ∀ (f : Addr) (cdv : Value) (A : Around) (outer : List Env) (s : Shared) (H : Hp) (vs : List V) (Q : VK) (E : XK), Room k (A.deeper (envOfC qual (defScope st) s.heap.objs.size f cdv)) → sp vs H Q E →
      ∃ t, PSs (cxOf CX0 P w K mg base N qual (defScope st) f cdv A outer s H E).nox (defBody st) t ∧ t { nx := fun _ H' => Q .non H', rt := Q } (start N vs) H) : Mth P w K mg base CX0 C m (k + 1) ps sp := by
  obtain ⟨f, fd, F, c, g, b⟩ := d
  exact ⟨f, fd, F.ok S len fun cdv A outer s H vs Q E hr h => hbody f cdv A outer s H vs Q E hr h, c, g, b⟩
theorem MthAt.okX {C : Addr} {m qual : Str} {st : Stmt} {N ps : List Str} {k : Nat} {sp : Sp} (d : MthAt K C m qual st ps) (S : FnScope N ps (defScope st)) (len : ∀ vs H Q E, sp vs H Q E → vs.length = ps.length)
    (hbody : ∀ (f : Addr) (cdv : Value) (A : Around) (outer : List Env) (s : Shared) (H : Hp) (vs : List V) (Q : VK) (E : XK), Room k (A.deeper (envOfC qual (defScope st) s.heap.objs.size f cdv)) → sp vs H Q E →
      ∃ t, PSs (cxOf (L2.CX P w) P w K mg base N qual (defScope st) f cdv A outer s H E) (defBody st) t ∧ t { nx := fun _ H' => Q .non H', rt := Q } (start N vs) H) : Mth P w K mg base (L2.CX P w) C m (k + 1) ps sp := by
  obtain ⟨f, fd, F, c, g, b⟩ := d
  exact ⟨f, fd, F.okX S len fun cdv A outer s H vs Q E hr h => hbody f cdv A outer s H vs Q E hr h, c, g, b⟩
theorem MkAt.ok {x : Str} {C : Addr} {qual : Str} {st : Stmt} {N ps : List Str} {k : Nat} {sp : Sp} (d : MkAt K mg x C qual st ps) (S : FnScope N ps (defScope st)) (len : ∀ vs H Q E, sp vs H Q E → vs.length = ps.length)
    (hbody : ∀ (f : Addr) (cdv : Value) (A : Around) (outer : List Env) (s : Shared) (H : Hp) (vs : List V) (Q : VK) (E : XK), Room k (A.deeper (envOfC qual (defScope st) s.heap.objs.size f cdv)) → sp vs H Q E →
      ∃ t, PSs (cxOf CX0 P w K mg base N qual (defScope st) f cdv A outer s H E).nox (defBody st) t ∧ t { nx := fun _ H' => Q .non H', rt := Q } (start N vs) H) : Mkr P w K mg base CX0 x C (k + 1) ps sp := by
  obtain ⟨f, fd, F, c, g, b⟩ := d
  exact ⟨f, fd, F.ok S len fun cdv A outer s H vs Q E hr h => hbody f cdv A outer s H vs Q E hr h, c, g, b⟩
end

/-! ### calls -/
section
variable {X : Cx} {CX : CXT} {j k : Nat} {C : Addr} {ps : List Str} {sp : Sp} {E : XK} {x m : Str} {p pos apos : Pos} {e o : Expr} {es : List Expr} {ta : TE} {t : TA}
theorem pe_cal (c : Cal X.prog X.w X.K X.mg X.base CX x j ps sp) (hr : Room k X.A) (hl : j ≤ k) (hx : Passes CX X E) (ha : PA X (e :: es) t) (hg : Gl X x := by rfl)
    (hdb : (x == ("__debug__" : Str)) = false := by decide) (he : starEach (e :: es) X.env = (false, eval e X.env) :: starEach es X.env := by rfl) (hpl : (backTo pos (starEach es X.env)).any (·.1) = false := by rfl) :
    PE X (.Call (.Name x p) (e :: es) [] pos) (tCall sp [] E t) := by
  obtain ⟨f, fd, F, g, kp, b⟩ := c
  exact pe_call F (hr.mono hl) hg g kp b .nil hx ha hdb he hpl
theorem pe_mkr (c : Mkr X.prog X.w X.K X.mg X.base CX x C j ps sp) (hr : Room k X.A) (hl : j + 1 ≤ k) (hx : Passes CX X E) (ha : PA X (e :: es) t) (hg : Gl X x := by rfl)
    (hdb : (x == ("__debug__" : Str)) = false := by decide) (he : starEach (e :: es) X.env = (false, eval e X.env) :: starEach es X.env := by rfl) (hpl : (backTo pos (starEach es X.env)).any (·.1) = false := by rfl) :
    PE X (.Call (.Name x p) (e :: es) [] pos) (tMake C sp [] E t) := by
  obtain ⟨f, fd, F, M, g, b⟩ := c
  exact pe_make M F (hr.mono hl) hg g b .nil hx ha hdb he hpl
theorem pe_mth {pl : Sem Bool} (c : Mth X.prog X.w X.K X.mg X.base CX C m j ps sp) (hr : Room k X.A) (hl : j ≤ k) (hx : Passes CX X E) (he : PE X o ta) (ha : PA X (e :: es) t)
    (hst : starEach (e :: es) X.env = (false, eval e X.env) :: starEach es X.env := by rfl) (hpl : (backTo pos (starEach es X.env)).any (·.1) = false := by rfl)
    (ht : eval (.Call (.Attribute o m apos) (e :: es) [] pos) X.env = (do
      let ov ← eval o X.env
      standAt apos.atName
      let (f, first) ← holding [ov] (getMethod ov m pl)
      callWith pos f first (backTo pos (starEach (e :: es) X.env)) (backToKw pos (keywordEach [] X.env))) := by rfl) :
    PE X (.Call (.Attribute o m apos) (e :: es) [] pos) (tMeth C m sp [] E ta t) := by
  obtain ⟨f, fd, F, cl, M, b⟩ := c
  exact pe_meth (pl := pl) he cl M F (hr.mono hl) b .nil hx ha hst hpl ht
theorem pe_mth0 {pl : Sem Bool} (c : Mth X.prog X.w X.K X.mg X.base CX C m j ps sp) (hr : Room k X.A) (hl : j ≤ k) (hx : Passes CX X E) (he : PE X o ta)
    (ht : eval (.Call (.Attribute o m apos) [] [] pos) X.env = (do
      let ov ← eval o X.env
      standAt apos.atName
      let (f, first) ← holding [ov] (getMethod ov m pl)
      callWith pos f first (backTo pos (starEach [] X.env)) (backToKw pos (keywordEach [] X.env))) := by rfl) :
    PE X (.Call (.Attribute o m apos) [] [] pos) (tMeth C m sp [] E ta tNil) := by
  obtain ⟨f, fd, F, cl, M, b⟩ := c
  exact pe_meth0 (pl := pl) he cl M F (hr.mono hl) b .nil hx ht
/-- o.m() where o's class is one of a family -/
def tDyn {ι : Type} (C : ι → Addr) (m : Str) (sp : ι → Sp) (E : XK) (ta : TE) : TE := fun σ H Q => ta σ H fun x H1 => ∃ i a dx fs, x = .ref a ∧ H1 a = some (.ins (C i) dx fs) ∧ fs.lookup m = none ∧ sp i [x] H1 Q E
theorem pe_dyn {ι : Type} {C : ι → Addr} {sp : ι → Sp} {pl : Sem Bool} (c : ∀ i, Mth X.prog X.w X.K X.mg X.base CX (C i) m j ps (sp i)) (hr : Room k X.A) (hl : j ≤ k) (hx : Passes CX X E) (he : PE X o ta)
    (ht : eval (.Call (.Attribute o m apos) [] [] pos) X.env = (do
      let ov ← eval o X.env
      standAt apos.atName
      let (f, first) ← holding [ov] (getMethod ov m pl)
      callWith pos f first (backTo pos (starEach [] X.env)) (backToKw pos (keywordEach [] X.env))) := by rfl) :
    PE X (.Call (.Attribute o m apos) [] [] pos) (tDyn C m sp E ta) := by
  refine ⟨fun pins s σ H Q I h => ?_⟩
  refine PySem.W.methodCall_KW (pl := pl) (thn (he.run pins s σ H _ I h) fun u s1 ⟨x, H1, I1, rx, i, a, dx, fs, ex, ea, l, q⟩ => ?_) ht
  subst ex
  obtain rfl : u = Value.ref a := rx
  obtain ⟨f, fd, F, cl, M, b⟩ := c i
  refine getmeth_ok I1 ea cl M l ?_
  exact PySem.W.callWith_K0 (first := [.ref a]) I1.kIn M.kp (run_fn (us := [.ref a]) (vs := [.ref a]) (dvs := []) (ds := []) F (hr.mono hl) b .nil hx I1 (.cons rfl .nil) q)
end

/-! ### module constants -/
section
variable {X : Cx} {x : Str} {pos : Pos}
theorem pe_gint {i : Int} (h : ∃ t, X.mg x = some (.int i t)) (hg : Gl X x := by rfl) (hd : (x == ("__debug__" : Str)) = false := by decide) : PE X (.Name x pos) (tC (.int i)) := by
  obtain ⟨t, e⟩ := h
  exact pe_glob hg e ⟨t, rfl⟩ hd
theorem pe_gstr {z : Str} (h : ∃ t, X.mg x = some (.str z t)) (hg : Gl X x := by rfl) (hd : (x == ("__debug__" : Str)) = false := by decide) : PE X (.Name x pos) (tC (.str z)) := by
  obtain ⟨t, e⟩ := h
  exact pe_glob hg e ⟨t, rfl⟩ hd
theorem pe_gref {a : Addr} (h : X.mg x = some (.ref a)) (hg : Gl X x := by rfl) (hd : (x == ("__debug__" : Str)) = false := by decide) : PE X (.Name x pos) (tC (.ref a)) := pe_glob hg h rfl hd
end

/-! ### unions of operators -/
def rPlus (K : PySem.W.Frag) : R2 := fun x y H Q => rI0 (fun i j => .int (i + j)) x y H Q ∨ (∃ i j, x = .str i ∧ y = .str j ∧ i.length + j.length ≤ sizeLine ∧ Q (.str (i ++ j)) H) ∨ rCat x y H Q ∨ rCatA K x y H Q
theorem op_plus {X : Cx} : OpR X (binaryOp .Add) (rPlus X.K) := op_add.or (op_add_str.or (op_cat.or op_catA))
def rTimes : R2 := fun x y H Q => rI CMul (fun i j => .int (i * j)) x y H Q ∨ rRep x y H Q
theorem op_times {X : Cx} : OpR X (binaryOp .Mult) rTimes := op_mul.or op_rep
def rEql (K : PySem.W.Frag) : R2 := fun x y H Q => rEq x y H Q ∨ rEqD K x y H Q
theorem op_eql {X : Cx} (hu : X.A.units + 64 < cLine) : OpR X (compareOp .Eq) (rEql X.K) := op_eq.or (op_eqD hu)
def rNeq (K : PySem.W.Frag) : R2 := fun x y H Q => rNe x y H Q ∨ rNeD K x y H Q
theorem op_neq {X : Cx} (hu : X.A.units + 64 < cLine) : OpR X (compareOp .NotEq) (rNeq X.K) := op_ne.or (op_neD hu)
def rInB (K : PySem.W.Frag) : R2 := fun x y H Q => rIn K false x y H Q ∨ rInS x y H Q
theorem op_inB {X : Cx} : OpR X (compareOp .In) (rInB X.K) := op_in_seq.or op_inS
def rNinB (K : PySem.W.Frag) : R2 := fun x y H Q => rIn K true x y H Q ∨ rNotInS x y H Q
theorem op_ninB {X : Cx} : OpR X (compareOp .NotIn) (rNinB X.K) := op_notIn_seq.or op_notInS
def rSlB (K : PySem.W.Frag) : V → Option Int → Option Int → Hp → VK → Prop := fun x lo hi H Q => rSlL K x lo hi H Q ∨ rSlA K x lo hi H Q ∨ rSlS x lo hi H Q
theorem sl_any {X : Cx} : SlR X (rSlB X.K) := sl_list.or (sl_tupA.or sl_str)
def rLenB (K : PySem.W.Frag) : List V → Hp → VK → Prop := fun xs H Q => (∃ p ys, xs = [.ref p] ∧ (SqL K H p ys ∨ SqT K H p ys) ∧ Q (.int ys.length) H) ∨ (∃ z, xs = [.str z] ∧ z.length ≤ sizeLine ∧ Q (.int z.length) H)
theorem call_lenB {X : Cx} : CallR X (.builtin "len") (rLenB X.K) := call_len_seq.or call_len_str
def rIsiB (K : PySem.W.Frag) : List V → Hp → VK → Prop := fun xs H Q => rIsi K xs H Q ∨ rIsiT K xs H Q
theorem call_isiB {X : Cx} : CallR X (.builtin "isinstance") (rIsiB X.K) := call_isi.or call_isiT

/-! the same with the written part named -/
section
variable {X : Cx} (K : PySem.W.Frag)
theorem k_plus (hK : X.K = K := by rfl) : OpR X (binaryOp .Add) (rPlus K) := by subst hK; exact op_plus
theorem k_eql (hu : X.A.units + 64 < cLine) (hK : X.K = K := by rfl) : OpR X (compareOp .Eq) (rEql K) := by subst hK; exact op_eql hu
theorem k_neq (hu : X.A.units + 64 < cLine) (hK : X.K = K := by rfl) : OpR X (compareOp .NotEq) (rNeq K) := by subst hK; exact op_neq hu
theorem k_in (hK : X.K = K := by rfl) : OpR X (compareOp .In) (rInB K) := by subst hK; exact op_inB
theorem k_nin (hK : X.K = K := by rfl) : OpR X (compareOp .NotIn) (rNinB K) := by subst hK; exact op_ninB
theorem k_sl (hK : X.K = K := by rfl) : SlR X (rSlB K) := by subst hK; exact sl_any
theorem k_ix (hK : X.K = K := by rfl) : IxR X (rIx K) := by subst hK; exact ix_seq
theorem k_len (hK : X.K = K := by rfl) : CallR X (.builtin "len") (rLenB K) := by subst hK; exact call_lenB
theorem k_isi (hK : X.K = K := by rfl) : CallR X (.builtin "isinstance") (rIsiB K) := by subst hK; exact call_isiB
theorem k_sum (hc : X.calm = true) (hK : X.K = K := by rfl) : CallR X (.builtin "sum") (rSum K) := by subst hK; exact cr_sum hc
theorem k_all (hc : X.calm = true) (hK : X.K = K := by rfl) : CallR X (.builtin "all") (rAll K) := by subst hK; exact cr_all hc
def rTupOf (K : PySem.W.Frag) : List V → Hp → VK → Prop := fun xs H Q => ∃ p ys, xs = [.ref p] ∧ ((SqL K H p ys ∧ ∀ l, H l = none → Q (.ref l) (upd H l (.tup ys))) ∨ (SqT K H p ys ∧ Q (.ref p) H))
theorem k_tup (hK : X.K = K := by rfl) : CallR X (.type "tuple") (rTupOf K) := by subst hK; exact call_tuple_of
def rLstOf (K : PySem.W.Frag) : List V → Hp → VK → Prop := fun xs H Q => (∃ p ys, xs = [.ref p] ∧ (SqL K H p ys ∨ SqT K H p ys) ∧ ∀ l, H l = none → Q (.ref l) (upd H l (.lst ys))) ∨ rListD xs H Q
theorem k_lst (hc : X.calm = true) (hK : X.K = K := by rfl) : CallR X (.type "list") (rLstOf K) := by subst hK; exact call_list_of.or (call_list_dK hc)
def rDictOf (K : PySem.W.Frag) : List V → Hp → VK → Prop := fun xs H Q => ∃ (a : Addr) (ps : List Addr) (kvs : List (Key × V)), xs = [.ref a] ∧ SqL K H a (ps.map V.ref) ∧ Paired (fun p kv => SqT K H p [kV kv.1, kv.2]) ps kvs ∧
    ∀ p, H p = none → Q (.ref p) (upd H p (.dK (mergeK [] kvs)))
theorem k_dict (hc : X.calm = true) (hK : X.K = K := by rfl) : CallR X (.type "dict") (rDictOf K) := by subst hK; exact call_dictP hc
/-- += of ints, of lists -/
def rIadd : TIp := fun x y H Q => ipI (fun i j => i + j) x y H Q ∨ rExt2 x y H Q
theorem pip_add : PIp X .Add rIadd := by
  intro pins s σ H x y v u Q I r1 r2 h
  rcases h with h | h
  · exact ip_add pins s σ H x y v u Q I r1 r2 h
  · exact iop_ext pins s σ H x y v u Q I r1 r2 h
variable {e o value : Expr} {f : Str} {pos pos' : Pos} {ta tv : TE}
theorem k_fld (he : PE X e ta) (hb : attributeBase e f X.env (eval e X.env) = eval e X.env) (hK : X.K = K := by rfl) : PE X (.Attribute e f pos) (tFld K ta f) := by subst hK; exact pe_fld he hb
theorem k_sfld (ha : PE X o ta) (hv : PE X value tv) (hs : swapsWith value (some (.Attribute o f pos')) pos.line X.env = pure false) (hK : X.K = K := by rfl) : PS X (.Assign [.Attribute o f pos'] value pos) (sFld K ta tv f) := by subst hK; exact ps_fld ha hv hs
theorem k_gtup {es : List Expr} {k : Nat} {t : TGs} {n : Nat} (hc : X.calm = true) (h : PGs X es t)
    (hn : (assignEach es X.env).length = n := by rfl) (hst : (assignEach es X.env).findIdx? (·.1) = none := by rfl) (hK : X.K = K := by rfl) : PG X (.Tuple es k pos) (gTup K n t) := by subst hK; exact pg_tup hc h hn hst
variable {tg iter : Expr} {te : TE}
theorem pi_or {w1 w2 : TI} (h1 : PI X tg iter w1) (h2 : PI X tg iter w2) : PI X tg iter (fun σ H R => w1 σ H R ∨ w2 σ H R) := by
  refine ⟨fun pins s σ H R I h => ?_⟩
  rcases h with h | h
  · exact h1.run pins s σ H R I h
  · exact h2.run pins s σ H R I h
def iAny (K : PySem.W.Frag) (te : TE) : TI := fun σ H R => iList K te σ H R ∨ iTup K te σ H R ∨ iStr te σ H R
theorem k_rev {e : Expr} {p pos : Pos} (hg : Gl X "reversed") (hm : X.mg "reversed" = none) (he : PE X e te) (hs : starEach [e] X.env = (false, eval e X.env) :: starEach [] X.env := by rfl) (hK : X.K = K := by rfl) : PI X tg (.Call (.Name "reversed" p) [e] [] pos) (RT.iRevA K te) := by subst hK; exact RT.pi_revA hg hm he hs
theorem k_any (h : PE X iter te) (hK : X.K = K := by rfl) : PI X tg iter (iAny K te) := by subst hK; exact pi_or (pi_list h) (pi_or (pi_tup h) (pi_str h))
end
/-- all that was tracked is as it was, but what stands at M; tuples and locked things are as they were -/
structure Kp (M : List Addr) (H H' : Hp) : Prop where
  all : ∀ b o, H b = some o → b ∉ M → H' b = some o
  tup : ∀ b xs, H b = some (.tup xs) → H' b = some (.tup xs)
  frz : ∀ b o u, H b = some (.frz o u) → H' b = some (.frz o u)
theorem sm_new {H : Hp} {p : Addr} {o : HO} (h : H p = none) : Same H (upd H p o) := fun a u e => by
  rw [upd_ne (ne_of_none e h)]
  exact e
theorem sm_kp {M : List Addr} {H H' : Hp} (e : Same H H') : Kp M H H' := ⟨fun b o h _ => e b o h, fun b xs h => e b _ h, fun b o u h => e b _ h⟩
theorem Kp.refl {M : List Addr} (H : Hp) : Kp M H H := sm_kp (Same.refl H)
theorem Kp.trans {M : List Addr} {H H1 H2 : Hp} (a : Kp M H H1) (b : Kp M H1 H2) : Kp M H H2 :=
  ⟨fun c o h n => b.all c o (a.all c o h n) n, fun c xs h => b.tup c xs (a.tup c xs h), fun c o u h => b.frz c o u (a.frz c o u h)⟩
theorem Kp.same {H H' : Hp} (e : Kp [] H H') : Same H H' := fun b o h => e.all b o h (by simp)
theorem Kp.mono {M M' : List Addr} {H H' : Hp} (e : Kp M H H') (s : ∀ b ∈ M, b ∈ M') : Kp M' H H' := ⟨fun b o h n => e.all b o h fun z => n (s b z), e.tup, e.frz⟩
/-- an object of M is written -/
theorem Kp.put {M : List Addr} {H : Hp} {p : Addr} {o u : HO} (h : H p = some u) (hm : p ∈ M) (ht : ∀ xs, u ≠ .tup xs) (hf : ∀ o xs, u ≠ .frz o xs) : Kp M H (upd H p o) where
  all := fun b v e n => by rw [upd_ne fun z => n (by rw [z]; exact hm)]; exact e
  tup := fun b xs e => by
    rw [upd_ne fun z => ?_]
    · exact e
    · rw [z, h] at e
      exact ht xs (Option.some.inj e)
  frz := fun b v xs e => by
    rw [upd_ne fun z => ?_]
    · exact e
    · rw [z, h] at e
      exact hf _ _ (Option.some.inj e)
/-- an object that stood not yet is written -/
theorem sm_put {H H' : Hp} {p : Addr} {o : HO} (e : Same H H') (h : H p = none) : Same H (upd H' p o) := fun a u ha => by
  rw [upd_ne (ne_of_none ha h)]
  exact e a u ha
theorem seqT_kp {K : PySem.W.Frag} {M : List Addr} {H H' : Hp} {a : Addr} {xs : List V} (e : Kp M H H') (h : SqT K H a xs) : SqT K H' a xs := by
  rcases h with (h | ⟨o, h⟩) | h
  · exact .inl (.inl (e.tup _ _ h))
  · exact .inl (.inr ⟨o, e.frz _ _ _ h⟩)
  · exact .inr h
theorem seqT_sm {K : PySem.W.Frag} {H H' : Hp} {a : Addr} {xs : List V} (e : Same H H') (h : SqT K H a xs) : SqT K H' a xs := seqT_kp (M := []) (sm_kp e) h
theorem free_back {H H' : Hp} {p : Addr} (e : Same H H') (h : H' p = none) : H p = none := e.free h
theorem size_ok {n : Nat} (h : n ≤ 1000) : n ≤ sizeLine := Nat.le_of_lt (small1000 h)

/-- what stood before p was there stands behind writes at p -/
theorem sm_of_kp {H H1 H2 : Hp} {p : Addr} (e : Same H H1) (n : H p = none) (k : Kp [p] H1 H2) : Same H H2 := fun b o h => k.all b o (e b o h) (by
  intro hb
  have z : b = p := by simpa using hb
  rw [z, n] at h
  cases h)
/-! ### readings as lemmas -/
section
variable {K : PySem.W.Frag} {σ : L2.St} {H H' : Hp} {ta tb tc te tv : TE} {t u : TT} {x y z v : V} {Q : VK} {D : Ends} {ts tz tw : TS} {i j : Nat} {R : Bool → Hp → Prop}
theorem rd_var (h : σ[i]? = some (some v)) (q : Q v H) : tVar i σ H Q := ⟨v, h, q⟩
theorem rd_c (q : Q v H) : tC v σ H Q := q
theorem rd_op {r : R2} (q : ta σ H fun x H1 => tb σ H1 fun y H2 => r x y H2 Q) : tOp r ta tb σ H Q := q
theorem rd_chain {r r' : R2} (q : ta σ H fun x H1 => tb σ H1 fun y H2 => r x y H2 fun z H3 => ∃ k, z = .bl k ∧ (if k = true then tc σ H3 fun w' H4 => r' y w' H4 Q else Q (.bl false) H3)) : tChain r r' ta tb tc σ H Q := q
theorem rd_test (q : te σ H fun x H' => ∃ k, x = .bl k ∧ R k H') : tTest te σ H R := q
theorem rd_B (q : te σ H fun x H' => ∃ k, x = .bl k ∧ R k H') : tB te σ H R := q
theorem rd_bl {R : Bool → Prop} {k : Bool} (q : R k) : ∃ k', V.bl k = .bl k' ∧ R k' := ⟨k, rfl, q⟩
theorem rd_and (q : t σ H fun c H1 => if c = true then u σ H1 R else R false H1) : tAnd t u σ H R := q
theorem rd_or (q : t σ H fun c H1 => if c = true then R true H1 else u σ H1 R) : tOr t u σ H R := q
theorem rd_not (q : t σ H fun c H1 => R (!c) H1) : tNot t σ H R := q
theorem rd_andV (q : ta σ H fun x H1 => ∃ c, x = .bl c ∧ if c = true then tb σ H1 Q else Q (.bl false) H1) : tAndV ta tb σ H Q := q
theorem rd_orV (q : ta σ H fun x H1 => ∃ c, x = .bl c ∧ if c = true then Q (.bl true) H1 else tb σ H1 Q) : tOrV ta tb σ H Q := q
theorem rd_notV (q : ta σ H fun x H1 => ∃ c, x = .bl c ∧ Q (.bl (!c)) H1) : tNotV ta σ H Q := q
theorem rd_if (q : t σ H fun c H1 => if c = true then ta σ H1 Q else tb σ H1 Q) : tIf t ta tb σ H Q := q
theorem rd_ifS (q : t σ H fun b H1 => if b = true then ts D σ H1 else tw D σ H1) : tIfS t ts tw D σ H := q
theorem rd_nx {nx : L2.St → Hp → Prop} {rt : VK} {bk ct : L2.St → Hp → Prop} (q : nx σ H) : tNext { nx := nx, rt := rt, bk := bk, ct := ct } σ H := q
theorem rd_seq {nx : L2.St → Hp → Prop} {rt : VK} {bk ct : L2.St → Hp → Prop} (q : ts { nx := tz { nx := nx, rt := rt, bk := bk, ct := ct }, rt := rt, bk := bk, ct := ct } σ H) : tSeq ts tz { nx := nx, rt := rt, bk := bk, ct := ct } σ H := q
theorem rd_asg {g : TG} {nx : L2.St → Hp → Prop} {rt : VK} {bk ct : L2.St → Hp → Prop} (q : te σ H fun x H1 => g x σ H1 nx) : tAsg te g { nx := nx, rt := rt, bk := bk, ct := ct } σ H := q
theorem rd_name {R : L2.St → Hp → Prop} (q : R (σ.set i (some v)) H) : gName i v σ H R := q
theorem rd_drop {nx : L2.St → Hp → Prop} {rt : VK} {bk ct : L2.St → Hp → Prop} (q : te σ H fun _ H1 => nx σ H1) : tDrop te { nx := nx, rt := rt, bk := bk, ct := ct } σ H := q
theorem rd_ret {nx : L2.St → Hp → Prop} {rt : VK} {bk ct : L2.St → Hp → Prop} (q : te σ H rt) : tRet te { nx := nx, rt := rt, bk := bk, ct := ct } σ H := q
theorem rd_nil {R : List V → Hp → Prop} (q : R [] H) : tNil σ H R := q
theorem rd_cons {tr : TA} {R : List V → Hp → Prop} (q : ta σ H fun x H1 => tr σ H1 fun xs H2 => R (x :: xs) H2) : tCons ta tr σ H R := q
/-- a new object made of the values xs -/
def NewO (mk : List V → HO) (Q : VK) (xs : List V) (H : Hp) : Prop := xs.length ≤ sizeLine ∧ ∀ p, H p = none → Q (.ref p) (upd H p (mk xs))
theorem rd_tup {t : TA} (q : t σ H fun xs H1 => NewO .tup Q xs H1) : tTup t σ H Q := q
theorem rd_lst {t : TA} (q : t σ H fun xs H1 => NewO .lst Q xs H1) : tLst t σ H Q := q
theorem rd_new {mk : List V → HO} {xs : List V} (hz : xs.length ≤ 1000) (q : ∀ p H2, H p = none → Same H H2 → H2 p = some (mk xs) → Q (.ref p) H2) : NewO mk Q xs H :=
  ⟨size_ok hz, fun p np => q p _ np (sm_new np) upd_same⟩
theorem rd_new1 {o : HO} (q : ∀ p H2, H p = none → Same H H2 → H2 p = some o → Q (.ref p) H2) : ∀ p, H p = none → Q (.ref p) (upd H p o) := fun p np => q p _ np (sm_new np) upd_same
theorem rd_call {sp : Sp} {E : XK} {t : TA} (q : t σ H fun vs H1 => sp (vs ++ []) H1 Q E) : tCall sp [] E t σ H Q := q
theorem rd_cb {r : List V → Hp → VK → Prop} {t : TA} (q : t σ H fun vs H1 => r vs H1 Q) : tCB r t σ H Q := q
theorem rd_dyn {ι : Type} {C : ι → Addr} {m : Str} {sp : ι → Sp} {E : XK} (q : ta σ H fun x H1 => ∃ i a dx fs, x = .ref a ∧ H1 a = some (.ins (C i) dx fs) ∧ fs.lookup m = none ∧ sp i [x] H1 Q E) : tDyn C m sp E ta σ H Q := q
theorem rd_meth {C : Addr} {m : Str} {sp : Sp} {E : XK} {t : TA} (q : ta σ H fun x H1 => ∃ a dx fs, x = .ref a ∧ H1 a = some (.ins C dx fs) ∧ fs.lookup m = none ∧ t σ H1 fun vs H2 => sp (x :: (vs ++ [])) H2 Q E) : tMeth C m sp [] E ta t σ H Q := q
/-- C(e, ..): from __init__'s promise -/
theorem rd_make {C : Addr} {sp : Sp} {E : XK} {t : TA} (q : t σ H fun vs H1 => ∀ x dx, H1 x = none → H1 dx = none → dx ≠ x → sp (.ref x :: (vs ++ [])) (upd (upd H1 dx (.own x)) x (.ins C dx [])) (fun v H2 => v = .non ∧ Q (.ref x) H2) E) : tMake C sp [] E t σ H Q := q
theorem rd_fldE {f : Str} {nx : L2.St → Hp → Prop} {rt : VK} {bk ct : L2.St → Hp → Prop} (q : tv σ H fun y H1 => ta σ H1 fun x H2 => ∃ a C dx fs, x = .ref a ∧ H2 a = some (.ins C dx fs) ∧ Cls K C ∧ NoAttr K C f ∧ fs.length < 1000 ∧ nx σ (upd H2 a (.ins C dx (putF f y fs)))) :
    sFld K ta tv f { nx := nx, rt := rt, bk := bk, ct := ct } σ H := q
theorem rd_fld {f : Str} (q : ta σ H fun x H1 => ∃ a C dx fs v, x = .ref a ∧ H1 a = some (.ins C dx fs) ∧ Cls K C ∧ NoAttr K C f ∧ fs.lookup f = some v ∧ Q v H1) : tFld K ta f σ H Q := q
/-! values -/
theorem rd_plus_i {i j : Int} (q : Q (.int (i + j)) H) : rPlus K (.int i) (.int j) H Q := .inl ⟨i, j, rfl, rfl, q⟩
theorem rd_plus_s {i j : Str} (h : i.length + j.length ≤ 1000) (q : Q (.str (i ++ j)) H) : rPlus K (.str i) (.str j) H Q := .inr (.inl ⟨i, j, rfl, rfl, size_ok h, q⟩)
theorem rd_plus_l {a b : Addr} {xs ys : List V} (h1 : H a = some (.lst xs)) (h2 : H b = some (.lst ys)) (hz : xs.length + ys.length ≤ 1000) (q : ∀ p H2, H p = none → Same H H2 → H2 p = some (.lst (xs ++ ys)) → Q (.ref p) H2) : rPlus K (.ref a) (.ref b) H Q :=
  .inr (.inr (.inl ⟨a, b, xs, ys, rfl, rfl, h1, h2, size_ok hz, rd_new1 q⟩))
theorem rd_plus_t {a b : Addr} {xs ys : List V} (h1 : SqT K H a xs) (h2 : SqT K H b ys) (hz : xs.length + ys.length ≤ 1000) (q : ∀ p H2, Same H H2 → SqT K H2 p (xs ++ ys) → Q (.ref p) H2) : rPlus K (.ref a) (.ref b) H Q := by
  refine .inr (.inr (.inr ⟨a, b, xs, ys, rfl, rfl, h1, h2, size_ok hz, fun e => ?_, fun _ e => ?_, fun _ _ p np => ?_⟩))
  · subst e
    exact q b H (Same.refl H) h2
  · subst e
    exact q a H (Same.refl H) (by rw [List.append_nil]; exact h1)
  · exact q p _ (sm_new np) (.inl (.inl upd_same))
theorem rd_sl_t {a : Addr} {xs : List V} {lo hi : Option Int} (h : SqT K H a xs) (q : ∀ p H2, Same H H2 → SqT K H2 p (cutV xs lo hi) → Q (.ref p) H2) : rSlB K (.ref a) lo hi H Q := by
  refine .inr (.inl ⟨a, xs, rfl, h, fun e => ?_, fun _ p np => ?_⟩)
  · refine q a H (Same.refl H) ?_
    have z : cutV xs lo hi = xs := by
      unfold cutV
      rw [e.1, e.2, List.drop_zero, Nat.sub_zero, List.take_length]
    rw [z]
    exact h
  · exact q p _ (sm_new np) (.inl (.inl upd_same))
theorem rd_sl_l {a : Addr} {xs : List V} {lo hi : Option Int} (h : SqL K H a xs) (q : ∀ p H2, H p = none → Same H H2 → H2 p = some (.lst (cutV xs lo hi)) → Q (.ref p) H2) : rSlB K (.ref a) lo hi H Q := .inl ⟨a, xs, rfl, h, rd_new1 q⟩
theorem rd_sl_s {z : Str} {lo hi : Option Int} (h : z.length ≤ 1000) (q : Q (.str (cutS z lo hi)) H) : rSlB K (.str z) lo hi H Q := .inr (.inr ⟨z, rfl, size_ok h, q⟩)
theorem rd_sl {r : V → Option Int → Option Int → Hp → VK → Prop} {tl th : TO} (q : te σ H fun x H1 => tl σ H1 fun l H2 => th σ H2 fun u H3 => r x l u H3 Q) : tSl r te tl th σ H Q := q
theorem rd_noPart {R : Option Int → Hp → Prop} (q : R none H) : tNoPart σ H R := q
theorem rd_part {R : Option Int → Hp → Prop} (q : te σ H fun x H1 => ∃ i, x = .int i ∧ R (some i) H1) : tPart te σ H R := q
theorem rd_int {R : Int → Prop} {i : Int} (q : R i) : ∃ j, V.int i = .int j ∧ R j := ⟨i, rfl, q⟩
theorem rd_I0 {g : Int → Int → V} {i j : Int} (q : Q (g i j) H) : rI0 g (.int i) (.int j) H Q := ⟨i, j, rfl, rfl, q⟩
theorem rd_I {C : Int → Int → Prop} {g : Int → Int → V} {i j : Int} (c : C i j) (q : Q (g i j) H) : rI C g (.int i) (.int j) H Q := ⟨i, j, rfl, rfl, c, q⟩
theorem rd_times_i {i j : Int} (c : CMul i j) (q : Q (.int (i * j)) H) : rTimes (.int i) (.int j) H Q := .inl ⟨i, j, rfl, rfl, c, q⟩
theorem rd_eq_s (h : scal x y = true) (q : Q (.bl (decide (x = y))) H) : rEql K x y H Q := .inl ⟨h, q⟩
theorem rd_ne_s (h : scal x y = true) (q : Q (.bl (!decide (x = y))) H) : rNeq K x y H Q := .inl ⟨h, q⟩
theorem rd_eq_d {d e : PyData} (h1 : Dp K H x d) (h2 : Dp K H y e) (s1 : SeqAt.shaped d = true) (s2 : SeqAt.shaped e = true) (q : Q (.bl (PyData.eqv d e)) H) : rEql K x y H Q := .inr ⟨d, e, h1, h2, s1, s2, q⟩
theorem rd_ne_d {d e : PyData} (h1 : Dp K H x d) (h2 : Dp K H y e) (s1 : SeqAt.shaped d = true) (s2 : SeqAt.shaped e = true) (q : Q (.bl (!PyData.eqv d e)) H) : rNeq K x y H Q := .inr ⟨d, e, h1, h2, s1, s2, q⟩
theorem rd_in_t {a : Addr} {xs : List V} (h : SqT K H a xs) (h1 : flatV x = true) (h2 : xs.all flatV = true) (q : Q (.bl (inV x xs)) H) : rInB K x (.ref a) H Q := .inl ⟨a, xs, rfl, .inr h, h1, h2, q⟩
theorem rd_in_l {a : Addr} {xs : List V} (h : SqL K H a xs) (h1 : flatV x = true) (h2 : xs.all flatV = true) (q : Q (.bl (inV x xs)) H) : rInB K x (.ref a) H Q := .inl ⟨a, xs, rfl, .inl h, h1, h2, q⟩
theorem rd_in_s {c : Nat} {z : Str} (q : Q (.bl (decide (c ∈ z.cps.toList))) H) : rInB K (.str ⟨#[c]⟩) (.str z) H Q := .inr ⟨c, z, rfl, rfl, q⟩
theorem rd_nin_t {a : Addr} {xs : List V} (h : SqT K H a xs) (h1 : flatV x = true) (h2 : xs.all flatV = true) (q : Q (.bl (!inV x xs)) H) : rNinB K x (.ref a) H Q := .inl ⟨a, xs, rfl, .inr h, h1, h2, q⟩
theorem rd_nin_l {a : Addr} {xs : List V} (h : SqL K H a xs) (h1 : flatV x = true) (h2 : xs.all flatV = true) (q : Q (.bl (!inV x xs)) H) : rNinB K x (.ref a) H Q := .inl ⟨a, xs, rfl, .inl h, h1, h2, q⟩
theorem rd_ix_l {a : Addr} {xs : List V} {i : Int} (h : SqL K H a xs) (e : atI xs i = some v) (q : Q v H) : rIx K (.ref a) (.int i) H Q := .inl ⟨a, xs, i, v, rfl, rfl, h, e, q⟩
theorem rd_ix_t {a : Addr} {xs : List V} {i : Int} (h : SqT K H a xs) (e : atI xs i = some v) (q : Q v H) : rIx K (.ref a) (.int i) H Q := .inr (.inl ⟨a, xs, i, v, rfl, rfl, h, e, q⟩)
theorem rd_ix_s {z : Str} {c : Nat} {i : Int} (h : z.length ≤ 1000) (e : atI z.cps.toList i = some c) (q : Q (.str ⟨#[c]⟩) H) : rIx K (.str z) (.int i) H Q := .inr (.inr ⟨z, i, c, rfl, rfl, size_ok h, e, q⟩)
theorem rd_len_l {a : Addr} {xs : List V} (h : SqL K H a xs) (q : Q (.int xs.length) H) : rLenB K [.ref a] H Q := .inl ⟨a, xs, rfl, .inl h, q⟩
theorem rd_len_t {a : Addr} {xs : List V} (h : SqT K H a xs) (q : Q (.int xs.length) H) : rLenB K [.ref a] H Q := .inl ⟨a, xs, rfl, .inr h, q⟩
theorem rd_len_s {z : Str} (h : z.length ≤ 1000) (q : Q (.int z.length) H) : rLenB K [.str z] H Q := .inr ⟨z, rfl, size_ok h, q⟩
theorem rd_isi {c : V} {tt uu : Value} {b : Bool} (hc : ClsV c uu) (ty : TyX K H x tt) (e : PySem.W.kitOne K tt uu = some b) (q : Q (.bl b) H) : rIsiB K [x, c] H Q := .inl ⟨x, c, tt, uu, b, rfl, hc, ty, e, q⟩
theorem rd_isiT {tp : Addr} {cs : List V} {tt : Value} {us : List Value} {b : Bool} (hp : H tp = some (.tup cs)) (hc : Paired ClsV cs us) (ty : TyX K H x tt) (e : PySem.W.kitAny K tt us = some b) (q : Q (.bl b) H) : rIsiB K [x, .ref tp] H Q := .inr ⟨x, tp, cs, tt, us, b, rfl, hp, hc, ty, e, q⟩
theorem rd_eq_i {i j : Int} (q : Q (.bl (decide (i = j))) H) : rEql K (.int i) (.int j) H Q := by
  refine .inl ⟨rfl, ?_⟩
  have e : decide (V.int i = V.int j) = decide (i = j) := by simp
  rw [e]
  exact q
theorem rd_eq_str {i j : Str} (q : Q (.bl (decide (i = j))) H) : rEql K (.str i) (.str j) H Q := by
  refine .inl ⟨rfl, ?_⟩
  have e : decide (V.str i = V.str j) = decide (i = j) := by simp
  rw [e]
  exact q
theorem rd_ne_i {i j : Int} (q : Q (.bl (!decide (i = j))) H) : rNeq K (.int i) (.int j) H Q := by
  refine .inl ⟨rfl, ?_⟩
  have e : decide (V.int i = V.int j) = decide (i = j) := by simp
  rw [e]
  exact q
theorem rd_ne_str {i j : Str} (q : Q (.bl (!decide (i = j))) H) : rNeq K (.str i) (.str j) H Q := by
  refine .inl ⟨rfl, ?_⟩
  have e : decide (V.str i = V.str j) = decide (i = j) := by simp
  rw [e]
  exact q
theorem rd_decT {p A B : Prop} [Decidable p] (e : p) (h : A) : if decide p = true then A else B := by rw [decide_eq_true e]; exact iteT h
theorem rd_decF {p A B : Prop} [Decidable p] (e : ¬ p) (h : B) : if decide p = true then A else B := by rw [decide_eq_false e]; exact iteF h
theorem rd_ndecT {p A B : Prop} [Decidable p] (e : ¬ p) (h : A) : if (!decide p) = true then A else B := by rw [decide_eq_false e]; exact iteT h
theorem rd_ndecF {p A B : Prop} [Decidable p] (e : p) (h : B) : if (!decide p) = true then A else B := by rw [decide_eq_true e]; exact iteF h
theorem rd_nT {A B : Prop} (h : A) : if (!false) = true then A else B := iteT h
theorem rd_nF {A B : Prop} (h : B) : if (!true) = true then A else B := iteF h
theorem rd_both {c : Bool} {A B : Prop} (h1 : c = true → A) (h2 : c = false → B) : if c = true then A else B := by
  cases c with
  | true => exact iteT (h1 rfl)
  | false => exact iteF (h2 rfl)
theorem rd_aug {ti : TIp} {nx : L2.St → Hp → Prop} {rt : VK} {bk ct : L2.St → Hp → Prop} (h : σ[i]? = some (some x)) (q : te σ H fun y H1 => ti x y H1 fun z H2 => nx (σ.set i (some z)) H2) : tAug i te ti { nx := nx, rt := rt, bk := bk, ct := ct } σ H := ⟨x, h, q⟩
theorem rd_iadd_i {i j : Int} (q : Q (.int (i + j)) H) : rIadd (.int i) (.int j) H Q := .inl ⟨i, j, rfl, rfl, q⟩
theorem rd_iadd_l {a b : Addr} {xs ys : List V} (h1 : H a = some (.lst xs)) (h2 : H b = some (.lst ys)) (hz : xs.length + ys.length ≤ 1000) (q : Q (.ref a) (upd H a (.lst (xs ++ ys)))) : rIadd (.ref a) (.ref b) H Q := .inr ⟨a, b, xs, ys, rfl, rfl, h1, h2, size_ok hz, q⟩
theorem rd_T {A B : Prop} (h : A) : if true = true then A else B := iteT h
theorem rd_F {A B : Prop} (h : B) : if false = true then A else B := iteF h
theorem rd_true {A B : Prop} {c : Bool} (e : c = true) (h : A) : if c = true then A else B := by rw [e]; exact iteT h
theorem rd_false {A B : Prop} {c : Bool} (e : c = false) (h : B) : if c = true then A else B := by rw [e]; exact iteF h
end
abbrev N_NoWay_init : List Str := ["self", "place", "reason"]
theorem sc_NoWay_init : FnScope N_NoWay_init ["self", "place", "reason"] (defScope s_NoWay_init) := ⟨rfl, rfl, rfl, by decide +kernel, rfl, by decide +kernel, by decide +kernel⟩
abbrev N_is_whole19 : List Str := ["thing"]
theorem sc_is_whole19 : FnScope N_is_whole19 ["thing"] (defScope s_is_whole19) := ⟨rfl, rfl, rfl, by decide +kernel, rfl, by decide +kernel, by decide +kernel⟩
abbrev N_is_word : List Str := ["thing"]
theorem sc_is_word : FnScope N_is_word ["thing"] (defScope s_is_word) := ⟨rfl, rfl, rfl, by decide +kernel, rfl, by decide +kernel, by decide +kernel⟩
abbrev N_is_name : List Str := ["thing", "sign"]
theorem sc_is_name : FnScope N_is_name ["thing"] (defScope s_is_name) := ⟨rfl, rfl, rfl, by decide +kernel, rfl, by decide +kernel, by decide +kernel⟩
abbrev N_once : List Str := ["names", "name"]
theorem sc_once : FnScope N_once ["names"] (defScope s_once) := ⟨rfl, rfl, rfl, by decide +kernel, rfl, by decide +kernel, by decide +kernel⟩
abbrev N_Saying_inner : List Str := ["self"]
theorem sc_Saying_inner : FnScope N_Saying_inner ["self"] (defScope s_Saying_inner) := ⟨rfl, rfl, rfl, by decide +kernel, rfl, by decide +kernel, by decide +kernel⟩
abbrev N_Saying_size : List Str := ["self", "one"]
theorem sc_Saying_size : FnScope N_Saying_size ["self"] (defScope s_Saying_size) := ⟨rfl, rfl, rfl, by decide +kernel, rfl, by decide +kernel, by decide +kernel⟩
abbrev N_Saying_depth : List Str := ["self", "one"]
theorem sc_Saying_depth : FnScope N_Saying_depth ["self"] (defScope s_Saying_depth) := ⟨rfl, rfl, rfl, by decide +kernel, rfl, by decide +kernel, by decide +kernel⟩
abbrev N_Saying_need_small : List Str := ["self", "one"]
theorem sc_Saying_need_small : FnScope N_Saying_need_small ["self"] (defScope s_Saying_need_small) := ⟨rfl, rfl, rfl, by decide +kernel, rfl, by decide +kernel, by decide +kernel⟩
abbrev N_Saying_all_boxes : List Str := ["self", "found", "one"]
theorem sc_Saying_all_boxes : FnScope N_Saying_all_boxes ["self"] (defScope s_Saying_all_boxes) := ⟨rfl, rfl, rfl, by decide +kernel, rfl, by decide +kernel, by decide +kernel⟩
abbrev N_Saying_all_stacks : List Str := ["self", "found", "one"]
theorem sc_Saying_all_stacks : FnScope N_Saying_all_stacks ["self"] (defScope s_Saying_all_stacks) := ⟨rfl, rfl, rfl, by decide +kernel, rfl, by decide +kernel, by decide +kernel⟩
abbrev N_Saying_box_names : List Str := ["self"]
theorem sc_Saying_box_names : FnScope N_Saying_box_names ["self"] (defScope s_Saying_box_names) := ⟨rfl, rfl, rfl, by decide +kernel, rfl, by decide +kernel, by decide +kernel⟩
abbrev N_Saying_stack_names : List Str := ["self"]
theorem sc_Saying_stack_names : FnScope N_Saying_stack_names ["self"] (defScope s_Saying_stack_names) := ⟨rfl, rfl, rfl, by decide +kernel, rfl, by decide +kernel, by decide +kernel⟩
abbrev N_Number_init : List Str := ["self", "word"]
theorem sc_Number_init : FnScope N_Number_init ["self", "word"] (defScope s_Number_init) := ⟨rfl, rfl, rfl, by decide +kernel, rfl, by decide +kernel, by decide +kernel⟩
abbrev N_Number_told : List Str := ["self"]
theorem sc_Number_told : FnScope N_Number_told ["self"] (defScope s_Number_told) := ⟨rfl, rfl, rfl, by decide +kernel, rfl, by decide +kernel, by decide +kernel⟩
abbrev N_Box_init : List Str := ["self", "name"]
theorem sc_Box_init : FnScope N_Box_init ["self", "name"] (defScope s_Box_init) := ⟨rfl, rfl, rfl, by decide +kernel, rfl, by decide +kernel, by decide +kernel⟩
abbrev N_Box_all_boxes : List Str := ["self"]
theorem sc_Box_all_boxes : FnScope N_Box_all_boxes ["self"] (defScope s_Box_all_boxes) := ⟨rfl, rfl, rfl, by decide +kernel, rfl, by decide +kernel, by decide +kernel⟩
abbrev N_Box_told : List Str := ["self"]
theorem sc_Box_told : FnScope N_Box_told ["self"] (defScope s_Box_told) := ⟨rfl, rfl, rfl, by decide +kernel, rfl, by decide +kernel, by decide +kernel⟩
abbrev N_OfStack_init : List Str := ["self", "stack"]
theorem sc_OfStack_init : FnScope N_OfStack_init ["self", "stack"] (defScope s_OfStack_init) := ⟨rfl, rfl, rfl, by decide +kernel, rfl, by decide +kernel, by decide +kernel⟩
abbrev N_OfStack_all_stacks : List Str := ["self"]
theorem sc_OfStack_all_stacks : FnScope N_OfStack_all_stacks ["self"] (defScope s_OfStack_all_stacks) := ⟨rfl, rfl, rfl, by decide +kernel, rfl, by decide +kernel, by decide +kernel⟩
abbrev N_OfStack_told : List Str := ["self"]
theorem sc_OfStack_told : FnScope N_OfStack_told ["self"] (defScope s_OfStack_told) := ⟨rfl, rfl, rfl, by decide +kernel, rfl, by decide +kernel, by decide +kernel⟩
abbrev N_Many_word_told : List Str := ["self"]
theorem sc_Many_word_told : FnScope N_Many_word_told ["self"] (defScope s_Many_word_told) := ⟨rfl, rfl, rfl, by decide +kernel, rfl, by decide +kernel, by decide +kernel⟩
abbrev N_Top_word_told : List Str := ["self"]
theorem sc_Top_word_told : FnScope N_Top_word_told ["self"] (defScope s_Top_word_told) := ⟨rfl, rfl, rfl, by decide +kernel, rfl, by decide +kernel, by decide +kernel⟩
abbrev N_Not_init : List Str := ["self", "one"]
theorem sc_Not_init : FnScope N_Not_init ["self", "one"] (defScope s_Not_init) := ⟨rfl, rfl, rfl, by decide +kernel, rfl, by decide +kernel, by decide +kernel⟩
abbrev N_Not_inner : List Str := ["self"]
theorem sc_Not_inner : FnScope N_Not_inner ["self"] (defScope s_Not_inner) := ⟨rfl, rfl, rfl, by decide +kernel, rfl, by decide +kernel, by decide +kernel⟩
abbrev N_Not_told : List Str := ["self"]
theorem sc_Not_told : FnScope N_Not_told ["self"] (defScope s_Not_told) := ⟨rfl, rfl, rfl, by decide +kernel, rfl, by decide +kernel, by decide +kernel⟩
abbrev N_Pair_init : List Str := ["self", "sign", "one", "other"]
theorem sc_Pair_init : FnScope N_Pair_init ["self", "sign", "one", "other"] (defScope s_Pair_init) := ⟨rfl, rfl, rfl, by decide +kernel, rfl, by decide +kernel, by decide +kernel⟩
abbrev N_Pair_inner : List Str := ["self"]
theorem sc_Pair_inner : FnScope N_Pair_inner ["self"] (defScope s_Pair_inner) := ⟨rfl, rfl, rfl, by decide +kernel, rfl, by decide +kernel, by decide +kernel⟩
abbrev N_Pair_told : List Str := ["self"]
theorem sc_Pair_told : FnScope N_Pair_told ["self"] (defScope s_Pair_told) := ⟨rfl, rfl, rfl, by decide +kernel, rfl, by decide +kernel, by decide +kernel⟩
abbrev N_saying_within : List Str := ["told", "deep"]
theorem sc_saying_within : FnScope N_saying_within ["told", "deep"] (defScope s_saying_within) := ⟨rfl, rfl, rfl, by decide +kernel, rfl, by decide +kernel, by decide +kernel⟩
abbrev N_saying_of : List Str := ["told"]
theorem sc_saying_of : FnScope N_saying_of ["told"] (defScope s_saying_of) := ⟨rfl, rfl, rfl, by decide +kernel, rfl, by decide +kernel, by decide +kernel⟩
abbrev N_is_whole43 : List Str := ["thing"]
theorem sc_is_whole43 : FnScope N_is_whole43 ["thing"] (defScope s_is_whole43) := ⟨rfl, rfl, rfl, by decide +kernel, rfl, by decide +kernel, by decide +kernel⟩
abbrev N_need_names : List Str := ["names", "name"]
theorem sc_need_names : FnScope N_need_names ["names"] (defScope s_need_names) := ⟨rfl, rfl, rfl, by decide +kernel, rfl, by decide +kernel, by decide +kernel⟩
abbrev N_need_sayings : List Str := ["sayings", "saying"]
theorem sc_need_sayings : FnScope N_need_sayings ["sayings"] (defScope s_need_sayings) := ⟨rfl, rfl, rfl, by decide +kernel, rfl, by decide +kernel, by decide +kernel⟩
abbrev N_need_rows : List Str := ["rows", "row"]
theorem sc_need_rows : FnScope N_need_rows ["rows"] (defScope s_need_rows) := ⟨rfl, rfl, rfl, by decide +kernel, rfl, by decide +kernel, by decide +kernel⟩
abbrev N_mirrors : List Str := ["rows", "row"]
theorem sc_mirrors : FnScope N_mirrors ["rows"] (defScope s_mirrors) := ⟨rfl, rfl, rfl, by decide +kernel, rfl, by decide +kernel, by decide +kernel⟩
abbrev N_told_rows : List Str := ["rows", "row"]
theorem sc_told_rows : FnScope N_told_rows ["rows"] (defScope s_told_rows) := ⟨rfl, rfl, rfl, by decide +kernel, rfl, by decide +kernel, by decide +kernel⟩
abbrev N_Row_inner : List Str := ["self"]
theorem sc_Row_inner : FnScope N_Row_inner ["self"] (defScope s_Row_inner) := ⟨rfl, rfl, rfl, by decide +kernel, rfl, by decide +kernel, by decide +kernel⟩
abbrev N_Row_sayings : List Str := ["self"]
theorem sc_Row_sayings : FnScope N_Row_sayings ["self"] (defScope s_Row_sayings) := ⟨rfl, rfl, rfl, by decide +kernel, rfl, by decide +kernel, by decide +kernel⟩
abbrev N_Row_mirror : List Str := ["self"]
theorem sc_Row_mirror : FnScope N_Row_mirror ["self"] (defScope s_Row_mirror) := ⟨rfl, rfl, rfl, by decide +kernel, rfl, by decide +kernel, by decide +kernel⟩
abbrev N_Change_init : List Str := ["self", "box", "saying"]
theorem sc_Change_init : FnScope N_Change_init ["self", "box", "saying"] (defScope s_Change_init) := ⟨rfl, rfl, rfl, by decide +kernel, rfl, by decide +kernel, by decide +kernel⟩
abbrev N_Change_sayings : List Str := ["self"]
theorem sc_Change_sayings : FnScope N_Change_sayings ["self"] (defScope s_Change_sayings) := ⟨rfl, rfl, rfl, by decide +kernel, rfl, by decide +kernel, by decide +kernel⟩
abbrev N_Change_told : List Str := ["self"]
theorem sc_Change_told : FnScope N_Change_told ["self"] (defScope s_Change_told) := ⟨rfl, rfl, rfl, by decide +kernel, rfl, by decide +kernel, by decide +kernel⟩
abbrev N_Add_word_told : List Str := ["self"]
theorem sc_Add_word_told : FnScope N_Add_word_told ["self"] (defScope s_Add_word_told) := ⟨rfl, rfl, rfl, by decide +kernel, rfl, by decide +kernel, by decide +kernel⟩
abbrev N_Add_mirror : List Str := ["self"]
theorem sc_Add_mirror : FnScope N_Add_mirror ["self"] (defScope s_Add_mirror) := ⟨rfl, rfl, rfl, by decide +kernel, rfl, by decide +kernel, by decide +kernel⟩
abbrev N_Less_word_told : List Str := ["self"]
theorem sc_Less_word_told : FnScope N_Less_word_told ["self"] (defScope s_Less_word_told) := ⟨rfl, rfl, rfl, by decide +kernel, rfl, by decide +kernel, by decide +kernel⟩
abbrev N_Less_mirror : List Str := ["self"]
theorem sc_Less_mirror : FnScope N_Less_mirror ["self"] (defScope s_Less_mirror) := ⟨rfl, rfl, rfl, by decide +kernel, rfl, by decide +kernel, by decide +kernel⟩
abbrev N_Mix_word_told : List Str := ["self"]
theorem sc_Mix_word_told : FnScope N_Mix_word_told ["self"] (defScope s_Mix_word_told) := ⟨rfl, rfl, rfl, by decide +kernel, rfl, by decide +kernel, by decide +kernel⟩
abbrev N_Swap_init : List Str := ["self", "one", "other"]
theorem sc_Swap_init : FnScope N_Swap_init ["self", "one", "other"] (defScope s_Swap_init) := ⟨rfl, rfl, rfl, by decide +kernel, rfl, by decide +kernel, by decide +kernel⟩
abbrev N_Swap_told : List Str := ["self"]
theorem sc_Swap_told : FnScope N_Swap_told ["self"] (defScope s_Swap_told) := ⟨rfl, rfl, rfl, by decide +kernel, rfl, by decide +kernel, by decide +kernel⟩
abbrev N_Turn_init : List Str := ["self", "box", "by"]
theorem sc_Turn_init : FnScope N_Turn_init ["self", "box", "by"] (defScope s_Turn_init) := ⟨rfl, rfl, rfl, by decide +kernel, rfl, by decide +kernel, by decide +kernel⟩
abbrev N_Turn_mirror : List Str := ["self"]
theorem sc_Turn_mirror : FnScope N_Turn_mirror ["self"] (defScope s_Turn_mirror) := ⟨rfl, rfl, rfl, by decide +kernel, rfl, by decide +kernel, by decide +kernel⟩
abbrev N_Turn_told : List Str := ["self"]
theorem sc_Turn_told : FnScope N_Turn_told ["self"] (defScope s_Turn_told) := ⟨rfl, rfl, rfl, by decide +kernel, rfl, by decide +kernel, by decide +kernel⟩
abbrev N_Moved_init : List Str := ["self", "box", "stack"]
theorem sc_Moved_init : FnScope N_Moved_init ["self", "box", "stack"] (defScope s_Moved_init) := ⟨rfl, rfl, rfl, by decide +kernel, rfl, by decide +kernel, by decide +kernel⟩
abbrev N_Moved_told : List Str := ["self"]
theorem sc_Moved_told : FnScope N_Moved_told ["self"] (defScope s_Moved_told) := ⟨rfl, rfl, rfl, by decide +kernel, rfl, by decide +kernel, by decide +kernel⟩
abbrev N_Push_word_told : List Str := ["self"]
theorem sc_Push_word_told : FnScope N_Push_word_told ["self"] (defScope s_Push_word_told) := ⟨rfl, rfl, rfl, by decide +kernel, rfl, by decide +kernel, by decide +kernel⟩
abbrev N_Push_mirror : List Str := ["self"]
theorem sc_Push_mirror : FnScope N_Push_mirror ["self"] (defScope s_Push_mirror) := ⟨rfl, rfl, rfl, by decide +kernel, rfl, by decide +kernel, by decide +kernel⟩
abbrev N_Pop_word_told : List Str := ["self"]
theorem sc_Pop_word_told : FnScope N_Pop_word_told ["self"] (defScope s_Pop_word_told) := ⟨rfl, rfl, rfl, by decide +kernel, rfl, by decide +kernel, by decide +kernel⟩
abbrev N_Pop_mirror : List Str := ["self"]
theorem sc_Pop_mirror : FnScope N_Pop_mirror ["self"] (defScope s_Pop_mirror) := ⟨rfl, rfl, rfl, by decide +kernel, rfl, by decide +kernel, by decide +kernel⟩
abbrev N_Named_init : List Str := ["self", "name"]
theorem sc_Named_init : FnScope N_Named_init ["self", "name"] (defScope s_Named_init) := ⟨rfl, rfl, rfl, by decide +kernel, rfl, by decide +kernel, by decide +kernel⟩
abbrev N_Named_told : List Str := ["self"]
theorem sc_Named_told : FnScope N_Named_told ["self"] (defScope s_Named_told) := ⟨rfl, rfl, rfl, by decide +kernel, rfl, by decide +kernel, by decide +kernel⟩
abbrev N_Call_word_told : List Str := ["self"]
theorem sc_Call_word_told : FnScope N_Call_word_told ["self"] (defScope s_Call_word_told) := ⟨rfl, rfl, rfl, by decide +kernel, rfl, by decide +kernel, by decide +kernel⟩
abbrev N_Back_word_told : List Str := ["self"]
theorem sc_Back_word_told : FnScope N_Back_word_told ["self"] (defScope s_Back_word_told) := ⟨rfl, rfl, rfl, by decide +kernel, rfl, by decide +kernel, by decide +kernel⟩
abbrev N_Choice_init : List Str := ["self", "test", "yes", "no", "after"]
theorem sc_Choice_init : FnScope N_Choice_init ["self", "test", "yes", "no", "after"] (defScope s_Choice_init) := ⟨rfl, rfl, rfl, by decide +kernel, rfl, by decide +kernel, by decide +kernel⟩
abbrev N_Choice_inner : List Str := ["self"]
theorem sc_Choice_inner : FnScope N_Choice_inner ["self"] (defScope s_Choice_inner) := ⟨rfl, rfl, rfl, by decide +kernel, rfl, by decide +kernel, by decide +kernel⟩
abbrev N_Choice_sayings : List Str := ["self"]
theorem sc_Choice_sayings : FnScope N_Choice_sayings ["self"] (defScope s_Choice_sayings) := ⟨rfl, rfl, rfl, by decide +kernel, rfl, by decide +kernel, by decide +kernel⟩
abbrev N_Choice_mirror : List Str := ["self"]
theorem sc_Choice_mirror : FnScope N_Choice_mirror ["self"] (defScope s_Choice_mirror) := ⟨rfl, rfl, rfl, by decide +kernel, rfl, by decide +kernel, by decide +kernel⟩
abbrev N_Choice_told : List Str := ["self"]
theorem sc_Choice_told : FnScope N_Choice_told ["self"] (defScope s_Choice_told) := ⟨rfl, rfl, rfl, by decide +kernel, rfl, by decide +kernel, by decide +kernel⟩
abbrev N_Loop_init : List Str := ["self", "before", "first", "again", "test"]
theorem sc_Loop_init : FnScope N_Loop_init ["self", "before", "first", "again", "test"] (defScope s_Loop_init) := ⟨rfl, rfl, rfl, by decide +kernel, rfl, by decide +kernel, by decide +kernel⟩
abbrev N_Loop_inner : List Str := ["self"]
theorem sc_Loop_inner : FnScope N_Loop_inner ["self"] (defScope s_Loop_inner) := ⟨rfl, rfl, rfl, by decide +kernel, rfl, by decide +kernel, by decide +kernel⟩
abbrev N_Loop_sayings : List Str := ["self"]
theorem sc_Loop_sayings : FnScope N_Loop_sayings ["self"] (defScope s_Loop_sayings) := ⟨rfl, rfl, rfl, by decide +kernel, rfl, by decide +kernel, by decide +kernel⟩
abbrev N_Loop_mirror : List Str := ["self"]
theorem sc_Loop_mirror : FnScope N_Loop_mirror ["self"] (defScope s_Loop_mirror) := ⟨rfl, rfl, rfl, by decide +kernel, rfl, by decide +kernel, by decide +kernel⟩
abbrev N_Loop_told : List Str := ["self"]
theorem sc_Loop_told : FnScope N_Loop_told ["self"] (defScope s_Loop_told) := ⟨rfl, rfl, rfl, by decide +kernel, rfl, by decide +kernel, by decide +kernel⟩
abbrev N_Held_init : List Str := ["self", "box", "begin", "rows", "end"]
theorem sc_Held_init : FnScope N_Held_init ["self", "box", "begin", "rows", "end"] (defScope s_Held_init) := ⟨rfl, rfl, rfl, by decide +kernel, rfl, by decide +kernel, by decide +kernel⟩
abbrev N_Held_inner : List Str := ["self"]
theorem sc_Held_inner : FnScope N_Held_inner ["self"] (defScope s_Held_inner) := ⟨rfl, rfl, rfl, by decide +kernel, rfl, by decide +kernel, by decide +kernel⟩
abbrev N_Held_sayings : List Str := ["self"]
theorem sc_Held_sayings : FnScope N_Held_sayings ["self"] (defScope s_Held_sayings) := ⟨rfl, rfl, rfl, by decide +kernel, rfl, by decide +kernel, by decide +kernel⟩
abbrev N_Held_mirror : List Str := ["self"]
theorem sc_Held_mirror : FnScope N_Held_mirror ["self"] (defScope s_Held_mirror) := ⟨rfl, rfl, rfl, by decide +kernel, rfl, by decide +kernel, by decide +kernel⟩
abbrev N_Held_told : List Str := ["self"]
theorem sc_Held_told : FnScope N_Held_told ["self"] (defScope s_Held_told) := ⟨rfl, rfl, rfl, by decide +kernel, rfl, by decide +kernel, by decide +kernel⟩
abbrev N_said : List Str := ["told", "found"]
theorem sc_said : FnScope N_said ["told"] (defScope s_said) := ⟨rfl, rfl, rfl, by decide +kernel, rfl, by decide +kernel, by decide +kernel⟩
abbrev N_rows_within : List Str := ["told", "deep", "one"]
theorem sc_rows_within : FnScope N_rows_within ["told", "deep"] (defScope s_rows_within) := ⟨rfl, rfl, rfl, by decide +kernel, rfl, by decide +kernel, by decide +kernel⟩
abbrev N_change_of : List Str := ["told"]
theorem sc_change_of : FnScope N_change_of ["told"] (defScope s_change_of) := ⟨rfl, rfl, rfl, by decide +kernel, rfl, by decide +kernel, by decide +kernel⟩
abbrev N_row_within : List Str := ["told", "deep", "yes", "first"]
theorem sc_row_within : FnScope N_row_within ["told", "deep"] (defScope s_row_within) := ⟨rfl, rfl, rfl, by decide +kernel, rfl, by decide +kernel, by decide +kernel⟩
abbrev N_row_of : List Str := ["told"]
theorem sc_row_of : FnScope N_row_of ["told"] (defScope s_row_of) := ⟨rfl, rfl, rfl, by decide +kernel, rfl, by decide +kernel, by decide +kernel⟩
abbrev N_field_boxes : List Str := ["row"]
theorem sc_field_boxes : FnScope N_field_boxes ["row"] (defScope s_field_boxes) := ⟨rfl, rfl, rfl, by decide +kernel, rfl, by decide +kernel, by decide +kernel⟩
abbrev N_Look_init : List Str := ["self", "program", "name", "rows"]
theorem sc_Look_init : FnScope N_Look_init ["self", "program"] (defScope s_Look_init) := ⟨rfl, rfl, rfl, by decide +kernel, rfl, by decide +kernel, by decide +kernel⟩
abbrev N_Look_need_single : List Str := ["self", "names"]
theorem sc_Look_need_single : FnScope N_Look_need_single ["self"] (defScope s_Look_need_single) := ⟨rfl, rfl, rfl, by decide +kernel, rfl, by decide +kernel, by decide +kernel⟩
abbrev N_Look_need_named : List Str := ["self", "row", "there", "place", "boxes", "stacks", "saying", "name"]
theorem sc_Look_need_named : FnScope N_Look_need_named ["self", "row", "there", "place"] (defScope s_Look_need_named) := ⟨rfl, rfl, rfl, by decide +kernel, rfl, by decide +kernel, by decide +kernel⟩
abbrev N_Look_need_kept : List Str := ["self", "row", "there", "place"]
theorem sc_Look_need_kept : FnScope N_Look_need_kept ["self", "row", "there", "place"] (defScope s_Look_need_kept) := ⟨rfl, rfl, rfl, by decide +kernel, rfl, by decide +kernel, by decide +kernel⟩
abbrev N_Look_need_row : List Str := ["self", "row", "there", "place", "within", "part", "rows"]
theorem sc_Look_need_row : FnScope N_Look_need_row ["self", "row", "there", "place"] (defScope s_Look_need_row) := ⟨rfl, rfl, rfl, by decide +kernel, rfl, by decide +kernel, by decide +kernel⟩
abbrev N_Look_need_rows : List Str := ["self", "rows", "there", "ahead", "number", "row"]
theorem sc_Look_need_rows : FnScope N_Look_need_rows ["self", "rows", "there", "ahead"] (defScope s_Look_need_rows) := ⟨rfl, rfl, rfl, by decide +kernel, rfl, by decide +kernel, by decide +kernel⟩
abbrev N_look : List Str := ["program", "seen", "name", "rows"]
theorem sc_look : FnScope N_look ["program"] (defScope s_look) := ⟨rfl, rfl, rfl, by decide +kernel, rfl, by decide +kernel, by decide +kernel⟩
abbrev N_is_let : List Str := ["program"]
theorem sc_is_let : FnScope N_is_let ["program"] (defScope s_is_let) := ⟨rfl, rfl, rfl, by decide +kernel, rfl, by decide +kernel, by decide +kernel⟩
abbrev N_are_names : List Str := ["thing", "least", "most", "name"]
theorem sc_are_names : FnScope N_are_names ["thing", "least", "most"] (defScope s_are_names) := ⟨rfl, rfl, rfl, by decide +kernel, rfl, by decide +kernel, by decide +kernel⟩
abbrev N_count_of : List Str := ["rows", "deep", "found", "row", "inner"]
theorem sc_count_of : FnScope N_count_of ["rows", "deep"] (defScope s_count_of) := ⟨rfl, rfl, rfl, by decide +kernel, rfl, by decide +kernel, by decide +kernel⟩
abbrev N_is_routine : List Str := ["thing", "row"]
theorem sc_is_routine : FnScope N_is_routine ["thing"] (defScope s_is_routine) := ⟨rfl, rfl, rfl, by decide +kernel, rfl, by decide +kernel, by decide +kernel⟩
abbrev N_Program_init : List Str := ["self", "boxes", "stacks", "routines", "routine", "name", "rows"]
theorem sc_Program_init : FnScope N_Program_init ["self", "boxes", "stacks", "routines"] (defScope s_Program_init) := ⟨rfl, rfl, rfl, by decide +kernel, rfl, by decide +kernel, by decide +kernel⟩
abbrev N_Program_told : List Str := ["self", "routines", "name", "rows", "row"]
theorem sc_Program_told : FnScope N_Program_told ["self"] (defScope s_Program_told) := ⟨rfl, rfl, rfl, by decide +kernel, rfl, by decide +kernel, by decide +kernel⟩
abbrev N_Program_mirror : List Str := ["self", "routines", "name", "rows", "row"]
theorem sc_Program_mirror : FnScope N_Program_mirror ["self"] (defScope s_Program_mirror) := ⟨rfl, rfl, rfl, by decide +kernel, rfl, by decide +kernel, by decide +kernel⟩
abbrev N_routine_of : List Str := ["told", "rows", "one"]
theorem sc_routine_of : FnScope N_routine_of ["told"] (defScope s_routine_of) := ⟨rfl, rfl, rfl, by decide +kernel, rfl, by decide +kernel, by decide +kernel⟩
abbrev N_program_of : List Str := ["told", "one"]
theorem sc_program_of : FnScope N_program_of ["told"] (defScope s_program_of) := ⟨rfl, rfl, rfl, by decide +kernel, rfl, by decide +kernel, by decide +kernel⟩
abbrev N_L_mix : List Str := ["_law_state", "_law_cell", "_law_found"]
theorem sc_L_mix : FnScope N_L_mix ["_law_state", "_law_cell"] (defScope s_L_mix) := ⟨rfl, rfl, rfl, by decide +kernel, rfl, by decide +kernel, by decide +kernel⟩
abbrev N_L_names : List Str := ["_law_state", "_law_many", "_law_signs", "_law_some", "_law_base", "_law_at", "_law_first", "_law_names_here", "_law_k"]
theorem sc_L_names : FnScope N_L_names ["_law_state", "_law_many"] (defScope s_L_names) := ⟨rfl, rfl, rfl, by decide +kernel, rfl, by decide +kernel, by decide +kernel⟩
abbrev N_L_word : List Str := ["_law_state", "_law_way"]
theorem sc_L_word : FnScope N_L_word ["_law_state"] (defScope s_L_word) := ⟨rfl, rfl, rfl, by decide +kernel, rfl, by decide +kernel, by decide +kernel⟩
abbrev N_L_saying : List Str := ["_law_state", "_law_boxes", "_law_stacks", "_law_deep", "_law_way", "_law_one", "_law_sign"]
theorem sc_L_saying : FnScope N_L_saying ["_law_state", "_law_boxes", "_law_stacks", "_law_deep"] (defScope s_L_saying) := ⟨rfl, rfl, rfl, by decide +kernel, rfl, by decide +kernel, by decide +kernel⟩
abbrev N_L_any_rows : List Str := ["_law_state", "_law_names_here", "_law_room", "_law_deep", "_law_rows", "_law_k"]
theorem sc_L_any_rows : FnScope N_L_any_rows ["_law_state", "_law_names_here", "_law_room", "_law_deep"] (defScope s_L_any_rows) := ⟨rfl, rfl, rfl, by decide +kernel, rfl, by decide +kernel, by decide +kernel⟩
abbrev N_L_any_row : List Str := ["_law_state", "_law_names_here", "_law_room", "_law_deep", "_law_box", "_law_other", "_law_saying_here", "_law_way", "_law_some", "_law_one", "_law_two"]
theorem sc_L_any_row : FnScope N_L_any_row ["_law_state", "_law_names_here", "_law_room", "_law_deep"] (defScope s_L_any_row) := ⟨rfl, rfl, rfl, by decide +kernel, rfl, by decide +kernel, by decide +kernel⟩
abbrev N_L_any_program : List Str := ["_law_state", "_law_names_here", "_law_room", "_law_routines", "_law_k", "_law_rows", "_law_turn"]
theorem sc_L_any_program : FnScope N_L_any_program ["_law_state"] (defScope s_L_any_program) := ⟨rfl, rfl, rfl, by decide +kernel, rfl, by decide +kernel, by decide +kernel⟩
abbrev N_L_world : List Str := ["_law_state", "_law_names_here", "_law_many", "_law_world_here"]
theorem sc_L_world : FnScope N_L_world ["_law_state"] (defScope s_L_world) := ⟨rfl, rfl, rfl, by decide +kernel, rfl, by decide +kernel, by decide +kernel⟩
abbrev N_L_good_row : List Str := ["_law_state", "_law_world_here", "_law_there", "_law_deep", "_law_box", "_law_others", "_law_way", "_law_routines", "_law_saying_here", "_law_name"]
theorem sc_L_good_row : FnScope N_L_good_row ["_law_state", "_law_world_here", "_law_there", "_law_deep"] (defScope s_L_good_row) := ⟨rfl, rfl, rfl, by decide +kernel, rfl, by decide +kernel, by decide +kernel⟩
abbrev N_L_good_block : List Str := ["_law_state", "_law_world_here", "_law_there", "_law_deep", "_law_way", "_law_one", "_law_other", "_law_name", "_law_rows"]
theorem sc_L_good_block : FnScope N_L_good_block ["_law_state", "_law_world_here", "_law_there", "_law_deep", "_law_way"] (defScope s_L_good_block) := ⟨rfl, rfl, rfl, by decide +kernel, rfl, by decide +kernel, by decide +kernel⟩
abbrev N_L_good_rows : List Str := ["_law_state", "_law_world_here", "_law_there", "_law_deep", "_law_rows", "_law_k"]
theorem sc_L_good_rows : FnScope N_L_good_rows ["_law_state", "_law_world_here", "_law_there", "_law_deep"] (defScope s_L_good_rows) := ⟨rfl, rfl, rfl, by decide +kernel, rfl, by decide +kernel, by decide +kernel⟩
abbrev N_L_good_program : List Str := ["_law_state", "_law_world_here", "_law_routines", "_law_name", "_law_rows", "_law_turn"]
theorem sc_L_good_program : FnScope N_L_good_program ["_law_state", "_law_world_here"] (defScope s_L_good_program) := ⟨rfl, rfl, rfl, by decide +kernel, rfl, by decide +kernel, by decide +kernel⟩
abbrev N_L_bad_row : List Str := ["_law_state", "_law_world_here", "_law_box", "_law_held", "_law_stack", "_law_routine", "_law_strange", "_law_one", "_law_some"]
theorem sc_L_bad_row : FnScope N_L_bad_row ["_law_state", "_law_world_here"] (defScope s_L_bad_row) := ⟨rfl, rfl, rfl, by decide +kernel, rfl, by decide +kernel, by decide +kernel⟩
abbrev N_L_put_in : List Str := ["_law_state", "_law_rows", "_law_bad", "_law_deep", "_law_at", "_law_row", "_law_k"]
theorem sc_L_put_in : FnScope N_L_put_in ["_law_state", "_law_rows", "_law_bad", "_law_deep"] (defScope s_L_put_in) := ⟨rfl, rfl, rfl, by decide +kernel, rfl, by decide +kernel, by decide +kernel⟩
abbrev N_L_spoilt : List Str := ["_law_state", "_law_told", "_law_world_here", "_law_k", "_law_name", "_law_rows"]
theorem sc_L_spoilt : FnScope N_L_spoilt ["_law_state", "_law_told", "_law_world_here"] (defScope s_L_spoilt) := ⟨rfl, rfl, rfl, by decide +kernel, rfl, by decide +kernel, by decide +kernel⟩
abbrev N_L_boxes_in : List Str := ["_law_told", "_law_found", "_law_part"]
theorem sc_L_boxes_in : FnScope N_L_boxes_in ["_law_told"] (defScope s_L_boxes_in) := ⟨rfl, rfl, rfl, by decide +kernel, rfl, by decide +kernel, by decide +kernel⟩
abbrev N_L_stacks_in : List Str := ["_law_told", "_law_found", "_law_part"]
theorem sc_L_stacks_in : FnScope N_L_stacks_in ["_law_told"] (defScope s_L_stacks_in) := ⟨rfl, rfl, rfl, by decide +kernel, rfl, by decide +kernel, by decide +kernel⟩
abbrev N_L_sayings : List Str := ["_law_row", "_law_at", "_law_k"]
theorem sc_L_sayings : FnScope N_L_sayings ["_law_row"] (defScope s_L_sayings) := ⟨rfl, rfl, rfl, by decide +kernel, rfl, by decide +kernel, by decide +kernel⟩
abbrev N_L_why : List Str := ["_law_row", "_law_there", "_law_told", "_law_boxes", "_law_stacks", "_law_saying_here", "_law_routines", "_law_name", "_law_rows"]
theorem sc_L_why : FnScope N_L_why ["_law_row", "_law_there", "_law_told"] (defScope s_L_why) := ⟨rfl, rfl, rfl, by decide +kernel, rfl, by decide +kernel, by decide +kernel⟩
abbrev N_L_within : List Str := ["_law_row"]
theorem sc_L_within : FnScope N_L_within ["_law_row"] (defScope s_L_within) := ⟨rfl, rfl, rfl, by decide +kernel, rfl, by decide +kernel, by decide +kernel⟩
abbrev N_L_look_rows : List Str := ["_law_rows", "_law_there", "_law_told", "_law_ahead", "_law_k", "_law_row", "_law_why_here", "_law_inside", "_law_part", "_law_inner", "_law_found"]
theorem sc_L_look_rows : FnScope N_L_look_rows ["_law_rows", "_law_there", "_law_told", "_law_ahead"] (defScope s_L_look_rows) := ⟨rfl, rfl, rfl, by decide +kernel, rfl, by decide +kernel, by decide +kernel⟩
abbrev N_L_look : List Str := ["_law_told", "_law_name", "_law_rows", "_law_names_here", "_law_found"]
theorem sc_L_look : FnScope N_L_look ["_law_told"] (defScope s_L_look) := ⟨rfl, rfl, rfl, by decide +kernel, rfl, by decide +kernel, by decide +kernel⟩
abbrev N_L_asked : List Str := ["_law_program", "_law_told", "_law_caught", "e", "_law_others"]
theorem sc_L_asked : FnScope N_L_asked ["_law_program"] (defScope s_L_asked) := ⟨rfl, rfl, rfl, by decide +kernel, rfl, by decide +kernel, by decide +kernel⟩
abbrev N_L_good : List Str := ["_law_told", "_law_due", "_law_program", "_law_found", "_law_let"]
theorem sc_L_good : FnScope N_L_good ["_law_told"] (defScope s_L_good) := ⟨rfl, rfl, rfl, by decide +kernel, rfl, by decide +kernel, by decide +kernel⟩
abbrev N_law : List Str := ["_law_script", "_law_state", "_law_cell", "_law_world_here", "_law_good_here", "_law_told", "_law_program", "_law_mirror"]
theorem sc_law : FnScope N_law ["_law_script"] (defScope s_law) := ⟨rfl, rfl, rfl, by decide +kernel, rfl, by decide +kernel, by decide +kernel⟩
/-! ### what the top has left -/

/-- the def x stands behind another name -/
def AliAt (K : PySem.W.Frag) (mg : Str → Option Value) (x q : Str) (st : Stmt) (ps : List Str) : Prop := ∃ f fd, Fun K q q st f fd ∧ mg x = some (.ref f) ∧ Binds K fd ps []
/-- instances of the class have it as their type -/
structure TyC (K : PySem.W.Frag) (C : Addr) : Prop where
  cl : Cls K C
  ha : PySem.W.findIn K (.ref C) "__class__" = some (some (.builtin "object.__class__"))
  hn : PySem.W.specialIn K (.builtin "object.__class__") "__get__" = some (some (.builtin "getset_descriptor.__get__"))
  htk : PySem.W.takesIn K (.builtin "object.__class__") = some true
  hm : PySem.W.mroIn K C (.type "object") = some true
structure Txt (K : PySem.W.Frag) (mg : Str → Option Value) (A : CA) : Prop where
  d : ∀ (i : Nat) d, defTab[i]? = some d → DefAt K mg d.1 d.2.1 d.2.2
  al : ∀ (i : Nat) d, aliTab[i]? = some d → AliAt K mg d.1 d.2.1 d.2.2.1 d.2.2.2
  m : ∀ (i : Nat) d, (mthTab A)[i]? = some d → MthAt K d.1 d.2.1 d.2.2.1 d.2.2.2.1 d.2.2.2.2
  k : ∀ (i : Nat) d, (mkTab A)[i]? = some d → MkAt K mg d.1 d.2.1 d.2.2.1 d.2.2.2.1 d.2.2.2.2
  na : ∀ (i : Nat) d, (naTab A)[i]? = some d → NoAttr K d.1 d.2
  gi : ∀ (i : Nat) d, intTab[i]? = some d → ∃ t, mg d.1 = some (.int d.2 t)
  gs : ∀ (i : Nat) d, strTab[i]? = some d → ∃ t, mg d.1 = some (.str d.2 t)
  fr : ∀ (i : Nat) d, freeTab[i]? = some d → mg d = none
  gl : ∀ (i : Nat) d, (gloTab A)[i]? = some d → mg d.1 = some (.ref d.2)
  isi : ∀ (i : Nat) d, (isiTab A)[i]? = some d → PySem.W.kitOne K (.ref d.1) (.ref d.2.1) = some d.2.2
  ty : ∀ (i : Nat) d, (clsTab A)[i]? = some d → TyC K d
  tp : ∀ (i : Nat) d, (tupTab A)[i]? = some d → ∀ H, SqT K H d.1 (d.2.map V.str)
section
variable {K : PySem.W.Frag} {mg : Str → Option Value} {A : CA}
theorem Txt.d_is_word (T : Txt K mg A) : DefAt K mg "is_word" s_is_word ["thing"] := T.d 0 _ rfl
theorem Txt.d_is_name (T : Txt K mg A) : DefAt K mg "is_name" s_is_name ["thing"] := T.d 1 _ rfl
theorem Txt.d_once (T : Txt K mg A) : DefAt K mg "once" s_once ["names"] := T.d 2 _ rfl
theorem Txt.d_saying_within (T : Txt K mg A) : DefAt K mg "saying_within" s_saying_within ["told", "deep"] := T.d 3 _ rfl
theorem Txt.d_saying_of (T : Txt K mg A) : DefAt K mg "saying_of" s_saying_of ["told"] := T.d 4 _ rfl
theorem Txt.d_is_whole (T : Txt K mg A) : DefAt K mg "is_whole" s_is_whole43 ["thing"] := T.d 5 _ rfl
theorem Txt.d_need_names (T : Txt K mg A) : DefAt K mg "need_names" s_need_names ["names"] := T.d 6 _ rfl
theorem Txt.d_need_sayings (T : Txt K mg A) : DefAt K mg "need_sayings" s_need_sayings ["sayings"] := T.d 7 _ rfl
theorem Txt.d_need_rows (T : Txt K mg A) : DefAt K mg "need_rows" s_need_rows ["rows"] := T.d 8 _ rfl
theorem Txt.d_mirrors (T : Txt K mg A) : DefAt K mg "mirrors" s_mirrors ["rows"] := T.d 9 _ rfl
theorem Txt.d_told_rows (T : Txt K mg A) : DefAt K mg "told_rows" s_told_rows ["rows"] := T.d 10 _ rfl
theorem Txt.d_said (T : Txt K mg A) : DefAt K mg "said" s_said ["told"] := T.d 11 _ rfl
theorem Txt.d_rows_within (T : Txt K mg A) : DefAt K mg "rows_within" s_rows_within ["told", "deep"] := T.d 12 _ rfl
theorem Txt.d_change_of (T : Txt K mg A) : DefAt K mg "change_of" s_change_of ["told"] := T.d 13 _ rfl
theorem Txt.d_row_within (T : Txt K mg A) : DefAt K mg "row_within" s_row_within ["told", "deep"] := T.d 14 _ rfl
theorem Txt.d_row_of (T : Txt K mg A) : DefAt K mg "row_of" s_row_of ["told"] := T.d 15 _ rfl
theorem Txt.d_field_boxes (T : Txt K mg A) : DefAt K mg "field_boxes" s_field_boxes ["row"] := T.d 16 _ rfl
theorem Txt.d_look (T : Txt K mg A) : DefAt K mg "look" s_look ["program"] := T.d 17 _ rfl
theorem Txt.d_is_let (T : Txt K mg A) : DefAt K mg "is_let" s_is_let ["program"] := T.d 18 _ rfl
theorem Txt.d_are_names (T : Txt K mg A) : DefAt K mg "are_names" s_are_names ["thing", "least", "most"] := T.d 19 _ rfl
theorem Txt.d_count_of (T : Txt K mg A) : DefAt K mg "count_of" s_count_of ["rows", "deep"] := T.d 20 _ rfl
theorem Txt.d_is_routine (T : Txt K mg A) : DefAt K mg "is_routine" s_is_routine ["thing"] := T.d 21 _ rfl
theorem Txt.d_routine_of (T : Txt K mg A) : DefAt K mg "routine_of" s_routine_of ["told"] := T.d 22 _ rfl
theorem Txt.d_program_of (T : Txt K mg A) : DefAt K mg "program_of" s_program_of ["told"] := T.d 23 _ rfl
theorem Txt.d_L_mix (T : Txt K mg A) : DefAt K mg "_law_mix" s_L_mix ["_law_state", "_law_cell"] := T.d 24 _ rfl
theorem Txt.d_L_names (T : Txt K mg A) : DefAt K mg "_law_names" s_L_names ["_law_state", "_law_many"] := T.d 25 _ rfl
theorem Txt.d_L_word (T : Txt K mg A) : DefAt K mg "_law_word" s_L_word ["_law_state"] := T.d 26 _ rfl
theorem Txt.d_L_saying (T : Txt K mg A) : DefAt K mg "_law_saying" s_L_saying ["_law_state", "_law_boxes", "_law_stacks", "_law_deep"] := T.d 27 _ rfl
theorem Txt.d_L_any_rows (T : Txt K mg A) : DefAt K mg "_law_any_rows" s_L_any_rows ["_law_state", "_law_names_here", "_law_room", "_law_deep"] := T.d 28 _ rfl
theorem Txt.d_L_any_row (T : Txt K mg A) : DefAt K mg "_law_any_row" s_L_any_row ["_law_state", "_law_names_here", "_law_room", "_law_deep"] := T.d 29 _ rfl
theorem Txt.d_L_any_program (T : Txt K mg A) : DefAt K mg "_law_any_program" s_L_any_program ["_law_state"] := T.d 30 _ rfl
theorem Txt.d_L_world (T : Txt K mg A) : DefAt K mg "_law_world" s_L_world ["_law_state"] := T.d 31 _ rfl
theorem Txt.d_L_good_row (T : Txt K mg A) : DefAt K mg "_law_good_row" s_L_good_row ["_law_state", "_law_world_here", "_law_there", "_law_deep"] := T.d 32 _ rfl
theorem Txt.d_L_good_block (T : Txt K mg A) : DefAt K mg "_law_good_block" s_L_good_block ["_law_state", "_law_world_here", "_law_there", "_law_deep", "_law_way"] := T.d 33 _ rfl
theorem Txt.d_L_good_rows (T : Txt K mg A) : DefAt K mg "_law_good_rows" s_L_good_rows ["_law_state", "_law_world_here", "_law_there", "_law_deep"] := T.d 34 _ rfl
theorem Txt.d_L_good_program (T : Txt K mg A) : DefAt K mg "_law_good_program" s_L_good_program ["_law_state", "_law_world_here"] := T.d 35 _ rfl
theorem Txt.d_L_bad_row (T : Txt K mg A) : DefAt K mg "_law_bad_row" s_L_bad_row ["_law_state", "_law_world_here"] := T.d 36 _ rfl
theorem Txt.d_L_put_in (T : Txt K mg A) : DefAt K mg "_law_put_in" s_L_put_in ["_law_state", "_law_rows", "_law_bad", "_law_deep"] := T.d 37 _ rfl
theorem Txt.d_L_spoilt (T : Txt K mg A) : DefAt K mg "_law_spoilt" s_L_spoilt ["_law_state", "_law_told", "_law_world_here"] := T.d 38 _ rfl
theorem Txt.d_L_boxes_in (T : Txt K mg A) : DefAt K mg "_law_boxes_in" s_L_boxes_in ["_law_told"] := T.d 39 _ rfl
theorem Txt.d_L_stacks_in (T : Txt K mg A) : DefAt K mg "_law_stacks_in" s_L_stacks_in ["_law_told"] := T.d 40 _ rfl
theorem Txt.d_L_sayings (T : Txt K mg A) : DefAt K mg "_law_sayings" s_L_sayings ["_law_row"] := T.d 41 _ rfl
theorem Txt.d_L_why (T : Txt K mg A) : DefAt K mg "_law_why" s_L_why ["_law_row", "_law_there", "_law_told"] := T.d 42 _ rfl
theorem Txt.d_L_within (T : Txt K mg A) : DefAt K mg "_law_within" s_L_within ["_law_row"] := T.d 43 _ rfl
theorem Txt.d_L_look_rows (T : Txt K mg A) : DefAt K mg "_law_look_rows" s_L_look_rows ["_law_rows", "_law_there", "_law_told", "_law_ahead"] := T.d 44 _ rfl
theorem Txt.d_L_look (T : Txt K mg A) : DefAt K mg "_law_look" s_L_look ["_law_told"] := T.d 45 _ rfl
theorem Txt.d_L_asked (T : Txt K mg A) : DefAt K mg "_law_asked" s_L_asked ["_law_program"] := T.d 46 _ rfl
theorem Txt.d_L_good (T : Txt K mg A) : DefAt K mg "_law_good" s_L_good ["_law_told"] := T.d 47 _ rfl
theorem Txt.d_law (T : Txt K mg A) : DefAt K mg "law" s_law ["_law_script"] := T.d 48 _ rfl
theorem Txt.d_is_whole_words (T : Txt K mg A) : AliAt K mg "is_whole_words" "is_whole" s_is_whole19 ["thing"] := T.al 0 _ rfl
theorem Txt.d_is_whole_rows (T : Txt K mg A) : AliAt K mg "is_whole_rows" "is_whole" s_is_whole43 ["thing"] := T.al 1 _ rfl
theorem Txt.m_Number_inner (T : Txt K mg A) : MthAt K (A.s .num) "inner" "Saying.inner" s_Saying_inner ["self"] := T.m 0 _ rfl
theorem Txt.m_Number_size (T : Txt K mg A) : MthAt K (A.s .num) "size" "Saying.size" s_Saying_size ["self"] := T.m 1 _ rfl
theorem Txt.m_Number_depth (T : Txt K mg A) : MthAt K (A.s .num) "depth" "Saying.depth" s_Saying_depth ["self"] := T.m 2 _ rfl
theorem Txt.m_Number_all_boxes (T : Txt K mg A) : MthAt K (A.s .num) "all_boxes" "Saying.all_boxes" s_Saying_all_boxes ["self"] := T.m 3 _ rfl
theorem Txt.m_Number_all_stacks (T : Txt K mg A) : MthAt K (A.s .num) "all_stacks" "Saying.all_stacks" s_Saying_all_stacks ["self"] := T.m 4 _ rfl
theorem Txt.m_Number_box_names (T : Txt K mg A) : MthAt K (A.s .num) "box_names" "Saying.box_names" s_Saying_box_names ["self"] := T.m 5 _ rfl
theorem Txt.m_Number_stack_names (T : Txt K mg A) : MthAt K (A.s .num) "stack_names" "Saying.stack_names" s_Saying_stack_names ["self"] := T.m 6 _ rfl
theorem Txt.m_Number_told (T : Txt K mg A) : MthAt K (A.s .num) "told" "Number.told" s_Number_told ["self"] := T.m 7 _ rfl
theorem Txt.m_Number_need_small (T : Txt K mg A) : MthAt K (A.s .num) "need_small" "Saying.need_small" s_Saying_need_small ["self"] := T.m 8 _ rfl
theorem Txt.m_Box_inner (T : Txt K mg A) : MthAt K (A.s .box) "inner" "Saying.inner" s_Saying_inner ["self"] := T.m 9 _ rfl
theorem Txt.m_Box_size (T : Txt K mg A) : MthAt K (A.s .box) "size" "Saying.size" s_Saying_size ["self"] := T.m 10 _ rfl
theorem Txt.m_Box_depth (T : Txt K mg A) : MthAt K (A.s .box) "depth" "Saying.depth" s_Saying_depth ["self"] := T.m 11 _ rfl
theorem Txt.m_Box_all_boxes (T : Txt K mg A) : MthAt K (A.s .box) "all_boxes" "Box.all_boxes" s_Box_all_boxes ["self"] := T.m 12 _ rfl
theorem Txt.m_Box_all_stacks (T : Txt K mg A) : MthAt K (A.s .box) "all_stacks" "Saying.all_stacks" s_Saying_all_stacks ["self"] := T.m 13 _ rfl
theorem Txt.m_Box_box_names (T : Txt K mg A) : MthAt K (A.s .box) "box_names" "Saying.box_names" s_Saying_box_names ["self"] := T.m 14 _ rfl
theorem Txt.m_Box_stack_names (T : Txt K mg A) : MthAt K (A.s .box) "stack_names" "Saying.stack_names" s_Saying_stack_names ["self"] := T.m 15 _ rfl
theorem Txt.m_Box_told (T : Txt K mg A) : MthAt K (A.s .box) "told" "Box.told" s_Box_told ["self"] := T.m 16 _ rfl
theorem Txt.m_Box_need_small (T : Txt K mg A) : MthAt K (A.s .box) "need_small" "Saying.need_small" s_Saying_need_small ["self"] := T.m 17 _ rfl
theorem Txt.m_Many_inner (T : Txt K mg A) : MthAt K (A.s .many) "inner" "Saying.inner" s_Saying_inner ["self"] := T.m 18 _ rfl
theorem Txt.m_Many_size (T : Txt K mg A) : MthAt K (A.s .many) "size" "Saying.size" s_Saying_size ["self"] := T.m 19 _ rfl
theorem Txt.m_Many_depth (T : Txt K mg A) : MthAt K (A.s .many) "depth" "Saying.depth" s_Saying_depth ["self"] := T.m 20 _ rfl
theorem Txt.m_Many_all_boxes (T : Txt K mg A) : MthAt K (A.s .many) "all_boxes" "Saying.all_boxes" s_Saying_all_boxes ["self"] := T.m 21 _ rfl
theorem Txt.m_Many_all_stacks (T : Txt K mg A) : MthAt K (A.s .many) "all_stacks" "OfStack.all_stacks" s_OfStack_all_stacks ["self"] := T.m 22 _ rfl
theorem Txt.m_Many_box_names (T : Txt K mg A) : MthAt K (A.s .many) "box_names" "Saying.box_names" s_Saying_box_names ["self"] := T.m 23 _ rfl
theorem Txt.m_Many_stack_names (T : Txt K mg A) : MthAt K (A.s .many) "stack_names" "Saying.stack_names" s_Saying_stack_names ["self"] := T.m 24 _ rfl
theorem Txt.m_Many_told (T : Txt K mg A) : MthAt K (A.s .many) "told" "OfStack.told" s_OfStack_told ["self"] := T.m 25 _ rfl
theorem Txt.m_Many_need_small (T : Txt K mg A) : MthAt K (A.s .many) "need_small" "Saying.need_small" s_Saying_need_small ["self"] := T.m 26 _ rfl
theorem Txt.m_Top_inner (T : Txt K mg A) : MthAt K (A.s .top) "inner" "Saying.inner" s_Saying_inner ["self"] := T.m 27 _ rfl
theorem Txt.m_Top_size (T : Txt K mg A) : MthAt K (A.s .top) "size" "Saying.size" s_Saying_size ["self"] := T.m 28 _ rfl
theorem Txt.m_Top_depth (T : Txt K mg A) : MthAt K (A.s .top) "depth" "Saying.depth" s_Saying_depth ["self"] := T.m 29 _ rfl
theorem Txt.m_Top_all_boxes (T : Txt K mg A) : MthAt K (A.s .top) "all_boxes" "Saying.all_boxes" s_Saying_all_boxes ["self"] := T.m 30 _ rfl
theorem Txt.m_Top_all_stacks (T : Txt K mg A) : MthAt K (A.s .top) "all_stacks" "OfStack.all_stacks" s_OfStack_all_stacks ["self"] := T.m 31 _ rfl
theorem Txt.m_Top_box_names (T : Txt K mg A) : MthAt K (A.s .top) "box_names" "Saying.box_names" s_Saying_box_names ["self"] := T.m 32 _ rfl
theorem Txt.m_Top_stack_names (T : Txt K mg A) : MthAt K (A.s .top) "stack_names" "Saying.stack_names" s_Saying_stack_names ["self"] := T.m 33 _ rfl
theorem Txt.m_Top_told (T : Txt K mg A) : MthAt K (A.s .top) "told" "OfStack.told" s_OfStack_told ["self"] := T.m 34 _ rfl
theorem Txt.m_Top_need_small (T : Txt K mg A) : MthAt K (A.s .top) "need_small" "Saying.need_small" s_Saying_need_small ["self"] := T.m 35 _ rfl
theorem Txt.m_Not_inner (T : Txt K mg A) : MthAt K (A.s .not) "inner" "Not.inner" s_Not_inner ["self"] := T.m 36 _ rfl
theorem Txt.m_Not_size (T : Txt K mg A) : MthAt K (A.s .not) "size" "Saying.size" s_Saying_size ["self"] := T.m 37 _ rfl
theorem Txt.m_Not_depth (T : Txt K mg A) : MthAt K (A.s .not) "depth" "Saying.depth" s_Saying_depth ["self"] := T.m 38 _ rfl
theorem Txt.m_Not_all_boxes (T : Txt K mg A) : MthAt K (A.s .not) "all_boxes" "Saying.all_boxes" s_Saying_all_boxes ["self"] := T.m 39 _ rfl
theorem Txt.m_Not_all_stacks (T : Txt K mg A) : MthAt K (A.s .not) "all_stacks" "Saying.all_stacks" s_Saying_all_stacks ["self"] := T.m 40 _ rfl
theorem Txt.m_Not_box_names (T : Txt K mg A) : MthAt K (A.s .not) "box_names" "Saying.box_names" s_Saying_box_names ["self"] := T.m 41 _ rfl
theorem Txt.m_Not_stack_names (T : Txt K mg A) : MthAt K (A.s .not) "stack_names" "Saying.stack_names" s_Saying_stack_names ["self"] := T.m 42 _ rfl
theorem Txt.m_Not_told (T : Txt K mg A) : MthAt K (A.s .not) "told" "Not.told" s_Not_told ["self"] := T.m 43 _ rfl
theorem Txt.m_Not_need_small (T : Txt K mg A) : MthAt K (A.s .not) "need_small" "Saying.need_small" s_Saying_need_small ["self"] := T.m 44 _ rfl
theorem Txt.m_Pair_inner (T : Txt K mg A) : MthAt K (A.s .pair) "inner" "Pair.inner" s_Pair_inner ["self"] := T.m 45 _ rfl
theorem Txt.m_Pair_size (T : Txt K mg A) : MthAt K (A.s .pair) "size" "Saying.size" s_Saying_size ["self"] := T.m 46 _ rfl
theorem Txt.m_Pair_depth (T : Txt K mg A) : MthAt K (A.s .pair) "depth" "Saying.depth" s_Saying_depth ["self"] := T.m 47 _ rfl
theorem Txt.m_Pair_all_boxes (T : Txt K mg A) : MthAt K (A.s .pair) "all_boxes" "Saying.all_boxes" s_Saying_all_boxes ["self"] := T.m 48 _ rfl
theorem Txt.m_Pair_all_stacks (T : Txt K mg A) : MthAt K (A.s .pair) "all_stacks" "Saying.all_stacks" s_Saying_all_stacks ["self"] := T.m 49 _ rfl
theorem Txt.m_Pair_box_names (T : Txt K mg A) : MthAt K (A.s .pair) "box_names" "Saying.box_names" s_Saying_box_names ["self"] := T.m 50 _ rfl
theorem Txt.m_Pair_stack_names (T : Txt K mg A) : MthAt K (A.s .pair) "stack_names" "Saying.stack_names" s_Saying_stack_names ["self"] := T.m 51 _ rfl
theorem Txt.m_Pair_told (T : Txt K mg A) : MthAt K (A.s .pair) "told" "Pair.told" s_Pair_told ["self"] := T.m 52 _ rfl
theorem Txt.m_Pair_need_small (T : Txt K mg A) : MthAt K (A.s .pair) "need_small" "Saying.need_small" s_Saying_need_small ["self"] := T.m 53 _ rfl
theorem Txt.m_Many_word_told (T : Txt K mg A) : MthAt K (A.s .many) "word_told" "Many.word_told" s_Many_word_told ["self"] := T.m 54 _ rfl
theorem Txt.m_Top_word_told (T : Txt K mg A) : MthAt K (A.s .top) "word_told" "Top.word_told" s_Top_word_told ["self"] := T.m 55 _ rfl
theorem Txt.m_Add_inner (T : Txt K mg A) : MthAt K (A.r .add) "inner" "Row.inner" s_Row_inner ["self"] := T.m 56 _ rfl
theorem Txt.m_Add_sayings (T : Txt K mg A) : MthAt K (A.r .add) "sayings" "Change.sayings" s_Change_sayings ["self"] := T.m 57 _ rfl
theorem Txt.m_Add_mirror (T : Txt K mg A) : MthAt K (A.r .add) "mirror" "Add.mirror" s_Add_mirror ["self"] := T.m 58 _ rfl
theorem Txt.m_Add_told (T : Txt K mg A) : MthAt K (A.r .add) "told" "Change.told" s_Change_told ["self"] := T.m 59 _ rfl
theorem Txt.m_Less_inner (T : Txt K mg A) : MthAt K (A.r .less) "inner" "Row.inner" s_Row_inner ["self"] := T.m 60 _ rfl
theorem Txt.m_Less_sayings (T : Txt K mg A) : MthAt K (A.r .less) "sayings" "Change.sayings" s_Change_sayings ["self"] := T.m 61 _ rfl
theorem Txt.m_Less_mirror (T : Txt K mg A) : MthAt K (A.r .less) "mirror" "Less.mirror" s_Less_mirror ["self"] := T.m 62 _ rfl
theorem Txt.m_Less_told (T : Txt K mg A) : MthAt K (A.r .less) "told" "Change.told" s_Change_told ["self"] := T.m 63 _ rfl
theorem Txt.m_Mix_inner (T : Txt K mg A) : MthAt K (A.r .mix) "inner" "Row.inner" s_Row_inner ["self"] := T.m 64 _ rfl
theorem Txt.m_Mix_sayings (T : Txt K mg A) : MthAt K (A.r .mix) "sayings" "Change.sayings" s_Change_sayings ["self"] := T.m 65 _ rfl
theorem Txt.m_Mix_mirror (T : Txt K mg A) : MthAt K (A.r .mix) "mirror" "Row.mirror" s_Row_mirror ["self"] := T.m 66 _ rfl
theorem Txt.m_Mix_told (T : Txt K mg A) : MthAt K (A.r .mix) "told" "Change.told" s_Change_told ["self"] := T.m 67 _ rfl
theorem Txt.m_Swap_inner (T : Txt K mg A) : MthAt K (A.r .swap) "inner" "Row.inner" s_Row_inner ["self"] := T.m 68 _ rfl
theorem Txt.m_Swap_sayings (T : Txt K mg A) : MthAt K (A.r .swap) "sayings" "Row.sayings" s_Row_sayings ["self"] := T.m 69 _ rfl
theorem Txt.m_Swap_mirror (T : Txt K mg A) : MthAt K (A.r .swap) "mirror" "Row.mirror" s_Row_mirror ["self"] := T.m 70 _ rfl
theorem Txt.m_Swap_told (T : Txt K mg A) : MthAt K (A.r .swap) "told" "Swap.told" s_Swap_told ["self"] := T.m 71 _ rfl
theorem Txt.m_Turn_inner (T : Txt K mg A) : MthAt K (A.r .turn) "inner" "Row.inner" s_Row_inner ["self"] := T.m 72 _ rfl
theorem Txt.m_Turn_sayings (T : Txt K mg A) : MthAt K (A.r .turn) "sayings" "Row.sayings" s_Row_sayings ["self"] := T.m 73 _ rfl
theorem Txt.m_Turn_mirror (T : Txt K mg A) : MthAt K (A.r .turn) "mirror" "Turn.mirror" s_Turn_mirror ["self"] := T.m 74 _ rfl
theorem Txt.m_Turn_told (T : Txt K mg A) : MthAt K (A.r .turn) "told" "Turn.told" s_Turn_told ["self"] := T.m 75 _ rfl
theorem Txt.m_Push_inner (T : Txt K mg A) : MthAt K (A.r .push) "inner" "Row.inner" s_Row_inner ["self"] := T.m 76 _ rfl
theorem Txt.m_Push_sayings (T : Txt K mg A) : MthAt K (A.r .push) "sayings" "Row.sayings" s_Row_sayings ["self"] := T.m 77 _ rfl
theorem Txt.m_Push_mirror (T : Txt K mg A) : MthAt K (A.r .push) "mirror" "Push.mirror" s_Push_mirror ["self"] := T.m 78 _ rfl
theorem Txt.m_Push_told (T : Txt K mg A) : MthAt K (A.r .push) "told" "Moved.told" s_Moved_told ["self"] := T.m 79 _ rfl
theorem Txt.m_Pop_inner (T : Txt K mg A) : MthAt K (A.r .pop) "inner" "Row.inner" s_Row_inner ["self"] := T.m 80 _ rfl
theorem Txt.m_Pop_sayings (T : Txt K mg A) : MthAt K (A.r .pop) "sayings" "Row.sayings" s_Row_sayings ["self"] := T.m 81 _ rfl
theorem Txt.m_Pop_mirror (T : Txt K mg A) : MthAt K (A.r .pop) "mirror" "Pop.mirror" s_Pop_mirror ["self"] := T.m 82 _ rfl
theorem Txt.m_Pop_told (T : Txt K mg A) : MthAt K (A.r .pop) "told" "Moved.told" s_Moved_told ["self"] := T.m 83 _ rfl
theorem Txt.m_Call_inner (T : Txt K mg A) : MthAt K (A.r .call) "inner" "Row.inner" s_Row_inner ["self"] := T.m 84 _ rfl
theorem Txt.m_Call_sayings (T : Txt K mg A) : MthAt K (A.r .call) "sayings" "Row.sayings" s_Row_sayings ["self"] := T.m 85 _ rfl
theorem Txt.m_Call_mirror (T : Txt K mg A) : MthAt K (A.r .call) "mirror" "Row.mirror" s_Row_mirror ["self"] := T.m 86 _ rfl
theorem Txt.m_Call_told (T : Txt K mg A) : MthAt K (A.r .call) "told" "Named.told" s_Named_told ["self"] := T.m 87 _ rfl
theorem Txt.m_Back_inner (T : Txt K mg A) : MthAt K (A.r .back) "inner" "Row.inner" s_Row_inner ["self"] := T.m 88 _ rfl
theorem Txt.m_Back_sayings (T : Txt K mg A) : MthAt K (A.r .back) "sayings" "Row.sayings" s_Row_sayings ["self"] := T.m 89 _ rfl
theorem Txt.m_Back_mirror (T : Txt K mg A) : MthAt K (A.r .back) "mirror" "Row.mirror" s_Row_mirror ["self"] := T.m 90 _ rfl
theorem Txt.m_Back_told (T : Txt K mg A) : MthAt K (A.r .back) "told" "Named.told" s_Named_told ["self"] := T.m 91 _ rfl
theorem Txt.m_Choice_inner (T : Txt K mg A) : MthAt K (A.r .cho) "inner" "Choice.inner" s_Choice_inner ["self"] := T.m 92 _ rfl
theorem Txt.m_Choice_sayings (T : Txt K mg A) : MthAt K (A.r .cho) "sayings" "Choice.sayings" s_Choice_sayings ["self"] := T.m 93 _ rfl
theorem Txt.m_Choice_mirror (T : Txt K mg A) : MthAt K (A.r .cho) "mirror" "Choice.mirror" s_Choice_mirror ["self"] := T.m 94 _ rfl
theorem Txt.m_Choice_told (T : Txt K mg A) : MthAt K (A.r .cho) "told" "Choice.told" s_Choice_told ["self"] := T.m 95 _ rfl
theorem Txt.m_Loop_inner (T : Txt K mg A) : MthAt K (A.r .loop) "inner" "Loop.inner" s_Loop_inner ["self"] := T.m 96 _ rfl
theorem Txt.m_Loop_sayings (T : Txt K mg A) : MthAt K (A.r .loop) "sayings" "Loop.sayings" s_Loop_sayings ["self"] := T.m 97 _ rfl
theorem Txt.m_Loop_mirror (T : Txt K mg A) : MthAt K (A.r .loop) "mirror" "Loop.mirror" s_Loop_mirror ["self"] := T.m 98 _ rfl
theorem Txt.m_Loop_told (T : Txt K mg A) : MthAt K (A.r .loop) "told" "Loop.told" s_Loop_told ["self"] := T.m 99 _ rfl
theorem Txt.m_Held_inner (T : Txt K mg A) : MthAt K (A.r .held) "inner" "Held.inner" s_Held_inner ["self"] := T.m 100 _ rfl
theorem Txt.m_Held_sayings (T : Txt K mg A) : MthAt K (A.r .held) "sayings" "Held.sayings" s_Held_sayings ["self"] := T.m 101 _ rfl
theorem Txt.m_Held_mirror (T : Txt K mg A) : MthAt K (A.r .held) "mirror" "Held.mirror" s_Held_mirror ["self"] := T.m 102 _ rfl
theorem Txt.m_Held_told (T : Txt K mg A) : MthAt K (A.r .held) "told" "Held.told" s_Held_told ["self"] := T.m 103 _ rfl
theorem Txt.m_Add_word_told (T : Txt K mg A) : MthAt K (A.r .add) "word_told" "Add.word_told" s_Add_word_told ["self"] := T.m 104 _ rfl
theorem Txt.m_Less_word_told (T : Txt K mg A) : MthAt K (A.r .less) "word_told" "Less.word_told" s_Less_word_told ["self"] := T.m 105 _ rfl
theorem Txt.m_Mix_word_told (T : Txt K mg A) : MthAt K (A.r .mix) "word_told" "Mix.word_told" s_Mix_word_told ["self"] := T.m 106 _ rfl
theorem Txt.m_Push_word_told (T : Txt K mg A) : MthAt K (A.r .push) "word_told" "Push.word_told" s_Push_word_told ["self"] := T.m 107 _ rfl
theorem Txt.m_Pop_word_told (T : Txt K mg A) : MthAt K (A.r .pop) "word_told" "Pop.word_told" s_Pop_word_told ["self"] := T.m 108 _ rfl
theorem Txt.m_Call_word_told (T : Txt K mg A) : MthAt K (A.r .call) "word_told" "Call.word_told" s_Call_word_told ["self"] := T.m 109 _ rfl
theorem Txt.m_Back_word_told (T : Txt K mg A) : MthAt K (A.r .back) "word_told" "Back.word_told" s_Back_word_told ["self"] := T.m 110 _ rfl
theorem Txt.m_Look_need_single (T : Txt K mg A) : MthAt K (A.Look) "need_single" "Look.need_single" s_Look_need_single ["self"] := T.m 111 _ rfl
theorem Txt.m_Look_need_named (T : Txt K mg A) : MthAt K (A.Look) "need_named" "Look.need_named" s_Look_need_named ["self", "row", "there", "place"] := T.m 112 _ rfl
theorem Txt.m_Look_need_kept (T : Txt K mg A) : MthAt K (A.Look) "need_kept" "Look.need_kept" s_Look_need_kept ["self", "row", "there", "place"] := T.m 113 _ rfl
theorem Txt.m_Look_need_row (T : Txt K mg A) : MthAt K (A.Look) "need_row" "Look.need_row" s_Look_need_row ["self", "row", "there", "place"] := T.m 114 _ rfl
theorem Txt.m_Look_need_rows (T : Txt K mg A) : MthAt K (A.Look) "need_rows" "Look.need_rows" s_Look_need_rows ["self", "rows", "there", "ahead"] := T.m 115 _ rfl
theorem Txt.m_Program_told (T : Txt K mg A) : MthAt K (A.Program) "told" "Program.told" s_Program_told ["self"] := T.m 116 _ rfl
theorem Txt.m_Program_mirror (T : Txt K mg A) : MthAt K (A.Program) "mirror" "Program.mirror" s_Program_mirror ["self"] := T.m 117 _ rfl
theorem Txt.k_Number (T : Txt K mg A) : MkAt K mg "Number" (A.s .num) "Number.__init__" s_Number_init ["self", "word"] := T.k 0 _ rfl
theorem Txt.k_Box (T : Txt K mg A) : MkAt K mg "Box" (A.s .box) "Box.__init__" s_Box_init ["self", "name"] := T.k 1 _ rfl
theorem Txt.k_Many (T : Txt K mg A) : MkAt K mg "Many" (A.s .many) "OfStack.__init__" s_OfStack_init ["self", "stack"] := T.k 2 _ rfl
theorem Txt.k_Top (T : Txt K mg A) : MkAt K mg "Top" (A.s .top) "OfStack.__init__" s_OfStack_init ["self", "stack"] := T.k 3 _ rfl
theorem Txt.k_Not (T : Txt K mg A) : MkAt K mg "Not" (A.s .not) "Not.__init__" s_Not_init ["self", "one"] := T.k 4 _ rfl
theorem Txt.k_Pair (T : Txt K mg A) : MkAt K mg "Pair" (A.s .pair) "Pair.__init__" s_Pair_init ["self", "sign", "one", "other"] := T.k 5 _ rfl
theorem Txt.k_Add (T : Txt K mg A) : MkAt K mg "Add" (A.r .add) "Change.__init__" s_Change_init ["self", "box", "saying"] := T.k 6 _ rfl
theorem Txt.k_Less (T : Txt K mg A) : MkAt K mg "Less" (A.r .less) "Change.__init__" s_Change_init ["self", "box", "saying"] := T.k 7 _ rfl
theorem Txt.k_Mix (T : Txt K mg A) : MkAt K mg "Mix" (A.r .mix) "Change.__init__" s_Change_init ["self", "box", "saying"] := T.k 8 _ rfl
theorem Txt.k_Swap (T : Txt K mg A) : MkAt K mg "Swap" (A.r .swap) "Swap.__init__" s_Swap_init ["self", "one", "other"] := T.k 9 _ rfl
theorem Txt.k_Turn (T : Txt K mg A) : MkAt K mg "Turn" (A.r .turn) "Turn.__init__" s_Turn_init ["self", "box", "by"] := T.k 10 _ rfl
theorem Txt.k_Push (T : Txt K mg A) : MkAt K mg "Push" (A.r .push) "Moved.__init__" s_Moved_init ["self", "box", "stack"] := T.k 11 _ rfl
theorem Txt.k_Pop (T : Txt K mg A) : MkAt K mg "Pop" (A.r .pop) "Moved.__init__" s_Moved_init ["self", "box", "stack"] := T.k 12 _ rfl
theorem Txt.k_Call (T : Txt K mg A) : MkAt K mg "Call" (A.r .call) "Named.__init__" s_Named_init ["self", "name"] := T.k 13 _ rfl
theorem Txt.k_Back (T : Txt K mg A) : MkAt K mg "Back" (A.r .back) "Named.__init__" s_Named_init ["self", "name"] := T.k 14 _ rfl
theorem Txt.k_Choice (T : Txt K mg A) : MkAt K mg "Choice" (A.r .cho) "Choice.__init__" s_Choice_init ["self", "test", "yes", "no", "after"] := T.k 15 _ rfl
theorem Txt.k_Loop (T : Txt K mg A) : MkAt K mg "Loop" (A.r .loop) "Loop.__init__" s_Loop_init ["self", "before", "first", "again", "test"] := T.k 16 _ rfl
theorem Txt.k_Held (T : Txt K mg A) : MkAt K mg "Held" (A.r .held) "Held.__init__" s_Held_init ["self", "box", "begin", "rows", "end"] := T.k 17 _ rfl
theorem Txt.k_Look (T : Txt K mg A) : MkAt K mg "Look" (A.Look) "Look.__init__" s_Look_init ["self", "program"] := T.k 18 _ rfl
theorem Txt.k_Program (T : Txt K mg A) : MkAt K mg "Program" (A.Program) "Program.__init__" s_Program_init ["self", "boxes", "stacks", "routines"] := T.k 19 _ rfl
theorem Txt.n_Number_word (T : Txt K mg A) : NoAttr K (A.s .num) "word" := T.na 0 _ rfl
theorem Txt.n_Box_name (T : Txt K mg A) : NoAttr K (A.s .box) "name" := T.na 1 _ rfl
theorem Txt.n_Many_stack (T : Txt K mg A) : NoAttr K (A.s .many) "stack" := T.na 2 _ rfl
theorem Txt.n_Top_stack (T : Txt K mg A) : NoAttr K (A.s .top) "stack" := T.na 3 _ rfl
theorem Txt.n_Not_one (T : Txt K mg A) : NoAttr K (A.s .not) "one" := T.na 4 _ rfl
theorem Txt.n_Pair_sign (T : Txt K mg A) : NoAttr K (A.s .pair) "sign" := T.na 5 _ rfl
theorem Txt.n_Pair_one (T : Txt K mg A) : NoAttr K (A.s .pair) "one" := T.na 6 _ rfl
theorem Txt.n_Pair_other (T : Txt K mg A) : NoAttr K (A.s .pair) "other" := T.na 7 _ rfl
theorem Txt.n_Add_box (T : Txt K mg A) : NoAttr K (A.r .add) "box" := T.na 8 _ rfl
theorem Txt.n_Add_saying (T : Txt K mg A) : NoAttr K (A.r .add) "saying" := T.na 9 _ rfl
theorem Txt.n_Less_box (T : Txt K mg A) : NoAttr K (A.r .less) "box" := T.na 10 _ rfl
theorem Txt.n_Less_saying (T : Txt K mg A) : NoAttr K (A.r .less) "saying" := T.na 11 _ rfl
theorem Txt.n_Mix_box (T : Txt K mg A) : NoAttr K (A.r .mix) "box" := T.na 12 _ rfl
theorem Txt.n_Mix_saying (T : Txt K mg A) : NoAttr K (A.r .mix) "saying" := T.na 13 _ rfl
theorem Txt.n_Swap_one (T : Txt K mg A) : NoAttr K (A.r .swap) "one" := T.na 14 _ rfl
theorem Txt.n_Swap_other (T : Txt K mg A) : NoAttr K (A.r .swap) "other" := T.na 15 _ rfl
theorem Txt.n_Turn_box (T : Txt K mg A) : NoAttr K (A.r .turn) "box" := T.na 16 _ rfl
theorem Txt.n_Turn_by (T : Txt K mg A) : NoAttr K (A.r .turn) "by" := T.na 17 _ rfl
theorem Txt.n_Push_box (T : Txt K mg A) : NoAttr K (A.r .push) "box" := T.na 18 _ rfl
theorem Txt.n_Push_stack (T : Txt K mg A) : NoAttr K (A.r .push) "stack" := T.na 19 _ rfl
theorem Txt.n_Pop_box (T : Txt K mg A) : NoAttr K (A.r .pop) "box" := T.na 20 _ rfl
theorem Txt.n_Pop_stack (T : Txt K mg A) : NoAttr K (A.r .pop) "stack" := T.na 21 _ rfl
theorem Txt.n_Call_name (T : Txt K mg A) : NoAttr K (A.r .call) "name" := T.na 22 _ rfl
theorem Txt.n_Back_name (T : Txt K mg A) : NoAttr K (A.r .back) "name" := T.na 23 _ rfl
theorem Txt.n_Choice_test (T : Txt K mg A) : NoAttr K (A.r .cho) "test" := T.na 24 _ rfl
theorem Txt.n_Choice_yes (T : Txt K mg A) : NoAttr K (A.r .cho) "yes" := T.na 25 _ rfl
theorem Txt.n_Choice_no (T : Txt K mg A) : NoAttr K (A.r .cho) "no" := T.na 26 _ rfl
theorem Txt.n_Choice_after (T : Txt K mg A) : NoAttr K (A.r .cho) "after" := T.na 27 _ rfl
theorem Txt.n_Loop_before (T : Txt K mg A) : NoAttr K (A.r .loop) "before" := T.na 28 _ rfl
theorem Txt.n_Loop_first (T : Txt K mg A) : NoAttr K (A.r .loop) "first" := T.na 29 _ rfl
theorem Txt.n_Loop_again (T : Txt K mg A) : NoAttr K (A.r .loop) "again" := T.na 30 _ rfl
theorem Txt.n_Loop_test (T : Txt K mg A) : NoAttr K (A.r .loop) "test" := T.na 31 _ rfl
theorem Txt.n_Held_box (T : Txt K mg A) : NoAttr K (A.r .held) "box" := T.na 32 _ rfl
theorem Txt.n_Held_begin (T : Txt K mg A) : NoAttr K (A.r .held) "begin" := T.na 33 _ rfl
theorem Txt.n_Held_rows (T : Txt K mg A) : NoAttr K (A.r .held) "rows" := T.na 34 _ rfl
theorem Txt.n_Held_end (T : Txt K mg A) : NoAttr K (A.r .held) "end" := T.na 35 _ rfl
theorem Txt.n_Look_boxes (T : Txt K mg A) : NoAttr K (A.Look) "boxes" := T.na 36 _ rfl
theorem Txt.n_Look_stacks (T : Txt K mg A) : NoAttr K (A.Look) "stacks" := T.na 37 _ rfl
theorem Txt.n_Look_named (T : Txt K mg A) : NoAttr K (A.Look) "named" := T.na 38 _ rfl
theorem Txt.n_Program_boxes (T : Txt K mg A) : NoAttr K (A.Program) "boxes" := T.na 39 _ rfl
theorem Txt.n_Program_stacks (T : Txt K mg A) : NoAttr K (A.Program) "stacks" := T.na 40 _ rfl
theorem Txt.n_Program_routines (T : Txt K mg A) : NoAttr K (A.Program) "routines" := T.na 41 _ rfl
theorem Txt.i_MOST_WORD (T : Txt K mg A) : ∃ t, mg "MOST_WORD" = some (.int 65535 t) := T.gi 0 _ rfl
theorem Txt.i_MOST_NAME (T : Txt K mg A) : ∃ t, mg "MOST_NAME" = some (.int 12 t) := T.gi 1 _ rfl
theorem Txt.i_MOST_PARTS (T : Txt K mg A) : ∃ t, mg "MOST_PARTS" = some (.int 30 t) := T.gi 2 _ rfl
theorem Txt.i_MOST_DEEP_sayings (T : Txt K mg A) : ∃ t, mg "MOST_DEEP_sayings" = some (.int 8 t) := T.gi 3 _ rfl
theorem Txt.i_BITS (T : Txt K mg A) : ∃ t, mg "BITS" = some (.int 16 t) := T.gi 4 _ rfl
theorem Txt.i_MOST_DEEP_rows (T : Txt K mg A) : ∃ t, mg "MOST_DEEP_rows" = some (.int 6 t) := T.gi 5 _ rfl
theorem Txt.i_MOST_BOXES (T : Txt K mg A) : ∃ t, mg "MOST_BOXES" = some (.int 12 t) := T.gi 6 _ rfl
theorem Txt.i_MOST_STACKS (T : Txt K mg A) : ∃ t, mg "MOST_STACKS" = some (.int 4 t) := T.gi 7 _ rfl
theorem Txt.i_MOST_ROUTINES (T : Txt K mg A) : ∃ t, mg "MOST_ROUTINES" = some (.int 8 t) := T.gi 8 _ rfl
theorem Txt.i_MOST_ROWS (T : Txt K mg A) : ∃ t, mg "MOST_ROWS" = some (.int 80 t) := T.gi 9 _ rfl
theorem Txt.i_MOST_DEEP_programs (T : Txt K mg A) : ∃ t, mg "MOST_DEEP_programs" = some (.int 6 t) := T.gi 10 _ rfl
theorem Txt.s_LETTERS (T : Txt K mg A) : ∃ t, mg "LETTERS" = some (.str "abcdefghijklmnopqrstuvwxyz" t) := T.gs 0 _ rfl
theorem Txt.s_FIGURES (T : Txt K mg A) : ∃ t, mg "FIGURES" = some (.str "0123456789" t) := T.gs 1 _ rfl
theorem Txt.b_isinstance (T : Txt K mg A) : mg "isinstance" = none := T.fr 0 _ rfl
theorem Txt.b_len (T : Txt K mg A) : mg "len" = none := T.fr 1 _ rfl
theorem Txt.b_abs (T : Txt K mg A) : mg "abs" = none := T.fr 2 _ rfl
theorem Txt.b_sum (T : Txt K mg A) : mg "sum" = none := T.fr 3 _ rfl
theorem Txt.b_all (T : Txt K mg A) : mg "all" = none := T.fr 4 _ rfl
theorem Txt.b_max (T : Txt K mg A) : mg "max" = none := T.fr 5 _ rfl
theorem Txt.b_int (T : Txt K mg A) : mg "int" = none := T.fr 6 _ rfl
theorem Txt.b_tuple (T : Txt K mg A) : mg "tuple" = none := T.fr 7 _ rfl
theorem Txt.b_list (T : Txt K mg A) : mg "list" = none := T.fr 8 _ rfl
theorem Txt.b_set (T : Txt K mg A) : mg "set" = none := T.fr 9 _ rfl
theorem Txt.b_dict (T : Txt K mg A) : mg "dict" = none := T.fr 10 _ rfl
theorem Txt.b_str (T : Txt K mg A) : mg "str" = none := T.fr 11 _ rfl
theorem Txt.b_bool (T : Txt K mg A) : mg "bool" = none := T.fr 12 _ rfl
theorem Txt.b_range (T : Txt K mg A) : mg "range" = none := T.fr 13 _ rfl
theorem Txt.b_enumerate (T : Txt K mg A) : mg "enumerate" = none := T.fr 14 _ rfl
theorem Txt.b_reversed (T : Txt K mg A) : mg "reversed" = none := T.fr 15 _ rfl
theorem Txt.g_Number (T : Txt K mg A) : mg "Number" = some (.ref (A.s .num)) := T.gl 0 _ rfl
theorem Txt.g_Box (T : Txt K mg A) : mg "Box" = some (.ref (A.s .box)) := T.gl 1 _ rfl
theorem Txt.g_Many (T : Txt K mg A) : mg "Many" = some (.ref (A.s .many)) := T.gl 2 _ rfl
theorem Txt.g_Top (T : Txt K mg A) : mg "Top" = some (.ref (A.s .top)) := T.gl 3 _ rfl
theorem Txt.g_Not (T : Txt K mg A) : mg "Not" = some (.ref (A.s .not)) := T.gl 4 _ rfl
theorem Txt.g_Pair (T : Txt K mg A) : mg "Pair" = some (.ref (A.s .pair)) := T.gl 5 _ rfl
theorem Txt.g_Add (T : Txt K mg A) : mg "Add" = some (.ref (A.r .add)) := T.gl 6 _ rfl
theorem Txt.g_Less (T : Txt K mg A) : mg "Less" = some (.ref (A.r .less)) := T.gl 7 _ rfl
theorem Txt.g_Mix (T : Txt K mg A) : mg "Mix" = some (.ref (A.r .mix)) := T.gl 8 _ rfl
theorem Txt.g_Swap (T : Txt K mg A) : mg "Swap" = some (.ref (A.r .swap)) := T.gl 9 _ rfl
theorem Txt.g_Turn (T : Txt K mg A) : mg "Turn" = some (.ref (A.r .turn)) := T.gl 10 _ rfl
theorem Txt.g_Push (T : Txt K mg A) : mg "Push" = some (.ref (A.r .push)) := T.gl 11 _ rfl
theorem Txt.g_Pop (T : Txt K mg A) : mg "Pop" = some (.ref (A.r .pop)) := T.gl 12 _ rfl
theorem Txt.g_Call (T : Txt K mg A) : mg "Call" = some (.ref (A.r .call)) := T.gl 13 _ rfl
theorem Txt.g_Back (T : Txt K mg A) : mg "Back" = some (.ref (A.r .back)) := T.gl 14 _ rfl
theorem Txt.g_Choice (T : Txt K mg A) : mg "Choice" = some (.ref (A.r .cho)) := T.gl 15 _ rfl
theorem Txt.g_Loop (T : Txt K mg A) : mg "Loop" = some (.ref (A.r .loop)) := T.gl 16 _ rfl
theorem Txt.g_Held (T : Txt K mg A) : mg "Held" = some (.ref (A.r .held)) := T.gl 17 _ rfl
theorem Txt.g_Saying (T : Txt K mg A) : mg "Saying" = some (.ref (A.Saying)) := T.gl 18 _ rfl
theorem Txt.g_Row (T : Txt K mg A) : mg "Row" = some (.ref (A.Row)) := T.gl 19 _ rfl
theorem Txt.g_Look (T : Txt K mg A) : mg "Look" = some (.ref (A.Look)) := T.gl 20 _ rfl
theorem Txt.g_Program (T : Txt K mg A) : mg "Program" = some (.ref (A.Program)) := T.gl 21 _ rfl
theorem Txt.g_NoWay (T : Txt K mg A) : mg "NoWay" = some (.ref (A.NoWay)) := T.gl 22 _ rfl
theorem Txt.g_WayError (T : Txt K mg A) : mg "WayError" = some (.ref (A.WayError)) := T.gl 23 _ rfl
theorem Txt.g_NoPlain (T : Txt K mg A) : mg "NoPlain" = some (.ref (A.NoPlain)) := T.gl 24 _ rfl
theorem Txt.g_NoProgram (T : Txt K mg A) : mg "NoProgram" = some (.ref (A.NoProgram)) := T.gl 25 _ rfl
theorem Txt.g_NoRow (T : Txt K mg A) : mg "NoRow" = some (.ref (A.NoRow)) := T.gl 26 _ rfl
theorem Txt.g_NoSaying (T : Txt K mg A) : mg "NoSaying" = some (.ref (A.NoSaying)) := T.gl 27 _ rfl
theorem Txt.g_NoSheet (T : Txt K mg A) : mg "NoSheet" = some (.ref (A.NoSheet)) := T.gl 28 _ rfl
theorem Txt.g_NoState (T : Txt K mg A) : mg "NoState" = some (.ref (A.NoState)) := T.gl 29 _ rfl
theorem Txt.g_NoText (T : Txt K mg A) : mg "NoText" = some (.ref (A.NoText)) := T.gl 30 _ rfl
theorem Txt.g_Stopped (T : Txt K mg A) : mg "Stopped" = some (.ref (A.Stopped)) := T.gl 31 _ rfl
theorem Txt.g_KEPT (T : Txt K mg A) : mg "KEPT" = some (.ref (A.KEPT)) := T.gl 32 _ rfl
theorem Txt.g_MORE_KEPT (T : Txt K mg A) : mg "MORE_KEPT" = some (.ref (A.MORE_KEPT)) := T.gl 33 _ rfl
theorem Txt.g_SIGNS (T : Txt K mg A) : mg "SIGNS" = some (.ref (A.SIGNS)) := T.gl 34 _ rfl
theorem Txt.is_Number_Saying (T : Txt K mg A) : PySem.W.kitOne K (.ref (A.s .num)) (.ref (A.Saying)) = some true := T.isi 0 _ rfl
theorem Txt.is_Box_Saying (T : Txt K mg A) : PySem.W.kitOne K (.ref (A.s .box)) (.ref (A.Saying)) = some true := T.isi 1 _ rfl
theorem Txt.is_Many_Saying (T : Txt K mg A) : PySem.W.kitOne K (.ref (A.s .many)) (.ref (A.Saying)) = some true := T.isi 2 _ rfl
theorem Txt.is_Top_Saying (T : Txt K mg A) : PySem.W.kitOne K (.ref (A.s .top)) (.ref (A.Saying)) = some true := T.isi 3 _ rfl
theorem Txt.is_Not_Saying (T : Txt K mg A) : PySem.W.kitOne K (.ref (A.s .not)) (.ref (A.Saying)) = some true := T.isi 4 _ rfl
theorem Txt.is_Pair_Saying (T : Txt K mg A) : PySem.W.kitOne K (.ref (A.s .pair)) (.ref (A.Saying)) = some true := T.isi 5 _ rfl
theorem Txt.is_Add_Row (T : Txt K mg A) : PySem.W.kitOne K (.ref (A.r .add)) (.ref (A.Row)) = some true := T.isi 6 _ rfl
theorem Txt.is_Less_Row (T : Txt K mg A) : PySem.W.kitOne K (.ref (A.r .less)) (.ref (A.Row)) = some true := T.isi 7 _ rfl
theorem Txt.is_Mix_Row (T : Txt K mg A) : PySem.W.kitOne K (.ref (A.r .mix)) (.ref (A.Row)) = some true := T.isi 8 _ rfl
theorem Txt.is_Swap_Row (T : Txt K mg A) : PySem.W.kitOne K (.ref (A.r .swap)) (.ref (A.Row)) = some true := T.isi 9 _ rfl
theorem Txt.is_Turn_Row (T : Txt K mg A) : PySem.W.kitOne K (.ref (A.r .turn)) (.ref (A.Row)) = some true := T.isi 10 _ rfl
theorem Txt.is_Push_Row (T : Txt K mg A) : PySem.W.kitOne K (.ref (A.r .push)) (.ref (A.Row)) = some true := T.isi 11 _ rfl
theorem Txt.is_Pop_Row (T : Txt K mg A) : PySem.W.kitOne K (.ref (A.r .pop)) (.ref (A.Row)) = some true := T.isi 12 _ rfl
theorem Txt.is_Call_Row (T : Txt K mg A) : PySem.W.kitOne K (.ref (A.r .call)) (.ref (A.Row)) = some true := T.isi 13 _ rfl
theorem Txt.is_Back_Row (T : Txt K mg A) : PySem.W.kitOne K (.ref (A.r .back)) (.ref (A.Row)) = some true := T.isi 14 _ rfl
theorem Txt.is_Choice_Row (T : Txt K mg A) : PySem.W.kitOne K (.ref (A.r .cho)) (.ref (A.Row)) = some true := T.isi 15 _ rfl
theorem Txt.is_Loop_Row (T : Txt K mg A) : PySem.W.kitOne K (.ref (A.r .loop)) (.ref (A.Row)) = some true := T.isi 16 _ rfl
theorem Txt.is_Held_Row (T : Txt K mg A) : PySem.W.kitOne K (.ref (A.r .held)) (.ref (A.Row)) = some true := T.isi 17 _ rfl
theorem Txt.is_Add_Add (T : Txt K mg A) : PySem.W.kitOne K (.ref (A.r .add)) (.ref (A.r .add)) = some true := T.isi 18 _ rfl
theorem Txt.is_Add_Less (T : Txt K mg A) : PySem.W.kitOne K (.ref (A.r .add)) (.ref (A.r .less)) = some false := T.isi 19 _ rfl
theorem Txt.is_Add_Mix (T : Txt K mg A) : PySem.W.kitOne K (.ref (A.r .add)) (.ref (A.r .mix)) = some false := T.isi 20 _ rfl
theorem Txt.is_Add_Turn (T : Txt K mg A) : PySem.W.kitOne K (.ref (A.r .add)) (.ref (A.r .turn)) = some false := T.isi 21 _ rfl
theorem Txt.is_Add_Push (T : Txt K mg A) : PySem.W.kitOne K (.ref (A.r .add)) (.ref (A.r .push)) = some false := T.isi 22 _ rfl
theorem Txt.is_Add_Pop (T : Txt K mg A) : PySem.W.kitOne K (.ref (A.r .add)) (.ref (A.r .pop)) = some false := T.isi 23 _ rfl
theorem Txt.is_Add_Swap (T : Txt K mg A) : PySem.W.kitOne K (.ref (A.r .add)) (.ref (A.r .swap)) = some false := T.isi 24 _ rfl
theorem Txt.is_Add_Call (T : Txt K mg A) : PySem.W.kitOne K (.ref (A.r .add)) (.ref (A.r .call)) = some false := T.isi 25 _ rfl
theorem Txt.is_Add_Back (T : Txt K mg A) : PySem.W.kitOne K (.ref (A.r .add)) (.ref (A.r .back)) = some false := T.isi 26 _ rfl
theorem Txt.is_Add_Held (T : Txt K mg A) : PySem.W.kitOne K (.ref (A.r .add)) (.ref (A.r .held)) = some false := T.isi 27 _ rfl
theorem Txt.is_Less_Add (T : Txt K mg A) : PySem.W.kitOne K (.ref (A.r .less)) (.ref (A.r .add)) = some false := T.isi 28 _ rfl
theorem Txt.is_Less_Less (T : Txt K mg A) : PySem.W.kitOne K (.ref (A.r .less)) (.ref (A.r .less)) = some true := T.isi 29 _ rfl
theorem Txt.is_Less_Mix (T : Txt K mg A) : PySem.W.kitOne K (.ref (A.r .less)) (.ref (A.r .mix)) = some false := T.isi 30 _ rfl
theorem Txt.is_Less_Turn (T : Txt K mg A) : PySem.W.kitOne K (.ref (A.r .less)) (.ref (A.r .turn)) = some false := T.isi 31 _ rfl
theorem Txt.is_Less_Push (T : Txt K mg A) : PySem.W.kitOne K (.ref (A.r .less)) (.ref (A.r .push)) = some false := T.isi 32 _ rfl
theorem Txt.is_Less_Pop (T : Txt K mg A) : PySem.W.kitOne K (.ref (A.r .less)) (.ref (A.r .pop)) = some false := T.isi 33 _ rfl
theorem Txt.is_Less_Swap (T : Txt K mg A) : PySem.W.kitOne K (.ref (A.r .less)) (.ref (A.r .swap)) = some false := T.isi 34 _ rfl
theorem Txt.is_Less_Call (T : Txt K mg A) : PySem.W.kitOne K (.ref (A.r .less)) (.ref (A.r .call)) = some false := T.isi 35 _ rfl
theorem Txt.is_Less_Back (T : Txt K mg A) : PySem.W.kitOne K (.ref (A.r .less)) (.ref (A.r .back)) = some false := T.isi 36 _ rfl
theorem Txt.is_Less_Held (T : Txt K mg A) : PySem.W.kitOne K (.ref (A.r .less)) (.ref (A.r .held)) = some false := T.isi 37 _ rfl
theorem Txt.is_Mix_Add (T : Txt K mg A) : PySem.W.kitOne K (.ref (A.r .mix)) (.ref (A.r .add)) = some false := T.isi 38 _ rfl
theorem Txt.is_Mix_Less (T : Txt K mg A) : PySem.W.kitOne K (.ref (A.r .mix)) (.ref (A.r .less)) = some false := T.isi 39 _ rfl
theorem Txt.is_Mix_Mix (T : Txt K mg A) : PySem.W.kitOne K (.ref (A.r .mix)) (.ref (A.r .mix)) = some true := T.isi 40 _ rfl
theorem Txt.is_Mix_Turn (T : Txt K mg A) : PySem.W.kitOne K (.ref (A.r .mix)) (.ref (A.r .turn)) = some false := T.isi 41 _ rfl
theorem Txt.is_Mix_Push (T : Txt K mg A) : PySem.W.kitOne K (.ref (A.r .mix)) (.ref (A.r .push)) = some false := T.isi 42 _ rfl
theorem Txt.is_Mix_Pop (T : Txt K mg A) : PySem.W.kitOne K (.ref (A.r .mix)) (.ref (A.r .pop)) = some false := T.isi 43 _ rfl
theorem Txt.is_Mix_Swap (T : Txt K mg A) : PySem.W.kitOne K (.ref (A.r .mix)) (.ref (A.r .swap)) = some false := T.isi 44 _ rfl
theorem Txt.is_Mix_Call (T : Txt K mg A) : PySem.W.kitOne K (.ref (A.r .mix)) (.ref (A.r .call)) = some false := T.isi 45 _ rfl
theorem Txt.is_Mix_Back (T : Txt K mg A) : PySem.W.kitOne K (.ref (A.r .mix)) (.ref (A.r .back)) = some false := T.isi 46 _ rfl
theorem Txt.is_Mix_Held (T : Txt K mg A) : PySem.W.kitOne K (.ref (A.r .mix)) (.ref (A.r .held)) = some false := T.isi 47 _ rfl
theorem Txt.is_Swap_Add (T : Txt K mg A) : PySem.W.kitOne K (.ref (A.r .swap)) (.ref (A.r .add)) = some false := T.isi 48 _ rfl
theorem Txt.is_Swap_Less (T : Txt K mg A) : PySem.W.kitOne K (.ref (A.r .swap)) (.ref (A.r .less)) = some false := T.isi 49 _ rfl
theorem Txt.is_Swap_Mix (T : Txt K mg A) : PySem.W.kitOne K (.ref (A.r .swap)) (.ref (A.r .mix)) = some false := T.isi 50 _ rfl
theorem Txt.is_Swap_Turn (T : Txt K mg A) : PySem.W.kitOne K (.ref (A.r .swap)) (.ref (A.r .turn)) = some false := T.isi 51 _ rfl
theorem Txt.is_Swap_Push (T : Txt K mg A) : PySem.W.kitOne K (.ref (A.r .swap)) (.ref (A.r .push)) = some false := T.isi 52 _ rfl
theorem Txt.is_Swap_Pop (T : Txt K mg A) : PySem.W.kitOne K (.ref (A.r .swap)) (.ref (A.r .pop)) = some false := T.isi 53 _ rfl
theorem Txt.is_Swap_Swap (T : Txt K mg A) : PySem.W.kitOne K (.ref (A.r .swap)) (.ref (A.r .swap)) = some true := T.isi 54 _ rfl
theorem Txt.is_Swap_Call (T : Txt K mg A) : PySem.W.kitOne K (.ref (A.r .swap)) (.ref (A.r .call)) = some false := T.isi 55 _ rfl
theorem Txt.is_Swap_Back (T : Txt K mg A) : PySem.W.kitOne K (.ref (A.r .swap)) (.ref (A.r .back)) = some false := T.isi 56 _ rfl
theorem Txt.is_Swap_Held (T : Txt K mg A) : PySem.W.kitOne K (.ref (A.r .swap)) (.ref (A.r .held)) = some false := T.isi 57 _ rfl
theorem Txt.is_Turn_Add (T : Txt K mg A) : PySem.W.kitOne K (.ref (A.r .turn)) (.ref (A.r .add)) = some false := T.isi 58 _ rfl
theorem Txt.is_Turn_Less (T : Txt K mg A) : PySem.W.kitOne K (.ref (A.r .turn)) (.ref (A.r .less)) = some false := T.isi 59 _ rfl
theorem Txt.is_Turn_Mix (T : Txt K mg A) : PySem.W.kitOne K (.ref (A.r .turn)) (.ref (A.r .mix)) = some false := T.isi 60 _ rfl
theorem Txt.is_Turn_Turn (T : Txt K mg A) : PySem.W.kitOne K (.ref (A.r .turn)) (.ref (A.r .turn)) = some true := T.isi 61 _ rfl
theorem Txt.is_Turn_Push (T : Txt K mg A) : PySem.W.kitOne K (.ref (A.r .turn)) (.ref (A.r .push)) = some false := T.isi 62 _ rfl
theorem Txt.is_Turn_Pop (T : Txt K mg A) : PySem.W.kitOne K (.ref (A.r .turn)) (.ref (A.r .pop)) = some false := T.isi 63 _ rfl
theorem Txt.is_Turn_Swap (T : Txt K mg A) : PySem.W.kitOne K (.ref (A.r .turn)) (.ref (A.r .swap)) = some false := T.isi 64 _ rfl
theorem Txt.is_Turn_Call (T : Txt K mg A) : PySem.W.kitOne K (.ref (A.r .turn)) (.ref (A.r .call)) = some false := T.isi 65 _ rfl
theorem Txt.is_Turn_Back (T : Txt K mg A) : PySem.W.kitOne K (.ref (A.r .turn)) (.ref (A.r .back)) = some false := T.isi 66 _ rfl
theorem Txt.is_Turn_Held (T : Txt K mg A) : PySem.W.kitOne K (.ref (A.r .turn)) (.ref (A.r .held)) = some false := T.isi 67 _ rfl
theorem Txt.is_Push_Add (T : Txt K mg A) : PySem.W.kitOne K (.ref (A.r .push)) (.ref (A.r .add)) = some false := T.isi 68 _ rfl
theorem Txt.is_Push_Less (T : Txt K mg A) : PySem.W.kitOne K (.ref (A.r .push)) (.ref (A.r .less)) = some false := T.isi 69 _ rfl
theorem Txt.is_Push_Mix (T : Txt K mg A) : PySem.W.kitOne K (.ref (A.r .push)) (.ref (A.r .mix)) = some false := T.isi 70 _ rfl
theorem Txt.is_Push_Turn (T : Txt K mg A) : PySem.W.kitOne K (.ref (A.r .push)) (.ref (A.r .turn)) = some false := T.isi 71 _ rfl
theorem Txt.is_Push_Push (T : Txt K mg A) : PySem.W.kitOne K (.ref (A.r .push)) (.ref (A.r .push)) = some true := T.isi 72 _ rfl
theorem Txt.is_Push_Pop (T : Txt K mg A) : PySem.W.kitOne K (.ref (A.r .push)) (.ref (A.r .pop)) = some false := T.isi 73 _ rfl
theorem Txt.is_Push_Swap (T : Txt K mg A) : PySem.W.kitOne K (.ref (A.r .push)) (.ref (A.r .swap)) = some false := T.isi 74 _ rfl
theorem Txt.is_Push_Call (T : Txt K mg A) : PySem.W.kitOne K (.ref (A.r .push)) (.ref (A.r .call)) = some false := T.isi 75 _ rfl
theorem Txt.is_Push_Back (T : Txt K mg A) : PySem.W.kitOne K (.ref (A.r .push)) (.ref (A.r .back)) = some false := T.isi 76 _ rfl
theorem Txt.is_Push_Held (T : Txt K mg A) : PySem.W.kitOne K (.ref (A.r .push)) (.ref (A.r .held)) = some false := T.isi 77 _ rfl
theorem Txt.is_Pop_Add (T : Txt K mg A) : PySem.W.kitOne K (.ref (A.r .pop)) (.ref (A.r .add)) = some false := T.isi 78 _ rfl
theorem Txt.is_Pop_Less (T : Txt K mg A) : PySem.W.kitOne K (.ref (A.r .pop)) (.ref (A.r .less)) = some false := T.isi 79 _ rfl
theorem Txt.is_Pop_Mix (T : Txt K mg A) : PySem.W.kitOne K (.ref (A.r .pop)) (.ref (A.r .mix)) = some false := T.isi 80 _ rfl
theorem Txt.is_Pop_Turn (T : Txt K mg A) : PySem.W.kitOne K (.ref (A.r .pop)) (.ref (A.r .turn)) = some false := T.isi 81 _ rfl
theorem Txt.is_Pop_Push (T : Txt K mg A) : PySem.W.kitOne K (.ref (A.r .pop)) (.ref (A.r .push)) = some false := T.isi 82 _ rfl
theorem Txt.is_Pop_Pop (T : Txt K mg A) : PySem.W.kitOne K (.ref (A.r .pop)) (.ref (A.r .pop)) = some true := T.isi 83 _ rfl
theorem Txt.is_Pop_Swap (T : Txt K mg A) : PySem.W.kitOne K (.ref (A.r .pop)) (.ref (A.r .swap)) = some false := T.isi 84 _ rfl
theorem Txt.is_Pop_Call (T : Txt K mg A) : PySem.W.kitOne K (.ref (A.r .pop)) (.ref (A.r .call)) = some false := T.isi 85 _ rfl
theorem Txt.is_Pop_Back (T : Txt K mg A) : PySem.W.kitOne K (.ref (A.r .pop)) (.ref (A.r .back)) = some false := T.isi 86 _ rfl
theorem Txt.is_Pop_Held (T : Txt K mg A) : PySem.W.kitOne K (.ref (A.r .pop)) (.ref (A.r .held)) = some false := T.isi 87 _ rfl
theorem Txt.is_Call_Add (T : Txt K mg A) : PySem.W.kitOne K (.ref (A.r .call)) (.ref (A.r .add)) = some false := T.isi 88 _ rfl
theorem Txt.is_Call_Less (T : Txt K mg A) : PySem.W.kitOne K (.ref (A.r .call)) (.ref (A.r .less)) = some false := T.isi 89 _ rfl
theorem Txt.is_Call_Mix (T : Txt K mg A) : PySem.W.kitOne K (.ref (A.r .call)) (.ref (A.r .mix)) = some false := T.isi 90 _ rfl
theorem Txt.is_Call_Turn (T : Txt K mg A) : PySem.W.kitOne K (.ref (A.r .call)) (.ref (A.r .turn)) = some false := T.isi 91 _ rfl
theorem Txt.is_Call_Push (T : Txt K mg A) : PySem.W.kitOne K (.ref (A.r .call)) (.ref (A.r .push)) = some false := T.isi 92 _ rfl
theorem Txt.is_Call_Pop (T : Txt K mg A) : PySem.W.kitOne K (.ref (A.r .call)) (.ref (A.r .pop)) = some false := T.isi 93 _ rfl
theorem Txt.is_Call_Swap (T : Txt K mg A) : PySem.W.kitOne K (.ref (A.r .call)) (.ref (A.r .swap)) = some false := T.isi 94 _ rfl
theorem Txt.is_Call_Call (T : Txt K mg A) : PySem.W.kitOne K (.ref (A.r .call)) (.ref (A.r .call)) = some true := T.isi 95 _ rfl
theorem Txt.is_Call_Back (T : Txt K mg A) : PySem.W.kitOne K (.ref (A.r .call)) (.ref (A.r .back)) = some false := T.isi 96 _ rfl
theorem Txt.is_Call_Held (T : Txt K mg A) : PySem.W.kitOne K (.ref (A.r .call)) (.ref (A.r .held)) = some false := T.isi 97 _ rfl
theorem Txt.is_Back_Add (T : Txt K mg A) : PySem.W.kitOne K (.ref (A.r .back)) (.ref (A.r .add)) = some false := T.isi 98 _ rfl
theorem Txt.is_Back_Less (T : Txt K mg A) : PySem.W.kitOne K (.ref (A.r .back)) (.ref (A.r .less)) = some false := T.isi 99 _ rfl
theorem Txt.is_Back_Mix (T : Txt K mg A) : PySem.W.kitOne K (.ref (A.r .back)) (.ref (A.r .mix)) = some false := T.isi 100 _ rfl
theorem Txt.is_Back_Turn (T : Txt K mg A) : PySem.W.kitOne K (.ref (A.r .back)) (.ref (A.r .turn)) = some false := T.isi 101 _ rfl
theorem Txt.is_Back_Push (T : Txt K mg A) : PySem.W.kitOne K (.ref (A.r .back)) (.ref (A.r .push)) = some false := T.isi 102 _ rfl
theorem Txt.is_Back_Pop (T : Txt K mg A) : PySem.W.kitOne K (.ref (A.r .back)) (.ref (A.r .pop)) = some false := T.isi 103 _ rfl
theorem Txt.is_Back_Swap (T : Txt K mg A) : PySem.W.kitOne K (.ref (A.r .back)) (.ref (A.r .swap)) = some false := T.isi 104 _ rfl
theorem Txt.is_Back_Call (T : Txt K mg A) : PySem.W.kitOne K (.ref (A.r .back)) (.ref (A.r .call)) = some false := T.isi 105 _ rfl
theorem Txt.is_Back_Back (T : Txt K mg A) : PySem.W.kitOne K (.ref (A.r .back)) (.ref (A.r .back)) = some true := T.isi 106 _ rfl
theorem Txt.is_Back_Held (T : Txt K mg A) : PySem.W.kitOne K (.ref (A.r .back)) (.ref (A.r .held)) = some false := T.isi 107 _ rfl
theorem Txt.is_Choice_Add (T : Txt K mg A) : PySem.W.kitOne K (.ref (A.r .cho)) (.ref (A.r .add)) = some false := T.isi 108 _ rfl
theorem Txt.is_Choice_Less (T : Txt K mg A) : PySem.W.kitOne K (.ref (A.r .cho)) (.ref (A.r .less)) = some false := T.isi 109 _ rfl
theorem Txt.is_Choice_Mix (T : Txt K mg A) : PySem.W.kitOne K (.ref (A.r .cho)) (.ref (A.r .mix)) = some false := T.isi 110 _ rfl
theorem Txt.is_Choice_Turn (T : Txt K mg A) : PySem.W.kitOne K (.ref (A.r .cho)) (.ref (A.r .turn)) = some false := T.isi 111 _ rfl
theorem Txt.is_Choice_Push (T : Txt K mg A) : PySem.W.kitOne K (.ref (A.r .cho)) (.ref (A.r .push)) = some false := T.isi 112 _ rfl
theorem Txt.is_Choice_Pop (T : Txt K mg A) : PySem.W.kitOne K (.ref (A.r .cho)) (.ref (A.r .pop)) = some false := T.isi 113 _ rfl
theorem Txt.is_Choice_Swap (T : Txt K mg A) : PySem.W.kitOne K (.ref (A.r .cho)) (.ref (A.r .swap)) = some false := T.isi 114 _ rfl
theorem Txt.is_Choice_Call (T : Txt K mg A) : PySem.W.kitOne K (.ref (A.r .cho)) (.ref (A.r .call)) = some false := T.isi 115 _ rfl
theorem Txt.is_Choice_Back (T : Txt K mg A) : PySem.W.kitOne K (.ref (A.r .cho)) (.ref (A.r .back)) = some false := T.isi 116 _ rfl
theorem Txt.is_Choice_Held (T : Txt K mg A) : PySem.W.kitOne K (.ref (A.r .cho)) (.ref (A.r .held)) = some false := T.isi 117 _ rfl
theorem Txt.is_Loop_Add (T : Txt K mg A) : PySem.W.kitOne K (.ref (A.r .loop)) (.ref (A.r .add)) = some false := T.isi 118 _ rfl
theorem Txt.is_Loop_Less (T : Txt K mg A) : PySem.W.kitOne K (.ref (A.r .loop)) (.ref (A.r .less)) = some false := T.isi 119 _ rfl
theorem Txt.is_Loop_Mix (T : Txt K mg A) : PySem.W.kitOne K (.ref (A.r .loop)) (.ref (A.r .mix)) = some false := T.isi 120 _ rfl
theorem Txt.is_Loop_Turn (T : Txt K mg A) : PySem.W.kitOne K (.ref (A.r .loop)) (.ref (A.r .turn)) = some false := T.isi 121 _ rfl
theorem Txt.is_Loop_Push (T : Txt K mg A) : PySem.W.kitOne K (.ref (A.r .loop)) (.ref (A.r .push)) = some false := T.isi 122 _ rfl
theorem Txt.is_Loop_Pop (T : Txt K mg A) : PySem.W.kitOne K (.ref (A.r .loop)) (.ref (A.r .pop)) = some false := T.isi 123 _ rfl
theorem Txt.is_Loop_Swap (T : Txt K mg A) : PySem.W.kitOne K (.ref (A.r .loop)) (.ref (A.r .swap)) = some false := T.isi 124 _ rfl
theorem Txt.is_Loop_Call (T : Txt K mg A) : PySem.W.kitOne K (.ref (A.r .loop)) (.ref (A.r .call)) = some false := T.isi 125 _ rfl
theorem Txt.is_Loop_Back (T : Txt K mg A) : PySem.W.kitOne K (.ref (A.r .loop)) (.ref (A.r .back)) = some false := T.isi 126 _ rfl
theorem Txt.is_Loop_Held (T : Txt K mg A) : PySem.W.kitOne K (.ref (A.r .loop)) (.ref (A.r .held)) = some false := T.isi 127 _ rfl
theorem Txt.is_Held_Add (T : Txt K mg A) : PySem.W.kitOne K (.ref (A.r .held)) (.ref (A.r .add)) = some false := T.isi 128 _ rfl
theorem Txt.is_Held_Less (T : Txt K mg A) : PySem.W.kitOne K (.ref (A.r .held)) (.ref (A.r .less)) = some false := T.isi 129 _ rfl
theorem Txt.is_Held_Mix (T : Txt K mg A) : PySem.W.kitOne K (.ref (A.r .held)) (.ref (A.r .mix)) = some false := T.isi 130 _ rfl
theorem Txt.is_Held_Turn (T : Txt K mg A) : PySem.W.kitOne K (.ref (A.r .held)) (.ref (A.r .turn)) = some false := T.isi 131 _ rfl
theorem Txt.is_Held_Push (T : Txt K mg A) : PySem.W.kitOne K (.ref (A.r .held)) (.ref (A.r .push)) = some false := T.isi 132 _ rfl
theorem Txt.is_Held_Pop (T : Txt K mg A) : PySem.W.kitOne K (.ref (A.r .held)) (.ref (A.r .pop)) = some false := T.isi 133 _ rfl
theorem Txt.is_Held_Swap (T : Txt K mg A) : PySem.W.kitOne K (.ref (A.r .held)) (.ref (A.r .swap)) = some false := T.isi 134 _ rfl
theorem Txt.is_Held_Call (T : Txt K mg A) : PySem.W.kitOne K (.ref (A.r .held)) (.ref (A.r .call)) = some false := T.isi 135 _ rfl
theorem Txt.is_Held_Back (T : Txt K mg A) : PySem.W.kitOne K (.ref (A.r .held)) (.ref (A.r .back)) = some false := T.isi 136 _ rfl
theorem Txt.is_Held_Held (T : Txt K mg A) : PySem.W.kitOne K (.ref (A.r .held)) (.ref (A.r .held)) = some true := T.isi 137 _ rfl
theorem Txt.is_NoWay_NoPlain (T : Txt K mg A) : PySem.W.kitOne K (.ref (A.NoWay)) (.ref (A.NoPlain)) = some false := T.isi 138 _ rfl
theorem Txt.is_NoWay_NoProgram (T : Txt K mg A) : PySem.W.kitOne K (.ref (A.NoWay)) (.ref (A.NoProgram)) = some false := T.isi 139 _ rfl
theorem Txt.is_NoWay_NoRow (T : Txt K mg A) : PySem.W.kitOne K (.ref (A.NoWay)) (.ref (A.NoRow)) = some false := T.isi 140 _ rfl
theorem Txt.is_NoWay_NoSaying (T : Txt K mg A) : PySem.W.kitOne K (.ref (A.NoWay)) (.ref (A.NoSaying)) = some false := T.isi 141 _ rfl
theorem Txt.is_NoWay_NoSheet (T : Txt K mg A) : PySem.W.kitOne K (.ref (A.NoWay)) (.ref (A.NoSheet)) = some false := T.isi 142 _ rfl
theorem Txt.is_NoWay_NoState (T : Txt K mg A) : PySem.W.kitOne K (.ref (A.NoWay)) (.ref (A.NoState)) = some false := T.isi 143 _ rfl
theorem Txt.is_NoWay_NoText (T : Txt K mg A) : PySem.W.kitOne K (.ref (A.NoWay)) (.ref (A.NoText)) = some false := T.isi 144 _ rfl
theorem Txt.is_NoWay_Stopped (T : Txt K mg A) : PySem.W.kitOne K (.ref (A.NoWay)) (.ref (A.Stopped)) = some false := T.isi 145 _ rfl
theorem Txt.is_NoWay_NoWay (T : Txt K mg A) : PySem.W.kitOne K (.ref (A.NoWay)) (.ref (A.NoWay)) = some true := T.isi 146 _ rfl
theorem Txt.ty_Number (T : Txt K mg A) : TyC K (A.s .num) := T.ty 0 _ rfl
theorem Txt.ty_Box (T : Txt K mg A) : TyC K (A.s .box) := T.ty 1 _ rfl
theorem Txt.ty_Many (T : Txt K mg A) : TyC K (A.s .many) := T.ty 2 _ rfl
theorem Txt.ty_Top (T : Txt K mg A) : TyC K (A.s .top) := T.ty 3 _ rfl
theorem Txt.ty_Not (T : Txt K mg A) : TyC K (A.s .not) := T.ty 4 _ rfl
theorem Txt.ty_Pair (T : Txt K mg A) : TyC K (A.s .pair) := T.ty 5 _ rfl
theorem Txt.ty_Add (T : Txt K mg A) : TyC K (A.r .add) := T.ty 6 _ rfl
theorem Txt.ty_Less (T : Txt K mg A) : TyC K (A.r .less) := T.ty 7 _ rfl
theorem Txt.ty_Mix (T : Txt K mg A) : TyC K (A.r .mix) := T.ty 8 _ rfl
theorem Txt.ty_Swap (T : Txt K mg A) : TyC K (A.r .swap) := T.ty 9 _ rfl
theorem Txt.ty_Turn (T : Txt K mg A) : TyC K (A.r .turn) := T.ty 10 _ rfl
theorem Txt.ty_Push (T : Txt K mg A) : TyC K (A.r .push) := T.ty 11 _ rfl
theorem Txt.ty_Pop (T : Txt K mg A) : TyC K (A.r .pop) := T.ty 12 _ rfl
theorem Txt.ty_Call (T : Txt K mg A) : TyC K (A.r .call) := T.ty 13 _ rfl
theorem Txt.ty_Back (T : Txt K mg A) : TyC K (A.r .back) := T.ty 14 _ rfl
theorem Txt.ty_Choice (T : Txt K mg A) : TyC K (A.r .cho) := T.ty 15 _ rfl
theorem Txt.ty_Loop (T : Txt K mg A) : TyC K (A.r .loop) := T.ty 16 _ rfl
theorem Txt.ty_Held (T : Txt K mg A) : TyC K (A.r .held) := T.ty 17 _ rfl
theorem Txt.ty_Look (T : Txt K mg A) : TyC K (A.Look) := T.ty 18 _ rfl
theorem Txt.ty_Program (T : Txt K mg A) : TyC K (A.Program) := T.ty 19 _ rfl
theorem Txt.t_KEPT (T : Txt K mg A) (H : Hp) : SqT K H (A.KEPT) [V.str "boxes", V.str "stacks", V.str "to", V.str "swap", V.str "turn", V.str "push", V.str "pop", V.str "call", V.str "back", V.str "if", V.str "else", V.str "told"] := T.tp 0 _ rfl H
theorem Txt.t_MORE_KEPT (T : Txt K mg A) (H : Hp) : SqT K H (A.MORE_KEPT) [V.str "loop", V.str "again", V.str "until", V.str "hold", V.str "end", V.str "not", V.str "many", V.str "top"] := T.tp 1 _ rfl H
theorem Txt.t_SIGNS (T : Txt K mg A) (H : Hp) : SqT K H (A.SIGNS) [V.str "+", V.str "-", V.str "*", V.str "/", V.str ":", V.str "&", V.str "|", V.str "^", V.str "=", V.str "<"] := T.tp 2 _ rfl H
theorem Txt.mS_size (T : Txt K mg A) : ∀ i, MthAt K (A.s i) "size" "Saying.size" s_Saying_size ["self"]
  | .num => T.m_Number_size
  | .box => T.m_Box_size
  | .many => T.m_Many_size
  | .top => T.m_Top_size
  | .not => T.m_Not_size
  | .pair => T.m_Pair_size
theorem Txt.mS_depth (T : Txt K mg A) : ∀ i, MthAt K (A.s i) "depth" "Saying.depth" s_Saying_depth ["self"]
  | .num => T.m_Number_depth
  | .box => T.m_Box_depth
  | .many => T.m_Many_depth
  | .top => T.m_Top_depth
  | .not => T.m_Not_depth
  | .pair => T.m_Pair_depth
theorem Txt.mS_box_names (T : Txt K mg A) : ∀ i, MthAt K (A.s i) "box_names" "Saying.box_names" s_Saying_box_names ["self"]
  | .num => T.m_Number_box_names
  | .box => T.m_Box_box_names
  | .many => T.m_Many_box_names
  | .top => T.m_Top_box_names
  | .not => T.m_Not_box_names
  | .pair => T.m_Pair_box_names
theorem Txt.mS_stack_names (T : Txt K mg A) : ∀ i, MthAt K (A.s i) "stack_names" "Saying.stack_names" s_Saying_stack_names ["self"]
  | .num => T.m_Number_stack_names
  | .box => T.m_Box_stack_names
  | .many => T.m_Many_stack_names
  | .top => T.m_Top_stack_names
  | .not => T.m_Not_stack_names
  | .pair => T.m_Pair_stack_names
theorem Txt.mS_need_small (T : Txt K mg A) : ∀ i, MthAt K (A.s i) "need_small" "Saying.need_small" s_Saying_need_small ["self"]
  | .num => T.m_Number_need_small
  | .box => T.m_Box_need_small
  | .many => T.m_Many_need_small
  | .top => T.m_Top_need_small
  | .not => T.m_Not_need_small
  | .pair => T.m_Pair_need_small
end
theorem bt_isinstance : bootBuiltins "isinstance" = some (.builtin "isinstance") := by decide +kernel
theorem bt_len : bootBuiltins "len" = some (.builtin "len") := by decide +kernel
theorem bt_abs : bootBuiltins "abs" = some (.builtin "abs") := by decide +kernel
theorem bt_sum : bootBuiltins "sum" = some (.builtin "sum") := by decide +kernel
theorem bt_all : bootBuiltins "all" = some (.builtin "all") := by decide +kernel
theorem bt_max : bootBuiltins "max" = some (.builtin "max") := by decide +kernel
theorem bt_int : bootBuiltins "int" = some (.type "int") := by decide +kernel
theorem bt_tuple : bootBuiltins "tuple" = some (.type "tuple") := by decide +kernel
theorem bt_list : bootBuiltins "list" = some (.type "list") := by decide +kernel
theorem bt_set : bootBuiltins "set" = some (.type "set") := by decide +kernel
theorem bt_dict : bootBuiltins "dict" = some (.type "dict") := by decide +kernel
theorem bt_str : bootBuiltins "str" = some (.type "str") := by decide +kernel
theorem bt_bool : bootBuiltins "bool" = some (.type "bool") := by decide +kernel

section
/-! # The data: sayings, rows, programs; what they tell; how objects stand for them -/
inductive Sy where
  | num (n : Int) | box (x : Str) | many (x : Str) | top (x : Str) | not (a : Sy) | pair (s : Str) (a b : Sy)
inductive CK where | add | less | mix
inductive MK where | push | pop
inductive NK where | call | back
inductive BK where | cho | loop
inductive Rw where
  | chg (k : CK) (b : Str) (e : Sy)
  | swap (a b : Str)
  | turn (b : Str) (n : Int)
  | mov (k : MK) (b s : Str)
  | nam (k : NK) (x : Str)
  | blk (k : BK) (t : Sy) (y n : List Rw) (a : Sy)
  | held (b : Str) (e : Sy) (r : List Rw) (f : Sy)
def Sy.sz : Sy → Nat
  | .not a => 1 + a.sz
  | .pair _ a b => 1 + (a.sz + b.sz)
  | _ => 1
def Sy.dp : Sy → Nat
  | .not a => 1 + a.dp
  | .pair _ a b => 1 + max a.dp b.dp
  | _ => 1
def Sy.bx : Sy → List Str
  | .box x => [x]
  | .not a => a.bx
  | .pair _ a b => a.bx ++ b.bx
  | _ => []
def Sy.st : Sy → List Str
  | .many x => [x]
  | .top x => [x]
  | .not a => a.st
  | .pair _ a b => a.st ++ b.st
  | _ => []
def Sy.told : Sy → PyData
  | .num n => .tuple [.str "number", .int n]
  | .box x => .tuple [.str "box", .str x]
  | .many x => .tuple [.str "many", .str x]
  | .top x => .tuple [.str "top", .str x]
  | .not a => .tuple [.str "not", a.told]
  | .pair s a b => .tuple [.str s, a.told, b.told]
def Sy.cls : Sy → SC
  | .num _ => .num
  | .box _ => .box
  | .many _ => .many
  | .top _ => .top
  | .not _ => .not
  | .pair _ _ _ => .pair
/-! names -/
def keptV : List V := [V.str "boxes", V.str "stacks", V.str "to", V.str "swap", V.str "turn", V.str "push", V.str "pop", V.str "call", V.str "back", V.str "if", V.str "else", V.str "told"] ++
  [V.str "loop", V.str "again", V.str "until", V.str "hold", V.str "end", V.str "not", V.str "many", V.str "top"]
def lets : List Nat := ("abcdefghijklmnopqrstuvwxyz" : Str).cps.toList
def figs : List Nat := ("abcdefghijklmnopqrstuvwxyz" ++ "0123456789" : Str).cps.toList
def nameOk (x : Str) : Bool := decide (1 ≤ x.length) && (decide (x.length ≤ 12) && (!inV (.str x) keptV && (match x.cps.toList with
  | [] => false
  | c :: _ => decide (c ∈ lets)) && x.cps.toList.all fun c => decide (c ∈ figs)))
def signs : List Str := ["+", "-", "*", "/", ":", "&", "|", "^", "=", "<"]
/-- a saying that the program takes -/
def Sy.wf : Sy → Prop
  | .num n => 0 ≤ n ∧ n ≤ 65535
  | .box x => nameOk x = true
  | .many x => nameOk x = true
  | .top x => nameOk x = true
  | .not a => a.wf
  | .pair s a b => s ∈ signs ∧ a.wf ∧ b.wf
def Sy.ok (t : Sy) : Prop := t.wf ∧ t.sz ≤ 30 ∧ t.dp ≤ 8
/-! objects -/
def OS (A : CA) (H : Hp) : Sy → V → Prop
  | .num n, v => ∃ a dx, v = .ref a ∧ H a = some (.ins (A.s .num) dx [("word", .int n)])
  | .box x, v => ∃ a dx, v = .ref a ∧ H a = some (.ins (A.s .box) dx [("name", .str x)])
  | .many x, v => ∃ a dx, v = .ref a ∧ H a = some (.ins (A.s .many) dx [("stack", .str x)])
  | .top x, v => ∃ a dx, v = .ref a ∧ H a = some (.ins (A.s .top) dx [("stack", .str x)])
  | .not t, v => ∃ a dx u, v = .ref a ∧ H a = some (.ins (A.s .not) dx [("one", u)]) ∧ OS A H t u
  | .pair s t1 t2, v => ∃ a dx u1 u2, v = .ref a ∧ H a = some (.ins (A.s .pair) dx [("sign", .str s), ("one", u1), ("other", u2)]) ∧ OS A H t1 u1 ∧ OS A H t2 u2
theorem OS.sm {A : CA} {H H' : Hp} (e : Same H H') : ∀ {t : Sy} {v : V}, OS A H t v → OS A H' t v
  | .num _, _, ⟨a, dx, h1, h2⟩ => ⟨a, dx, h1, e _ _ h2⟩
  | .box _, _, ⟨a, dx, h1, h2⟩ => ⟨a, dx, h1, e _ _ h2⟩
  | .many _, _, ⟨a, dx, h1, h2⟩ => ⟨a, dx, h1, e _ _ h2⟩
  | .top _, _, ⟨a, dx, h1, h2⟩ => ⟨a, dx, h1, e _ _ h2⟩
  | .not _, _, ⟨a, dx, u, h1, h2, h3⟩ => ⟨a, dx, u, h1, e _ _ h2, h3.sm e⟩
  | .pair _ _ _, _, ⟨a, dx, u1, u2, h1, h2, h3, h4⟩ => ⟨a, dx, u1, u2, h1, e _ _ h2, h3.sm e, h4.sm e⟩
/-- the object at hand: its class by its kind, no method among its fields -/
theorem OS.obj {A : CA} {H : Hp} {t : Sy} {v : V} (h : OS A H t v) : ∃ a dx fs, v = .ref a ∧ H a = some (.ins (A.s t.cls) dx fs) ∧ ∀ m : Str, (["word", "name", "stack", "one", "sign", "other"] : List Str).contains m = false → fs.lookup m = none := by
  have nl : ∀ {ks : List (Str × V)} {m : Str}, (∀ p ∈ ks, p.1 ∈ (["word", "name", "stack", "one", "sign", "other"] : List Str)) → (["word", "name", "stack", "one", "sign", "other"] : List Str).contains m = false → ks.lookup m = none := by
    intro ks m hk hm
    induction ks with
    | nil => rfl
    | cons p r ih =>
      obtain ⟨k, x⟩ := p
      rw [List.lookup_cons]
      have hne : (m == k) = false := by
        cases e : m == k with
        | false => rfl
        | true =>
          have e' : m = k := eq_of_beq e
          have z := hk (k, x) List.mem_cons_self
          rw [← e'] at z
          rw [List.contains_iff_mem.mpr z] at hm
          cases hm
      rw [hne]
      exact ih fun p hp => hk p (List.mem_cons_of_mem _ hp)
  cases t with
  | num n => obtain ⟨a, dx, h1, h2⟩ := h; exact ⟨a, dx, _, h1, h2, fun m hm => nl (by simp) hm⟩
  | box n => obtain ⟨a, dx, h1, h2⟩ := h; exact ⟨a, dx, _, h1, h2, fun m hm => nl (by simp) hm⟩
  | many n => obtain ⟨a, dx, h1, h2⟩ := h; exact ⟨a, dx, _, h1, h2, fun m hm => nl (by simp) hm⟩
  | top n => obtain ⟨a, dx, h1, h2⟩ := h; exact ⟨a, dx, _, h1, h2, fun m hm => nl (by simp) hm⟩
  | not t => obtain ⟨a, dx, u, h1, h2, _⟩ := h; exact ⟨a, dx, _, h1, h2, fun m hm => nl (by simp) hm⟩
  | pair s t1 t2 => obtain ⟨a, dx, u1, u2, h1, h2, _⟩ := h; exact ⟨a, dx, _, h1, h2, fun m hm => nl (by simp) hm⟩

/-! ### data in tuples -/
section
variable {K : PySem.W.Frag} {H H' : Hp}
mutual
theorem dp_sm (e : Same H H') : ∀ (d : PyData) (v : V), Dp K H v d → Dp K H' v d
  | .none, _, h => by cases h; exact .non
  | .bool b, _, h => by cases h; exact .bl b
  | .int i, _, h => by cases h; exact .int i
  | .str x, _, h => by cases h; exact .str x
  | .list ds, _, h => by
    cases h with
    | lst h1 h2 => exact .lst (e.seq h1) (dpAll_sm e ds _ h2)
  | .tuple ds, _, h => by
    cases h with
    | tup h1 h2 => exact .tup (seqT_sm e h1) (dpAll_sm e ds _ h2)
  | .dict _, _, h => by cases h
theorem dpAll_sm (e : Same H H') : ∀ (ds : List PyData) (vs : List V), DpAll K H vs ds → DpAll K H' vs ds
  | [], _, h => by cases h; exact .nil
  | d :: ds, _, h => by
    cases h with
    | cons h1 h2 => exact .cons (dp_sm e d _ h1) (dpAll_sm e ds _ h2)
end
/-! no list within -/
mutual
def noL : PyData → Bool
  | .list _ => false
  | .dict _ => false
  | .tuple ds => noLs ds
  | _ => true
def noLs : List PyData → Bool
  | [] => true
  | d :: ds => noL d && noLs ds
end
mutual
theorem dp_kp {M : List Addr} (e : Kp M H H') : ∀ (d : PyData) (v : V), noL d = true → Dp K H v d → Dp K H' v d
  | .none, _, _, h => by cases h; exact .non
  | .bool b, _, _, h => by cases h; exact .bl b
  | .int i, _, _, h => by cases h; exact .int i
  | .str x, _, _, h => by cases h; exact .str x
  | .list ds, _, z, _ => by cases z
  | .tuple ds, _, z, h => by
    cases h with
    | tup h1 h2 => exact .tup (seqT_kp e h1) (dpAll_kp e ds _ z h2)
  | .dict _, _, z, _ => by cases z
theorem dpAll_kp {M : List Addr} (e : Kp M H H') : ∀ (ds : List PyData) (vs : List V), noLs ds = true → DpAll K H vs ds → DpAll K H' vs ds
  | [], _, _, h => by cases h; exact .nil
  | d :: ds, _, z, h => by
    obtain ⟨z1, z2⟩ := Bool.and_eq_true_iff.mp (show (noL d && noLs ds) = true from z)
    cases h with
    | cons h1 h2 => exact .cons (dp_kp e d _ z1 h1) (dpAll_kp e ds _ z2 h2)
end
theorem noL_told : ∀ t : Sy, noL t.told = true
  | .num _ => rfl
  | .box _ => rfl
  | .many _ => rfl
  | .top _ => rfl
  | .not a => by
    have h := noL_told a
    show (true && (noL a.told && true)) = true
    rw [h] <;> rfl
  | .pair _ a b => by
    have h1 := noL_told a
    have h2 := noL_told b
    show (true && (noL a.told && (noL b.told && true))) = true
    rw [h1, h2] <;> rfl
theorem tyx_tup {a : Addr} {xs : List V} (h : SqT K H a xs) : TyX K H (.ref a) (.type "tuple") := by
  rcases h with (h | ⟨o, h⟩) | ⟨o, its, n, h, hc, _⟩
  · exact .base (.tup h)
  · exact .fTuple h
  · exact .kTuple h hc
theorem dp_tup {v : V} {ds : List PyData} (h : Dp K H v (.tuple ds)) : ∃ a xs, v = .ref a ∧ SqT K H a xs ∧ DpAll K H xs ds := by
  cases h with
  | tup h1 h2 => exact ⟨_, _, rfl, h1, h2⟩
theorem dp_str {v : V} {x : Str} (h : Dp K H v (.str x)) : v = .str x := by cases h; rfl
theorem dp_int {v : V} {x : Int} (h : Dp K H v (.int x)) : v = .int x := by cases h; rfl
theorem dpA_nil {vs : List V} (h : DpAll K H vs []) : vs = [] := by cases h; rfl
theorem dpA_cons {vs : List V} {d : PyData} {ds : List PyData} (h : DpAll K H vs (d :: ds)) : ∃ v r, vs = v :: r ∧ Dp K H v d ∧ DpAll K H r ds := by
  cases h with
  | cons h1 h2 => exact ⟨_, _, rfl, h1, h2⟩
/-- two, three parts -/
theorem dp_two {v : V} {d e : PyData} (h : Dp K H v (.tuple [d, e])) : ∃ a x y, v = .ref a ∧ SqT K H a [x, y] ∧ Dp K H x d ∧ Dp K H y e := by
  obtain ⟨a, xs, rfl, hs, hd⟩ := dp_tup h
  obtain ⟨x, r, rfl, h1, hd⟩ := dpA_cons hd
  obtain ⟨y, r, rfl, h2, hd⟩ := dpA_cons hd
  cases dpA_nil hd
  exact ⟨a, x, y, rfl, hs, h1, h2⟩
theorem dp_three {v : V} {d e f : PyData} (h : Dp K H v (.tuple [d, e, f])) : ∃ a x y z, v = .ref a ∧ SqT K H a [x, y, z] ∧ Dp K H x d ∧ Dp K H y e ∧ Dp K H z f := by
  obtain ⟨a, xs, rfl, hs, hd⟩ := dp_tup h
  obtain ⟨x, r, rfl, h1, hd⟩ := dpA_cons hd
  obtain ⟨y, r, rfl, h2, hd⟩ := dpA_cons hd
  obtain ⟨z, r, rfl, h3, hd⟩ := dpA_cons hd
  cases dpA_nil hd
  exact ⟨a, x, y, z, rfl, hs, h1, h2, h3⟩
theorem dp_five {v : V} {d e f g i : PyData} (h : Dp K H v (.tuple [d, e, f, g, i])) : ∃ a x y z u t, v = .ref a ∧ SqT K H a [x, y, z, u, t] ∧ Dp K H x d ∧ Dp K H y e ∧ Dp K H z f ∧ Dp K H u g ∧ Dp K H t i := by
  obtain ⟨a, xs, rfl, hs, hd⟩ := dp_tup h
  obtain ⟨x, r, rfl, h1, hd⟩ := dpA_cons hd
  obtain ⟨y, r, rfl, h2, hd⟩ := dpA_cons hd
  obtain ⟨z, r, rfl, h3, hd⟩ := dpA_cons hd
  obtain ⟨u, r, rfl, h4, hd⟩ := dpA_cons hd
  obtain ⟨t, r, rfl, h5, hd⟩ := dpA_cons hd
  cases dpA_nil hd
  exact ⟨a, x, y, z, u, t, rfl, hs, h1, h2, h3, h4, h5⟩
/-! isinstance against built-in types -/
theorem ki_tt : PySem.W.kitOne K (.type "tuple") (.type "tuple") = some true := kit_ty (by decide +kernel)
theorem ki_ss : PySem.W.kitOne K (.type "str") (.type "str") = some true := kit_ty (by decide +kernel)
theorem ki_ii : PySem.W.kitOne K (.type "int") (.type "int") = some true := kit_ty (by decide +kernel)
theorem ki_ib : PySem.W.kitOne K (.type "int") (.type "bool") = some false := kit_ty (by decide +kernel)
theorem ki_bb : PySem.W.kitOne K (.type "bool") (.type "bool") = some true := kit_ty (by decide +kernel)
theorem ki_st : PySem.W.kitOne K (.type "str") (.type "tuple") = some false := kit_ty (by decide +kernel)
theorem ki_it : PySem.W.kitOne K (.type "int") (.type "tuple") = some false := kit_ty (by decide +kernel)
end
/-- nothing at M is an instance -/
def NoIns (M : List Addr) (H : Hp) : Prop := ∀ b ∈ M, ∀ C dx fs, H b ≠ some (.ins C dx fs)
theorem noIns_lst {H : Hp} {D : Addr} {xs : List V} (h : H D = some (.lst xs)) : NoIns [D] H := fun b hb C dx fs e => by
  have z : b = D := by simpa using hb
  rw [z, h] at e
  cases e
theorem OS.kp {A : CA} {M : List Addr} {H H' : Hp} (e : Kp M H H') (n : NoIns M H) : ∀ {t : Sy} {v : V}, OS A H t v → OS A H' t v
  | .num _, _, ⟨a, dx, h1, h2⟩ => ⟨a, dx, h1, e.all _ _ h2 fun z => n _ z _ _ _ h2⟩
  | .box _, _, ⟨a, dx, h1, h2⟩ => ⟨a, dx, h1, e.all _ _ h2 fun z => n _ z _ _ _ h2⟩
  | .many _, _, ⟨a, dx, h1, h2⟩ => ⟨a, dx, h1, e.all _ _ h2 fun z => n _ z _ _ _ h2⟩
  | .top _, _, ⟨a, dx, h1, h2⟩ => ⟨a, dx, h1, e.all _ _ h2 fun z => n _ z _ _ _ h2⟩
  | .not _, _, ⟨a, dx, u, h1, h2, h3⟩ => ⟨a, dx, u, h1, e.all _ _ h2 fun z => n _ z _ _ _ h2, h3.kp e n⟩
  | .pair _ _ _, _, ⟨a, dx, u1, u2, h1, h2, h3, h4⟩ => ⟨a, dx, u1, u2, h1, e.all _ _ h2 fun z => n _ z _ _ _ h2, h3.kp e n, h4.kp e n⟩
/-- behind the stores of an instance that has no field yet -/
theorem OS.kpx {A : CA} {H H' : Hp} {x C dx : Addr} {t : Sy} {v : V} (h : OS A H t v) (hx : H x = some (.ins C dx [])) (k : Kp [x] H H') : OS A H' t v := by
  have key : ∀ {a : Addr} {C' dx' : Addr} {f : Str × V} {fs : List (Str × V)}, H a = some (.ins C' dx' (f :: fs)) → H' a = some (.ins C' dx' (f :: fs)) := fun {a C' dx' f fs} e => k.all _ _ e (by
    intro z
    have z' : a = x := by simpa using z
    rw [z', hx] at e
    cases e)
  induction t generalizing v with
  | num n => obtain ⟨a, d, h1, h2⟩ := h; exact ⟨a, d, h1, key h2⟩
  | box n => obtain ⟨a, d, h1, h2⟩ := h; exact ⟨a, d, h1, key h2⟩
  | many n => obtain ⟨a, d, h1, h2⟩ := h; exact ⟨a, d, h1, key h2⟩
  | top n => obtain ⟨a, d, h1, h2⟩ := h; exact ⟨a, d, h1, key h2⟩
  | not t ih => obtain ⟨a, d, u, h1, h2, h3⟩ := h; exact ⟨a, d, u, h1, key h2, ih h3⟩
  | pair s t1 t2 ih1 ih2 => obtain ⟨a, d, u1, u2, h1, h2, h3, h4⟩ := h; exact ⟨a, d, u1, u2, h1, key h2, ih1 h3, ih2 h4⟩
/-! ### comprehensions: every element gives one value -/
section
variable {J : It} {n : Nat} {G : Hp → Prop} {Y : Nat → Hp → V → Hp → Prop} {g : TG} {tt : TT} {te : TE} {vs : List Nat} {σ : L2.St} {H1 : Hp} {D : Addr} {Qd : Hp → Prop}
/-- R j y H: y is what turn j gave -/
theorem lc_map (w : Walk J n G Y) (R : Nat → V → Hp → Prop) (nD : H1 D = none) (hn : n ≤ 1000) (hR : ∀ j y H H', Kp [D] H H' → NoIns [D] H → R j y H → R j y H') (hG : ∀ H, Same H1 H → G H)
    (hs : ∀ i x H H' (F : V → Hp → Prop) (Z : Hp → Prop), i < n → Same H1 H → Y i H x H' → (∀ y H4, Same H' H4 → R i y H4 → F y H4) → Same H H' ∧ g x (wipe σ vs) H' fun σ2 H2 => wipe σ2 vs = wipe σ vs ∧ tt σ2 H2 fun b H3 => if b = true then te σ2 H3 F else Z H3)
    (hd : ∀ ys H, Same H1 H → H D = some (.lst ys) → ys.length = n → (∀ j y, ys[j]? = some y → R j y H) → Qd H) :
    ∃ W : Nat → Nat → Hp → Prop, (∃ m, W 0 m (upd H1 D (.lst []))) ∧ ∀ i m H, W i m H →
      (J.stop i H ∧ Qd H) ∨ (J.go i H ∧ ∃ Nx : Hp → Prop, (∀ H', Nx H' → ∃ m', m' < m ∧ W (i + 1) m' H') ∧ ∀ x H', J.yld i H x H' → g x (wipe σ vs) H' fun σ2 H2 => wipe σ2 vs = wipe σ vs ∧ tt σ2 H2 fun b H3 =>
        if b = true then te σ2 H3 fun y H4 => ∃ acc, H4 D = some (.lst acc) ∧ acc.length < sizeLine ∧ Nx (upd H4 D (.lst (acc ++ [y]))) else Nx H3) := by
  refine lc_it w (fun i H => ∃ ys, Same H1 H ∧ H D = some (.lst ys) ∧ ys.length = i ∧ ∀ j y, ys[j]? = some y → R j y H) ⟨[], sm_new nD, upd_same, rfl, fun j y e => by simp at e⟩ (fun i H _ ⟨_, e, _⟩ => hG H e) ?_ ?_
  · rintro i x H H' hi ⟨ys, e, hD, hl, hr⟩ y
    have key : ∀ y H4, Same H' H4 → R i y H4 → Same H H' → ∃ acc, H4 D = some (.lst acc) ∧ acc.length < sizeLine ∧ ∃ ys, Same H1 (upd H4 D (.lst (acc ++ [y]))) ∧ upd H4 D (.lst (acc ++ [y])) D = some (.lst ys) ∧ ys.length = i + 1 ∧ ∀ j z, ys[j]? = some z → R j z (upd H4 D (.lst (acc ++ [y]))) := by
      intro y1 H4 e4 r4 e'
      have hD4 := e4 _ _ (e' _ _ hD)
      have kD : Kp [D] H4 (upd H4 D (.lst (ys ++ [y1]))) := Kp.put hD4 (by simp) (fun _ z => by cases z) (fun _ _ z => by cases z)
      refine ⟨ys, hD4, by have := small1000 hn; omega, ys ++ [y1], sm_put ((e.trans e').trans e4) nD, upd_same, by simp [hl], fun j z ej => ?_⟩
      rcases Nat.lt_or_ge j ys.length with c | c
      · rw [List.getElem?_append_left c] at ej
        exact hR j z _ _ kD (noIns_lst hD4) (hR j z _ _ (sm_kp (e'.trans e4)) (noIns_lst hD) (hr j z ej))
      · rw [List.getElem?_append_right c] at ej
        have ej0 : j - ys.length = 0 := by
          rcases Nat.eq_zero_or_pos (j - ys.length) with z | z
          · exact z
          · rw [List.getElem?_eq_none (by simp; omega)] at ej
            cases ej
        rw [ej0] at ej
        have ez : y1 = z := by simpa using ej
        have ei : j = i := by omega
        subst ez
        subst ei
        exact hR j y1 _ _ kD (noIns_lst hD4) r4
    obtain ⟨e', _⟩ := hs i x H H' (fun _ _ => True) (fun _ => True) hi e y (fun _ _ _ _ => trivial)
    exact (hs i x H H' _ _ hi e y fun y H4 e4 r4 => key y H4 e4 r4 e').2
  · rintro H ⟨ys, e, hD, hl, hr⟩
    exact hd ys H e hD hl hr
end
section
variable {K : PySem.W.Frag} {σ : L2.St} {H : Hp} {Q : VK} {tw te : TE} {g : TG} {tt : TT} {vs : List Nat} {D : Ends} {tb : TS}
/-- what a comprehension asks of its walk -/
def LcW (g : TG) (tt : TT) (te : TE) (vs : List Nat) (σ : L2.St) (Q : VK) (J : It) (H1 : Hp) : Prop := ∀ D, H1 D = none → ∃ W : Nat → Nat → Hp → Prop, (∃ m, W 0 m (upd H1 D (.lst []))) ∧ ∀ i m H, W i m H →
      (J.stop i H ∧ Q (.ref D) H) ∨ (J.go i H ∧ ∃ Nx : Hp → Prop, (∀ H', Nx H' → ∃ m', m' < m ∧ W (i + 1) m' H') ∧ ∀ x H', J.yld i H x H' → g x (wipe σ vs) H' fun σ2 H2 => wipe σ2 vs = wipe σ vs ∧ tt σ2 H2 fun b H3 =>
        if b = true then te σ2 H3 fun y H4 => ∃ acc, H4 D = some (.lst acc) ∧ acc.length < sizeLine ∧ Nx (upd H4 D (.lst (acc ++ [y]))) else Nx H3)
theorem rd_lc_l (q : tw σ H fun v H1 => ∃ a, v = .ref a ∧ (∃ xs, SqL K H1 a xs) ∧ LcW g tt te vs σ Q (Itl K a) H1) : tLc (iAny K tw) g tt te vs σ H Q := .inl q
theorem rd_lc_t (q : tw σ H fun v H1 => ∃ a, v = .ref a ∧ (∃ xs, SqT K H1 a xs) ∧ LcW g tt te vs σ Q (Itt K a) H1) : tLc (iAny K tw) g tt te vs σ H Q := .inr (.inl q)
theorem rd_lc_s (q : tw σ H fun v H1 => ∃ x, v = .str x ∧ LcW g tt te vs σ Q (Its x) H1) : tLc (iAny K tw) g tt te vs σ H Q := .inr (.inr q)
theorem rd_lc_rt (q : tw σ H fun v H1 => ∃ a xs, v = .ref a ∧ ((SqL K H1 a xs ∧ LcW g tt te vs σ Q (Itv K a xs.length) H1) ∨ (SqT K H1 a xs ∧ LcW g tt te vs σ Q (RT.ItvT K a xs.length) H1))) : tLc (RT.iRevA K tw) g tt te vs σ H Q := q
/-- what a for asks of its walk -/
def ForW (g : TG) (tb : TS) (D : Ends) (σ : L2.St) (J : It) (H1 : Hp) : Prop := ∃ W : Nat → Nat → L2.St → Hp → Prop, (∃ m, W 0 m σ H1) ∧ ∀ i m σ H, W i m σ H →
  (J.stop i H ∧ D.nx σ H) ∨ (J.go i H ∧ ∃ N : L2.St → Hp → Prop, (∀ σ' H', N σ' H' → ∃ m', m' < m ∧ W (i + 1) m' σ' H') ∧ ∀ x H', J.yld i H x H' → g x σ H' fun σ2 H2 => tb { D with nx := N, ct := N, bk := D.nx } σ2 H2)
theorem rd_for_l (q : tw σ H fun v H1 => ∃ a, v = .ref a ∧ (∃ xs, SqL K H1 a xs) ∧ ForW g tb D σ (Itl K a) H1) : tFor (iAny K tw) g tb D σ H := .inl q
theorem rd_for_t (q : tw σ H fun v H1 => ∃ a, v = .ref a ∧ (∃ xs, SqT K H1 a xs) ∧ ForW g tb D σ (Itt K a) H1) : tFor (iAny K tw) g tb D σ H := .inr (.inl q)
theorem walk_revT {a : Addr} {xs : List V} : Walk (RT.ItvT K a xs.length) xs.length (fun H => SqT K H a xs) (fun i H x H' => H' = H ∧ xs[xs.length - 1 - i]? = some x) :=
  ⟨fun i _ hi q => ⟨hi, xs, xs[xs.length - 1 - i]'(by omega), q, List.getElem?_eq_getElem (by omega)⟩, fun _ _ => Nat.le_refl _, fun _ _ _ _ _ q y => ⟨y.1, y.2 xs q⟩⟩
theorem rd_tupOf {a : Addr} {ys : List V} (h : SqL K H a ys) (q : ∀ p H2, H p = none → Same H H2 → H2 p = some (.tup ys) → Q (.ref p) H2) : rTupOf K [.ref a] H Q := ⟨a, ys, rfl, .inl ⟨h, rd_new1 q⟩⟩
/-- all(..) of truths -/
theorem bl_rep : ∀ {ys : List V}, (∀ (j : Nat) y, ys[j]? = some y → y = .bl true) → ys = (List.replicate ys.length true).map V.bl
  | [], _ => rfl
  | y :: r, h => by
    have e := h 0 y rfl
    have ih := bl_rep (ys := r) fun j z hz => h (j + 1) z hz
    subst e
    rw [List.length_cons, List.replicate_succ, List.map_cons, ← ih]
theorem all_rep (n : Nat) : (List.replicate n true).all id = true := by
  rw [List.all_eq_true]
  intro b hb
  exact (List.mem_replicate.mp hb).2
theorem rd_all {a : Addr} {ys : List V} (h : H a = some (.lst ys)) (e : ∀ (j : Nat) y, ys[j]? = some y → y = .bl true) (q : Q (.bl true) H) : rAll K [.ref a] H Q := by
  refine ⟨a, List.replicate ys.length true, rfl, ?_, ?_⟩
  · rw [← bl_rep e]
    exact SqL.of h
  · rw [all_rep]
    exact q
end
theorem rd_yes {σ : L2.St} {H : Hp} {R : Bool → Hp → Prop} (q : R true H) : tYes σ H R := q

end

local macro_rules | `(tactic| walk_at "rd1") => `(tactic| first
  | with_reducible refine rd_seq ?_
  | with_reducible refine rd_asg ?_
  | with_reducible refine rd_name ?_
  | ((with_reducible refine' rd_var ?hv ?_); (case hv => exact rfl))
  | with_reducible refine rd_c ?_
  | ((with_reducible refine' rd_aug ?hv ?_); (case hv => exact rfl))
  | with_reducible refine rd_iadd_i ?_
  | with_reducible refine rd_op ?_
  | with_reducible refine rd_ifS ?_
  | with_reducible refine rd_test ?_
  | with_reducible refine rd_B ?_
  | with_reducible refine rd_yes ?_
  | with_reducible refine rd_bl ?_
  | with_reducible refine rd_T ?_
  | with_reducible refine rd_F ?_
  | with_reducible refine rd_nT ?_
  | with_reducible refine rd_nF ?_
  | with_reducible refine rd_and ?_
  | with_reducible refine rd_or ?_
  | with_reducible refine rd_not ?_
  | with_reducible refine rd_nx ?_
  | with_reducible refine rd_ret ?_
  | with_reducible refine rd_cons ?_
  | with_reducible refine rd_nil ?_
  | with_reducible refine rd_call ?_
  | with_reducible refine rd_cb ?_
  | with_reducible refine rd_dyn ?_
  | with_reducible refine rd_meth ?_
  | with_reducible refine rd_make ?_
  | with_reducible refine rd_tup ?_
  | with_reducible refine rd_lst ?_
  | with_reducible refine rd_fld ?_
  | with_reducible refine rd_fldE ?_
  | with_reducible refine rd_andV ?_
  | with_reducible refine rd_orV ?_
  | with_reducible refine rd_notV ?_
  | with_reducible refine rd_if ?_
  | with_reducible refine rd_chain ?_
  | with_reducible refine rd_drop ?_
  | with_reducible refine rd_sl ?_
  | with_reducible refine rd_noPart ?_
  | with_reducible refine rd_part ?_
  | with_reducible refine rd_int ?_
  | with_reducible refine rd_I0 ?_
  | with_reducible refine rd_plus_i ?_
  | with_reducible refine rd_eq_i ?_
  | with_reducible refine rd_eq_str ?_
  | with_reducible refine rd_ne_i ?_
  | with_reducible refine rd_ne_str ?_
  | ((with_reducible refine' rd_decT ?hd ?_); (case hd => walk_at "dec"))
  | ((with_reducible refine' rd_decF ?hd ?_); (case hd => walk_at "dec"))
  | ((with_reducible refine' rd_ndecT ?hd ?_); (case hd => walk_at "dec"))
  | ((with_reducible refine' rd_ndecF ?hd ?_); (case hd => walk_at "dec")))
local macro_rules | `(tactic| walk_at "rd") => `(tactic| repeat walk_at "rd1")
local macro_rules | `(tactic| walk_at "dec") => `(tactic| first
  | assumption
  | omega
  | (simp only [List.length_cons, List.length_nil]; omega)
  | decide +kernel)
local macro_rules | `(tactic| walk_at "ix") => `(tactic| first
  | exact atI_nat (j := 0) rfl
  | exact atI_nat (j := 1) rfl
  | exact atI_nat (j := 2) rfl
  | exact atI_nat (j := 3) rfl
  | exact atI_nat (j := 4) rfl)
local macro_rules | `(tactic| walk_at "rt1") => `(tactic| first
  | walk_at "rd1"
  | ((with_reducible refine' rd_isi (.ty _) (tyx_tup ?hs) ki_tt ?_); (case hs => assumption))
  | with_reducible refine rd_isi (.ty _) (.base (.str _)) ki_ss ?_
  | ((with_reducible refine' rd_len_t ?hs ?_); (case hs => assumption))
  | ((with_reducible refine' rd_ix_t ?hs ?he ?_); (case hs => assumption); (case he => walk_at "ix")))
local macro_rules | `(tactic| walk_at "rt") => `(tactic| repeat walk_at "rt1")

section
/-! # words.py -/
section
variable {P : Program} {w : World} {K : PySem.W.Frag} {mg : Str → Option Value} {base : Heap} {A : CA}
theorem AliAt.ok {x q : Str} {st : Stmt} {N ps : List Str} {k : Nat} {sp : Sp} (d : AliAt K mg x q st ps) (S : FnScope N ps (defScope st)) (len : ∀ vs H Q E, sp vs H Q E → vs.length = ps.length)
    (hbody : ∀ (f : Addr) (cdv : Value) (A : Around) (outer : List Env) (s : Shared) (H : Hp) (vs : List V) (Q : VK) (E : XK), Room k (A.deeper (envOfC q (defScope st) s.heap.objs.size f cdv)) → sp vs H Q E →
      ∃ t, PSs (cxOf CX0 P w K mg base N q (defScope st) f cdv A outer s H E).nox (defBody st) t ∧ t { nx := fun _ H' => Q .non H', rt := Q } (start N vs) H) : Cal P w K mg base CX0 x (k + 1) ps sp := by
  obtain ⟨f, fd, F, g, b⟩ := d
  exact ⟨f, fd, F.ok S len fun cdv A outer s H vs Q E hr h => hbody f cdv A outer s H vs Q E hr h, g, F.kp, b⟩
/-- a known value, and what stood stands -/
def Rt (H : Hp) (Q : VK) (v : V) : Prop := ∀ H', Same H H' → Q v H'
theorem Rt.go {H H' : Hp} {Q : VK} {v : V} (q : Rt H Q v) (e : Same H H') : Rt H' Q v := fun H2 e2 => q H2 (e.trans e2)
def spWhole : Sp := fun vs H Q _ => ∃ i : Int, vs = [.int i] ∧ Rt H Q (.bl true)
theorem ok_whole_words (T : Txt K mg A) : Cal P w K mg base CX0 "is_whole_words" 1 ["thing"] spWhole := by
  refine T.d_is_whole_words.ok sc_is_whole19 (fun vs H Q E h => ?_) (fun f cdv Ar outer s H vs Q E hr h => ?_)
  · obtain ⟨i, rfl, _⟩ := h
    rfl
  obtain ⟨i, rfl, q⟩ := h
  refine ⟨_, (pss_one (ps_ret (pe_and (pe_callB (k_isi K) (by rfl) T.b_isinstance bt_isinstance (pa_cons (pv 0) (pa_cons (pe_bltn (v := .ty "int") (by rfl) T.b_int bt_int rfl) pa_nil))) (pe_one (pe_not (pe_callB (k_isi K) (by rfl) T.b_isinstance bt_isinstance (pa_cons (pv 0) (pa_cons (pe_bltn (v := .ty "bool") (by rfl) T.b_bool bt_bool rfl) pa_nil)))))))), ?_⟩
  walk_at "rd"
  refine rd_isi (.ty _) (.base (.int _)) ki_ii ?_
  walk_at "rd"
  refine rd_isi (.ty _) (.base (.int _)) ki_ib ?_
  walk_at "rd"
  exact q _ (Same.refl _)
theorem ok_whole_rows (T : Txt K mg A) : Cal P w K mg base CX0 "is_whole_rows" 1 ["thing"] spWhole := by
  refine T.d_is_whole_rows.ok sc_is_whole43 (fun vs H Q E h => ?_) (fun f cdv Ar outer s H vs Q E hr h => ?_)
  · obtain ⟨i, rfl, _⟩ := h
    rfl
  obtain ⟨i, rfl, q⟩ := h
  refine ⟨_, (pss_one (ps_ret (pe_and (pe_callB (k_isi K) (by rfl) T.b_isinstance bt_isinstance (pa_cons (pv 0) (pa_cons (pe_bltn (v := .ty "int") (by rfl) T.b_int bt_int rfl) pa_nil))) (pe_one (pe_not (pe_callB (k_isi K) (by rfl) T.b_isinstance bt_isinstance (pa_cons (pv 0) (pa_cons (pe_bltn (v := .ty "bool") (by rfl) T.b_bool bt_bool rfl) pa_nil)))))))), ?_⟩
  walk_at "rd"
  refine rd_isi (.ty _) (.base (.int _)) ki_ii ?_
  walk_at "rd"
  refine rd_isi (.ty _) (.base (.int _)) ki_ib ?_
  walk_at "rd"
  exact q _ (Same.refl _)
def spWord : Sp := fun vs H Q _ => ∃ i : Int, vs = [.int i] ∧ 0 ≤ i ∧ i ≤ 65535 ∧ Rt H Q (.bl true)
theorem ok_is_word (T : Txt K mg A) : Cal P w K mg base CX0 "is_word" 2 ["thing"] spWord := by
  have c_is_whole_words := ok_whole_words (P := P) (w := w) (base := base) T
  refine T.d_is_word.ok sc_is_word (fun vs H Q E h => ?_) (fun f cdv Ar outer s H vs Q E hr h => ?_)
  · obtain ⟨i, rfl, _⟩ := h
    rfl
  obtain ⟨i, rfl, h0, h1, q⟩ := h
  refine ⟨_, (pss_one (ps_ret (pe_and (pe_cal c_is_whole_words hr (by omega) pass0 (pa_cons (pv 0) pa_nil)) (pe_one (pe_chain op_le op_le pe_int (pv 0) (pe_gint T.i_MOST_WORD)))))), ?_⟩
  walk_at "rd"
  refine ⟨_, rfl, fun H1 e1 => ?_⟩
  walk_at "rd"

  walk_at "rd"
  rw [decide_eq_true h1]
  exact q _ e1
/-- a name -/
def spName : Sp := fun vs H Q _ => ∃ x : Str, vs = [.str x] ∧ nameOk x = true ∧ Rt H Q (.bl true)
theorem ok_is_name (T : Txt K mg A) : Cal P w K mg base CX0 "is_name" 1 ["thing"] spName := by
  refine T.d_is_name.ok sc_is_name (fun vs H Q E h => ?_) (fun f cdv Ar outer s H vs Q E hr h => ?_)
  · obtain ⟨i, rfl, _⟩ := h
    rfl
  obtain ⟨x, rfl, hx, q⟩ := h
  unfold nameOk at hx
  obtain ⟨h1, hx⟩ := Bool.and_eq_true_iff.mp hx
  obtain ⟨h2, hx⟩ := Bool.and_eq_true_iff.mp hx
  obtain ⟨h34, h5⟩ := Bool.and_eq_true_iff.mp hx
  obtain ⟨h3, h4⟩ := Bool.and_eq_true_iff.mp h34
  have h1 := of_decide_eq_true h1
  have h2 := of_decide_eq_true h2
  refine ⟨_, (pss_cons (ps_if (PW.pt (pw_or (pt_not (pt_val (pe_callB (k_isi K) (by rfl) T.b_isinstance bt_isinstance (pa_cons (pv 0) (pa_cons (pe_bltn (v := .ty "str") (by rfl) T.b_str bt_str rfl) pa_nil))))) (pw_or (pt_not (pt_chain op_le op_le pe_int (pe_callB (k_len K) (by rfl) T.b_len bt_len (pa_cons (pv 0) pa_nil)) (pe_gint T.i_MOST_NAME))) (pw_or1 (pt_cmpR (k_in K) (pv 0) (pe_op (k_plus K) (pe_gref T.g_KEPT) (pe_gref T.g_MORE_KEPT)) rfl))))) (pss_one (ps_ret pe_bl)) pss_nil)
    (pss_one (ps_ret (pe_and (pe_cmpR (k_in K) (pe_ix (k_ix K) (pv 0) pe_int (fun _ _ => rfl)) (pe_gstr T.s_LETTERS) rfl) (pe_one (pe_callB (k_all K rfl) (by rfl) T.b_all bt_all (pa_cons (pe_lc (own := [("sign", 1)]) rfl sc_is_name.nd (k_any K (pv 0)) (blkOk_by (N := N_is_name) (sc := defScope s_is_name) (by decide +kernel)) (fun _ _ _ _ _ => (pg_name (i := 1) sc_is_name.nd rfl (by first | exact Or.inl rfl | exact Or.inr rfl))) (fun _ _ _ _ _ => pts_nil) (fun _ _ _ _ _ => (pe_cmpR (k_in K) (pv 1) (pe_op (k_plus K) (pe_gstr T.s_LETTERS) (pe_gstr T.s_FIGURES)) rfl))) pa_nil))))))), ?_⟩
  walk_at "rd"
  refine rd_isi (.ty _) (.base (.str _)) ki_ss ?_
  walk_at "rd"
  refine rd_len_s (by omega) ?_
  walk_at "rd"
  refine rd_plus_t (T.t_KEPT H) (T.t_MORE_KEPT H) (by decide) fun p H1 e1 hp => ?_
  walk_at "rd"
  refine rd_in_t hp rfl rfl ?_
  walk_at "rd"
  have z3 : inV (.str x) keptV = false := by simpa using h3
  refine rd_false z3 ?_
  walk_at "rd"
  cases hc : x.cps.toList with
  | nil =>
    rw [hc] at h4
    cases h4
  | cons c r =>
    rw [hc] at h4
    refine rd_ix_s (c := c) (by omega) (by rw [hc]; exact atI_nat (j := 0) rfl) ?_
    walk_at "rd"
    refine rd_in_s ?_
    walk_at "rd"
    refine rd_decT (of_decide_eq_true h4) ?_
    walk_at "rd"
    refine rd_lc_s ?_
    walk_at "rd"
    refine ⟨_, rfl, fun D nD => ?_⟩
    refine lc_map walk_str (fun _ y _ => y = .bl true) nD (by show x.length ≤ 1000; omega) (fun _ _ _ _ _ _ h => h) (fun _ _ => trivial) ?_ ?_
    · rintro i y H2 H3 F Z hi e2 ⟨rfl, d, hd, rfl⟩ hF
      refine ⟨Same.refl _, ?_⟩
      walk_at "rd"
      refine ⟨rfl, ?_⟩
      walk_at "rd"
      refine rd_plus_s (by decide +kernel) ?_
      refine rd_in_s ?_
      refine hF _ _ (Same.refl _) (congrArg V.bl (decide_eq_true ?_))
      have hm : d ∈ x.cps.toList := by
        rw [← Array.getElem?_toList] at hd
        exact List.mem_of_getElem? hd
      exact of_decide_eq_true (List.all_eq_true.mp h5 d hm)
    · intro ys H2 e2 hD hl hy
      walk_at "rd"
      refine rd_all hD hy ?_
      exact q _ (e1.trans e2)
end

end

section
/-! # max(xs, default=..) -/
section
open F
variable {prog : Program} {w : World} {A : Around} {R : Result → Shared → Prop} {I : Addr} {fp wr : List Addr} {n : Nat} {P : Nat → Value → Prop} {St : Nat → Heap → Prop} {kw : List (Str × Value)}
theorem max_loop_kw (W : Walks prog w A.in1 I fp wr n P St) (bt : Nat → Nat → Bool) (hcmp : CmpOf prog w A.in1 .Gt P bt) (S : Addr) (hSf : S ∉ fp) :
    ∀ (k j : Nat) (s : Shared) (vb : Value) (c : Nat), n - (j + 1) = k → j + 1 ≤ n → St (j + 1) s.heap → P (argBest bt j) vb →
    s.heap.get? S = some { cls := .type "list", dict := none, data := .seq #[vb, vb] c, slots := #[] } →
    (∀ v h' tk, P (argBest bt (n - 1)) v → (∀ b o, b ∉ wr → b ≠ S → s.heap.get? b = some o → h'.get? b = some o) → R (.ok (.ret v)) { s with heap := h', toks := tk }) →
    codeAny (model prog w) A (.builtin "max.loop" ⟨[.ref I, .none, .ref S], kw⟩) R s := by
  have hSW : S ∉ wr := fun h => hSf (W.sub _ h); have hNm : (toString "max" ++ toString ".loop" : String) = "max.loop" := by decide
  intro k
  induction k with
  | zero =>
    intro j s vb c hk hj hst hPb hS hR; have hin : j + 1 = n := by omega
    refine codeAny_builtin F.entry_max_loop ?_; rw [Around.under_plainId F.plain_max_loop _]; show wpAny _ A.in1 (seqItems? (.ref S) >>= _) _ _ s; refine wpAny_bind (wpAny_seqItems hS rfl ?_); show wpAny _ A.in1 (tryCatch (pyNext (.ref I)) _ >>= _) _ _ s; refine wpAny_bind (wpAny_tryCatch (W.done s _ _ (hin ▸ hst) fun h' tk hk' => ?_))
    have hS' := hk' S _ hSW hS; show wpAny _ A.in1 (updateSeq S (fun _ => #[]) >>= _) _ _ _; refine wpAny_bind ?_; refine wpAny_updateSeq hS' rfl (wpAny_bind (wpAny_letGo (wpAny_pure ?_))); refine hR vb _ tk (by rw [← hin]; exact hPb) fun b o hbw hbS e => (Heap.get?_update_other _ _ (Ne.symm hbS)).trans (hk' b o hbw e)
  | succ k ih =>
    intro j s vb c hk hj hst hPb hS hR; have hlt : j + 1 < n := by omega
    refine codeAny_builtin F.entry_max_loop ?_; rw [Around.under_plainId F.plain_max_loop _]; show wpAny _ A.in1 (seqItems? (.ref S) >>= _) _ _ s; refine wpAny_bind (wpAny_seqItems hS rfl ?_); show wpAny _ A.in1 (tryCatch (pyNext (.ref I)) _ >>= _) _ _ s; refine wpAny_bind (wpAny_tryCatch (W.item (j + 1) s _ _ hlt hst fun v h' tk hP hst' hk' => ?_))
    have hS' := hk' S _ hSW hS; show wpAny _ A.in1 (tryCatch (holding [v, v] (richCompare .Gt v vb >>= _)) _ >>= _) _ _ _; refine wpAny_bind (wpAny_tryCatch (wpAny_holding (wpAny_bind (hcmp (j + 1) (argBest bt j) v vb _ _ _ hP hPb ?_)))); refine wpAny_bind (wpAny_holding (wpAny_truthy_bool ?_))
    refine wpAny_bind (wpAny_letGo (wpAny_pure ?_))
    cases hb : bt (j + 1) (argBest bt j) with
    | true =>
      simp only [if_true]; refine wpAny_bind ?_; refine wpAny_updateSeq hS' rfl (wpAny_bind (wpAny_letGo ?_)); rw [hNm]; refine wpAny_pure ⟨plainId_quiet F.plain_max_loop _, ih (j + 1) _ v _ (by omega) hlt (W.frame _ _ _ hst' fun b hbf o e => ?_) (by simp only [argBest, hb, if_true]; exact hP) (Heap.get?_update_self _ hS' rfl)
        fun v' h'' tk'' hP' hk'' => ?_⟩
      · exact (Heap.get?_update_other _ _ (fun h : S = b => hSf (by rw [h]; exact hbf))).trans e
      · exact hR v' h'' tk'' hP' fun b o hbw hbS e => hk'' b o hbw hbS ((Heap.get?_update_other _ _ (Ne.symm hbS)).trans (hk' b o hbw e))
    | false =>
      simp only [Bool.false_eq_true, if_false]; refine wpAny_bind (wpAny_letGo ?_); rw [hNm]; refine wpAny_pure ⟨plainId_quiet F.plain_max_loop _, ih (j + 1) _ vb c (by omega) hlt hst' (by simp only [argBest, hb, Bool.false_eq_true, if_false]; exact hPb) hS' fun v' h'' tk'' hP' hk'' => ?_⟩
      exact hR v' h'' tk'' hP' fun b o hbw hbS e => hk'' b o hbw hbS (hk' b o hbw e)
theorem max_first_kw (W : Walks prog w A.in1 I fp wr n P St) (bt : Nat → Nat → Bool) (hcmp : CmpOf prog w A.in1 .Gt P bt) (S : Addr) (hSf : S ∉ fp) (hn : 0 < n) {s : Shared} {c : Nat} (hst : St 0 s.heap)
    (hS : s.heap.get? S = some { cls := .type "list", dict := none, data := .seq #[] c, slots := #[] })
    (hR : ∀ v h' tk, P (argBest bt (n - 1)) v → (∀ b o, b ∉ wr → b ≠ S → s.heap.get? b = some o → h'.get? b = some o) → R (.ok (.ret v)) { s with heap := h', toks := tk }) :
    codeAny (model prog w) A (.builtin "max.loop" ⟨[.ref I, .none, .ref S], kw⟩) R s := by
  have hSW : S ∉ wr := fun h => hSf (W.sub _ h); have hNm : (toString "max" ++ toString ".loop" : String) = "max.loop" := by decide
  refine codeAny_builtin F.entry_max_loop ?_; rw [Around.under_plainId F.plain_max_loop _]; show wpAny _ A.in1 (seqItems? (.ref S) >>= _) _ _ s; refine wpAny_bind (wpAny_seqItems hS rfl ?_); show wpAny _ A.in1 (tryCatch (pyNext (.ref I)) _ >>= _) _ _ s; refine wpAny_bind (wpAny_tryCatch (W.item 0 s _ _ hn hst fun v h' tk hP hst' hk' => ?_))
  have hS' := hk' S _ hSW hS; show wpAny _ A.in1 (updateSeq S (fun _ => #[v, v]) >>= _) _ _ _; refine wpAny_bind ?_; refine wpAny_updateSeq hS' rfl ?_; rw [hNm]; refine wpAny_pure ⟨plainId_quiet F.plain_max_loop _, max_loop_kw W bt hcmp S hSf _ 0 _ v _ rfl hn (W.frame _ _ _ hst' fun b hbf o e => ?_) hP (Heap.get?_update_self _ hS' rfl) fun v' h'' tk'' hP' hk'' => ?_⟩
  · exact (Heap.get?_update_other _ _ (fun h : S = b => hSf (by rw [h]; exact hbf))).trans e
  · exact hR v' h'' tk'' hP' fun b o hbw hbS e => hk'' b o hbw hbS ((Heap.get?_update_other _ _ (Ne.symm hbS)).trans (hk' b o hbw e))
theorem call_tree_kw {E : Value → Shared → Prop} {s : Shared} {id : String} {b : Builtin} {args : List Value} {Q : Value → Shared → Prop} (hk : builtinKind id = none) (hp : plainId id = true) (hb : entryFor table id = some b) (ha : argsOk id ⟨args, kw⟩)
    (hc : wpAny (model prog w) A.in1 (b ⟨args, kw⟩) (fun fin s' => match fin with
      | .done f => (match (Except.ok f : Result) with | .ok (.ret v) => Q v s' | .ok _ => False | .error e => E e s')
      | .again c' => c'.quiet = true ∧ codeAny (model prog w) A c' (fun r s' => match r with | .ok (.ret v) => Q v s' | .ok _ => False | .error e => E e s') s') E s) : wpAny (model prog w) A (call (.builtin id) args kw) Q E s := by
  refine wpAny_call (codeAny_call_builtin hp hb ?_); simp only [checkBuiltinCall, hk]
  cases hq : Manifest.signature? id with
  | none => exact wpAny_pure hc
  | some sg =>
    have h2 : Bind.checkArgs id sg ⟨args, kw⟩ = pure () := by simpa only [argsOk, hq] using ha
    simp only [h2]; exact wpAny_pure hc
theorem args_max_kw (a d : Value) : argsOk "max" ⟨[a], [("default", d)]⟩ := by unfold argsOk; kernel_rfl
theorem max_walk_kw {E : Value → Shared → Prop} {s : Shared} {x d : Value} {Q : Value → Shared → Prop}
    (h : wpAny (model prog w) A.in1 (pyIter x) (fun it s₂ => ∃ I fp wr n P St bt, it = .ref I ∧ Walks prog w A.in1 I fp wr n P St ∧ St 0 s₂.heap ∧ (∀ b ∈ fp, b < s₂.heap.objs.size) ∧ CmpOf prog w A.in1 .Gt P bt ∧
      (0 < n → ∀ v h' tk, P (argBest bt (n - 1)) v → (∀ b o, b ∉ wr → s₂.heap.get? b = some o → h'.get? b = some o) → Q v { s₂ with heap := h', toks := tk }) ∧
      (n = 0 → ∀ h' tk, (∀ b o, b ∉ wr → s₂.heap.get? b = some o → h'.get? b = some o) → Q d { s₂ with heap := h', toks := tk })) E s) :
    wpAny (model prog w) A (call (.builtin "max") [x] [("default", d)]) Q E s := by
  have hNm : (toString "max" ++ toString ".loop" : String) = "max.loop" := by decide
  refine call_tree_kw F.kind_max F.plain_max F.entry_max (args_max_kw _ _) ?_; show wpAny _ A.in1 (Builtin.Builtins.bindParams "max" ["key", "default"] 0 ⟨[], [("default", d)]⟩ >>= _) _ _ s
  refine wpAny_bind (wpAny_of_eq (show Builtin.Builtins.bindParams "max" ["key", "default"] 0 ⟨[], [("default", d)]⟩ = pure [none, some d] from by first | rfl | kernel_rfl) ?_); refine wpAny_bind (wpAny_pure ?_)
  refine wpAny_bind (wpAny_mono h (fun it s₂ h₂ => ?_) fun _ _ e => e); obtain ⟨I, fp, wr, n, P, St, bt, rfl, W, hst, hfp, hcmp, hQ, hQ0⟩ := h₂
  refine wpAny_bind (wpAny_newObj_type ?_)
  have hSf : s₂.heap.objs.size ∉ fp := fun hm => Nat.lt_irrefl _ (hfp _ hm)
  rw [hNm]
  by_cases hn : 0 < n
  · refine wpAny_pure ⟨plainId_quiet F.plain_max_loop _, max_first_kw W bt hcmp s₂.heap.objs.size hSf hn (W.frame _ _ _ hst fun b _ o e => Heap.get?_push_of_some _ e) (Heap.get?_push_size _ rfl) fun v h' tk hP hk => ?_⟩
    exact hQ hn v h' tk hP fun b o hbw e => hk b o hbw (Nat.ne_of_lt (Heap.lt_size e)) (Heap.get?_push_of_some _ e)
  · obtain rfl : n = 0 := by omega
    refine wpAny_pure ⟨plainId_quiet F.plain_max_loop _, codeAny_builtin F.entry_max_loop ?_⟩
    rw [Around.under_plainId F.plain_max_loop _]; show wpAny _ A.in1 (seqItems? (.ref s₂.heap.objs.size) >>= _) _ _ _
    refine wpAny_bind (wpAny_seqItems (Heap.get?_push_size _ rfl) rfl ?_); show wpAny _ A.in1 (tryCatch (pyNext (.ref I)) _ >>= _) _ _ _
    refine wpAny_bind (wpAny_tryCatch (W.done _ _ _ (W.frame _ _ _ hst fun b _ o e => Heap.get?_push_of_some _ e) fun h' tk hk' => ?_))
    first
      | exact wpAny_bind (wpAny_rule (wpAny_pure (hQ0 rfl h' tk fun b o hb e => hk' b o hb (Heap.get?_push_of_some _ e))))
      | exact wpAny_pure (hQ0 rfl h' tk fun b o hb e => hk' b o hb (Heap.get?_push_of_some _ e))
end

end

section
section
theorem arg_most (f : Nat → Int) : ∀ k, argBest (fun i j => decide (f i > f j)) k ≤ k ∧ ∀ i, i ≤ k → f i ≤ f (argBest (fun i j => decide (f i > f j)) k)
  | 0 => ⟨Nat.le_refl _, fun i hi => by rw [Nat.le_zero.mp hi]; exact Int.le_refl _⟩
  | k + 1 => by
    obtain ⟨h1, h2⟩ := arg_most f k
    unfold argBest
    by_cases c : f (k + 1) > f (argBest (fun i j => decide (f i > f j)) k)
    · rw [if_pos (decide_eq_true c)]
      refine ⟨Nat.le_refl _, fun i hi => ?_⟩
      rcases Nat.lt_or_ge i (k + 1) with z | z
      · have := h2 i (by omega)
        omega
      · rw [Nat.le_antisymm hi z]; exact Int.le_refl _
    · rw [if_neg (by simpa using c)]
      refine ⟨by omega, fun i hi => ?_⟩
      rcases Nat.lt_or_ge i (k + 1) with z | z
      · exact h2 i (by omega)
      · rw [Nat.le_antisymm hi z]; omega
theorem getD_mem {ns : List Int} {i : Nat} (h : i < ns.length) : ns.getD i 0 ∈ ns := by
  rw [List.getD_eq_getElem?_getD, List.getElem?_eq_getElem h]
  exact List.getElem_mem _
theorem ints_at : ∀ {ns : List Int} {its : List Value} {i : Nat} {v : Value}, Vals (ns.map V.int) its → its[i]? = some v → ∃ t, v = .int (ns.getD i 0) t
  | [], _, i, v, h, e => by cases h; cases e
  | n :: ns, _, 0, v, h, e => by
    cases h with
    | cons r _ => cases e; obtain ⟨t, rfl⟩ := r; exact ⟨t, rfl⟩
  | n :: ns, _, i + 1, v, h, e => by
    cases h with
    | cons _ r => exact ints_at (ns := ns) r e
def tMaxD (K : PySem.W.Frag) (te : TE) : TE := fun σ H Q => te σ H fun v H1 => ∃ (a : Addr) (ns : List Int), v = .ref a ∧ SqL K H1 a (ns.map V.int) ∧ ns.length ≤ 1000 ∧ ∀ m : Int, (ns = [] → m = 0) → (ns ≠ [] → m ∈ ns ∧ ∀ y ∈ ns, y ≤ m) → Q (.int m) H1
theorem k_maxD {X : Cx} (K : PySem.W.Frag) {e : Expr} {te : TE} {p p2 kp pos : Pos} {k : Nat} (hc : X.calm = true) (hg : Gl X "max") (hm : X.mg "max" = none) (he : PE X e te) (hK : X.K = K := by rfl) (hst : starEach [e] X.env = (false, eval e X.env) :: starEach [] X.env := by rfl) (hb : backTo pos (starEach [e] X.env) = (false, eval e X.env) :: backTo pos (starEach [] X.env) := by rfl)
    (hpl : (backTo pos (starEach [e] X.env)).any (·.1) = false := by rfl) :
    PE X (.Call (.Name "max" p) [e] [⟨some "default", .Constant (.int 0) k p2, kp⟩] pos) (tMaxD K te) := by
  subst hK
  refine ⟨fun pins s σ H Q I h => ?_⟩
  refine wpAny_Call_Name_kw (ld_blt I hg hm (u := .builtin "max") (by decide +kernel) ?_ (by decide) (by decide))
  refine callWith_kw (thn ((pa_cons he pa_nil hst).run pos pins s σ H (fun vs H1 => match vs with
    | [v] => ∃ (a : Addr) (ns : List Int), v = .ref a ∧ SqL X.K H1 a (ns.map V.int) ∧ ns.length ≤ 1000 ∧ ∀ m : Int, (ns = [] → m = 0) → (ns ≠ [] → m ∈ ns ∧ ∀ y ∈ ns, y ≤ m) → Q (.int m) H1
    | _ => False) I h) fun us s1 ⟨vs, H1, I1, r1, q1⟩ => ?_) hb hpl
  match vs, r1, q1 with
  | [v], r1, q1 =>
    obtain ⟨a, ns, rfl, hS, hl, q⟩ := q1
    refine kws_cons (thn (pe_int.run pins s1 σ H1 (fun v H2 => v = .int 0 ∧ H2 = H1) I1 ⟨rfl, rfl⟩) fun u s2 ⟨v, H2, I2, r2, q2⟩ => ?_)
    obtain ⟨rfl, rfl⟩ := q2
    refine kws_nil ?_
    obtain ⟨its, rv, hL, _⟩ := I2.list hS
    rw [Vals.ref1 r1]
    obtain ⟨t2, rfl⟩ : ∃ t, u = Value.int 0 t := r2
    refine max_walk_kw (L2.iter_anyList hL.isList fun s3 e3 st hfp hlI => ?_)
    subst e3
    have hlen : its.length = ns.length := by have z := Paired.length rv; rw [List.length_map] at z; omega
    refine ⟨_, _, _, _, _, _, _, rfl, Walks.list (A := X.A.in1) (I2.ok.hd hc) _ a hlI its.toArray, st, hfp, CmpOf.ints_gt (fun i => ns.getD i 0) (fun i v hv => ints_at rv (by simpa using hv)), fun hn v h' tk hP hk => ?_, fun hn h' tk hk => ?_⟩
    · rw [List.getElem?_toArray] at hP
      obtain ⟨t, rfl⟩ := ints_at rv hP
      obtain ⟨g1, g2⟩ := arg_most (fun i => ns.getD i 0) (its.toArray.size - 1)
      have hz : its.toArray.size = ns.length := by simpa using hlen
      refine ⟨.int _, H2, I2.kept (PySem.old_kept hk), ⟨t, rfl⟩, q _ (fun z => ?_) fun _ => ⟨?_, fun y hy => ?_⟩⟩
      · rw [z] at hz; simp at hz; rw [hz] at hn; simp at hn
      · exact getD_mem (by omega)
      · obtain ⟨i, hi, rfl⟩ := List.getElem_of_mem hy
        have z := g2 i (by omega)
        simpa [List.getD_eq_getElem?_getD, List.getElem?_eq_getElem hi] using z
    · refine ⟨.int 0, H2, I2.kept (PySem.old_kept hk), ⟨_, rfl⟩, q 0 (fun _ => rfl) fun z => ?_⟩
      have hz : its.toArray.size = ns.length := by simpa using hlen
      rw [hn] at hz
      exact absurd (List.length_eq_zero_iff.mp hz.symm) z
end

end

section
/-! # sayings.py -/
section
variable {P : Program} {w : World} {K : PySem.W.Frag} {mg : Str → Option Value} {base : Heap} {A : CA}
/-- nothing can be asked: any promise is kept -/
theorem MthAt.never {C : Addr} {m qual : Str} {st : Stmt} {ps : List Str} {k : Nat} {sp : Sp} (d : MthAt K C m qual st ps) (no : ∀ vs H Q E, ¬ sp vs H Q E) : Mth P w K mg base CX0 C m k ps sp := by
  obtain ⟨f, fd, F, c, g, b⟩ := d
  exact ⟨f, fd, ⟨fun vs H Q E h => absurd h (no vs H Q E), fun A outer s H args us vs Q E _ _ _ _ h => absurd h (no vs H Q E)⟩, c, g, b⟩
theorem DefAt.never {x : Str} {st : Stmt} {ps : List Str} {k : Nat} {sp : Sp} (d : DefAt K mg x st ps) (no : ∀ vs H Q E, ¬ sp vs H Q E) : Cal P w K mg base CX0 x k ps sp := by
  obtain ⟨f, fd, F, g, b⟩ := d
  exact ⟨f, fd, ⟨fun vs H Q E h => absurd h (no vs H Q E), fun A outer s H args us vs Q E _ _ _ _ h => absurd h (no vs H Q E)⟩, g, F.kp, b⟩
theorem map_of_get {α : Type} {f : α → V} : ∀ {ts : List α} {ys : List V}, ys.length = ts.length → (∀ (j : Nat) y, ys[j]? = some y → ∃ t, ts[j]? = some t ∧ y = f t) → ys = ts.map f
  | [], [], _, _ => rfl
  | [], _ :: _, h, _ => by simp at h
  | _ :: _, [], h, _ => by simp at h
  | t :: ts, y :: ys, h, g => by
    obtain ⟨t', e1, e2⟩ := g 0 y rfl
    have e3 : t = t' := Option.some.inj e1
    subst e3
    rw [List.map_cons, e2, map_of_get (ts := ts) (ys := ys) (by simpa using h) fun j z hz => g (j + 1) z hz]

/-! ### once -/
theorem putK_mem {kvs : List (Key × V)} {k j : Key} {v : V} : j ∈ (putK kvs k v).map (·.1) ↔ j = k ∨ j ∈ kvs.map (·.1) := by
  unfold putK
  by_cases h : (kvs.any fun kv => decide (kv.1 = k)) = true
  · rw [if_pos h]
    have e : (kvs.map fun kv => if kv.1 = k then (kv.1, v) else kv).map (·.1) = kvs.map (·.1) := by
      rw [List.map_map]
      refine List.map_congr_left fun kv _ => ?_
      show (if kv.1 = k then (kv.1, v) else kv).1 = kv.1
      split <;> rfl
    rw [e]
    obtain ⟨kv, hm, hk⟩ := List.any_eq_true.mp h
    have hk := of_decide_eq_true hk
    refine ⟨.inr, fun z => z.elim (fun z => ?_) id⟩
    rw [z, ← hk]
    exact List.mem_map_of_mem hm
  · rw [if_neg h]
    simp [or_comm]
theorem mergeK_mem {j : Key} : ∀ (more kvs : List (Key × V)), j ∈ (mergeK kvs more).map (·.1) ↔ j ∈ kvs.map (·.1) ∨ j ∈ more.map (·.1)
  | [], kvs => by simp [mergeK]
  | p :: r, kvs => by
    have ih := mergeK_mem (j := j) r (putK kvs p.1 p.2)
    show j ∈ (mergeK (putK kvs p.1 p.2) r).map (·.1) ↔ _
    rw [ih, putK_mem, List.map_cons, List.mem_cons]
    constructor
    · rintro ((h | h) | h)
      · exact .inr (.inl h)
      · exact .inl h
      · exact .inr (.inr h)
    · rintro (h | h | h)
      · exact .inl (.inr h)
      · exact .inl (.inl h)
      · exact .inr h
theorem pairs_of {H : Hp} : ∀ (xs : List Str) (ys : List V), ys.length = xs.length → (∀ (j : Nat) y, ys[j]? = some y → ∃ x p, xs[j]? = some x ∧ y = .ref p ∧ H p = some (.tup [.str x, .bl true])) →
    ∃ ps : List Addr, ys = ps.map V.ref ∧ Paired (fun p (kv : Key × V) => SqT K H p [kV kv.1, kv.2]) ps (xs.map fun x => (Sum.inr x, V.bl true))
  | [], [], _, _ => ⟨[], rfl, .nil⟩
  | [], _ :: _, h, _ => by simp at h
  | _ :: _, [], h, _ => by simp at h
  | x :: xs, y :: ys, h, g => by
    obtain ⟨x', p, e1, e2, e3⟩ := g 0 y rfl
    have e4 : x = x' := Option.some.inj e1
    subst e4
    obtain ⟨ps, h1, h2⟩ := pairs_of xs ys (by simpa using h) fun j z hz => g (j + 1) z hz
    exact ⟨p :: ps, by rw [List.map_cons, e2, h1], .cons (SqT.of e3) h2⟩
theorem keys_str {kvs : List (Key × V)} (h : ∀ kv ∈ kvs, ∃ x, kv.1 = Sum.inr x) : ∃ ys : List Str, (kvs.map fun kv => kV kv.1) = ys.map V.str ∧ kvs.map (·.1) = ys.map Sum.inr := by
  induction kvs with
  | nil => exact ⟨[], rfl, rfl⟩
  | cons kv r ih =>
    obtain ⟨ys, h1, h2⟩ := ih fun z hz => h z (List.mem_cons_of_mem _ hz)
    obtain ⟨x, hx⟩ := h kv List.mem_cons_self
    refine ⟨x :: ys, ?_, ?_⟩
    · rw [List.map_cons, h1, hx] <;> rfl
    · rw [List.map_cons, h2, hx] <;> rfl
/-- a new list of the same names -/
def spOnce (K : PySem.W.Frag) : Sp := fun vs H Q _ => ∃ (a : Addr) (xs : List Str), vs = [.ref a] ∧ SqL K H a (xs.map V.str) ∧ xs.length ≤ 1000 ∧
  ∀ (p : Addr) (ys : List Str) (H' : Hp), H p = none → Same H H' → H' p = some (.lst (ys.map V.str)) → (∀ y, y ∈ ys ↔ y ∈ xs) → ys.length ≤ xs.length → Q (.ref p) H'
theorem ok_once (T : Txt K mg A) : Cal P w K mg base CX0 "once" 1 ["names"] (spOnce K) := by
  refine T.d_once.ok sc_once (fun vs H Q E h => ?_) (fun f cdv Ar outer s H vs Q E hr h => ?_)
  · obtain ⟨i, _, rfl, _⟩ := h
    rfl
  obtain ⟨a, xs, rfl, hS, hz, q⟩ := h
  refine ⟨_, (pss_one (ps_ret (pe_callTy (k_lst K rfl) (by rfl) T.b_list bt_list (pa_cons (pe_callTy (k_dict K rfl) (by rfl) T.b_dict bt_dict (pa_cons (pe_lc (own := [("name", 1)]) rfl sc_once.nd (k_any K (pv 0)) (blkOk_by (N := N_once) (sc := defScope s_once) (by decide +kernel)) (fun _ _ _ _ _ => (pg_name (i := 1) sc_once.nd rfl (by first | exact Or.inl rfl | exact Or.inr rfl))) (fun _ _ _ _ _ => pts_nil) (fun _ _ _ _ _ => (pe_tup (pa_cons (pv 1) (pa_cons pe_bl pa_nil))))) pa_nil)) pa_nil)))), ?_⟩
  walk_at "rd"
  refine rd_lc_l ?_
  walk_at "rd"
  refine ⟨_, rfl, ⟨_, hS⟩, fun D nD => ?_⟩
  refine lc_map walk_list (fun j y H => ∃ x p, xs[j]? = some x ∧ y = .ref p ∧ H p = some (.tup [.str x, .bl true])) nD (by simpa using hz) (fun j y H H' k _ h => ?_) (fun H' e => e.seq hS) ?_ ?_
  · obtain ⟨x, p, h1, h2, h3⟩ := h
    exact ⟨x, p, h1, h2, k.tup _ _ h3⟩
  · rintro i y H2 H3 F Z hi e2 ⟨rfl, hx⟩ hF
    refine ⟨Same.refl _, ?_⟩
    rw [List.getElem?_map] at hx
    obtain ⟨x, hx1, rfl⟩ := Option.map_eq_some_iff.mp hx
    walk_at "rd"
    refine ⟨rfl, ?_⟩
    walk_at "rd"
    refine rd_new (by simp) fun p H4 np e4 hp => ?_
    exact hF _ _ e4 ⟨x, p, hx1, rfl, hp⟩
  · intro ys H2 e2 hD hl hy
    walk_at "rd"
    obtain ⟨ps, rfl, hP⟩ := pairs_of (K := K) xs ys (by simpa using hl) hy
    refine ⟨D, ps, _, rfl, SqL.of hD, hP, fun p np => ?_⟩
    have hk : ∀ kv ∈ mergeK [] (xs.map fun x => ((Sum.inr x : Key), V.bl true)), ∃ x, kv.1 = Sum.inr x := fun kv hkv => by
      have z := (mergeK_mem (j := kv.1) (xs.map fun x => ((Sum.inr x : Key), V.bl true)) []).mp (List.mem_map_of_mem hkv)
      rcases z with z | z
      · cases z
      · rw [List.map_map] at z
        obtain ⟨x, _, hx⟩ := List.mem_map.mp z
        exact ⟨x, hx.symm⟩
    obtain ⟨zs, h1, h2⟩ := keys_str hk
    refine .inr ⟨p, _, rfl, upd_same, fun r nr => ?_⟩
    have e3 : Same H2 (upd H2 p (.dK (mergeK [] (xs.map fun x => ((Sum.inr x : Key), V.bl true))))) := sm_new np
    refine q r zs _ (free_back (e2.trans e3) nr) ((e2.trans e3).trans (sm_new nr)) (by rw [h1]; exact upd_same) (fun y => ?_) ?_
    · have z := mergeK_mem (j := Sum.inr y) (xs.map fun x => ((Sum.inr x : Key), V.bl true)) []
      rw [h2] at z
      have z1 : (Sum.inr y : Key) ∈ zs.map Sum.inr ↔ y ∈ zs := by simp
      have z2 : (Sum.inr y : Key) ∈ (xs.map fun x => ((Sum.inr x : Key), V.bl true)).map (·.1) ↔ y ∈ xs := by
        rw [List.map_map]
        simp
      rw [z1, z2] at z
      simpa using z
    · have z := length_mergeK (xs.map fun x => ((Sum.inr x : Key), V.bl true)) []
      have z1 := congrArg List.length h2
      simp only [List.length_map] at z1 z
      simp only [List.length_nil] at z
      omega

/-! ### parts -/
def Sy.parts : Sy → List Sy
  | .not a => [a]
  | .pair _ a b => [a, b]
  | _ => []
theorem Sy.parts_dp {t a : Sy} {n : Nat} (h : a ∈ t.parts) (hn : t.dp ≤ n + 1) : a.dp ≤ n := by
  cases t with
  | not b =>
    have e : a = b := by simpa [Sy.parts] using h
    subst e
    have z : 1 + a.dp ≤ n + 1 := hn
    omega
  | pair s b c =>
    have e : a = b ∨ a = c := by simpa [Sy.parts] using h
    have z : 1 + max b.dp c.dp ≤ n + 1 := hn
    rcases e with e | e <;> subst e <;> omega
  | _ => simp [Sy.parts] at h
theorem Sy.dp_pos (t : Sy) : 1 ≤ t.dp := by
  cases t <;> simp [Sy.dp]
abbrev OL (A : CA) (H : Hp) : List Sy → List V → Prop := Paired (OS A H)
theorem OL.get {A : CA} {H : Hp} : ∀ {ts : List Sy} {us : List V} {j : Nat} {u : V}, OL A H ts us → us[j]? = some u → ∃ t, ts[j]? = some t ∧ OS A H t u
  | _, _, _, _, .nil, e => by simp at e
  | _, _, 0, _, .cons r _, e => by simp at e; subst e; exact ⟨_, rfl, r⟩
  | _, _, j + 1, u, .cons _ q, e => by
    obtain ⟨t, h1, h2⟩ := OL.get (j := j) (u := u) q (by simpa using e)
    exact ⟨t, by simpa using h1, h2⟩
theorem OL.sm {A : CA} {H H' : Hp} (e : Same H H') : ∀ {ts : List Sy} {us : List V}, OL A H ts us → OL A H' ts us
  | _, _, .nil => .nil
  | _, _, .cons r q => .cons (r.sm e) (OL.sm e q)
theorem Txt.tyS (T : Txt K mg A) (i : SC) : TyC K (A.s i) := by
  cases i with
  | num => exact T.ty_Number
  | box => exact T.ty_Box
  | many => exact T.ty_Many
  | top => exact T.ty_Top
  | not => exact T.ty_Not
  | pair => exact T.ty_Pair
theorem Txt.isS (T : Txt K mg A) (i : SC) : PySem.W.kitOne K (.ref (A.s i)) (.ref A.Saying) = some true := by
  cases i with
  | num => exact T.is_Number_Saying
  | box => exact T.is_Box_Saying
  | many => exact T.is_Many_Saying
  | top => exact T.is_Top_Saying
  | not => exact T.is_Not_Saying
  | pair => exact T.is_Pair_Saying
theorem tyx_ins {c : Addr} (C : TyC K c) {H : Hp} {a dx : Addr} {fs : List (Str × V)} (h : H a = some (.ins c dx fs)) : TyX K H (.ref a) (.ref c) := .base (.ins h C.cl C.ha C.hn C.htk C.hm)
theorem OS.tyx (T : Txt K mg A) {H : Hp} {t : Sy} {v : V} (h : OS A H t v) : TyX K H v (.ref (A.s t.cls)) := by
  obtain ⟨a, dx, fs, rfl, h2, _⟩ := h.obj
  exact tyx_ins (T.tyS _) h2
/-- at a call without arguments of a saying -/
theorem rd_dynS {H : Hp} {t : Sy} {v : V} {m : Str} {sp : SC → Sp} {Q : VK} {E : XK} (h : OS A H t v) (hm : (["word", "name", "stack", "one", "sign", "other"] : List Str).contains m = false) (q : sp t.cls [v] H Q E) :
    ∃ i a dx fs, v = .ref a ∧ H a = some (.ins (A.s i) dx fs) ∧ fs.lookup m = none ∧ sp i [v] H Q E := by
  obtain ⟨a, dx, fs, h1, h2, h3⟩ := h.obj
  exact ⟨t.cls, a, dx, fs, h1, h2, h3 m hm, q⟩
def spInner (A : CA) (i : SC) : Sp := fun vs H Q _ => ∃ (v : V) (t : Sy), vs = [v] ∧ OS A H t v ∧ t.cls = i ∧ ∀ (p : Addr) (us : List V) (H' : Hp), Same H H' → H' p = some (.tup us) → OL A H' t.parts us → Q (.ref p) H'
theorem len1 {sp : Sp} (h : ∀ vs H Q E, sp vs H Q E → ∃ v, vs = [v]) : ∀ vs H Q E, sp vs H Q E → vs.length = (["self"] : List Str).length := fun vs H Q E q => by
  obtain ⟨v, rfl⟩ := h vs H Q E q
  rfl
theorem ok_inner0 {C : Addr} {i : SC} (hi : i = .num ∨ i = .box ∨ i = .many ∨ i = .top) (d : MthAt K C "inner" "Saying.inner" s_Saying_inner ["self"]) : Mth P w K mg base CX0 C "inner" 1 ["self"] (spInner A i) := by
  refine d.ok sc_Saying_inner (fun vs H Q E h => ?_) (fun f cdv Ar outer s H vs Q E hr h => ?_)
  · obtain ⟨v, t, rfl, _⟩ := h
    rfl
  obtain ⟨v, t, rfl, hO, hc, q⟩ := h
  refine ⟨_, (pss_one (ps_ret (pe_tup pa_nil))), ?_⟩
  walk_at "rd"
  refine rd_new (by simp) fun p H1 np e1 hp => q p [] H1 e1 hp ?_
  have e : t.parts = [] := by
    subst hc
    cases t <;> first | rfl | (simp [Sy.cls] at hi)
  rw [e]
  exact .nil
theorem ok_inner (T : Txt K mg A) : ∀ i, Mth P w K mg base CX0 (A.s i) "inner" 1 ["self"] (spInner A i)
  | .num => ok_inner0 (by simp) T.m_Number_inner
  | .box => ok_inner0 (by simp) T.m_Box_inner
  | .many => ok_inner0 (by simp) T.m_Many_inner
  | .top => ok_inner0 (by simp) T.m_Top_inner
  | .not => by
    refine T.m_Not_inner.ok sc_Not_inner (fun vs H Q E h => ?_) (fun f cdv Ar outer s H vs Q E hr h => ?_)
    · obtain ⟨v, t, rfl, _⟩ := h
      rfl
    obtain ⟨v, t, rfl, hO, hc, q⟩ := h
    cases t with
    | not t =>
      obtain ⟨a, dx, u, rfl, h2, h3⟩ := hO
      refine ⟨_, (pss_one (ps_ret (pe_tup (pa_cons (k_fld K (pv 0) rfl) pa_nil)))), ?_⟩
      walk_at "rd"
      refine ⟨a, _, dx, _, u, rfl, h2, (T.tyS .not).cl, T.n_Not_one, rfl, ?_⟩
      walk_at "rd"
      exact rd_new (by simp) fun p H1 np e1 hp => q p _ H1 e1 hp (.cons (h3.sm e1) .nil)
    | _ => cases hc
  | .pair => by
    refine T.m_Pair_inner.ok sc_Pair_inner (fun vs H Q E h => ?_) (fun f cdv Ar outer s H vs Q E hr h => ?_)
    · obtain ⟨v, t, rfl, _⟩ := h
      rfl
    obtain ⟨v, t, rfl, hO, hc, q⟩ := h
    cases t with
    | pair sg t1 t2 =>
      obtain ⟨a, dx, u1, u2, rfl, h2, h3, h4⟩ := hO
      refine ⟨_, (pss_one (ps_ret (pe_tup (pa_cons (k_fld K (pv 0) rfl) (pa_cons (k_fld K (pv 0) rfl) pa_nil))))), ?_⟩
      walk_at "rd"
      refine ⟨a, _, dx, _, u1, rfl, h2, (T.tyS .pair).cl, T.n_Pair_one, rfl, ?_⟩
      walk_at "rd"
      refine ⟨a, _, dx, _, u2, rfl, h2, (T.tyS .pair).cl, T.n_Pair_other, rfl, ?_⟩
      walk_at "rd"
      exact rd_new (by simp) fun p H1 np e1 hp => q p _ H1 e1 hp (.cons (h3.sm e1) (.cons (h4.sm e1) .nil))
    | _ => cases hc

/-! ### size, depth -/
def spNat (A : CA) (n : Nat) (f : Sy → Nat) : Sp := fun vs H Q _ => ∃ (v : V) (t : Sy), vs = [v] ∧ OS A H t v ∧ t.dp ≤ n ∧ Rt H Q (.int (f t))
theorem Sy.sz_parts (t : Sy) : (t.sz : Int) = 1 + (t.parts.map fun a => (a.sz : Int)).sum := by
  cases t <;> simp [Sy.sz, Sy.parts]
theorem spNat0 {f : Sy → Nat} : ∀ vs H Q E, ¬ spNat A 0 f vs H Q E := fun vs H Q E h => by
  obtain ⟨v, t, _, _, hn, _⟩ := h
  have := t.dp_pos
  omega
theorem ok_size (T : Txt K mg A) : ∀ (n : Nat) (i : SC), Mth P w K mg base CX0 (A.s i) "size" (n + 1) ["self"] (spNat A n Sy.sz)
  | 0, i => (T.mS_size i).never spNat0
  | n + 1, i => by
    have m_size := ok_size T n
    have m_inner := ok_inner (P := P) (w := w) (base := base) T
    refine (T.mS_size i).ok sc_Saying_size (fun vs H Q E h => ?_) (fun f cdv Ar outer s H vs Q E hr h => ?_)
    · obtain ⟨v, t, rfl, _⟩ := h
      rfl
    obtain ⟨v, t, rfl, hO, hn, q⟩ := h
    refine ⟨_, (pss_one (ps_ret (pe_op (k_plus K) pe_int (pe_callB (k_sum K rfl) (by rfl) T.b_sum bt_sum (pa_cons (pe_lc (own := [("one", 1)]) rfl sc_Saying_size.nd (k_any K (pe_dyn m_inner hr (by omega) pass0 (pv 0))) (blkOk_by (N := N_Saying_size) (sc := defScope s_Saying_size) (by decide +kernel)) (fun _ _ _ _ _ => (pg_name (i := 1) sc_Saying_size.nd rfl (by first | exact Or.inl rfl | exact Or.inr rfl))) (fun _ _ _ _ _ => pts_nil) (fun _ _ _ _ _ => (pe_dyn m_size hr (by omega) pass0 (pv 1)))) pa_nil))))), ?_⟩
    walk_at "rd"
    refine rd_lc_t ?_
    walk_at "rd"
    refine rd_dynS hO (by decide +kernel) ?_
    refine ⟨_, t, rfl, hO, rfl, fun p us H1 e1 hp hu => ?_⟩
    refine ⟨_, rfl, ⟨_, SqT.of hp⟩, fun D nD => ?_⟩
    have hl : us.length = t.parts.length := (Paired.length hu).symm
    have hle : t.parts.length ≤ 2 := by cases t <;> simp [Sy.parts]
    refine lc_map walk_tup (fun j y _ => ∃ a, t.parts[j]? = some a ∧ y = .int (a.sz : Int)) nD (by omega) (fun _ _ _ _ _ _ h => h) (fun H' e => seqT_sm e (SqT.of hp)) ?_ ?_
    · rintro j y H2 H3 F Z hi e2 ⟨rfl, hx⟩ hF
      refine ⟨Same.refl _, ?_⟩
      obtain ⟨a, h1, h2⟩ := hu.get hx
      have h3 := h2.sm e2
      walk_at "rd"
      refine ⟨rfl, ?_⟩
      walk_at "rd"
      refine rd_dynS h3 (by decide +kernel) ?_
      exact ⟨_, a, rfl, h3, Sy.parts_dp (List.mem_of_getElem? h1) hn, fun H4 e4 => hF _ _ e4 ⟨a, h1, rfl⟩⟩
    · intro ys H2 e2 hD hly hy
      have e : ys = (t.parts.map fun a => (a.sz : Int)).map V.int := by
        rw [List.map_map]
        exact map_of_get (by omega) hy
      walk_at "rd"
      refine ⟨_, _, rfl, SqL.of (by rw [hD, e]), ?_⟩
      walk_at "rd"
      have z := q H2 (e1.trans e2)
      rw [Sy.sz_parts] at z
      exact z
theorem ok_depth (T : Txt K mg A) : ∀ (n : Nat) (i : SC), Mth P w K mg base CX0 (A.s i) "depth" (n + 1) ["self"] (spNat A n Sy.dp)
  | 0, i => (T.mS_depth i).never spNat0
  | n + 1, i => by
    have m_depth := ok_depth T n
    have m_inner := ok_inner (P := P) (w := w) (base := base) T
    refine (T.mS_depth i).ok sc_Saying_depth (fun vs H Q E h => ?_) (fun f cdv Ar outer s H vs Q E hr h => ?_)
    · obtain ⟨v, t, rfl, _⟩ := h
      rfl
    obtain ⟨v, t, rfl, hO, hn, q⟩ := h
    refine ⟨_, (pss_one (ps_ret (pe_op (k_plus K) pe_int (k_maxD K rfl (by rfl) T.b_max (pe_lc (own := [("one", 1)]) rfl sc_Saying_depth.nd (k_any K (pe_dyn m_inner hr (by omega) pass0 (pv 0))) (blkOk_by (N := N_Saying_depth) (sc := defScope s_Saying_depth) (by decide +kernel)) (fun _ _ _ _ _ => (pg_name (i := 1) sc_Saying_depth.nd rfl (by first | exact Or.inl rfl | exact Or.inr rfl))) (fun _ _ _ _ _ => pts_nil) (fun _ _ _ _ _ => (pe_dyn m_depth hr (by omega) pass0 (pv 1)))))))), ?_⟩
    walk_at "rd"
    refine rd_lc_t ?_
    walk_at "rd"
    refine rd_dynS hO (by decide +kernel) ?_
    refine ⟨_, t, rfl, hO, rfl, fun p us H1 e1 hp hu => ?_⟩
    refine ⟨_, rfl, ⟨_, SqT.of hp⟩, fun D nD => ?_⟩
    have hl : us.length = t.parts.length := (Paired.length hu).symm
    have hle : t.parts.length ≤ 2 := by cases t <;> simp [Sy.parts]
    refine lc_map walk_tup (fun j y _ => ∃ a, t.parts[j]? = some a ∧ y = .int (a.dp : Int)) nD (by omega) (fun _ _ _ _ _ _ h => h) (fun H' e => seqT_sm e (SqT.of hp)) ?_ ?_
    · rintro j y H2 H3 F Z hi e2 ⟨rfl, hx⟩ hF
      refine ⟨Same.refl _, ?_⟩
      obtain ⟨a, h1, h2⟩ := hu.get hx
      have h3 := h2.sm e2
      walk_at "rd"
      refine ⟨rfl, ?_⟩
      walk_at "rd"
      refine rd_dynS h3 (by decide +kernel) ?_
      exact ⟨_, a, rfl, h3, Sy.parts_dp (List.mem_of_getElem? h1) hn, fun H4 e4 => hF _ _ e4 ⟨a, h1, rfl⟩⟩
    · intro ys H2 e2 hD hly hy
      have e : ys = (t.parts.map fun a => (a.dp : Int)).map V.int := by
        rw [List.map_map]
        exact map_of_get (by omega) hy
      refine ⟨_, _, rfl, SqL.of (by rw [hD, e]), by simpa using (by omega), fun m h0 h1 => ?_⟩
      walk_at "rd"
      have z := q H2 (e1.trans e2)
      have em : (t.dp : Int) = 1 + m := by
        cases t with
        | not a =>
          obtain ⟨g1, g2⟩ := h1 (by simp [Sy.parts])
          have g3 : m = (a.dp : Int) := by simpa [Sy.parts] using g1
          rw [g3]
          show ((1 + a.dp : Nat) : Int) = _
          omega
        | pair s a b =>
          obtain ⟨g1, g2⟩ := h1 (by simp [Sy.parts])
          have g3 : m = (a.dp : Int) ∨ m = (b.dp : Int) := by simpa [Sy.parts] using g1
          have g4 := g2 a.dp (by simp [Sy.parts])
          have g5 := g2 b.dp (by simp [Sy.parts])
          show ((1 + max a.dp b.dp : Nat) : Int) = _
          omega
        | _ =>
          have g := h0 (by simp [Sy.parts])
          rw [g]
          rfl
      rw [em] at z
      exact z
end

end

section
section
variable {P : Program} {w : World} {K : PySem.W.Frag} {mg : Str → Option Value} {base : Heap} {A : CA}
/-! ### need_small -/
def spNeed (A : CA) : Sp := fun vs H Q _ => ∃ (v : V) (t : Sy), vs = [v] ∧ OS A H t v ∧ t.sz ≤ 30 ∧ t.dp ≤ 8 ∧ Rt H Q .non
theorem ok_need_small (T : Txt K mg A) (i : SC) : Mth P w K mg base CX0 (A.s i) "need_small" 10 ["self"] (spNeed A) := by
  have m_inner := ok_inner (P := P) (w := w) (base := base) T
  have m_size := ok_size (P := P) (w := w) (base := base) T 8
  have m_depth := ok_depth (P := P) (w := w) (base := base) T 8
  refine (T.mS_need_small i).ok sc_Saying_need_small (fun vs H Q E h => ?_) (fun f cdv Ar outer s H vs Q E hr h => ?_)
  · obtain ⟨v, t, rfl, _⟩ := h
    rfl
  obtain ⟨v, t, rfl, hO, hs, hd, q⟩ := h
  refine ⟨_, (pss_cons (ps_for PassesOwn.never rfl (k_any K (pe_dyn m_inner hr (by omega) pass0 (pv 0))) (pg_name (i := 1) sc_Saying_need_small.nd rfl (by first | exact Or.inl rfl | exact Or.inr rfl)) (pss_one (ps_if (pt_not (pt_val (pe_callB (k_isi K) (by rfl) T.b_isinstance bt_isinstance (pa_cons (pv 1) (pa_cons (pe_gref T.g_Saying) pa_nil))))) (pss_one ps_never) pss_nil)))
    (pss_one (ps_if (PW.pt (pw_or (pt_cmpR op_gt (pe_dyn m_size hr (by omega) pass0 (pv 0)) (pe_gint T.i_MOST_PARTS) (nomark _)) (pw_or1 (pt_cmpR op_gt (pe_dyn m_depth hr (by omega) pass0 (pv 0)) (pe_gint T.i_MOST_DEEP_sayings) (nomark _))))) (pss_one ps_never) pss_nil))), ?_⟩
  walk_at "rd"
  refine rd_for_t ?_
  walk_at "rd"
  refine rd_dynS hO (by decide +kernel) ?_
  refine ⟨_, t, rfl, hO, rfl, fun p us H1 e1 hp hu => ?_⟩
  refine ⟨_, rfl, ⟨_, SqT.of hp⟩, ?_⟩
  refine for_it walk_tup (fun _ σ' H' => (∃ o, σ' = [some v, o]) ∧ Same H1 H') ⟨⟨none, rfl⟩, Same.refl _⟩ (fun _ _ _ _ h => seqT_sm h.2 (SqT.of hp)) ?_ ?_
  · rintro j y σ' H2 H3 hj ⟨⟨o, rfl⟩, e2⟩ ⟨rfl, hx⟩
    obtain ⟨a, h1, h2⟩ := hu.get hx
    have h3 := h2.sm e2
    walk_at "rd"
    refine rd_isi (.own _) (h3.tyx T) (T.isS _) ?_
    walk_at "rd"
    exact ⟨⟨some y, rfl⟩, e2⟩
  · rintro σ' H2 ⟨⟨o, rfl⟩, e2⟩
    have e3 := e1.trans e2
    have h3 := hO.sm e3
    walk_at "rd"
    refine rd_dynS h3 (by decide +kernel) ?_
    refine ⟨_, t, rfl, h3, hd, fun H4 e4 => ?_⟩
    have h4 := h3.sm e4
    walk_at "rd"
    refine rd_dynS h4 (by decide +kernel) ?_
    refine ⟨_, t, rfl, h4, hd, fun H5 e5 => ?_⟩
    walk_at "rd"
    exact q _ ((e3.trans e4).trans e5)

/-! ### all_boxes, all_stacks -/
def spNames (A : CA) (n : Nat) (f : Sy → List Str) (i : SC) : Sp := fun vs H Q _ => ∃ (v : V) (t : Sy), vs = [v] ∧ OS A H t v ∧ t.cls = i ∧ t.dp ≤ n ∧ t.sz ≤ 30 ∧ ∀ (p : Addr) (H' : Hp), H p = none → Same H H' → H' p = some (.lst ((f t).map V.str)) → Q (.ref p) H'
theorem spNames0 {f : Sy → List Str} {i : SC} : ∀ vs H Q E, ¬ spNames A 0 f i vs H Q E := fun vs H Q E h => by
  obtain ⟨v, t, _, _, _, hn, _⟩ := h
  have := t.dp_pos
  omega
theorem Sy.parts_sz {t a : Sy} (h : a ∈ t.parts) : a.sz ≤ t.sz := by
  cases t with
  | not b =>
    have e : a = b := by simpa [Sy.parts] using h
    subst e
    show a.sz ≤ 1 + a.sz
    omega
  | pair s b c =>
    have e : a = b ∨ a = c := by simpa [Sy.parts] using h
    show a.sz ≤ 1 + (b.sz + c.sz)
    rcases e with e | e <;> subst e <;> omega
  | _ => simp [Sy.parts] at h
theorem Sy.bx_len : ∀ t : Sy, t.bx.length ≤ t.sz
  | .num _ => by simp [Sy.bx]
  | .box _ => by simp [Sy.bx, Sy.sz]
  | .many _ => by simp [Sy.bx]
  | .top _ => by simp [Sy.bx]
  | .not a => by have := a.bx_len; show a.bx.length ≤ 1 + a.sz; omega
  | .pair _ a b => by have h1 := a.bx_len; have h2 := b.bx_len; show (a.bx ++ b.bx).length ≤ 1 + (a.sz + b.sz); rw [List.length_append]; omega
theorem Sy.st_len : ∀ t : Sy, t.st.length ≤ t.sz
  | .num _ => by simp [Sy.st]
  | .box _ => by simp [Sy.st]
  | .many _ => by simp [Sy.st, Sy.sz]
  | .top _ => by simp [Sy.st, Sy.sz]
  | .not a => by have := a.st_len; show a.st.length ≤ 1 + a.sz; omega
  | .pair _ a b => by have h1 := a.st_len; have h2 := b.st_len; show (a.st ++ b.st).length ≤ 1 + (a.sz + b.sz); rw [List.length_append]; omega
theorem take_one {α : Type} {l : List α} {i : Nat} {x : α} (h : l[i]? = some x) : l.take (i + 1) = l.take i ++ [x] := by
  rw [List.take_add_one, h]
  rfl
theorem flat_one {α β : Type} {f : α → List β} {l : List α} {i : Nat} {x : α} (h : l[i]? = some x) : (l.take (i + 1)).flatMap f = (l.take i).flatMap f ++ f x := by
  rw [take_one h, List.flatMap_append]
  simp
theorem flat_len {f : Sy → List Str} (hf : ∀ t : Sy, (f t).length ≤ t.sz) {t : Sy} (ht : t.sz ≤ 30) {n : Nat} : ((t.parts.take n).flatMap f).length ≤ 60 := by
  have h1 : (t.parts.take n).length ≤ 2 := by
    have z : t.parts.length ≤ 2 := by cases t <;> simp [Sy.parts]
    rw [List.length_take]
    omega
  have h2 : ∀ a ∈ t.parts.take n, (f a).length ≤ 30 := fun a ha => Nat.le_trans (hf a) (Nat.le_trans (Sy.parts_sz (List.mem_of_mem_take ha)) ht)
  have h3 : ∀ (l : List Sy), (∀ a ∈ l, (f a).length ≤ 30) → (l.flatMap f).length ≤ 30 * l.length := by
    intro l
    induction l with
    | nil => intro _; simp
    | cons a r ih =>
      intro h
      have g1 := h a List.mem_cons_self
      have g2 := ih fun b hb => h b (List.mem_cons_of_mem _ hb)
      rw [List.flatMap_cons, List.length_append, List.length_cons]
      omega
  have := h3 _ h2
  omega
/-- the loop of all_boxes, all_stacks -/
theorem gather_body {f : Sy → List Str} (hf : ∀ t : Sy, (f t).length ≤ t.sz) {v : V} {t : Sy} {H H1 H2 : Hp} {p q : Addr} {us : List V} {D : Ends} {te : TE}
    (hs : t.sz ≤ 30) (np : H p = none) (e1 : Same H H1) (hp : H1 p = some (.lst [])) (e2 : Same H1 H2) (hq : H2 q = some (.tup us)) (hu : OL A H2 t.parts us)
    (step : ∀ (a : Sy) (y : V) (H3 : Hp) (Q : VK), a ∈ t.parts → OS A H3 a y → (∀ (r : Addr) (H' : Hp), H3 r = none → Same H3 H' → H' r = some (.lst ((f a).map V.str)) → Q (.ref r) H') → te [some v, some (.ref p), some y] H3 Q)
    (fin : ∀ σ' H3, (∃ o, σ' = [some v, some (.ref p), o]) → Same H H3 → H3 p = some (.lst ((t.parts.flatMap f).map V.str)) → D.nx σ' H3) :
    ForW (gName 2) (tAug 1 te rIadd) D [some v, some (.ref p), none] (Itt K q) H2 := by
  have hl : us.length = t.parts.length := (Paired.length hu).symm
  refine for_it walk_tup (fun i σ' H' => (∃ o, σ' = [some v, some (.ref p), o]) ∧ Kp [p] H2 H' ∧ H' p = some (.lst (((t.parts.take i).flatMap f).map V.str))) ⟨⟨none, rfl⟩, Kp.refl _, e2 _ _ hp⟩ (fun _ _ _ _ h => seqT_kp h.2.1 (SqT.of hq)) ?_ ?_
  · rintro j y σ' H3 H4 hj ⟨⟨o, rfl⟩, k3, hp3⟩ ⟨rfl, hx⟩
    obtain ⟨a, h1, h2⟩ := hu.get hx
    have hm : a ∈ t.parts := List.mem_of_getElem? h1
    have h3 := h2.kp k3 (noIns_lst (e2 _ _ hp))
    refine rd_name ?_
    refine rd_aug rfl (step a y H4 _ hm h3 fun r H5 nr e5 hr => ?_)
    have hp5 := e5 _ _ hp3
    refine rd_iadd_l hp5 hr ?_ ?_
    · have g1 := flat_len hf hs (n := j)
      have g2 := hf a
      have g3 := Sy.parts_sz hm
      rw [List.length_map, List.length_map]
      omega
    · refine ⟨⟨some y, rfl⟩, (k3.trans (sm_kp e5)).trans (Kp.put hp5 (by simp) (fun _ z => by cases z) (fun _ _ z => by cases z)), ?_⟩
      rw [upd_same, flat_one h1, List.map_append]
  · rintro σ' H3 ⟨ho, k3, hp3⟩
    rw [hl, List.take_length] at hp3
    exact fin σ' H3 ho (sm_of_kp (e1.trans e2) np k3) hp3
theorem Sy.bx_parts {t : Sy} (h : t.cls ≠ .box) : t.bx = t.parts.flatMap Sy.bx := by
  cases t <;> first | rfl | (simp [Sy.bx, Sy.parts]; done) | exact absurd rfl h
theorem Sy.st_parts {t : Sy} (h : t.cls ≠ .many) (h2 : t.cls ≠ .top) : t.st = t.parts.flatMap Sy.st := by
  cases t <;> first | rfl | (simp [Sy.st, Sy.parts]; done) | exact absurd rfl h | exact absurd rfl h2
theorem ok_all_boxes1 {C : Addr} {i : SC} {n : Nat} (hi : i ≠ .box) (m_inner : ∀ i, Mth P w K mg base CX0 (A.s i) "inner" 1 ["self"] (spInner A i)) (m_all_boxes : ∀ i, Mth P w K mg base CX0 (A.s i) "all_boxes" (n + 1) ["self"] (spNames A n Sy.bx i))
    (d : MthAt K C "all_boxes" "Saying.all_boxes" s_Saying_all_boxes ["self"]) : Mth P w K mg base CX0 C "all_boxes" (n + 2) ["self"] (spNames A (n + 1) Sy.bx i) := by
  refine d.ok sc_Saying_all_boxes (fun vs H Q E h => ?_) (fun f cdv Ar outer s H vs Q E hr h => ?_)
  · obtain ⟨v, t, rfl, _⟩ := h
    rfl
  obtain ⟨v, t, rfl, hO, hc, hn, hs, q⟩ := h
  refine ⟨_, (pss_cons (ps_set (i := 1) sc_Saying_all_boxes.nd rfl (by first | exact Or.inl rfl | exact Or.inr rfl) (pe_lst pa_nil))
    (pss_cons (ps_for PassesOwn.never rfl (k_any K (pe_dyn m_inner hr (by omega) pass0 (pv 0))) (pg_name (i := 2) sc_Saying_all_boxes.nd rfl (by first | exact Or.inl rfl | exact Or.inr rfl)) (pss_one (ps_aug (i := 1) sc_Saying_all_boxes.nd rfl (Or.inl rfl) (pe_dyn m_all_boxes hr (by omega) pass0 (pv 2)) pip_add)))
    (pss_one (ps_ret (pv 1))))), ?_⟩
  walk_at "rd"
  refine rd_new (by simp) fun p H1 np e1 hp => ?_
  walk_at "rd"
  refine rd_for_t ?_
  walk_at "rd"
  have h1 := hO.sm e1
  refine rd_dynS h1 (by decide +kernel) ?_
  refine ⟨_, t, rfl, h1, rfl, fun r us H2 e2 hr2 hu => ?_⟩
  refine ⟨_, rfl, ⟨_, SqT.of hr2⟩, ?_⟩
  refine gather_body Sy.bx_len hs np e1 hp e2 hr2 hu (fun a y H3 Q' hm h3 k => ?_) fun σ' H3 ⟨o, ho⟩ e3 hp3 => ?_
  · walk_at "rd"
    refine rd_dynS h3 (by decide +kernel) ?_
    exact ⟨_, a, rfl, h3, rfl, Sy.parts_dp hm hn, Nat.le_trans (Sy.parts_sz hm) hs, k⟩
  · subst ho
    walk_at "rd"
    rw [← Sy.bx_parts (by rw [hc]; exact hi)] at hp3
    exact q p H3 np e3 hp3
theorem ok_all_boxes (T : Txt K mg A) : ∀ (n : Nat) (i : SC), Mth P w K mg base CX0 (A.s i) "all_boxes" (n + 1) ["self"] (spNames A n Sy.bx i)
  | 0, .num => T.m_Number_all_boxes.never spNames0
  | 0, .box => T.m_Box_all_boxes.never spNames0
  | 0, .many => T.m_Many_all_boxes.never spNames0
  | 0, .top => T.m_Top_all_boxes.never spNames0
  | 0, .not => T.m_Not_all_boxes.never spNames0
  | 0, .pair => T.m_Pair_all_boxes.never spNames0
  | n + 1, .num => ok_all_boxes1 (by simp) (ok_inner T) (ok_all_boxes T n) T.m_Number_all_boxes
  | n + 1, .many => ok_all_boxes1 (by simp) (ok_inner T) (ok_all_boxes T n) T.m_Many_all_boxes
  | n + 1, .top => ok_all_boxes1 (by simp) (ok_inner T) (ok_all_boxes T n) T.m_Top_all_boxes
  | n + 1, .not => ok_all_boxes1 (by simp) (ok_inner T) (ok_all_boxes T n) T.m_Not_all_boxes
  | n + 1, .pair => ok_all_boxes1 (by simp) (ok_inner T) (ok_all_boxes T n) T.m_Pair_all_boxes
  | n + 1, .box => by
    refine T.m_Box_all_boxes.ok sc_Box_all_boxes (fun vs H Q E h => ?_) (fun f cdv Ar outer s H vs Q E hr h => ?_)
    · obtain ⟨v, t, rfl, _⟩ := h
      rfl
    obtain ⟨v, t, rfl, hO, hc, hn, hs, q⟩ := h
    cases t with
    | box x =>
      obtain ⟨a, dx, rfl, h2⟩ := hO
      refine ⟨_, (pss_one (ps_ret (pe_lst (pa_cons (k_fld K (pv 0) rfl) pa_nil)))), ?_⟩
      walk_at "rd"
      refine ⟨a, _, dx, _, _, rfl, h2, (T.tyS .box).cl, T.n_Box_name, rfl, ?_⟩
      walk_at "rd"
      exact rd_new (by simp) fun p H1 np e1 hp => q p H1 np e1 hp
    | _ => cases hc
theorem ok_all_stacks1 {C : Addr} {i : SC} {n : Nat} (hi : i ≠ .many) (hi2 : i ≠ .top) (m_inner : ∀ i, Mth P w K mg base CX0 (A.s i) "inner" 1 ["self"] (spInner A i)) (m_all_stacks : ∀ i, Mth P w K mg base CX0 (A.s i) "all_stacks" (n + 1) ["self"] (spNames A n Sy.st i))
    (d : MthAt K C "all_stacks" "Saying.all_stacks" s_Saying_all_stacks ["self"]) : Mth P w K mg base CX0 C "all_stacks" (n + 2) ["self"] (spNames A (n + 1) Sy.st i) := by
  refine d.ok sc_Saying_all_stacks (fun vs H Q E h => ?_) (fun f cdv Ar outer s H vs Q E hr h => ?_)
  · obtain ⟨v, t, rfl, _⟩ := h
    rfl
  obtain ⟨v, t, rfl, hO, hc, hn, hs, q⟩ := h
  refine ⟨_, (pss_cons (ps_set (i := 1) sc_Saying_all_stacks.nd rfl (by first | exact Or.inl rfl | exact Or.inr rfl) (pe_lst pa_nil))
    (pss_cons (ps_for PassesOwn.never rfl (k_any K (pe_dyn m_inner hr (by omega) pass0 (pv 0))) (pg_name (i := 2) sc_Saying_all_stacks.nd rfl (by first | exact Or.inl rfl | exact Or.inr rfl)) (pss_one (ps_aug (i := 1) sc_Saying_all_stacks.nd rfl (Or.inl rfl) (pe_dyn m_all_stacks hr (by omega) pass0 (pv 2)) pip_add)))
    (pss_one (ps_ret (pv 1))))), ?_⟩
  walk_at "rd"
  refine rd_new (by simp) fun p H1 np e1 hp => ?_
  walk_at "rd"
  refine rd_for_t ?_
  walk_at "rd"
  have h1 := hO.sm e1
  refine rd_dynS h1 (by decide +kernel) ?_
  refine ⟨_, t, rfl, h1, rfl, fun r us H2 e2 hr2 hu => ?_⟩
  refine ⟨_, rfl, ⟨_, SqT.of hr2⟩, ?_⟩
  refine gather_body Sy.st_len hs np e1 hp e2 hr2 hu (fun a y H3 Q' hm h3 k => ?_) fun σ' H3 ⟨o, ho⟩ e3 hp3 => ?_
  · walk_at "rd"
    refine rd_dynS h3 (by decide +kernel) ?_
    exact ⟨_, a, rfl, h3, rfl, Sy.parts_dp hm hn, Nat.le_trans (Sy.parts_sz hm) hs, k⟩
  · subst ho
    walk_at "rd"
    rw [← Sy.st_parts (by rw [hc]; exact hi) (by rw [hc]; exact hi2)] at hp3
    exact q p H3 np e3 hp3
theorem ok_OfStack_all_stacks {n : Nat} {C : Addr} {i : SC} (hi : i = .many ∨ i = .top) (c1 : TyC K (A.s .many)) (c2 : TyC K (A.s .top)) (n1 : NoAttr K (A.s .many) "stack") (n2 : NoAttr K (A.s .top) "stack") (d : MthAt K C "all_stacks" "OfStack.all_stacks" s_OfStack_all_stacks ["self"]) :
    Mth P w K mg base CX0 C "all_stacks" (n + 1) ["self"] (spNames A n Sy.st i) := by
  refine d.ok sc_OfStack_all_stacks (fun vs H Q E h => ?_) (fun f cdv Ar outer s H vs Q E hr h => ?_)
  · obtain ⟨v, t, rfl, _⟩ := h
    rfl
  obtain ⟨v, t, rfl, hO, hc, hn, hs, q⟩ := h
  refine ⟨_, (pss_one (ps_ret (pe_lst (pa_cons (k_fld K (pv 0) rfl) pa_nil)))), ?_⟩
  walk_at "rd"
  cases t with
  | many x =>
    obtain ⟨a, dx, rfl, h2⟩ := hO
    refine ⟨a, _, dx, _, _, rfl, h2, c1.cl, n1, rfl, ?_⟩
    walk_at "rd"
    exact rd_new (by simp) fun p H1 np e1 hp => q p H1 np e1 hp
  | top x =>
    obtain ⟨a, dx, rfl, h2⟩ := hO
    refine ⟨a, _, dx, _, _, rfl, h2, c2.cl, n2, rfl, ?_⟩
    walk_at "rd"
    exact rd_new (by simp) fun p H1 np e1 hp => q p H1 np e1 hp
  | _ =>
    subst hc
    simp [Sy.cls] at hi
theorem ok_all_stacks (T : Txt K mg A) : ∀ (n : Nat) (i : SC), Mth P w K mg base CX0 (A.s i) "all_stacks" (n + 1) ["self"] (spNames A n Sy.st i)
  | n, .many => ok_OfStack_all_stacks (.inl rfl) (T.tyS _) (T.tyS _) T.n_Many_stack T.n_Top_stack T.m_Many_all_stacks
  | n, .top => ok_OfStack_all_stacks (.inr rfl) (T.tyS _) (T.tyS _) T.n_Many_stack T.n_Top_stack T.m_Top_all_stacks
  | 0, .num => T.m_Number_all_stacks.never spNames0
  | 0, .box => T.m_Box_all_stacks.never spNames0
  | 0, .not => T.m_Not_all_stacks.never spNames0
  | 0, .pair => T.m_Pair_all_stacks.never spNames0
  | n + 1, .num => ok_all_stacks1 (by simp) (by simp) (ok_inner T) (ok_all_stacks T n) T.m_Number_all_stacks
  | n + 1, .box => ok_all_stacks1 (by simp) (by simp) (ok_inner T) (ok_all_stacks T n) T.m_Box_all_stacks
  | n + 1, .not => ok_all_stacks1 (by simp) (by simp) (ok_inner T) (ok_all_stacks T n) T.m_Not_all_stacks
  | n + 1, .pair => ok_all_stacks1 (by simp) (by simp) (ok_inner T) (ok_all_stacks T n) T.m_Pair_all_stacks
/-! ### box_names, stack_names -/
def spSet (A : CA) (f : Sy → List Str) : Sp := fun vs H Q _ => ∃ (v : V) (t : Sy), vs = [v] ∧ OS A H t v ∧ t.dp ≤ 8 ∧ t.sz ≤ 30 ∧ ∀ (p : Addr) (ys : List Str) (H' : Hp), H p = none → Same H H' → H' p = some (.lst (ys.map V.str)) → (∀ y, y ∈ ys ↔ y ∈ f t) → ys.length ≤ 30 → Q (.ref p) H'
theorem ok_box_names (T : Txt K mg A) (i : SC) : Mth P w K mg base CX0 (A.s i) "box_names" 10 ["self"] (spSet A Sy.bx) := by
  have m_all_boxes := ok_all_boxes (P := P) (w := w) (base := base) T 8
  have c_once := ok_once (P := P) (w := w) (base := base) T
  refine (T.mS_box_names i).ok sc_Saying_box_names (fun vs H Q E h => ?_) (fun f cdv Ar outer s H vs Q E hr h => ?_)
  · obtain ⟨v, t, rfl, _⟩ := h
    rfl
  obtain ⟨v, t, rfl, hO, hn, hs, q⟩ := h
  refine ⟨_, (pss_one (ps_ret (pe_cal c_once hr (by omega) pass0 (pa_cons (pe_dyn m_all_boxes hr (by omega) pass0 (pv 0)) pa_nil)))), ?_⟩
  walk_at "rd"
  refine rd_dynS hO (by decide +kernel) ?_
  refine ⟨_, t, rfl, hO, rfl, hn, hs, fun p H1 np e1 hp => ?_⟩
  have hl := t.bx_len
  refine ⟨p, t.bx, rfl, SqL.of hp, by omega, fun r ys H2 nr e2 hr2 hy hz => ?_⟩
  exact q r ys H2 (free_back e1 nr) (e1.trans e2) hr2 hy (by omega)
theorem ok_stack_names (T : Txt K mg A) (i : SC) : Mth P w K mg base CX0 (A.s i) "stack_names" 10 ["self"] (spSet A Sy.st) := by
  have m_all_stacks := ok_all_stacks (P := P) (w := w) (base := base) T 8
  have c_once := ok_once (P := P) (w := w) (base := base) T
  refine (T.mS_stack_names i).ok sc_Saying_stack_names (fun vs H Q E h => ?_) (fun f cdv Ar outer s H vs Q E hr h => ?_)
  · obtain ⟨v, t, rfl, _⟩ := h
    rfl
  obtain ⟨v, t, rfl, hO, hn, hs, q⟩ := h
  refine ⟨_, (pss_one (ps_ret (pe_cal c_once hr (by omega) pass0 (pa_cons (pe_dyn m_all_stacks hr (by omega) pass0 (pv 0)) pa_nil)))), ?_⟩
  walk_at "rd"
  refine rd_dynS hO (by decide +kernel) ?_
  refine ⟨_, t, rfl, hO, rfl, hn, hs, fun p H1 np e1 hp => ?_⟩
  have hl := t.st_len
  refine ⟨p, t.st, rfl, SqL.of hp, by omega, fun r ys H2 nr e2 hr2 hy hz => ?_⟩
  exact q r ys H2 (free_back e1 nr) (e1.trans e2) hr2 hy (by omega)
end

end

section
/-! ### stores, makers -/
theorem rd_store {K : PySem.W.Frag} {H : Hp} {a C dx : Addr} {fs : List (Str × V)} {f : Str} {y : V} {nx : Hp → Prop} (h : H a = some (.ins C dx fs)) (c : Cls K C) (n : NoAttr K C f) (hz : fs.length < 1000) (q : ∀ H', Kp [a] H H' → H' a = some (.ins C dx (putF f y fs)) → nx H') :
    ∃ a' C' dx' fs', V.ref a = .ref a' ∧ H a' = some (.ins C' dx' fs') ∧ Cls K C' ∧ NoAttr K C' f ∧ fs'.length < 1000 ∧ nx (upd H a' (.ins C' dx' (putF f y fs'))) :=
  ⟨a, C, dx, fs, rfl, h, c, n, hz, q _ (Kp.put h (by simp) (fun _ z => by cases z) (fun _ _ z => by cases z)) upd_same⟩
/-- what an __init__ promises: the fields are set, all else stands -/
def spInit (C : Addr) (pre : List V → Hp → Prop) (fs : List V → List (Str × V)) : Sp := fun vs H Q _ => ∃ (x dx : Addr) (as : List V), vs = .ref x :: as ∧ H x = some (.ins C dx []) ∧ pre as H ∧
  ∀ H', H' x = some (.ins C dx (fs as)) → Kp [x] H H' → Q .non H'
/-- C(..) by that promise -/
theorem rd_mk {C : Addr} {pre : List V → Hp → Prop} {fs : List V → List (Str × V)} {vs : List V} {H : Hp} {Q : VK} {E : XK} (hp : ∀ H', Same H H' → pre vs H') (q : ∀ a dx H', Same H H' → H' a = some (.ins C dx (fs vs)) → Q (.ref a) H') :
    ∀ x dx, H x = none → H dx = none → dx ≠ x → spInit C pre fs (.ref x :: (vs ++ [])) (upd (upd H dx (.own x)) x (.ins C dx [])) (fun v H2 => v = .non ∧ Q (.ref x) H2) E := by
  intro x dx nx nd ne
  have e1 : Same H (upd H dx (.own x)) := sm_new nd
  have n1 : upd H dx (.own x) x = none := by rw [upd_ne (Ne.symm ne)]; exact nx
  have e2 : Same H (upd (upd H dx (.own x)) x (.ins C dx [])) := e1.trans (sm_new n1)
  refine ⟨x, dx, vs, by rw [List.append_nil], upd_same, hp _ e2, fun H' h k => ⟨rfl, q x dx H' ?_ h⟩⟩
  exact sm_of_kp e2 nx k
section
variable {P : Program} {w : World} {K : PySem.W.Frag} {mg : Str → Option Value} {base : Heap} {A : CA}
theorem initLen {C : Addr} {pre : List V → Hp → Prop} {fs : List V → List (Str × V)} {n : Nat} (h : ∀ as H, pre as H → as.length = n) : ∀ vs H Q E, spInit C pre fs vs H Q E → vs.length = n + 1 := fun vs H Q E q => by
  obtain ⟨x, dx, as, rfl, _, hp, _⟩ := q
  rw [List.length_cons, h as H hp]
/-! ### told -/
def spTold (K : PySem.W.Frag) (A : CA) (n : Nat) (i : SC) : Sp := fun vs H Q _ => ∃ (v : V) (t : Sy), vs = [v] ∧ OS A H t v ∧ t.cls = i ∧ t.dp ≤ n ∧ ∀ (r : V) (H' : Hp), Same H H' → Dp K H' r t.told → Q r H'
theorem spTold0 {i : SC} : ∀ vs H Q E, ¬ spTold K A 0 i vs H Q E := fun vs H Q E h => by
  obtain ⟨v, t, _, _, _, hn, _⟩ := h
  have := t.dp_pos
  omega
def spWordTold (x : Str) : Sp := fun vs H Q _ => ∃ v : V, vs = [v] ∧ Rt H Q (.str x)
theorem ok_Many_word_told (T : Txt K mg A) : Mth P w K mg base CX0 (A.s .many) "word_told" 1 ["self"] (spWordTold "many") := by
  refine T.m_Many_word_told.ok sc_Many_word_told (fun vs H Q E h => ?_) (fun f cdv Ar outer s H vs Q E hr h => ?_)
  · obtain ⟨v, rfl, _⟩ := h
    rfl
  obtain ⟨v, rfl, q⟩ := h
  refine ⟨_, (pss_one (ps_ret pe_str)), ?_⟩
  walk_at "rd"
  exact q _ (Same.refl _)
theorem ok_Top_word_told (T : Txt K mg A) : Mth P w K mg base CX0 (A.s .top) "word_told" 1 ["self"] (spWordTold "top") := by
  refine T.m_Top_word_told.ok sc_Top_word_told (fun vs H Q E h => ?_) (fun f cdv Ar outer s H vs Q E hr h => ?_)
  · obtain ⟨v, rfl, _⟩ := h
    rfl
  obtain ⟨v, rfl, q⟩ := h
  refine ⟨_, (pss_one (ps_ret pe_str)), ?_⟩
  walk_at "rd"
  exact q _ (Same.refl _)
theorem ok_stold (T : Txt K mg A) : ∀ (n : Nat) (i : SC), Mth P w K mg base CX0 (A.s i) "told" (n + 2) ["self"] (spTold K A n i)
  | 0, .num => T.m_Number_told.never spTold0
  | 0, .box => T.m_Box_told.never spTold0
  | 0, .many => T.m_Many_told.never spTold0
  | 0, .top => T.m_Top_told.never spTold0
  | 0, .not => T.m_Not_told.never spTold0
  | 0, .pair => T.m_Pair_told.never spTold0
  | n + 1, .num => by
    refine T.m_Number_told.ok sc_Number_told (fun vs H Q E h => ?_) (fun f cdv Ar outer s H vs Q E hr h => ?_)
    · obtain ⟨v, t, rfl, _⟩ := h
      rfl
    obtain ⟨v, t, rfl, hO, hc, hn, q⟩ := h
    cases t with
    | num x =>
      obtain ⟨a, dx, rfl, h2⟩ := hO
      refine ⟨_, (pss_one (ps_ret (pe_tup (pa_cons pe_str (pa_cons (k_fld K (pv 0) rfl) pa_nil))))), ?_⟩
      walk_at "rd"
      refine ⟨a, _, dx, _, _, rfl, h2, (T.tyS .num).cl, T.n_Number_word, rfl, ?_⟩
      walk_at "rd"
      exact rd_new (by simp) fun p H1 np e1 hp => q _ H1 e1 (.tup (SqT.of hp) (.cons (.str _) (.cons (.int _) .nil)))
    | _ => cases hc
  | n + 1, .box => by
    refine T.m_Box_told.ok sc_Box_told (fun vs H Q E h => ?_) (fun f cdv Ar outer s H vs Q E hr h => ?_)
    · obtain ⟨v, t, rfl, _⟩ := h
      rfl
    obtain ⟨v, t, rfl, hO, hc, hn, q⟩ := h
    cases t with
    | box x =>
      obtain ⟨a, dx, rfl, h2⟩ := hO
      refine ⟨_, (pss_one (ps_ret (pe_tup (pa_cons pe_str (pa_cons (k_fld K (pv 0) rfl) pa_nil))))), ?_⟩
      walk_at "rd"
      refine ⟨a, _, dx, _, _, rfl, h2, (T.tyS .box).cl, T.n_Box_name, rfl, ?_⟩
      walk_at "rd"
      exact rd_new (by simp) fun p H1 np e1 hp => q _ H1 e1 (.tup (SqT.of hp) (.cons (.str _) (.cons (.str _) .nil)))
    | _ => cases hc
  | n + 1, .many => by
    have m_word_told := ok_Many_word_told (P := P) (w := w) (base := base) T
    refine T.m_Many_told.ok sc_OfStack_told (fun vs H Q E h => ?_) (fun f cdv Ar outer s H vs Q E hr h => ?_)
    · obtain ⟨v, t, rfl, _⟩ := h
      rfl
    obtain ⟨v, t, rfl, hO, hc, hn, q⟩ := h
    cases t with
    | many x =>
      obtain ⟨a, dx, rfl, h2⟩ := hO
      refine ⟨_, (pss_one (ps_ret (pe_tup (pa_cons (pe_mth0 m_word_told hr (by omega) pass0 (pv 0)) (pa_cons (k_fld K (pv 0) rfl) pa_nil))))), ?_⟩
      walk_at "rd"
      refine ⟨a, dx, _, rfl, h2, rfl, ?_⟩
      walk_at "rd"
      refine ⟨_, rfl, fun H1 e1 => ?_⟩
      walk_at "rd"
      refine ⟨a, _, dx, _, _, rfl, e1 _ _ h2, (T.tyS .many).cl, T.n_Many_stack, rfl, ?_⟩
      walk_at "rd"
      exact rd_new (by simp) fun p H2 np e2 hp => q _ H2 (e1.trans e2) (.tup (SqT.of hp) (.cons (.str _) (.cons (.str _) .nil)))
    | _ => cases hc
  | n + 1, .top => by
    have m_word_told := ok_Top_word_told (P := P) (w := w) (base := base) T
    refine T.m_Top_told.ok sc_OfStack_told (fun vs H Q E h => ?_) (fun f cdv Ar outer s H vs Q E hr h => ?_)
    · obtain ⟨v, t, rfl, _⟩ := h
      rfl
    obtain ⟨v, t, rfl, hO, hc, hn, q⟩ := h
    cases t with
    | top x =>
      obtain ⟨a, dx, rfl, h2⟩ := hO
      refine ⟨_, (pss_one (ps_ret (pe_tup (pa_cons (pe_mth0 m_word_told hr (by omega) pass0 (pv 0)) (pa_cons (k_fld K (pv 0) rfl) pa_nil))))), ?_⟩
      walk_at "rd"
      refine ⟨a, dx, _, rfl, h2, rfl, ?_⟩
      walk_at "rd"
      refine ⟨_, rfl, fun H1 e1 => ?_⟩
      walk_at "rd"
      refine ⟨a, _, dx, _, _, rfl, e1 _ _ h2, (T.tyS .top).cl, T.n_Top_stack, rfl, ?_⟩
      walk_at "rd"
      exact rd_new (by simp) fun p H2 np e2 hp => q _ H2 (e1.trans e2) (.tup (SqT.of hp) (.cons (.str _) (.cons (.str _) .nil)))
    | _ => cases hc
  | n + 1, .not => by
    have m_told := ok_stold T n
    refine T.m_Not_told.ok sc_Not_told (fun vs H Q E h => ?_) (fun f cdv Ar outer s H vs Q E hr h => ?_)
    · obtain ⟨v, t, rfl, _⟩ := h
      rfl
    obtain ⟨v, t, rfl, hO, hc, hn, q⟩ := h
    cases t with
    | not t1 =>
      obtain ⟨a, dx, u, rfl, h2, h3⟩ := hO
      refine ⟨_, (pss_one (ps_ret (pe_tup (pa_cons pe_str (pa_cons (pe_dyn m_told hr (by omega) pass0 (k_fld K (pv 0) rfl)) pa_nil))))), ?_⟩
      walk_at "rd"
      refine ⟨a, _, dx, _, u, rfl, h2, (T.tyS .not).cl, T.n_Not_one, rfl, ?_⟩
      refine rd_dynS h3 (by decide +kernel) ?_
      refine ⟨_, t1, rfl, h3, rfl, Sy.parts_dp (t := .not t1) (by simp [Sy.parts]) hn, fun r H1 e1 d1 => ?_⟩
      walk_at "rd"
      exact rd_new (by simp) fun p H2 np e2 hp => q _ H2 (e1.trans e2) (.tup (SqT.of hp) (.cons (.str _) (.cons (dp_sm e2 _ _ d1) .nil)))
    | _ => cases hc
  | n + 1, .pair => by
    have m_told := ok_stold T n
    refine T.m_Pair_told.ok sc_Pair_told (fun vs H Q E h => ?_) (fun f cdv Ar outer s H vs Q E hr h => ?_)
    · obtain ⟨v, t, rfl, _⟩ := h
      rfl
    obtain ⟨v, t, rfl, hO, hc, hn, q⟩ := h
    cases t with
    | pair sg t1 t2 =>
      obtain ⟨a, dx, u1, u2, rfl, h2, h3, h4⟩ := hO
      refine ⟨_, (pss_one (ps_ret (pe_tup (pa_cons (k_fld K (pv 0) rfl) (pa_cons (pe_dyn m_told hr (by omega) pass0 (k_fld K (pv 0) rfl)) (pa_cons (pe_dyn m_told hr (by omega) pass0 (k_fld K (pv 0) rfl)) pa_nil)))))), ?_⟩
      walk_at "rd"
      refine ⟨a, _, dx, _, _, rfl, h2, (T.tyS .pair).cl, T.n_Pair_sign, rfl, ?_⟩
      walk_at "rd"
      refine ⟨a, _, dx, _, u1, rfl, h2, (T.tyS .pair).cl, T.n_Pair_one, rfl, ?_⟩
      refine rd_dynS h3 (by decide +kernel) ?_
      refine ⟨_, t1, rfl, h3, rfl, Sy.parts_dp (t := .pair sg t1 t2) (by simp [Sy.parts]) hn, fun r1 H1 e1 d1 => ?_⟩
      walk_at "rd"
      refine ⟨a, _, dx, _, u2, rfl, e1 _ _ h2, (T.tyS .pair).cl, T.n_Pair_other, rfl, ?_⟩
      have h5 := h4.sm e1
      refine rd_dynS h5 (by decide +kernel) ?_
      refine ⟨_, t2, rfl, h5, rfl, Sy.parts_dp (t := .pair sg t1 t2) (by simp [Sy.parts]) hn, fun r2 H2 e2 d2 => ?_⟩
      walk_at "rd"
      exact rd_new (by simp) fun p H3 np e3 hp => q _ H3 ((e1.trans e2).trans e3) (.tup (SqT.of hp) (.cons (.str _) (.cons (dp_sm (e2.trans e3) _ _ d1) (.cons (dp_sm e3 _ _ d2) .nil))))
    | _ => cases hc
/-! ### makers -/
theorem ok_mk_Number (T : Txt K mg A) : Mkr P w K mg base CX0 "Number" (A.s .num) 3 ["self", "word"] (spInit (A.s .num) (fun as _ => ∃ n : Int, as = [.int n] ∧ 0 ≤ n ∧ n ≤ 65535) fun as => [("word", as.getD 0 .non)]) := by
  have c_is_word := ok_is_word (P := P) (w := w) (base := base) T
  refine T.k_Number.ok sc_Number_init (initLen (n := 1) fun as _ ⟨n, h, _⟩ => by rw [h] <;> rfl) (fun f cdv Ar outer s H vs Q E hr h => ?_)
  obtain ⟨x, dx, as, rfl, hx, ⟨n, rfl, h0, h1⟩, q⟩ := h
  refine ⟨_, (pss_cons (ps_if (pt_not (pt_val (pe_cal c_is_word hr (by omega) pass0 (pa_cons (pv 1) pa_nil)))) (pss_one ps_never) pss_nil)
    (pss_one (k_sfld K (pv 0) (pv 1) rfl))), ?_⟩
  walk_at "rd"
  refine ⟨n, rfl, h0, h1, fun H1 e1 => ?_⟩
  walk_at "rd"
  refine rd_store (e1 _ _ hx) (T.tyS .num).cl T.n_Number_word (by simp) fun H2 k2 h2 => ?_
  exact q H2 h2 ((sm_kp e1).trans k2)
def oneName (f : Str) (as : List V) : List (Str × V) := [(f, as.getD 0 .non)]
def preName : List V → Hp → Prop := fun as _ => ∃ x : Str, as = [.str x] ∧ nameOk x = true
theorem ok_mk_Box (T : Txt K mg A) : Mkr P w K mg base CX0 "Box" (A.s .box) 2 ["self", "name"] (spInit (A.s .box) preName fun as => [("name", as.getD 0 .non)]) := by
  have c_is_name := ok_is_name (P := P) (w := w) (base := base) T
  refine T.k_Box.ok sc_Box_init (initLen (n := 1) fun as _ ⟨n, h, _⟩ => by rw [h] <;> rfl) (fun f cdv Ar outer s H vs Q E hr h => ?_)
  obtain ⟨x, dx, as, rfl, hx, ⟨n, rfl, h0⟩, q⟩ := h
  refine ⟨_, (pss_cons (ps_if (pt_not (pt_val (pe_cal c_is_name hr (by omega) pass0 (pa_cons (pv 1) pa_nil)))) (pss_one ps_never) pss_nil)
    (pss_one (k_sfld K (pv 0) (pv 1) rfl))), ?_⟩
  walk_at "rd"
  refine ⟨n, rfl, h0, fun H1 e1 => ?_⟩
  walk_at "rd"
  refine rd_store (e1 _ _ hx) (T.tyS .box).cl T.n_Box_name (by simp) fun H2 k2 h2 => ?_
  exact q H2 h2 ((sm_kp e1).trans k2)
theorem ok_mk_OfStack {x : Str} {C : Addr} (d : MkAt K mg x C "OfStack.__init__" s_OfStack_init ["self", "stack"]) (c : TyC K C) (na : NoAttr K C "stack") (T : Txt K mg A) : Mkr P w K mg base CX0 x C 2 ["self", "stack"] (spInit C preName fun as => [("stack", as.getD 0 .non)]) := by
  have c_is_name := ok_is_name (P := P) (w := w) (base := base) T
  refine d.ok sc_OfStack_init (initLen (n := 1) fun as _ ⟨n, h, _⟩ => by rw [h] <;> rfl) (fun f cdv Ar outer s H vs Q E hr h => ?_)
  obtain ⟨x, dx, as, rfl, hx, ⟨n, rfl, h0⟩, q⟩ := h
  refine ⟨_, (pss_cons (ps_if (pt_not (pt_val (pe_cal c_is_name hr (by omega) pass0 (pa_cons (pv 1) pa_nil)))) (pss_one ps_never) pss_nil)
    (pss_one (k_sfld K (pv 0) (pv 1) rfl))), ?_⟩
  walk_at "rd"
  refine ⟨n, rfl, h0, fun H1 e1 => ?_⟩
  walk_at "rd"
  refine rd_store (e1 _ _ hx) c.cl na (by simp) fun H2 k2 h2 => ?_
  exact q H2 h2 ((sm_kp e1).trans k2)
/-- the parts of a saying that is made are objects of sayings -/
def preNot (A : CA) : List V → Hp → Prop := fun as H => ∃ (u : V) (t : Sy), as = [u] ∧ OS A H t u ∧ (Sy.not t).sz ≤ 30 ∧ (Sy.not t).dp ≤ 8
theorem ok_mk_Not (T : Txt K mg A) : Mkr P w K mg base CX0 "Not" (A.s .not) 11 ["self", "one"] (spInit (A.s .not) (preNot A) fun as => [("one", as.getD 0 .non)]) := by
  have m_need_small := ok_need_small (P := P) (w := w) (base := base) T
  refine T.k_Not.ok sc_Not_init (initLen (n := 1) fun as _ ⟨n, _, h, _⟩ => by rw [h] <;> rfl) (fun f cdv Ar outer s H vs Q E hr h => ?_)
  obtain ⟨x, dx, as, rfl, hx, ⟨u, t, rfl, hO, hs, hd⟩, q⟩ := h
  refine ⟨_, (pss_cons (k_sfld K (pv 0) (pv 1) rfl)
    (pss_one (ps_expr (pe_dyn m_need_small hr (by omega) pass0 (pv 0))))), ?_⟩
  walk_at "rd"
  refine rd_store hx (T.tyS .not).cl T.n_Not_one (by simp) fun H2 k2 h2 => ?_
  walk_at "rd"
  have nI : x ∉ ([] : List Addr) := by simp
  have hO2 : OS A H2 t u := OS.kpx hO hx k2
  have h3 : OS A H2 (.not t) (.ref x) := ⟨x, dx, u, rfl, h2, hO2⟩
  refine rd_dynS h3 (by decide +kernel) ?_
  refine ⟨_, _, rfl, h3, hs, hd, fun H4 e4 => ?_⟩
  exact q H4 (e4 _ _ h2) (k2.trans (sm_kp e4))
def prePair (A : CA) : List V → Hp → Prop := fun as H => ∃ (sg : Str) (u1 u2 : V) (t1 t2 : Sy), as = [.str sg, u1, u2] ∧ sg ∈ signs ∧ OS A H t1 u1 ∧ OS A H t2 u2 ∧ (Sy.pair sg t1 t2).sz ≤ 30 ∧ (Sy.pair sg t1 t2).dp ≤ 8
end

end

section
section
variable {P : Program} {w : World} {K : PySem.W.Frag} {mg : Str → Option Value} {base : Heap} {A : CA}
theorem in_signs {sg : Str} (h : sg ∈ signs) : inV (.str sg) [V.str "+", V.str "-", V.str "*", V.str "/", V.str ":", V.str "&", V.str "|", V.str "^", V.str "=", V.str "<"] = true := by
  have e : ∀ z ∈ signs, inV (.str z) [V.str "+", V.str "-", V.str "*", V.str "/", V.str ":", V.str "&", V.str "|", V.str "^", V.str "=", V.str "<"] = true := by decide +kernel
  exact e sg h
theorem ok_mk_Pair (T : Txt K mg A) : Mkr P w K mg base CX0 "Pair" (A.s .pair) 11 ["self", "sign", "one", "other"] (spInit (A.s .pair) (prePair A) fun as => [("sign", as.getD 0 .non), ("one", as.getD 1 .non), ("other", as.getD 2 .non)]) := by
  have m_need_small := ok_need_small (P := P) (w := w) (base := base) T
  refine T.k_Pair.ok sc_Pair_init (initLen (n := 3) fun as _ ⟨_, _, _, _, _, h, _⟩ => by rw [h] <;> rfl) (fun f cdv Ar outer s H vs Q E hr h => ?_)
  obtain ⟨x, dx, as, rfl, hx, ⟨sg, u1, u2, t1, t2, rfl, hsg, hO1, hO2, hs, hd⟩, q⟩ := h
  refine ⟨_, (pss_cons (ps_if (PW.pt (pw_or (pt_not (pt_val (pe_callB (k_isi K) (by rfl) T.b_isinstance bt_isinstance (pa_cons (pv 1) (pa_cons (pe_bltn (v := .ty "str") (by rfl) T.b_str bt_str rfl) pa_nil))))) (pw_or1 (pt_cmpR (k_nin K) (pv 1) (pe_gref T.g_SIGNS) rfl)))) (pss_one ps_never) pss_nil)
    (pss_cons (k_sfld K (pv 0) (pv 1) rfl)
    (pss_cons (k_sfld K (pv 0) (pv 2) rfl)
    (pss_cons (k_sfld K (pv 0) (pv 3) rfl)
    (pss_one (ps_expr (pe_dyn m_need_small hr (by omega) pass0 (pv 0)))))))), ?_⟩
  walk_at "rd"
  refine rd_isi (.ty _) (.base (.str _)) ki_ss ?_
  walk_at "rd"
  refine rd_nin_t (T.t_SIGNS H) rfl rfl ?_
  walk_at "rd"
  refine rd_false (by rw [in_signs hsg] <;> rfl) ?_
  walk_at "rd"
  refine rd_store hx (T.tyS .pair).cl T.n_Pair_sign (by simp) fun H2 k2 h2 => ?_
  walk_at "rd"
  refine rd_store h2 (T.tyS .pair).cl T.n_Pair_one (by simp [putF]) fun H3 k3 h3 => ?_
  walk_at "rd"
  refine rd_store h3 (T.tyS .pair).cl T.n_Pair_other (by show _ < 1000; exact (by decide : 2 < 1000)) fun H4 k4 h4 => ?_
  walk_at "rd"
  have k := (k2.trans k3).trans k4
  have g1 : OS A H4 t1 u1 := OS.kpx hO1 hx k
  have g2 : OS A H4 t2 u2 := OS.kpx hO2 hx k
  have h5 : OS A H4 (.pair sg t1 t2) (.ref x) := ⟨x, dx, u1, u2, rfl, h4, g1, g2⟩
  refine rd_dynS h5 (by decide +kernel) ?_
  refine ⟨_, _, rfl, h5, hs, hd, fun H6 e6 => ?_⟩
  exact q H6 (e6 _ _ h4) (k.trans (sm_kp e6))
/-! ### saying_within -/
def spSWithin (K : PySem.W.Frag) (A : CA) (n : Nat) : Sp := fun vs H Q _ => ∃ (v : V) (t : Sy) (d : Int), vs = [v, .int d] ∧ Dp K H v t.told ∧ t.wf ∧ t.sz ≤ 30 ∧ t.dp ≤ 8 ∧ t.dp ≤ n ∧ 1 ≤ d ∧ d + n ≤ 9 ∧ ∀ (r : V) (H' : Hp), Same H H' → OS A H' t r → Q r H'
theorem ok_saying_within (T : Txt K mg A) : ∀ n : Nat, Cal P w K mg base CX0 "saying_within" (n + 12) ["told", "deep"] (spSWithin K A n)
  | 0 => T.d_saying_within.never fun vs H Q E h => by
    obtain ⟨v, t, d, _, _, _, _, _, hn, _⟩ := h
    have := t.dp_pos
    omega
  | n + 1 => by
    have c_saying_within := ok_saying_within T n
    have k_Number := ok_mk_Number (P := P) (w := w) (base := base) T
    have k_Box := ok_mk_Box (P := P) (w := w) (base := base) T
    have k_Many := ok_mk_OfStack (P := P) (w := w) (base := base) T.k_Many T.ty_Many T.n_Many_stack T
    have k_Top := ok_mk_OfStack (P := P) (w := w) (base := base) T.k_Top T.ty_Top T.n_Top_stack T
    have k_Not := ok_mk_Not (P := P) (w := w) (base := base) T
    have k_Pair := ok_mk_Pair (P := P) (w := w) (base := base) T
    refine T.d_saying_within.ok sc_saying_within (fun vs H Q E h => ?_) (fun f cdv Ar outer s H vs Q E hr h => ?_)
    · obtain ⟨v, t, d, rfl, _⟩ := h
      rfl
    obtain ⟨v, t, d, rfl, hD, hw, hs, h8, hn, hd1, hd2, q⟩ := h
    refine ⟨_, (pss_cons (ps_if (PW.pt (pw_or (pt_not (pt_val (pe_callB (k_isi K) (by rfl) T.b_isinstance bt_isinstance (pa_cons (pv 0) (pa_cons (pe_bltn (v := .ty "tuple") (by rfl) T.b_tuple bt_tuple rfl) pa_nil))))) (pw_or (pt_cmpR op_lt (pe_callB (k_len K) (by rfl) T.b_len bt_len (pa_cons (pv 0) pa_nil)) pe_int (nomark _)) (pw_or (pt_not (pt_val (pe_callB (k_isi K) (by rfl) T.b_isinstance bt_isinstance (pa_cons (pe_ix (k_ix K) (pv 0) pe_int (fun _ _ => rfl)) (pa_cons (pe_bltn (v := .ty "str") (by rfl) T.b_str bt_str rfl) pa_nil))))) (pw_or1 (pt_cmpR op_gt (pv 1) (pe_gint T.i_MOST_DEEP_sayings) (nomark _))))))) (pss_one ps_never) pss_nil)
    (pss_cons (ps_if (pt_cmpR (k_eql K hr.units) (pe_callB (k_len K) (by rfl) T.b_len bt_len (pa_cons (pv 0) pa_nil)) pe_int (nomark _)) (pss_one (ps_ret (pe_mkr k_Pair hr (by omega) pass0 (pa_cons (pe_ix (k_ix K) (pv 0) pe_int (fun _ _ => rfl)) (pa_cons (pe_cal c_saying_within hr (by omega) pass0 (pa_cons (pe_ix (k_ix K) (pv 0) pe_int (fun _ _ => rfl)) (pa_cons (pe_op (k_plus K) (pv 1) pe_int) pa_nil))) (pa_cons (pe_cal c_saying_within hr (by omega) pass0 (pa_cons (pe_ix (k_ix K) (pv 0) pe_int (fun _ _ => rfl)) (pa_cons (pe_op (k_plus K) (pv 1) pe_int) pa_nil))) pa_nil)))))) pss_nil)
    (pss_cons (ps_if (PW.pt (pw_and (pt_cmpR (k_eql K hr.units) (pe_ix (k_ix K) (pv 0) pe_int (fun _ _ => rfl)) pe_str (nomark _)) (pw_and1 (pt_cmpR (k_eql K hr.units) (pe_callB (k_len K) (by rfl) T.b_len bt_len (pa_cons (pv 0) pa_nil)) pe_int (nomark _))))) (pss_one (ps_ret (pe_mkr k_Not hr (by omega) pass0 (pa_cons (pe_cal c_saying_within hr (by omega) pass0 (pa_cons (pe_ix (k_ix K) (pv 0) pe_int (fun _ _ => rfl)) (pa_cons (pe_op (k_plus K) (pv 1) pe_int) pa_nil))) pa_nil)))) pss_nil)
    (pss_cons (ps_if (pt_cmpR (k_neq K hr.units) (pe_callB (k_len K) (by rfl) T.b_len bt_len (pa_cons (pv 0) pa_nil)) pe_int (nomark _)) (pss_one ps_never) pss_nil)
    (pss_cons (ps_if (pt_cmpR (k_eql K hr.units) (pe_ix (k_ix K) (pv 0) pe_int (fun _ _ => rfl)) pe_str (nomark _)) (pss_one (ps_ret (pe_mkr k_Number hr (by omega) pass0 (pa_cons (pe_ix (k_ix K) (pv 0) pe_int (fun _ _ => rfl)) pa_nil)))) pss_nil)
    (pss_cons (ps_if (pt_cmpR (k_eql K hr.units) (pe_ix (k_ix K) (pv 0) pe_int (fun _ _ => rfl)) pe_str (nomark _)) (pss_one (ps_ret (pe_mkr k_Box hr (by omega) pass0 (pa_cons (pe_ix (k_ix K) (pv 0) pe_int (fun _ _ => rfl)) pa_nil)))) pss_nil)
    (pss_cons (ps_if (pt_cmpR (k_eql K hr.units) (pe_ix (k_ix K) (pv 0) pe_int (fun _ _ => rfl)) pe_str (nomark _)) (pss_one (ps_ret (pe_mkr k_Many hr (by omega) pass0 (pa_cons (pe_ix (k_ix K) (pv 0) pe_int (fun _ _ => rfl)) pa_nil)))) pss_nil)
    (pss_cons (ps_if (pt_cmpR (k_eql K hr.units) (pe_ix (k_ix K) (pv 0) pe_int (fun _ _ => rfl)) pe_str (nomark _)) (pss_one (ps_ret (pe_mkr k_Top hr (by omega) pass0 (pa_cons (pe_ix (k_ix K) (pv 0) pe_int (fun _ _ => rfl)) pa_nil)))) pss_nil)
    (pss_one ps_never))))))))), ?_⟩
    have hp := t.dp_pos
    have hdeep : ¬ (8 < d) := by omega
    cases t with
    | pair sg t1 t2 =>
      obtain ⟨a, x, y, z, rfl, hS, dx, dy, dz⟩ := dp_three hD
      cases dp_str dx
      obtain ⟨w0, w1, w2⟩ := hw
      have e1 : 1 + max t1.dp t2.dp ≤ n + 1 := hn
      have e2 : 1 + max t1.dp t2.dp ≤ 8 := h8
      have e3 : 1 + (t1.sz + t2.sz) ≤ 30 := hs
      walk_at "rd"
      refine rd_isi (.ty _) (tyx_tup hS) ki_tt ?_
      walk_at "rd"
      refine rd_len_t hS ?_
      walk_at "rd"
      refine rd_ix_t hS (atI_nat (j := 0) rfl) ?_
      walk_at "rd"
      refine rd_isi (.ty _) (.base (.str _)) ki_ss ?_
      walk_at "rd"
      refine rd_len_t hS ?_
      walk_at "rd"
      refine rd_ix_t hS (atI_nat (j := 0) rfl) ?_
      walk_at "rd"
      refine rd_ix_t hS (atI_nat (j := 1) rfl) ?_
      walk_at "rd"
      refine ⟨_, t1, _, rfl, dy, w1, by omega, by omega, by omega, by omega, by omega, fun r1 H1 s1 o1 => ?_⟩
      walk_at "rd"
      refine rd_ix_t (seqT_sm s1 hS) (atI_nat (j := 2) rfl) ?_
      walk_at "rd"
      refine ⟨_, t2, _, rfl, dp_sm s1 _ _ dz, w2, by omega, by omega, by omega, by omega, by omega, fun r2 H2 s2 o2 => ?_⟩
      walk_at "rd"
      refine rd_mk (fun H3 s3 => ⟨_, _, _, t1, t2, rfl, w0, (o1.sm s2).sm s3, o2.sm s3, hs, h8⟩) fun b dx H4 s4 hb => ?_
      exact q _ H4 ((s1.trans s2).trans s4) ⟨b, dx, r1, r2, rfl, hb, (o1.sm s2).sm s4, o2.sm s4⟩
    | not t1 =>
      obtain ⟨a, x, y, rfl, hS, dx, dy⟩ := dp_two hD
      cases dp_str dx
      have e1 : 1 + t1.dp ≤ n + 1 := hn
      have e2 : 1 + t1.dp ≤ 8 := h8
      have e3 : 1 + t1.sz ≤ 30 := hs
      walk_at "rd"
      refine rd_isi (.ty _) (tyx_tup hS) ki_tt ?_
      walk_at "rd"
      refine rd_len_t hS ?_
      walk_at "rd"
      refine rd_ix_t hS (atI_nat (j := 0) rfl) ?_
      walk_at "rd"
      refine rd_isi (.ty _) (.base (.str _)) ki_ss ?_
      walk_at "rd"
      refine rd_len_t hS ?_
      walk_at "rd"
      refine rd_ix_t hS (atI_nat (j := 0) rfl) ?_
      walk_at "rd"
      refine rd_len_t hS ?_
      walk_at "rd"
      refine rd_ix_t hS (atI_nat (j := 1) rfl) ?_
      walk_at "rd"
      refine ⟨_, t1, _, rfl, dy, hw, by omega, by omega, by omega, by omega, by omega, fun r1 H1 s1 o1 => ?_⟩
      walk_at "rd"
      refine rd_mk (fun H3 s3 => ⟨_, t1, rfl, o1.sm s3, hs, h8⟩) fun b dx H4 s4 hb => ?_
      exact q _ H4 (s1.trans s4) ⟨b, dx, r1, rfl, hb, o1.sm s4⟩
    | num i =>
      obtain ⟨a, x, y, rfl, hS, dx, dy⟩ := dp_two hD
      cases dp_str dx
      cases dp_int dy
      walk_at "rd"
      refine rd_isi (.ty _) (tyx_tup hS) ki_tt ?_
      walk_at "rd"
      refine rd_len_t hS ?_
      walk_at "rd"
      refine rd_ix_t hS (atI_nat (j := 0) rfl) ?_
      walk_at "rd"
      refine rd_isi (.ty _) (.base (.str _)) ki_ss ?_
      walk_at "rd"
      refine rd_len_t hS ?_
      walk_at "rd"
      refine rd_ix_t hS (atI_nat (j := 0) rfl) ?_
      walk_at "rd"
      refine rd_len_t hS ?_
      walk_at "rd"
      refine rd_ix_t hS (atI_nat (j := 0) rfl) ?_
      walk_at "rd"
      refine rd_ix_t hS (atI_nat (j := 1) rfl) ?_
      walk_at "rd"
      refine rd_mk (fun H3 s3 => ⟨_, rfl, hw.1, hw.2⟩) fun b dx H4 s4 hb => ?_
      exact q _ H4 s4 ⟨b, dx, rfl, hb⟩
    | box i =>
      obtain ⟨a, x, y, rfl, hS, dx, dy⟩ := dp_two hD
      cases dp_str dx
      cases dp_str dy
      walk_at "rd"
      refine rd_isi (.ty _) (tyx_tup hS) ki_tt ?_
      walk_at "rd"
      refine rd_len_t hS ?_
      walk_at "rd"
      refine rd_ix_t hS (atI_nat (j := 0) rfl) ?_
      walk_at "rd"
      refine rd_isi (.ty _) (.base (.str _)) ki_ss ?_
      walk_at "rd"
      refine rd_len_t hS ?_
      walk_at "rd"
      refine rd_ix_t hS (atI_nat (j := 0) rfl) ?_
      walk_at "rd"
      refine rd_len_t hS ?_
      walk_at "rd"
      refine rd_ix_t hS (atI_nat (j := 0) rfl) ?_
      walk_at "rd"
      refine rd_ix_t hS (atI_nat (j := 0) rfl) ?_
      walk_at "rd"
      refine rd_ix_t hS (atI_nat (j := 1) rfl) ?_
      walk_at "rd"
      refine rd_mk (fun H3 s3 => ⟨_, rfl, hw⟩) fun b dx H4 s4 hb => ?_
      exact q _ H4 s4 ⟨b, dx, rfl, hb⟩
    | many i =>
      obtain ⟨a, x, y, rfl, hS, dx, dy⟩ := dp_two hD
      cases dp_str dx
      cases dp_str dy
      walk_at "rd"
      refine rd_isi (.ty _) (tyx_tup hS) ki_tt ?_
      walk_at "rd"
      refine rd_len_t hS ?_
      walk_at "rd"
      refine rd_ix_t hS (atI_nat (j := 0) rfl) ?_
      walk_at "rd"
      refine rd_isi (.ty _) (.base (.str _)) ki_ss ?_
      walk_at "rd"
      refine rd_len_t hS ?_
      walk_at "rd"
      refine rd_ix_t hS (atI_nat (j := 0) rfl) ?_
      walk_at "rd"
      refine rd_len_t hS ?_
      walk_at "rd"
      refine rd_ix_t hS (atI_nat (j := 0) rfl) ?_
      walk_at "rd"
      refine rd_ix_t hS (atI_nat (j := 0) rfl) ?_
      walk_at "rd"
      refine rd_ix_t hS (atI_nat (j := 0) rfl) ?_
      walk_at "rd"
      refine rd_ix_t hS (atI_nat (j := 1) rfl) ?_
      walk_at "rd"
      refine rd_mk (fun H3 s3 => ⟨_, rfl, hw⟩) fun b dx H4 s4 hb => ?_
      exact q _ H4 s4 ⟨b, dx, rfl, hb⟩
    | top i =>
      obtain ⟨a, x, y, rfl, hS, dx, dy⟩ := dp_two hD
      cases dp_str dx
      cases dp_str dy
      walk_at "rd"
      refine rd_isi (.ty _) (tyx_tup hS) ki_tt ?_
      walk_at "rd"
      refine rd_len_t hS ?_
      walk_at "rd"
      refine rd_ix_t hS (atI_nat (j := 0) rfl) ?_
      walk_at "rd"
      refine rd_isi (.ty _) (.base (.str _)) ki_ss ?_
      walk_at "rd"
      refine rd_len_t hS ?_
      walk_at "rd"
      refine rd_ix_t hS (atI_nat (j := 0) rfl) ?_
      walk_at "rd"
      refine rd_len_t hS ?_
      walk_at "rd"
      refine rd_ix_t hS (atI_nat (j := 0) rfl) ?_
      walk_at "rd"
      refine rd_ix_t hS (atI_nat (j := 0) rfl) ?_
      walk_at "rd"
      refine rd_ix_t hS (atI_nat (j := 0) rfl) ?_
      walk_at "rd"
      refine rd_ix_t hS (atI_nat (j := 0) rfl) ?_
      walk_at "rd"
      refine rd_ix_t hS (atI_nat (j := 1) rfl) ?_
      walk_at "rd"
      refine rd_mk (fun H3 s3 => ⟨_, rfl, hw⟩) fun b dx H4 s4 hb => ?_
      exact q _ H4 s4 ⟨b, dx, rfl, hb⟩
def spSayOf (K : PySem.W.Frag) (A : CA) : Sp := fun vs H Q _ => ∃ (v : V) (t : Sy), vs = [v] ∧ Dp K H v t.told ∧ t.ok ∧ ∀ (r : V) (H' : Hp), Same H H' → OS A H' t r → Q r H'
theorem ok_saying_of (T : Txt K mg A) : Cal P w K mg base CX0 "saying_of" 21 ["told"] (spSayOf K A) := by
  have c_saying_within := ok_saying_within (P := P) (w := w) (base := base) T 8
  refine T.d_saying_of.ok sc_saying_of (fun vs H Q E h => ?_) (fun f cdv Ar outer s H vs Q E hr h => ?_)
  · obtain ⟨v, t, rfl, _⟩ := h
    rfl
  obtain ⟨v, t, rfl, hD, ⟨hw, hs, hd⟩, q⟩ := h
  refine ⟨_, (pss_one (ps_ret (pe_cal c_saying_within hr (by omega) pass0 (pa_cons (pv 0) (pa_cons pe_int pa_nil))))), ?_⟩
  walk_at "rd"
  exact ⟨v, t, _, rfl, hD, hw, hs, hd, hd, by omega, by omega, q⟩
end

end

section
/-! # rows and programs as data -/
def CK.nm : CK → Str | .add => "add" | .less => "less" | .mix => "mix"
def CK.cls : CK → RC | .add => .add | .less => .less | .mix => .mix
def CK.mir : CK → CK | .add => .less | .less => .add | .mix => .mix
def MK.nm : MK → Str | .push => "push" | .pop => "pop"
def MK.cls : MK → RC | .push => .push | .pop => .pop
def MK.mir : MK → MK | .push => .pop | .pop => .push
def NK.nm : NK → Str | .call => "call" | .back => "back"
def NK.cls : NK → RC | .call => .call | .back => .back
def BK.nm : BK → Str | .cho => "choice" | .loop => "loop"
def BK.cls : BK → RC | .cho => .cho | .loop => .loop
def Rw.cls : Rw → RC
  | .chg k _ _ => k.cls
  | .swap _ _ => .swap
  | .turn _ _ => .turn
  | .mov k _ _ => k.cls
  | .nam k _ => k.cls
  | .blk k _ _ _ _ => k.cls
  | .held _ _ _ _ => .held
mutual
def Rw.told : Rw → PyData
  | .chg k b e => .tuple [.str k.nm, .str b, e.told]
  | .swap a b => .tuple [.str "swap", .str a, .str b]
  | .turn b n => .tuple [.str "turn", .str b, .int n]
  | .mov k b s => .tuple [.str k.nm, .str b, .str s]
  | .nam k x => .tuple [.str k.nm, .str x]
  | .blk k t y n a => .tuple [.str k.nm, t.told, .tuple (toldRs y), .tuple (toldRs n), a.told]
  | .held b e r f => .tuple [.str "held", .str b, e.told, .tuple (toldRs r), f.told]
def toldRs : List Rw → List PyData
  | [] => []
  | r :: rs => r.told :: toldRs rs
end
mutual
def Rw.wf : Rw → Prop
  | .chg _ b e => nameOk b = true ∧ e.ok
  | .swap a b => nameOk a = true ∧ nameOk b = true
  | .turn b n => nameOk b = true ∧ 0 ≤ n ∧ n < 16
  | .mov _ b s => nameOk b = true ∧ nameOk s = true
  | .nam _ x => nameOk x = true
  | .blk _ t y n a => t.ok ∧ wfRs y ∧ wfRs n ∧ a.ok
  | .held b e r f => nameOk b = true ∧ e.ok ∧ wfRs r ∧ f.ok
def wfRs : List Rw → Prop
  | [] => True
  | r :: rs => r.wf ∧ wfRs rs
end
mutual
def Rw.dp : Rw → Nat
  | .blk _ _ y n _ => 1 + max (dpRs y) (dpRs n)
  | .held _ _ r _ => 1 + dpRs r
  | .chg _ _ _ => 1
  | .swap _ _ => 1
  | .turn _ _ => 1
  | .mov _ _ _ => 1
  | .nam _ _ => 1
def dpRs : List Rw → Nat
  | [] => 0
  | r :: rs => max r.dp (dpRs rs)
end
mutual
def Rw.cnt : Rw → Nat
  | .blk _ _ y n _ => 1 + (cntRs y + cntRs n)
  | .held _ _ r _ => 1 + cntRs r
  | .chg _ _ _ => 1
  | .swap _ _ => 1
  | .turn _ _ => 1
  | .mov _ _ _ => 1
  | .nam _ _ => 1
def cntRs : List Rw → Nat
  | [] => 0
  | r :: rs => r.cnt + cntRs rs
end
mutual
def Rw.mir : Rw → Rw
  | .chg k b e => .chg k.mir b e
  | .swap a b => .swap a b
  | .turn b n => .turn b ((16 - n) % 16)
  | .mov k b s => .mov k.mir b s
  | .nam k x => .nam k x
  | .blk k t y n a => .blk k a (mirRs y) (mirRs n) t
  | .held b e r f => .held b f (mirRs r) e
def mirRs : List Rw → List Rw
  | [] => []
  | r :: rs => mirRs rs ++ [r.mir]
end
theorem toldRs_map : ∀ rs : List Rw, toldRs rs = rs.map Rw.told
  | [] => rfl
  | r :: rs => by
    show r.told :: toldRs rs = _
    rw [toldRs_map rs] <;> rfl
theorem mirRs_map : ∀ rs : List Rw, mirRs rs = (rs.map Rw.mir).reverse
  | [] => rfl
  | r :: rs => by
    show mirRs rs ++ [r.mir] = _
    rw [mirRs_map rs, List.map_cons, List.reverse_cons]
theorem wfRs_all : ∀ {rs : List Rw}, wfRs rs ↔ ∀ r ∈ rs, r.wf
  | [] => by simp [wfRs]
  | r :: rs => by
    have ih := wfRs_all (rs := rs)
    show r.wf ∧ wfRs rs ↔ _
    rw [ih]
    simp
theorem dpRs_all {n : Nat} : ∀ {rs : List Rw}, dpRs rs ≤ n ↔ ∀ r ∈ rs, r.dp ≤ n
  | [] => by simp [dpRs]
  | r :: rs => by
    have ih := dpRs_all (n := n) (rs := rs)
    show max r.dp (dpRs rs) ≤ n ↔ _
    rw [Nat.max_le, ih]
    simp
theorem cntRs_sum : ∀ rs : List Rw, cntRs rs = (rs.map Rw.cnt).sum
  | [] => rfl
  | r :: rs => by
    show r.cnt + cntRs rs = _
    rw [cntRs_sum rs, List.map_cons, List.sum_cons]
theorem cntRs_app : ∀ rs ss : List Rw, cntRs (rs ++ ss) = cntRs rs + cntRs ss := fun rs ss => by
  rw [cntRs_sum, cntRs_sum, cntRs_sum, List.map_append, List.sum_append]
theorem Rw.dp_pos : ∀ r : Rw, 1 ≤ r.dp
  | .chg _ _ _ => Nat.le_refl _
  | .swap _ _ => Nat.le_refl _
  | .turn _ _ => Nat.le_refl _
  | .mov _ _ _ => Nat.le_refl _
  | .nam _ _ => Nat.le_refl _
  | .blk _ _ _ _ _ => Nat.le_add_right _ _
  | .held _ _ _ _ => Nat.le_add_right _ _
theorem Rw.cnt_pos : ∀ r : Rw, 1 ≤ r.cnt
  | .chg _ _ _ => Nat.le_refl _
  | .swap _ _ => Nat.le_refl _
  | .turn _ _ => Nat.le_refl _
  | .mov _ _ _ => Nat.le_refl _
  | .nam _ _ => Nat.le_refl _
  | .blk _ _ _ _ _ => Nat.le_add_right _ _
  | .held _ _ _ _ => Nat.le_add_right _ _
theorem len_cnt : ∀ rs : List Rw, rs.length ≤ cntRs rs
  | [] => Nat.le_refl _
  | r :: rs => by
    have h := r.cnt_pos
    have ih := len_cnt rs
    show rs.length + 1 ≤ r.cnt + cntRs rs
    omega
theorem mirRs_app (rs ss : List Rw) : mirRs (rs ++ ss) = mirRs ss ++ mirRs rs := by
  rw [mirRs_map, mirRs_map, mirRs_map, List.map_append, List.reverse_append]
theorem CK.mir_mir (k : CK) : k.mir.mir = k := by cases k <;> rfl
theorem MK.mir_mir (k : MK) : k.mir.mir = k := by cases k <;> rfl
mutual
theorem Rw.mir_mir : ∀ r : Rw, r.wf → r.mir.mir = r
  | .chg k b e, _ => by show Rw.chg k.mir.mir b e = _; rw [CK.mir_mir]
  | .swap _ _, _ => rfl
  | .turn b n, h => by
    have z : (16 - (16 - n) % 16) % 16 = n := by
      have h1 : 0 ≤ n := h.2.1
      have h2 : n < 16 := h.2.2
      omega
    show Rw.turn b ((16 - (16 - n) % 16) % 16) = _
    rw [z]
  | .mov k b s, _ => by show Rw.mov k.mir.mir b s = _; rw [MK.mir_mir]
  | .nam _ _, _ => rfl
  | .blk k t y n a, h => by
    show Rw.blk k t (mirRs (mirRs y)) (mirRs (mirRs n)) a = _
    rw [mirRs_mir y h.2.1, mirRs_mir n h.2.2.1]
  | .held b e r f, h => by
    show Rw.held b e (mirRs (mirRs r)) f = _
    rw [mirRs_mir r h.2.2.1]
theorem mirRs_mir : ∀ rs : List Rw, wfRs rs → mirRs (mirRs rs) = rs
  | [], _ => rfl
  | r :: rs, h => by
    show mirRs (mirRs rs ++ [r.mir]) = _
    rw [mirRs_app, mirRs_mir rs h.2]
    show [r.mir.mir] ++ rs = _
    rw [Rw.mir_mir r h.1] <;> rfl
end
theorem wfRs_app {rs ss : List Rw} : wfRs (rs ++ ss) ↔ wfRs rs ∧ wfRs ss := by
  rw [wfRs_all, wfRs_all, wfRs_all]
  simp only [List.mem_append]
  exact ⟨fun h => ⟨fun r z => h r (.inl z), fun r z => h r (.inr z)⟩, fun h r z => z.elim (h.1 r) (h.2 r)⟩
theorem dpRs_app (rs ss : List Rw) : dpRs (rs ++ ss) = max (dpRs rs) (dpRs ss) := by
  induction rs with
  | nil => simp [dpRs]
  | cons r rs ih =>
    show max r.dp (dpRs (rs ++ ss)) = max (max r.dp (dpRs rs)) (dpRs ss)
    rw [ih, Nat.max_assoc]
mutual
theorem Rw.wf_mir : ∀ r : Rw, r.wf → r.mir.wf
  | .chg _ _ _, h => h
  | .swap _ _, h => h
  | .turn b n, h => ⟨h.1, by omega, by omega⟩
  | .mov _ _ _, h => h
  | .nam _ _, h => h
  | .blk k t y n a, h => ⟨h.2.2.2, wfRs_mir y h.2.1, wfRs_mir n h.2.2.1, h.1⟩
  | .held b e r f, h => ⟨h.1, h.2.2.2, wfRs_mir r h.2.2.1, h.2.1⟩
theorem wfRs_mir : ∀ rs : List Rw, wfRs rs → wfRs (mirRs rs)
  | [], _ => trivial
  | r :: rs, h => wfRs_app.mpr ⟨wfRs_mir rs h.2, Rw.wf_mir r h.1, trivial⟩
end
mutual
theorem Rw.dp_mir : ∀ r : Rw, r.mir.dp = r.dp
  | .chg _ _ _ => rfl
  | .swap _ _ => rfl
  | .turn _ _ => rfl
  | .mov _ _ _ => rfl
  | .nam _ _ => rfl
  | .blk k t y n a => by show 1 + max (dpRs (mirRs y)) (dpRs (mirRs n)) = 1 + max (dpRs y) (dpRs n); rw [dpRs_mir, dpRs_mir]
  | .held b e r f => by show 1 + dpRs (mirRs r) = 1 + dpRs r; rw [dpRs_mir]
theorem dpRs_mir : ∀ rs : List Rw, dpRs (mirRs rs) = dpRs rs
  | [] => rfl
  | r :: rs => by
    show dpRs (mirRs rs ++ [r.mir]) = max r.dp (dpRs rs)
    rw [dpRs_app, dpRs_mir rs]
    show max (dpRs rs) (max r.mir.dp 0) = _
    rw [Rw.dp_mir r]
    omega
end
mutual
theorem Rw.cnt_mir : ∀ r : Rw, r.mir.cnt = r.cnt
  | .chg _ _ _ => rfl
  | .swap _ _ => rfl
  | .turn _ _ => rfl
  | .mov _ _ _ => rfl
  | .nam _ _ => rfl
  | .blk k t y n a => by show 1 + (cntRs (mirRs y) + cntRs (mirRs n)) = 1 + (cntRs y + cntRs n); rw [cntRs_mir, cntRs_mir]
  | .held b e r f => by show 1 + cntRs (mirRs r) = 1 + cntRs r; rw [cntRs_mir]
theorem cntRs_mir : ∀ rs : List Rw, cntRs (mirRs rs) = cntRs rs
  | [] => rfl
  | r :: rs => by
    show cntRs (mirRs rs ++ [r.mir]) = r.cnt + cntRs rs
    rw [cntRs_app, cntRs_mir rs]
    show cntRs rs + (r.mir.cnt + 0) = _
    rw [Rw.cnt_mir r]
    omega
end
/-! ### objects of rows -/
def blkF : BK → V → V → V → V → List (Str × V)
  | .cho, u1, p1, p2, u2 => [("test", u1), ("yes", p1), ("no", p2), ("after", u2)]
  | .loop, u1, p1, p2, u2 => [("before", u1), ("first", p1), ("again", p2), ("test", u2)]
mutual
def OR (A : CA) (H : Hp) : Rw → V → Prop
  | .chg k b e, v => ∃ a dx u, v = .ref a ∧ H a = some (.ins (A.r k.cls) dx [("box", .str b), ("saying", u)]) ∧ OS A H e u
  | .swap x y, v => ∃ a dx, v = .ref a ∧ H a = some (.ins (A.r .swap) dx [("one", .str x), ("other", .str y)])
  | .turn b n, v => ∃ a dx, v = .ref a ∧ H a = some (.ins (A.r .turn) dx [("box", .str b), ("by", .int n)])
  | .mov k b s, v => ∃ a dx, v = .ref a ∧ H a = some (.ins (A.r k.cls) dx [("box", .str b), ("stack", .str s)])
  | .nam k x, v => ∃ a dx, v = .ref a ∧ H a = some (.ins (A.r k.cls) dx [("name", .str x)])
  | .blk k t y n a', v => ∃ a dx u1 p1 p2 u2 us1 us2, v = .ref a ∧ H a = some (.ins (A.r k.cls) dx (blkF k u1 (.ref p1) (.ref p2) u2)) ∧ OS A H t u1 ∧ H p1 = some (.tup us1) ∧ ORs A H y us1 ∧ H p2 = some (.tup us2) ∧ ORs A H n us2 ∧ OS A H a' u2
  | .held b e r f, v => ∃ a dx u1 p u2 us, v = .ref a ∧ H a = some (.ins (A.r .held) dx [("box", .str b), ("begin", u1), ("rows", .ref p), ("end", u2)]) ∧ OS A H e u1 ∧ H p = some (.tup us) ∧ ORs A H r us ∧ OS A H f u2
def ORs (A : CA) (H : Hp) : List Rw → List V → Prop
  | [], vs => vs = []
  | r :: rs, vs => ∃ u us, vs = u :: us ∧ OR A H r u ∧ ORs A H rs us
end
/-- what carries every object of rows over -/
structure Car (A : CA) (H H' : Hp) : Prop where
  s : ∀ {t : Sy} {v : V}, OS A H t v → OS A H' t v
  t : ∀ b xs, H b = some (.tup xs) → H' b = some (.tup xs)
  i : ∀ {a C dx : Addr} {f : Str × V} {fs : List (Str × V)}, H a = some (.ins C dx (f :: fs)) → H' a = some (.ins C dx (f :: fs))
section
variable {A : CA} {H H' : Hp}
theorem Car.sm (e : Same H H') : Car A H H' := ⟨fun h => h.sm e, fun _ _ h => e _ _ h, fun h => e _ _ h⟩
theorem Car.kp {M : List Addr} (e : Kp M H H') (n : NoIns M H) : Car A H H' := ⟨fun h => h.kp e n, e.tup, fun h => e.all _ _ h fun z => n _ z _ _ _ h⟩
theorem Car.kpx {x C dx : Addr} (hx : H x = some (.ins C dx [])) (k : Kp [x] H H') : Car A H H' := ⟨fun h => h.kpx hx k, k.tup, fun h => k.all _ _ h (by
  intro z
  rw [List.mem_singleton.mp z, hx] at h
  cases h)⟩
mutual
theorem OR.car (c : Car A H H') : ∀ (r : Rw) (v : V), OR A H r v → OR A H' r v
  | .chg k b e, _, ⟨a, dx, u, h1, h2, h3⟩ => ⟨a, dx, u, h1, c.i h2, c.s h3⟩
  | .swap _ _, _, ⟨a, dx, h1, h2⟩ => ⟨a, dx, h1, c.i h2⟩
  | .turn _ _, _, ⟨a, dx, h1, h2⟩ => ⟨a, dx, h1, c.i h2⟩
  | .mov _ _ _, _, ⟨a, dx, h1, h2⟩ => ⟨a, dx, h1, c.i h2⟩
  | .nam _ _, _, ⟨a, dx, h1, h2⟩ => ⟨a, dx, h1, c.i h2⟩
  | .blk .cho t y n a', _, ⟨a, dx, u1, p1, p2, u2, us1, us2, h1, h2, h3, h4, h5, h6, h7, h8⟩ => ⟨a, dx, u1, p1, p2, u2, us1, us2, h1, c.i h2, c.s h3, c.t _ _ h4, ORs.car c y us1 h5, c.t _ _ h6, ORs.car c n us2 h7, c.s h8⟩
  | .blk .loop t y n a', _, ⟨a, dx, u1, p1, p2, u2, us1, us2, h1, h2, h3, h4, h5, h6, h7, h8⟩ => ⟨a, dx, u1, p1, p2, u2, us1, us2, h1, c.i h2, c.s h3, c.t _ _ h4, ORs.car c y us1 h5, c.t _ _ h6, ORs.car c n us2 h7, c.s h8⟩
  | .held b e r f, _, ⟨a, dx, u1, p, u2, us, h1, h2, h3, h4, h5, h6⟩ => ⟨a, dx, u1, p, u2, us, h1, c.i h2, c.s h3, c.t _ _ h4, ORs.car c r us h5, c.s h6⟩
theorem ORs.car (c : Car A H H') : ∀ (rs : List Rw) (vs : List V), ORs A H rs vs → ORs A H' rs vs
  | [], _, h => h
  | r :: rs, _, ⟨u, us, h1, h2, h3⟩ => ⟨u, us, h1, OR.car c r u h2, ORs.car c rs us h3⟩
end
theorem OR.sm {r : Rw} {v : V} (h : OR A H r v) (e : Same H H') : OR A H' r v := OR.car (.sm e) r v h
theorem ORs.sm {rs : List Rw} {vs : List V} (h : ORs A H rs vs) (e : Same H H') : ORs A H' rs vs := ORs.car (.sm e) rs vs h
theorem ORs.len : ∀ {rs : List Rw} {vs : List V}, ORs A H rs vs → vs.length = rs.length
  | [], _, h => by rw [show _ = [] from h] <;> rfl
  | r :: rs, _, ⟨u, us, h1, _, h3⟩ => by rw [h1, List.length_cons, List.length_cons, h3.len]
theorem ORs.get : ∀ {rs : List Rw} {vs : List V} {j : Nat} {u : V}, ORs A H rs vs → vs[j]? = some u → ∃ r, rs[j]? = some r ∧ OR A H r u
  | [], _, _, _, h, e => by rw [show _ = [] from h] at e; simp at e
  | r :: rs, _, 0, u, ⟨u', us, h1, h2, _⟩, e => by
    rw [h1] at e
    have z : u' = u := by simpa using e
    rw [← z]
    exact ⟨r, rfl, h2⟩
  | r :: rs, _, j + 1, u, ⟨u', us, h1, _, h3⟩, e => by
    rw [h1] at e
    obtain ⟨r', g1, g2⟩ := h3.get (j := j) (u := u) (by simpa using e)
    exact ⟨r', by simpa using g1, g2⟩
theorem ORs.of_get : ∀ {rs : List Rw} {vs : List V}, vs.length = rs.length → (∀ (j : Nat) u, vs[j]? = some u → ∃ r, rs[j]? = some r ∧ OR A H r u) → ORs A H rs vs
  | [], [], _, _ => rfl
  | [], _ :: _, h, _ => by simp at h
  | _ :: _, [], h, _ => by simp at h
  | r :: rs, u :: us, h, g => by
    obtain ⟨r', e1, e2⟩ := g 0 u rfl
    have e3 : r = r' := Option.some.inj e1
    rw [← e3] at e2
    exact ⟨u, us, rfl, e2, ORs.of_get (by simpa using h) fun j z hz => g (j + 1) z hz⟩
def rowFields : List Str := ["box", "saying", "one", "other", "by", "stack", "name", "test", "yes", "no", "after", "before", "first", "again", "begin", "rows", "end"]
theorem lookup_free0 {fl : List Str} : ∀ {ks : List (Str × V)} {m : Str}, (ks.map (·.1)).all (fl.contains ·) = true → fl.contains m = false → ks.lookup m = none
  | [], _, _, _ => rfl
  | (k, x) :: r, m, hk, hm => by
    rw [List.map_cons, List.all_cons] at hk
    obtain ⟨h1, h2⟩ := Bool.and_eq_true_iff.mp hk
    rw [List.lookup_cons]
    have hne : (m == k) = false := by
      cases e : m == k with
      | false => rfl
      | true =>
        have e' : m = k := eq_of_beq e
        rw [e'] at hm
        rw [hm] at h1
        cases h1
    rw [hne]
    exact lookup_free0 h2 hm
theorem lookup_free {fl : List Str} {fs : List (Str × V)} {m : Str} (ks : List Str) (e : fs.map (·.1) = ks) (h : ks.all (fl.contains ·) = true) (hm : fl.contains m = false) : fs.lookup m = none := lookup_free0 (by rw [e]; exact h) hm
theorem OR.obj {r : Rw} {v : V} (h : OR A H r v) : ∃ a dx fs, v = .ref a ∧ H a = some (.ins (A.r r.cls) dx fs) ∧ ∀ m : Str, rowFields.contains m = false → fs.lookup m = none := by
  cases r with
  | chg k b e => obtain ⟨a, dx, u, h1, h2, _⟩ := h; exact ⟨a, dx, _, h1, h2, fun m hm => lookup_free ["box", "saying"] rfl (by decide +kernel) hm⟩
  | swap x y => obtain ⟨a, dx, h1, h2⟩ := h; exact ⟨a, dx, _, h1, h2, fun m hm => lookup_free ["one", "other"] rfl (by decide +kernel) hm⟩
  | turn x y => obtain ⟨a, dx, h1, h2⟩ := h; exact ⟨a, dx, _, h1, h2, fun m hm => lookup_free ["box", "by"] rfl (by decide +kernel) hm⟩
  | mov k x y => obtain ⟨a, dx, h1, h2⟩ := h; exact ⟨a, dx, _, h1, h2, fun m hm => lookup_free ["box", "stack"] rfl (by decide +kernel) hm⟩
  | nam k x => obtain ⟨a, dx, h1, h2⟩ := h; exact ⟨a, dx, _, h1, h2, fun m hm => lookup_free ["name"] rfl (by decide +kernel) hm⟩
  | blk k t y n a' =>
    obtain ⟨a, dx, u1, p1, p2, u2, us1, us2, h1, h2, _⟩ := h
    cases k with
    | cho => exact ⟨a, dx, _, h1, h2, fun m hm => lookup_free ["test", "yes", "no", "after"] rfl (by decide +kernel) hm⟩
    | loop => exact ⟨a, dx, _, h1, h2, fun m hm => lookup_free ["before", "first", "again", "test"] rfl (by decide +kernel) hm⟩
  | held b e r f => obtain ⟨a, dx, u1, p, u2, us, h1, h2, _⟩ := h; exact ⟨a, dx, _, h1, h2, fun m hm => lookup_free ["box", "begin", "rows", "end"] rfl (by decide +kernel) hm⟩
end

end

section
section
variable {P : Program} {w : World} {K : PySem.W.Frag} {mg : Str → Option Value} {base : Heap} {A : CA}
/-! ### need_names, need_sayings, need_rows -/
def spNeedNames (K : PySem.W.Frag) : Sp := fun vs H Q _ => ∃ (p : Addr) (xs : List Str), vs = [.ref p] ∧ SqL K H p (xs.map V.str) ∧ (∀ x ∈ xs, nameOk x = true) ∧ Rt H Q .non
theorem ok_need_names (T : Txt K mg A) : Cal P w K mg base CX0 "need_names" 2 ["names"] (spNeedNames K) := by
  have c_is_name := ok_is_name (P := P) (w := w) (base := base) T
  refine T.d_need_names.ok sc_need_names (fun vs H Q E h => ?_) (fun f cdv Ar outer s H vs Q E hr h => ?_)
  · obtain ⟨p, xs, rfl, _⟩ := h
    rfl
  obtain ⟨p, xs, rfl, hS, hn, q⟩ := h
  refine ⟨_, (pss_one (ps_for PassesOwn.never rfl (k_any K (pv 0)) (pg_name (i := 1) sc_need_names.nd rfl (by first | exact Or.inl rfl | exact Or.inr rfl)) (pss_one (ps_if (pt_not (pt_val (pe_cal c_is_name hr (by omega) pass0 (pa_cons (pv 1) pa_nil)))) (pss_one ps_never) pss_nil)))), ?_⟩
  refine rd_for_l ?_
  walk_at "rd"
  refine ⟨_, rfl, ⟨_, hS⟩, ?_⟩
  refine for_it walk_list (fun _ σ' H' => (∃ o, σ' = [some (.ref p), o]) ∧ Same H H') ⟨⟨none, rfl⟩, Same.refl _⟩ (fun _ _ _ _ h => h.2.seq hS) ?_ ?_
  · rintro j y σ' H2 H3 hj ⟨⟨o, rfl⟩, e2⟩ ⟨rfl, hx⟩
    rw [List.getElem?_map] at hx
    obtain ⟨x, hx1, rfl⟩ := Option.map_eq_some_iff.mp hx
    walk_at "rd"
    refine ⟨x, rfl, hn x (List.mem_of_getElem? hx1), fun H4 e4 => ?_⟩
    walk_at "rd"
    exact ⟨⟨_, rfl⟩, e2.trans e4⟩
  · rintro σ' H2 ⟨_, e2⟩
    exact q _ e2
def spNeedSayings (K : PySem.W.Frag) (A : CA) : Sp := fun vs H Q _ => ∃ (p : Addr) (us : List V), vs = [.ref p] ∧ SqL K H p us ∧ (∀ u ∈ us, ∃ t, OS A H t u) ∧ Rt H Q .non
theorem ok_need_sayings (T : Txt K mg A) : Cal P w K mg base CX0 "need_sayings" 1 ["sayings"] (spNeedSayings K A) := by
  refine T.d_need_sayings.ok sc_need_sayings (fun vs H Q E h => ?_) (fun f cdv Ar outer s H vs Q E hr h => ?_)
  · obtain ⟨p, xs, rfl, _⟩ := h
    rfl
  obtain ⟨p, us, rfl, hS, hn, q⟩ := h
  refine ⟨_, (pss_one (ps_for PassesOwn.never rfl (k_any K (pv 0)) (pg_name (i := 1) sc_need_sayings.nd rfl (by first | exact Or.inl rfl | exact Or.inr rfl)) (pss_one (ps_if (pt_not (pt_val (pe_callB (k_isi K) (by rfl) T.b_isinstance bt_isinstance (pa_cons (pv 1) (pa_cons (pe_gref T.g_Saying) pa_nil))))) (pss_one ps_never) pss_nil)))), ?_⟩
  refine rd_for_l ?_
  walk_at "rd"
  refine ⟨_, rfl, ⟨_, hS⟩, ?_⟩
  refine for_it walk_list (fun _ σ' H' => (∃ o, σ' = [some (.ref p), o]) ∧ Same H H') ⟨⟨none, rfl⟩, Same.refl _⟩ (fun _ _ _ _ h => h.2.seq hS) ?_ ?_
  · rintro j y σ' H2 H3 hj ⟨⟨o, rfl⟩, e2⟩ ⟨rfl, hx⟩
    obtain ⟨t, ht⟩ := hn y (List.mem_of_getElem? hx)
    walk_at "rd"
    refine rd_isi (.own _) ((ht.sm e2).tyx T) (T.isS _) ?_
    walk_at "rd"
    exact ⟨⟨_, rfl⟩, e2⟩
  · rintro σ' H2 ⟨_, e2⟩
    exact q _ e2
theorem Txt.tyR (T : Txt K mg A) (i : RC) : TyC K (A.r i) := by
  cases i with
  | add => exact T.ty_Add
  | less => exact T.ty_Less
  | mix => exact T.ty_Mix
  | swap => exact T.ty_Swap
  | turn => exact T.ty_Turn
  | push => exact T.ty_Push
  | pop => exact T.ty_Pop
  | call => exact T.ty_Call
  | back => exact T.ty_Back
  | cho => exact T.ty_Choice
  | loop => exact T.ty_Loop
  | held => exact T.ty_Held
theorem Txt.isR (T : Txt K mg A) (i : RC) : PySem.W.kitOne K (.ref (A.r i)) (.ref A.Row) = some true := by
  cases i with
  | add => exact T.is_Add_Row
  | less => exact T.is_Less_Row
  | mix => exact T.is_Mix_Row
  | swap => exact T.is_Swap_Row
  | turn => exact T.is_Turn_Row
  | push => exact T.is_Push_Row
  | pop => exact T.is_Pop_Row
  | call => exact T.is_Call_Row
  | back => exact T.is_Back_Row
  | cho => exact T.is_Choice_Row
  | loop => exact T.is_Loop_Row
  | held => exact T.is_Held_Row
theorem OR.tyx (T : Txt K mg A) {H : Hp} {r : Rw} {v : V} (h : OR A H r v) : TyX K H v (.ref (A.r r.cls)) := by
  obtain ⟨a, dx, fs, rfl, h2, _⟩ := h.obj
  exact tyx_ins (T.tyR _) h2
theorem rd_dynR {H : Hp} {r : Rw} {v : V} {m : Str} {sp : RC → Sp} {Q : VK} {E : XK} (h : OR A H r v) (hm : rowFields.contains m = false) (q : sp r.cls [v] H Q E) :
    ∃ i a dx fs, v = .ref a ∧ H a = some (.ins (A.r i) dx fs) ∧ fs.lookup m = none ∧ sp i [v] H Q E := by
  obtain ⟨a, dx, fs, h1, h2, h3⟩ := h.obj
  exact ⟨r.cls, a, dx, fs, h1, h2, h3 m hm, q⟩
/-- a tuple of rows -/
def OT (A : CA) (H : Hp) (rs : List Rw) (v : V) : Prop := ∃ p us, v = .ref p ∧ H p = some (.tup us) ∧ ORs A H rs us
theorem OT.car {H H' : Hp} (c : Car A H H') {rs : List Rw} {v : V} (h : OT A H rs v) : OT A H' rs v := by
  obtain ⟨p, us, h1, h2, h3⟩ := h
  exact ⟨p, us, h1, c.t _ _ h2, ORs.car c _ _ h3⟩
theorem OT.sm {H H' : Hp} (e : Same H H') {rs : List Rw} {v : V} (h : OT A H rs v) : OT A H' rs v := h.car (.sm e)
def spNeedRows (A : CA) : Sp := fun vs H Q _ => ∃ (v : V) (rs : List Rw), vs = [v] ∧ OT A H rs v ∧ rs.length ≤ 1000 ∧ Rt H Q .non
theorem ok_need_rows (T : Txt K mg A) : Cal P w K mg base CX0 "need_rows" 1 ["rows"] (spNeedRows A) := by
  refine T.d_need_rows.ok sc_need_rows (fun vs H Q E h => ?_) (fun f cdv Ar outer s H vs Q E hr h => ?_)
  · obtain ⟨v, rs, rfl, _⟩ := h
    rfl
  obtain ⟨v, rs, rfl, ⟨p, us, rfl, hp, hu⟩, hz, q⟩ := h
  refine ⟨_, (pss_one (ps_if (PW.pt (pw_or (pt_not (pt_val (pe_callB (k_isi K) (by rfl) T.b_isinstance bt_isinstance (pa_cons (pv 0) (pa_cons (pe_bltn (v := .ty "tuple") (by rfl) T.b_tuple bt_tuple rfl) pa_nil))))) (pw_or1 (pt_not (pt_val (pe_callB (k_all K rfl) (by rfl) T.b_all bt_all (pa_cons (pe_lc (own := [("row", 1)]) rfl sc_need_rows.nd (k_any K (pv 0)) (blkOk_by (N := N_need_rows) (sc := defScope s_need_rows) (by decide +kernel)) (fun _ _ _ _ _ => (pg_name (i := 1) sc_need_rows.nd rfl (by first | exact Or.inl rfl | exact Or.inr rfl))) (fun _ _ _ _ _ => pts_nil) (fun _ _ _ _ _ => (pe_callB (k_isi K) (by rfl) T.b_isinstance bt_isinstance (pa_cons (pv 1) (pa_cons (pe_gref T.g_Row) pa_nil))))) pa_nil))))))) (pss_one ps_never) pss_nil)), ?_⟩
  walk_at "rd"
  refine rd_isi (.ty _) (tyx_tup (SqT.of hp)) ki_tt ?_
  walk_at "rd"
  refine rd_lc_t ?_
  walk_at "rd"
  refine ⟨_, rfl, ⟨_, SqT.of hp⟩, fun D nD => ?_⟩
  have hl := hu.len
  refine lc_map walk_tup (fun j y _ => y = .bl true) nD (by omega) (fun _ _ _ _ _ _ h => h) (fun H' e => seqT_sm e (SqT.of hp)) ?_ ?_
  · rintro j y H2 H3 F Z hi e2 ⟨rfl, hx⟩ hF
    refine ⟨Same.refl _, ?_⟩
    obtain ⟨r, h1, h2⟩ := hu.get hx
    walk_at "rd"
    refine ⟨rfl, ?_⟩
    walk_at "rd"
    refine rd_isi (.own _) ((h2.sm e2).tyx T) (T.isR _) ?_
    exact hF _ _ (Same.refl _) rfl
  · intro ys H2 e2 hD hly hy
    walk_at "rd"
    refine rd_all hD hy ?_
    walk_at "rd"
    exact q _ e2
/-! ### makers of rows -/
def preChg (A : CA) : List V → Hp → Prop := fun as H => ∃ (b : Str) (u : V) (e : Sy), as = [.str b, u] ∧ nameOk b = true ∧ OS A H e u
theorem ok_mk_Change {x : Str} {C : Addr} (d : MkAt K mg x C "Change.__init__" s_Change_init ["self", "box", "saying"]) (c : TyC K C) (n1 : NoAttr K C "box") (n2 : NoAttr K C "saying") (T : Txt K mg A) :
    Mkr P w K mg base CX0 x C 3 ["self", "box", "saying"] (spInit C (preChg A) fun as => [("box", as.getD 0 .non), ("saying", as.getD 1 .non)]) := by
  have c_need_names := ok_need_names (P := P) (w := w) (base := base) T
  have c_need_sayings := ok_need_sayings (P := P) (w := w) (base := base) T
  refine d.ok sc_Change_init (initLen (n := 2) fun as _ ⟨_, _, _, h, _⟩ => by rw [h] <;> rfl) (fun f cdv Ar outer s H vs Q E hr h => ?_)
  obtain ⟨x, dx, as, rfl, hx, ⟨b, u, e, rfl, hb, hO⟩, q⟩ := h
  refine ⟨_, (pss_cons (ps_expr (pe_cal c_need_names hr (by omega) pass0 (pa_cons (pe_lst (pa_cons (pv 1) pa_nil)) pa_nil)))
    (pss_cons (ps_expr (pe_cal c_need_sayings hr (by omega) pass0 (pa_cons (pe_lst (pa_cons (pv 2) pa_nil)) pa_nil)))
    (pss_cons (k_sfld K (pv 0) (pv 1) rfl)
    (pss_one (k_sfld K (pv 0) (pv 2) rfl))))), ?_⟩
  walk_at "rd"
  refine rd_new (by simp) fun p H1 np e1 hp => ?_
  refine ⟨p, [b], rfl, SqL.of hp, by simpa using hb, fun H2 e2 => ?_⟩
  walk_at "rd"
  refine rd_new (by simp) fun p2 H3 np2 e3 hp2 => ?_
  have e13 := (e1.trans e2).trans e3
  refine ⟨p2, [u], rfl, SqL.of hp2, fun z hz => ⟨e, by rw [List.mem_singleton.mp hz]; exact hO.sm e13⟩, fun H4 e4 => ?_⟩
  have e14 := e13.trans e4
  walk_at "rd"
  refine rd_store (e14 _ _ hx) c.cl n1 (by simp) fun H5 k5 h5 => ?_
  walk_at "rd"
  refine rd_store h5 c.cl n2 (by simp [putF]) fun H6 k6 h6 => ?_
  exact q H6 h6 ((sm_kp e14).trans (k5.trans k6))
def preNames (n : Nat) : List V → Hp → Prop := fun as _ => ∃ xs : List Str, as = xs.map V.str ∧ xs.length = n ∧ ∀ x ∈ xs, nameOk x = true
theorem ok_mk_Swap (T : Txt K mg A) : Mkr P w K mg base CX0 "Swap" (A.r .swap) 3 ["self", "one", "other"] (spInit (A.r .swap) (preNames 2) fun as => [("one", as.getD 0 .non), ("other", as.getD 1 .non)]) := by
  have c_need_names := ok_need_names (P := P) (w := w) (base := base) T
  refine T.k_Swap.ok sc_Swap_init (initLen (n := 2) fun as _ ⟨xs, h, hl, _⟩ => by rw [h, List.length_map, hl]) (fun f cdv Ar outer s H vs Q E hr h => ?_)
  obtain ⟨x, dx, as, rfl, hx, ⟨xs, rfl, hl, hn⟩, q⟩ := h
  match xs, hl, hn with
  | [y, z], _, hn =>
    refine ⟨_, (pss_cons (ps_expr (pe_cal c_need_names hr (by omega) pass0 (pa_cons (pe_lst (pa_cons (pv 1) (pa_cons (pv 2) pa_nil))) pa_nil)))
    (pss_cons (k_sfld K (pv 0) (pv 1) rfl)
    (pss_one (k_sfld K (pv 0) (pv 2) rfl)))), ?_⟩
    walk_at "rd"
    refine rd_new (by simp) fun p H1 np e1 hp => ?_
    refine ⟨p, [y, z], rfl, SqL.of hp, hn, fun H2 e2 => ?_⟩
    walk_at "rd"
    refine rd_store ((e1.trans e2) _ _ hx) (T.tyR .swap).cl T.n_Swap_one (by simp) fun H5 k5 h5 => ?_
    walk_at "rd"
    refine rd_store h5 (T.tyR .swap).cl T.n_Swap_other (by simp [putF]) fun H6 k6 h6 => ?_
    exact q H6 h6 ((sm_kp (e1.trans e2)).trans (k5.trans k6))
theorem ok_mk_Moved {x : Str} {C : Addr} (d : MkAt K mg x C "Moved.__init__" s_Moved_init ["self", "box", "stack"]) (c : TyC K C) (n1 : NoAttr K C "box") (n2 : NoAttr K C "stack") (T : Txt K mg A) :
    Mkr P w K mg base CX0 x C 3 ["self", "box", "stack"] (spInit C (preNames 2) fun as => [("box", as.getD 0 .non), ("stack", as.getD 1 .non)]) := by
  have c_need_names := ok_need_names (P := P) (w := w) (base := base) T
  refine d.ok sc_Moved_init (initLen (n := 2) fun as _ ⟨xs, h, hl, _⟩ => by rw [h, List.length_map, hl]) (fun f cdv Ar outer s H vs Q E hr h => ?_)
  obtain ⟨x, dx, as, rfl, hx, ⟨xs, rfl, hl, hn⟩, q⟩ := h
  match xs, hl, hn with
  | [y, z], _, hn =>
    refine ⟨_, (pss_cons (ps_expr (pe_cal c_need_names hr (by omega) pass0 (pa_cons (pe_lst (pa_cons (pv 1) (pa_cons (pv 2) pa_nil))) pa_nil)))
    (pss_cons (k_sfld K (pv 0) (pv 1) rfl)
    (pss_one (k_sfld K (pv 0) (pv 2) rfl)))), ?_⟩
    walk_at "rd"
    refine rd_new (by simp) fun p H1 np e1 hp => ?_
    refine ⟨p, [y, z], rfl, SqL.of hp, hn, fun H2 e2 => ?_⟩
    walk_at "rd"
    refine rd_store ((e1.trans e2) _ _ hx) c.cl n1 (by simp) fun H5 k5 h5 => ?_
    walk_at "rd"
    refine rd_store h5 c.cl n2 (by simp [putF]) fun H6 k6 h6 => ?_
    exact q H6 h6 ((sm_kp (e1.trans e2)).trans (k5.trans k6))
theorem ok_mk_Named {x : Str} {C : Addr} (d : MkAt K mg x C "Named.__init__" s_Named_init ["self", "name"]) (c : TyC K C) (n1 : NoAttr K C "name") (T : Txt K mg A) :
    Mkr P w K mg base CX0 x C 3 ["self", "name"] (spInit C preName fun as => [("name", as.getD 0 .non)]) := by
  have c_need_names := ok_need_names (P := P) (w := w) (base := base) T
  refine d.ok sc_Named_init (initLen (n := 1) fun as _ ⟨_, h, _⟩ => by rw [h] <;> rfl) (fun f cdv Ar outer s H vs Q E hr h => ?_)
  obtain ⟨x, dx, as, rfl, hx, ⟨y, rfl, hn⟩, q⟩ := h
  refine ⟨_, (pss_cons (ps_expr (pe_cal c_need_names hr (by omega) pass0 (pa_cons (pe_lst (pa_cons (pv 1) pa_nil)) pa_nil)))
    (pss_one (k_sfld K (pv 0) (pv 1) rfl))), ?_⟩
  walk_at "rd"
  refine rd_new (by simp) fun p H1 np e1 hp => ?_
  refine ⟨p, [y], rfl, SqL.of hp, by simpa using hn, fun H2 e2 => ?_⟩
  walk_at "rd"
  refine rd_store ((e1.trans e2) _ _ hx) c.cl n1 (by simp) fun H5 k5 h5 => ?_
  exact q H5 h5 ((sm_kp (e1.trans e2)).trans k5)
def preTurn : List V → Hp → Prop := fun as _ => ∃ (b : Str) (n : Int), as = [.str b, .int n] ∧ nameOk b = true ∧ 0 ≤ n ∧ n < 16
theorem ok_mk_Turn (T : Txt K mg A) : Mkr P w K mg base CX0 "Turn" (A.r .turn) 3 ["self", "box", "by"] (spInit (A.r .turn) preTurn fun as => [("box", as.getD 0 .non), ("by", as.getD 1 .non)]) := by
  have c_need_names := ok_need_names (P := P) (w := w) (base := base) T
  have c_is_whole_rows := ok_whole_rows (P := P) (w := w) (base := base) T
  refine T.k_Turn.ok sc_Turn_init (initLen (n := 2) fun as _ ⟨_, _, h, _⟩ => by rw [h] <;> rfl) (fun f cdv Ar outer s H vs Q E hr h => ?_)
  obtain ⟨x, dx, as, rfl, hx, ⟨b, n, rfl, hb, h0, h1⟩, q⟩ := h
  refine ⟨_, (pss_cons (ps_expr (pe_cal c_need_names hr (by omega) pass0 (pa_cons (pe_lst (pa_cons (pv 1) pa_nil)) pa_nil)))
    (pss_cons (ps_if (PW.pt (pw_or (pt_not (pt_val (pe_cal c_is_whole_rows hr (by omega) pass0 (pa_cons (pv 2) pa_nil)))) (pw_or1 (pt_not (pt_chain op_le op_lt pe_int (pv 2) (pe_gint T.i_BITS)))))) (pss_one ps_never) pss_nil)
    (pss_cons (k_sfld K (pv 0) (pv 1) rfl)
    (pss_one (k_sfld K (pv 0) (pv 2) rfl))))), ?_⟩
  walk_at "rd"
  refine rd_new (by simp) fun p H1 np e1 hp => ?_
  refine ⟨p, [b], rfl, SqL.of hp, by simpa using hb, fun H2 e2 => ?_⟩
  walk_at "rd"
  refine ⟨n, rfl, fun H3 e3 => ?_⟩
  walk_at "rd"
  have e13 := (e1.trans e2).trans e3
  refine rd_store (e13 _ _ hx) (T.tyR .turn).cl T.n_Turn_box (by simp) fun H5 k5 h5 => ?_
  walk_at "rd"
  refine rd_store h5 (T.tyR .turn).cl T.n_Turn_by (by simp [putF]) fun H6 k6 h6 => ?_
  exact q H6 h6 ((sm_kp e13).trans (k5.trans k6))
def preBlk (A : CA) : List V → Hp → Prop := fun as H => ∃ (u1 v1 v2 u2 : V) (t a : Sy) (y n : List Rw), as = [u1, v1, v2, u2] ∧ OS A H t u1 ∧ OT A H y v1 ∧ OT A H n v2 ∧ OS A H a u2 ∧ y.length ≤ 1000 ∧ n.length ≤ 1000
theorem ok_mk_Choice (T : Txt K mg A) : Mkr P w K mg base CX0 "Choice" (A.r .cho) 3 ["self", "test", "yes", "no", "after"] (spInit (A.r .cho) (preBlk A) fun as => blkF .cho (as.getD 0 .non) (as.getD 1 .non) (as.getD 2 .non) (as.getD 3 .non)) := by
  have c_need_sayings := ok_need_sayings (P := P) (w := w) (base := base) T
  have c_need_rows := ok_need_rows (P := P) (w := w) (base := base) T
  refine T.k_Choice.ok sc_Choice_init (initLen (n := 4) fun as _ ⟨_, _, _, _, _, _, _, _, h, _⟩ => by rw [h] <;> rfl) (fun f cdv Ar outer s H vs Q E hr h => ?_)
  obtain ⟨x, dx, as, rfl, hx, ⟨u1, v1, v2, u2, t, a, y, n, rfl, h1, h2, h3, h4, hy, hn⟩, q⟩ := h
  refine ⟨_, (pss_cons (ps_expr (pe_cal c_need_sayings hr (by omega) pass0 (pa_cons (pe_lst (pa_cons (pv 1) pa_nil)) pa_nil)))
    (pss_cons (ps_expr (pe_cal c_need_rows hr (by omega) pass0 (pa_cons (pv 2) pa_nil)))
    (pss_cons (ps_expr (pe_cal c_need_rows hr (by omega) pass0 (pa_cons (pv 3) pa_nil)))
    (pss_cons (ps_expr (pe_cal c_need_sayings hr (by omega) pass0 (pa_cons (pe_lst (pa_cons (pv 4) pa_nil)) pa_nil)))
    (pss_cons (k_sfld K (pv 0) (pv 1) rfl)
    (pss_cons (k_sfld K (pv 0) (pv 2) rfl)
    (pss_cons (k_sfld K (pv 0) (pv 3) rfl)
    (pss_one (k_sfld K (pv 0) (pv 4) rfl))))))))), ?_⟩
  walk_at "rd"
  refine rd_new (by simp) fun p H1 np e1 hp => ?_
  refine ⟨p, [u1], rfl, SqL.of hp, fun z hz => ⟨t, by rw [List.mem_singleton.mp hz]; exact h1.sm e1⟩, fun H2 e2 => ?_⟩
  walk_at "rd"
  refine ⟨v1, y, rfl, h2.sm (e1.trans e2), hy, fun H3 e3 => ?_⟩
  walk_at "rd"
  refine ⟨v2, n, rfl, h3.sm ((e1.trans e2).trans e3), hn, fun H4 e4 => ?_⟩
  walk_at "rd"
  have e14 := ((e1.trans e2).trans e3).trans e4
  refine rd_new (by simp) fun p2 H5 np2 e5 hp2 => ?_
  refine ⟨p2, [u2], rfl, SqL.of hp2, fun z hz => ⟨a, by rw [List.mem_singleton.mp hz]; exact h4.sm (e14.trans e5)⟩, fun H6 e6 => ?_⟩
  walk_at "rd"
  have e16 := (e14.trans e5).trans e6
  refine rd_store (e16 _ _ hx) (T.tyR .cho).cl T.n_Choice_test (by simp) fun H7 k7 h7 => ?_
  walk_at "rd"
  refine rd_store h7 (T.tyR .cho).cl T.n_Choice_yes (by show _ < 1000; exact (by decide : 1 < 1000)) fun H8 k8 h8 => ?_
  walk_at "rd"
  refine rd_store h8 (T.tyR .cho).cl T.n_Choice_no (by show _ < 1000; exact (by decide : 2 < 1000)) fun H9 k9 h9 => ?_
  walk_at "rd"
  refine rd_store h9 (T.tyR .cho).cl T.n_Choice_after (by show _ < 1000; exact (by decide : 3 < 1000)) fun H10 k10 h10 => ?_
  exact q H10 h10 ((sm_kp e16).trans (k7.trans (k8.trans (k9.trans k10))))
theorem ok_mk_Loop (T : Txt K mg A) : Mkr P w K mg base CX0 "Loop" (A.r .loop) 3 ["self", "before", "first", "again", "test"] (spInit (A.r .loop) (preBlk A) fun as => blkF .loop (as.getD 0 .non) (as.getD 1 .non) (as.getD 2 .non) (as.getD 3 .non)) := by
  have c_need_sayings := ok_need_sayings (P := P) (w := w) (base := base) T
  have c_need_rows := ok_need_rows (P := P) (w := w) (base := base) T
  refine T.k_Loop.ok sc_Loop_init (initLen (n := 4) fun as _ ⟨_, _, _, _, _, _, _, _, h, _⟩ => by rw [h] <;> rfl) (fun f cdv Ar outer s H vs Q E hr h => ?_)
  obtain ⟨x, dx, as, rfl, hx, ⟨u1, v1, v2, u2, t, a, y, n, rfl, h1, h2, h3, h4, hy, hn⟩, q⟩ := h
  refine ⟨_, (pss_cons (ps_expr (pe_cal c_need_sayings hr (by omega) pass0 (pa_cons (pe_lst (pa_cons (pv 1) pa_nil)) pa_nil)))
    (pss_cons (ps_expr (pe_cal c_need_rows hr (by omega) pass0 (pa_cons (pv 2) pa_nil)))
    (pss_cons (ps_expr (pe_cal c_need_rows hr (by omega) pass0 (pa_cons (pv 3) pa_nil)))
    (pss_cons (ps_expr (pe_cal c_need_sayings hr (by omega) pass0 (pa_cons (pe_lst (pa_cons (pv 4) pa_nil)) pa_nil)))
    (pss_cons (k_sfld K (pv 0) (pv 1) rfl)
    (pss_cons (k_sfld K (pv 0) (pv 2) rfl)
    (pss_cons (k_sfld K (pv 0) (pv 3) rfl)
    (pss_one (k_sfld K (pv 0) (pv 4) rfl))))))))), ?_⟩
  walk_at "rd"
  refine rd_new (by simp) fun p H1 np e1 hp => ?_
  refine ⟨p, [u1], rfl, SqL.of hp, fun z hz => ⟨t, by rw [List.mem_singleton.mp hz]; exact h1.sm e1⟩, fun H2 e2 => ?_⟩
  walk_at "rd"
  refine ⟨v1, y, rfl, h2.sm (e1.trans e2), hy, fun H3 e3 => ?_⟩
  walk_at "rd"
  refine ⟨v2, n, rfl, h3.sm ((e1.trans e2).trans e3), hn, fun H4 e4 => ?_⟩
  walk_at "rd"
  have e14 := ((e1.trans e2).trans e3).trans e4
  refine rd_new (by simp) fun p2 H5 np2 e5 hp2 => ?_
  refine ⟨p2, [u2], rfl, SqL.of hp2, fun z hz => ⟨a, by rw [List.mem_singleton.mp hz]; exact h4.sm (e14.trans e5)⟩, fun H6 e6 => ?_⟩
  walk_at "rd"
  have e16 := (e14.trans e5).trans e6
  refine rd_store (e16 _ _ hx) (T.tyR .loop).cl T.n_Loop_before (by simp) fun H7 k7 h7 => ?_
  walk_at "rd"
  refine rd_store h7 (T.tyR .loop).cl T.n_Loop_first (by show _ < 1000; exact (by decide : 1 < 1000)) fun H8 k8 h8 => ?_
  walk_at "rd"
  refine rd_store h8 (T.tyR .loop).cl T.n_Loop_again (by show _ < 1000; exact (by decide : 2 < 1000)) fun H9 k9 h9 => ?_
  walk_at "rd"
  refine rd_store h9 (T.tyR .loop).cl T.n_Loop_test (by show _ < 1000; exact (by decide : 3 < 1000)) fun H10 k10 h10 => ?_
  exact q H10 h10 ((sm_kp e16).trans (k7.trans (k8.trans (k9.trans k10))))
def preHeld (A : CA) : List V → Hp → Prop := fun as H => ∃ (b : Str) (u1 v1 u2 : V) (e f : Sy) (r : List Rw), as = [.str b, u1, v1, u2] ∧ nameOk b = true ∧ OS A H e u1 ∧ OT A H r v1 ∧ OS A H f u2 ∧ r.length ≤ 1000
theorem ok_mk_Held (T : Txt K mg A) : Mkr P w K mg base CX0 "Held" (A.r .held) 3 ["self", "box", "begin", "rows", "end"] (spInit (A.r .held) (preHeld A) fun as => [("box", as.getD 0 .non), ("begin", as.getD 1 .non), ("rows", as.getD 2 .non), ("end", as.getD 3 .non)]) := by
  have c_need_names := ok_need_names (P := P) (w := w) (base := base) T
  have c_need_sayings := ok_need_sayings (P := P) (w := w) (base := base) T
  have c_need_rows := ok_need_rows (P := P) (w := w) (base := base) T
  refine T.k_Held.ok sc_Held_init (initLen (n := 4) fun as _ ⟨_, _, _, _, _, _, _, h, _⟩ => by rw [h] <;> rfl) (fun f cdv Ar outer s H vs Q E hr h => ?_)
  obtain ⟨x, dx, as, rfl, hx, ⟨b, u1, v1, u2, t, a, y, rfl, hb, h1, h2, h4, hy⟩, q⟩ := h
  refine ⟨_, (pss_cons (ps_expr (pe_cal c_need_names hr (by omega) pass0 (pa_cons (pe_lst (pa_cons (pv 1) pa_nil)) pa_nil)))
    (pss_cons (ps_expr (pe_cal c_need_sayings hr (by omega) pass0 (pa_cons (pe_lst (pa_cons (pv 2) pa_nil)) pa_nil)))
    (pss_cons (ps_expr (pe_cal c_need_rows hr (by omega) pass0 (pa_cons (pv 3) pa_nil)))
    (pss_cons (ps_expr (pe_cal c_need_sayings hr (by omega) pass0 (pa_cons (pe_lst (pa_cons (pv 4) pa_nil)) pa_nil)))
    (pss_cons (k_sfld K (pv 0) (pv 1) rfl)
    (pss_cons (k_sfld K (pv 0) (pv 2) rfl)
    (pss_cons (k_sfld K (pv 0) (pv 3) rfl)
    (pss_one (k_sfld K (pv 0) (pv 4) rfl))))))))), ?_⟩
  walk_at "rd"
  refine rd_new (by simp) fun p0 H0 np0 e0 hp0 => ?_
  refine ⟨p0, [b], rfl, SqL.of hp0, by simpa using hb, fun H01 e01 => ?_⟩
  have ee := e0.trans e01
  walk_at "rd"
  refine rd_new (by simp) fun p H1 np e1 hp => ?_
  have e1 := ee.trans e1
  refine ⟨p, [u1], rfl, SqL.of hp, fun z hz => ⟨t, by rw [List.mem_singleton.mp hz]; exact h1.sm e1⟩, fun H2 e2 => ?_⟩
  walk_at "rd"
  refine ⟨v1, y, rfl, h2.sm (e1.trans e2), hy, fun H4 e4 => ?_⟩
  walk_at "rd"
  have e14 := (e1.trans e2).trans e4
  refine rd_new (by simp) fun p2 H5 np2 e5 hp2 => ?_
  refine ⟨p2, [u2], rfl, SqL.of hp2, fun z hz => ⟨a, by rw [List.mem_singleton.mp hz]; exact h4.sm (e14.trans e5)⟩, fun H6 e6 => ?_⟩
  walk_at "rd"
  have e16 := (e14.trans e5).trans e6
  refine rd_store (e16 _ _ hx) (T.tyR .held).cl T.n_Held_box (by simp) fun H7 k7 h7 => ?_
  walk_at "rd"
  refine rd_store h7 (T.tyR .held).cl T.n_Held_begin (by show _ < 1000; exact (by decide : 1 < 1000)) fun H8 k8 h8 => ?_
  walk_at "rd"
  refine rd_store h8 (T.tyR .held).cl T.n_Held_rows (by show _ < 1000; exact (by decide : 2 < 1000)) fun H9 k9 h9 => ?_
  walk_at "rd"
  refine rd_store h9 (T.tyR .held).cl T.n_Held_end (by show _ < 1000; exact (by decide : 3 < 1000)) fun H10 k10 h10 => ?_
  exact q H10 h10 ((sm_kp e16).trans (k7.trans (k8.trans (k9.trans k10))))
end

end

section
section
variable {P : Program} {w : World} {K : PySem.W.Frag} {mg : Str → Option Value} {base : Heap} {A : CA}
/-! ### inner, sayings -/
def Rw.innerR : Rw → List (List Rw)
  | .blk _ _ y n _ => [y, n]
  | .held _ _ r _ => [r]
  | _ => []
def Rw.says : Rw → List Sy
  | .chg _ _ e => [e]
  | .blk _ t _ _ a => [t, a]
  | .held _ e _ f => [e, f]
  | _ => []
def spRInner (A : CA) (i : RC) : Sp := fun vs H Q _ => ∃ (v : V) (r : Rw), vs = [v] ∧ OR A H r v ∧ r.cls = i ∧ ∀ (p : Addr) (us : List V) (H' : Hp), H p = none → Same H H' → H' p = some (.lst us) → Paired (OT A H') r.innerR us → Q (.ref p) H'
def spRSays (A : CA) (i : RC) : Sp := fun vs H Q _ => ∃ (v : V) (r : Rw), vs = [v] ∧ OR A H r v ∧ r.cls = i ∧ ∀ (p : Addr) (us : List V) (H' : Hp), H p = none → Same H H' → H' p = some (.lst us) → OL A H' r.says us → Q (.ref p) H'
theorem ok_Row_inner {C : Addr} {i : RC} (hi : ∀ r : Rw, r.cls = i → r.innerR = []) (d : MthAt K C "inner" "Row.inner" s_Row_inner ["self"]) : Mth P w K mg base CX0 C "inner" 1 ["self"] (spRInner A i) := by
  refine d.ok sc_Row_inner (fun vs H Q E h => ?_) (fun f cdv Ar outer s H vs Q E hr h => ?_)
  · obtain ⟨v, r, rfl, _⟩ := h
    rfl
  obtain ⟨v, r, rfl, hO, hc, q⟩ := h
  refine ⟨_, (pss_one (ps_ret (pe_lst pa_nil))), ?_⟩
  walk_at "rd"
  refine rd_new (by simp) fun p H1 np e1 hp => q p [] H1 np e1 hp ?_
  rw [hi r hc]
  exact .nil
theorem ok_Row_sayings {C : Addr} {i : RC} (hi : ∀ r : Rw, r.cls = i → r.says = []) (d : MthAt K C "sayings" "Row.sayings" s_Row_sayings ["self"]) : Mth P w K mg base CX0 C "sayings" 1 ["self"] (spRSays A i) := by
  refine d.ok sc_Row_sayings (fun vs H Q E h => ?_) (fun f cdv Ar outer s H vs Q E hr h => ?_)
  · obtain ⟨v, r, rfl, _⟩ := h
    rfl
  obtain ⟨v, r, rfl, hO, hc, q⟩ := h
  refine ⟨_, (pss_one (ps_ret (pe_lst pa_nil))), ?_⟩
  walk_at "rd"
  refine rd_new (by simp) fun p H1 np e1 hp => q p [] H1 np e1 hp ?_
  rw [hi r hc]
  exact .nil
theorem ok_Change_sayings {C : Addr} {k : CK} (c : TyC K (A.r k.cls)) (na : NoAttr K (A.r k.cls) "saying") (d : MthAt K C "sayings" "Change.sayings" s_Change_sayings ["self"]) : Mth P w K mg base CX0 C "sayings" 1 ["self"] (spRSays A k.cls) := by
  refine d.ok sc_Change_sayings (fun vs H Q E h => ?_) (fun f cdv Ar outer s H vs Q E hr h => ?_)
  · obtain ⟨v, r, rfl, _⟩ := h
    rfl
  obtain ⟨v, r, rfl, hO, hc, q⟩ := h
  cases r with
  | chg k' b e =>
    have hk : k' = k := by cases k' <;> cases k <;> first | rfl | (simp [Rw.cls, CK.cls] at hc)
    subst hk
    obtain ⟨a, dx, u, rfl, h2, h3⟩ := hO
    refine ⟨_, (pss_one (ps_ret (pe_lst (pa_cons (k_fld K (pv 0) rfl) pa_nil)))), ?_⟩
    walk_at "rd"
    refine ⟨a, _, dx, _, u, rfl, h2, c.cl, na, rfl, ?_⟩
    walk_at "rd"
    exact rd_new (by simp) fun p H1 np e1 hp => q p _ H1 np e1 hp (.cons (h3.sm e1) .nil)
  | mov k' => cases k' <;> cases k <;> simp [Rw.cls, CK.cls, MK.cls] at hc
  | nam k' => cases k' <;> cases k <;> simp [Rw.cls, CK.cls, NK.cls] at hc
  | blk k' => cases k' <;> cases k <;> simp [Rw.cls, CK.cls, BK.cls] at hc
  | _ => cases k <;> simp [Rw.cls, CK.cls] at hc
theorem not_blk {r : Rw} {i : RC} (hc : r.cls = i) (hi : i ≠ .cho ∧ i ≠ .loop ∧ i ≠ .held) : r.innerR = [] := by
  cases r with
  | blk k => subst hc; cases k <;> simp [Rw.cls, BK.cls] at hi
  | held => subst hc; simp [Rw.cls] at hi
  | _ => rfl
theorem no_says {r : Rw} {i : RC} (hc : r.cls = i) (hi : i = .swap ∨ i = .turn ∨ i = .push ∨ i = .pop ∨ i = .call ∨ i = .back) : r.says = [] := by
  cases r with
  | blk k => subst hc; cases k <;> simp [Rw.cls, BK.cls] at hi
  | held => subst hc; simp [Rw.cls] at hi
  | chg k => subst hc; cases k <;> simp [Rw.cls, CK.cls] at hi
  | _ => rfl
theorem ok_rinner (T : Txt K mg A) : ∀ i, Mth P w K mg base CX0 (A.r i) "inner" 1 ["self"] (spRInner A i)
  | .add => ok_Row_inner (fun r h => not_blk h (by simp)) T.m_Add_inner
  | .less => ok_Row_inner (fun r h => not_blk h (by simp)) T.m_Less_inner
  | .mix => ok_Row_inner (fun r h => not_blk h (by simp)) T.m_Mix_inner
  | .swap => ok_Row_inner (fun r h => not_blk h (by simp)) T.m_Swap_inner
  | .turn => ok_Row_inner (fun r h => not_blk h (by simp)) T.m_Turn_inner
  | .push => ok_Row_inner (fun r h => not_blk h (by simp)) T.m_Push_inner
  | .pop => ok_Row_inner (fun r h => not_blk h (by simp)) T.m_Pop_inner
  | .call => ok_Row_inner (fun r h => not_blk h (by simp)) T.m_Call_inner
  | .back => ok_Row_inner (fun r h => not_blk h (by simp)) T.m_Back_inner
  | .cho => by
    refine T.m_Choice_inner.ok sc_Choice_inner (fun vs H Q E h => ?_) (fun f cdv Ar outer s H vs Q E hr h => ?_)
    · obtain ⟨v, r, rfl, _⟩ := h
      rfl
    obtain ⟨v, r, rfl, hO, hc, q⟩ := h
    cases r with
    | blk k' t y n a' =>
      have hk : k' = .cho := by cases k' <;> first | rfl | (simp [Rw.cls, BK.cls] at hc)
      subst hk
      obtain ⟨a, dx, u1, p1, p2, u2, us1, us2, rfl, h2, h3, h4, h5, h6, h7, h8⟩ := hO
      refine ⟨_, (pss_one (ps_ret (pe_lst (pa_cons (k_fld K (pv 0) rfl) (pa_cons (k_fld K (pv 0) rfl) pa_nil))))), ?_⟩
      walk_at "rd"
      refine ⟨a, _, dx, _, _, rfl, h2, (T.tyR .cho).cl, T.n_Choice_yes, rfl, ?_⟩
      walk_at "rd"
      refine ⟨a, _, dx, _, _, rfl, h2, (T.tyR .cho).cl, T.n_Choice_no, rfl, ?_⟩
      walk_at "rd"
      exact rd_new (by simp) fun p H1 np e1 hp => q p _ H1 np e1 hp (.cons (OT.sm e1 ⟨p1, us1, rfl, h4, h5⟩) (.cons (OT.sm e1 ⟨p2, us2, rfl, h6, h7⟩) .nil))
    | chg k' => cases k' <;> simp [Rw.cls, CK.cls] at hc
    | mov k' => cases k' <;> simp [Rw.cls, MK.cls] at hc
    | nam k' => cases k' <;> simp [Rw.cls, NK.cls] at hc
    | _ => simp [Rw.cls] at hc
  | .loop => by
    refine T.m_Loop_inner.ok sc_Loop_inner (fun vs H Q E h => ?_) (fun f cdv Ar outer s H vs Q E hr h => ?_)
    · obtain ⟨v, r, rfl, _⟩ := h
      rfl
    obtain ⟨v, r, rfl, hO, hc, q⟩ := h
    cases r with
    | blk k' t y n a' =>
      have hk : k' = .loop := by cases k' <;> first | rfl | (simp [Rw.cls, BK.cls] at hc)
      subst hk
      obtain ⟨a, dx, u1, p1, p2, u2, us1, us2, rfl, h2, h3, h4, h5, h6, h7, h8⟩ := hO
      refine ⟨_, (pss_one (ps_ret (pe_lst (pa_cons (k_fld K (pv 0) rfl) (pa_cons (k_fld K (pv 0) rfl) pa_nil))))), ?_⟩
      walk_at "rd"
      refine ⟨a, _, dx, _, _, rfl, h2, (T.tyR .loop).cl, T.n_Loop_first, rfl, ?_⟩
      walk_at "rd"
      refine ⟨a, _, dx, _, _, rfl, h2, (T.tyR .loop).cl, T.n_Loop_again, rfl, ?_⟩
      walk_at "rd"
      exact rd_new (by simp) fun p H1 np e1 hp => q p _ H1 np e1 hp (.cons (OT.sm e1 ⟨p1, us1, rfl, h4, h5⟩) (.cons (OT.sm e1 ⟨p2, us2, rfl, h6, h7⟩) .nil))
    | chg k' => cases k' <;> simp [Rw.cls, CK.cls] at hc
    | mov k' => cases k' <;> simp [Rw.cls, MK.cls] at hc
    | nam k' => cases k' <;> simp [Rw.cls, NK.cls] at hc
    | _ => simp [Rw.cls] at hc
  | .held => by
    refine T.m_Held_inner.ok sc_Held_inner (fun vs H Q E h => ?_) (fun f cdv Ar outer s H vs Q E hr h => ?_)
    · obtain ⟨v, r, rfl, _⟩ := h
      rfl
    obtain ⟨v, r, rfl, hO, hc, q⟩ := h
    cases r with
    | held b e rr ff =>
      obtain ⟨a, dx, u1, p0, u2, us, rfl, h2, h3, h4, h5, h6⟩ := hO
      refine ⟨_, (pss_one (ps_ret (pe_lst (pa_cons (k_fld K (pv 0) rfl) pa_nil)))), ?_⟩
      walk_at "rd"
      refine ⟨a, _, dx, _, _, rfl, h2, (T.tyR .held).cl, T.n_Held_rows, rfl, ?_⟩
      walk_at "rd"
      exact rd_new (by simp) fun p H1 np e1 hp => q p _ H1 np e1 hp (.cons (OT.sm e1 ⟨p0, us, rfl, h4, h5⟩) .nil)
    | chg k' => cases k' <;> simp [Rw.cls, CK.cls] at hc
    | mov k' => cases k' <;> simp [Rw.cls, MK.cls] at hc
    | nam k' => cases k' <;> simp [Rw.cls, NK.cls] at hc
    | blk k' => cases k' <;> simp [Rw.cls, BK.cls] at hc
    | _ => simp [Rw.cls] at hc
theorem ok_rsays (T : Txt K mg A) : ∀ i, Mth P w K mg base CX0 (A.r i) "sayings" 1 ["self"] (spRSays A i)
  | .add => ok_Change_sayings (k := .add) (T.tyR _) T.n_Add_saying T.m_Add_sayings
  | .less => ok_Change_sayings (k := .less) (T.tyR _) T.n_Less_saying T.m_Less_sayings
  | .mix => ok_Change_sayings (k := .mix) (T.tyR _) T.n_Mix_saying T.m_Mix_sayings
  | .swap => ok_Row_sayings (fun r h => no_says h (by simp)) T.m_Swap_sayings
  | .turn => ok_Row_sayings (fun r h => no_says h (by simp)) T.m_Turn_sayings
  | .push => ok_Row_sayings (fun r h => no_says h (by simp)) T.m_Push_sayings
  | .pop => ok_Row_sayings (fun r h => no_says h (by simp)) T.m_Pop_sayings
  | .call => ok_Row_sayings (fun r h => no_says h (by simp)) T.m_Call_sayings
  | .back => ok_Row_sayings (fun r h => no_says h (by simp)) T.m_Back_sayings
  | .cho => by
    refine T.m_Choice_sayings.ok sc_Choice_sayings (fun vs H Q E h => ?_) (fun f cdv Ar outer s H vs Q E hr h => ?_)
    · obtain ⟨v, r, rfl, _⟩ := h
      rfl
    obtain ⟨v, r, rfl, hO, hc, q⟩ := h
    cases r with
    | blk k' t y n a' =>
      have hk : k' = .cho := by cases k' <;> first | rfl | (simp [Rw.cls, BK.cls] at hc)
      subst hk
      obtain ⟨a, dx, u1, p1, p2, u2, us1, us2, rfl, h2, h3, h4, h5, h6, h7, h8⟩ := hO
      refine ⟨_, (pss_one (ps_ret (pe_lst (pa_cons (k_fld K (pv 0) rfl) (pa_cons (k_fld K (pv 0) rfl) pa_nil))))), ?_⟩
      walk_at "rd"
      refine ⟨a, _, dx, _, _, rfl, h2, (T.tyR .cho).cl, T.n_Choice_test, rfl, ?_⟩
      walk_at "rd"
      refine ⟨a, _, dx, _, _, rfl, h2, (T.tyR .cho).cl, T.n_Choice_after, rfl, ?_⟩
      walk_at "rd"
      exact rd_new (by simp) fun p H1 np e1 hp => q p _ H1 np e1 hp (.cons (h3.sm e1) (.cons (h8.sm e1) .nil))
    | chg k' => cases k' <;> simp [Rw.cls, CK.cls] at hc
    | mov k' => cases k' <;> simp [Rw.cls, MK.cls] at hc
    | nam k' => cases k' <;> simp [Rw.cls, NK.cls] at hc
    | _ => simp [Rw.cls] at hc
  | .loop => by
    refine T.m_Loop_sayings.ok sc_Loop_sayings (fun vs H Q E h => ?_) (fun f cdv Ar outer s H vs Q E hr h => ?_)
    · obtain ⟨v, r, rfl, _⟩ := h
      rfl
    obtain ⟨v, r, rfl, hO, hc, q⟩ := h
    cases r with
    | blk k' t y n a' =>
      have hk : k' = .loop := by cases k' <;> first | rfl | (simp [Rw.cls, BK.cls] at hc)
      subst hk
      obtain ⟨a, dx, u1, p1, p2, u2, us1, us2, rfl, h2, h3, h4, h5, h6, h7, h8⟩ := hO
      refine ⟨_, (pss_one (ps_ret (pe_lst (pa_cons (k_fld K (pv 0) rfl) (pa_cons (k_fld K (pv 0) rfl) pa_nil))))), ?_⟩
      walk_at "rd"
      refine ⟨a, _, dx, _, _, rfl, h2, (T.tyR .loop).cl, T.n_Loop_before, rfl, ?_⟩
      walk_at "rd"
      refine ⟨a, _, dx, _, _, rfl, h2, (T.tyR .loop).cl, T.n_Loop_test, rfl, ?_⟩
      walk_at "rd"
      exact rd_new (by simp) fun p H1 np e1 hp => q p _ H1 np e1 hp (.cons (h3.sm e1) (.cons (h8.sm e1) .nil))
    | chg k' => cases k' <;> simp [Rw.cls, CK.cls] at hc
    | mov k' => cases k' <;> simp [Rw.cls, MK.cls] at hc
    | nam k' => cases k' <;> simp [Rw.cls, NK.cls] at hc
    | _ => simp [Rw.cls] at hc
  | .held => by
    refine T.m_Held_sayings.ok sc_Held_sayings (fun vs H Q E h => ?_) (fun f cdv Ar outer s H vs Q E hr h => ?_)
    · obtain ⟨v, r, rfl, _⟩ := h
      rfl
    obtain ⟨v, r, rfl, hO, hc, q⟩ := h
    cases r with
    | held b e rr ff =>
      obtain ⟨a, dx, u1, p0, u2, us, rfl, h2, h3, h4, h5, h6⟩ := hO
      refine ⟨_, (pss_one (ps_ret (pe_lst (pa_cons (k_fld K (pv 0) rfl) (pa_cons (k_fld K (pv 0) rfl) pa_nil))))), ?_⟩
      walk_at "rd"
      refine ⟨a, _, dx, _, _, rfl, h2, (T.tyR .held).cl, T.n_Held_begin, rfl, ?_⟩
      walk_at "rd"
      refine ⟨a, _, dx, _, _, rfl, h2, (T.tyR .held).cl, T.n_Held_end, rfl, ?_⟩
      walk_at "rd"
      exact rd_new (by simp) fun p H1 np e1 hp => q p _ H1 np e1 hp (.cons (h3.sm e1) (.cons (h6.sm e1) .nil))
    | chg k' => cases k' <;> simp [Rw.cls, CK.cls] at hc
    | mov k' => cases k' <;> simp [Rw.cls, MK.cls] at hc
    | nam k' => cases k' <;> simp [Rw.cls, NK.cls] at hc
    | blk k' => cases k' <;> simp [Rw.cls, BK.cls] at hc
    | _ => simp [Rw.cls] at hc
/-! ### word_told -/
theorem ok_Add_word_told (T : Txt K mg A) : Mth P w K mg base CX0 (A.r .add) "word_told" 1 ["self"] (spWordTold "add") := by
  refine T.m_Add_word_told.ok sc_Add_word_told (fun vs H Q E h => ?_) (fun f cdv Ar outer s H vs Q E hr h => ?_)
  · obtain ⟨v, rfl, _⟩ := h
    rfl
  obtain ⟨v, rfl, q⟩ := h
  refine ⟨_, (pss_one (ps_ret pe_str)), ?_⟩
  walk_at "rd"
  exact q _ (Same.refl _)
theorem ok_Less_word_told (T : Txt K mg A) : Mth P w K mg base CX0 (A.r .less) "word_told" 1 ["self"] (spWordTold "less") := by
  refine T.m_Less_word_told.ok sc_Less_word_told (fun vs H Q E h => ?_) (fun f cdv Ar outer s H vs Q E hr h => ?_)
  · obtain ⟨v, rfl, _⟩ := h
    rfl
  obtain ⟨v, rfl, q⟩ := h
  refine ⟨_, (pss_one (ps_ret pe_str)), ?_⟩
  walk_at "rd"
  exact q _ (Same.refl _)
theorem ok_Mix_word_told (T : Txt K mg A) : Mth P w K mg base CX0 (A.r .mix) "word_told" 1 ["self"] (spWordTold "mix") := by
  refine T.m_Mix_word_told.ok sc_Mix_word_told (fun vs H Q E h => ?_) (fun f cdv Ar outer s H vs Q E hr h => ?_)
  · obtain ⟨v, rfl, _⟩ := h
    rfl
  obtain ⟨v, rfl, q⟩ := h
  refine ⟨_, (pss_one (ps_ret pe_str)), ?_⟩
  walk_at "rd"
  exact q _ (Same.refl _)
theorem ok_Push_word_told (T : Txt K mg A) : Mth P w K mg base CX0 (A.r .push) "word_told" 1 ["self"] (spWordTold "push") := by
  refine T.m_Push_word_told.ok sc_Push_word_told (fun vs H Q E h => ?_) (fun f cdv Ar outer s H vs Q E hr h => ?_)
  · obtain ⟨v, rfl, _⟩ := h
    rfl
  obtain ⟨v, rfl, q⟩ := h
  refine ⟨_, (pss_one (ps_ret pe_str)), ?_⟩
  walk_at "rd"
  exact q _ (Same.refl _)
theorem ok_Pop_word_told (T : Txt K mg A) : Mth P w K mg base CX0 (A.r .pop) "word_told" 1 ["self"] (spWordTold "pop") := by
  refine T.m_Pop_word_told.ok sc_Pop_word_told (fun vs H Q E h => ?_) (fun f cdv Ar outer s H vs Q E hr h => ?_)
  · obtain ⟨v, rfl, _⟩ := h
    rfl
  obtain ⟨v, rfl, q⟩ := h
  refine ⟨_, (pss_one (ps_ret pe_str)), ?_⟩
  walk_at "rd"
  exact q _ (Same.refl _)
theorem ok_Call_word_told (T : Txt K mg A) : Mth P w K mg base CX0 (A.r .call) "word_told" 1 ["self"] (spWordTold "call") := by
  refine T.m_Call_word_told.ok sc_Call_word_told (fun vs H Q E h => ?_) (fun f cdv Ar outer s H vs Q E hr h => ?_)
  · obtain ⟨v, rfl, _⟩ := h
    rfl
  obtain ⟨v, rfl, q⟩ := h
  refine ⟨_, (pss_one (ps_ret pe_str)), ?_⟩
  walk_at "rd"
  exact q _ (Same.refl _)
theorem ok_Back_word_told (T : Txt K mg A) : Mth P w K mg base CX0 (A.r .back) "word_told" 1 ["self"] (spWordTold "back") := by
  refine T.m_Back_word_told.ok sc_Back_word_told (fun vs H Q E h => ?_) (fun f cdv Ar outer s H vs Q E hr h => ?_)
  · obtain ⟨v, rfl, _⟩ := h
    rfl
  obtain ⟨v, rfl, q⟩ := h
  refine ⟨_, (pss_one (ps_ret pe_str)), ?_⟩
  walk_at "rd"
  exact q _ (Same.refl _)
end

end

section
mutual
theorem noL_row : ∀ r : Rw, noL r.told = true
  | .chg k b e => by show (true && (true && (noL e.told && true))) = true; rw [noL_told] <;> rfl
  | .swap _ _ => rfl
  | .turn _ _ => rfl
  | .mov _ _ _ => rfl
  | .nam _ _ => rfl
  | .blk k t y n a => by
    show (true && (noL t.told && (noLs (toldRs y) && (noLs (toldRs n) && (noL a.told && true))))) = true
    rw [noL_told, noL_told, noLs_rows y, noLs_rows n] <;> rfl
  | .held b e r f => by
    show (true && (true && (noL e.told && (noLs (toldRs r) && (noL f.told && true))))) = true
    rw [noL_told, noL_told, noLs_rows r] <;> rfl
theorem noLs_rows : ∀ rs : List Rw, noLs (toldRs rs) = true
  | [] => rfl
  | r :: rs => by
    show (noL r.told && noLs (toldRs rs)) = true
    rw [noL_row r, noLs_rows rs] <;> rfl
end
theorem dpAll_of_get {K : PySem.W.Frag} {H : Hp} : ∀ {ds : List PyData} {vs : List V}, vs.length = ds.length → (∀ (j : Nat) u, vs[j]? = some u → ∃ d, ds[j]? = some d ∧ Dp K H u d) → DpAll K H vs ds
  | [], [], _, _ => .nil
  | [], _ :: _, h, _ => by simp at h
  | _ :: _, [], h, _ => by simp at h
  | d :: ds, v :: vs, h, g => by
    obtain ⟨d', e1, e2⟩ := g 0 v rfl
    have e3 : d = d' := Option.some.inj e1
    rw [← e3] at e2
    exact .cons e2 (dpAll_of_get (by simpa using h) fun j z hz => g (j + 1) z hz)
section
variable {P : Program} {w : World} {K : PySem.W.Frag} {mg : Str → Option Value} {base : Heap} {A : CA}
/-! ### told -/
def spRTold (K : PySem.W.Frag) (A : CA) (n : Nat) (i : RC) : Sp := fun vs H Q _ => ∃ (v : V) (r : Rw), vs = [v] ∧ OR A H r v ∧ r.cls = i ∧ r.dp ≤ n ∧ r.cnt ≤ 1000 ∧ r.wf ∧ ∀ (x : V) (H' : Hp), Same H H' → Dp K H' x r.told → Q x H'
def spToldRows (K : PySem.W.Frag) (A : CA) (n : Nat) : Sp := fun vs H Q _ => ∃ (v : V) (rs : List Rw), vs = [v] ∧ OT A H rs v ∧ dpRs rs ≤ n ∧ cntRs rs ≤ 1000 ∧ wfRs rs ∧ ∀ (x : V) (H' : Hp), Same H H' → Dp K H' x (.tuple (toldRs rs)) → Q x H'
theorem spRTold0 {i : RC} : ∀ vs H Q E, ¬ spRTold K A 0 i vs H Q E := fun vs H Q E h => by
  obtain ⟨v, r, _, _, _, hn, _⟩ := h
  have := r.dp_pos
  omega
theorem cnt_mem {r : Rw} : ∀ {rs : List Rw}, r ∈ rs → r.cnt ≤ cntRs rs
  | s :: rs, h => by
    show r.cnt ≤ s.cnt + cntRs rs
    rcases List.mem_cons.mp h with e | h
    · rw [e]; omega
    · have := cnt_mem h; omega
theorem ok_told_rows {n k : Nat} (T : Txt K mg A) (m_told : ∀ i, Mth P w K mg base CX0 (A.r i) "told" k ["self"] (spRTold K A n i)) : Cal P w K mg base CX0 "told_rows" (k + 1) ["rows"] (spToldRows K A n) := by
  refine T.d_told_rows.ok sc_told_rows (fun vs H Q E h => ?_) (fun f cdv Ar outer s H vs Q E hr h => ?_)
  · obtain ⟨v, rs, rfl, _⟩ := h
    rfl
  obtain ⟨v, rs, rfl, ⟨p, us, rfl, hp, hu⟩, hd, hc, hw, q⟩ := h
  refine ⟨_, (pss_one (ps_ret (pe_callTy (k_tup K) (by rfl) T.b_tuple bt_tuple (pa_cons (pe_lc (own := [("row", 1)]) rfl sc_told_rows.nd (k_any K (pv 0)) (blkOk_by (N := N_told_rows) (sc := defScope s_told_rows) (by decide +kernel)) (fun _ _ _ _ _ => (pg_name (i := 1) sc_told_rows.nd rfl (by first | exact Or.inl rfl | exact Or.inr rfl))) (fun _ _ _ _ _ => pts_nil) (fun _ _ _ _ _ => (pe_dyn m_told hr (by omega) pass0 (pv 1)))) pa_nil)))), ?_⟩
  walk_at "rd"
  refine rd_lc_t ?_
  walk_at "rd"
  refine ⟨_, rfl, ⟨_, SqT.of hp⟩, fun D nD => ?_⟩
  have hl := hu.len
  have hlc := len_cnt rs
  refine lc_map walk_tup (fun j y H => ∃ r, rs[j]? = some r ∧ Dp K H y r.told) nD (by omega) (fun j y H1 H2 k _ ⟨r, h1, h2⟩ => ⟨r, h1, dp_kp k _ _ (noL_row r) h2⟩) (fun H' e => seqT_sm e (SqT.of hp)) ?_ ?_
  · rintro j y H2 H3 F Z hi e2 ⟨rfl, hx⟩ hF
    refine ⟨Same.refl _, ?_⟩
    obtain ⟨r, h1, h2⟩ := hu.get hx
    have hm := List.mem_of_getElem? h1
    have h3 := h2.sm e2
    walk_at "rd"
    refine ⟨rfl, ?_⟩
    walk_at "rd"
    refine rd_dynR h3 (by decide +kernel) ?_
    exact ⟨_, r, rfl, h3, rfl, dpRs_all.mp hd r hm, Nat.le_trans (cnt_mem hm) hc, wfRs_all.mp hw r hm, fun x H4 e4 d4 => hF _ _ e4 ⟨r, h1, d4⟩⟩
  · intro ys H2 e2 hD hly hy
    walk_at "rd"
    refine rd_tupOf (SqL.of hD) fun p2 H4 np2 e4 hp2 => ?_
    refine q _ H4 (e2.trans e4) (.tup (SqT.of hp2) (dpAll_of_get (by rw [toldRs_map, List.length_map]; omega) fun j u hj => ?_))
    obtain ⟨r, h1, h2⟩ := hy j u hj
    exact ⟨r.told, by rw [toldRs_map, List.getElem?_map, h1] <;> rfl, dp_sm e4 _ _ h2⟩
theorem ok_Change_told {C : Addr} {k : CK} {n : Nat} (m_word_told : Mth P w K mg base CX0 (A.r k.cls) "word_told" 1 ["self"] (spWordTold k.nm)) (m_told : ∀ i, Mth P w K mg base CX0 (A.s i) "told" 10 ["self"] (spTold K A 8 i))
    (c : TyC K (A.r k.cls)) (n1 : NoAttr K (A.r k.cls) "box") (n2 : NoAttr K (A.r k.cls) "saying") (d : MthAt K C "told" "Change.told" s_Change_told ["self"]) : Mth P w K mg base CX0 C "told" (2 * n + 11) ["self"] (spRTold K A n k.cls) := by
  refine d.ok sc_Change_told (fun vs H Q E h => ?_) (fun f cdv Ar outer s H vs Q E hr h => ?_)
  · obtain ⟨v, r, rfl, _⟩ := h
    rfl
  obtain ⟨v, r, rfl, hO, hc, hn, hcn, hw, q⟩ := h
  cases r with
  | chg k' b e =>
    have hk : k' = k := by cases k' <;> cases k <;> first | rfl | (simp [Rw.cls, CK.cls] at hc)
    subst hk
    obtain ⟨a, dx, u, rfl, h2, h3⟩ := hO
    refine ⟨_, (pss_one (ps_ret (pe_tup (pa_cons (pe_mth0 m_word_told hr (by omega) pass0 (pv 0)) (pa_cons (k_fld K (pv 0) rfl) (pa_cons (pe_dyn m_told hr (by omega) pass0 (k_fld K (pv 0) rfl)) pa_nil)))))), ?_⟩
    walk_at "rd"
    refine ⟨a, dx, _, rfl, h2, lookup_free ["box", "saying"] rfl (fl := ["box", "saying"]) (by decide +kernel) (by decide +kernel), ?_⟩
    walk_at "rd"
    refine ⟨_, rfl, fun H1 e1 => ?_⟩
    walk_at "rd"
    refine ⟨a, _, dx, _, _, rfl, e1 _ _ h2, c.cl, n1, rfl, ?_⟩
    walk_at "rd"
    refine ⟨a, _, dx, _, _, rfl, e1 _ _ h2, c.cl, n2, rfl, ?_⟩
    have h4 := h3.sm e1
    refine rd_dynS h4 (by decide +kernel) ?_
    refine ⟨_, e, rfl, h4, rfl, hw.2.2.2, fun x H2 e2 d2 => ?_⟩
    walk_at "rd"
    exact rd_new (by simp) fun p H3 np e3 hp => q _ H3 ((e1.trans e2).trans e3) (.tup (SqT.of hp) (.cons (.str _) (.cons (.str _) (.cons (dp_sm e3 _ _ d2) .nil))))
  | mov k' => cases k' <;> cases k <;> simp [Rw.cls, CK.cls, MK.cls] at hc
  | nam k' => cases k' <;> cases k <;> simp [Rw.cls, CK.cls, NK.cls] at hc
  | blk k' => cases k' <;> cases k <;> simp [Rw.cls, CK.cls, BK.cls] at hc
  | _ => cases k <;> simp [Rw.cls, CK.cls] at hc
theorem ok_Moved_told {C : Addr} {k : MK} {n : Nat} (m_word_told : Mth P w K mg base CX0 (A.r k.cls) "word_told" 1 ["self"] (spWordTold k.nm))
    (c : TyC K (A.r k.cls)) (n1 : NoAttr K (A.r k.cls) "box") (n2 : NoAttr K (A.r k.cls) "stack") (d : MthAt K C "told" "Moved.told" s_Moved_told ["self"]) : Mth P w K mg base CX0 C "told" (2 * n + 11) ["self"] (spRTold K A n k.cls) := by
  refine d.ok sc_Moved_told (fun vs H Q E h => ?_) (fun f cdv Ar outer s H vs Q E hr h => ?_)
  · obtain ⟨v, r, rfl, _⟩ := h
    rfl
  obtain ⟨v, r, rfl, hO, hc, hn, hcn, hw, q⟩ := h
  cases r with
  | mov k' b e =>
    have hk : k' = k := by cases k' <;> cases k <;> first | rfl | (simp [Rw.cls, MK.cls] at hc)
    subst hk
    obtain ⟨a, dx, rfl, h2⟩ := hO
    refine ⟨_, (pss_one (ps_ret (pe_tup (pa_cons (pe_mth0 m_word_told hr (by omega) pass0 (pv 0)) (pa_cons (k_fld K (pv 0) rfl) (pa_cons (k_fld K (pv 0) rfl) pa_nil)))))), ?_⟩
    walk_at "rd"
    refine ⟨a, dx, _, rfl, h2, lookup_free ["box", "stack"] rfl (fl := ["box", "stack"]) (by decide +kernel) (by decide +kernel), ?_⟩
    walk_at "rd"
    refine ⟨_, rfl, fun H1 e1 => ?_⟩
    walk_at "rd"
    refine ⟨a, _, dx, _, _, rfl, e1 _ _ h2, c.cl, n1, rfl, ?_⟩
    walk_at "rd"
    refine ⟨a, _, dx, _, _, rfl, e1 _ _ h2, c.cl, n2, rfl, ?_⟩
    walk_at "rd"
    exact rd_new (by simp) fun p H3 np e3 hp => q _ H3 (e1.trans e3) (.tup (SqT.of hp) (.cons (.str _) (.cons (.str _) (.cons (.str _) .nil))))
  | chg k' => cases k' <;> cases k <;> simp [Rw.cls, CK.cls, MK.cls] at hc
  | nam k' => cases k' <;> cases k <;> simp [Rw.cls, MK.cls, NK.cls] at hc
  | blk k' => cases k' <;> cases k <;> simp [Rw.cls, MK.cls, BK.cls] at hc
  | _ => cases k <;> simp [Rw.cls, MK.cls] at hc
theorem ok_Named_told {C : Addr} {k : NK} {n : Nat} (m_word_told : Mth P w K mg base CX0 (A.r k.cls) "word_told" 1 ["self"] (spWordTold k.nm))
    (c : TyC K (A.r k.cls)) (n1 : NoAttr K (A.r k.cls) "name") (d : MthAt K C "told" "Named.told" s_Named_told ["self"]) : Mth P w K mg base CX0 C "told" (2 * n + 11) ["self"] (spRTold K A n k.cls) := by
  refine d.ok sc_Named_told (fun vs H Q E h => ?_) (fun f cdv Ar outer s H vs Q E hr h => ?_)
  · obtain ⟨v, r, rfl, _⟩ := h
    rfl
  obtain ⟨v, r, rfl, hO, hc, hn, hcn, hw, q⟩ := h
  cases r with
  | nam k' b =>
    have hk : k' = k := by cases k' <;> cases k <;> first | rfl | (simp [Rw.cls, NK.cls] at hc)
    subst hk
    obtain ⟨a, dx, rfl, h2⟩ := hO
    refine ⟨_, (pss_one (ps_ret (pe_tup (pa_cons (pe_mth0 m_word_told hr (by omega) pass0 (pv 0)) (pa_cons (k_fld K (pv 0) rfl) pa_nil))))), ?_⟩
    walk_at "rd"
    refine ⟨a, dx, _, rfl, h2, lookup_free ["name"] rfl (fl := ["name"]) (by decide +kernel) (by decide +kernel), ?_⟩
    walk_at "rd"
    refine ⟨_, rfl, fun H1 e1 => ?_⟩
    walk_at "rd"
    refine ⟨a, _, dx, _, _, rfl, e1 _ _ h2, c.cl, n1, rfl, ?_⟩
    walk_at "rd"
    exact rd_new (by simp) fun p H3 np e3 hp => q _ H3 (e1.trans e3) (.tup (SqT.of hp) (.cons (.str _) (.cons (.str _) .nil)))
  | chg k' => cases k' <;> cases k <;> simp [Rw.cls, CK.cls, NK.cls] at hc
  | mov k' => cases k' <;> cases k <;> simp [Rw.cls, MK.cls, NK.cls] at hc
  | blk k' => cases k' <;> cases k <;> simp [Rw.cls, NK.cls, BK.cls] at hc
  | _ => cases k <;> simp [Rw.cls, NK.cls] at hc
theorem ok_rtold (T : Txt K mg A) : ∀ (n : Nat) (i : RC), Mth P w K mg base CX0 (A.r i) "told" (2 * n + 11) ["self"] (spRTold K A n i)
  | n, .add => ok_Change_told (k := .add) (ok_Add_word_told T) (ok_stold T 8) (T.tyR _) T.n_Add_box T.n_Add_saying T.m_Add_told
  | n, .less => ok_Change_told (k := .less) (ok_Less_word_told T) (ok_stold T 8) (T.tyR _) T.n_Less_box T.n_Less_saying T.m_Less_told
  | n, .mix => ok_Change_told (k := .mix) (ok_Mix_word_told T) (ok_stold T 8) (T.tyR _) T.n_Mix_box T.n_Mix_saying T.m_Mix_told
  | n, .push => ok_Moved_told (k := .push) (ok_Push_word_told T) (T.tyR _) T.n_Push_box T.n_Push_stack T.m_Push_told
  | n, .pop => ok_Moved_told (k := .pop) (ok_Pop_word_told T) (T.tyR _) T.n_Pop_box T.n_Pop_stack T.m_Pop_told
  | n, .call => ok_Named_told (k := .call) (ok_Call_word_told T) (T.tyR _) T.n_Call_name T.m_Call_told
  | n, .back => ok_Named_told (k := .back) (ok_Back_word_told T) (T.tyR _) T.n_Back_name T.m_Back_told
  | n, .swap => by
    refine T.m_Swap_told.ok sc_Swap_told (fun vs H Q E h => ?_) (fun f cdv Ar outer s H vs Q E hr h => ?_)
    · obtain ⟨v, r, rfl, _⟩ := h
      rfl
    obtain ⟨v, r, rfl, hO, hc, hn, hcn, hw, q⟩ := h
    cases r with
    | swap x y =>
      obtain ⟨a, dx, rfl, h2⟩ := hO
      refine ⟨_, (pss_one (ps_ret (pe_tup (pa_cons pe_str (pa_cons (k_fld K (pv 0) rfl) (pa_cons (k_fld K (pv 0) rfl) pa_nil)))))), ?_⟩
      walk_at "rd"
      refine ⟨a, _, dx, _, _, rfl, h2, (T.tyR .swap).cl, T.n_Swap_one, rfl, ?_⟩
      walk_at "rd"
      refine ⟨a, _, dx, _, _, rfl, h2, (T.tyR .swap).cl, T.n_Swap_other, rfl, ?_⟩
      walk_at "rd"
      exact rd_new (by simp) fun p H3 np e3 hp => q _ H3 e3 (.tup (SqT.of hp) (.cons (.str _) (.cons (.str _) (.cons (.str _) .nil))))
    | chg k' => cases k' <;> simp [Rw.cls, CK.cls] at hc
    | mov k' => cases k' <;> simp [Rw.cls, MK.cls] at hc
    | nam k' => cases k' <;> simp [Rw.cls, NK.cls] at hc
    | blk k' => cases k' <;> simp [Rw.cls, BK.cls] at hc
    | _ => simp [Rw.cls] at hc
  | n, .turn => by
    refine T.m_Turn_told.ok sc_Turn_told (fun vs H Q E h => ?_) (fun f cdv Ar outer s H vs Q E hr h => ?_)
    · obtain ⟨v, r, rfl, _⟩ := h
      rfl
    obtain ⟨v, r, rfl, hO, hc, hn, hcn, hw, q⟩ := h
    cases r with
    | turn x y =>
      obtain ⟨a, dx, rfl, h2⟩ := hO
      refine ⟨_, (pss_one (ps_ret (pe_tup (pa_cons pe_str (pa_cons (k_fld K (pv 0) rfl) (pa_cons (k_fld K (pv 0) rfl) pa_nil)))))), ?_⟩
      walk_at "rd"
      refine ⟨a, _, dx, _, _, rfl, h2, (T.tyR .turn).cl, T.n_Turn_box, rfl, ?_⟩
      walk_at "rd"
      refine ⟨a, _, dx, _, _, rfl, h2, (T.tyR .turn).cl, T.n_Turn_by, rfl, ?_⟩
      walk_at "rd"
      exact rd_new (by simp) fun p H3 np e3 hp => q _ H3 e3 (.tup (SqT.of hp) (.cons (.str _) (.cons (.str _) (.cons (.int _) .nil))))
    | chg k' => cases k' <;> simp [Rw.cls, CK.cls] at hc
    | mov k' => cases k' <;> simp [Rw.cls, MK.cls] at hc
    | nam k' => cases k' <;> simp [Rw.cls, NK.cls] at hc
    | blk k' => cases k' <;> simp [Rw.cls, BK.cls] at hc
    | _ => simp [Rw.cls] at hc
  | 0, .cho => T.m_Choice_told.never spRTold0
  | 0, .loop => T.m_Loop_told.never spRTold0
  | 0, .held => T.m_Held_told.never spRTold0
  | n + 1, .cho => by
    have c_told_rows := ok_told_rows T (ok_rtold T n)
    have m_told := ok_stold (P := P) (w := w) (base := base) T 8
    refine T.m_Choice_told.ok sc_Choice_told (fun vs H Q E h => ?_) (fun f cdv Ar outer s H vs Q E hr h => ?_)
    · obtain ⟨v, r, rfl, _⟩ := h
      rfl
    obtain ⟨v, r, rfl, hO, hc, hn, hcn, hw, q⟩ := h
    cases r with
    | blk k' t y n' a' =>
      have hk : k' = .cho := by cases k' <;> first | rfl | (simp [Rw.cls, BK.cls] at hc)
      subst hk
      obtain ⟨a, dx, u1, p1, p2, u2, us1, us2, rfl, h2, h3, h4, h5, h6, h7, h8⟩ := hO
      obtain ⟨w1, w2, w3, w4⟩ := hw
      have hn' : 1 + max (dpRs y) (dpRs n') ≤ n + 1 := hn
      have hc' : 1 + (cntRs y + cntRs n') ≤ 1000 := hcn
      refine ⟨_, (pss_one (ps_ret (pe_tup (pa_cons pe_str (pa_cons (pe_dyn m_told hr (by omega) pass0 (k_fld K (pv 0) rfl)) (pa_cons (pe_cal c_told_rows hr (by omega) pass0 (pa_cons (k_fld K (pv 0) rfl) pa_nil)) (pa_cons (pe_cal c_told_rows hr (by omega) pass0 (pa_cons (k_fld K (pv 0) rfl) pa_nil)) (pa_cons (pe_dyn m_told hr (by omega) pass0 (k_fld K (pv 0) rfl)) pa_nil)))))))), ?_⟩
      walk_at "rd"
      refine ⟨a, _, dx, _, _, rfl, h2, (T.tyR .cho).cl, T.n_Choice_test, rfl, ?_⟩
      refine rd_dynS h3 (by decide +kernel) ?_
      refine ⟨_, t, rfl, h3, rfl, w1.2.2, fun x1 H1 e1 d1 => ?_⟩
      walk_at "rd"
      refine ⟨a, _, dx, _, _, rfl, e1 _ _ h2, (T.tyR .cho).cl, T.n_Choice_yes, rfl, ?_⟩
      walk_at "rd"
      refine ⟨_, y, rfl, OT.sm e1 ⟨p1, us1, rfl, h4, h5⟩, by omega, by omega, w2, fun x2 H2 e2 d2 => ?_⟩
      have e12 := e1.trans e2
      walk_at "rd"
      refine ⟨a, _, dx, _, _, rfl, e12 _ _ h2, (T.tyR .cho).cl, T.n_Choice_no, rfl, ?_⟩
      walk_at "rd"
      refine ⟨_, n', rfl, OT.sm e12 ⟨p2, us2, rfl, h6, h7⟩, by omega, by omega, w3, fun x3 H3 e3 d3 => ?_⟩
      have e13 := e12.trans e3
      walk_at "rd"
      refine ⟨a, _, dx, _, _, rfl, e13 _ _ h2, (T.tyR .cho).cl, T.n_Choice_after, rfl, ?_⟩
      have h9 := h8.sm e13
      refine rd_dynS h9 (by decide +kernel) ?_
      refine ⟨_, a', rfl, h9, rfl, w4.2.2, fun x4 H4 e4 d4 => ?_⟩
      walk_at "rd"
      refine rd_new (by simp) fun p H5 np e5 hp => q _ H5 ((e13.trans e4).trans e5) (.tup (SqT.of hp) (.cons (.str _) (.cons (dp_sm (((e2.trans e3).trans e4).trans e5) _ _ d1) (.cons (dp_sm ((e3.trans e4).trans e5) _ _ d2) (.cons (dp_sm (e4.trans e5) _ _ d3) (.cons (dp_sm e5 _ _ d4) .nil))))))
    | chg k' => cases k' <;> simp [Rw.cls, CK.cls] at hc
    | mov k' => cases k' <;> simp [Rw.cls, MK.cls] at hc
    | nam k' => cases k' <;> simp [Rw.cls, NK.cls] at hc
    | _ => simp [Rw.cls] at hc
  | n + 1, .loop => by
    have c_told_rows := ok_told_rows T (ok_rtold T n)
    have m_told := ok_stold (P := P) (w := w) (base := base) T 8
    refine T.m_Loop_told.ok sc_Loop_told (fun vs H Q E h => ?_) (fun f cdv Ar outer s H vs Q E hr h => ?_)
    · obtain ⟨v, r, rfl, _⟩ := h
      rfl
    obtain ⟨v, r, rfl, hO, hc, hn, hcn, hw, q⟩ := h
    cases r with
    | blk k' t y n' a' =>
      have hk : k' = .loop := by cases k' <;> first | rfl | (simp [Rw.cls, BK.cls] at hc)
      subst hk
      obtain ⟨a, dx, u1, p1, p2, u2, us1, us2, rfl, h2, h3, h4, h5, h6, h7, h8⟩ := hO
      obtain ⟨w1, w2, w3, w4⟩ := hw
      have hn' : 1 + max (dpRs y) (dpRs n') ≤ n + 1 := hn
      have hc' : 1 + (cntRs y + cntRs n') ≤ 1000 := hcn
      refine ⟨_, (pss_one (ps_ret (pe_tup (pa_cons pe_str (pa_cons (pe_dyn m_told hr (by omega) pass0 (k_fld K (pv 0) rfl)) (pa_cons (pe_cal c_told_rows hr (by omega) pass0 (pa_cons (k_fld K (pv 0) rfl) pa_nil)) (pa_cons (pe_cal c_told_rows hr (by omega) pass0 (pa_cons (k_fld K (pv 0) rfl) pa_nil)) (pa_cons (pe_dyn m_told hr (by omega) pass0 (k_fld K (pv 0) rfl)) pa_nil)))))))), ?_⟩
      walk_at "rd"
      refine ⟨a, _, dx, _, _, rfl, h2, (T.tyR .loop).cl, T.n_Loop_before, rfl, ?_⟩
      refine rd_dynS h3 (by decide +kernel) ?_
      refine ⟨_, t, rfl, h3, rfl, w1.2.2, fun x1 H1 e1 d1 => ?_⟩
      walk_at "rd"
      refine ⟨a, _, dx, _, _, rfl, e1 _ _ h2, (T.tyR .loop).cl, T.n_Loop_first, rfl, ?_⟩
      walk_at "rd"
      refine ⟨_, y, rfl, OT.sm e1 ⟨p1, us1, rfl, h4, h5⟩, by omega, by omega, w2, fun x2 H2 e2 d2 => ?_⟩
      have e12 := e1.trans e2
      walk_at "rd"
      refine ⟨a, _, dx, _, _, rfl, e12 _ _ h2, (T.tyR .loop).cl, T.n_Loop_again, rfl, ?_⟩
      walk_at "rd"
      refine ⟨_, n', rfl, OT.sm e12 ⟨p2, us2, rfl, h6, h7⟩, by omega, by omega, w3, fun x3 H3 e3 d3 => ?_⟩
      have e13 := e12.trans e3
      walk_at "rd"
      refine ⟨a, _, dx, _, _, rfl, e13 _ _ h2, (T.tyR .loop).cl, T.n_Loop_test, rfl, ?_⟩
      have h9 := h8.sm e13
      refine rd_dynS h9 (by decide +kernel) ?_
      refine ⟨_, a', rfl, h9, rfl, w4.2.2, fun x4 H4 e4 d4 => ?_⟩
      walk_at "rd"
      refine rd_new (by simp) fun p H5 np e5 hp => q _ H5 ((e13.trans e4).trans e5) (.tup (SqT.of hp) (.cons (.str _) (.cons (dp_sm (((e2.trans e3).trans e4).trans e5) _ _ d1) (.cons (dp_sm ((e3.trans e4).trans e5) _ _ d2) (.cons (dp_sm (e4.trans e5) _ _ d3) (.cons (dp_sm e5 _ _ d4) .nil))))))
    | chg k' => cases k' <;> simp [Rw.cls, CK.cls] at hc
    | mov k' => cases k' <;> simp [Rw.cls, MK.cls] at hc
    | nam k' => cases k' <;> simp [Rw.cls, NK.cls] at hc
    | _ => simp [Rw.cls] at hc
  | n + 1, .held => by
    have c_told_rows := ok_told_rows T (ok_rtold T n)
    have m_told := ok_stold (P := P) (w := w) (base := base) T 8
    refine T.m_Held_told.ok sc_Held_told (fun vs H Q E h => ?_) (fun f cdv Ar outer s H vs Q E hr h => ?_)
    · obtain ⟨v, r, rfl, _⟩ := h
      rfl
    obtain ⟨v, r, rfl, hO, hc, hn, hcn, hw, q⟩ := h
    cases r with
    | held b e y ff =>
      obtain ⟨a, dx, u1, p0, u2, us, rfl, h2, h3, h4, h5, h6⟩ := hO
      obtain ⟨w1, w2, w3, w4⟩ := hw
      have hn' : 1 + dpRs y ≤ n + 1 := hn
      have hc' : 1 + cntRs y ≤ 1000 := hcn
      refine ⟨_, (pss_one (ps_ret (pe_tup (pa_cons pe_str (pa_cons (k_fld K (pv 0) rfl) (pa_cons (pe_dyn m_told hr (by omega) pass0 (k_fld K (pv 0) rfl)) (pa_cons (pe_cal c_told_rows hr (by omega) pass0 (pa_cons (k_fld K (pv 0) rfl) pa_nil)) (pa_cons (pe_dyn m_told hr (by omega) pass0 (k_fld K (pv 0) rfl)) pa_nil)))))))), ?_⟩
      walk_at "rd"
      refine ⟨a, _, dx, _, _, rfl, h2, (T.tyR .held).cl, T.n_Held_box, rfl, ?_⟩
      walk_at "rd"
      refine ⟨a, _, dx, _, _, rfl, h2, (T.tyR .held).cl, T.n_Held_begin, rfl, ?_⟩
      refine rd_dynS h3 (by decide +kernel) ?_
      refine ⟨_, e, rfl, h3, rfl, w2.2.2, fun x1 H1 e1 d1 => ?_⟩
      walk_at "rd"
      refine ⟨a, _, dx, _, _, rfl, e1 _ _ h2, (T.tyR .held).cl, T.n_Held_rows, rfl, ?_⟩
      walk_at "rd"
      refine ⟨_, y, rfl, OT.sm e1 ⟨p0, us, rfl, h4, h5⟩, by omega, by omega, w3, fun x2 H2 e2 d2 => ?_⟩
      have e12 := e1.trans e2
      walk_at "rd"
      refine ⟨a, _, dx, _, _, rfl, e12 _ _ h2, (T.tyR .held).cl, T.n_Held_end, rfl, ?_⟩
      have h9 := h6.sm e12
      refine rd_dynS h9 (by decide +kernel) ?_
      refine ⟨_, ff, rfl, h9, rfl, w4.2.2, fun x4 H4 e4 d4 => ?_⟩
      walk_at "rd"
      refine rd_new (by simp) fun p H5 np e5 hp => q _ H5 ((e12.trans e4).trans e5) (.tup (SqT.of hp) (.cons (.str _) (.cons (.str _) (.cons (dp_sm ((e2.trans e4).trans e5) _ _ d1) (.cons (dp_sm (e4.trans e5) _ _ d2) (.cons (dp_sm e5 _ _ d4) .nil))))))
    | chg k' => cases k' <;> simp [Rw.cls, CK.cls] at hc
    | mov k' => cases k' <;> simp [Rw.cls, MK.cls] at hc
    | nam k' => cases k' <;> simp [Rw.cls, NK.cls] at hc
    | blk k' => cases k' <;> simp [Rw.cls, BK.cls] at hc
    | _ => simp [Rw.cls] at hc
end

end

section
section
variable {P : Program} {w : World} {K : PySem.W.Frag} {mg : Str → Option Value} {base : Heap} {A : CA}
/-! ### mirror -/
def spRMir (A : CA) (n : Nat) (i : RC) : Sp := fun vs H Q _ => ∃ (v : V) (r : Rw), vs = [v] ∧ OR A H r v ∧ r.cls = i ∧ r.dp ≤ n ∧ r.cnt ≤ 1000 ∧ r.wf ∧ ∀ (x : V) (H' : Hp), Same H H' → OR A H' r.mir x → Q x H'
def spMirrors (A : CA) (n : Nat) : Sp := fun vs H Q _ => ∃ (v : V) (rs : List Rw), vs = [v] ∧ OT A H rs v ∧ dpRs rs ≤ n ∧ cntRs rs ≤ 1000 ∧ wfRs rs ∧ ∀ (x : V) (H' : Hp), Same H H' → OT A H' (mirRs rs) x → Q x H'
theorem spRMir0 {i : RC} : ∀ vs H Q E, ¬ spRMir A 0 i vs H Q E := fun vs H Q E h => by
  obtain ⟨v, r, _, _, _, hn, _⟩ := h
  have := r.dp_pos
  omega
/-- the comprehension of mirrors, of Program.mirror -/
theorem mirs_of {rs : List Rw} {ys : List V} {H : Hp} (hl : ys.length = rs.length) (hy : ∀ (j : Nat) y, ys[j]? = some y → ∃ r, rs[rs.length - 1 - j]? = some r ∧ OR A H r.mir y) : ORs A H (mirRs rs) ys := by
  refine ORs.of_get (by rw [mirRs_map, List.length_reverse, List.length_map, hl]) fun j u hj => ?_
  obtain ⟨r, h1, h2⟩ := hy j u hj
  refine ⟨r.mir, ?_, h2⟩
  have hlt : j < rs.length := by
    have z := (List.getElem?_eq_some_iff.mp hj).1
    omega
  rw [mirRs_map, List.getElem?_reverse (by rw [List.length_map]; exact hlt), List.length_map, List.getElem?_map, h1]
  rfl
theorem ok_mirrors {n k : Nat} (T : Txt K mg A) (m_mirror : ∀ i, Mth P w K mg base CX0 (A.r i) "mirror" k ["self"] (spRMir A n i)) : Cal P w K mg base CX0 "mirrors" (k + 1) ["rows"] (spMirrors A n) := by
  refine T.d_mirrors.ok sc_mirrors (fun vs H Q E h => ?_) (fun f cdv Ar outer s H vs Q E hr h => ?_)
  · obtain ⟨v, rs, rfl, _⟩ := h
    rfl
  obtain ⟨v, rs, rfl, ⟨p, us, rfl, hp, hu⟩, hd, hc, hw, q⟩ := h
  refine ⟨_, (pss_one (ps_ret (pe_callTy (k_tup K) (by rfl) T.b_tuple bt_tuple (pa_cons (pe_lc (own := [("row", 1)]) rfl sc_mirrors.nd (k_rev K (by rfl) T.b_reversed (pv 0)) (blkOk_by (N := N_mirrors) (sc := defScope s_mirrors) (by decide +kernel)) (fun _ _ _ _ _ => (pg_name (i := 1) sc_mirrors.nd rfl (by first | exact Or.inl rfl | exact Or.inr rfl))) (fun _ _ _ _ _ => pts_nil) (fun _ _ _ _ _ => (pe_dyn m_mirror hr (by omega) pass0 (pv 1)))) pa_nil)))), ?_⟩
  walk_at "rd"
  refine rd_lc_rt ?_
  walk_at "rd"
  refine ⟨_, us, rfl, .inr ⟨SqT.of hp, fun D nD => ?_⟩⟩
  have hl := hu.len
  have hlc := len_cnt rs
  refine lc_map walk_revT (fun j y H => ∃ r, rs[rs.length - 1 - j]? = some r ∧ OR A H r.mir y) nD (by omega) (fun j y H1 H2 k nI ⟨r, h1, h2⟩ => ⟨r, h1, OR.car (.kp k nI) _ _ h2⟩) (fun H' e => seqT_sm e (SqT.of hp)) ?_ ?_
  · rintro j y H2 H3 F Z hi e2 ⟨rfl, hx⟩ hF
    refine ⟨Same.refl _, ?_⟩
    obtain ⟨r, h1, h2⟩ := hu.get hx
    have hm := List.mem_of_getElem? h1
    have h3 := h2.sm e2
    walk_at "rd"
    refine ⟨rfl, ?_⟩
    walk_at "rd"
    refine rd_dynR h3 (by decide +kernel) ?_
    exact ⟨_, r, rfl, h3, rfl, dpRs_all.mp hd r hm, Nat.le_trans (cnt_mem hm) hc, wfRs_all.mp hw r hm, fun x H4 e4 d4 => hF _ _ e4 ⟨r, by rw [← hl]; exact h1, d4⟩⟩
  · intro ys H2 e2 hD hly hy
    walk_at "rd"
    refine rd_tupOf (SqL.of hD) fun p2 H4 np2 e4 hp2 => ?_
    exact q _ H4 (e2.trans e4) ⟨p2, ys, rfl, hp2, (mirs_of (by omega) hy).sm e4⟩
theorem ok_Row_mirror {C : Addr} {i : RC} {n : Nat} (hi : ∀ r : Rw, r.cls = i → r.mir = r) (d : MthAt K C "mirror" "Row.mirror" s_Row_mirror ["self"]) : Mth P w K mg base CX0 C "mirror" (2 * n + 5) ["self"] (spRMir A n i) := by
  refine d.ok sc_Row_mirror (fun vs H Q E h => ?_) (fun f cdv Ar outer s H vs Q E hr h => ?_)
  · obtain ⟨v, r, rfl, _⟩ := h
    rfl
  obtain ⟨v, r, rfl, hO, hc, hn, hcn, hw, q⟩ := h
  refine ⟨_, (pss_one (ps_ret (pv 0))), ?_⟩
  walk_at "rd"
  exact q _ H (Same.refl _) (by rw [hi r hc]; exact hO)
theorem mir_self {r : Rw} {i : RC} (hc : r.cls = i) (hi : i = .mix ∨ i = .swap ∨ i = .call ∨ i = .back) : r.mir = r := by
  cases r with
  | blk k => subst hc; cases k <;> simp [Rw.cls, BK.cls] at hi
  | held => subst hc; simp [Rw.cls] at hi
  | chg k => subst hc; cases k <;> first | rfl | (simp [Rw.cls, CK.cls] at hi)
  | mov k => subst hc; cases k <;> simp [Rw.cls, MK.cls] at hi
  | turn => subst hc; simp [Rw.cls] at hi
  | swap => rfl
  | nam => rfl
theorem ok_rmir (T : Txt K mg A) : ∀ (n : Nat) (i : RC), Mth P w K mg base CX0 (A.r i) "mirror" (2 * n + 5) ["self"] (spRMir A n i)
  | n, .mix => ok_Row_mirror (fun r h => mir_self h (by simp)) T.m_Mix_mirror
  | n, .swap => ok_Row_mirror (fun r h => mir_self h (by simp)) T.m_Swap_mirror
  | n, .call => ok_Row_mirror (fun r h => mir_self h (by simp)) T.m_Call_mirror
  | n, .back => ok_Row_mirror (fun r h => mir_self h (by simp)) T.m_Back_mirror
  | n, .add => by
    have k_Less := ok_mk_Change (P := P) (w := w) (base := base) T.k_Less T.ty_Less T.n_Less_box T.n_Less_saying T
    refine T.m_Add_mirror.ok sc_Add_mirror (fun vs H Q E h => ?_) (fun f cdv Ar outer s H vs Q E hr h => ?_)
    · obtain ⟨v, r, rfl, _⟩ := h
      rfl
    obtain ⟨v, r, rfl, hO, hc, hn, hcn, hw, q⟩ := h
    cases r with
    | chg k' b e =>
      have hk : k' = .add := by cases k' <;> first | rfl | (simp [Rw.cls, CK.cls] at hc)
      subst hk
      obtain ⟨a, dx, u, rfl, h2, h3⟩ := hO
      refine ⟨_, (pss_one (ps_ret (pe_mkr k_Less hr (by omega) pass0 (pa_cons (k_fld K (pv 0) rfl) (pa_cons (k_fld K (pv 0) rfl) pa_nil))))), ?_⟩
      walk_at "rd"
      refine ⟨a, _, dx, _, _, rfl, h2, (T.tyR .add).cl, T.n_Add_box, rfl, ?_⟩
      walk_at "rd"
      refine ⟨a, _, dx, _, _, rfl, h2, (T.tyR .add).cl, T.n_Add_saying, rfl, ?_⟩
      walk_at "rd"
      refine rd_mk (fun H3 s3 => ⟨_, _, e, rfl, hw.1, h3.sm s3⟩) fun b' dx' H4 s4 hb => ?_
      exact q _ H4 s4 ⟨b', dx', u, rfl, hb, h3.sm s4⟩
    | mov k' => cases k' <;> simp [Rw.cls, MK.cls] at hc
    | nam k' => cases k' <;> simp [Rw.cls, NK.cls] at hc
    | blk k' => cases k' <;> simp [Rw.cls, BK.cls] at hc
    | _ => simp [Rw.cls] at hc
  | n, .less => by
    have k_Add := ok_mk_Change (P := P) (w := w) (base := base) T.k_Add T.ty_Add T.n_Add_box T.n_Add_saying T
    refine T.m_Less_mirror.ok sc_Less_mirror (fun vs H Q E h => ?_) (fun f cdv Ar outer s H vs Q E hr h => ?_)
    · obtain ⟨v, r, rfl, _⟩ := h
      rfl
    obtain ⟨v, r, rfl, hO, hc, hn, hcn, hw, q⟩ := h
    cases r with
    | chg k' b e =>
      have hk : k' = .less := by cases k' <;> first | rfl | (simp [Rw.cls, CK.cls] at hc)
      subst hk
      obtain ⟨a, dx, u, rfl, h2, h3⟩ := hO
      refine ⟨_, (pss_one (ps_ret (pe_mkr k_Add hr (by omega) pass0 (pa_cons (k_fld K (pv 0) rfl) (pa_cons (k_fld K (pv 0) rfl) pa_nil))))), ?_⟩
      walk_at "rd"
      refine ⟨a, _, dx, _, _, rfl, h2, (T.tyR .less).cl, T.n_Less_box, rfl, ?_⟩
      walk_at "rd"
      refine ⟨a, _, dx, _, _, rfl, h2, (T.tyR .less).cl, T.n_Less_saying, rfl, ?_⟩
      walk_at "rd"
      refine rd_mk (fun H3 s3 => ⟨_, _, e, rfl, hw.1, h3.sm s3⟩) fun b' dx' H4 s4 hb => ?_
      exact q _ H4 s4 ⟨b', dx', u, rfl, hb, h3.sm s4⟩
    | mov k' => cases k' <;> simp [Rw.cls, MK.cls] at hc
    | nam k' => cases k' <;> simp [Rw.cls, NK.cls] at hc
    | blk k' => cases k' <;> simp [Rw.cls, BK.cls] at hc
    | _ => simp [Rw.cls] at hc
  | n, .push => by
    have k_Pop := ok_mk_Moved (P := P) (w := w) (base := base) T.k_Pop T.ty_Pop T.n_Pop_box T.n_Pop_stack T
    refine T.m_Push_mirror.ok sc_Push_mirror (fun vs H Q E h => ?_) (fun f cdv Ar outer s H vs Q E hr h => ?_)
    · obtain ⟨v, r, rfl, _⟩ := h
      rfl
    obtain ⟨v, r, rfl, hO, hc, hn, hcn, hw, q⟩ := h
    cases r with
    | mov k' b e =>
      have hk : k' = .push := by cases k' <;> first | rfl | (simp [Rw.cls, MK.cls] at hc)
      subst hk
      obtain ⟨a, dx, rfl, h2⟩ := hO
      refine ⟨_, (pss_one (ps_ret (pe_mkr k_Pop hr (by omega) pass0 (pa_cons (k_fld K (pv 0) rfl) (pa_cons (k_fld K (pv 0) rfl) pa_nil))))), ?_⟩
      walk_at "rd"
      refine ⟨a, _, dx, _, _, rfl, h2, (T.tyR .push).cl, T.n_Push_box, rfl, ?_⟩
      walk_at "rd"
      refine ⟨a, _, dx, _, _, rfl, h2, (T.tyR .push).cl, T.n_Push_stack, rfl, ?_⟩
      walk_at "rd"
      refine rd_mk (fun H3 s3 => ⟨[b, e], rfl, rfl, by have z : nameOk b = true ∧ nameOk e = true := hw; simpa using z⟩) fun b' dx' H4 s4 hb => ?_
      exact q _ H4 s4 ⟨b', dx', rfl, hb⟩
    | chg k' => cases k' <;> simp [Rw.cls, CK.cls] at hc
    | nam k' => cases k' <;> simp [Rw.cls, NK.cls] at hc
    | blk k' => cases k' <;> simp [Rw.cls, BK.cls] at hc
    | _ => simp [Rw.cls] at hc
  | n, .pop => by
    have k_Push := ok_mk_Moved (P := P) (w := w) (base := base) T.k_Push T.ty_Push T.n_Push_box T.n_Push_stack T
    refine T.m_Pop_mirror.ok sc_Pop_mirror (fun vs H Q E h => ?_) (fun f cdv Ar outer s H vs Q E hr h => ?_)
    · obtain ⟨v, r, rfl, _⟩ := h
      rfl
    obtain ⟨v, r, rfl, hO, hc, hn, hcn, hw, q⟩ := h
    cases r with
    | mov k' b e =>
      have hk : k' = .pop := by cases k' <;> first | rfl | (simp [Rw.cls, MK.cls] at hc)
      subst hk
      obtain ⟨a, dx, rfl, h2⟩ := hO
      refine ⟨_, (pss_one (ps_ret (pe_mkr k_Push hr (by omega) pass0 (pa_cons (k_fld K (pv 0) rfl) (pa_cons (k_fld K (pv 0) rfl) pa_nil))))), ?_⟩
      walk_at "rd"
      refine ⟨a, _, dx, _, _, rfl, h2, (T.tyR .pop).cl, T.n_Pop_box, rfl, ?_⟩
      walk_at "rd"
      refine ⟨a, _, dx, _, _, rfl, h2, (T.tyR .pop).cl, T.n_Pop_stack, rfl, ?_⟩
      walk_at "rd"
      refine rd_mk (fun H3 s3 => ⟨[b, e], rfl, rfl, by have z : nameOk b = true ∧ nameOk e = true := hw; simpa using z⟩) fun b' dx' H4 s4 hb => ?_
      exact q _ H4 s4 ⟨b', dx', rfl, hb⟩
    | chg k' => cases k' <;> simp [Rw.cls, CK.cls] at hc
    | nam k' => cases k' <;> simp [Rw.cls, NK.cls] at hc
    | blk k' => cases k' <;> simp [Rw.cls, BK.cls] at hc
    | _ => simp [Rw.cls] at hc
  | n, .turn => by
    have k_Turn := ok_mk_Turn (P := P) (w := w) (base := base) T
    refine T.m_Turn_mirror.ok sc_Turn_mirror (fun vs H Q E h => ?_) (fun f cdv Ar outer s H vs Q E hr h => ?_)
    · obtain ⟨v, r, rfl, _⟩ := h
      rfl
    obtain ⟨v, r, rfl, hO, hc, hn, hcn, hw, q⟩ := h
    cases r with
    | turn b m =>
      obtain ⟨a, dx, rfl, h2⟩ := hO
      refine ⟨_, (pss_one (ps_ret (pe_mkr k_Turn hr (by omega) pass0 (pa_cons (k_fld K (pv 0) rfl) (pa_cons (pe_op op_mod (pe_op op_sub (pe_gint T.i_BITS) (k_fld K (pv 0) rfl)) (pe_gint T.i_BITS)) pa_nil))))), ?_⟩
      walk_at "rd"
      refine ⟨a, _, dx, _, _, rfl, h2, (T.tyR .turn).cl, T.n_Turn_box, rfl, ?_⟩
      walk_at "rd"
      refine ⟨a, _, dx, _, _, rfl, h2, (T.tyR .turn).cl, T.n_Turn_by, rfl, ?_⟩
      walk_at "rd"
      refine rd_I (by show (0 : Int) < 16; decide) ?_
      walk_at "rd"
      have w1 : 0 ≤ m := hw.2.1
      have w2 : m < 16 := hw.2.2
      refine rd_mk (fun H3 s3 => ⟨_, _, rfl, hw.1, by omega, by omega⟩) fun b' dx' H4 s4 hb => ?_
      exact q _ H4 s4 ⟨b', dx', rfl, hb⟩
    | chg k' => cases k' <;> simp [Rw.cls, CK.cls] at hc
    | mov k' => cases k' <;> simp [Rw.cls, MK.cls] at hc
    | nam k' => cases k' <;> simp [Rw.cls, NK.cls] at hc
    | blk k' => cases k' <;> simp [Rw.cls, BK.cls] at hc
    | _ => simp [Rw.cls] at hc
  | 0, .cho => T.m_Choice_mirror.never spRMir0
  | 0, .loop => T.m_Loop_mirror.never spRMir0
  | 0, .held => T.m_Held_mirror.never spRMir0
  | n + 1, .cho => by
    have c_mirrors := ok_mirrors T (ok_rmir T n)
    have k_Choice := ok_mk_Choice (P := P) (w := w) (base := base) T
    refine T.m_Choice_mirror.ok sc_Choice_mirror (fun vs H Q E h => ?_) (fun f cdv Ar outer s H vs Q E hr h => ?_)
    · obtain ⟨v, r, rfl, _⟩ := h
      rfl
    obtain ⟨v, r, rfl, hO, hc, hn, hcn, hw, q⟩ := h
    cases r with
    | blk k' t y n' a' =>
      have hk : k' = .cho := by cases k' <;> first | rfl | (simp [Rw.cls, BK.cls] at hc)
      subst hk
      obtain ⟨a, dx, u1, p1, p2, u2, us1, us2, rfl, h2, h3, h4, h5, h6, h7, h8⟩ := hO
      obtain ⟨w1, w2, w3, w4⟩ := hw
      have hn' : 1 + max (dpRs y) (dpRs n') ≤ n + 1 := hn
      have hc' : 1 + (cntRs y + cntRs n') ≤ 1000 := hcn
      have l1 := len_cnt (mirRs y)
      have l2 := len_cnt (mirRs n')
      rw [cntRs_mir] at l1 l2
      refine ⟨_, (pss_one (ps_ret (pe_mkr k_Choice hr (by omega) pass0 (pa_cons (k_fld K (pv 0) rfl) (pa_cons (pe_cal c_mirrors hr (by omega) pass0 (pa_cons (k_fld K (pv 0) rfl) pa_nil)) (pa_cons (pe_cal c_mirrors hr (by omega) pass0 (pa_cons (k_fld K (pv 0) rfl) pa_nil)) (pa_cons (k_fld K (pv 0) rfl) pa_nil))))))), ?_⟩
      walk_at "rd"
      refine ⟨a, _, dx, _, _, rfl, h2, (T.tyR .cho).cl, T.n_Choice_after, rfl, ?_⟩
      walk_at "rd"
      refine ⟨a, _, dx, _, _, rfl, h2, (T.tyR .cho).cl, T.n_Choice_yes, rfl, ?_⟩
      walk_at "rd"
      refine ⟨_, y, rfl, ⟨p1, us1, rfl, h4, h5⟩, by omega, by omega, w2, fun x1 H1 e1 o1 => ?_⟩
      walk_at "rd"
      refine ⟨a, _, dx, _, _, rfl, (e1 _ _ h2), (T.tyR .cho).cl, T.n_Choice_no, rfl, ?_⟩
      walk_at "rd"
      refine ⟨_, n', rfl, OT.sm e1 ⟨p2, us2, rfl, h6, h7⟩, by omega, by omega, w3, fun x2 H2 e2 o2 => ?_⟩
      have e12 := e1.trans e2
      walk_at "rd"
      refine ⟨a, _, dx, _, _, rfl, (e12 _ _ h2), (T.tyR .cho).cl, T.n_Choice_test, rfl, ?_⟩
      walk_at "rd"
      refine rd_mk (fun H3 s3 => ⟨_, _, _, _, a', t, mirRs y, mirRs n', rfl, h8.sm (e12.trans s3), (o1.sm e2).sm s3, o2.sm s3, h3.sm (e12.trans s3), by omega, by omega⟩) fun b' dx' H4 s4 hb => ?_
      obtain ⟨q1, vs1, rfl, g1, g2⟩ := (o1.sm e2).sm s4
      obtain ⟨q2, vs2, rfl, g3, g4⟩ := o2.sm s4
      exact q _ H4 (e12.trans s4) ⟨b', dx', u2, q1, q2, u1, vs1, vs2, rfl, hb, h8.sm (e12.trans s4), g1, g2, g3, g4, h3.sm (e12.trans s4)⟩
    | chg k' => cases k' <;> simp [Rw.cls, CK.cls] at hc
    | mov k' => cases k' <;> simp [Rw.cls, MK.cls] at hc
    | nam k' => cases k' <;> simp [Rw.cls, NK.cls] at hc
    | _ => simp [Rw.cls] at hc
  | n + 1, .loop => by
    have c_mirrors := ok_mirrors T (ok_rmir T n)
    have k_Loop := ok_mk_Loop (P := P) (w := w) (base := base) T
    refine T.m_Loop_mirror.ok sc_Loop_mirror (fun vs H Q E h => ?_) (fun f cdv Ar outer s H vs Q E hr h => ?_)
    · obtain ⟨v, r, rfl, _⟩ := h
      rfl
    obtain ⟨v, r, rfl, hO, hc, hn, hcn, hw, q⟩ := h
    cases r with
    | blk k' t y n' a' =>
      have hk : k' = .loop := by cases k' <;> first | rfl | (simp [Rw.cls, BK.cls] at hc)
      subst hk
      obtain ⟨a, dx, u1, p1, p2, u2, us1, us2, rfl, h2, h3, h4, h5, h6, h7, h8⟩ := hO
      obtain ⟨w1, w2, w3, w4⟩ := hw
      have hn' : 1 + max (dpRs y) (dpRs n') ≤ n + 1 := hn
      have hc' : 1 + (cntRs y + cntRs n') ≤ 1000 := hcn
      have l1 := len_cnt (mirRs y)
      have l2 := len_cnt (mirRs n')
      rw [cntRs_mir] at l1 l2
      refine ⟨_, (pss_one (ps_ret (pe_mkr k_Loop hr (by omega) pass0 (pa_cons (k_fld K (pv 0) rfl) (pa_cons (pe_cal c_mirrors hr (by omega) pass0 (pa_cons (k_fld K (pv 0) rfl) pa_nil)) (pa_cons (pe_cal c_mirrors hr (by omega) pass0 (pa_cons (k_fld K (pv 0) rfl) pa_nil)) (pa_cons (k_fld K (pv 0) rfl) pa_nil))))))), ?_⟩
      walk_at "rd"
      refine ⟨a, _, dx, _, _, rfl, h2, (T.tyR .loop).cl, T.n_Loop_test, rfl, ?_⟩
      walk_at "rd"
      refine ⟨a, _, dx, _, _, rfl, h2, (T.tyR .loop).cl, T.n_Loop_first, rfl, ?_⟩
      walk_at "rd"
      refine ⟨_, y, rfl, ⟨p1, us1, rfl, h4, h5⟩, by omega, by omega, w2, fun x1 H1 e1 o1 => ?_⟩
      walk_at "rd"
      refine ⟨a, _, dx, _, _, rfl, (e1 _ _ h2), (T.tyR .loop).cl, T.n_Loop_again, rfl, ?_⟩
      walk_at "rd"
      refine ⟨_, n', rfl, OT.sm e1 ⟨p2, us2, rfl, h6, h7⟩, by omega, by omega, w3, fun x2 H2 e2 o2 => ?_⟩
      have e12 := e1.trans e2
      walk_at "rd"
      refine ⟨a, _, dx, _, _, rfl, (e12 _ _ h2), (T.tyR .loop).cl, T.n_Loop_before, rfl, ?_⟩
      walk_at "rd"
      refine rd_mk (fun H3 s3 => ⟨_, _, _, _, a', t, mirRs y, mirRs n', rfl, h8.sm (e12.trans s3), (o1.sm e2).sm s3, o2.sm s3, h3.sm (e12.trans s3), by omega, by omega⟩) fun b' dx' H4 s4 hb => ?_
      obtain ⟨q1, vs1, rfl, g1, g2⟩ := (o1.sm e2).sm s4
      obtain ⟨q2, vs2, rfl, g3, g4⟩ := o2.sm s4
      exact q _ H4 (e12.trans s4) ⟨b', dx', u2, q1, q2, u1, vs1, vs2, rfl, hb, h8.sm (e12.trans s4), g1, g2, g3, g4, h3.sm (e12.trans s4)⟩
    | chg k' => cases k' <;> simp [Rw.cls, CK.cls] at hc
    | mov k' => cases k' <;> simp [Rw.cls, MK.cls] at hc
    | nam k' => cases k' <;> simp [Rw.cls, NK.cls] at hc
    | _ => simp [Rw.cls] at hc
  | n + 1, .held => by
    have c_mirrors := ok_mirrors T (ok_rmir T n)
    have k_Held := ok_mk_Held (P := P) (w := w) (base := base) T
    refine T.m_Held_mirror.ok sc_Held_mirror (fun vs H Q E h => ?_) (fun f cdv Ar outer s H vs Q E hr h => ?_)
    · obtain ⟨v, r, rfl, _⟩ := h
      rfl
    obtain ⟨v, r, rfl, hO, hc, hn, hcn, hw, q⟩ := h
    cases r with
    | held b e y ff =>
      obtain ⟨a, dx, u1, p0, u2, us, rfl, h2, h3, h4, h5, h6⟩ := hO
      obtain ⟨w1, w2, w3, w4⟩ := hw
      have hn' : 1 + dpRs y ≤ n + 1 := hn
      have hc' : 1 + cntRs y ≤ 1000 := hcn
      have l1 := len_cnt (mirRs y)
      rw [cntRs_mir] at l1
      refine ⟨_, (pss_one (ps_ret (pe_mkr k_Held hr (by omega) pass0 (pa_cons (k_fld K (pv 0) rfl) (pa_cons (k_fld K (pv 0) rfl) (pa_cons (pe_cal c_mirrors hr (by omega) pass0 (pa_cons (k_fld K (pv 0) rfl) pa_nil)) (pa_cons (k_fld K (pv 0) rfl) pa_nil))))))), ?_⟩
      walk_at "rd"
      refine ⟨a, _, dx, _, _, rfl, h2, (T.tyR .held).cl, T.n_Held_box, rfl, ?_⟩
      walk_at "rd"
      refine ⟨a, _, dx, _, _, rfl, h2, (T.tyR .held).cl, T.n_Held_end, rfl, ?_⟩
      walk_at "rd"
      refine ⟨a, _, dx, _, _, rfl, h2, (T.tyR .held).cl, T.n_Held_rows, rfl, ?_⟩
      walk_at "rd"
      refine ⟨_, y, rfl, ⟨p0, us, rfl, h4, h5⟩, by omega, by omega, w3, fun x1 H1 e1 o1 => ?_⟩
      walk_at "rd"
      refine ⟨a, _, dx, _, _, rfl, (e1 _ _ h2), (T.tyR .held).cl, T.n_Held_begin, rfl, ?_⟩
      walk_at "rd"
      refine rd_mk (fun H3 s3 => ⟨_, _, _, _, ff, e, mirRs y, rfl, w1, h6.sm (e1.trans s3), o1.sm s3, h3.sm (e1.trans s3), by omega⟩) fun b' dx' H4 s4 hb => ?_
      obtain ⟨q1, vs1, rfl, g1, g2⟩ := o1.sm s4
      exact q _ H4 (e1.trans s4) ⟨b', dx', u2, q1, u1, vs1, rfl, hb, h6.sm (e1.trans s4), g1, g2, h3.sm (e1.trans s4)⟩
    | chg k' => cases k' <;> simp [Rw.cls, CK.cls] at hc
    | mov k' => cases k' <;> simp [Rw.cls, MK.cls] at hc
    | nam k' => cases k' <;> simp [Rw.cls, NK.cls] at hc
    | blk k' => cases k' <;> simp [Rw.cls, BK.cls] at hc
    | _ => simp [Rw.cls] at hc
end

end

section
section
variable {P : Program} {w : World} {K : PySem.W.Frag} {mg : Str → Option Value} {base : Heap} {A : CA}
/-! ### rows of tuples -/
theorem rd_thru {t u : TS} {nx : L2.St → Hp → Prop} {rt : VK} {bk ct : L2.St → Hp → Prop} {σ : L2.St} {H : Hp} (q : t { nx := u { nx := nx, rt := rt, bk := bk, ct := ct }, rt := rt, bk := bk, ct := ct } σ H) : tThru t u { nx := nx, rt := rt, bk := bk, ct := ct } σ H := q
theorem ok_said (T : Txt K mg A) : Cal P w K mg base CX0 "said" 22 ["told"] (spSayOf K A) := by
  have c_saying_of := ok_saying_of (P := P) (w := w) (base := base) T
  refine T.d_said.ok sc_said (fun vs H Q E h => ?_) (fun f cdv Ar outer s H vs Q E hr h => ?_)
  · obtain ⟨v, t, rfl, _⟩ := h
    rfl
  obtain ⟨v, t, rfl, hD, hk, q⟩ := h
  refine ⟨_, (pss_one (ps_try_thru (pss_one (ps_set (i := 1) sc_said.nd rfl (by first | exact Or.inl rfl | exact Or.inr rfl) (pe_cal c_saying_of hr (by omega) pass0 (pa_cons (pv 0) pa_nil)))) (pss_one (ps_ret (pv 1))))), ?_⟩
  walk_at "rd"
  refine rd_thru ?_
  walk_at "rd"
  refine ⟨v, t, rfl, hD, hk, fun r H' e o => ?_⟩
  walk_at "rd"
  exact q r H' e o
theorem dp_nil {H : Hp} {v : V} (h : Dp K H v (.tuple [])) : ∃ a, v = .ref a ∧ SqT K H a [] := by
  obtain ⟨a, xs, rfl, hS, hA⟩ := dp_tup h
  cases hA
  exact ⟨a, rfl, hS⟩
theorem dpA_len {H : Hp} : ∀ {ds : List PyData} {xs : List V}, DpAll K H xs ds → xs.length = ds.length
  | [], _, h => by cases dpA_nil h; rfl
  | d :: ds, _, h => by
    obtain ⟨v, r, rfl, _, h2⟩ := dpA_cons h
    rw [List.length_cons, List.length_cons, dpA_len h2]
theorem dpA_get {H : Hp} : ∀ {ds : List PyData} {xs : List V} {j : Nat} {x : V}, DpAll K H xs ds → xs[j]? = some x → ∃ d, ds[j]? = some d ∧ Dp K H x d
  | [], _, _, _, h, e => by cases dpA_nil h; simp at e
  | d :: ds, _, j, x, h, e => by
    obtain ⟨v, r, rfl, h1, h2⟩ := dpA_cons h
    cases j with
    | zero =>
      cases Option.some.inj e
      exact ⟨d, rfl, h1⟩
    | succ j => exact dpA_get (j := j) h2 (by simpa using e)
/-- what a row's reading says -/
def spRWithin (K : PySem.W.Frag) (A : CA) (n : Nat) : Sp := fun vs H Q _ => ∃ (v : V) (r : Rw) (d : Int), vs = [v, .int d] ∧ Dp K H v r.told ∧ r.wf ∧ r.cnt ≤ 1000 ∧ r.dp ≤ n ∧ 1 ≤ d ∧ d + n ≤ 7 ∧ ∀ (x : V) (H' : Hp), Same H H' → OR A H' r x → Q x H'
def spRsWithin (K : PySem.W.Frag) (A : CA) (n : Nat) : Sp := fun vs H Q _ => ∃ (v : V) (rs : List Rw) (d : Int), vs = [v, .int d] ∧ Dp K H v (.tuple (toldRs rs)) ∧ wfRs rs ∧ cntRs rs ≤ 1000 ∧ dpRs rs ≤ n ∧ 1 ≤ d ∧ d + n ≤ 7 ∧ ∀ (x : V) (H' : Hp), Same H H' → OT A H' rs x → Q x H'
def Rw.five : Rw → Nat
  | .chg _ _ _ => 3
  | .swap _ _ => 3
  | .turn _ _ => 3
  | .mov _ _ _ => 3
  | .nam _ _ => 2
  | .blk _ _ _ _ _ => 5
  | .held _ _ _ _ => 5
def spChange (K : PySem.W.Frag) (A : CA) : Sp := fun vs H Q _ => ∃ (v : V) (r : Rw), vs = [v] ∧ Dp K H v r.told ∧ r.wf ∧ r.five = 3 ∧ ∀ (x : V) (H' : Hp), Same H H' → OR A H' r x → Q x H'
theorem ok_change_of (T : Txt K mg A) : Cal P w K mg base CX0 "change_of" 23 ["told"] (spChange K A) := by
  have c_said := ok_said (P := P) (w := w) (base := base) T
  have k_Add := ok_mk_Change (P := P) (w := w) (base := base) T.k_Add T.ty_Add T.n_Add_box T.n_Add_saying T
  have k_Less := ok_mk_Change (P := P) (w := w) (base := base) T.k_Less T.ty_Less T.n_Less_box T.n_Less_saying T
  have k_Mix := ok_mk_Change (P := P) (w := w) (base := base) T.k_Mix T.ty_Mix T.n_Mix_box T.n_Mix_saying T
  have k_Push := ok_mk_Moved (P := P) (w := w) (base := base) T.k_Push T.ty_Push T.n_Push_box T.n_Push_stack T
  have k_Pop := ok_mk_Moved (P := P) (w := w) (base := base) T.k_Pop T.ty_Pop T.n_Pop_box T.n_Pop_stack T
  have k_Swap := ok_mk_Swap (P := P) (w := w) (base := base) T
  have k_Turn := ok_mk_Turn (P := P) (w := w) (base := base) T
  refine T.d_change_of.ok sc_change_of (fun vs H Q E h => ?_) (fun f cdv Ar outer s H vs Q E hr h => ?_)
  · obtain ⟨v, r, rfl, _⟩ := h
    rfl
  obtain ⟨v, r, rfl, hD, hw, h5, q⟩ := h
  refine ⟨_, (pss_cons (ps_if (pt_cmpR (k_eql K hr.units) (pe_ix (k_ix K) (pv 0) pe_int (fun _ _ => rfl)) pe_str (nomark _)) (pss_one (ps_ret (pe_mkr k_Add hr (by omega) pass0 (pa_cons (pe_ix (k_ix K) (pv 0) pe_int (fun _ _ => rfl)) (pa_cons (pe_cal c_said hr (by omega) pass0 (pa_cons (pe_ix (k_ix K) (pv 0) pe_int (fun _ _ => rfl)) pa_nil)) pa_nil))))) pss_nil)
    (pss_cons (ps_if (pt_cmpR (k_eql K hr.units) (pe_ix (k_ix K) (pv 0) pe_int (fun _ _ => rfl)) pe_str (nomark _)) (pss_one (ps_ret (pe_mkr k_Less hr (by omega) pass0 (pa_cons (pe_ix (k_ix K) (pv 0) pe_int (fun _ _ => rfl)) (pa_cons (pe_cal c_said hr (by omega) pass0 (pa_cons (pe_ix (k_ix K) (pv 0) pe_int (fun _ _ => rfl)) pa_nil)) pa_nil))))) pss_nil)
    (pss_cons (ps_if (pt_cmpR (k_eql K hr.units) (pe_ix (k_ix K) (pv 0) pe_int (fun _ _ => rfl)) pe_str (nomark _)) (pss_one (ps_ret (pe_mkr k_Mix hr (by omega) pass0 (pa_cons (pe_ix (k_ix K) (pv 0) pe_int (fun _ _ => rfl)) (pa_cons (pe_cal c_said hr (by omega) pass0 (pa_cons (pe_ix (k_ix K) (pv 0) pe_int (fun _ _ => rfl)) pa_nil)) pa_nil))))) pss_nil)
    (pss_cons (ps_if (pt_cmpR (k_eql K hr.units) (pe_ix (k_ix K) (pv 0) pe_int (fun _ _ => rfl)) pe_str (nomark _)) (pss_one (ps_ret (pe_mkr k_Swap hr (by omega) pass0 (pa_cons (pe_ix (k_ix K) (pv 0) pe_int (fun _ _ => rfl)) (pa_cons (pe_ix (k_ix K) (pv 0) pe_int (fun _ _ => rfl)) pa_nil))))) pss_nil)
    (pss_cons (ps_if (pt_cmpR (k_eql K hr.units) (pe_ix (k_ix K) (pv 0) pe_int (fun _ _ => rfl)) pe_str (nomark _)) (pss_one (ps_ret (pe_mkr k_Turn hr (by omega) pass0 (pa_cons (pe_ix (k_ix K) (pv 0) pe_int (fun _ _ => rfl)) (pa_cons (pe_ix (k_ix K) (pv 0) pe_int (fun _ _ => rfl)) pa_nil))))) pss_nil)
    (pss_cons (ps_if (pt_cmpR (k_eql K hr.units) (pe_ix (k_ix K) (pv 0) pe_int (fun _ _ => rfl)) pe_str (nomark _)) (pss_one (ps_ret (pe_mkr k_Push hr (by omega) pass0 (pa_cons (pe_ix (k_ix K) (pv 0) pe_int (fun _ _ => rfl)) (pa_cons (pe_ix (k_ix K) (pv 0) pe_int (fun _ _ => rfl)) pa_nil))))) pss_nil)
    (pss_cons (ps_if (pt_cmpR (k_eql K hr.units) (pe_ix (k_ix K) (pv 0) pe_int (fun _ _ => rfl)) pe_str (nomark _)) (pss_one (ps_ret (pe_mkr k_Pop hr (by omega) pass0 (pa_cons (pe_ix (k_ix K) (pv 0) pe_int (fun _ _ => rfl)) (pa_cons (pe_ix (k_ix K) (pv 0) pe_int (fun _ _ => rfl)) pa_nil))))) pss_nil)
    (pss_one ps_never)))))))), ?_⟩
  cases r with
  | nam => cases h5
  | blk => cases h5
  | held => cases h5
  | chg k b e =>
    obtain ⟨a, x, y, z, rfl, hS, dx, dy, dz⟩ := dp_three hD
    cases dp_str dx
    cases dp_str dy
    obtain ⟨w1, w2⟩ := hw
    cases k <;>
    · walk_at "rt"
      refine ⟨z, e, rfl, dz, w2, fun u H1 e1 o1 => ?_⟩
      walk_at "rt"
      refine rd_mk (fun H3 s3 => ⟨_, _, e, rfl, w1, o1.sm s3⟩) fun b' dx' H4 s4 hb => ?_
      exact q _ H4 (e1.trans s4) ⟨b', dx', u, rfl, hb, o1.sm s4⟩
  | swap b e =>
    obtain ⟨a, x, y, z, rfl, hS, dx, dy, dz⟩ := dp_three hD
    cases dp_str dx
    cases dp_str dy
    cases dp_str dz
    walk_at "rt"
    refine rd_mk (fun H3 s3 => ⟨[b, e], rfl, rfl, by have z : nameOk b = true ∧ nameOk e = true := hw; simpa using z⟩) fun b' dx' H4 s4 hb => ?_
    exact q _ H4 s4 ⟨b', dx', rfl, hb⟩
  | mov k b e =>
    obtain ⟨a, x, y, z, rfl, hS, dx, dy, dz⟩ := dp_three hD
    cases dp_str dx
    cases dp_str dy
    cases dp_str dz
    cases k <;>
    · walk_at "rt"
      refine rd_mk (fun H3 s3 => ⟨[b, e], rfl, rfl, by have z : nameOk b = true ∧ nameOk e = true := hw; simpa using z⟩) fun b' dx' H4 s4 hb => ?_
      exact q _ H4 s4 ⟨b', dx', rfl, hb⟩
  | turn b m =>
    obtain ⟨a, x, y, z, rfl, hS, dx, dy, dz⟩ := dp_three hD
    cases dp_str dx
    cases dp_str dy
    cases dp_int dz
    walk_at "rt"
    refine rd_mk (fun H3 s3 => ⟨_, _, rfl, hw.1, hw.2.1, hw.2.2⟩) fun b' dx' H4 s4 hb => ?_
    exact q _ H4 s4 ⟨b', dx', rfl, hb⟩
theorem ok_rows_within {n k : Nat} (T : Txt K mg A) (c_row_within : Cal P w K mg base CX0 "row_within" k ["told", "deep"] (spRWithin K A n)) : Cal P w K mg base CX0 "rows_within" (k + 1) ["told", "deep"] (spRsWithin K A n) := by
  refine T.d_rows_within.ok sc_rows_within (fun vs H Q E h => ?_) (fun f cdv Ar outer s H vs Q E hr h => ?_)
  · obtain ⟨v, rs, d, rfl, _⟩ := h
    rfl
  obtain ⟨v, rs, d, rfl, hD, hw, hc, hn, hd1, hd2, q⟩ := h
  obtain ⟨a, xs, rfl, hS, hA⟩ := dp_tup hD
  refine ⟨_, (pss_cons (ps_if (PW.pt (pw_or (pt_not (pt_val (pe_callB (k_isi K) (by rfl) T.b_isinstance bt_isinstance (pa_cons (pv 0) (pa_cons (pe_bltn (v := .ty "tuple") (by rfl) T.b_tuple bt_tuple rfl) pa_nil))))) (pw_or1 (PW.pt (pw_and (pt_cmpR op_gt (pv 1) (pe_gint T.i_MOST_DEEP_rows) (nomark _)) (pw_and1 (pt_cmpR (k_neq K hr.units) (pv 0) (pe_tup pa_nil) (nomark _)))))))) (pss_one ps_never) pss_nil)
    (pss_one (ps_ret (pe_callTy (k_tup K) (by rfl) T.b_tuple bt_tuple (pa_cons (pe_lc (own := [("one", 2)]) rfl sc_rows_within.nd (k_any K (pv 0)) (blkOk_by (N := N_rows_within) (sc := defScope s_rows_within) (by decide +kernel)) (fun _ _ _ _ _ => (pg_name (i := 2) sc_rows_within.nd rfl (by first | exact Or.inl rfl | exact Or.inr rfl))) (fun _ _ _ _ _ => pts_nil) (fun _ _ _ _ _ => (pe_cal c_row_within hr (by omega) pass0 (pa_cons (pv 2) (pa_cons (pv 1) pa_nil))))) pa_nil))))), ?_⟩
  walk_at "rt"
  have hxl : xs.length = rs.length := by rw [dpA_len hA, toldRs_map, List.length_map]
  have hcl := len_cnt rs
  have main : ∀ H1, Same H H1 → tRet (tCB (rTupOf K) (tCons (tLc (iAny K (tVar 0)) (gName 2) tYes (tCall (spRWithin K A n) [] E0 (tCons (tVar 2) (tCons (tVar 1) tNil))) (List.map (fun x => x.snd) [(Str.ofString "one", 2)])) tNil)) { nx := fun _ H' => Q V.non H', rt := Q } (L2.start N_rows_within [V.ref a, V.int d]) H1 := by
    intro H1 e1
    walk_at "rt"
    refine rd_lc_t ?_
    walk_at "rt"
    refine ⟨_, rfl, ⟨_, seqT_sm e1 hS⟩, fun D nD => ?_⟩
    refine lc_map walk_tup (fun j y H => ∃ r, rs[j]? = some r ∧ OR A H r y) nD (by omega) (fun j y H1 H2 k nI ⟨r, h1, h2⟩ => ⟨r, h1, OR.car (.kp k nI) _ _ h2⟩) (fun H' e => seqT_sm e (seqT_sm e1 hS)) ?_ ?_
    · rintro j y H2 H3 F Z hi e2 ⟨rfl, hx⟩ hF
      refine ⟨Same.refl _, ?_⟩
      obtain ⟨t, h1, h2⟩ := dpA_get hA hx
      rw [toldRs_map, List.getElem?_map] at h1
      obtain ⟨r, hr1, rfl⟩ := Option.map_eq_some_iff.mp h1
      have hm := List.mem_of_getElem? hr1
      walk_at "rt"
      refine ⟨rfl, ?_⟩
      walk_at "rt"
      exact ⟨_, r, d, rfl, dp_sm (e1.trans e2) _ _ h2, wfRs_all.mp hw r hm, Nat.le_trans (cnt_mem hm) hc, dpRs_all.mp hn r hm, hd1, hd2, fun x H4 e4 d4 => hF _ _ e4 ⟨r, hr1, d4⟩⟩
    · intro ys H2 e2 hD' hly hy
      walk_at "rt"
      refine rd_tupOf (SqL.of hD') fun p2 H4 np2 e4 hp2 => ?_
      exact q _ H4 ((e1.trans e2).trans e4) ⟨p2, ys, rfl, hp2, (ORs.of_get (by omega) fun j u hj => hy j u hj).sm e4⟩
  by_cases h6 : 6 < d
  · walk_at "rt"
    have hrs : rs = [] := by
      cases rs with
      | nil => rfl
      | cons r rs =>
        have h1 := dpRs_all.mp hn r (List.mem_cons_self ..)
        have h2 := r.dp_pos
        omega
    subst hrs
    refine rd_new (by simp) fun p H1 np e1 hp => ?_
    refine rd_ne_d (d := .tuple []) (e := .tuple []) (dp_sm e1 _ _ hD) (.tup (SqT.of hp) .nil) (by decide +kernel) (by decide +kernel) ?_
    walk_at "rt"
    refine rd_false (by decide +kernel) ?_
    walk_at "rt"
    exact main H1 e1
  · walk_at "rt"
    exact main H (Same.refl _)

theorem ok_row_within (T : Txt K mg A) : ∀ n : Nat, Cal P w K mg base CX0 "row_within" (2 * n + 24) ["told", "deep"] (spRWithin K A n)
  | 0 => T.d_row_within.never fun vs H Q E h => by
    obtain ⟨v, r, d, _, _, _, _, hn, _⟩ := h
    have := r.dp_pos
    omega
  | n + 1 => by
    have c_said := ok_said (P := P) (w := w) (base := base) T
    have c_change_of := ok_change_of (P := P) (w := w) (base := base) T
    have c_rows_within := ok_rows_within T (ok_row_within T n)
    have k_Call := ok_mk_Named (P := P) (w := w) (base := base) T.k_Call T.ty_Call T.n_Call_name T
    have k_Back := ok_mk_Named (P := P) (w := w) (base := base) T.k_Back T.ty_Back T.n_Back_name T
    have k_Choice := ok_mk_Choice (P := P) (w := w) (base := base) T
    have k_Loop := ok_mk_Loop (P := P) (w := w) (base := base) T
    have k_Held := ok_mk_Held (P := P) (w := w) (base := base) T
    refine T.d_row_within.ok sc_row_within (fun vs H Q E h => ?_) (fun f cdv Ar outer s H vs Q E hr h => ?_)
    · obtain ⟨v, r, d, rfl, _⟩ := h
      rfl
    obtain ⟨v, r, d, rfl, hD, hw, hc, hn, hd1, hd2, q⟩ := h
    refine ⟨_, (pss_cons (ps_if (PW.pt (pw_or (pt_not (pt_val (pe_callB (k_isi K) (by rfl) T.b_isinstance bt_isinstance (pa_cons (pv 0) (pa_cons (pe_bltn (v := .ty "tuple") (by rfl) T.b_tuple bt_tuple rfl) pa_nil))))) (pw_or (pt_cmpR op_lt (pe_callB (k_len K) (by rfl) T.b_len bt_len (pa_cons (pv 0) pa_nil)) pe_int (nomark _)) (pw_or1 (pt_not (pt_val (pe_callB (k_isi K) (by rfl) T.b_isinstance bt_isinstance (pa_cons (pe_ix (k_ix K) (pv 0) pe_int (fun _ _ => rfl)) (pa_cons (pe_bltn (v := .ty "str") (by rfl) T.b_str bt_str rfl) pa_nil))))))))) (pss_one ps_never) pss_nil)
    (pss_cons (ps_if (PW.pt (pw_and (pt_cmpR (k_eql K hr.units) (pe_callB (k_len K) (by rfl) T.b_len bt_len (pa_cons (pv 0) pa_nil)) pe_int (nomark _)) (pw_and1 (pt_cmpR (k_eql K hr.units) (pe_ix (k_ix K) (pv 0) pe_int (fun _ _ => rfl)) pe_str (nomark _))))) (pss_one (ps_ret (pe_mkr k_Call hr (by omega) pass0 (pa_cons (pe_ix (k_ix K) (pv 0) pe_int (fun _ _ => rfl)) pa_nil)))) pss_nil)
    (pss_cons (ps_if (PW.pt (pw_and (pt_cmpR (k_eql K hr.units) (pe_callB (k_len K) (by rfl) T.b_len bt_len (pa_cons (pv 0) pa_nil)) pe_int (nomark _)) (pw_and1 (pt_cmpR (k_eql K hr.units) (pe_ix (k_ix K) (pv 0) pe_int (fun _ _ => rfl)) pe_str (nomark _))))) (pss_one (ps_ret (pe_mkr k_Back hr (by omega) pass0 (pa_cons (pe_ix (k_ix K) (pv 0) pe_int (fun _ _ => rfl)) pa_nil)))) pss_nil)
    (pss_cons (ps_if (pt_cmpR (k_eql K hr.units) (pe_callB (k_len K) (by rfl) T.b_len bt_len (pa_cons (pv 0) pa_nil)) pe_int (nomark _)) (pss_one (ps_ret (pe_cal c_change_of hr (by omega) pass0 (pa_cons (pv 0) pa_nil)))) pss_nil)
    (pss_cons (ps_if (pt_cmpR (k_neq K hr.units) (pe_callB (k_len K) (by rfl) T.b_len bt_len (pa_cons (pv 0) pa_nil)) pe_int (nomark _)) (pss_one ps_never) pss_nil)
    (pss_cons (ps_if (pt_cmpR (k_eql K hr.units) (pe_ix (k_ix K) (pv 0) pe_int (fun _ _ => rfl)) pe_str (nomark _)) (pss_cons (ps_set (i := 2) sc_row_within.nd rfl (by first | exact Or.inl rfl | exact Or.inr rfl) (pe_cal c_rows_within hr (by omega) pass0 (pa_cons (pe_ix (k_ix K) (pv 0) pe_int (fun _ _ => rfl)) (pa_cons (pe_op (k_plus K) (pv 1) pe_int) pa_nil))))
    (pss_one (ps_ret (pe_mkr k_Choice hr (by omega) pass0 (pa_cons (pe_cal c_said hr (by omega) pass0 (pa_cons (pe_ix (k_ix K) (pv 0) pe_int (fun _ _ => rfl)) pa_nil)) (pa_cons (pv 2) (pa_cons (pe_cal c_rows_within hr (by omega) pass0 (pa_cons (pe_ix (k_ix K) (pv 0) pe_int (fun _ _ => rfl)) (pa_cons (pe_op (k_plus K) (pv 1) pe_int) pa_nil))) (pa_cons (pe_cal c_said hr (by omega) pass0 (pa_cons (pe_ix (k_ix K) (pv 0) pe_int (fun _ _ => rfl)) pa_nil)) pa_nil)))))))) pss_nil)
    (pss_cons (ps_if (pt_cmpR (k_eql K hr.units) (pe_ix (k_ix K) (pv 0) pe_int (fun _ _ => rfl)) pe_str (nomark _)) (pss_cons (ps_set (i := 3) sc_row_within.nd rfl (by first | exact Or.inl rfl | exact Or.inr rfl) (pe_cal c_rows_within hr (by omega) pass0 (pa_cons (pe_ix (k_ix K) (pv 0) pe_int (fun _ _ => rfl)) (pa_cons (pe_op (k_plus K) (pv 1) pe_int) pa_nil))))
    (pss_one (ps_ret (pe_mkr k_Loop hr (by omega) pass0 (pa_cons (pe_cal c_said hr (by omega) pass0 (pa_cons (pe_ix (k_ix K) (pv 0) pe_int (fun _ _ => rfl)) pa_nil)) (pa_cons (pv 3) (pa_cons (pe_cal c_rows_within hr (by omega) pass0 (pa_cons (pe_ix (k_ix K) (pv 0) pe_int (fun _ _ => rfl)) (pa_cons (pe_op (k_plus K) (pv 1) pe_int) pa_nil))) (pa_cons (pe_cal c_said hr (by omega) pass0 (pa_cons (pe_ix (k_ix K) (pv 0) pe_int (fun _ _ => rfl)) pa_nil)) pa_nil)))))))) pss_nil)
    (pss_cons (ps_if (pt_cmpR (k_eql K hr.units) (pe_ix (k_ix K) (pv 0) pe_int (fun _ _ => rfl)) pe_str (nomark _)) (pss_one (ps_ret (pe_mkr k_Held hr (by omega) pass0 (pa_cons (pe_ix (k_ix K) (pv 0) pe_int (fun _ _ => rfl)) (pa_cons (pe_cal c_said hr (by omega) pass0 (pa_cons (pe_ix (k_ix K) (pv 0) pe_int (fun _ _ => rfl)) pa_nil)) (pa_cons (pe_cal c_rows_within hr (by omega) pass0 (pa_cons (pe_ix (k_ix K) (pv 0) pe_int (fun _ _ => rfl)) (pa_cons (pe_op (k_plus K) (pv 1) pe_int) pa_nil))) (pa_cons (pe_cal c_said hr (by omega) pass0 (pa_cons (pe_ix (k_ix K) (pv 0) pe_int (fun _ _ => rfl)) pa_nil)) pa_nil))))))) pss_nil)
    (pss_one ps_never))))))))), ?_⟩
    cases r with
    | chg k b e =>
      obtain ⟨a, x, y, z, rfl, hS, dx, dy, dz⟩ := dp_three hD
      cases dp_str dx
      walk_at "rt"
      exact ⟨_, .chg k b e, rfl, hD, hw, rfl, q⟩
    | swap b e =>
      obtain ⟨a, x, y, z, rfl, hS, dx, dy, dz⟩ := dp_three hD
      cases dp_str dx
      walk_at "rt"
      exact ⟨_, .swap b e, rfl, hD, hw, rfl, q⟩
    | mov k b e =>
      obtain ⟨a, x, y, z, rfl, hS, dx, dy, dz⟩ := dp_three hD
      cases dp_str dx
      walk_at "rt"
      exact ⟨_, .mov k b e, rfl, hD, hw, rfl, q⟩
    | turn b e =>
      obtain ⟨a, x, y, z, rfl, hS, dx, dy, dz⟩ := dp_three hD
      cases dp_str dx
      walk_at "rt"
      exact ⟨_, .turn b e, rfl, hD, hw, rfl, q⟩
    | nam k x' =>
      obtain ⟨a, x, y, rfl, hS, dx, dy⟩ := dp_two hD
      cases dp_str dx
      cases dp_str dy
      cases k <;>
      · walk_at "rt"
        refine rd_mk (fun H3 s3 => ⟨_, rfl, hw⟩) fun b dx H4 s4 hb => ?_
        exact q _ H4 s4 ⟨b, dx, rfl, hb⟩
    | blk k t y m a' =>
      obtain ⟨a, x, y1, z1, u1, v1, rfl, hS, dx, dy, dz, du, dv⟩ := dp_five hD
      cases dp_str dx
      obtain ⟨w1, w2, w3, w4⟩ := hw
      have hn' : 1 + max (dpRs y) (dpRs m) ≤ n + 1 := hn
      have hc' : 1 + (cntRs y + cntRs m) ≤ 1000 := hc
      have l1 := len_cnt y
      have l2 := len_cnt m
      cases k with
      | cho =>
        have k_Choice := ok_mk_Choice (P := P) (w := w) (base := base) T
        walk_at "rt"
        refine ⟨_, y, _, rfl, dz, w2, by omega, by omega, by omega, by omega, fun x1 H1 e1 o1 => ?_⟩
        have hS := seqT_sm e1 hS
        walk_at "rt"
        refine ⟨_, t, rfl, dp_sm e1 _ _ dy, w1, fun x2 H2 e2 o2 => ?_⟩
        have hS := seqT_sm e2 hS
        walk_at "rt"
        have e12 := e1.trans e2
        refine ⟨_, m, _, rfl, dp_sm e12 _ _ du, w3, by omega, by omega, by omega, by omega, fun x3 H3 e3 o3 => ?_⟩
        have hS := seqT_sm e3 hS
        have e13 := e12.trans e3
        walk_at "rt"
        refine ⟨_, a', rfl, dp_sm e13 _ _ dv, w4, fun x4 H4 e4 o4 => ?_⟩
        walk_at "rt"
        have e34 := e3.trans e4
        have e24 := e2.trans e34
        refine rd_mk (fun H5 s5 => ⟨_, _, _, _, t, a', y, m, rfl, (o2.sm e34).sm s5, (o1.sm e24).sm s5, (o3.sm e4).sm s5, o4.sm s5, by omega, by omega⟩) fun b' dx' H5 s5 hb => ?_
        obtain ⟨q1, vs1, rfl, g1, g2⟩ := (o1.sm e24).sm s5
        obtain ⟨q2, vs2, rfl, g3, g4⟩ := (o3.sm e4).sm s5
        exact q _ H5 ((e13.trans e4).trans s5) ⟨b', dx', x2, q1, q2, x4, vs1, vs2, rfl, hb, (o2.sm e34).sm s5, g1, g2, g3, g4, o4.sm s5⟩
      | loop =>
        have k_Loop := ok_mk_Loop (P := P) (w := w) (base := base) T
        walk_at "rt"
        refine ⟨_, y, _, rfl, dz, w2, by omega, by omega, by omega, by omega, fun x1 H1 e1 o1 => ?_⟩
        have hS := seqT_sm e1 hS
        walk_at "rt"
        refine ⟨_, t, rfl, dp_sm e1 _ _ dy, w1, fun x2 H2 e2 o2 => ?_⟩
        have hS := seqT_sm e2 hS
        walk_at "rt"
        have e12 := e1.trans e2
        refine ⟨_, m, _, rfl, dp_sm e12 _ _ du, w3, by omega, by omega, by omega, by omega, fun x3 H3 e3 o3 => ?_⟩
        have hS := seqT_sm e3 hS
        have e13 := e12.trans e3
        walk_at "rt"
        refine ⟨_, a', rfl, dp_sm e13 _ _ dv, w4, fun x4 H4 e4 o4 => ?_⟩
        walk_at "rt"
        have e34 := e3.trans e4
        have e24 := e2.trans e34
        refine rd_mk (fun H5 s5 => ⟨_, _, _, _, t, a', y, m, rfl, (o2.sm e34).sm s5, (o1.sm e24).sm s5, (o3.sm e4).sm s5, o4.sm s5, by omega, by omega⟩) fun b' dx' H5 s5 hb => ?_
        obtain ⟨q1, vs1, rfl, g1, g2⟩ := (o1.sm e24).sm s5
        obtain ⟨q2, vs2, rfl, g3, g4⟩ := (o3.sm e4).sm s5
        exact q _ H5 ((e13.trans e4).trans s5) ⟨b', dx', x2, q1, q2, x4, vs1, vs2, rfl, hb, (o2.sm e34).sm s5, g1, g2, g3, g4, o4.sm s5⟩
    | held b e y ff =>
      obtain ⟨a, x, y1, z1, u1, v1, rfl, hS, dx, dy, dz, du, dv⟩ := dp_five hD
      cases dp_str dx
      cases dp_str dy
      obtain ⟨w1, w2, w3, w4⟩ := hw
      have hn' : 1 + dpRs y ≤ n + 1 := hn
      have hc' : 1 + cntRs y ≤ 1000 := hc
      have l1 := len_cnt y
      walk_at "rt"
      refine ⟨_, e, rfl, dz, w2, fun x1 H1 e1 o1 => ?_⟩
      have hS := seqT_sm e1 hS
      walk_at "rt"
      refine ⟨_, y, _, rfl, dp_sm e1 _ _ du, w3, by omega, by omega, by omega, by omega, fun x2 H2 e2 o2 => ?_⟩
      have hS := seqT_sm e2 hS
      walk_at "rt"
      have e12 := e1.trans e2
      refine ⟨_, ff, rfl, dp_sm e12 _ _ dv, w4, fun x3 H3 e3 o3 => ?_⟩
      walk_at "rt"
      refine rd_mk (fun H5 s5 => ⟨_, _, _, _, e, ff, y, rfl, w1, (o1.sm (e2.trans e3)).sm s5, (o2.sm e3).sm s5, o3.sm s5, by omega⟩) fun b' dx' H5 s5 hb => ?_
      obtain ⟨q1, vs1, rfl, g1, g2⟩ := (o2.sm e3).sm s5
      exact q _ H5 ((e12.trans e3).trans s5) ⟨b', dx', x1, q1, x3, vs1, rfl, hb, (o1.sm (e2.trans e3)).sm s5, g1, g2, o3.sm s5⟩
def spRowOf (K : PySem.W.Frag) (A : CA) : Sp := fun vs H Q _ => ∃ (v : V) (r : Rw), vs = [v] ∧ Dp K H v r.told ∧ r.wf ∧ r.cnt ≤ 1000 ∧ r.dp ≤ 6 ∧ ∀ (x : V) (H' : Hp), Same H H' → OR A H' r x → Q x H'
theorem ok_row_of (T : Txt K mg A) : Cal P w K mg base CX0 "row_of" 37 ["told"] (spRowOf K A) := by
  have c_row_within := ok_row_within (P := P) (w := w) (base := base) T 6
  refine T.d_row_of.ok sc_row_of (fun vs H Q E h => ?_) (fun f cdv Ar outer s H vs Q E hr h => ?_)
  · obtain ⟨v, r, rfl, _⟩ := h
    rfl
  obtain ⟨v, r, rfl, hD, hw, hc, hd, q⟩ := h
  refine ⟨_, (pss_one (ps_ret (pe_cal c_row_within hr (by omega) pass0 (pa_cons (pv 0) (pa_cons pe_int pa_nil))))), ?_⟩
  walk_at "rt"
  exact ⟨_, r, _, rfl, hD, hw, hc, hd, by omega, by omega, q⟩

end

end

section
def asgVal : Stmt → Expr
  | .Assign _ e _ => e
  | _ => .Name "" ⟨0, 0, 0, 0⟩
def lcScope : Expr → Scope
  | .ListComp _ _ sc _ => sc
  | _ => default
/-! # programs -/
structure Pg where
  bx : List Str
  st : List Str
  rt : List (Str × List Rw)
def Pg.toldR (p : Str × List Rw) : PyData := .tuple [.str p.1, .tuple (toldRs p.2)]
def Pg.told (p : Pg) : PyData := .tuple [.tuple (p.bx.map PyData.str), .tuple (p.st.map PyData.str), .tuple (p.rt.map Pg.toldR)]
structure Pg.wf (p : Pg) : Prop where
  b1 : 1 ≤ p.bx.length
  b2 : p.bx.length ≤ 12
  s2 : p.st.length ≤ 4
  r1 : 1 ≤ p.rt.length
  r2 : p.rt.length ≤ 8
  bn : ∀ x ∈ p.bx, nameOk x = true
  sn : ∀ x ∈ p.st, nameOk x = true
  rn : ∀ x ∈ p.rt, nameOk x.1 = true
  rw : ∀ x ∈ p.rt, wfRs x.2
  rd : ∀ x ∈ p.rt, dpRs x.2 ≤ 6
  rc : (p.rt.map fun x => cntRs x.2).sum ≤ 80
def Pg.mirR (p : Str × List Rw) : Str × List Rw := (p.1, mirRs p.2)
def Pg.mir (p : Pg) : Pg := ⟨p.bx, p.st, p.rt.map Pg.mirR⟩
theorem Pg.wf.mir {p : Pg} (h : p.wf) : p.mir.wf where
  b1 := h.b1
  b2 := h.b2
  s2 := h.s2
  r1 := by show 1 ≤ (p.rt.map Pg.mirR).length; rw [List.length_map]; exact h.r1
  r2 := by show (p.rt.map Pg.mirR).length ≤ 8; rw [List.length_map]; exact h.r2
  bn := h.bn
  sn := h.sn
  rn := fun x hx => by
    obtain ⟨y, hy, rfl⟩ := List.mem_map.mp hx
    exact h.rn y hy
  rw := fun x hx => by
    obtain ⟨y, hy, rfl⟩ := List.mem_map.mp hx
    exact wfRs_mir _ (h.rw y hy)
  rd := fun x hx => by
    obtain ⟨y, hy, rfl⟩ := List.mem_map.mp hx
    show dpRs (mirRs y.2) ≤ 6
    rw [dpRs_mir]
    exact h.rd y hy
  rc := by
    have e : ((p.rt.map Pg.mirR).map fun x => cntRs x.2) = p.rt.map fun x => cntRs x.2 := by
      rw [List.map_map]
      exact List.map_congr_left fun x _ => cntRs_mir _
    show ((p.rt.map Pg.mirR).map fun x => cntRs x.2).sum ≤ 80
    rw [e]
    exact h.rc
theorem Pg.mir_mir {p : Pg} (h : p.wf) : p.mir.mir = p := by
  have e : (p.rt.map Pg.mirR).map Pg.mirR = p.rt := by
    rw [List.map_map]
    refine (List.map_congr_left (g := id) fun x hx => ?_).trans (List.map_id _)
    show (x.1, mirRs (mirRs x.2)) = x
    rw [mirRs_mir _ (h.rw x hx)]
  show Pg.mk p.bx p.st ((p.rt.map Pg.mirR).map Pg.mirR) = p
  rw [e]
theorem sum_mem {l : List Nat} {n : Nat} (h : n ∈ l) : n ≤ l.sum := by
  induction l with
  | nil => cases h
  | cons a r ih =>
    rw [List.sum_cons]
    rcases List.mem_cons.mp h with e | e
    · omega
    · have := ih e
      omega
theorem Pg.wf.cnt {p : Pg} (h : p.wf) {x : Str × List Rw} (hx : x ∈ p.rt) : cntRs x.2 ≤ 80 :=
  Nat.le_trans (sum_mem (List.mem_map.mpr ⟨x, hx, rfl⟩ : cntRs x.2 ∈ p.rt.map fun x => cntRs x.2)) h.rc
/-! ### objects of programs -/
section
variable {K : PySem.W.Frag} {A : CA} {H H' : Hp}
def ORt (A : CA) (H : Hp) (p : Str × List Rw) (u : V) : Prop := ∃ t v, u = .ref t ∧ H t = some (.tup [.str p.1, v]) ∧ OT A H p.2 v
def ORts (A : CA) (H : Hp) (rt : List (Str × List Rw)) (v : V) : Prop := ∃ t us, v = .ref t ∧ H t = some (.tup us) ∧ us.length = rt.length ∧ ∀ (j : Nat) u, us[j]? = some u → ∃ p, rt[j]? = some p ∧ ORt A H p u
def ONs (K : PySem.W.Frag) (H : Hp) (xs : List Str) (v : V) : Prop := ∃ p, v = .ref p ∧ SqT K H p (xs.map V.str)
def OP (K : PySem.W.Frag) (A : CA) (H : Hp) (p : Pg) (v : V) : Prop := ∃ a dx v1 v2 v3, v = .ref a ∧ H a = some (.ins A.Program dx [("boxes", v1), ("stacks", v2), ("routines", v3)]) ∧ ONs K H p.bx v1 ∧ ONs K H p.st v2 ∧ ORts A H p.rt v3
theorem ORt.car (c : Car A H H') {p : Str × List Rw} {u : V} (h : ORt A H p u) : ORt A H' p u := by
  obtain ⟨t, v, h1, h2, h3⟩ := h
  exact ⟨t, v, h1, c.t _ _ h2, h3.car c⟩
theorem ORts.car (c : Car A H H') {p : List (Str × List Rw)} {u : V} (h : ORts A H p u) : ORts A H' p u := by
  obtain ⟨t, us, h1, h2, h3, h4⟩ := h
  refine ⟨t, us, h1, c.t _ _ h2, h3, fun j u hj => ?_⟩
  obtain ⟨q, h5, h6⟩ := h4 j u hj
  exact ⟨q, h5, h6.car c⟩
theorem ORts.sm {p : List (Str × List Rw)} {u : V} (h : ORts A H p u) (e : Same H H') : ORts A H' p u := h.car (.sm e)
theorem ONs.kp {M : List Addr} (e : Kp M H H') {xs : List Str} {v : V} (h : ONs K H xs v) : ONs K H' xs v := by
  obtain ⟨p, h1, h2⟩ := h
  exact ⟨p, h1, seqT_kp e h2⟩
theorem ONs.sm {xs : List Str} {v : V} (h : ONs K H xs v) (e : Same H H') : ONs K H' xs v := h.kp (M := []) (sm_kp e)
theorem OP.kp {M : List Addr} (e : Kp M H H') (n : NoIns M H) {p : Pg} {v : V} (h : OP K A H p v) : OP K A H' p v := by
  obtain ⟨a, dx, v1, v2, v3, h1, h2, h3, h4, h5⟩ := h
  exact ⟨a, dx, v1, v2, v3, h1, (Car.kp (A := A) e n).i h2, h3.kp e, h4.kp e, h5.car (.kp e n)⟩
theorem OP.sm {p : Pg} {v : V} (h : OP K A H p v) (e : Same H H') : OP K A H' p v := by
  obtain ⟨a, dx, v1, v2, v3, h1, h2, h3, h4, h5⟩ := h
  exact ⟨a, dx, v1, v2, v3, h1, e _ _ h2, h3.sm e, h4.sm e, h5.sm e⟩
end
theorem rd_gtup {K : PySem.W.Frag} {n : Nat} {t : TGs} {a : Addr} {xs : List V} {σ : L2.St} {H : Hp} {R : L2.St → Hp → Prop} (h : SqT K H a xs) (hn : xs.length = n) (q : t xs σ H R) : gTup K n t (.ref a) σ H R := ⟨a, xs, rfl, h, hn, q⟩
theorem rd_gcons {t : TG} {u : TGs} {v : V} {r : List V} {σ : L2.St} {H : Hp} {R : L2.St → Hp → Prop} (q : t v σ H fun σ' H' => u r σ' H' R) : gCons t u (v :: r) σ H R := ⟨v, r, rfl, q⟩
theorem rd_gnil {σ : L2.St} {H : Hp} {R : L2.St → Hp → Prop} (q : R σ H) : gNil [] σ H R := ⟨rfl, q⟩
section
variable {P : Program} {w : World} {K : PySem.W.Frag} {mg : Str → Option Value} {base : Heap} {A : CA}
def spAreNames (K : PySem.W.Frag) : Sp := fun vs H Q _ => ∃ (v : V) (xs : List Str) (a b : Int), vs = [v, .int a, .int b] ∧ ONs K H xs v ∧ a ≤ xs.length ∧ xs.length ≤ b ∧ xs.length ≤ 1000 ∧ (∀ x ∈ xs, nameOk x = true) ∧ Rt H Q (.bl true)
theorem ok_are_names (T : Txt K mg A) : Cal P w K mg base CX0 "are_names" 2 ["thing", "least", "most"] (spAreNames K) := by
  have c_is_name := ok_is_name (P := P) (w := w) (base := base) T
  refine T.d_are_names.ok sc_are_names (fun vs H Q E h => ?_) (fun f cdv Ar outer s H vs Q E hr h => ?_)
  · obtain ⟨v, xs, a, b, rfl, _⟩ := h
    rfl
  obtain ⟨v, xs, a, b, rfl, ⟨p, rfl, hS⟩, ha, hb, hz, hn, q⟩ := h
  refine ⟨_, (pss_one (ps_ret (pe_and (pe_callB (k_isi K) (by rfl) T.b_isinstance bt_isinstance (pa_cons (pv 0) (pa_cons (pe_bltn (v := .ty "tuple") (by rfl) T.b_tuple bt_tuple rfl) pa_nil))) (pe_and (pe_chain op_le op_le (pv 1) (pe_callB (k_len K) (by rfl) T.b_len bt_len (pa_cons (pv 0) pa_nil)) (pv 2)) (pe_one (pe_callB (k_all K rfl) (by rfl) T.b_all bt_all (pa_cons (pe_lc (own := [("name", 3)]) rfl sc_are_names.nd (k_any K (pv 0)) (blkOk_by (N := N_are_names) (sc := defScope s_are_names) (by decide +kernel)) (fun _ _ _ _ _ => (pg_name (i := 3) sc_are_names.nd rfl (by first | exact Or.inl rfl | exact Or.inr rfl))) (fun _ _ _ _ _ => pts_nil) (fun _ _ _ _ _ => (pe_cal c_is_name hr (by omega) pass0 (pa_cons (pv 3) pa_nil)))) pa_nil))))))), ?_⟩
  have hl : (xs.map V.str).length = xs.length := List.length_map _
  have ha' : a ≤ ((xs.map V.str).length : Int) := by rw [hl]; exact ha
  have hb' : ((xs.map V.str).length : Int) ≤ b := by rw [hl]; exact hb
  walk_at "rt"
  refine rd_lc_t ?_
  walk_at "rt"
  refine ⟨_, rfl, ⟨_, hS⟩, fun D nD => ?_⟩
  refine lc_map walk_tup (fun j y _ => y = .bl true) nD (by omega) (fun _ _ _ _ _ _ h => h) (fun H' e => seqT_sm e hS) ?_ ?_
  · rintro j y H2 H3 F Z hi e2 ⟨rfl, hx⟩ hF
    refine ⟨Same.refl _, ?_⟩
    rw [List.getElem?_map] at hx
    obtain ⟨x, hx1, rfl⟩ := Option.map_eq_some_iff.mp hx
    walk_at "rt"
    refine ⟨rfl, ?_⟩
    walk_at "rt"
    exact ⟨x, rfl, hn x (List.mem_of_getElem? hx1), fun H4 e4 => hF _ _ e4 rfl⟩
  · intro ys H2 e2 hD hly hy
    walk_at "rt"
    refine rd_all hD hy ?_
    exact q _ e2
/-! ### count_of -/
def Rw.under (r : Rw) : Nat := (r.innerR.map cntRs).sum
theorem Rw.cnt_below (r : Rw) : r.cnt = 1 + r.under := by
  cases r <;> simp [Rw.cnt, Rw.under, Rw.innerR]
theorem cntRs_below (rs : List Rw) : cntRs rs = rs.length + (rs.map Rw.under).sum := by
  induction rs with
  | nil => rfl
  | cons r rs ih =>
    show r.cnt + cntRs rs = _
    rw [ih, r.cnt_below, List.length_cons, List.map_cons, List.sum_cons]
    omega
theorem sum_take_one {α : Type} {f : α → Nat} {l : List α} {j : Nat} {a : α} (h : l[j]? = some a) : ((l.take (j + 1)).map f).sum = ((l.take j).map f).sum + f a := by
  rw [take_one h, List.map_append, List.sum_append]
  simp
theorem Rw.inner_dp {r : Rw} {l : List Rw} (h : l ∈ r.innerR) : dpRs l < r.dp := by
  cases r with
  | blk k t y n a =>
    have e : l = y ∨ l = n := by simpa [Rw.innerR] using h
    show dpRs l < 1 + max (dpRs y) (dpRs n)
    rcases e with e | e <;> subst e <;> omega
  | held b e r f =>
    have e : l = r := by simpa [Rw.innerR] using h
    subst e
    show dpRs l < 1 + dpRs l
    omega
  | _ => simp [Rw.innerR] at h
theorem Rw.inner_cnt {r : Rw} {l : List Rw} (h : l ∈ r.innerR) : cntRs l < r.cnt := by
  rw [r.cnt_below]
  have := sum_mem (List.mem_map.mpr ⟨l, h, rfl⟩ : cntRs l ∈ r.innerR.map cntRs)
  show cntRs l < 1 + (r.innerR.map cntRs).sum
  omega
theorem paired_get {α β : Type} {R : α → β → Prop} : ∀ {xs : List α} {ys : List β} {j : Nat} {y : β}, Paired R xs ys → ys[j]? = some y → ∃ x, xs[j]? = some x ∧ R x y
  | _, _, _, _, .nil, e => by simp at e
  | _, _, 0, _, .cons h _, e => by
    cases Option.some.inj e
    exact ⟨_, rfl, h⟩
  | _, _, j + 1, _, .cons _ t, e => by
    obtain ⟨x, h1, h2⟩ := paired_get (j := j) t (by simpa using e)
    exact ⟨x, by simpa using h1, h2⟩
def spCount (A : CA) (n : Nat) : Sp := fun vs H Q _ => ∃ (v : V) (rs : List Rw) (d : Int), vs = [v, .int d] ∧ OT A H rs v ∧ dpRs rs < n ∧ 1 ≤ d ∧ d + n ≤ 8 ∧ cntRs rs ≤ 1000 ∧ Rt H Q (.int (cntRs rs))
theorem ok_count_of (T : Txt K mg A) : ∀ n : Nat, Cal P w K mg base CX0 "count_of" (n + 2) ["rows", "deep"] (spCount A n)
  | 0 => T.d_count_of.never fun vs H Q E h => by
    obtain ⟨v, rs, d, _, _, hn, _⟩ := h
    omega
  | n + 1 => by
    have c_count_of := ok_count_of T n
    have m_inner := ok_rinner (P := P) (w := w) (base := base) T
    refine T.d_count_of.ok sc_count_of (fun vs H Q E h => ?_) (fun f cdv Ar outer s H vs Q E hr h => ?_)
    · obtain ⟨v, rs, d, rfl, _⟩ := h
      rfl
    obtain ⟨v, rs, d, rfl, ⟨p, us, rfl, hp, hu⟩, hn, hd1, hd2, hc, q⟩ := h
    refine ⟨_, (pss_cons (ps_if (PW.pt (pw_and (pt_cmpR op_gt (pv 1) (pe_gint T.i_MOST_DEEP_programs) (nomark _)) (pw_and1 (pt_cmpR op_gt (pe_callB (k_len K) (by rfl) T.b_len bt_len (pa_cons (pv 0) pa_nil)) pe_int (nomark _))))) (pss_one (ps_ret (pe_op (k_plus K) (pe_gint T.i_MOST_ROWS) pe_int))) pss_nil)
    (pss_cons (ps_set (i := 2) sc_count_of.nd rfl (by first | exact Or.inl rfl | exact Or.inr rfl) (pe_callB (k_len K) (by rfl) T.b_len bt_len (pa_cons (pv 0) pa_nil)))
    (pss_cons (ps_for PassesOwn.never rfl (k_any K (pv 0)) (pg_name (i := 3) sc_count_of.nd rfl (by first | exact Or.inl rfl | exact Or.inr rfl)) (pss_one (ps_for PassesOwn.never rfl (k_any K (pe_dyn m_inner hr (by omega) pass0 (pv 3))) (pg_name (i := 4) sc_count_of.nd rfl (by first | exact Or.inl rfl | exact Or.inr rfl)) (pss_one (ps_aug (i := 2) sc_count_of.nd rfl (Or.inl rfl) (pe_cal c_count_of hr (by omega) pass0 (pa_cons (pv 4) (pa_cons (pe_op (k_plus K) (pv 1) pe_int) pa_nil))) pip_add)))))
    (pss_one (ps_ret (pv 2)))))), ?_⟩
    have hS := SqT.of (K := K) hp
    have hl := hu.len
    have hlc := len_cnt rs
    by_cases h6 : 6 < d
    · have hrs : rs = [] := by
        cases rs with
        | nil => rfl
        | cons r rs =>
          have h1 : r.dp ≤ dpRs (r :: rs) := dpRs_all.mp (Nat.le_refl _) r (List.mem_cons_self ..)
          have h2 := r.dp_pos
          omega
      subst hrs
      have hu0 : us = [] := hu
      subst hu0
      walk_at "rt"
      refine rd_for_t ?_
      walk_at "rt"
      refine ⟨_, rfl, ⟨_, hS⟩, ?_⟩
      refine for_it walk_tup (fun _ σ' H' => σ' = [some (.ref p), some (.int d), some (.int 0), none, none] ∧ Same H H') ⟨rfl, Same.refl _⟩ (fun _ _ _ _ h => seqT_sm h.2 hS) (fun j y σ' H2 H3 hj _ _ => by cases hj) ?_
      rintro σ' H2 ⟨rfl, e2⟩
      walk_at "rt"
      exact q _ e2
    · walk_at "rt"
      refine rd_for_t ?_
      walk_at "rt"
      refine ⟨_, rfl, ⟨_, hS⟩, ?_⟩
      refine for_it walk_tup (fun i σ' H' => (∃ o1 o2, σ' = [some (.ref p), some (.int d), some (.int ((us.length + ((rs.take i).map Rw.under).sum : Nat) : Int)), o1, o2]) ∧ Same H H') ⟨⟨none, none, by simp [L2.start, N_count_of]⟩, Same.refl _⟩ (fun _ _ _ _ h => seqT_sm h.2 hS) ?_ ?_
      · rintro j y σ' H2 H3 hj ⟨⟨o1, o2, rfl⟩, e2⟩ ⟨rfl, hx⟩
        obtain ⟨r, h1, h2⟩ := hu.get hx
        have h3 := h2.sm e2
        have hm := List.mem_of_getElem? h1
        have hdr : r.dp ≤ dpRs rs := dpRs_all.mp (Nat.le_refl _) r hm
        walk_at "rt"
        refine rd_for_l ?_
        walk_at "rt"
        refine rd_dynR h3 (by decide +kernel) ?_
        refine ⟨_, r, rfl, h3, rfl, fun p1 us1 H4 n4 e4 hp1 hO1 => ?_⟩
        have hl1 := Paired.length hO1
        refine ⟨_, rfl, ⟨_, SqL.of hp1⟩, ?_⟩
        refine for_it walk_list (fun i σ' H' => (∃ o2, σ' = [some (.ref p), some (.int d), some (.int (((us.length + ((rs.take j).map Rw.under).sum + ((r.innerR.take i).map cntRs).sum) : Nat) : Int)), some y, o2]) ∧ Same H4 H') ⟨⟨o2, by simp⟩, Same.refl _⟩ (fun _ _ _ _ h => h.2.seq (SqL.of hp1)) ?_ ?_
        · rintro j1 y1 σ1 H5 H6 hj1 ⟨⟨o2', rfl⟩, e5⟩ ⟨rfl, hx1⟩
          obtain ⟨l, g1, g2⟩ := paired_get hO1 hx1
          have hm1 := List.mem_of_getElem? g1
          have hd5 := Rw.inner_dp hm1
          have hc5 := Rw.inner_cnt hm1
          have hc6 := cnt_mem hm
          walk_at "rt"
          refine ⟨_, l, _, rfl, g2.sm e5, by omega, by omega, by omega, by omega, fun H7 e7 => ?_⟩
          walk_at "rt"
          refine ⟨⟨some y1, ?_⟩, e5.trans e7⟩
          rw [sum_take_one g1]
          have z : ∀ a b c : Nat, ((a + b : Nat) : Int) + ((c : Nat) : Int) = ((a + (b + c) : Nat) : Int) := by
            intro a b c
            omega
          show [some (V.ref p), some (V.int d), some (V.int _), some y, some y1] = _
          rw [z]
        · rintro σ1 H5 ⟨⟨o2', rfl⟩, e5⟩
          refine ⟨⟨some y, o2', ?_⟩, (e2.trans e4).trans e5⟩
          rw [sum_take_one h1, ← hl1, List.take_length, Nat.add_assoc]
          rfl
      · rintro σ' H2 ⟨⟨o1, o2, rfl⟩, e2⟩
        walk_at "rt"
        rw [hl, List.take_length, ← cntRs_below]
        exact q _ e2
def spIsRt (A : CA) : Sp := fun vs H Q _ => ∃ (v : V) (p : Str × List Rw), vs = [v] ∧ ORt A H p v ∧ nameOk p.1 = true ∧ p.2.length ≤ 1000 ∧ Rt H Q (.bl true)
theorem ok_is_routine (T : Txt K mg A) : Cal P w K mg base CX0 "is_routine" 2 ["thing"] (spIsRt A) := by
  have c_is_name := ok_is_name (P := P) (w := w) (base := base) T
  refine T.d_is_routine.ok sc_is_routine (fun vs H Q E h => ?_) (fun f cdv Ar outer s H vs Q E hr h => ?_)
  · obtain ⟨v, p, rfl, _⟩ := h
    rfl
  obtain ⟨v, p, rfl, ⟨t, v2, rfl, ht, p2, us, rfl, hp2, hu⟩, hn, hz, q⟩ := h
  refine ⟨_, (pss_cons (ps_if (PW.pt (pw_or (pt_not (pt_val (pe_callB (k_isi K) (by rfl) T.b_isinstance bt_isinstance (pa_cons (pv 0) (pa_cons (pe_bltn (v := .ty "tuple") (by rfl) T.b_tuple bt_tuple rfl) pa_nil))))) (pw_or (pt_cmpR (k_neq K hr.units) (pe_callB (k_len K) (by rfl) T.b_len bt_len (pa_cons (pv 0) pa_nil)) pe_int (nomark _)) (pw_or1 (pt_not (pt_val (pe_cal c_is_name hr (by omega) pass0 (pa_cons (pe_ix (k_ix K) (pv 0) pe_int (fun _ _ => rfl)) pa_nil)))))))) (pss_one (ps_ret pe_bl)) pss_nil)
    (pss_one (ps_ret (pe_and (pe_callB (k_isi K) (by rfl) T.b_isinstance bt_isinstance (pa_cons (pe_ix (k_ix K) (pv 0) pe_int (fun _ _ => rfl)) (pa_cons (pe_bltn (v := .ty "tuple") (by rfl) T.b_tuple bt_tuple rfl) pa_nil))) (pe_one (pe_callB (k_all K rfl) (by rfl) T.b_all bt_all (pa_cons (pe_lc (own := [("row", 1)]) rfl sc_is_routine.nd (k_any K (pe_ix (k_ix K) (pv 0) pe_int (fun _ _ => rfl))) (blkOk_by (N := N_is_routine) (sc := defScope s_is_routine) (by decide +kernel)) (fun _ _ _ _ _ => (pg_name (i := 1) sc_is_routine.nd rfl (by first | exact Or.inl rfl | exact Or.inr rfl))) (fun _ _ _ _ _ => pts_nil) (fun _ _ _ _ _ => (pe_callB (k_isi K) (by rfl) T.b_isinstance bt_isinstance (pa_cons (pv 1) (pa_cons (pe_gref T.g_Row) pa_nil))))) pa_nil))))))), ?_⟩
  have hS := SqT.of (K := K) ht
  walk_at "rt"
  refine ⟨_, rfl, hn, fun H1 e1 => ?_⟩
  have hS := seqT_sm e1 hS
  have hS2 := seqT_sm e1 (SqT.of (K := K) hp2)
  have hl := hu.len
  walk_at "rt"
  refine rd_lc_t ?_
  walk_at "rt"
  refine ⟨_, rfl, ⟨_, hS2⟩, fun D nD => ?_⟩
  refine lc_map walk_tup (fun j y _ => y = .bl true) nD (by omega) (fun _ _ _ _ _ _ h => h) (fun H' e => seqT_sm e hS2) ?_ ?_
  · rintro j y H2 H3 F Z hi e2 ⟨rfl, hx⟩ hF
    refine ⟨Same.refl _, ?_⟩
    obtain ⟨r, h1, h2⟩ := hu.get hx
    walk_at "rt"
    refine ⟨rfl, ?_⟩
    walk_at "rt"
    refine rd_isi (.own _) ((h2.sm (e1.trans e2)).tyx T) (T.isR _) ?_
    exact hF _ _ (Same.refl _) rfl
  · intro ys H2 e2 hD hly hy
    walk_at "rt"
    refine rd_all hD hy ?_
    exact q _ (e1.trans e2)
def prePg (K : PySem.W.Frag) (A : CA) : List V → Hp → Prop := fun as H => ∃ (v1 v2 v3 : V) (p : Pg), as = [v1, v2, v3] ∧ ONs K H p.bx v1 ∧ ONs K H p.st v2 ∧ ORts A H p.rt v3 ∧ p.wf
theorem int_rep : ∀ {ys : List V} {ns : List Int}, ys.length = ns.length → (∀ (j : Nat) y, ys[j]? = some y → ∃ i, ns[j]? = some i ∧ y = .int i) → ys = ns.map V.int
  | [], [], _, _ => rfl
  | [], _ :: _, h, _ => by cases h
  | _ :: _, [], h, _ => by cases h
  | y :: r, n :: m, h, g => by
    obtain ⟨i, h1, h2⟩ := g 0 y rfl
    cases Option.some.inj h1
    rw [h2, List.map_cons, ← int_rep (ys := r) (ns := m) (by simpa using h) fun j z hz => g (j + 1) z hz]
theorem rd_sum {K : PySem.W.Frag} {a : Addr} {ys : List V} {ns : List Int} {H : Hp} {Q : VK} (h : H a = some (.lst ys)) (e : ys = ns.map V.int) (q : Q (.int ns.sum) H) : rSum K [.ref a] H Q := ⟨a, ns, rfl, by rw [← e]; exact SqL.of h, q⟩
theorem sum_cast (l : List Nat) : ((l.map fun n : Nat => (n : Int)).sum) = (l.sum : Int) := by
  induction l with
  | nil => rfl
  | cons a r ih => rw [List.map_cons, List.sum_cons, List.sum_cons, ih]; omega
theorem ok_mk_Program (T : Txt K mg A) : Mkr P w K mg base CX0 "Program" A.Program 10 ["self", "boxes", "stacks", "routines"] (spInit A.Program (prePg K A) fun as => [("boxes", as.getD 0 .non), ("stacks", as.getD 1 .non), ("routines", as.getD 2 .non)]) := by
  have c_are_names := ok_are_names (P := P) (w := w) (base := base) T
  have c_is_routine := ok_is_routine (P := P) (w := w) (base := base) T
  have c_count_of := ok_count_of (P := P) (w := w) (base := base) T 7
  refine T.k_Program.ok sc_Program_init (initLen (n := 3) fun as _ ⟨_, _, _, _, h, _⟩ => by rw [h] <;> rfl) (fun f cdv Ar outer s H vs Q E hr h => ?_)
  obtain ⟨x, dx, as, rfl, hx, ⟨v1, v2, v3, p, rfl, h1, h2, h3, hw⟩, q⟩ := h
  refine ⟨_, (pss_cons (ps_if (PW.pt (pw_or (pt_not (pt_val (pe_cal c_are_names hr (by omega) pass0 (pa_cons (pv 1) (pa_cons pe_int (pa_cons (pe_gint T.i_MOST_BOXES) pa_nil)))))) (pw_or1 (pt_not (pt_val (pe_cal c_are_names hr (by omega) pass0 (pa_cons (pv 2) (pa_cons pe_int (pa_cons (pe_gint T.i_MOST_STACKS) pa_nil))))))))) (pss_one ps_never) pss_nil)
    (pss_cons (ps_if (PW.pt (pw_or (pt_not (pt_val (pe_callB (k_isi K) (by rfl) T.b_isinstance bt_isinstance (pa_cons (pv 3) (pa_cons (pe_bltn (v := .ty "tuple") (by rfl) T.b_tuple bt_tuple rfl) pa_nil))))) (pw_or1 (pt_not (pt_chain op_le op_le pe_int (pe_callB (k_len K) (by rfl) T.b_len bt_len (pa_cons (pv 3) pa_nil)) (pe_gint T.i_MOST_ROUTINES)))))) (pss_one ps_never) pss_nil)
    (pss_cons (ps_if (pt_not (pt_val (pe_callB (k_all K rfl) (by rfl) T.b_all bt_all (pa_cons (pe_lc (own := [("routine", 4)]) rfl sc_Program_init.nd (k_any K (pv 3)) (blkOk_by (N := N_Program_init) (sc := defScope s_Program_init) (by decide +kernel)) (fun _ _ _ _ _ => (pg_name (i := 4) sc_Program_init.nd rfl (by first | exact Or.inl rfl | exact Or.inr rfl))) (fun _ _ _ _ _ => pts_nil) (fun _ _ _ _ _ => (pe_cal c_is_routine hr (by omega) pass0 (pa_cons (pv 4) pa_nil)))) pa_nil)))) (pss_one ps_never) pss_nil)
    (pss_cons (ps_if (pt_cmpR op_gt (pe_callB (k_sum K rfl) (by rfl) T.b_sum bt_sum (pa_cons (pe_lc (own := [("name", 5), ("rows", 6)]) rfl sc_Program_init.nd (k_any K (pv 3)) (blkOk_by (N := N_Program_init) (sc := defScope s_Program_init) (by decide +kernel)) (fun _ _ _ _ _ => (k_gtup K (n := 2) rfl (pgs_cons (pg_name (i := 5) sc_Program_init.nd rfl (by first | exact Or.inl rfl | exact Or.inr rfl)) (pgs_cons (pg_name (i := 6) sc_Program_init.nd rfl (by first | exact Or.inl rfl | exact Or.inr rfl)) pgs_nil)))) (fun _ _ _ _ _ => pts_nil) (fun _ _ _ _ _ => (pe_cal c_count_of hr (by omega) pass0 (pa_cons (pv 6) (pa_cons pe_int pa_nil))))) pa_nil)) (pe_gint T.i_MOST_ROWS) (nomark _)) (pss_one ps_never) pss_nil)
    (pss_cons (k_sfld K (pv 0) (pv 1) rfl)
    (pss_cons (k_sfld K (pv 0) (pv 2) rfl)
    (pss_one (k_sfld K (pv 0) (pv 3) rfl)))))))), ?_⟩
  have b1 := hw.b1
  have b2 := hw.b2
  have s2 := hw.s2
  have r1 := hw.r1
  have r2 := hw.r2
  walk_at "rt"
  refine ⟨_, p.bx, _, _, rfl, h1, by omega, by omega, by omega, hw.bn, fun H1 e1 => ?_⟩
  walk_at "rt"
  refine ⟨_, p.st, _, _, rfl, h2.sm e1, by omega, by omega, by omega, hw.sn, fun H2 e2 => ?_⟩
  have e12 := e1.trans e2
  obtain ⟨t, us, rfl, ht, hl, hg⟩ := h3.sm e12
  have hS := SqT.of (K := K) ht
  walk_at "rt"
  refine rd_lc_t ?_
  walk_at "rt"
  refine ⟨_, rfl, ⟨_, hS⟩, fun D nD => ?_⟩
  refine lc_map walk_tup (fun j y _ => y = .bl true) nD (by omega) (fun _ _ _ _ _ _ h => h) (fun H' e => seqT_sm e hS) ?_ ?_
  · rintro j y H3 H4 F Z hi e3 ⟨rfl, hx⟩ hF
    refine ⟨Same.refl _, ?_⟩
    obtain ⟨pr, g1, g2⟩ := hg j y hx
    have hm := List.mem_of_getElem? g1
    have hc1 := hw.cnt hm
    have hc2 := len_cnt pr.2
    walk_at "rt"
    refine ⟨rfl, ?_⟩
    walk_at "rt"
    exact ⟨_, pr, rfl, g2.car (.sm e3), hw.rn pr hm, by omega, fun H5 e5 => hF _ _ e5 rfl⟩
  · intro ys H3 e3 hD hly hy
    walk_at "rt"
    refine rd_all hD hy ?_
    walk_at "rt"
    have hS := seqT_sm e3 hS
    refine rd_lc_t ?_
    walk_at "rt"
    refine ⟨_, rfl, ⟨_, hS⟩, fun D2 nD2 => ?_⟩
    refine lc_map walk_tup (fun j y _ => ∃ i, ((p.rt.map fun z => cntRs z.2).map fun n : Nat => (n : Int))[j]? = some i ∧ y = .int i) nD2 (by omega) (fun _ _ _ _ _ _ h => h) (fun H' e => seqT_sm e hS) ?_ ?_
    · rintro j y H4 H5 F Z hi e4 ⟨rfl, hx⟩ hF
      refine ⟨Same.refl _, ?_⟩
      obtain ⟨pr, g1, t4, v4, rfl, g3, g4⟩ := hg j y hx
      have hm := List.mem_of_getElem? g1
      have hc1 := hw.cnt hm
      have hd1 := hw.rd pr hm
      have e34 := e3.trans e4
      refine rd_gtup (SqT.of (e34 _ _ g3)) rfl ?_
      refine rd_gcons ?_
      refine rd_name ?_
      refine rd_gcons ?_
      refine rd_name ?_
      refine rd_gnil ?_
      refine ⟨rfl, ?_⟩
      walk_at "rt"
      refine ⟨_, pr.2, _, rfl, g4.sm e34, by omega, by omega, by omega, by omega, fun H6 e6 => hF _ _ e6 ⟨_, ?_, rfl⟩⟩
      rw [List.getElem?_map, List.getElem?_map, g1]
      rfl
    · intro ys2 H4 e4 hD2 hly2 hy2
      walk_at "rt"
      refine rd_sum hD2 (int_rep (by rw [List.length_map, List.length_map, hly2, hl]) hy2) ?_
      rw [sum_cast]
      have rc := hw.rc
      have hle : ¬ ((80 : Int) < (((p.rt.map fun z => cntRs z.2).sum : Nat) : Int)) := by omega
      walk_at "rt"
      have e14 := (e12.trans e3).trans e4
      refine rd_store (e14 _ _ hx) T.ty_Program.cl T.n_Program_boxes (by simp) fun H5 k5 h5 => ?_
      walk_at "rt"
      refine rd_store h5 T.ty_Program.cl T.n_Program_stacks (by show _ < 1000; exact (by decide : 1 < 1000)) fun H6 k6 h6 => ?_
      walk_at "rt"
      refine rd_store h6 T.ty_Program.cl T.n_Program_routines (by show _ < 1000; exact (by decide : 2 < 1000)) fun H7 k7 h7 => ?_
      exact q H7 h7 ((sm_kp e14).trans (k5.trans (k6.trans k7)))
def spPTold (K : PySem.W.Frag) (A : CA) : Sp := fun vs H Q _ => ∃ (v : V) (p : Pg), vs = [v] ∧ OP K A H p v ∧ p.wf ∧ ∀ (x : V) (H' : Hp), Same H H' → Dp K H' x p.told → Q x H'
theorem ONs.dp {H : Hp} {xs : List Str} {v : V} (h : ONs K H xs v) : Dp K H v (.tuple (xs.map PyData.str)) := by
  obtain ⟨p, rfl, hS⟩ := h
  refine .tup hS ?_
  clear hS
  induction xs with
  | nil => exact .nil
  | cons x r ih => exact .cons (.str _) ih
theorem dpA_of {H : Hp} : ∀ {ds : List PyData} {xs : List V}, xs.length = ds.length → (∀ (j : Nat) x, xs[j]? = some x → ∃ d, ds[j]? = some d ∧ Dp K H x d) → DpAll K H xs ds
  | [], [], _, _ => .nil
  | [], _ :: _, h, _ => by cases h
  | _ :: _, [], h, _ => by cases h
  | d :: ds, x :: xs, h, g => by
    obtain ⟨d', h1, h2⟩ := g 0 x rfl
    cases Option.some.inj h1
    exact .cons h2 (dpA_of (by simpa using h) fun j z hz => g (j + 1) z hz)
theorem ok_Program_told (T : Txt K mg A) : Mth P w K mg base CX0 A.Program "told" 30 ["self"] (spPTold K A) := by
  have m_told := ok_rtold (P := P) (w := w) (base := base) T 6
  refine T.m_Program_told.ok sc_Program_told (fun vs H Q E h => ?_) (fun f cdv Ar outer s H vs Q E hr h => ?_)
  · obtain ⟨v, p, rfl, _⟩ := h
    rfl
  obtain ⟨v, p, rfl, hO, hw, q⟩ := h
  have hO0 := hO
  obtain ⟨a, dx, v1, v2, v3, rfl, ha, h1, h2, h3⟩ := hO
  refine ⟨_, (pss_cons (ps_setLc (i := 1) (own := [("name", 2), ("rows", 3)]) rfl sc_Program_told.nd rfl rfl (sw_true rfl rfl rfl (by decide +kernel)) (k_any K (k_fld K (pv 0) rfl)) (blkOk_by (N := N_Program_told) (sc := defScope s_Program_told) (by decide +kernel)) (fun _ _ _ _ _ => (k_gtup K (n := 2) rfl (pgs_cons (pg_name (i := 2) sc_Program_told.nd rfl (by first | exact Or.inl rfl | exact Or.inr rfl)) (pgs_cons (pg_name (i := 3) sc_Program_told.nd rfl (by first | exact Or.inl rfl | exact Or.inr rfl)) pgs_nil)))) (fun _ _ _ _ _ => pts_nil) (fun _ _ _ _ _ => (pe_tup (pa_cons (pv 2) (pa_cons (pe_callTy (k_tup K) (by rfl) T.b_tuple bt_tuple (pa_cons (pe_lc (own := [("row", 4)]) rfl sc_Program_told.nd (k_any K (pv 3)) (blkOk_by (N := N_Program_told) (sc := relS (lcScope (asgVal ((defBody s_Program_told).getD 0 (.Pass ⟨0, 0, 0, 0⟩)))) (defScope s_Program_told)) (by decide +kernel)) (fun _ _ _ _ _ => (pg_name (i := 4) sc_Program_told.nd rfl (by first | exact Or.inl rfl | exact Or.inr rfl))) (fun _ _ _ _ _ => pts_nil) (fun _ _ _ _ _ => (pe_dyn m_told hr (by omega) pass0 (pv 4)))) pa_nil)) pa_nil)))))
    (pss_one (ps_ret (pe_tup (pa_cons (k_fld K (pv 0) rfl) (pa_cons (k_fld K (pv 0) rfl) (pa_cons (pe_callTy (k_tup K) (by rfl) T.b_tuple bt_tuple (pa_cons (pv 1) pa_nil)) pa_nil))))))), ?_⟩
  walk_at "rt"
  refine rd_lc_t ?_
  walk_at "rt"
  refine ⟨a, _, dx, _, _, rfl, ha, T.ty_Program.cl, T.n_Program_routines, rfl, ?_⟩
  walk_at "rt"
  obtain ⟨t, us, rfl, ht, hl, hg⟩ := h3
  have r2 := hw.r2
  have hS := SqT.of (K := K) ht
  refine ⟨_, rfl, ⟨_, hS⟩, fun D nD => ?_⟩
  refine lc_map walk_tup (fun j y H => ∃ pr, p.rt[j]? = some pr ∧ Dp K H y (Pg.toldR pr)) nD (by omega) (fun j y H1 H2 k nI ⟨pr, g1, g2⟩ => ⟨pr, g1, dp_kp k _ _ ?nl g2⟩) (fun H' e => seqT_sm e hS) ?_ ?_
  · show noL (.tuple [.str pr.1, .tuple (toldRs pr.2)]) = true
    have z := noLs_rows pr.2
    simp [noL, noLs, z]
  · rintro j y H3 H4 F Z hi e3 ⟨rfl, hx⟩ hF
    refine ⟨Same.refl _, ?_⟩
    obtain ⟨pr, g1, t4, v4, rfl, g3, p4, us4, rfl, hp4, hu4⟩ := hg j y hx
    have hm := List.mem_of_getElem? g1
    have hc1 := hw.cnt hm
    have hd1 := hw.rd pr hm
    have hl4 := hu4.len
    have hc4 := len_cnt pr.2
    refine rd_gtup (SqT.of (e3 _ _ g3)) rfl ?_
    refine rd_gcons ?_
    refine rd_name ?_
    refine rd_gcons ?_
    refine rd_name ?_
    refine rd_gnil ?_
    refine ⟨rfl, ?_⟩
    walk_at "rt"
    have hS4 := SqT.of (K := K) (e3 _ _ hp4)
    refine rd_lc_t ?_
    walk_at "rt"
    refine ⟨_, rfl, ⟨_, hS4⟩, fun D2 nD2 => ?_⟩
    refine lc_map walk_tup (fun j y H => ∃ d, (toldRs pr.2)[j]? = some d ∧ noL d = true ∧ Dp K H y d) nD2 (by omega) (fun j y H1 H2 k nI ⟨d, g1, g2, g3⟩ => ⟨d, g1, g2, dp_kp k _ _ g2 g3⟩) (fun H' e => seqT_sm e hS4) ?_ ?_
    · rintro j2 y2 H5 H6 F2 Z2 hi2 e5 ⟨rfl, hx2⟩ hF2
      refine ⟨Same.refl _, ?_⟩
      obtain ⟨r, f1, f2⟩ := hu4.get hx2
      have hm2 := List.mem_of_getElem? f1
      have f3 := f2.sm (e3.trans e5)
      walk_at "rt"
      refine ⟨rfl, ?_⟩
      walk_at "rt"
      refine rd_dynR f3 (by decide +kernel) ?_
      exact ⟨_, r, rfl, f3, rfl, Nat.le_trans (dpRs_all.mp (Nat.le_refl _) r hm2) hd1, Nat.le_trans (cnt_mem hm2) (by omega), wfRs_all.mp (hw.rw pr hm) r hm2, fun x H7 e7 d7 => hF2 _ _ e7 ⟨r.told, by rw [toldRs_map, List.getElem?_map, f1] <;> rfl, noL_row r, d7⟩⟩
    · intro ys H5 e5 hD2 hly hy
      walk_at "rt"
      refine rd_tupOf (SqL.of hD2) fun p6 H6 np6 e6 hp6 => ?_
      walk_at "rt"
      refine rd_new (by simp) fun p7 H7 np7 e7 hp7 => ?_
      refine hF _ _ ((e5.trans e6).trans e7) ⟨pr, g1, .tup (SqT.of hp7) (.cons (.str _) (.cons (.tup (SqT.of (e7 _ _ hp6)) (dpA_of (by rw [toldRs_map, List.length_map]; omega) fun j z hz => ?_)) .nil))⟩
      obtain ⟨d, k1, _, k3⟩ := hy j z hz
      exact ⟨d, k1, dp_sm (e6.trans e7) _ _ k3⟩
  · intro ys H2 e2 hD hly hy
    walk_at "rt"
    refine ⟨a, _, dx, _, _, rfl, e2 _ _ ha, T.ty_Program.cl, T.n_Program_boxes, rfl, ?_⟩
    walk_at "rt"
    refine ⟨a, _, dx, _, _, rfl, e2 _ _ ha, T.ty_Program.cl, T.n_Program_stacks, rfl, ?_⟩
    walk_at "rt"
    refine rd_tupOf (SqL.of hD) fun p4 H4 np4 e4 hp4 => ?_
    walk_at "rt"
    refine rd_new (by simp) fun p5 H5 np5 e5 hp5 => ?_
    have e45 := e4.trans e5
    have e25 := e2.trans e45
    refine q _ H5 e25 (.tup (SqT.of hp5) (.cons (h1.sm e25).dp (.cons (h2.sm e25).dp (.cons (.tup (SqT.of (e5 _ _ hp4)) (dpA_of (by rw [List.length_map]; omega) fun j z hz => ?_)) .nil))))
    obtain ⟨pr, k1, k2⟩ := hy j z hz
    exact ⟨_, by rw [List.getElem?_map, k1] <;> rfl, dp_sm e45 _ _ k2⟩
def spPMir (K : PySem.W.Frag) (A : CA) : Sp := fun vs H Q _ => ∃ (v : V) (p : Pg), vs = [v] ∧ OP K A H p v ∧ p.wf ∧ ∀ (x : V) (H' : Hp), Same H H' → OP K A H' p.mir x → Q x H'
theorem rd_bmL {K : PySem.W.Frag} {r : V → List V → Hp → VK → Prop} {i : Nat} {t : TA} {σ : L2.St} {H : Hp} {Q : VK} {a : Addr} {xs : List V} (hv : σ[i]? = some (some (.ref a))) (h : SqL K H a xs) (q : t σ H fun vs H2 => r (.ref a) vs H2 Q) : tBM K "list" r (tVar i) t σ H Q := ⟨.ref a, hv, .inl ⟨rfl, xs, h⟩, q⟩
theorem rd_append {l : Addr} {xs : List V} {y : V} {H : Hp} {Q : VK} (h : H l = some (.lst xs)) (hz : xs.length < 1000) (q : Q .non (upd H l (.lst (xs ++ [y])))) : rAppend (.ref l) [y] H Q := ⟨l, xs, y, rfl, rfl, h, small1000 (Nat.le_of_lt hz), q⟩
theorem ok_Program_mirror (T : Txt K mg A) : Mth P w K mg base CX0 A.Program "mirror" 30 ["self"] (spPMir K A) := by
  have m_mirror := ok_rmir (P := P) (w := w) (base := base) T 6
  have k_Program := ok_mk_Program (P := P) (w := w) (base := base) T
  refine T.m_Program_mirror.ok sc_Program_mirror (fun vs H Q E h => ?_) (fun f cdv Ar outer s H vs Q E hr h => ?_)
  · obtain ⟨v, p, rfl, _⟩ := h
    rfl
  obtain ⟨v, p, rfl, hO, hw, q⟩ := h
  obtain ⟨a, dx, v1, v2, v3, rfl, ha, h1, h2, h3⟩ := hO
  have r2 := hw.r2
  refine ⟨_, (pss_cons (ps_set (i := 1) sc_Program_mirror.nd rfl (by first | exact Or.inl rfl | exact Or.inr rfl) (pe_lst pa_nil))
    (pss_cons (ps_for PassesOwn.never rfl (k_any K (k_fld K (pv 0) rfl)) (k_gtup K (n := 2) rfl (pgs_cons (pg_name (i := 2) sc_Program_mirror.nd rfl (by first | exact Or.inl rfl | exact Or.inr rfl)) (pgs_cons (pg_name (i := 3) sc_Program_mirror.nd rfl (by first | exact Or.inl rfl | exact Or.inr rfl)) pgs_nil))) (pss_one (ps_expr (pe_bm PySem.F.plainAttrs_list PySem.F.slot_list_append PySem.F.type_list_append mt_append (pv 1) (pa_cons (pe_tup (pa_cons (pv 2) (pa_cons (pe_callTy (k_tup K) (by rfl) T.b_tuple bt_tuple (pa_cons (pe_lc (own := [("row", 4)]) rfl sc_Program_mirror.nd (k_rev K (by rfl) T.b_reversed (pv 3)) (blkOk_by (N := N_Program_mirror) (sc := defScope s_Program_mirror) (by decide +kernel)) (fun _ _ _ _ _ => (pg_name (i := 4) sc_Program_mirror.nd rfl (by first | exact Or.inl rfl | exact Or.inr rfl))) (fun _ _ _ _ _ => pts_nil) (fun _ _ _ _ _ => (pe_dyn m_mirror hr (by omega) pass0 (pv 4)))) pa_nil)) pa_nil))) pa_nil)))))
    (pss_one (ps_ret (pe_mkr k_Program hr (by omega) pass0 (pa_cons (k_fld K (pv 0) rfl) (pa_cons (k_fld K (pv 0) rfl) (pa_cons (pe_callTy (k_tup K) (by rfl) T.b_tuple bt_tuple (pa_cons (pv 1) pa_nil)) pa_nil)))))))), ?_⟩
  walk_at "rt"
  refine rd_new (by simp) fun pl H1 npl e1 hpl => ?_
  walk_at "rt"
  refine rd_for_t ?_
  walk_at "rt"
  refine ⟨a, _, dx, _, _, rfl, e1 _ _ ha, T.ty_Program.cl, T.n_Program_routines, rfl, ?_⟩
  obtain ⟨t, us, rfl, ht, hl, hg⟩ := h3.sm e1
  have hS := SqT.of (K := K) ht
  refine ⟨_, rfl, ⟨_, hS⟩, ?_⟩
  refine for_it walk_tup (fun i σ' H' => (∃ o1 o2 o3, σ' = [some (.ref a), some (.ref pl), o1, o2, o3]) ∧ Kp [pl] H1 H' ∧ ∃ ys, H' pl = some (.lst ys) ∧ ys.length = i ∧ ∀ (j : Nat) u, ys[j]? = some u → ∃ pr, p.rt[j]? = some pr ∧ ORt A H' (Pg.mirR pr) u) ⟨⟨none, none, none, rfl⟩, Kp.refl _, [], hpl, rfl, fun j u e => by simp at e⟩ (fun _ _ _ _ h => seqT_kp h.2.1 hS) ?_ ?_
  · rintro j y σ' H2 H3 hj ⟨⟨o1, o2, o3, rfl⟩, k2, ys, hys, hly, hy⟩ ⟨rfl, hx⟩
    obtain ⟨pr, g1, t4, v4, rfl, g3, p4, us4, rfl, hp4, hu4⟩ := hg j y hx
    have hm := List.mem_of_getElem? g1
    have hc1 := hw.cnt hm
    have hd1 := hw.rd pr hm
    have hl4 := hu4.len
    have hc4 := len_cnt pr.2
    have nI := noIns_lst hys
    have nI1 := noIns_lst hpl
    have hu5 := ORs.car (.kp k2 nI1) _ _ hu4
    have hS4 := SqT.of (K := K) (k2.tup _ _ hp4)
    refine rd_gtup (SqT.of (k2.tup _ _ g3)) rfl ?_
    refine rd_gcons ?_
    refine rd_name ?_
    refine rd_gcons ?_
    refine rd_name ?_
    refine rd_gnil ?_
    walk_at "rt"
    refine rd_bmL rfl (SqL.of hys) ?_
    walk_at "rt"
    refine rd_lc_rt ?_
    walk_at "rt"
    refine ⟨_, us4, rfl, .inr ⟨hS4, fun D nD => ?_⟩⟩
    refine lc_map walk_revT (fun j y H => ∃ r, pr.2[pr.2.length - 1 - j]? = some r ∧ OR A H r.mir y) nD (by omega) (fun j y H1 H2 k nI ⟨r, h1, h2⟩ => ⟨r, h1, OR.car (.kp k nI) _ _ h2⟩) (fun H' e => seqT_sm e hS4) ?_ ?_
    · rintro j2 y2 H5 H6 F Z hi e5 ⟨rfl, hx2⟩ hF
      refine ⟨Same.refl _, ?_⟩
      obtain ⟨r, f1, f2⟩ := hu5.get hx2
      have hm2 := List.mem_of_getElem? f1
      have f3 := f2.sm e5
      walk_at "rt"
      refine ⟨rfl, ?_⟩
      walk_at "rt"
      refine rd_dynR f3 (by decide +kernel) ?_
      exact ⟨_, r, rfl, f3, rfl, Nat.le_trans (dpRs_all.mp (Nat.le_refl _) r hm2) hd1, Nat.le_trans (cnt_mem hm2) (by omega), wfRs_all.mp (hw.rw pr hm) r hm2, fun x H7 e7 d7 => hF _ _ e7 ⟨r, by rw [← hl4]; exact f1, d7⟩⟩
    · intro ys2 H5 e5 hD hly2 hy2
      walk_at "rt"
      refine rd_tupOf (SqL.of hD) fun p6 H6 np6 e6 hp6 => ?_
      walk_at "rt"
      refine rd_new (by simp) fun p7 H7 np7 e7 hp7 => ?_
      walk_at "rt"
      have e57 := (e5.trans e6).trans e7
      have hys7 := e57 _ _ hys
      have k8 : Kp [pl] H7 (upd H7 pl (.lst (ys ++ [.ref p7]))) := Kp.put hys7 (by simp) (fun _ z => by cases z) (fun _ _ z => by cases z)
      have nI7 := noIns_lst hys7
      refine rd_append hys7 (by omega) ?_
      walk_at "rt"
      refine ⟨⟨_, _, _, rfl⟩, (k2.trans (sm_kp e57)).trans k8, ys ++ [.ref p7], upd_same, by rw [List.length_append, hly] <;> rfl, fun j3 u hu3 => ?_⟩
      by_cases c : j3 < ys.length
      · rw [List.getElem?_append_left c] at hu3
        obtain ⟨pr', w1, w2⟩ := hy j3 u hu3
        exact ⟨pr', w1, (w2.car (.sm e57)).car (.kp k8 nI7)⟩
      · rw [List.getElem?_append_right (by omega)] at hu3
        have c0 : j3 - ys.length = 0 := by
          have z := (List.getElem?_eq_some_iff.mp hu3).1
          simp at z
          omega
        rw [c0] at hu3
        cases Option.some.inj hu3
        have c1 : j3 = j := by omega
        subst c1
        refine ⟨pr, g1, p7, .ref p6, rfl, k8.tup _ _ hp7, p6, ys2, rfl, k8.tup _ _ (e7 _ _ hp6), ?_⟩
        exact ORs.car (.kp k8 nI7) _ _ ((mirs_of (by omega) hy2).sm (e6.trans e7))
  · rintro σ' H2 ⟨⟨o1, o2, o3, rfl⟩, k2, ys, hys, hly, hy⟩
    have e2 : Same H H2 := sm_of_kp e1 npl k2
    walk_at "rt"
    refine ⟨a, _, dx, _, _, rfl, e2 _ _ ha, T.ty_Program.cl, T.n_Program_boxes, rfl, ?_⟩
    walk_at "rt"
    refine ⟨a, _, dx, _, _, rfl, e2 _ _ ha, T.ty_Program.cl, T.n_Program_stacks, rfl, ?_⟩
    walk_at "rt"
    refine rd_tupOf (SqL.of hys) fun p4 H4 np4 e4 hp4 => ?_
    walk_at "rt"
    have e24 := e2.trans e4
    have o3 : ORts A H4 p.mir.rt (.ref p4) := by
      refine ⟨p4, ys, rfl, hp4, by show _ = (p.rt.map Pg.mirR).length; rw [List.length_map]; omega, fun j u hj => ?_⟩
      obtain ⟨pr, g1, g2⟩ := hy j u hj
      exact ⟨_, by show (p.rt.map Pg.mirR)[j]? = _; rw [List.getElem?_map, g1] <;> rfl, g2.car (.sm e4)⟩
    refine rd_mk (fun H5 s5 => ⟨_, _, _, p.mir, rfl, (h1.sm e24).sm s5, (h2.sm e24).sm s5, o3.sm s5, hw.mir⟩) fun b' dx' H5 s5 hb => ?_
    exact q _ H5 (e24.trans s5) ⟨b', dx', _, _, _, rfl, hb, (h1.sm e24).sm s5, (h2.sm e24).sm s5, o3.sm s5⟩

end

end

section
section
variable {P : Program} {w : World} {K : PySem.W.Frag} {mg : Str → Option Value} {base : Heap} {A : CA}
def spRtOf (K : PySem.W.Frag) (A : CA) : Sp := fun vs H Q _ => ∃ (v : V) (p : Str × List Rw), vs = [v] ∧ Dp K H v (Pg.toldR p) ∧ wfRs p.2 ∧ cntRs p.2 ≤ 1000 ∧ dpRs p.2 ≤ 6 ∧ ∀ (x : V) (H' : Hp), Same H H' → ORt A H' p x → Q x H'
theorem ok_routine_of (T : Txt K mg A) : Cal P w K mg base CX0 "routine_of" 38 ["told"] (spRtOf K A) := by
  have c_row_of := ok_row_of (P := P) (w := w) (base := base) T
  refine T.d_routine_of.ok sc_routine_of (fun vs H Q E h => ?_) (fun f cdv Ar outer s H vs Q E hr h => ?_)
  · obtain ⟨v, p, rfl, _⟩ := h
    rfl
  obtain ⟨v, p, rfl, hD, hw, hc, hd, q⟩ := h
  obtain ⟨a, x1, x2, rfl, hS, dx, dy⟩ := dp_two hD
  cases dp_str dx
  obtain ⟨a2, xs, rfl, hS2, hA⟩ := dp_tup dy
  refine ⟨_, (pss_cons (ps_if (PW.pt (pw_or (pt_not (pt_val (pe_callB (k_isi K) (by rfl) T.b_isinstance bt_isinstance (pa_cons (pv 0) (pa_cons (pe_bltn (v := .ty "tuple") (by rfl) T.b_tuple bt_tuple rfl) pa_nil))))) (pw_or (pt_cmpR (k_neq K hr.units) (pe_callB (k_len K) (by rfl) T.b_len bt_len (pa_cons (pv 0) pa_nil)) pe_int (nomark _)) (pw_or1 (pt_not (pt_val (pe_callB (k_isi K) (by rfl) T.b_isinstance bt_isinstance (pa_cons (pe_ix (k_ix K) (pv 0) pe_int (fun _ _ => rfl)) (pa_cons (pe_bltn (v := .ty "tuple") (by rfl) T.b_tuple bt_tuple rfl) pa_nil))))))))) (pss_one ps_never) pss_nil)
    (pss_one (ps_try_thru (pss_one (ps_set (i := 1) sc_routine_of.nd rfl (by first | exact Or.inl rfl | exact Or.inr rfl) (pe_callTy (k_tup K) (by rfl) T.b_tuple bt_tuple (pa_cons (pe_lc (own := [("one", 2)]) rfl sc_routine_of.nd (k_any K (pe_ix (k_ix K) (pv 0) pe_int (fun _ _ => rfl))) (blkOk_by (N := N_routine_of) (sc := defScope s_routine_of) (by decide +kernel)) (fun _ _ _ _ _ => (pg_name (i := 2) sc_routine_of.nd rfl (by first | exact Or.inl rfl | exact Or.inr rfl))) (fun _ _ _ _ _ => pts_nil) (fun _ _ _ _ _ => (pe_cal c_row_of hr (by omega) pass0 (pa_cons (pv 2) pa_nil)))) pa_nil)))) (pss_one (ps_ret (pe_tup (pa_cons (pe_ix (k_ix K) (pv 0) pe_int (fun _ _ => rfl)) (pa_cons (pv 1) pa_nil)))))))), ?_⟩
  have hxl : xs.length = p.2.length := by rw [dpA_len hA, toldRs_map, List.length_map]
  have hcl := len_cnt p.2
  walk_at "rt"
  refine rd_thru ?_
  walk_at "rt"
  refine rd_lc_t ?_
  walk_at "rt"
  refine ⟨_, rfl, ⟨_, hS2⟩, fun D nD => ?_⟩
  refine lc_map walk_tup (fun j y H => ∃ r, p.2[j]? = some r ∧ OR A H r y) nD (by omega) (fun j y H1 H2 k nI ⟨r, h1, h2⟩ => ⟨r, h1, OR.car (.kp k nI) _ _ h2⟩) (fun H' e => seqT_sm e hS2) ?_ ?_
  · rintro j y H2 H3 F Z hi e2 ⟨rfl, hx⟩ hF
    refine ⟨Same.refl _, ?_⟩
    obtain ⟨t, h1, h2⟩ := dpA_get hA hx
    rw [toldRs_map, List.getElem?_map] at h1
    obtain ⟨r, hr1, rfl⟩ := Option.map_eq_some_iff.mp h1
    have hm := List.mem_of_getElem? hr1
    walk_at "rt"
    refine ⟨rfl, ?_⟩
    walk_at "rt"
    exact ⟨_, r, rfl, dp_sm e2 _ _ h2, wfRs_all.mp hw r hm, Nat.le_trans (cnt_mem hm) hc, dpRs_all.mp hd r hm, fun x H4 e4 d4 => hF _ _ e4 ⟨r, hr1, d4⟩⟩
  · intro ys H2 e2 hD' hly hy
    walk_at "rt"
    refine rd_tupOf (SqL.of hD') fun p2 H4 np2 e4 hp2 => ?_
    have hS := seqT_sm (e2.trans e4) hS
    walk_at "rt"
    refine rd_new (by simp) fun p3 H5 np3 e5 hp3 => ?_
    exact q _ H5 ((e2.trans e4).trans e5) ⟨p3, .ref p2, rfl, hp3, p2, ys, rfl, e5 _ _ hp2, (ORs.of_get (by omega) fun j u hj => hy j u hj).sm (e4.trans e5)⟩
def spPgOf (K : PySem.W.Frag) (A : CA) : Sp := fun vs H Q _ => ∃ (v : V) (p : Pg), vs = [v] ∧ Dp K H v p.told ∧ p.wf ∧ ∀ (x : V) (H' : Hp), Same H H' → OP K A H' p x → Q x H'
theorem ons_of {H : Hp} {v : V} {xs : List Str} (h : Dp K H v (.tuple (xs.map PyData.str))) : ONs K H xs v := by
  obtain ⟨a, ys, rfl, hS, hA⟩ := dp_tup h
  refine ⟨a, rfl, ?_⟩
  have e : ys = xs.map V.str := by
    clear hS h
    induction xs generalizing ys with
    | nil => exact dpA_nil hA
    | cons x r ih =>
      obtain ⟨u, us, rfl, h1, h2⟩ := dpA_cons hA
      rw [ih us h2, dp_str h1]
      rfl
  rw [← e]
  exact hS
theorem ok_program_of (T : Txt K mg A) : Cal P w K mg base CX0 "program_of" 39 ["told"] (spPgOf K A) := by
  have c_routine_of := ok_routine_of (P := P) (w := w) (base := base) T
  have k_Program := ok_mk_Program (P := P) (w := w) (base := base) T
  refine T.d_program_of.ok sc_program_of (fun vs H Q E h => ?_) (fun f cdv Ar outer s H vs Q E hr h => ?_)
  · obtain ⟨v, p, rfl, _⟩ := h
    rfl
  obtain ⟨v, p, rfl, hD, hw, q⟩ := h
  obtain ⟨a, x1, x2, x3, rfl, hS, d1, d2, d3⟩ := dp_three hD
  obtain ⟨a3, xs, rfl, hS3, hA⟩ := dp_tup d3
  obtain ⟨a1, xs1, rfl, hS1, _⟩ := dp_tup d1
  refine ⟨_, (pss_cons (ps_if (PW.pt (pw_or (pt_not (pt_val (pe_callB (k_isi K) (by rfl) T.b_isinstance bt_isinstance (pa_cons (pv 0) (pa_cons (pe_bltn (v := .ty "tuple") (by rfl) T.b_tuple bt_tuple rfl) pa_nil))))) (pw_or (pt_cmpR (k_neq K hr.units) (pe_callB (k_len K) (by rfl) T.b_len bt_len (pa_cons (pv 0) pa_nil)) pe_int (nomark _)) (pw_or1 (pt_not (pt_val (pe_callB (k_isi K) (by rfl) T.b_isinstance bt_isinstance (pa_cons (pe_ix (k_ix K) (pv 0) pe_int (fun _ _ => rfl)) (pa_cons (pe_bltn (v := .ty "tuple") (by rfl) T.b_tuple bt_tuple rfl) pa_nil))))))))) (pss_one ps_never) pss_nil)
    (pss_one (ps_ret (pe_mkr k_Program hr (by omega) pass0 (pa_cons (pe_ix (k_ix K) (pv 0) pe_int (fun _ _ => rfl)) (pa_cons (pe_ix (k_ix K) (pv 0) pe_int (fun _ _ => rfl)) (pa_cons (pe_callTy (k_tup K) (by rfl) T.b_tuple bt_tuple (pa_cons (pe_lc (own := [("one", 1)]) rfl sc_program_of.nd (k_any K (pe_ix (k_ix K) (pv 0) pe_int (fun _ _ => rfl))) (blkOk_by (N := N_program_of) (sc := defScope s_program_of) (by decide +kernel)) (fun _ _ _ _ _ => (pg_name (i := 1) sc_program_of.nd rfl (by first | exact Or.inl rfl | exact Or.inr rfl))) (fun _ _ _ _ _ => pts_nil) (fun _ _ _ _ _ => (pe_cal c_routine_of hr (by omega) pass0 (pa_cons (pv 1) pa_nil)))) pa_nil)) pa_nil))))))), ?_⟩
  have hxl : xs.length = p.rt.length := by rw [dpA_len hA, List.length_map]
  have r2 := hw.r2
  walk_at "rt"
  refine rd_lc_t ?_
  walk_at "rt"
  refine ⟨_, rfl, ⟨_, hS3⟩, fun D nD => ?_⟩
  refine lc_map walk_tup (fun j y H => ∃ r, p.rt[j]? = some r ∧ ORt A H r y) nD (by omega) (fun j y H1 H2 k nI ⟨r, h1, h2⟩ => ⟨r, h1, ORt.car (.kp k nI) h2⟩) (fun H' e => seqT_sm e hS3) ?_ ?_
  · rintro j y H2 H3 F Z hi e2 ⟨rfl, hx⟩ hF
    refine ⟨Same.refl _, ?_⟩
    obtain ⟨t, h1, h2⟩ := dpA_get hA hx
    rw [List.getElem?_map] at h1
    obtain ⟨r, hr1, rfl⟩ := Option.map_eq_some_iff.mp h1
    have hm := List.mem_of_getElem? hr1
    have hc := hw.cnt hm
    walk_at "rt"
    refine ⟨rfl, ?_⟩
    walk_at "rt"
    exact ⟨_, r, rfl, dp_sm e2 _ _ h2, hw.rw r hm, by omega, hw.rd r hm, fun x H4 e4 d4 => hF _ _ e4 ⟨r, hr1, d4⟩⟩
  · intro ys H2 e2 hD' hly hy
    walk_at "rt"
    refine rd_tupOf (SqL.of hD') fun p2 H4 np2 e4 hp2 => ?_
    walk_at "rt"
    have e24 := e2.trans e4
    have o1 := (ons_of d1).sm e24
    have o2 := (ons_of d2).sm e24
    have o3 : ORts A H4 p.rt (.ref p2) := by
      refine ⟨p2, ys, rfl, hp2, by omega, fun j u hj => ?_⟩
      obtain ⟨pr, g1, g2⟩ := hy j u hj
      exact ⟨pr, g1, g2.car (.sm e4)⟩
    refine rd_mk (fun H5 s5 => ⟨_, _, _, p, rfl, o1.sm s5, o2.sm s5, o3.sm s5, hw⟩) fun b' dx' H5 s5 hb => ?_
    exact q _ H5 (e24.trans s5) ⟨b', dx', _, _, _, rfl, hb, o1.sm s5, o2.sm s5, o3.sm s5⟩
end

end

section
/-! # Rules of this proof, second part -/
/-! ### enumerate(tuple) -/
theorem meets_enumB1 {v : Value} {ob : Obj} {Hh : Heap → Prop} (B : PySem.Begins v ob Hh) :
    Meets (Builtin.«enumerate.__new__» ⟨[.type "enumerate", v], []⟩) (fun _ R st => Hh st.heap ∧
      R (.ok (.ret (.ref (st.heap.push ob).objs.size))) { st with heap := (st.heap.push ob).push { cls := .type "enumerate", data := .fields #[.none, .bool false, .ref st.heap.objs.size, rawInt 0, .none, .none] } }) :=
  .of_wp fun prog w A R st h => by
    obtain ⟨hp, g, d, tk, os⟩ := st
    obtain ⟨h1, h⟩ := h
    have hsub := sub_enumerate
    have goIter : ∀ {A' : Around} {E' : Value → Shared → Prop} {Q' : Value → Shared → Prop}, Q' (.ref hp.objs.size) ⟨hp.push ob, g, d, tk, os⟩ → wpAny (model prog w) A' (pyIter v) Q' E' ⟨hp, g, d, tk, os⟩ := fun q => B.iter prog w _ _ ⟨hp, g, d, tk, os⟩ _ h1 q
    wp_walk using goIter
    refine wpAny_stack_any fun _ => wpAny_pure ?_
    split
    · rename_i c _ _ _ _ _
      cases (c == Value.type "enumerate") <;>
      · wp_walk using goIter
        exact ⟨_, rfl, h⟩
    · wp_walk using goIter
      exact ⟨_, rfl, h⟩
theorem call_enumB1 {prog : Program} {w : World} {A : Around} {E : Value → Shared → Prop} {st : Shared} {v : Value} {ob : Obj} {Hh : Heap → Prop} {Q : Value → Shared → Prop} (B : PySem.Begins v ob Hh) (h1 : Hh st.heap)
    (h : ∀ h', IsEnum h' (st.heap.objs.size + 1) st.heap.objs.size 0 .none → h'.get? st.heap.objs.size = some ob → h'.objs.size = st.heap.objs.size + 2 →
      (∀ b o, st.heap.get? b = some o → h'.get? b = some o) → Q (.ref (st.heap.objs.size + 1)) { st with heap := h' }) :
    wpAny (model prog w) A (call (.type "enumerate") [v]) Q E st := by
  refine callType_new F.called_enumerate (by decide) (F.typeCall_enumerate_1 _) (F.newCall_enumerate_1 _) (fun obj => F.args_object_init_2 obj _) F.entry_enumerate_new (meets_enumB1 B) ⟨h1, ?_⟩
  have hz : (st.heap.push ob).objs.size = st.heap.objs.size + 1 := Heap.size_push ..
  have he : IsEnum ((st.heap.push ob).push { cls := .type "enumerate", data := .fields #[.none, .bool false, .ref st.heap.objs.size, rawInt 0, .none, .none] }) (st.heap.objs.size + 1) st.heap.objs.size 0 .none := by
    have z := Heap.get?_push_size (st.heap.push ob) (o := { cls := .type "enumerate", data := .fields #[.none, .bool false, .ref st.heap.objs.size, rawInt 0, .none, .none] }) rfl
    rw [hz] at z
    exact z
  show _ ∧ _
  rw [hz]
  exact ⟨⟨_, he, rfl⟩, h _ he (Heap.get?_push_of_some _ (Heap.get?_push_size _ B.free)) (by rw [Heap.size_push, hz]) fun b o x => Heap.get?_push_of_some _ (Heap.get?_push_of_some _ x)⟩
theorem enum_endT {prog : Program} {w : World} {A : Around} {E : Value → Shared → Prop} {st : Shared} {e it a : Addr} {i : Nat} {n : Int} {items : Array Value} {old : Value} {Q : Option Value → Shared → Prop} (hh : A.handled = none)
    (he : IsEnum st.heap e it n old) (hit : st.heap.IsTupleIter it a i) (ht : st.heap.IsTuple a items) (hx : items[i]? = none) (hQ : ∀ h', Heap.ExtBut it st.heap h' → Q none { st with heap := h' }) : wpAny (model prog w) A (pyNext (.ref e)) Q E st := by
  have tyE : st.TypeIs (.ref e) "enumerate" := ⟨_, he, rfl⟩
  unfold pyNext
  refine wpAny_bind (wpAny_attempt (wpAny_callSpecial?_slot (name := Str.ofString "__next__") tyE F.slot_enumerate_next (wpAny_call_entry F.slot_enumerate_next tyE F.entry_enumerate_next ?_ (F.args_enumerate_next_1 _))))
  show wpAny _ _ (field (.ref e) 2 >>= fun _ => _) _ _ _
  refine wpAny_bind (wpAny_field he rfl (x := .ref it) rfl (wpAny_bind (wpAny_nextOf_tuple_end hh hit ht hx fun h' x he' hx' => ?_)))
  obtain ⟨o, ho, hc⟩ := hx'
  exact wpAny_bind (wpAny_isInstance (T := "StopIteration") (b := true) ⟨o, ho, hc⟩ isSubtype_stop (wpAny_pure (hQ _ he')))
def IteT (K : PySem.W.Frag) (a : Addr) : It :=
  ⟨fun i H => ∃ (xs : List V) (x : V), SqT K H a xs ∧ xs[i]? = some x, fun i H v H' => ∃ T x, v = .ref T ∧ H T = none ∧ H' = upd H T (.tup [.int (i : Nat), x]) ∧ ∀ xs, SqT K H a xs → xs[i]? = some x, fun i H => ∃ xs : List V, SqT K H a xs ∧ xs.length ≤ i⟩
theorem turn_enumT {P : Program} {w : World} {K : PySem.W.Frag} {elts : List Expr} {kk : Nat} {tpos : Pos} (a e it : Addr) :
    Turn P w K (.Tuple elts kk tpos) (IteT K a) [e, it] e (fun i h => (∃ old, IsEnum h e it ((i : Nat) : Int) old) ∧ h.IsTupleIter it a i ∧ e ≠ it) where
  mem := by simp
  obj := fun i h st b hb => by
    obtain ⟨⟨old, he⟩, ⟨o, ho, hc, hd⟩, _⟩ := st
    rcases (by simpa using hb : b = e ∨ b = it) with z | z
    · subst z
      exact ⟨_, he, fun v q => nomatch q⟩
    · subst z
      exact ⟨o, ho, fun v q => by rw [hd] at q; cases q⟩
  keep := fun i h h' st k => by
    obtain ⟨⟨old, he⟩, hi, hne⟩ := st
    exact ⟨⟨old, k e (by simp) _ he⟩, hi.at fun o q => k it (by simp) o q, hne⟩
  item := by
    intro X hP hw hK hc i pins s σ H E I hf st hg
    subst hP hw hK
    obtain ⟨⟨old, he⟩, hit, hne⟩ := st
    obtain ⟨xs, x, hq, hx⟩ := hg
    obtain ⟨its, rv, p, hz⟩ := I.tuple hq
    have p : s.heap.IsTuple a its.toArray := p
    obtain ⟨u, hu, ru⟩ := rv.get hx
    have hel : e < s.heap.objs.size := Heap.lt_size he
    have hil : it < s.heap.objs.size := by
      obtain ⟨_, q, _⟩ := hit
      exact Heap.lt_size q
    have nai : a ≠ it := fun z => by
      obtain ⟨o1, q1, c1, _⟩ := hit
      obtain ⟨o2, q2, c2, _⟩ := p
      rw [z, q1] at q2
      cases Option.some.inj q2
      rw [c1] at c2
      exact absurd c2 (by decide)
    have nea : e ≠ a := fun z => by
      obtain ⟨o2, q2, c2, _⟩ := p
      rw [← z, he] at q2
      cases Option.some.inj q2
      have c3 : Value.type "enumerate" = Value.type "tuple" := c2
      exact absurd c3 (by decide)
    have hlt : i < its.toArray.size := by
      have z := (List.getElem?_eq_some_iff.mp hu).1
      simpa using z
    refine wpAny_pyNext_enum_itemD (Draws.tuple (A := X.A.in1) (show X.A.in1.handled = none from I.ok.hd hc) it a nai its.toArray) he ⟨hit, p⟩ hlt hne (by simp [hne, nea]) fun y h' tk hy ho st' hT hsz hk => ?_
    have hyu : y = u := by
      have z : its[i]? = some y := by simpa using hy
      rw [hu] at z
      exact (Option.some.inj z).symm
    subst hyu
    refine ⟨_, rfl, wpAny_letOwnedTupleGo_enum (s := { s with heap := h', toks := tk + 1 }) ho fun h2 he' sb => ?_⟩
    have hT2 : h2.get? s.heap.objs.size = some { cls := .type "tuple", data := .seq #[.int i tk, y] } := (sb.2 _ (Nat.ne_of_gt hel)).trans hT
    have new : ObjOk X.prog X.w (upd H s.heap.objs.size (.tup [.int (i : Nat), x])) h2 s.heap.objs.size (.tup [.int (i : Nat), x]) := ⟨by show 2 ≤ sizeLine; decide, [.int i tk, y], .cons ⟨_, rfl⟩ (.cons ru .nil), ⟨_, hT2, rfl, _, rfl⟩⟩
    have I1 : Inv X pins σ (upd H s.heap.objs.size (.tup [.int (i : Nat), x])) { s with heap := h2, toks := tk + 1 } :=
      I.turnedNew (ch := [e, it]) (fun b ob hb q => (sb.2 b (fun z => hb (by simp [z]))).trans (hk b ob (fun z => hb (by simp [z])) (fun z => hb (by simp [z])) q)) hf (Nat.le_refl _) new
    refine ⟨.ref s.heap.objs.size, _, I1, rfl, ⟨_, x, rfl, I.hok.fresh (Nat.le_refl _), rfl, fun ys hy => by rw [I.tuple_inj hy hq]; exact hx⟩, ⟨⟨y, ?_⟩, st'.1.at fun o q => (sb.2 it (Ne.symm hne)).trans q, hne⟩, fun b hb => ?_⟩
    · have e1 : ((i + 1 : Nat) : Int) = (i : Int) + 1 := by omega
      rw [e1]
      exact he'
    · have hlb : b < s.heap.objs.size := by
        rcases (by simpa using hb : b = e ∨ b = it) with z | z
        · subst z
          exact hel
        · subst z
          exact hil
      rw [upd_ne (Nat.ne_of_lt hlb)]
      exact (hf b hb).1
  done := by
    intro X hP hw hK hc i pins s σ H E I hf st hg
    subst hP hw hK
    obtain ⟨⟨old, he⟩, hit, hne⟩ := st
    obtain ⟨xs, hq, hx⟩ := hg
    obtain ⟨its, rv, p, hz⟩ := I.tuple hq
    obtain ⟨f0, f1, f2, f3, f4, f5⟩ := hf it (by simp)
    have hl := rv.length
    exact enum_endT (I.ok.hd hc) he hit (show s.heap.IsTuple a its.toArray from p) (by simp; omega) fun h' eb => ⟨rfl, I.turned (t' := s.toks) (fun b o hb q => eb b o hb q) f0 f1 f3 f4 f5⟩
  self := fun A i s Q E st h => by
    obtain ⟨⟨_, he⟩, _⟩ := st
    exact wpAny_pyIter_enum he h
def iEnumT (K : PySem.W.Frag) (ta : TA) : TI := fun σ H R => ta σ H fun vs H1 => ∃ a xs, vs = [.ref a] ∧ SqT K H1 a xs ∧ R (IteT K a) H1
theorem pi_enumT {X : Cx} {e : Expr} {ta : TA} {p pos tpos : Pos} {elts : List Expr} {kk : Nat} (hg : Gl X "enumerate") (hm : X.mg "enumerate" = none) (ha : PA X [e] ta) (hs : starEach [e] X.env = [(false, eval e X.env)] := by rfl) :
    PI X (.Tuple elts kk tpos) (.Call (.Name "enumerate" p) [e] [] pos) (iEnumT X.K ta) := by
  refine ⟨fun pins s σ H R I h => ?_⟩
  refine Call_ (ld_blt I hg hm boot_enumerate (PyProof.Rows.callWith_type1 (thn (ha.run pos pins s σ H _ I h) fun us s1 ⟨vs, H1, I1, r1, a, xs, ex, hq, q⟩ => ?_) hs rfl))
  subst ex
  cases r1 with
  | cons r rr =>
    cases rr
    cases r
    obtain ⟨its, rv, p', hz⟩ := I1.tuple hq
    refine call_enumB1 (begins_tuple a its.toArray) (show s1.heap.IsTuple a its.toArray from p') fun h' he hit hsz hk => wpAny_pyIter_enum he ?_
    have I2 : Inv X pins σ H1 { s1 with heap := h' } := I1.kept (t' := s1.toks) hk
    refine ⟨s1.heap.objs.size + 1, [s1.heap.objs.size + 1, s1.heap.objs.size], _, _, H1, rfl, I2, turn_enumT a (s1.heap.objs.size + 1) s1.heap.objs.size, ⟨⟨.none, he⟩, ⟨_, hit, rfl, rfl⟩, Nat.succ_ne_self _⟩, fun b hb => ?_, q⟩
    have hle : s1.heap.objs.size ≤ b := by
      rcases (by simpa using hb : b = s1.heap.objs.size + 1 ∨ b = s1.heap.objs.size) with z | z
      · rw [z]; exact Nat.le_add_right _ _
      · rw [z]; exact Nat.le_refl _
    exact I1.fpOk hle (I1.hok.fresh hle)
def iEnumA (K : PySem.W.Frag) (ta : TA) : TI := fun σ H R => iEnum K ta σ H R ∨ iEnumT K ta σ H R
theorem k_enum {X : Cx} (K : PySem.W.Frag) {e : Expr} {te : TE} {p pos tpos : Pos} {elts : List Expr} {kk : Nat} (hg : Gl X "enumerate") (hm : X.mg "enumerate" = none) (he : PE X e te) (hK : X.K = K := by rfl) (hs : starEach [e] X.env = (false, eval e X.env) :: starEach [] X.env := by rfl) (hs2 : starEach [e] X.env = [(false, eval e X.env)] := by rfl) :
    PI X (.Tuple elts kk tpos) (.Call (.Name "enumerate" p) [e] [] pos) (iEnumA K (tCons te tNil)) := by
  subst hK
  exact pi_or (pi_enum hg hm (pa_cons he pa_nil hs) hs2) (pi_enumT hg hm (pa_cons he pa_nil hs) hs2)

end

section
/-! # exceptions that are kept; a base class's __init__ -/
section
open PySem.W PySem.Calls
variable {prog : Program} {w : World} {A : Around} {E : Value → Shared → Prop} {s : Shared} {K : PySem.W.Frag} {x D : Addr} {ox : Obj} {od : Option Obj}
theorem findObj_takes {C : Addr} {name : Str} {a g : Value} (hc : (clsIn K C).isSome = true) (h1 : findIn K (.ref C) name = some (some a)) (h2 : specialIn K a "__get__" = some (some g)) (h3 : takesIn K a = some true) : findObj K C od name = some (.bind g a) := by
  cases hcd : clsIn K C with
  | none => rw [hcd] at hc; cases hc
  | some cd =>
    unfold findObj
    simp only [hcd, h1, h2, h3, Option.bind_some]
theorem kinE_any {Q : Option Value → Shared → Prop} (gaE : findIn K (.ref D) "__getattribute__" = some (some (.builtin "BaseException.__getattribute__"))) (gtE : findIn K (.ref D) "__getattr__" = some none) (subE : subIn K (.ref D) (.type "BaseException") = some true)
    (dctE : hasDictIn K D = true) (clE : findIn K (.ref D) "__class__" = some (some (.builtin "object.__class__")))
    (gtC : specialIn K (.builtin "object.__class__") "__get__" = some (some (.builtin "getset_descriptor.__get__"))) (tkC : takesIn K (.builtin "object.__class__") = some true) (moE : mroIn K D (.type "object") = some true)
    (Xk : K.In s.heap) (Jn : InstAt s.heap x ox D od) (h : Q (some (.ref D)) { s with toks := s.toks + 1 }) : wpAny (model prog w) A (getAttr? (.ref x) "__class__") Q E s := by
  have fO : findObj K D od "__class__" = some (.bind (.builtin "getset_descriptor.__get__") (.builtin "object.__class__")) := findObj_takes (by obtain ⟨cd, hc, _⟩ := any_some dctE; rw [hc]; rfl) clE gtC tkC
  obtain ⟨hq, gn, dr, tk, oS⟩ := s; have K0 := Jn.type (M := model prog w)
  have K1 := looks_findIn (M := model prog w) Xk gaE; have K2 := looks_findIn (M := model prog w) Xk gtE
  have K3 := looks_find (M := model prog w) Xk Jn fO; have isE : Looks (model prog w) hq (isInstance (.ref x) (.type "BaseException")) true := K0.andThen (looks_subIn Xk subE)
  have x0 : (false && onTheHeap (Value.builtin "BaseException.__getattribute__")) = false := rfl; have x2 : (Value.builtin "BaseException.__getattribute__" == Value.builtin "object.__getattribute__") = false := by decide +kernel
  have x1 : (onTheHeap (Value.ref D) && Value.builtin "BaseException.__getattribute__" == Value.builtin "object.__getattribute__") = false := by rw [x2]; rfl
  unfold getAttr? getAttrBy? getAttrBy; refine wpAny_bind (wpAny_mkText (wpAny_bind (wpAny_attempt (wpAny_holding (wpAny_bind (K0.at (wpAny_bind (K1.at ?_))))))))
  show wpAny _ _ (if (onTheHeap (Value.ref D) && Value.builtin "BaseException.__getattribute__" == Value.builtin "object.__getattribute__") = true then _ else _) _ _ _; rw [x1, if_neg Bool.false_ne_true]
  unfold getAttrByItsOwn hookBefore; refine wpAny_bind ?_
  rw [if_pos (show onTheHeap (Value.ref D) = true from rfl)]; refine K2.at ?_
  refine wpAny_bind (wpAny_attempt (wpAny_holding ?_)); unfold callGetattribute
  rw [x0, if_neg Bool.false_ne_true]; unfold boundAndCalled
  rw [PySem.F.excAttr_ValueError.ga.bind (.ref x)]; refine wpAny_bind (wpAny_pure ?_)
  show wpAny _ _ (call (.builtin "BaseException.__getattribute__") [.ref x, .str "__class__" tk]) _ _ _; refine wpAny_call (codeAny_call_builtin PySem.F.excAttr_ValueError.ga.plain PySem.F.entry_bexc_ga ?_)
  refine @check_slot (model prog w) _ _ ⟨hq, gn, dr, tk + 1, oS⟩ "BaseException.__getattribute__" "BaseException" "__getattribute__" (.ref x) [.str "__class__" tk] [] _ (by decide +kernel) (by decide +kernel) isE (PySem.F.args_bexc_ga (.ref x) (.str "__class__" tk)) ?_
  unfold Builtin.«object.__getattribute__»; refine wpAny_bind (wpAny_of_eq (a := ((Value.ref x : Value), [Value.str "__class__" tk])) (by first | rfl | (simp only [slotArgs]; rfl)) ?_)
  refine wpAny_bind (wpAny_pure (wpAny_bind (K0.at (wpAny_bind (K3.at ?_))))); show wpAny _ _ (holding [Value.builtin "object.__class__"] (call (.builtin "getset_descriptor.__get__") [.builtin "object.__class__", .ref x, .ref D]) >>= ret) _ _ _
  refine wpAny_bind (wpAny_holding (wpAny_call (class_get (s := ⟨hq, gn, dr, tk + 1, oS⟩) (ox := ox) (od := od) Xk Jn moE ?_))); refine wpAny_pure ?_
  show wpAny _ _ (handedOut (.ref D)) _ _ _; rw [handedOut_of (v := .ref D) rfl]
  first
    | exact wpAny_pure (wpAny_pure h)
    | exact wpAny_pure h
    | exact wpAny_pure (wpAny_bind (wpAny_pure (wpAny_pure h)))
theorem kitE_any (gaE : findIn K (.ref D) "__getattribute__" = some (some (.builtin "BaseException.__getattribute__"))) (gtE : findIn K (.ref D) "__getattr__" = some none) (subE : subIn K (.ref D) (.type "BaseException") = some true) (dctE : hasDictIn K D = true) (clE : findIn K (.ref D) "__class__" = some (some (.builtin "object.__class__")))
    (gtC : specialIn K (.builtin "object.__class__") "__get__" = some (some (.builtin "getset_descriptor.__get__"))) (tkC : takesIn K (.builtin "object.__class__") = some true) (moE : mroIn K D (.type "object") = some true) :
    KitX K (.ref x) (.ref D) (fun h => InstAt h x ox D od) where
  ty := fun _ _ _ Jn => Jn.type
  it := fun _ _ Xk _ => by
    obtain ⟨cD, hD, _⟩ := any_some dctE; unfold clsIn at hD
    split at hD
    · rename_i c' d' cd' sl' oAt
      intro A' Q' E' s' k q; unfold isType loadHead
      exact wpAny_bind (wpAny_loadPart (k _ _ (Xk _ _ oAt)) (wpAny_pure q))
    · cases hD
  ne := fun h tp dd its n sl Xk htp => by
    obtain ⟨cD, hD, _⟩ := any_some dctE; refine Bool.eq_false_iff.mpr fun q => ?_
    have e : D = tp := Value.ref.inj (beq_iff_eq.mp q); subst e
    unfold clsIn at hD
    split at hD
    · rename_i c' d' cd' sl' oAt
      have z := (Xk _ _ oAt).symm.trans htp
      cases z
    · cases hD
  ca := fun Xk Jn k => kinE_any gaE gtE subE dctE clE gtC tkC moE Xk Jn k
end
/-- an exception that was caught and is kept -/
def Caught (cls : Value) (d : Option Addr) (a : Addr) : HO := .ext fun h => ∃ (oe : Obj) (vs : Array Value), h.get? a = some oe ∧ Zc cls d oe ∧ oe.data = .fields vs
theorem caught_ok {P : Program} {w : World} {H : Hp} {h : Heap} {a : Addr} {cls : Value} {d : Option Addr} {oe : Obj} {vs : Array Value} (e : h.get? a = some oe) (z : Zc cls d oe) (dt : oe.data = .fields vs) : ObjOk P w H h a (Caught cls d a) :=
  ⟨⟨oe, vs, e, z, dt⟩, ⟨oe, e⟩, fun _ _ ⟨o, v, q, r⟩ k => ⟨o, v, k o q, r⟩⟩
theorem caught_at {X : Cx} {pins : List (Addr × Obj)} {σ : L2.St} {H : Hp} {s : Shared} {a : Addr} {cls : Value} {d : Option Addr} (I : Inv X pins σ H s) (h : H a = some (Caught cls d a)) : ∃ (oe : Obj) (vs : Array Value), s.heap.get? a = some oe ∧ Zc cls d oe ∧ oe.data = .fields vs := (I.hok a _ h).1
/-- an object that came after the call began is told of from now on -/
theorem track_of {X : Cx} {pins : List (Addr × Obj)} {σ σ' : L2.St} {H H' : Hp} {s sI : Shared} {a : Addr} {oe : Obj} {cls : Value} {d : Option Addr} (ok : X.Ok) (hex : X.ex = []) (S : Inv (X.suite a ((a, oe) :: (X.pn ++ pins))) [] σ H s) (J : Inv X pins σ' H' sI) (nI : ∀ o, sI.heap.get? a ≠ some o)
    (z : Zc cls d oe) (dt : ∃ vs, oe.data = .fields vs) : Inv X pins σ (upd H a (Caught cls d a)) s := by
  obtain ⟨vs, dt⟩ := dt
  obtain ⟨g1, g2, g3, g4, g5⟩ := S.pin (a, oe) (List.mem_append_left _ List.mem_cons_self)
  have I : Inv X pins σ H s := S.unsuite ok
  have n0 : ∀ b o, X.s_0.heap.get? b = some o → b ≠ a := fun b o e q => by
    obtain ⟨o', e'⟩ := J.base.there b o e (by rw [hex]; exact fun m => nomatch m)
    rw [q] at e'
    exact nI _ e'
  have hpin : ∀ p ∈ X.pn ++ pins, p.1 ≠ a := fun p hp q => by
    have e := (J.pin p hp).1
    rw [q] at e
    exact nI _ e
  refine ⟨ok, I.os, I.bare, ⟨I.base.keep, I.base.slot, fun b o e n hq => ?_, I.base.there, fun b xs e => ?_, fun b o u e => ?_, fun b ps e => ?_⟩, I.loc, I.cell, ?_, fun x c e => ?_, fun p hp => ?_, fun b u e => ?_, I.len⟩
  · rw [upd_ne (n0 b o e)]
    exact I.base.free b o e n hq
  · have q := I.base.tups b xs e
    rw [upd_ne (ne_of_none q g2)]
    exact q
  · have q := I.base.frzs b o u e
    rw [upd_ne (ne_of_none q g2)]
    exact q
  · obtain ⟨m, q⟩ := I.base.tbls b ps e
    exact ⟨m, by rw [upd_ne (ne_of_none q g2)]; exact q⟩
  · rw [upd_ne (Ne.symm g3)]
    exact I.free
  · have hc : c ≠ a := fun q => by
      obtain ⟨v, o, ho, _⟩ := J.cell x c e
      rw [q] at ho
      exact nI _ ho
    rw [upd_ne hc]
    exact I.freeC x c e
  · obtain ⟨e, n, r⟩ := I.pin p hp
    exact ⟨e, by rw [upd_ne (hpin p hp)]; exact n, r⟩
  · by_cases hb : b = a
    · subst hb
      rw [upd_same] at e
      cases e
      exact caught_ok g1 z dt
    · rw [upd_ne hb] at e
      exact (I.hok b u e).stay (fun c v _ q => q) (fun c q => by rw [upd_ne (ne_of_none q g2)]; exact q) fun c xs q => by rw [upd_ne (ne_of_none q g2)]; exact q
/-- what 'except x as n' asks, where the exception is kept -/
def wKept (K : PySem.W.Frag) (c : Value) (i : Nat) (ts : Addr → Value → Option Addr → TS) (Wout : WX) (D : Ends) : WX := fun cls d σ H => ∃ b, PySem.W.exmOne K cls c = some b ∧
  (b = true → ∀ a, H a = none → ts a cls d { nx := fun σ' H' => D.nx (σ'.set i none) (upd H' a (Caught cls d a)), rt := fun v H' => D.rt v (upd H' a (Caught cls d a)), bk := fun σ' H' => D.bk (σ'.set i none) (upd H' a (Caught cls d a)), ct := fun σ' H' => D.ct (σ'.set i none) (upd H' a (Caught cls d a)) } (σ.set i (some (.ref a))) H) ∧ (b = false → Wout cls d σ H)
section
variable {X : Cx} {x n : Str} {c : Value} {i : Nat} {body suite : List Stmt} {b₀ : Stmt} {np pos pos' : Pos} {tb : WX → TS} {ts : Addr → Value → Option Addr → TS} {Wout : WX}
theorem ps_try_kept (hs : X.stack = X.env :: X.outer) (hf : X.env.frame = some X.env.locals) (hN : X.N.Nodup) (hi : X.N[i]? = some n) (hln : X.env.kindOf n = some .local) (hc : Names X x c) (tk : L2.Takes X Wout) (hex : X.ex = [])
    (hb : ∀ (W : WX) (pn : List (Addr × Obj)) (xe : Value → Shared → Prop), L2.Takes (X.tr pn xe) W → PassesOwn (model X.prog X.w) X.A X.env xe → PSs (X.tr pn xe) body (tb W))
    (hsu : ∀ (a : Addr) (oe : Obj) (cls : Value) (d : Option Addr) (pn : List (Addr × Obj)), Zc cls d oe → (∃ vs, oe.data = .fields vs) → PSs (X.suite a ((a, oe) :: pn)) (b₀ :: suite) (ts a cls d)) :
    PS X (.Try body [.ExceptHandler (some (.Name x np)) (some n) (b₀ :: suite) pos'] [] [] pos) (fun D σ H => tb (wKept X.K c i ts Wout D) D σ H) := by
  refine ⟨fun pins s σ H D I h => ?_⟩; have ok := I.ok
  have frA : X.A.frames = some (X.env :: X.outer) := by rw [ok.frames, hs]
  have locN : Loc X.env.scope n := .inl hln; refine wpAny_Try_except ?_
  refine wpAny_mono ((hb (wKept X.K c i ts Wout D) (X.pn ++ pins) (fun e s₁ => wpAny (model X.prog X.w) X.A (noteFrame e X.env) (fun _ s₂ => wpAny (model X.prog X.w) X.A (setFlight e none) (fun _ s₃ =>
    wpAny (model X.prog X.w) X.A (handleBy e X.env [.ExceptHandler (some (.Name x np)) (some n) (b₀ :: suite) pos']) (SP X pins D) X.xe s₃) X.xe s₂) X.xe s₁) (fun u s' wx => ?_) PassesOwn.looking).run [] s σ H D (I.toTry _) h) (fun f s1 spH => ?_) (fun e s1 he => he)
  · -- the catch
    obtain ⟨a, B, stI, pins', σ', H', cls, d, rfl, J', nB, uP, skyA, nA, oS, aG, b, isB, ifY, ifN⟩ := wx; have J : Inv X pins σ' H' stI := J'.ofTry ok
    have skyB : Sky B (X.env :: X.outer) a (Zc cls d) X.env.locals s'.heap := by rw [← hs]; exact skyA
    show wpAny (model X.prog X.w) X.A (noteFrame (.ref a) X.env) _ _ _; refine Sky.land Zc.steady frA hf skyB fun hp3 fly3 ups3 => ?_
    have K3 : Inv X pins σ' H' { s' with heap := hp3 } := J.landed nB fly3.1 (uP.trans ups3) oS aG; obtain ⟨ob3, fv3, at3, zc3, dt3⟩ := fly3.there
    have noFr : ∀ {h : Heap} {o : Obj} {vs : Array Value}, h.FunFrames B (X.env :: X.outer) → h.get? a = some o → o.data = .fields vs → a ∉ frs (X.env :: X.outer) := fun {h o vs} fF e fD inF => by
      obtain ⟨_, o', e', nF2⟩ := fF.mem inF; rw [e] at e'; cases e'
      exact nF2 _ fD
    have nFr := noFr fly3.2.2.1 at3 dt3
    have nI : ∀ o, stI.heap.get? a ≠ some o := fun o z => by
      have z2 := nB a o z (by rw [hs]; exact nFr)
      rw [fly3.2.1] at z2
      cases z2
    have nLoc : a ≠ X.env.locals := fun z => nFr (List.mem_filterMap.mpr ⟨X.env, List.mem_cons_self, by rw [hf, z]⟩)
    have nFs : a ∉ X.fs := fun inF => by
      obtain ⟨e, he, q⟩ := List.mem_filterMap.mp inF; exact nFr (List.mem_filterMap.mpr ⟨e, List.mem_cons_of_mem _ he, q⟩)
    have T3 := K3.suite at3 dt3 nA nLoc nFs; refine wpAny_handleBy_cons (codeAny_handlers_test ?_) (by intro q; cases q)
    have LkT : PySem.W.Looks (model X.prog X.w) hp3 (typeOf (.ref a)) cls := fun A Q E s k q => wpAny_typeOf_ref (k _ _ at3) (by rw [zc3.1]; exact q)
    have LkM := PySem.W.exm_one (M := model X.prog X.w) (K3.kIn) LkT isB
    have tst : ∀ {Q : Value → Shared → Prop} {E : Value → Shared → Prop}, Q c { s' with heap := hp3 } → wpAny (model X.prog X.w) (X.A.mark (some (.ref a))) (eval (.Name x np) X.env) Q E { s' with heap := hp3 } := fun {Q E} q => by
      obtain ⟨hg, dbgX, inF | ⟨inF, hv, nnX⟩⟩ := hc
      · exact ld_glob (X := X.suite a ((a, ob3) :: (X.pn ++ pins))) T3 hg inF q dbgX
      · exact ld_blt (X := X.suite a ((a, ob3) :: (X.pn ++ pins))) T3 hg inF hv q nnX dbgX
    refine tst (LkM.here ?_)
    cases b with
    | true =>
      refine codeAny_handlers_suite_as ?_; refine HandSPX.lands_againZ fly3 fun hp4 fly4 ups4 => ?_
      have K4 : Inv X pins σ' H' { s' with heap := hp4 } := J.landed nB fly4.1 ((uP.trans ups3).trans ups4) oS aG; obtain ⟨ob4, fv4, at4, zc4, dt4⟩ := fly4.there
      have T4 := K4.suite at4 dt4 nA nLoc nFs; refine store_ok (X := X.suite a ((a, ob4) :: (X.pn ++ pins))) (v := .ref a) T4 hN hi locN rfl (fun s5 T5 => ?_) (.inr hln)
      refine wpAny_mono ((hsu a ob4 cls d (X.pn ++ pins) zc4 ⟨_, dt4⟩).run [] s5 _ H' _ T5 (ifY rfl a nA)) (fun f u6 spH => ?_) (fun _ _ z => False.elim z)
      have goes : ∀ {σ6 : L2.St} {H6 : Hp} {Q : Shared → Prop}, Inv (X.suite a ((a, ob4) :: (X.pn ++ pins))) [] σ6 H6 u6 → (∀ u7, Inv X pins (σ6.set i none) (upd H6 a (Caught cls d a)) u7 → Q u7) →
          wpAny (model X.prog X.w) X.A (do bindName X.env n .none; unbindBehindTheSuite X.env n pos') (fun _ u7 => Q u7) X.xe u6 := fun {σ6 H6 Q} T6 hq => gone_ok (track_of ok hex T6 J nI zc4 ⟨_, dt4⟩) hN hi hln hq
      cases f with
      | next =>
        obtain ⟨σ6, H6, T6, w6⟩ := spH; exact goes T6 fun u7 K7 => ⟨_, _, K7, w6⟩
      | brk =>
        obtain ⟨σ6, H6, T6, w6⟩ := spH; exact goes T6 fun u7 K7 => ⟨_, _, K7, w6⟩
      | cont =>
        obtain ⟨σ6, H6, T6, w6⟩ := spH; exact goes T6 fun u7 K7 => ⟨_, _, K7, w6⟩
      | ret u =>
        obtain ⟨z6, σ6, H6, T6, y6, w6⟩ := spH; exact goes T6 fun u7 K7 => ⟨_, _, _, K7, y6, w6⟩
    | false =>
      show wpAny _ X.A (handleBy (.ref a) X.env []) _ _ _; refine wpAny_handleBy_nil ?_
      obtain ⟨p1, p2, p3, oe, vs, T, oT, ts', he, hz, hd, h1, hr⟩ := id fly3; unfold PySem.passOn
      refine wpAny_bind (wpAny_field he hd h1 ?_); rw [if_neg (show ¬ ((Value.ref T == Value.none) = true) from by simp)]
      have lst : wpAny (model X.prog X.w) X.A (setFlight (.ref a) X.env.frame) (fun _ s4 => wpAny (model X.prog X.w) X.A (throw (.ref a) : Sem Flow) (SP X pins D) X.xe s4) X.xe { s' with heap := hp3 } := by
        rw [hf]; refine HandSPX.setFlight_upZ fly3 fun hp4 held4 ups4 => wpAny_throw (tk _ _ ?_)
        exact ⟨a, B, stI, pins, σ', H', cls, d, rfl, J, nB, (uP.trans ups3).trans ups4, .inr (.inr (by rw [hs]; exact held4)), nA, oS, aG, ifN rfl⟩
      first
        | exact wpAny_bind (wpAny_pure (wpAny_bind lst))
        | exact wpAny_bind lst
  · cases f with
    | next =>
      obtain ⟨σ', H', J', q⟩ := spH; exact wpAny_execs_nil ⟨σ', H', J'.ofTry ok, q⟩
    | brk =>
      obtain ⟨σ', H', J', q⟩ := spH; exact ⟨σ', H', J'.ofTry ok, q⟩
    | cont =>
      obtain ⟨σ', H', J', q⟩ := spH; exact ⟨σ', H', J'.ofTry ok, q⟩
    | ret u =>
      obtain ⟨v, σ', H', J', r, q⟩ := spH; exact ⟨v, σ', H', J'.ofTry ok, r, q⟩
end


end

section
/-! ### isinstance, fields of a kept exception -/
section
variable {X : Cx} {K : PySem.W.Frag}
theorem caught_inst {pins : List (Addr × Obj)} {σ : L2.St} {H : Hp} {s : Shared} {a D dd : Addr} {fs : List (Str × V)} (I : Inv X pins σ H s) (h : H a = some (Caught (.ref D) (some dd) a)) (h2 : H dd = some (.xd fs)) :
    ∃ (oe od : Obj) (mA : Str → Option Value), PySem.W.InstAt s.heap a oe D (some od) ∧ (∀ f, RelO (fs.lookup f) (mA f)) ∧ ∀ n, PySem.W.lookIn n od = some (mA n) := by
  obtain ⟨oe, vs, ha, hz, hd⟩ := caught_at I h
  have hx : ObjOk X.prog X.w H s.heap dd (.xd fs) := I.hok dd _ h2
  obtain ⟨mA, hns, hr⟩ := hx
  obtain ⟨od, ho, hl⟩ := lookIn_ns hns
  exact ⟨oe, od, mA, ⟨ha, hz.1, by unfold PySem.W.notCls; rw [hd] <;> rfl, by rw [hz.2]; exact ho⟩, hr, fun n => hl n⟩
/-- isinstance(e, c), isinstance(e, (c, ..)) of a kept exception -/
def rIsX (K : PySem.W.Frag) : List V → Hp → VK → Prop := fun xs H Q => ∃ (a D dd : Addr) (fs : List (Str × V)) (c : V) (b : Bool), xs = [.ref a, c] ∧ H a = some (Caught (.ref D) (some dd) a) ∧ H dd = some (.xd fs) ∧ ExcC K D ∧ Q (.bl b) H ∧
  ((∃ u, ClsV c u ∧ PySem.W.kitOne K (.ref D) u = some b) ∨ ∃ (tp : Addr) (cs : List V) (us : List Value), c = .ref tp ∧ H tp = some (.tup cs) ∧ Paired ClsV cs us ∧ PySem.W.kitAny K (.ref D) us = some b)
theorem k_isx (K : PySem.W.Frag) (hK : X.K = K := by rfl) : CallR X (.builtin "isinstance") (rIsX K) := by
  subst hK
  intro pins s σ H xs us Q I r h
  obtain ⟨a, D, dd, fs, c, b, rfl, h1, h2, C, q, h⟩ := h
  obtain ⟨oe, od, mA, J, _, _⟩ := caught_inst I h1 h2
  obtain ⟨u1, u2, rfl, r1, r2⟩ := vals2 r
  cases (show u1 = Value.ref a from r1)
  have Z := kitE_any (x := a) (ox := oe) (od := some od) C.hg C.hk C.hs C.hd C.ha C.hn C.ht C.hm
  rcases h with ⟨u, k, e⟩ | ⟨tp, cs, ws, rfl, hT, k, e⟩
  · have e2 := k.eq r2
    subst e2
    exact PySem.W.kia_one Z I.kIn J e (fun z => nomatch z) fun tk => ⟨.bl b, H, I.tok tk, rfl, q⟩
  · cases (show u2 = Value.ref tp from r2)
    obtain ⟨_, its, rv, o, g1, g2, n, g3⟩ := (show ObjOk X.prog X.w H s.heap tp (.tup cs) from I.hok tp _ hT)
    have e3 := ClsV.all k rv
    subst e3
    obtain ⟨oc, od', dt, sl⟩ := o
    simp only at g2 g3
    subst g2 g3
    exact PySem.W.kia_tup Z I.kIn J g1 e (fun z => nomatch z) fun tk => ⟨.bl b, H, I.tok tk, rfl, q⟩
def tCx (K : PySem.W.Frag) (te : TE) (f : Str) : TE := fun σ H Q => te σ H fun x H1 => ∃ (a C dd : Addr) (fs : List (Str × V)) (v : V), x = .ref a ∧ H1 a = some (Caught (.ref C) (some dd) a) ∧ H1 dd = some (.xd fs) ∧ XfC K C ∧ PySem.W.findIn K (.ref C) f = some none ∧ fs.lookup f = some v ∧ Q v H1
theorem k_xfld (K : PySem.W.Frag) {e : Expr} {te : TE} {pos : Pos} {n : Str} (he : PE X e te) (hb : attributeBase e n X.env (eval e X.env) = eval e X.env := by rfl) (hK : X.K = K := by rfl) : PE X (.Attribute e n pos) (tCx K te n) := by
  subst hK
  refine ⟨fun pins s σ H Q I h => attr_of hb (thn (he.run pins s σ H _ I h) fun u s1 ⟨x, H1, I1, rx, a, C, dd, fs, v, ex, h1, h2, T, hno, l, q⟩ => ?_)⟩
  subst ex
  obtain rfl : u = Value.ref a := rx
  obtain ⟨oe, od, mA, J, hr, hl⟩ := caught_inst I1 h1 h2
  obtain ⟨w, hu, ru⟩ := RelO.some_of (v := v) (o := mA n) (by rw [← l]; exact hr n)
  exact HandSPX.exc_get I1.kIn J T.ga T.gg T.exC (PySem.W.findObj_own T.hdC hno rfl (by rw [hl, hu])) (handed_of ru) ⟨v, H1, I1.tok _, ru, q⟩
/-! ### Base.__init__(self, ..) of an own base class that has none -/
structure BaseC (K : PySem.W.Frag) (W : Addr) : Prop where
  rd : PySem.W.readsIn K W (.type "type") = true
  ga : PySem.W.specialIn K (.ref W) "__getattribute__" = some (some (.builtin "type.__getattribute__"))
  at_ : PySem.W.findCls K (.ref W) (.type "type") "__init__" = some (.val (.builtin "ValueError.__init__"))
theorem pe_binit {W : Addr} {x : Str} {e : Expr} {es : List Expr} {ta : TA} {p1 p2 pos : Pos} {pl : Sem Bool} (B : BaseC X.K W) (hm : X.mg x = some (.ref W)) (ha : PA X (e :: es) ta) (hg : Gl X x := by rfl) (hdb : (x == ("__debug__" : Str)) = false := by decide)
    (hc : eval (.Call (.Attribute (.Name x p1) "__init__" p2) (e :: es) [] pos) X.env = (do
      let ov ← eval (.Name x p1) X.env
      standAt p2.atName
      let (f, first) ← holding [ov] (getMethod ov "__init__" pl)
      callWith pos f first (backTo pos (starEach (e :: es) X.env)) (backToKw pos (keywordEach [] X.env))) := by rfl)
    (he : starEach (e :: es) X.env = (false, eval e X.env) :: starEach es X.env := by rfl) (hpl : (backTo pos (starEach es X.env)).any (·.1) = false := by rfl) :
    PE X (.Call (.Attribute (.Name x p1) "__init__" p2) (e :: es) [] pos) (tVeI X.K ta) := by
  refine ⟨fun pins s σ H Q I h => PySem.W.methodCall_KW (ld_glob I hg hm ?_ hdb) hc⟩
  refine PySem.W.method_cls I.kIn B.ga (PySem.W.cls_value I.kIn B.rd B.at_ (by decide +kernel) ?_)
  show wpAny _ _ (callWith pos (Value.builtin "ValueError.__init__") [] (backTo pos (starEach (e :: es) X.env)) []) _ _ _
  refine PyProof.Rows.callWith_method1 (thn (ha.run pos pins _ σ H _ (I.tok _) h) fun us s1 ⟨vs, H1, I1, r1, a, C, ws, ev, hl, T, ea, q⟩ => ?_) he hpl
  subst ev
  cases r1 with
  | @cons _ u0 _ ur ra rw' =>
    obtain rfl : u0 = Value.ref a := ra
    have hlen : ur.length ≤ sizeLine := by
      rw [← Paired.length rw', sizeLine_eq]
      omega
    exact oinit_ok T I1 ea hlen fun s' J => ⟨.non, H1, J, rfl, q⟩
theorem k_ost (K : PySem.W.Frag) {o e : Expr} {to te : TE} {f : Str} {p' pos : Pos} (ho : PE X o to) (he : PE X e te) (hK : X.K = K := by rfl) (hs : swapsWith e (some (.Attribute o f p')) pos.line X.env = pure false := by rfl) : PS X (.Assign [.Attribute o f p'] e pos) (tOst K f to te) := by
  subst hK
  exact ps_ost ho he hs
end
theorem rd_vei {K : PySem.W.Frag} {ta : TA} {σ : L2.St} {H : Hp} {Q : VK} (q : ta σ H fun vs H1 => ∃ (a C : Addr) (ws : List V), vs = .ref a :: ws ∧ ws.length ≤ 1000 ∧ OexC K C ∧ H1 a = some (exo a C none) ∧ Q .non H1) : tVeI K ta σ H Q := q
theorem rd_ost {K : PySem.W.Frag} {f : Str} {to te : TE} {D : Ends} {σ : L2.St} {H : Hp} (q : te σ H fun y H1 => to σ H1 fun x H2 => ∃ a C : Addr, x = .ref a ∧ OexC K C ∧ PySem.W.findIn K (.ref C) f = some none ∧
  ((H2 a = some (exo a C none) ∧ ∀ dx, H2 dx = none → dx ≠ a → D.nx σ (upd (upd H2 dx (exd dx [(f, y)])) a (exo a C (some dx)))) ∨
    ∃ (dx : Addr) (fs : List (Str × V)), H2 a = some (exo a C (some dx)) ∧ H2 dx = some (exd dx fs) ∧ fs.length ≤ 900 ∧ D.nx σ (upd H2 dx (exd dx ((f, y) :: fs))))) : tOst K f to te D σ H := q
/-! ### NoWay -/
structure TxE (K : PySem.W.Frag) (A : CA) : Prop where
  oex : OexC K A.NoWay
  ini : ∃ fI fd, PySem.W.findIn K (.ref A.NoWay) "__init__" = some (some (.ref fI)) ∧ PySem.W.typeIn K (.ref fI) = some (.type "function") ∧ Fun K "__init__" "NoWay.__init__" s_NoWay_init fI fd ∧ Binds K fd ["self", "place", "reason"] []
  pl : PySem.W.findIn K (.ref A.NoWay) "place" = some none
  rs : PySem.W.findIn K (.ref A.NoWay) "reason" = some none
  xf : XfC K A.NoWay
  exc : ExcC K A.NoWay
  way : BaseC K A.WayError
  m1 : PySem.W.exmOne K (.ref A.NoWay) (.ref A.NoWay) = some true
  m2 : PySem.W.exmOne K (.ref A.NoWay) (.ref A.WayError) = some true
  ve : PySem.W.kitOne K (.ref A.NoWay) (.type "ValueError") = some true
section
variable {P : Program} {w : World} {K : PySem.W.Frag} {mg : Str → Option Value} {base : Heap} {A : CA}
def spNW (C : Addr) : Sp := fun vs H Q _ => ∃ (x : Addr) (p r : V), vs = [.ref x, p, r] ∧ H x = some (exo x C none) ∧
  ∀ d, H d = none → d ≠ x → Q .non (upd (upd (upd H d (exd d [("place", p)])) x (exo x C (some d))) d (exd d [("reason", r), ("place", p)]))
/-- NoWay(.., ..) -/
def NwAt (P : Program) (w : World) (K : PySem.W.Frag) (mg : Str → Option Value) (base : Heap) (C : Addr) (k : Nat) : Prop := OexC K C ∧ mg "NoWay" = some (.ref C) ∧
  ∃ fI fd, PySem.W.findIn K (.ref C) "__init__" = some (some (.ref fI)) ∧ PySem.W.typeIn K (.ref fI) = some (.type "function") ∧ FnOk P w K mg base CX0 k fI fd ["self", "place", "reason"] (spNW C) ∧ Binds K fd ["self", "place", "reason"] []
theorem ok_NoWay (T : Txt K mg A) (U : TxE K A) : NwAt P w K mg base A.NoWay 1 := by
  obtain ⟨fI, fd, h1, h2, F, b⟩ := U.ini
  refine ⟨U.oex, T.g_NoWay, fI, fd, h1, h2, F.ok (k := 0) sc_NoWay_init (fun vs H Q E h => ?_) (fun cdv Ar outer s H vs Q E hr h => ?_), b⟩
  · obtain ⟨x, p, r, rfl, _⟩ := h
    rfl
  obtain ⟨x, p, r, rfl, hx, q⟩ := h
  refine ⟨_, pss_cons (ps_expr (pe_binit U.way T.g_WayError (pa_cons (pv 0) (pa_cons pe_str pa_nil)))) (pss_cons (k_ost K (pv 0) (pv 1)) (pss_one (k_ost K (pv 0) (pv 2)))), ?_⟩
  walk_at "rd"
  refine rd_vei ?_
  walk_at "rd"
  refine ⟨x, A.NoWay, [.str "no way"], rfl, by simp, U.oex, hx, ?_⟩
  walk_at "rd"
  refine rd_ost ?_
  walk_at "rd"
  refine ⟨x, A.NoWay, rfl, U.oex, U.pl, .inl ⟨hx, fun dx hd ne => ?_⟩⟩
  dsimp only
  refine rd_ost ?_
  walk_at "rd"
  refine ⟨x, A.NoWay, rfl, U.oex, U.rs, .inr ⟨dx, _, upd_same, by rw [upd_ne ne, upd_same], by simp, ?_⟩⟩
  exact q dx hd ne
theorem pmk_nw {X : Cx} {C : Addr} {j k : Nat} {e : Expr} {es : List Expr} {ta : TA} {p pos : Pos} (c : NwAt X.prog X.w X.K X.mg X.base C j) (hr : Room k X.A) (hl : j + 1 ≤ k) (ha : PA X (e :: es) ta) (hg : Gl X "NoWay" := by rfl)
    (he : starEach (e :: es) X.env = (false, eval e X.env) :: starEach es X.env := by rfl) (hpl : (backTo pos (starEach es X.env)).any (·.1) = false := by rfl) :
    PMk X (.Call (.Name "NoWay" p) (e :: es) [] pos) (tMkO C (spNW C) [] ta) := by
  obtain ⟨T, g, fI, fd, h1, h2, F1, b⟩ := c
  exact pmk_oex T h1 h2 F1 (hr.mono hl) b .nil pass0 hg g ha (by decide) he hpl
/-- the raise, read -/
theorem rd_nw {C : Addr} {p r : V} {H1 : Hp} {Q : XK} (q : ∀ d H', Same H1 H' → H' d = some (.xd [("reason", r), ("place", p)]) → Q (.ref C) (some d) H') :
    ∀ a, H1 a = none → spNW C (.ref a :: ([p, r] ++ [])) (upd H1 a (exo a C none)) (fun v H2 => v = .non ∧ ∃ (d : Addr) (fs : List (Str × V)), H2 a = some (exo a C (some d)) ∧ H2 d = some (exd d fs) ∧ H1 d = none ∧ Q (.ref C) (some d) (upd (del H2 a) d (.xd fs))) (fun _ _ _ => False) := by
  intro a na
  refine ⟨a, p, r, rfl, upd_same, fun d nd ne => ⟨rfl, d, _, by rw [upd_ne (Ne.symm ne), upd_same], upd_same, by rw [upd_ne ne] at nd; exact nd, q d _ (fun b o e => ?_) upd_same⟩⟩
  rw [upd_ne ne] at nd
  have b1 : b ≠ d := ne_of_none e nd
  have b2 : b ≠ a := ne_of_none e na
  rw [upd_ne b1, del_ne b2, upd_ne b1, upd_ne b2, upd_ne b1, upd_ne b2]
  exact e
end

end

section
/-! # set(list of texts), and how many stand in it -/
section
def seen (xs : List Str) (i : Nat) : List Str := (xs.take i).foldl (fun l v => if l.any (· == v) then l else l ++ [v]) []
theorem seen_zero (xs : List Str) : seen xs 0 = [] := rfl
theorem seen_succ {xs : List Str} {i : Nat} (h : i < xs.length) : seen xs (i + 1) = if (seen xs i).any (· == xs.getD i Str.empty) then seen xs i else seen xs i ++ [xs.getD i Str.empty] := by
  have e : xs.take (i + 1) = xs.take i ++ [xs.getD i Str.empty] := by
    rw [List.getD_eq_getElem?_getD, List.getElem?_eq_getElem h, Option.getD_some]
    exact List.take_succ_eq_append_getElem h
  unfold seen
  rw [e, List.foldl_append]
  rfl
theorem seen_len (xs : List Str) : ∀ i, (seen xs i).length ≤ i := by
  intro i
  induction i with
  | zero => exact Nat.le_refl _
  | succ i ih =>
    by_cases h : i < xs.length
    · rw [seen_succ h]
      split
      · omega
      · rw [List.length_append, List.length_singleton]
        omega
    · have e : seen xs (i + 1) = seen xs i := by
        unfold seen
        rw [List.take_of_length_le (by omega), List.take_of_length_le (by omega)]
      rw [e]
      omega
theorem seen_num {xs : List Str} {i : Nat} (h : i < xs.length) : (seen xs (i + 1)).length = if (seen xs i).any (· == xs.getD i Str.empty) then (seen xs i).length else (seen xs i).length + 1 := by
  rw [seen_succ h]
  split <;> simp
theorem seen_any {xs : List Str} {i : Nat} (h : i < xs.length) (k : Str) : (seen xs (i + 1)).any (· == k) = ((seen xs i).any (· == k) || decide (k = xs.getD i Str.empty)) := by
  rw [seen_succ h]
  split
  · rename_i z
    by_cases e : k = xs.getD i Str.empty
    · rw [e, z, Bool.true_or]
    · rw [decide_eq_false e, Bool.or_false]
  · rw [List.any_append]
    congr 1
    by_cases e : k = xs.getD i Str.empty
    · rw [e, decide_eq_true rfl]
      simp
    · have e2 : (xs.getD i Str.empty == k) = false := by simpa [beq_iff_eq] using fun z => e (Eq.symm z)
      rw [decide_eq_false e, List.any_cons, e2] <;> rfl
theorem text_at {us : List Value} {xs : List Str} (h : StrsAre us xs) : ∀ (i : Nat) (v : Value), us[i]? = some v → ∃ t, v = .str (xs.getD i Str.empty) t := by
  induction h with
  | nil =>
    intro i v e
    simp at e
  | cons n t _ ih =>
    intro i v e
    cases i with
    | zero => exact ⟨t, (Option.some.inj (by simpa using e)).symm⟩
    | succ i => exact ih i v (by simpa using e)
/-- how many texts there are, each counted once -/
def dist (xs : List Str) : Nat := (seen xs xs.length).length
theorem dist_le (xs : List Str) : dist xs ≤ xs.length := seen_len xs _
variable {prog : Program} {w : World} {A : Around} {R : Result → Shared → Prop} {I : Addr} {fp wr : List Addr} {G : Array GenState → Array GenState → Prop} {n : Nat} {P : Nat → Value → Prop} {St : Nat → Shared → Prop}
theorem set_loop (W : WalksS prog w A.in1 I fp wr G n P St) (S : Addr) (nIn : S ∉ fp) (xs : List Str) (lenX : xs.length = n) (hn1 : n ≤ 1000)
    (valX : ∀ i v, P i v → ∃ t, v = .str (xs.getD i Str.empty) t) :
    ∀ (k i : Nat) (s : Shared), n - i = k → i ≤ n → St i s →
      s.heap.SetOf (PySem.strKind prog w) S (fun k' => (seen xs i).any (· == k')) (seen xs i).length →
      (∀ s', Moved (S :: wr) G s s' → s'.heap.SetOf (PySem.strKind prog w) S (fun k' => (seen xs n).any (· == k')) (seen xs n).length → R (.ok (.ret .none)) s') →
      codeAny (model prog w) A (.builtin "set.update.loop" ⟨[.ref S, .ref I], []⟩) R s := by
  have nSw : S ∉ wr := fun h => nIn (W.sub _ h)
  have subW : ∀ b ∈ wr, b ∈ S :: wr := fun b hb => List.mem_cons_of_mem _ hb
  intro k
  induction k with
  | zero =>
    intro i s hkn hin2 stI isS goR; have ein : i = n := by omega
    subst ein; refine codeAny_builtin PyProof.Rows.F.entry_set_update_loop ?_
    rw [Around.under_plainId PyProof.Rows.F.plain_set_update_loop _]; show wpAny _ A.in1 (pyNext (.ref I) >>= _) _ _ s
    refine wpAny_bind (W.done s _ _ stI fun s' mvd => ?_)
    show wpAny _ A.in1 (ret Value.none) _ _ s'
    exact wpAny_pure (goR s' (mvd.mono subW) (by
      obtain ⟨o, es, ep, t, hob, more⟩ := isS; exact ⟨o, es, ep, t, mvd.heap S _ nSw hob, more⟩))
  | succ k rec =>
    intro i s hkn hin2 stI isS goR; have ilt : i < n := by omega
    have hsn := seen_len xs i; refine codeAny_builtin PyProof.Rows.F.entry_set_update_loop ?_
    rw [Around.under_plainId PyProof.Rows.F.plain_set_update_loop _]; show wpAny _ A.in1 (pyNext (.ref I) >>= _) _ _ s
    refine wpAny_bind (W.item i s _ _ ilt stI fun v s' hPv hst' mvd => ?_)
    obtain ⟨t, rfl⟩ := valX i v hPv
    have hS' : s'.heap.SetOf (PySem.strKind prog w) S (fun k' => (seen xs i).any (· == k')) (seen xs i).length := by
      obtain ⟨o, es, ep, tb, hob, more⟩ := isS; exact ⟨o, es, ep, tb, mvd.heap S _ nSw hob, more⟩
    show wpAny _ A.in1 (holding [Value.str (xs.getD i Str.empty) t] (setAdd S (.str (xs.getD i Str.empty) t)) >>= _) _ _ s'; refine wpAny_bind (wpAny_holding ?_)
    unfold setAdd; refine wpAny_holding ?_
    refine wpAny_bind ((PySem.strKind prog w).pyHash (k := xs.getD i Str.empty) (strKind_is _ _ _ _) ?_); refine wpAny_setAddHashed_of (knd := PySem.strKind prog w) (s := { s' with toks := s'.toks + 1 }) (strKind_is _ _ _ _) rfl hS' (by unfold scanBound; omega) fun h' sameB isS2 => ?_
    have isSi : h'.SetOf (PySem.strKind prog w) S (fun k' => (seen xs (i + 1)).any (· == k')) (seen xs (i + 1)).length :=
      SetOf_congr isS2 (fun k' => (seen_any (by omega) k').symm) (seen_num (by omega)).symm
    refine wpAny_pure ⟨plainId_quiet PyProof.Rows.F.plain_set_update_loop _, rec (i + 1) _ (by omega) ilt (W.frame _ s' _ _ hst' (Nat.le_succ _) fun b hb o e => ?_) isSi fun s'' hm'' hS'' => ?_⟩
    · rw [sameB.2 b (fun h : b = S => nIn (by rw [← h]; exact hb))]; exact e
    · refine goR s'' (Moved.trans W.gtrans ((mvd.mono subW).then_heap (Nat.le_succ _) fun b o hb e => ?_) hm'') hS''
      rw [sameB.2 b (fun h : b = S => hb (by rw [h]; exact List.mem_cons_self))]; exact e
end
section
variable {prog : Program} {w : World} {A : Around} {E : Value → Shared → Prop} {s : Shared}
section
variable {prog : Program} {w : World} {A : Around} {E : Value → Shared → Prop} {s : Shared}
theorem call_setL {l : Addr} {its : Array Value} {xs : List Str} {Q : Value → Shared → Prop}
    (noH : A.handled = none) (isL : s.heap.IsList l its) (hin2 : PyProof.Rows.StrsAre its.toList xs) (hn1 : xs.length ≤ 1000)
    (h : ∀ (h' : Heap) (tk : Nat), h'.SetOf (PySem.strKind prog w) s.heap.objs.size (fun k' => (seen xs its.size).any (· == k')) (seen xs its.size).length →
      (∀ b o, b < s.heap.objs.size → s.heap.get? b = some o → h'.get? b = some o) → Q (.ref s.heap.objs.size) { s with heap := h', toks := tk }) :
    wpAny (model prog w) A (call (.type "set") [.ref l]) Q E s := by
  obtain ⟨c, tl, mroS⟩ := PySem.F.called_set.mro; have madeS := PySem.F.called_set.made
  have subW := PySem.F.called_set.sub; refine wpAny_call (codeAny_of_tree ?_)
  show wpAny _ _ (callAny (.type "set") _) _ _ _; refine wpAny_pure ⟨Code.quiet_builtin _ (by decide +kernel), codeAny_builtin PySem.F.entry_type_call ?_⟩
  rw [Around.under_plain (weight_type_call_type "set" [.ref l] []) rfl]; have q1 := PySem.F.called_set.notType
  have q2 := PySem.F.called_set.canCreate; have tcS := PySem.F.typeCall_set_1 (.ref l)
  repeat (any_goals (first | assumption | wp_step))
  refine codeAny_mono (code_set_new_1 (.ref l) (E := E) (Q₁ := fun nob s₁ => ∃ lg : Bool, nob = .ref s.heap.objs.size ∧ s₁ = { s with heap := s.heap.push { cls := .type "set", dict := none, data := .set #[] 0 (.fresh 0 0 lg) } }) fun lg => ⟨lg, rfl, rfl⟩) fun r s₁ rOk => ?_
  cases r with
  | error e => exact rOk
  | ok fl =>
    cases fl with
    | ret nob =>
      obtain ⟨lg, rfl, rfl⟩ := rOk; have isS : (s.heap.push { cls := .type "set", dict := none, data := .set #[] 0 (.fresh 0 0 lg) }).get? s.heap.objs.size = some { cls := .type "set", dict := none, data := .set #[] 0 (.fresh 0 0 lg) } := Heap.get?_push_size _ rfl
      have tyS0 : Shared.TypeIs { s with heap := s.heap.push { cls := .type "set", dict := none, data := .set #[] 0 (.fresh 0 0 lg) } } (.ref s.heap.objs.size) "set" := ⟨_, isS, rfl⟩; have liS := PySem.F.called_set.init.lookup
      have biS := PySem.F.called_set.init.bind (.ref s.heap.objs.size)
      repeat (any_goals (first | assumption | wp_step))
      refine codeAny_mono (codeAny_call_builtin (R := wants (fun r s₂ => r = .none ∧ ∃ h' tk, s₂ = { s with heap := h', toks := tk } ∧
          h'.SetOf (PySem.strKind prog w) s.heap.objs.size (fun k' => (seen xs its.size).any (· == k')) (seen xs its.size).length ∧
          (∀ b o, b < s.heap.objs.size → s.heap.get? b = some o → h'.get? b = some o)) E) PySem.F.called_set.init.plain PySem.F.entry_set_init (check_set_init_1 tyS0 ?_)) fun r₂ s₂ rOk2 => ?_
      · obtain ⟨ol, oAt, oCl, nL, oDt⟩ := isL
        obtain ⟨o1, o2, o3, o4⟩ := ol; simp only at oCl oDt
        subst oCl; subst oDt; have oAt2 : (s.heap.push { cls := .type "set", dict := none, data := .set #[] 0 (.fresh 0 0 lg) }).get? l = some { cls := .type "list", dict := o2, data := .seq its nL, slots := o4 } := Heap.get?_push_of_some _ oAt
        have sl1 := PySem.F.sub_list_set; have sl2 := PySem.F.sub_list_frozenset
        have neT : (Value.type "list" == Value.type "dict") = false := by decide
        have isL1 : (s.heap.push { cls := .type "set", dict := none, data := .set #[] 0 (.fresh 0 0 lg) }).IsList l its := ⟨_, oAt2, rfl, nL, rfl⟩; unfold Builtin.«set.__init__» noKeywords Builtin.Frozenset.updateFrom
        generalize ePI : pyIter = PI
        wp_walk
        subst ePI; refine wpAny_pyIter_list isL1 ?_
        refine wpAny_bind (wpAny_runValue ?_); have ltS : l < s.heap.objs.size := Heap.lt_size oAt
        have noH3 : A.in1.in1.in1.handled = none := by simp [noH]
        have neI : l ≠ (s.heap.push { cls := .type "set", dict := none, data := .set #[] 0 (.fresh 0 0 lg) }).objs.size := by
          rw [Heap.size_push]; exact Nat.ne_of_lt (Nat.lt_succ_of_lt ltS)
        have nIn : s.heap.objs.size ∉ [(s.heap.push { cls := .type "set", dict := none, data := .set #[] 0 (.fresh 0 0 lg) }).objs.size, l] := by
          rw [Heap.size_push]; simp only [List.mem_cons, List.mem_singleton, List.not_mem_nil, or_false, not_or]; exact ⟨Nat.ne_of_lt (Nat.lt_succ_self _), Nat.ne_of_gt ltS⟩
        have lenX : xs.length = its.size := by rw [← StrsAre.len_eq hin2, Array.length_toList]
        have valX : ∀ (i : Nat) (v : Value), its[i]? = some v → ∃ t, v = .str (xs.getD i Str.empty) t := fun i v hv => text_at hin2 i v (by rw [Array.getElem?_toList]; exact hv)
        refine set_loop ((Walks.list noH3 _ l neI its).toS) s.heap.objs.size
          nIn xs lenX (by rw [← lenX]; exact hn1) valX (its.size - 0) 0 _ (by omega) (Nat.zero_le _)
          ⟨⟨_, Heap.get?_push_size _ rfl, rfl, rfl⟩, (isL1.push _)⟩ ?hS0 ?goR
        case hS0 =>
          have getS : ((s.heap.push { cls := .type "set", dict := none, data := .set #[] 0 (.fresh 0 0 lg) }).push { cls := .type "list_iterator", data := .fields #[.ref l, .int 0 0] }).get? s.heap.objs.size
              = some { cls := .type "set", dict := none, data := .set #[] 0 (.fresh 0 0 lg) } := Heap.get?_push_of_some _ isS
          exact PyProof.Rows.SetOf_congr ((PyProof.Rows.setObjOf_fresh (knd := PySem.strKind prog w) lg).setOf getS (by unfold scanBound; omega)) (fun _ => rfl) rfl
        case goR =>
          intro s' mvd hS'; obtain ⟨h', g', d', tk', os'⟩ := s'
          have e1 : g' = s.gens := mvd.gens; have e2 : d' = s.drawn := mvd.drawn
          have e3 : os' = s.os := mvd.os; subst e1; subst e2; subst e3
          show wpAny _ _ _ _ _ _; refine wpAny_pure ?_
          show wpAny _ _ (ret Value.none) _ _ _; refine wpAny_pure ⟨rfl, h', tk', rfl, hS', fun b o hb e => ?_⟩
          have nb1 : b ≠ s.heap.objs.size := Nat.ne_of_lt hb
          have nb2 : b ≠ (s.heap.push { cls := .type "set", dict := none, data := .set #[] 0 (.fresh 0 0 lg) }).objs.size := by
            rw [Heap.size_push]; exact Nat.ne_of_lt (Nat.lt_succ_of_lt hb)
          exact mvd.heap b o (by simp only [List.mem_cons, List.mem_singleton, List.not_mem_nil, or_false, not_or]; exact ⟨nb1, nb2⟩) (Heap.get?_push_of_some _ (Heap.get?_push_of_some _ e))
      · cases r₂ with
        | error e => exact rOk2
        | ok fl₂ =>
          cases fl₂ with
          | ret r =>
            obtain ⟨rfl, h', tk, rfl, hS', hk'⟩ := rOk2
            repeat (any_goals (first | assumption | wp_step))
            exact h _ _ hS' hk'
          | _ => exact rOk2.elim
    | _ => exact rOk.elim
end
end
/-! ### len(set(xs)) -/
section
variable {X : Cx}
def tLenSetS (K : PySem.W.Frag) (ta : TE) : TE := fun σ H Q => ta σ H fun x H1 => ∃ (l : Addr) (xs : List Str), x = .ref l ∧ SqL K H1 l (xs.map V.str) ∧ xs.length ≤ 1000 ∧ Q (.int (dist xs)) H1
theorem texts_of : ∀ {ys : List Str} {us : List Value}, Vals (ys.map V.str) us → StrsAre us ys
  | [], _, .nil => .nil
  | y :: ys, _, .cons r t => by
    obtain ⟨k, rfl⟩ := r
    exact .cons y k (texts_of t)
theorem pe_lenSetS {a : Expr} {ta : TE} {p p2 q pos : Pos} (hc : X.calm = true) (hg : Gl X "len") (hm : X.mg "len" = none) (hg2 : Gl X "set") (hm2 : X.mg "set" = none) (ha : PE X a ta)
    (na : starEach [a] X.env = (false, eval a X.env) :: starEach [] X.env := by rfl) : PE X (.Call (.Name "len" p) [.Call (.Name "set" p2) [a] [] q] [] pos) (tLenSetS X.K ta) := by
  refine ⟨fun pins s σ H Q I h => Call_ (ld_blt I hg hm boot_len (PyProof.Rows.callWith_builtin1 (PyProof.Rows.args_cons ?_ rfl) rfl rfl))⟩
  refine Call_ (ld_blt I hg2 hm2 boot_set (PyProof.Rows.callWith_type1 (PyProof.Rows.args_cons (thn (ha.run pins s σ H _ I h) fun v s1 ⟨x, H1, I1, r1, l, xs, ex, hq, h1, q1⟩ => PyProof.Rows.args_nil ?_) na) na rfl))
  subst ex
  cases r1
  obtain ⟨its, r, pl, hz⟩ := I1.list hq
  have hl : its.toArray.size = xs.length := by rw [List.size_toArray, ← r.length, List.length_map]
  refine call_setL (I1.ok.hd hc) pl.isList (xs := xs) (by simpa using texts_of r) h1 fun h' tk hS hk => PyProof.Rows.args_nil ?_
  rw [hl] at hS
  obtain ⟨o, es, ep, t, ho, hex, hd, _, _, _, hf, hn⟩ := hS
  have I2 : Inv X pins σ H1 { s1 with heap := h', toks := tk } := I1.kept fun b o e => hk b o (Heap.lt_size e) e
  have hle : (seen xs xs.length).length ≤ xs.length := seen_len xs _
  refine call_len_set ho hex hd hf (by rw [hn] <;> omega) ⟨.int (dist xs), H1, I2.tok _, ⟨_, by rw [hn] <;> rfl⟩, q1⟩
end

end

section
/-! # what the looker asks, as plain data -/
def RC.tag : RC → Nat | .add => 0 | .less => 1 | .mix => 2 | .swap => 3 | .turn => 4 | .push => 5 | .pop => 6 | .call => 7 | .back => 8 | .cho => 9 | .loop => 10 | .held => 11
def Rw.fbox : Rw → List Str
  | .chg _ b _ => [b]
  | .turn b _ => [b]
  | .mov _ b _ => [b]
  | .swap a b => [a, b]
  | _ => []
def Rw.fstk : Rw → List Str
  | .mov _ _ s => [s]
  | _ => []
def Rw.rtn (N : List Str) : Rw → Bool
  | .nam _ x => decide (x ∈ N)
  | _ => true
def Rw.self : Rw → Bool
  | .chg _ b e => decide (b ∉ e.bx)
  | .swap a b => decide (a ≠ b)
  | _ => true
def Rw.kept (S N th : List Str) : Rw → Bool
  | .held b _ _ _ => decide (b ∉ th ++ S ++ N)
  | _ => true
def Rw.ins (th : List Str) : Rw → List Str
  | .held b _ _ _ => th ++ [b]
  | _ => th
def Rw.abox (r : Rw) : List Str := r.fbox ++ r.says.flatMap Sy.bx
def Rw.astk (r : Rw) : List Str := r.fstk ++ r.says.flatMap Sy.st
def Rw.whyN (S N : List Str) (r : Rw) (th : List Str) : Option Str :=
  if decide (∀ x ∈ r.abox, x ∈ th) = false then some "box" else if decide (∀ x ∈ r.astk, x ∈ S) = false then some "stack" else if r.rtn N = false then some "routine" else none
def Rw.whyK (S N : List Str) (r : Rw) (th : List Str) : Option Str := if r.self = false then some "itself" else if r.kept S N th = false then some "held" else none
abbrev Fail := Option (List PyData × Str)
def at' (pl : List PyData) (y : Option Str) : Fail := y.map fun y => (pl, y)
def Rw.why (S N : List Str) (r : Rw) (th : List Str) (pl : List PyData) : Fail := (at' pl (r.whyN S N th)).or (at' pl (r.whyK S N th))
mutual
def Rw.look (S N : List Str) : Rw → List Str → List PyData → Fail
  | .chg k b e, th, pl => (Rw.chg k b e).why S N th pl
  | .swap a b, th, pl => (Rw.swap a b).why S N th pl
  | .turn b n, th, pl => (Rw.turn b n).why S N th pl
  | .mov k b s, th, pl => (Rw.mov k b s).why S N th pl
  | .nam k x, th, pl => (Rw.nam k x).why S N th pl
  | .blk k t y n a, th, pl => ((Rw.blk k t y n a).why S N th pl).or ((lookRs S N y th (pl ++ [.int 0]) 0).or (lookRs S N n th (pl ++ [.int 1]) 0))
  | .held b e y f, th, pl => ((Rw.held b e y f).why S N th pl).or (lookRs S N y (th ++ [b]) (pl ++ [.int 0]) 0)
def lookRs (S N : List Str) : List Rw → List Str → List PyData → Nat → Fail
  | [], _, _, _ => none
  | r :: rs, th, pl, k => (r.look S N th (pl ++ [.int (k : Nat)])).or (lookRs S N rs th pl (k + 1))
end
def lookPs (S N : List Str) : List (List Rw) → List Str → List PyData → Nat → Fail
  | [], _, _, _ => none
  | l :: ls, th, pl, k => (lookRs S N l th (pl ++ [.int (k : Nat)]) 0).or (lookPs S N ls th pl (k + 1))
theorem Rw.look_eq {S N : List Str} (r : Rw) (th : List Str) (pl : List PyData) : r.look S N th pl = (r.why S N th pl).or (lookPs S N r.innerR (r.ins th) pl 0) := by
  cases r <;> simp [Rw.look, Rw.innerR, Rw.ins, lookPs]
def Pg.names (p : Pg) : List Str := p.bx ++ p.st ++ p.rt.map (·.1)
def lookAll (S N B : List Str) : List (Str × List Rw) → Fail
  | [] => none
  | x :: r => (lookRs S N x.2 B [.str x.1] 0).or (lookAll S N B r)
def Pg.one (p : Pg) : Fail := if dist p.names < p.names.length then some ([], "names") else none
def Pg.look (p : Pg) : Fail := p.one.or (lookAll p.st (p.rt.map (·.1)) p.bx p.rt)
/-! ### the look of a mirror -/
theorem Rw.mir_says (r : Rw) : ∀ {α : Type} (f : Sy → List α) (x : α), x ∈ r.mir.says.flatMap f ↔ x ∈ r.says.flatMap f := by
  intro α f x
  cases r with
  | blk k t y n a =>
    show x ∈ [a, t].flatMap f ↔ x ∈ [t, a].flatMap f
    simp [or_comm]
  | held b e y g =>
    show x ∈ [g, e].flatMap f ↔ x ∈ [e, g].flatMap f
    simp [or_comm]
  | _ => exact Iff.rfl
theorem Rw.mir_fbox (r : Rw) : r.mir.fbox = r.fbox := by cases r <;> rfl
theorem Rw.mir_fstk (r : Rw) : r.mir.fstk = r.fstk := by cases r <;> rfl
theorem Rw.mir_whyN {S N : List Str} (r : Rw) (th : List Str) : r.mir.whyN S N th = r.whyN S N th := by
  have e1 : decide (∀ x ∈ r.mir.abox, x ∈ th) = decide (∀ x ∈ r.abox, x ∈ th) := by
    refine decide_eq_decide.mpr (forall_congr' fun x => ?_)
    unfold Rw.abox
    rw [List.mem_append, List.mem_append, r.mir_says, r.mir_fbox]
  have e2 : decide (∀ x ∈ r.mir.astk, x ∈ S) = decide (∀ x ∈ r.astk, x ∈ S) := by
    refine decide_eq_decide.mpr (forall_congr' fun x => ?_)
    unfold Rw.astk
    rw [List.mem_append, List.mem_append, r.mir_says, r.mir_fstk]
  have e3 : r.mir.rtn N = r.rtn N := by cases r <;> rfl
  unfold Rw.whyN
  rw [e1, e2, e3]
theorem Rw.mir_whyK {S N : List Str} (r : Rw) (th : List Str) : r.mir.whyK S N th = r.whyK S N th := by
  have e1 : r.mir.self = r.self := by cases r <;> rfl
  have e2 : r.mir.kept S N th = r.kept S N th := by cases r <;> rfl
  unfold Rw.whyK
  rw [e1, e2]
def Rw.fine (S N : List Str) (r : Rw) (th : List Str) : Prop := r.whyN S N th = none ∧ r.whyK S N th = none
theorem Rw.why_none {S N : List Str} {r : Rw} {th : List Str} {pl : List PyData} : r.why S N th pl = none ↔ r.fine S N th := by
  unfold Rw.why Rw.fine at'
  rw [Option.or_eq_none_iff, Option.map_eq_none_iff, Option.map_eq_none_iff]
mutual
def Rw.let' (S N : List Str) : Rw → List Str → Prop
  | .chg k b e, th => (Rw.chg k b e).fine S N th
  | .swap a b, th => (Rw.swap a b).fine S N th
  | .turn b n, th => (Rw.turn b n).fine S N th
  | .mov k b s, th => (Rw.mov k b s).fine S N th
  | .nam k x, th => (Rw.nam k x).fine S N th
  | .blk k t y n a, th => (Rw.blk k t y n a).fine S N th ∧ letRs S N y th ∧ letRs S N n th
  | .held b e y f, th => (Rw.held b e y f).fine S N th ∧ letRs S N y (th ++ [b])
def letRs (S N : List Str) : List Rw → List Str → Prop
  | [], _ => True
  | r :: rs, th => r.let' S N th ∧ letRs S N rs th
end
mutual
theorem Rw.look_none {S N : List Str} : ∀ (r : Rw) (th : List Str) (pl : List PyData), r.look S N th pl = none ↔ r.let' S N th
  | .chg _ _ _, _, _ => Rw.why_none
  | .swap _ _, _, _ => Rw.why_none
  | .turn _ _, _, _ => Rw.why_none
  | .mov _ _ _, _, _ => Rw.why_none
  | .nam _ _, _, _ => Rw.why_none
  | .blk k t y n a, th, pl => by
    show Option.or _ (Option.or _ _) = none ↔ _ ∧ _ ∧ _
    rw [Option.or_eq_none_iff, Option.or_eq_none_iff, Rw.why_none, lookRs_none y, lookRs_none n]
  | .held b e y f, th, pl => by
    show Option.or _ _ = none ↔ _ ∧ _
    rw [Option.or_eq_none_iff, Rw.why_none, lookRs_none y]
theorem lookRs_none {S N : List Str} : ∀ (rs : List Rw) (th : List Str) (pl : List PyData) (k : Nat), lookRs S N rs th pl k = none ↔ letRs S N rs th
  | [], _, _, _ => by simp [lookRs, letRs]
  | r :: rs, th, pl, k => by
    show Option.or _ _ = none ↔ _ ∧ _
    rw [Option.or_eq_none_iff, Rw.look_none r, lookRs_none rs]
end
theorem letRs_app {S N : List Str} {th : List Str} : ∀ (rs ss : List Rw), letRs S N (rs ++ ss) th ↔ letRs S N rs th ∧ letRs S N ss th
  | [], ss => by simp [letRs]
  | r :: rs, ss => by
    show _ ∧ letRs S N (rs ++ ss) th ↔ (_ ∧ _) ∧ _
    rw [letRs_app rs ss, and_assoc]
theorem Rw.mir_fine {S N : List Str} (r : Rw) (th : List Str) : r.mir.fine S N th ↔ r.fine S N th := by
  unfold Rw.fine
  rw [r.mir_whyN, r.mir_whyK]
mutual
theorem Rw.mir_let {S N : List Str} : ∀ (r : Rw) (th : List Str), r.mir.let' S N th ↔ r.let' S N th
  | .chg k b e, th => Rw.mir_fine (.chg k b e) th
  | .swap a b, th => Iff.rfl
  | .turn b n, th => Rw.mir_fine (.turn b n) th
  | .mov k b s, th => Rw.mir_fine (.mov k b s) th
  | .nam k x, th => Iff.rfl
  | .blk k t y n a, th => by
    show (Rw.blk k t y n a).mir.fine S N th ∧ letRs S N (mirRs y) th ∧ letRs S N (mirRs n) th ↔ _ ∧ _ ∧ _
    rw [Rw.mir_fine, mirRs_let y, mirRs_let n]
  | .held b e y f, th => by
    show (Rw.held b e y f).mir.fine S N th ∧ letRs S N (mirRs y) (th ++ [b]) ↔ _ ∧ _
    rw [Rw.mir_fine, mirRs_let y]
theorem mirRs_let {S N : List Str} : ∀ (rs : List Rw) (th : List Str), letRs S N (mirRs rs) th ↔ letRs S N rs th
  | [], _ => Iff.rfl
  | r :: rs, th => by
    show letRs S N (mirRs rs ++ [r.mir]) th ↔ _ ∧ _
    rw [letRs_app, mirRs_let rs]
    show _ ∧ (_ ∧ True) ↔ _
    rw [Rw.mir_let r, and_true, and_comm]
end
theorem lookAll_none {S N B : List Str} : ∀ (l : List (Str × List Rw)), lookAll S N B l = none ↔ ∀ x ∈ l, letRs S N x.2 B
  | [] => by simp [lookAll]
  | x :: r => by
    show Option.or _ _ = none ↔ _
    rw [Option.or_eq_none_iff, lookRs_none, lookAll_none r]
    simp
theorem Pg.mir_names (p : Pg) : p.mir.names = p.names := by
  have e : p.mir.rt.map (·.1) = p.rt.map (·.1) := by
    show (p.rt.map Pg.mirR).map _ = _
    rw [List.map_map]
    rfl
  unfold Pg.names
  rw [e]
  rfl
theorem Pg.mir_look (p : Pg) : p.mir.look = none ↔ p.look = none := by
  have e : p.mir.rt.map (·.1) = p.rt.map (·.1) := by
    show (p.rt.map Pg.mirR).map _ = _
    rw [List.map_map]
    rfl
  unfold Pg.look Pg.one
  rw [Option.or_eq_none_iff, Option.or_eq_none_iff, p.mir_names, e, lookAll_none, lookAll_none]
  refine and_congr Iff.rfl ?_
  show (∀ x ∈ p.rt.map Pg.mirR, _) ↔ _
  constructor
  · intro h x hx
    exact (mirRs_let x.2 p.bx).mp (h _ (List.mem_map.mpr ⟨x, hx, rfl⟩))
  · intro h x hx
    obtain ⟨y, hy, rfl⟩ := List.mem_map.mp hx
    exact (mirRs_let y.2 p.bx).mpr (h y hy)


end

section
section
variable {P : Program} {w : World} {K : PySem.W.Frag} {mg : Str → Option Value} {base : Heap} {A : CA}
/-! # the looker, walked -/
def RC.asked : RC → Bool | .cho => false | .loop => false | _ => true
theorem Txt.is_RR (T : Txt K mg A) : ∀ (i j : RC), j.asked = true → PySem.W.kitOne K (.ref (A.r i)) (.ref (A.r j)) = some (i.tag == j.tag)
  | .add, .add, _ => T.is_Add_Add
  | .add, .less, _ => T.is_Add_Less
  | .add, .mix, _ => T.is_Add_Mix
  | .add, .swap, _ => T.is_Add_Swap
  | .add, .turn, _ => T.is_Add_Turn
  | .add, .push, _ => T.is_Add_Push
  | .add, .pop, _ => T.is_Add_Pop
  | .add, .call, _ => T.is_Add_Call
  | .add, .back, _ => T.is_Add_Back
  | .add, .held, _ => T.is_Add_Held
  | .less, .add, _ => T.is_Less_Add
  | .less, .less, _ => T.is_Less_Less
  | .less, .mix, _ => T.is_Less_Mix
  | .less, .swap, _ => T.is_Less_Swap
  | .less, .turn, _ => T.is_Less_Turn
  | .less, .push, _ => T.is_Less_Push
  | .less, .pop, _ => T.is_Less_Pop
  | .less, .call, _ => T.is_Less_Call
  | .less, .back, _ => T.is_Less_Back
  | .less, .held, _ => T.is_Less_Held
  | .mix, .add, _ => T.is_Mix_Add
  | .mix, .less, _ => T.is_Mix_Less
  | .mix, .mix, _ => T.is_Mix_Mix
  | .mix, .swap, _ => T.is_Mix_Swap
  | .mix, .turn, _ => T.is_Mix_Turn
  | .mix, .push, _ => T.is_Mix_Push
  | .mix, .pop, _ => T.is_Mix_Pop
  | .mix, .call, _ => T.is_Mix_Call
  | .mix, .back, _ => T.is_Mix_Back
  | .mix, .held, _ => T.is_Mix_Held
  | .swap, .add, _ => T.is_Swap_Add
  | .swap, .less, _ => T.is_Swap_Less
  | .swap, .mix, _ => T.is_Swap_Mix
  | .swap, .swap, _ => T.is_Swap_Swap
  | .swap, .turn, _ => T.is_Swap_Turn
  | .swap, .push, _ => T.is_Swap_Push
  | .swap, .pop, _ => T.is_Swap_Pop
  | .swap, .call, _ => T.is_Swap_Call
  | .swap, .back, _ => T.is_Swap_Back
  | .swap, .held, _ => T.is_Swap_Held
  | .turn, .add, _ => T.is_Turn_Add
  | .turn, .less, _ => T.is_Turn_Less
  | .turn, .mix, _ => T.is_Turn_Mix
  | .turn, .swap, _ => T.is_Turn_Swap
  | .turn, .turn, _ => T.is_Turn_Turn
  | .turn, .push, _ => T.is_Turn_Push
  | .turn, .pop, _ => T.is_Turn_Pop
  | .turn, .call, _ => T.is_Turn_Call
  | .turn, .back, _ => T.is_Turn_Back
  | .turn, .held, _ => T.is_Turn_Held
  | .push, .add, _ => T.is_Push_Add
  | .push, .less, _ => T.is_Push_Less
  | .push, .mix, _ => T.is_Push_Mix
  | .push, .swap, _ => T.is_Push_Swap
  | .push, .turn, _ => T.is_Push_Turn
  | .push, .push, _ => T.is_Push_Push
  | .push, .pop, _ => T.is_Push_Pop
  | .push, .call, _ => T.is_Push_Call
  | .push, .back, _ => T.is_Push_Back
  | .push, .held, _ => T.is_Push_Held
  | .pop, .add, _ => T.is_Pop_Add
  | .pop, .less, _ => T.is_Pop_Less
  | .pop, .mix, _ => T.is_Pop_Mix
  | .pop, .swap, _ => T.is_Pop_Swap
  | .pop, .turn, _ => T.is_Pop_Turn
  | .pop, .push, _ => T.is_Pop_Push
  | .pop, .pop, _ => T.is_Pop_Pop
  | .pop, .call, _ => T.is_Pop_Call
  | .pop, .back, _ => T.is_Pop_Back
  | .pop, .held, _ => T.is_Pop_Held
  | .call, .add, _ => T.is_Call_Add
  | .call, .less, _ => T.is_Call_Less
  | .call, .mix, _ => T.is_Call_Mix
  | .call, .swap, _ => T.is_Call_Swap
  | .call, .turn, _ => T.is_Call_Turn
  | .call, .push, _ => T.is_Call_Push
  | .call, .pop, _ => T.is_Call_Pop
  | .call, .call, _ => T.is_Call_Call
  | .call, .back, _ => T.is_Call_Back
  | .call, .held, _ => T.is_Call_Held
  | .back, .add, _ => T.is_Back_Add
  | .back, .less, _ => T.is_Back_Less
  | .back, .mix, _ => T.is_Back_Mix
  | .back, .swap, _ => T.is_Back_Swap
  | .back, .turn, _ => T.is_Back_Turn
  | .back, .push, _ => T.is_Back_Push
  | .back, .pop, _ => T.is_Back_Pop
  | .back, .call, _ => T.is_Back_Call
  | .back, .back, _ => T.is_Back_Back
  | .back, .held, _ => T.is_Back_Held
  | .cho, .add, _ => T.is_Choice_Add
  | .cho, .less, _ => T.is_Choice_Less
  | .cho, .mix, _ => T.is_Choice_Mix
  | .cho, .swap, _ => T.is_Choice_Swap
  | .cho, .turn, _ => T.is_Choice_Turn
  | .cho, .push, _ => T.is_Choice_Push
  | .cho, .pop, _ => T.is_Choice_Pop
  | .cho, .call, _ => T.is_Choice_Call
  | .cho, .back, _ => T.is_Choice_Back
  | .cho, .held, _ => T.is_Choice_Held
  | .loop, .add, _ => T.is_Loop_Add
  | .loop, .less, _ => T.is_Loop_Less
  | .loop, .mix, _ => T.is_Loop_Mix
  | .loop, .swap, _ => T.is_Loop_Swap
  | .loop, .turn, _ => T.is_Loop_Turn
  | .loop, .push, _ => T.is_Loop_Push
  | .loop, .pop, _ => T.is_Loop_Pop
  | .loop, .call, _ => T.is_Loop_Call
  | .loop, .back, _ => T.is_Loop_Back
  | .loop, .held, _ => T.is_Loop_Held
  | .held, .add, _ => T.is_Held_Add
  | .held, .less, _ => T.is_Held_Less
  | .held, .mix, _ => T.is_Held_Mix
  | .held, .swap, _ => T.is_Held_Swap
  | .held, .turn, _ => T.is_Held_Turn
  | .held, .push, _ => T.is_Held_Push
  | .held, .pop, _ => T.is_Held_Pop
  | .held, .call, _ => T.is_Held_Call
  | .held, .back, _ => T.is_Held_Back
  | .held, .held, _ => T.is_Held_Held
  | _, .cho, h => by cases h
  | _, .loop, h => by cases h
theorem kitAny_RR (T : Txt K mg A) (i : RC) : ∀ (js : List RC), js.all RC.asked = true → PySem.W.kitAny K (.ref (A.r i)) (js.map fun j => .ref (A.r j)) = some (js.any fun j => i.tag == j.tag)
  | [], _ => rfl
  | j :: js, h => by
    rw [List.all_cons, Bool.and_eq_true] at h
    have e := T.is_RR i j h.1
    have ih := kitAny_RR T i js h.2
    rw [List.map_cons, List.any_cons]
    unfold PySem.W.kitAny
    rw [e]
    cases hb : i.tag == j.tag with
    | true => rfl
    | false => exact ih
theorem paired_cls : ∀ (js : List RC), Paired ClsV (js.map fun j => V.ref (A.r j)) (js.map fun j => Value.ref (A.r j))
  | [] => .nil
  | j :: js => .cons (.own _) (paired_cls js)
def Rw.isIn (js : List RC) (r : Rw) : Bool := js.any fun j => r.cls.tag == j.tag
theorem rd_isRs (T : Txt K mg A) (js : List RC) {H : Hp} {r : Rw} {v : V} {p : Addr} {Q : VK} (ha : js.all RC.asked = true) (hp : H p = some (.tup (js.map fun j => V.ref (A.r j)))) (hO : OR A H r v) (q : Q (.bl (r.isIn js)) H) : rIsiB K [v, .ref p] H Q :=
  rd_isiT hp (paired_cls js) (hO.tyx T) (kitAny_RR T r.cls js ha) q
theorem rd_isR1 (T : Txt K mg A) {j : RC} {H : Hp} {r : Rw} {v : V} {Q : VK} (ha : j.asked = true) (hO : OR A H r v) (q : Q (.bl (r.cls.tag == j.tag)) H) : rIsiB K [v, .ref (A.r j)] H Q :=
  rd_isi (.own _) (hO.tyx T) (T.is_RR r.cls j ha) q
/-- the fields of a row -/
def spFB (A : CA) : Sp := fun vs H Q _ => ∃ (v : V) (r : Rw), vs = [v] ∧ OR A H r v ∧ ∀ (p : Addr) (H' : Hp), H p = none → Same H H' → H' p = some (.lst (r.fbox.map V.str)) → Q (.ref p) H'
theorem ok_field_boxes (T : Txt K mg A) : Cal P w K mg base CX0 "field_boxes" 1 ["row"] (spFB A) := by
  refine T.d_field_boxes.ok sc_field_boxes (fun vs H Q E h => ?_) (fun f cdv Ar outer s H vs Q E hr h => ?_)
  · obtain ⟨v, r, rfl, _⟩ := h
    rfl
  obtain ⟨v, r, rfl, hO, q⟩ := h
  refine ⟨_, (pss_cons (ps_if (pt_val (pe_callB (k_isi K) (by rfl) T.b_isinstance bt_isinstance (pa_cons (pv 0) (pa_cons (pe_tup (pa_cons (pe_gref T.g_Add) (pa_cons (pe_gref T.g_Less) (pa_cons (pe_gref T.g_Mix) (pa_cons (pe_gref T.g_Turn) (pa_cons (pe_gref T.g_Push) (pa_cons (pe_gref T.g_Pop) pa_nil))))))) pa_nil)))) (pss_one (ps_ret (pe_lst (pa_cons (k_fld K (pv 0) rfl) pa_nil)))) pss_nil)
    (pss_one (ps_ret (pe_ifExp (pt_val (pe_callB (k_isi K) (by rfl) T.b_isinstance bt_isinstance (pa_cons (pv 0) (pa_cons (pe_gref T.g_Swap) pa_nil)))) (pe_lst (pa_cons (k_fld K (pv 0) rfl) (pa_cons (k_fld K (pv 0) rfl) pa_nil))) (pe_lst pa_nil))))), ?_⟩
  walk_at "rd"
  refine rd_new (by simp) fun p H1 np e1 hp => ?_
  refine rd_isRs T [.add, .less, .mix, .turn, .push, .pop] rfl hp (hO.sm e1) ?_
  walk_at "rd"
  have hO1 := hO.sm e1
  have fin : ∀ xs : List Str, xs.length ≤ 10 → r.fbox = xs → NewO .lst Q (xs.map V.str) H1 := fun xs hz e => rd_new (by rw [List.length_map]; omega) fun p2 H2 np2 e2 hp2 => q p2 H2 (free_back e1 np2) (e1.trans e2) (by rw [e]; exact hp2)
  have none1 : r.isIn [.add, .less, .mix, .turn, .push, .pop] = false → (r.cls.tag == RC.swap.tag) = false → r.fbox = [] := fun h1 h2 => by
    cases r with
    | chg k => cases k <;> cases h1
    | turn => cases h1
    | mov k => cases k <;> cases h1
    | swap => cases h2
    | nam => rfl
    | blk => rfl
    | held => rfl
  refine rd_both (fun hc => ?_) (fun hc => ?_)
  · walk_at "rd"
    cases r with
    | chg k b e =>
      obtain ⟨a, dx, u, rfl, h2, h3⟩ := hO1
      refine ⟨a, _, dx, _, _, rfl, h2, (T.tyR k.cls).cl, by cases k <;> first | exact T.n_Add_box | exact T.n_Less_box | exact T.n_Mix_box, rfl, ?_⟩
      walk_at "rd"
      exact fin [b] (by simp) rfl
    | turn b n =>
      obtain ⟨a, dx, rfl, h2⟩ := hO1
      refine ⟨a, _, dx, _, _, rfl, h2, (T.tyR .turn).cl, T.n_Turn_box, rfl, ?_⟩
      walk_at "rd"
      exact fin [b] (by simp) rfl
    | mov k b s =>
      obtain ⟨a, dx, rfl, h2⟩ := hO1
      refine ⟨a, _, dx, _, _, rfl, h2, (T.tyR k.cls).cl, by cases k <;> first | exact T.n_Push_box | exact T.n_Pop_box, rfl, ?_⟩
      walk_at "rd"
      exact fin [b] (by simp) rfl
    | swap => cases hc
    | nam k => cases k <;> cases hc
    | blk k => cases k <;> cases hc
    | held => cases hc
  · walk_at "rd"
    refine rd_isR1 T rfl hO1 ?_
    walk_at "rd"
    refine rd_both (fun hd => ?_) (fun hd => ?_)
    · cases r with
      | swap b e =>
        obtain ⟨a, dx, rfl, h2⟩ := hO1
        walk_at "rd"
        refine ⟨a, _, dx, _, _, rfl, h2, (T.tyR .swap).cl, T.n_Swap_one, rfl, ?_⟩
        walk_at "rd"
        refine ⟨a, _, dx, _, _, rfl, h2, (T.tyR .swap).cl, T.n_Swap_other, rfl, ?_⟩
        walk_at "rd"
        exact fin [b, e] (by simp) rfl
      | chg k => cases k <;> cases hd
      | turn => cases hd
      | mov k => cases k <;> cases hd
      | nam k => cases k <;> cases hd
      | blk k => cases k <;> cases hd
      | held => cases hd
    · walk_at "rd"
      exact fin [] (by simp) (none1 hc hd)
/-! ### Look -/
def OLk (K : PySem.W.Frag) (A : CA) (H : Hp) (p : Pg) (v : V) : Prop := ∃ a dx v1 v2 l, v = .ref a ∧ H a = some (.ins A.Look dx [("boxes", v1), ("stacks", v2), ("named", .ref l)]) ∧ ONs K H p.bx v1 ∧ ONs K H p.st v2 ∧ H l = some (.lst ((p.rt.map (·.1)).map V.str))
theorem OLk.sm {H H' : Hp} {p : Pg} {v : V} (h : OLk K A H p v) (e : Same H H') : OLk K A H' p v := by
  obtain ⟨a, dx, v1, v2, l, h1, h2, h3, h4, h5⟩ := h
  exact ⟨a, dx, v1, v2, l, h1, e _ _ h2, h3.sm e, h4.sm e, e _ _ h5⟩
def spLkI (K : PySem.W.Frag) (A : CA) : Sp := fun vs H Q _ => ∃ (x dx : Addr) (v : V) (p : Pg), vs = [.ref x, v] ∧ H x = some (.ins A.Look dx []) ∧ OP K A H p v ∧ p.rt.length ≤ 1000 ∧ ∀ H', Kp [x] H H' → OLk K A H' p (.ref x) → Q .non H'
theorem kpx_seqT {H H' : Hp} {x : Addr} (k : Kp [x] H H') {a : Addr} {xs : List V} (h : SqT K H a xs) : SqT K H' a xs := seqT_kp k h
theorem ok_Look_init (T : Txt K mg A) : Mkr P w K mg base CX0 "Look" A.Look 1 ["self", "program"] (spLkI K A) := by
  refine T.k_Look.ok sc_Look_init (fun vs H Q E h => ?_) (fun f cdv Ar outer s H vs Q E hr h => ?_)
  · obtain ⟨x, dx, v, p, rfl, _⟩ := h
    rfl
  obtain ⟨x, dx, v, p, rfl, hx, ⟨a, da, v1, v2, v3, rfl, ha, h1, h2, h3⟩, hz, q⟩ := h
  have nax : a ≠ x := fun z => by
    rw [z, hx] at ha
    have e := (HO.ins.inj (Option.some.inj ha)).2.2
    cases e
  refine ⟨_, (pss_cons (k_sfld K (pv 0) (k_fld K (pv 1) rfl) rfl)
    (pss_cons (k_sfld K (pv 0) (k_fld K (pv 1) rfl) rfl)
    (pss_one (k_sfld K (pv 0) (pe_lc (own := [("name", 2), ("rows", 3)]) rfl sc_Look_init.nd (k_any K (k_fld K (pv 1) rfl)) (blkOk_by (N := N_Look_init) (sc := defScope s_Look_init) (by decide +kernel)) (fun _ _ _ _ _ => (k_gtup K (n := 2) rfl (pgs_cons (pg_name (i := 2) sc_Look_init.nd rfl (by first | exact Or.inl rfl | exact Or.inr rfl)) (pgs_cons (pg_name (i := 3) sc_Look_init.nd rfl (by first | exact Or.inl rfl | exact Or.inr rfl)) pgs_nil)))) (fun _ _ _ _ _ => pts_nil) (fun _ _ _ _ _ => (pv 2))) rfl)))), ?_⟩
  walk_at "rd"
  refine ⟨a, _, da, _, _, rfl, ha, T.ty_Program.cl, T.n_Program_boxes, rfl, ?_⟩
  walk_at "rd"
  refine rd_store hx T.ty_Look.cl T.n_Look_boxes (by simp) fun H2 k2 hx2 => ?_
  walk_at "rd"
  have ha2 := k2.all _ _ ha (by simpa using nax)
  refine ⟨a, _, da, _, _, rfl, ha2, T.ty_Program.cl, T.n_Program_stacks, rfl, ?_⟩
  walk_at "rd"
  refine rd_store hx2 T.ty_Look.cl T.n_Look_stacks (by show _ < 1000; exact (by decide : 1 < 1000)) fun H3 k3 hx3 => ?_
  have k23 := k2.trans k3
  have ha3 := k23.all _ _ ha (by simpa using nax)
  walk_at "rd"
  refine rd_lc_t ?_
  walk_at "rd"
  refine ⟨a, _, da, _, _, rfl, ha3, T.ty_Program.cl, T.n_Program_routines, rfl, ?_⟩
  obtain ⟨t, us, rfl, ht, hl, hg⟩ := h3
  have hS := SqT.of (K := K) (k23.tup _ _ ht)
  refine ⟨_, rfl, ⟨_, hS⟩, fun D nD => ?_⟩
  refine lc_map walk_tup (fun j y H => ∃ pr : Str × List Rw, p.rt[j]? = some pr ∧ y = .str pr.1) nD (by omega) (fun j y H1 H2 k nI h => h) (fun H' e => seqT_sm e hS) ?_ ?_
  · rintro j y H4 H5 F Z hi e3 ⟨rfl, hx⟩ hF
    refine ⟨Same.refl _, ?_⟩
    obtain ⟨pr, g1, t4, v4, rfl, g3, _⟩ := hg j y hx
    refine rd_gtup (SqT.of (e3 _ _ (k23.tup _ _ g3))) rfl ?_
    refine rd_gcons ?_
    refine rd_name ?_
    refine rd_gcons ?_
    refine rd_name ?_
    refine rd_gnil ?_
    refine ⟨rfl, ?_⟩
    walk_at "rd"
    exact hF _ _ (Same.refl _) ⟨pr, g1, rfl⟩
  · intro ys H4 e4 hD hly hy
    walk_at "rd"
    have hys : ys = (p.rt.map (·.1)).map V.str := by
      refine List.ext_getElem? fun j => ?_
      cases hj : ys[j]? with
      | some y =>
        obtain ⟨pr, g1, g2⟩ := hy j y hj
        rw [List.getElem?_map, List.getElem?_map, g1, g2]
        rfl
      | none =>
        have z := List.getElem?_eq_none_iff.mp hj
        rw [eq_comm, List.getElem?_eq_none_iff, List.length_map, List.length_map]
        omega
    refine rd_store (e4 _ _ hx3) T.ty_Look.cl T.n_Look_named (by show _ < 1000; exact (by decide : 2 < 1000)) fun H5 k5 hx5 => ?_
    have k : Kp [x] H H5 := (k23.trans (sm_kp e4)).trans k5
    have nDx : D ≠ x := fun z => by
      rw [z, e4 _ _ hx3] at hD
      cases hD
    refine q H5 k ⟨x, dx, _, _, D, rfl, hx5, h1.kp k, h2.kp k, ?_⟩
    rw [← hys]
    exact k5.all _ _ hD (by simpa using nDx)

end

end

section
section
variable {P : Program} {w : World} {K : PySem.W.Frag} {mg : Str → Option Value} {base : Heap} {A : CA}
/-- what the looker's methods may say -/
structure Out (K : PySem.W.Frag) (A : CA) (H : Hp) (Q : VK) (E : XK) (r : Fail) : Prop where
  ok : r = none → ∀ H', Same H H' → Q .non H'
  ex : ∀ pl y, r = some (pl, y) → ∀ d pv H', Same H H' → H' d = some (.xd [("reason", .str y), ("place", pv)]) → Dp K H' pv (.tuple pl) → E (.ref A.NoWay) (some d) H'
theorem Out.sm {H H' : Hp} {Q : VK} {E : XK} {r : Fail} (o : Out K A H Q E r) (e : Same H H') : Out K A H' Q E r := ⟨fun h H2 s => o.ok h H2 (e.trans s), fun pl y h d pv H2 s => o.ex pl y h d pv H2 (e.trans s)⟩
/-- .. the first of two looks -/
theorem Out.fst {H : Hp} {Q Q' : VK} {E : XK} {r r' : Fail} (o : Out K A H Q E (r.or r')) (h : r = none → ∀ H', Same H H' → Q' .non H') : Out K A H Q' E r := ⟨h, fun pl y e => o.ex pl y (by rw [e] <;> rfl)⟩
theorem Out.snd {H : Hp} {Q : VK} {E : XK} {r r' : Fail} (o : Out K A H Q E (r.or r')) (h : r = none) : Out K A H Q E r' := by
  rw [h, Option.none_or] at o
  exact o
theorem inV_str {x : Str} {xs : List Str} : inV (.str x) (xs.map V.str) = decide (x ∈ xs) := by
  unfold inV
  rw [Bool.eq_iff_iff, List.any_map, List.any_eq_true, decide_eq_true_eq]
  constructor
  · rintro ⟨y, hy, e⟩
    have e2 : y = x := by simpa [eqV] using e
    rw [← e2]
    exact hy
  · intro h
    exact ⟨x, h, by simp [eqV]⟩
theorem flat_names {xs : List Str} : (xs.map V.str).all flatV = true := by
  rw [List.all_map, List.all_eq_true]
  intro x _
  rfl
theorem rd_in_nT {H : Hp} {Q : VK} {x : Str} {xs : List Str} {a : Addr} (h : SqT K H a (xs.map V.str)) (q : Q (.bl (decide (x ∈ xs))) H) : rInB K (.str x) (.ref a) H Q := rd_in_t h rfl flat_names (by rw [inV_str]; exact q)
theorem rd_in_nL {H : Hp} {Q : VK} {x : Str} {xs : List Str} {a : Addr} (h : SqL K H a (xs.map V.str)) (q : Q (.bl (decide (x ∈ xs))) H) : rInB K (.str x) (.ref a) H Q := rd_in_l h rfl flat_names (by rw [inV_str]; exact q)
theorem rd_nin_nL {H : Hp} {Q : VK} {x : Str} {xs : List Str} {a : Addr} (h : SqL K H a (xs.map V.str)) (q : Q (.bl (!decide (x ∈ xs))) H) : rNinB K (.str x) (.ref a) H Q := rd_nin_l h rfl flat_names (by rw [inV_str]; exact q)
theorem rd_nin_nT {H : Hp} {Q : VK} {x : Str} {xs : List Str} {a : Addr} (h : SqT K H a (xs.map V.str)) (q : Q (.bl (!decide (x ∈ xs))) H) : rNinB K (.str x) (.ref a) H Q := rd_nin_t h rfl flat_names (by rw [inV_str]; exact q)
theorem rd_lstT {H : Hp} {Q : VK} {a : Addr} {xs : List V} (h : SqT K H a xs) (q : ∀ l H2, H l = none → Same H H2 → H2 l = some (.lst xs) → Q (.ref l) H2) : rLstOf K [.ref a] H Q := .inl ⟨a, xs, rfl, .inr h, rd_new1 q⟩
theorem rd_raise {C : Addr} {ta : TA} {σ : L2.St} {H : Hp} {Q : XK} (q : ta σ H fun vs H1 => vs.length ≤ 1000 ∧ ∀ a, H1 a = none → spNW C (.ref a :: (vs ++ [])) (upd H1 a (exo a C none)) (fun v H2 => v = .non ∧ ∃ (d : Addr) (fs : List (Str × V)), H2 a = some (exo a C (some d)) ∧ H2 d = some (exd d fs) ∧ H1 d = none ∧ Q (.ref C) (some d) (upd (del H2 a) d (.xd fs))) (fun _ _ _ => False)) : tMkO C (spNW C) [] ta σ H Q := q
theorem rd_raise2 {C : Addr} {p : V} {y : Str} {H : Hp} {Q : XK} (q : ∀ d H', Same H H' → H' d = some (.xd [("reason", .str y), ("place", p)]) → Q (.ref C) (some d) H') : ([p, V.str y] : List V).length ≤ 1000 ∧ ∀ a, H a = none → spNW C (.ref a :: ([p, V.str y] ++ [])) (upd H a (exo a C none)) (fun v H2 => v = .non ∧ ∃ (d : Addr) (fs : List (Str × V)), H2 a = some (exo a C (some d)) ∧ H2 d = some (exd d fs) ∧ H d = none ∧ Q (.ref C) (some d) (upd (del H2 a) d (.xd fs))) (fun _ _ _ => False) := ⟨by simp, rd_nw q⟩
theorem rd_allB {α : Type} {H : Hp} {Q : VK} {a : Addr} {ys : List V} {xs : List α} {f : α → Bool} (h : H a = some (.lst ys)) (hl : ys.length = xs.length) (e : ∀ (j : Nat) y, ys[j]? = some y → ∃ x, xs[j]? = some x ∧ y = .bl (f x)) (q : Q (.bl (xs.all f)) H) : rAll K [.ref a] H Q := by
  refine ⟨a, xs.map f, rfl, ?_, ?_⟩
  · have z : (xs.map f).map V.bl = ys := by
      refine (List.ext_getElem? fun j => ?_).symm
      cases hj : ys[j]? with
      | some y =>
        obtain ⟨x, g1, g2⟩ := e j y hj
        rw [List.getElem?_map, List.getElem?_map, g1, g2]
        rfl
      | none =>
        have z := List.getElem?_eq_none_iff.mp hj
        rw [eq_comm, List.getElem?_eq_none_iff, List.length_map, List.length_map]
        omega
    rw [z]
    exact SqL.of h
  · rw [List.all_map]
    exact q
theorem rd_lenS {ta : TE} {σ : L2.St} {H : Hp} {Q : VK} (q : ta σ H fun x H1 => ∃ (l : Addr) (xs : List Str), x = .ref l ∧ SqL K H1 l (xs.map V.str) ∧ xs.length ≤ 1000 ∧ Q (.int (dist xs)) H1) : tLenSetS K ta σ H Q := q
/-- two lists of ours are written -/
theorem sm_of_kp2 {H H1 H2 : Hp} {p q : Addr} (e : Same H H1) (n : H p = none) (m : H q = none) (k : Kp [p, q] H1 H2) : Same H H2 := fun b o h => k.all b o (e b o h) (by
  intro hb
  rcases (by simpa using hb : b = p ∨ b = q) with z | z
  · rw [z, n] at h
    cases h
  · rw [z, m] at h
    cases h)
def spNS (K : PySem.W.Frag) (A : CA) : Sp := fun vs H Q E => ∃ (v : V) (p : Pg), vs = [v] ∧ OLk K A H p v ∧ p.names.length ≤ 1000 ∧ Out K A H Q E p.one
theorem ok_need_single (T : Txt K mg A) (U : TxE K A) : Mth P w K mg base (L2.CX P w) A.Look "need_single" 3 ["self"] (spNS K A) := by
  have k_NoWay := ok_NoWay (P := P) (w := w) (base := base) T U
  refine T.m_Look_need_single.okX sc_Look_need_single (fun vs H Q E h => ?_) (fun f cdv Ar outer s H vs Q E hr h => ?_)
  · obtain ⟨v, p, rfl, _⟩ := h
    rfl
  obtain ⟨v, p, rfl, ⟨a, dx, v1, v2, l, rfl, ha, ⟨p1, rfl, hS1⟩, ⟨p2, rfl, hS2⟩, hl⟩, hz, o⟩ := h
  have hz' : p.bx.length + (p.st.length + p.rt.length) ≤ 1000 := by
    unfold Pg.names at hz
    rw [List.length_append, List.length_append, List.length_map] at hz
    omega
  refine ⟨_, (pss_cons (ps_set (i := 1) sc_Look_need_single.nd rfl (by first | exact Or.inl rfl | exact Or.inr rfl) (pe_op (k_plus K) (pe_op (k_plus K) (pe_callTy (k_lst K rfl) (by rfl) T.b_list bt_list (pa_cons (k_fld K (pv 0) rfl) pa_nil)) (pe_callTy (k_lst K rfl) (by rfl) T.b_list bt_list (pa_cons (k_fld K (pv 0) rfl) pa_nil))) (k_fld K (pv 0) rfl)))
    (pss_one (ps_if (pt_cmpR (k_neq K hr.units) (pe_lenSetS rfl (by rfl) T.b_len (by rfl) T.b_set (pv 1)) (pe_callB (k_len K) (by rfl) T.b_len bt_len (pa_cons (pv 1) pa_nil)) (nomark _)) (pss_one (ps_raise rfl (takes_of rfl rfl rfl rfl) (pmk_nw k_NoWay hr (by omega) (pa_cons (pe_tup pa_nil) (pa_cons pe_str pa_nil))))) pss_nil))), ?_⟩
  walk_at "rd"
  refine ⟨a, _, dx, _, _, rfl, ha, T.ty_Look.cl, T.n_Look_boxes, rfl, ?_⟩
  walk_at "rd"
  refine rd_lstT hS1 fun l1 H1 n1 e1 hl1 => ?_
  walk_at "rd"
  refine ⟨a, _, dx, _, _, rfl, e1 _ _ ha, T.ty_Look.cl, T.n_Look_stacks, rfl, ?_⟩
  walk_at "rd"
  refine rd_lstT (seqT_sm e1 hS2) fun l2 H2 n2 e2 hl2 => ?_
  refine rd_plus_l (e2 _ _ hl1) hl2 (by rw [List.length_map, List.length_map]; omega) fun l3 H3 n3 e3 hl3 => ?_
  have e13 := (e1.trans e2).trans e3
  walk_at "rd"
  refine ⟨a, _, dx, _, _, rfl, e13 _ _ ha, T.ty_Look.cl, T.n_Look_named, rfl, ?_⟩
  refine rd_plus_l hl3 (e13 _ _ hl) (by simp only [List.length_append, List.length_map]; omega) fun l4 H4 n4 e4 hl4 => ?_
  have hn4 : H4 l4 = some (.lst (p.names.map V.str)) := by
    rw [hl4]
    unfold Pg.names
    rw [List.map_append, List.map_append]
  walk_at "rd"
  refine rd_lenS ?_
  walk_at "rd"
  refine ⟨l4, p.names, rfl, SqL.of hn4, hz, ?_⟩
  walk_at "rd"
  refine rd_len_l (SqL.of hn4) ?_
  walk_at "rd"
  have e14 := e13.trans e4
  have hd := dist_le p.names
  by_cases c : dist p.names < p.names.length
  · refine rd_true (by rw [List.length_map]; simp; omega) ?_
    walk_at "rd"
    refine rd_raise ?_
    walk_at "rd"
    refine rd_new (by simp) fun p5 H5 n5 e5 hp5 => ?_
    refine rd_raise2 fun d H6 e6 hd6 => ?_
    exact o.ex [] "names" (by unfold Pg.one; rw [if_pos c]) d _ H6 ((e14.trans e5).trans e6) hd6 (.tup (SqT.of (e6 _ _ hp5)) .nil)
  · refine rd_false (by rw [List.length_map]; simp; omega) ?_
    walk_at "rd"
    exact o.ok (by unfold Pg.one; rw [if_neg c]) _ e14

end

end

section
section
variable {P : Program} {w : World} {K : PySem.W.Frag} {mg : Str → Option Value} {base : Heap} {A : CA}
theorem noIns_two {H : Hp} {p q : Addr} {xs ys : List V} (h : H p = some (.lst xs)) (h2 : H q = some (.lst ys)) : NoIns [p, q] H := fun b hb C dx fs e => by
  rcases (by simpa using hb : b = p ∨ b = q) with z | z
  · rw [z, h] at e
    cases e
  · rw [z, h2] at e
    cases e
theorem Rw.says_ok {r : Rw} (h : r.wf) : ∀ t ∈ r.says, t.ok := by
  cases r with
  | chg k b e =>
    intro t ht
    rw [List.mem_singleton.mp ht]
    exact h.2
  | blk k t y n a =>
    intro u hu
    rcases (by simpa [Rw.says] using hu : u = t ∨ u = a) with z | z
    · rw [z]; exact h.1
    · rw [z]; exact h.2.2.2
  | held b e y f =>
    intro u hu
    rcases (by simpa [Rw.says] using hu : u = e ∨ u = f) with z | z
    · rw [z]; exact h.2.1
    · rw [z]; exact h.2.2.2
  | _ => intro t ht; cases ht
theorem Rw.says_len (r : Rw) : r.says.length ≤ 2 := by cases r <;> simp [Rw.says]
theorem Rw.fbox_len (r : Rw) : r.fbox.length ≤ 2 := by cases r <;> simp [Rw.fbox]
theorem Rw.fstk_len (r : Rw) : r.fstk.length ≤ 2 := by cases r <;> simp [Rw.fstk]
theorem mem_flat_one {α β : Type} {f : α → List β} {l : List α} {j : Nat} {a : α} (h : l[j]? = some a) (x : β) : x ∈ (l.take (j + 1)).flatMap f ↔ x ∈ (l.take j).flatMap f ∨ x ∈ f a := by
  rw [take_one h, List.flatMap_append, List.mem_append]
  simp
def spNN (K : PySem.W.Frag) (A : CA) (why : Pg → Rw → List Str → Option Str) : Sp := fun vs H Q E => ∃ (v rv tv qv : V) (p : Pg) (r : Rw) (th : List Str) (pl : List PyData), vs = [v, rv, tv, qv] ∧ OLk K A H p v ∧ OR A H r rv ∧ r.wf ∧ ONs K H th tv ∧ th.length ≤ 100 ∧ p.names.length ≤ 100 ∧ Dp K H qv (.tuple pl) ∧ Out K A H Q E (at' pl (why p r th))
theorem Pg.st_len (p : Pg) : p.st.length ≤ p.names.length ∧ (p.rt.map (·.1)).length ≤ p.names.length ∧ p.bx.length ≤ p.names.length ∧ p.st.length + (p.rt.map (·.1)).length ≤ p.names.length := by
  unfold Pg.names
  rw [List.length_append, List.length_append]
  omega
def whyN' (p : Pg) (r : Rw) (th : List Str) : Option Str := r.whyN p.st (p.rt.map (·.1)) th
def whyK' (p : Pg) (r : Rw) (th : List Str) : Option Str := r.whyK p.st (p.rt.map (·.1)) th
theorem rd_fstk (T : Txt K mg A) {σ : L2.St} {H : Hp} {r : Rw} {v : V} {Q : VK} (hσ : σ[1]? = some (some v)) (hO : OR A H r v) (q : ∀ p H', H p = none → Same H H' → H' p = some (.lst (r.fstk.map V.str)) → Q (.ref p) H') :
    tIf (tTest (tCB (rIsiB K) (tCons (tVar 1) (tCons (tTup (tCons (tC (.ref (A.r .push))) (tCons (tC (.ref (A.r .pop))) tNil))) tNil)))) (tLst (tCons (tFld K (tVar 1) "stack") tNil)) (tLst tNil) σ H Q := by
  refine rd_if ?_
  refine rd_test ?_
  refine rd_cb ?_
  refine rd_cons ?_
  refine rd_var hσ ?_
  walk_at "rd"
  refine rd_new (by simp) fun p H1 np e1 hp => ?_
  refine rd_isRs T [.push, .pop] rfl hp (hO.sm e1) ?_
  have hO1 := hO.sm e1
  refine rd_bl ?_
  have fin : ∀ xs : List Str, xs.length ≤ 10 → r.fstk = xs → NewO .lst Q (xs.map V.str) H1 := fun xs hz e => rd_new (by rw [List.length_map]; omega) fun p2 H2 np2 e2 hp2 => q p2 H2 (free_back e1 np2) (e1.trans e2) (by rw [e]; exact hp2)
  have no : r.isIn [.push, .pop] = false → r.fstk = [] := fun h1 => by
    cases r with
    | mov k => cases k <;> cases h1
    | _ => rfl
  refine rd_both (fun hc => ?_) (fun hc => ?_)
  · cases r with
    | mov k b s =>
      obtain ⟨a, dx, rfl, h2⟩ := hO1
      refine rd_lst ?_
      refine rd_cons ?_
      refine rd_fld ?_
      refine rd_var hσ ?_
      refine ⟨a, _, dx, _, _, rfl, h2, (T.tyR k.cls).cl, by cases k <;> first | exact T.n_Push_stack | exact T.n_Pop_stack, rfl, ?_⟩
      walk_at "rd"
      exact fin [s] (by simp) rfl
    | chg k => cases k <;> cases hc
    | turn => cases hc
    | swap => cases hc
    | nam k => cases k <;> cases hc
    | blk k => cases k <;> cases hc
    | held => cases hc
  · walk_at "rd"
    exact fin [] (by simp) (no hc)
theorem ok_need_named (T : Txt K mg A) (U : TxE K A) : Mth P w K mg base (L2.CX P w) A.Look "need_named" 12 ["self", "row", "there", "place"] (spNN K A whyN') := by
  have k_NoWay := ok_NoWay (P := P) (w := w) (base := base) T U
  have c_field_boxes := ok_field_boxes (P := P) (w := w) (base := base) T
  have m_sayings := ok_rsays (P := P) (w := w) (base := base) T
  have m_box_names := ok_box_names (P := P) (w := w) (base := base) T
  have m_stack_names := ok_stack_names (P := P) (w := w) (base := base) T
  refine T.m_Look_need_named.okX sc_Look_need_named (fun vs H Q E h => ?_) (fun f cdv Ar outer s H vs Q E hr h => ?_)
  · obtain ⟨v, rv, tv, qv, p, r, th, pl, rfl, _⟩ := h
    rfl
  obtain ⟨v, rv, tv, qv, p, r, th, pl, rfl, ⟨a, dx, v1, v2, l, rfl, ha, ⟨p1, rfl, hS1⟩, ⟨p2, rfl, hS2⟩, hl⟩, hO, hw, ⟨pt, rfl, hSt⟩, hth, hz, hD, o⟩ := h
  have hzs := p.st_len
  refine ⟨_, (pss_cons (ps_set (i := 4) sc_Look_need_named.nd rfl (by first | exact Or.inl rfl | exact Or.inr rfl) (pe_cal c_field_boxes hr (by omega) pass0 (pa_cons (pv 1) pa_nil)))
    (pss_cons (ps_set (i := 5) sc_Look_need_named.nd rfl (by first | exact Or.inl rfl | exact Or.inr rfl) (pe_ifExp (pt_val (pe_callB (k_isi K) (by rfl) T.b_isinstance bt_isinstance (pa_cons (pv 1) (pa_cons (pe_tup (pa_cons (pe_gref T.g_Push) (pa_cons (pe_gref T.g_Pop) pa_nil))) pa_nil)))) (pe_lst (pa_cons (k_fld K (pv 1) rfl) pa_nil)) (pe_lst pa_nil)))
    (pss_cons (ps_for (passes_of rfl) rfl (k_any K (pe_dyn m_sayings hr (by omega) pass0 (pv 1))) (pg_name (i := 6) sc_Look_need_named.nd rfl (by first | exact Or.inl rfl | exact Or.inr rfl)) (pss_cons (ps_aug (i := 4) sc_Look_need_named.nd rfl (Or.inl rfl) (pe_dyn m_box_names hr (by omega) pass0 (pv 6)) pip_add)
    (pss_one (ps_aug (i := 5) sc_Look_need_named.nd rfl (Or.inl rfl) (pe_dyn m_stack_names hr (by omega) pass0 (pv 6)) pip_add))))
    (pss_cons (ps_if (pt_not (pt_val (pe_callB (k_all K rfl) (by rfl) T.b_all bt_all (pa_cons (pe_lc (own := [("name", 7)]) rfl sc_Look_need_named.nd (k_any K (pv 4)) (blkOk_by (N := N_Look_need_named) (sc := defScope s_Look_need_named) (by decide +kernel)) (fun _ _ _ _ _ => (pg_name (i := 7) sc_Look_need_named.nd rfl (by first | exact Or.inl rfl | exact Or.inr rfl))) (fun _ _ _ _ _ => pts_nil) (fun _ _ _ _ _ => (pe_cmpR (k_in K) (pv 7) (pv 2) rfl))) pa_nil)))) (pss_one (ps_raise rfl (takes_of rfl rfl rfl rfl) (pmk_nw k_NoWay hr (by omega) (pa_cons (pv 3) (pa_cons pe_str pa_nil))))) pss_nil)
    (pss_cons (ps_if (pt_not (pt_val (pe_callB (k_all K rfl) (by rfl) T.b_all bt_all (pa_cons (pe_lc (own := [("name", 7)]) rfl sc_Look_need_named.nd (k_any K (pv 5)) (blkOk_by (N := N_Look_need_named) (sc := defScope s_Look_need_named) (by decide +kernel)) (fun _ _ _ _ _ => (pg_name (i := 7) sc_Look_need_named.nd rfl (by first | exact Or.inl rfl | exact Or.inr rfl))) (fun _ _ _ _ _ => pts_nil) (fun _ _ _ _ _ => (pe_cmpR (k_in K) (pv 7) (k_fld K (pv 0) rfl) rfl))) pa_nil)))) (pss_one (ps_raise rfl (takes_of rfl rfl rfl rfl) (pmk_nw k_NoWay hr (by omega) (pa_cons (pv 3) (pa_cons pe_str pa_nil))))) pss_nil)
    (pss_one (ps_if (PW.pt (pw_and (pt_val (pe_callB (k_isi K) (by rfl) T.b_isinstance bt_isinstance (pa_cons (pv 1) (pa_cons (pe_tup (pa_cons (pe_gref T.g_Call) (pa_cons (pe_gref T.g_Back) pa_nil))) pa_nil)))) (pw_and1 (pt_cmpR (k_nin K) (k_fld K (pv 1) rfl) (k_fld K (pv 0) rfl) rfl)))) (pss_one (ps_raise rfl (takes_of rfl rfl rfl rfl) (pmk_nw k_NoWay hr (by omega) (pa_cons (pv 3) (pa_cons pe_str pa_nil))))) pss_nil))))))), ?_⟩
  walk_at "rd"
  refine ⟨rv, r, rfl, hO, fun pb H1 nb e1 hb => ?_⟩
  refine rd_name ?_
  refine rd_seq ?_
  refine rd_asg ?_
  refine rd_fstk T ?hv (hO.sm e1) fun ps H2 ns e2 hs => ?_
  case hv => exact rfl
  have e12 := e1.trans e2
  have nbs : pb ≠ ps := fun z => by
    rw [← z, hb] at ns
    cases ns
  have hb2 := e2 _ _ hb
  walk_at "rd"
  refine rd_for_l ?_
  walk_at "rd"
  refine rd_dynR (hO.sm e12) (by decide +kernel) ?_
  refine ⟨rv, r, rfl, hO.sm e12, rfl, fun py us H3 ny e3 hy hu => ?_⟩
  have e13 := e12.trans e3
  have hb3 := e3 _ _ hb2
  have hs3 := e3 _ _ hs
  have hlu : us.length = r.says.length := (Paired.length hu).symm
  have hsl := r.says_len
  have nyb : py ≠ pb := fun z => by
    rw [z, hb2] at ny
    cases ny
  have nys : py ≠ ps := fun z => by
    rw [z, hs] at ny
    cases ny
  refine ⟨_, rfl, ⟨_, SqL.of hy⟩, ?_⟩
  refine for_it walk_list (fun i σ' H' => (∃ o6 o7, σ' = [some (.ref a), some rv, some (.ref pt), some qv, some (.ref pb), some (.ref ps), o6, o7]) ∧ Kp [pb, ps] H3 H' ∧ ∃ xs ys : List Str, H' pb = some (.lst (xs.map V.str)) ∧ H' ps = some (.lst (ys.map V.str)) ∧
    (∀ z, z ∈ xs ↔ z ∈ r.fbox ++ (r.says.take i).flatMap Sy.bx) ∧ (∀ z, z ∈ ys ↔ z ∈ r.fstk ++ (r.says.take i).flatMap Sy.st) ∧ xs.length ≤ 2 + 30 * i ∧ ys.length ≤ 2 + 30 * i)
    ⟨⟨none, none, rfl⟩, Kp.refl _, r.fbox, r.fstk, hb3, hs3, by simp, by simp, r.fbox_len, r.fstk_len⟩ (fun i σ' H' _ h => SqL.of (h.2.1.all _ _ hy (by simp [nyb, nys]))) ?_ ?_
  · rintro j y σ' H4 H5 hj ⟨⟨o6, o7, rfl⟩, k4, xs, ys, hx4, hy4, mx, my, lx, ly⟩ ⟨rfl, hx⟩
    obtain ⟨t, g1, g2⟩ := hu.get hx
    have hm : t ∈ r.says := List.mem_of_getElem? g1
    obtain ⟨w1, w2, w3⟩ := Rw.says_ok hw t hm
    have g4 := g2.kp k4 (noIns_two hb3 hs3)
    walk_at "rd"
    refine rd_dynS g4 (by decide +kernel) ?_
    refine ⟨y, t, rfl, g4, w3, w2, fun q1 zs H6 n6 e6 hq1 mz lz => ?_⟩
    refine rd_iadd_l (e6 _ _ hx4) hq1 (by rw [List.length_map, List.length_map]; omega) ?_
    have k6 : Kp [pb, ps] H6 (upd H6 pb (.lst (xs.map V.str ++ zs.map V.str))) := Kp.put (e6 _ _ hx4) (by simp) (fun _ z => by cases z) (fun _ _ z => by cases z)
    have nI6 := noIns_two (e6 _ _ hx4) (e6 _ _ hy4)
    have g7 := (g4.sm e6).kp k6 nI6
    have hy7 : upd H6 pb (.lst (xs.map V.str ++ zs.map V.str)) ps = some (.lst (ys.map V.str)) := by
      rw [upd_ne (Ne.symm nbs)]
      exact e6 _ _ hy4
    walk_at "rd"
    refine rd_dynS g7 (by decide +kernel) ?_
    refine ⟨y, t, rfl, g7, w3, w2, fun q2 zt H8 n8 e8 hq2 mt lt => ?_⟩
    refine rd_iadd_l (e8 _ _ hy7) hq2 (by rw [List.length_map, List.length_map]; omega) ?_
    have hx8 : H8 pb = some (.lst ((xs ++ zs).map V.str)) := by
      rw [List.map_append]
      exact e8 _ _ upd_same
    have k8 : Kp [pb, ps] H8 (upd H8 ps (.lst (ys.map V.str ++ zt.map V.str))) := Kp.put (e8 _ _ hy7) (by simp) (fun _ z => by cases z) (fun _ _ z => by cases z)
    refine ⟨⟨some y, o7, rfl⟩, (((k4.trans (sm_kp e6)).trans k6).trans (sm_kp e8)).trans k8, xs ++ zs, ys ++ zt, by rw [upd_ne nbs]; exact hx8, by rw [upd_same, List.map_append], fun z => ?_, fun z => ?_, by rw [List.length_append]; omega, by rw [List.length_append]; omega⟩
    · rw [List.mem_append, List.mem_append, mx, mem_flat_one g1, mz, List.mem_append]
      simp only [or_assoc]
    · rw [List.mem_append, List.mem_append, my, mem_flat_one g1, mt, List.mem_append]
      simp only [or_assoc]
  · rintro σ' H4 ⟨⟨o6, o7, rfl⟩, k4, xs, ys, hx4, hy4, mx, my, lx, ly⟩
    rw [hlu, List.take_length] at mx my
    have ns0 : H ps = none := free_back e1 ns
    have e4 : Same H H4 := sm_of_kp2 e13 nb ns0 k4
    have mx' : decide (∀ x ∈ r.abox, x ∈ th) = xs.all fun x => decide (x ∈ th) := by
      rw [Bool.eq_iff_iff, decide_eq_true_eq, List.all_eq_true]
      exact forall_congr' fun x => by rw [mx x, decide_eq_true_eq]; exact Iff.rfl
    have my' : decide (∀ x ∈ r.astk, x ∈ p.st) = ys.all fun x => decide (x ∈ p.st) := by
      rw [Bool.eq_iff_iff, decide_eq_true_eq, List.all_eq_true]
      exact forall_congr' fun x => by rw [my x, decide_eq_true_eq]; exact Iff.rfl
    have hSt4 := seqT_sm e4 hSt
    have fail : ∀ {H5 : Hp} {y : Str}, Same H H5 → whyN' p r th = some y → ∀ d H', Same H5 H' → H' d = some (.xd [("reason", .str y), ("place", qv)]) → E (.ref A.NoWay) (some d) H' := fun {H5 y} e5 hy' d H' e6 hd => o.ex pl y (by unfold at'; rw [hy'] <;> rfl) d qv H' (e5.trans e6) hd (dp_sm (e5.trans e6) _ _ hD)
    walk_at "rd"
    refine rd_lc_l ?_
    walk_at "rd"
    refine ⟨_, rfl, ⟨_, SqL.of hx4⟩, fun D nD => ?_⟩
    refine lc_map walk_list (fun j y _ => ∃ x, xs[j]? = some x ∧ y = .bl (decide (x ∈ th))) nD (by rw [List.length_map]; omega) (fun _ _ _ _ _ _ h => h) (fun H' e => SqL.of (e _ _ hx4)) ?_ ?_
    · rintro j y H5 H6 F Z hi e5 ⟨rfl, hx⟩ hF
      refine ⟨Same.refl _, ?_⟩
      rw [List.getElem?_map] at hx
      obtain ⟨x, hx1, rfl⟩ := Option.map_eq_some_iff.mp hx
      walk_at "rd"
      refine ⟨rfl, ?_⟩
      walk_at "rd"
      refine rd_in_nT (seqT_sm e5 hSt4) ?_
      exact hF _ _ (Same.refl _) ⟨x, hx1, rfl⟩
    · intro bs H5 e5 hD5 hlb hb5
      walk_at "rd"
      refine rd_allB hD5 (by rw [hlb, List.length_map]) hb5 ?_
      rw [← mx']
      have e05 := e4.trans e5
      walk_at "rd"
      refine rd_both (fun hc => ?_) (fun hc => ?_)
      · have hc' : decide (∀ x ∈ r.abox, x ∈ th) = false := by simpa using hc
        refine rd_raise ?_
        walk_at "rd"
        exact rd_raise2 (fail e05 (by unfold whyN' Rw.whyN; rw [if_pos hc']))
      · have hc' : decide (∀ x ∈ r.abox, x ∈ th) = true := by simpa using hc
        walk_at "rd"
        have hys5 := e5 _ _ hy4
        refine rd_lc_l ?_
        walk_at "rd"
        refine ⟨_, rfl, ⟨_, SqL.of hys5⟩, fun D2 nD2 => ?_⟩
        refine lc_map walk_list (fun j y _ => ∃ x, ys[j]? = some x ∧ y = .bl (decide (x ∈ p.st))) nD2 (by rw [List.length_map]; omega) (fun _ _ _ _ _ _ h => h) (fun H' e => SqL.of (e _ _ hys5)) ?_ ?_
        · rintro j y H6 H7 F Z hi e6 ⟨rfl, hx⟩ hF
          refine ⟨Same.refl _, ?_⟩
          rw [List.getElem?_map] at hx
          obtain ⟨x, hx1, rfl⟩ := Option.map_eq_some_iff.mp hx
          have e06 := e05.trans e6
          walk_at "rd"
          refine ⟨rfl, ?_⟩
          walk_at "rd"
          refine ⟨a, _, dx, _, _, rfl, e06 _ _ ha, T.ty_Look.cl, T.n_Look_stacks, rfl, ?_⟩
          refine rd_in_nT (seqT_sm e06 hS2) ?_
          exact hF _ _ (Same.refl _) ⟨x, hx1, rfl⟩
        · intro bs2 H6 e6 hD6 hlb2 hb6
          walk_at "rd"
          refine rd_allB hD6 (by rw [hlb2, List.length_map]) hb6 ?_
          rw [← my']
          have e06 := e05.trans e6
          have hO6 := hO.sm e06
          walk_at "rd"
          refine rd_both (fun hc2 => ?_) (fun hc2 => ?_)
          · have hc2' : decide (∀ x ∈ r.astk, x ∈ p.st) = false := by simpa using hc2
            refine rd_raise ?_
            walk_at "rd"
            exact rd_raise2 (fail e06 (by unfold whyN' Rw.whyN; rw [if_neg (by rw [hc']; decide), if_pos hc2']))
          · have hc2' : decide (∀ x ∈ r.astk, x ∈ p.st) = true := by simpa using hc2
            have n1 : ¬ decide (∀ x ∈ r.abox, x ∈ th) = false := by rw [hc']; decide
            have n2 : ¬ decide (∀ x ∈ r.astk, x ∈ p.st) = false := by rw [hc2']; decide
            have fine : ∀ {H7 : Hp}, Same H H7 → r.rtn (p.rt.map (·.1)) = true → Q .non H7 := fun {H7} e7 hrt => o.ok (by unfold at' whyN' Rw.whyN; rw [if_neg n1, if_neg n2, hrt] <;> rfl) H7 e7
            walk_at "rd"
            refine rd_new (by simp) fun p7 H7 np7 e7 hp7 => ?_
            refine rd_isRs T [.call, .back] rfl hp7 (hO6.sm e7) ?_
            have e07 := e06.trans e7
            have hO7 := hO6.sm e7
            walk_at "rd"
            cases r with
            | nam k x =>
              obtain ⟨b, db, rfl, hb7⟩ := hO7
              have z : Rw.isIn [.call, .back] (.nam k x) = true := by cases k <;> rfl
              rw [z]
              walk_at "rd"
              refine ⟨b, _, db, _, _, rfl, hb7, (T.tyR k.cls).cl, by cases k <;> first | exact T.n_Call_name | exact T.n_Back_name, rfl, ?_⟩
              walk_at "rd"
              refine ⟨a, _, dx, _, _, rfl, e07 _ _ ha, T.ty_Look.cl, T.n_Look_named, rfl, ?_⟩
              refine rd_nin_nL (SqL.of (e07 _ _ hl)) ?_
              walk_at "rd"
              refine rd_both (fun hd => ?_) (fun hd => ?_)
              · have hd' : decide (x ∈ p.rt.map (·.1)) = false := by simpa using hd
                refine rd_raise ?_
                walk_at "rd"
                exact rd_raise2 (fail e07 (by unfold whyN' Rw.whyN; rw [if_neg n1, if_neg n2, if_pos (show Rw.rtn _ (.nam k x) = false from hd')]))
              · have hd' : decide (x ∈ p.rt.map (·.1)) = true := by simpa using hd
                walk_at "rd"
                exact fine e07 hd'
            | chg k => cases k <;> (walk_at "rd"; refine rd_false rfl ?_; walk_at "rd"; exact fine e07 rfl)
            | turn => walk_at "rd"; refine rd_false rfl ?_; walk_at "rd"; exact fine e07 rfl
            | swap => walk_at "rd"; refine rd_false rfl ?_; walk_at "rd"; exact fine e07 rfl
            | mov k => cases k <;> (walk_at "rd"; refine rd_false rfl ?_; walk_at "rd"; exact fine e07 rfl)
            | blk k => cases k <;> (walk_at "rd"; refine rd_false rfl ?_; walk_at "rd"; exact fine e07 rfl)
            | held => walk_at "rd"; refine rd_false rfl ?_; walk_at "rd"; exact fine e07 rfl

end

end

section
section
variable {P : Program} {w : World} {K : PySem.W.Frag} {mg : Str → Option Value} {base : Heap} {A : CA}
theorem ok_need_kept (T : Txt K mg A) (U : TxE K A) : Mth P w K mg base (L2.CX P w) A.Look "need_kept" 12 ["self", "row", "there", "place"] (spNN K A whyK') := by
  have k_NoWay := ok_NoWay (P := P) (w := w) (base := base) T U
  have m_box_names := ok_box_names (P := P) (w := w) (base := base) T
  refine T.m_Look_need_kept.okX sc_Look_need_kept (fun vs H Q E h => ?_) (fun f cdv Ar outer s H vs Q E hr h => ?_)
  · obtain ⟨v, rv, tv, qv, p, r, th, pl, rfl, _⟩ := h
    rfl
  obtain ⟨v, rv, tv, qv, p, r, th, pl, rfl, ⟨a, dx, v1, v2, l, rfl, ha, ⟨p1, rfl, hS1⟩, ⟨p2, rfl, hS2⟩, hl⟩, hO, hw, ⟨pt, rfl, hSt⟩, hth, hz, hD, o⟩ := h
  have hzs := p.st_len
  refine ⟨_, (pss_cons (ps_if (PW.pt (pw_and (pt_val (pe_callB (k_isi K) (by rfl) T.b_isinstance bt_isinstance (pa_cons (pv 1) (pa_cons (pe_tup (pa_cons (pe_gref T.g_Add) (pa_cons (pe_gref T.g_Less) (pa_cons (pe_gref T.g_Mix) pa_nil)))) pa_nil)))) (pw_and1 (pt_cmpR (k_in K) (k_fld K (pv 1) rfl) (pe_dyn m_box_names hr (by omega) pass0 (k_fld K (pv 1) rfl)) rfl)))) (pss_one (ps_raise rfl (takes_of rfl rfl rfl rfl) (pmk_nw k_NoWay hr (by omega) (pa_cons (pv 3) (pa_cons pe_str pa_nil))))) pss_nil)
    (pss_cons (ps_if (PW.pt (pw_and (pt_val (pe_callB (k_isi K) (by rfl) T.b_isinstance bt_isinstance (pa_cons (pv 1) (pa_cons (pe_gref T.g_Swap) pa_nil)))) (pw_and1 (pt_cmpR (k_eql K hr.units) (k_fld K (pv 1) rfl) (k_fld K (pv 1) rfl) (nomark _))))) (pss_one (ps_raise rfl (takes_of rfl rfl rfl rfl) (pmk_nw k_NoWay hr (by omega) (pa_cons (pv 3) (pa_cons pe_str pa_nil))))) pss_nil)
    (pss_one (ps_if (PW.pt (pw_and (pt_val (pe_callB (k_isi K) (by rfl) T.b_isinstance bt_isinstance (pa_cons (pv 1) (pa_cons (pe_gref T.g_Held) pa_nil)))) (pw_and1 (pt_cmpR (k_in K) (k_fld K (pv 1) rfl) (pe_op (k_plus K) (pe_op (k_plus K) (pe_callTy (k_lst K rfl) (by rfl) T.b_list bt_list (pa_cons (pv 2) pa_nil)) (pe_callTy (k_lst K rfl) (by rfl) T.b_list bt_list (pa_cons (k_fld K (pv 0) rfl) pa_nil))) (k_fld K (pv 0) rfl)) rfl)))) (pss_one (ps_raise rfl (takes_of rfl rfl rfl rfl) (pmk_nw k_NoWay hr (by omega) (pa_cons (pv 3) (pa_cons pe_str pa_nil))))) pss_nil)))), ?_⟩
  walk_at "rd"
  refine rd_new (by simp) fun p1 H1 np1 e1 hp1 => ?_
  refine rd_isRs T [.add, .less, .mix] rfl hp1 (hO.sm e1) ?_
  walk_at "rd"
  have fail : ∀ {H5 : Hp} {y : Str}, Same H H5 → whyK' p r th = some y → ∀ d H', Same H5 H' → H' d = some (.xd [("reason", .str y), ("place", qv)]) → E (.ref A.NoWay) (some d) H' := fun {H5 y} e5 hy' d H' e6 hd => o.ex pl y (by unfold at'; rw [hy'] <;> rfl) d qv H' (e5.trans e6) hd (dp_sm (e5.trans e6) _ _ hD)
  have fine : ∀ {H5 : Hp}, Same H H5 → r.self = true → r.kept p.st (p.rt.map (·.1)) th = true → Q .non H5 := fun {H5} e5 h1 h2 => o.ok (by unfold at' whyK' Rw.whyK; rw [h1, h2] <;> rfl) H5 e5
  have hO1 := hO.sm e1
  cases r with
  | chg k b e =>
    obtain ⟨a1, dx1, u, rfl, h2, h3⟩ := hO1
    have z : Rw.isIn [.add, .less, .mix] (.chg k b e) = true := by cases k <;> rfl
    have z1 : ((Rw.chg k b e).cls.tag == RC.swap.tag) = false := by cases k <;> rfl
    have z2 : ((Rw.chg k b e).cls.tag == RC.held.tag) = false := by cases k <;> rfl
    have nb : NoAttr K (A.r k.cls) "box" := by cases k <;> first | exact T.n_Add_box | exact T.n_Less_box | exact T.n_Mix_box
    have nsy : NoAttr K (A.r k.cls) "saying" := by cases k <;> first | exact T.n_Add_saying | exact T.n_Less_saying | exact T.n_Mix_saying
    rw [z]
    walk_at "rd"
    refine ⟨a1, _, dx1, _, _, rfl, h2, (T.tyR k.cls).cl, nb, rfl, ?_⟩
    walk_at "rd"
    refine ⟨a1, _, dx1, _, _, rfl, h2, (T.tyR k.cls).cl, nsy, rfl, ?_⟩
    obtain ⟨w1, w2, w3, w4⟩ := hw
    refine rd_dynS h3 (by decide +kernel) ?_
    refine ⟨u, e, rfl, h3, w4, w3, fun q1 ys H2 n2 e2 hq1 my ly => ?_⟩
    refine rd_in_nL (SqL.of hq1) ?_
    have e02 := e1.trans e2
    walk_at "rd"
    refine rd_both (fun hc => ?_) (fun hc => ?_)
    · have hc' : Rw.self (.chg k b e) = false := by
        have z := (my b).mp (of_decide_eq_true hc)
        show decide (b ∉ e.bx) = false
        simpa using z
      refine rd_raise ?_
      walk_at "rd"
      exact rd_raise2 (fail e02 (by unfold whyK' Rw.whyK; rw [if_pos hc']))
    · have hc' : Rw.self (.chg k b e) = true := by
        have z : ¬ b ∈ ys := of_decide_eq_false hc
        show decide (b ∉ e.bx) = true
        rw [my] at z
        simpa using z
      walk_at "rd"
      have hO2 : OR A H2 (.chg k b e) (.ref a1) := hO.sm e02
      refine rd_isR1 T rfl hO2 ?_
      walk_at "rd"
      refine rd_false z1 ?_
      walk_at "rd"
      refine rd_isR1 T rfl hO2 ?_
      walk_at "rd"
      refine rd_false z2 ?_
      walk_at "rd"
      exact fine e02 hc' rfl
  | swap b e =>
    have hO1' := hO1
    obtain ⟨a1, dx1, rfl, h2⟩ := hO1
    refine rd_false rfl ?_
    walk_at "rd"
    refine rd_isR1 T rfl hO1' ?_
    walk_at "rd"
    refine rd_true rfl ?_
    walk_at "rd"
    refine ⟨a1, _, dx1, _, _, rfl, h2, (T.tyR .swap).cl, T.n_Swap_one, rfl, ?_⟩
    walk_at "rd"
    refine ⟨a1, _, dx1, _, _, rfl, h2, (T.tyR .swap).cl, T.n_Swap_other, rfl, ?_⟩
    walk_at "rd"
    refine rd_both (fun hc => ?_) (fun hc => ?_)
    · have hc' : Rw.self (.swap b e) = false := by
        have z : b = e := of_decide_eq_true hc
        show decide (b ≠ e) = false
        simpa using z
      refine rd_raise ?_
      walk_at "rd"
      exact rd_raise2 (fail e1 (by unfold whyK' Rw.whyK; rw [if_pos hc']))
    · have hc' : Rw.self (.swap b e) = true := by
        have z : ¬ b = e := of_decide_eq_false hc
        show decide (b ≠ e) = true
        simpa using z
      walk_at "rd"
      refine rd_isR1 T rfl hO1' ?_
      walk_at "rd"
      refine rd_false rfl ?_
      walk_at "rd"
      exact fine e1 hc' rfl
  | held b e y ff =>
    have hO1' := hO1
    obtain ⟨a1, dx1, u1, p0, u2, us, rfl, h2, h3, h4, h5, h6⟩ := hO1
    refine rd_false rfl ?_
    walk_at "rd"
    refine rd_isR1 T rfl hO1' ?_
    walk_at "rd"
    refine rd_false rfl ?_
    walk_at "rd"
    refine rd_isR1 T rfl hO1' ?_
    walk_at "rd"
    refine rd_true rfl ?_
    walk_at "rd"
    refine ⟨a1, _, dx1, _, _, rfl, h2, (T.tyR .held).cl, T.n_Held_box, rfl, ?_⟩
    walk_at "rd"
    refine rd_lstT (seqT_sm e1 hSt) fun l2 H2 n2 e2 hl2 => ?_
    have e12 := e1.trans e2
    walk_at "rd"
    refine ⟨a, _, dx, _, _, rfl, e12 _ _ ha, T.ty_Look.cl, T.n_Look_stacks, rfl, ?_⟩
    walk_at "rd"
    refine rd_lstT (seqT_sm e12 hS2) fun l3 H3 n3 e3 hl3 => ?_
    refine rd_plus_l (e3 _ _ hl2) hl3 (by rw [List.length_map, List.length_map]; omega) fun l4 H4 n4 e4 hl4 => ?_
    have e14 := (e12.trans e3).trans e4
    walk_at "rd"
    refine ⟨a, _, dx, _, _, rfl, e14 _ _ ha, T.ty_Look.cl, T.n_Look_named, rfl, ?_⟩
    refine rd_plus_l hl4 (e14 _ _ hl) (by simp only [List.length_append, List.length_map] at hzs ⊢; omega) fun l5 H5 n5 e5 hl5 => ?_
    have hl5' : H5 l5 = some (.lst ((th ++ p.st ++ p.rt.map (·.1)).map V.str)) := by
      rw [hl5, List.map_append, List.map_append]
    have e15 := e14.trans e5
    refine rd_in_nL (SqL.of hl5') ?_
    walk_at "rd"
    refine rd_both (fun hc => ?_) (fun hc => ?_)
    · have hc' : Rw.kept p.st (p.rt.map (·.1)) th (.held b e y ff) = false := by
        have z := of_decide_eq_true hc
        show decide (b ∉ th ++ p.st ++ p.rt.map (·.1)) = false
        exact decide_eq_false fun n => n z
      refine rd_raise ?_
      walk_at "rd"
      exact rd_raise2 (fail e15 (by unfold whyK' Rw.whyK; rw [if_neg (by show ¬ true = false; decide), if_pos hc']))
    · have hc' : Rw.kept p.st (p.rt.map (·.1)) th (.held b e y ff) = true := by
        have z := of_decide_eq_false hc
        show decide (b ∉ th ++ p.st ++ p.rt.map (·.1)) = true
        exact decide_eq_true z
      walk_at "rd"
      exact fine e15 rfl hc'
  | turn =>
    refine rd_false rfl ?_
    walk_at "rd"
    refine rd_isR1 T rfl hO1 ?_
    walk_at "rd"
    refine rd_false rfl ?_
    walk_at "rd"
    refine rd_isR1 T rfl hO1 ?_
    walk_at "rd"
    refine rd_false rfl ?_
    walk_at "rd"
    exact fine e1 rfl rfl

  | mov k =>
    refine rd_false (by cases k <;> rfl) ?_
    walk_at "rd"
    refine rd_isR1 T rfl hO1 ?_
    walk_at "rd"
    refine rd_false (by cases k <;> rfl) ?_
    walk_at "rd"
    refine rd_isR1 T rfl hO1 ?_
    walk_at "rd"
    refine rd_false (by cases k <;> rfl) ?_
    walk_at "rd"
    exact fine e1 rfl rfl
  | nam k =>
    refine rd_false (by cases k <;> rfl) ?_
    walk_at "rd"
    refine rd_isR1 T rfl hO1 ?_
    walk_at "rd"
    refine rd_false (by cases k <;> rfl) ?_
    walk_at "rd"
    refine rd_isR1 T rfl hO1 ?_
    walk_at "rd"
    refine rd_false (by cases k <;> rfl) ?_
    walk_at "rd"
    exact fine e1 rfl rfl
  | blk k =>
    refine rd_false (by cases k <;> rfl) ?_
    walk_at "rd"
    refine rd_isR1 T rfl hO1 ?_
    walk_at "rd"
    refine rd_false (by cases k <;> rfl) ?_
    walk_at "rd"
    refine rd_isR1 T rfl hO1 ?_
    walk_at "rd"
    refine rd_false (by cases k <;> rfl) ?_
    walk_at "rd"
    exact fine e1 rfl rfl
/-! ### need_row, need_rows -/
theorem walk_enumL {a : Addr} {xs : List V} : Walk (Ite K a) xs.length (fun H => SqL K H a xs) (fun i H v H' => ∃ T x, v = .ref T ∧ H T = none ∧ H' = upd H T (.tup [.int (i : Nat), x]) ∧ xs[i]? = some x) :=
  ⟨fun i _ hi q => ⟨xs, xs[i], q, by simp [hi]⟩, fun _ q => ⟨xs, q, Nat.le_refl _⟩, fun _ _ _ _ _ q ⟨T, x, h1, h2, h3, h4⟩ => ⟨T, x, h1, h2, h3, h4 xs q⟩⟩
theorem walk_enumT {a : Addr} {xs : List V} : Walk (IteT K a) xs.length (fun H => SqT K H a xs) (fun i H v H' => ∃ T x, v = .ref T ∧ H T = none ∧ H' = upd H T (.tup [.int (i : Nat), x]) ∧ xs[i]? = some x) :=
  ⟨fun i _ hi q => ⟨xs, xs[i], q, by simp [hi]⟩, fun _ q => ⟨xs, q, Nat.le_refl _⟩, fun _ _ _ _ _ q ⟨T, x, h1, h2, h3, h4⟩ => ⟨T, x, h1, h2, h3, h4 xs q⟩⟩
theorem rd_for_eL {te : TE} {g : TG} {tb : TS} {D : Ends} {σ : L2.St} {H : Hp} (q : te σ H fun v H1 => ∃ a xs, [v] = [.ref a] ∧ SqL K H1 a xs ∧ ForW g tb D σ (Ite K a) H1) : tFor (iEnumA K (tCons te tNil)) g tb D σ H := .inl q
theorem rd_for_eT {te : TE} {g : TG} {tb : TS} {D : Ends} {σ : L2.St} {H : Hp} (q : te σ H fun v H1 => ∃ a xs, [v] = [.ref a] ∧ SqT K H1 a xs ∧ ForW g tb D σ (IteT K a) H1) : tFor (iEnumA K (tCons te tNil)) g tb D σ H := .inr q
theorem dpA_one {H : Hp} {d : PyData} {v : V} (hd : Dp K H v d) : ∀ {ds : List PyData} {xs : List V}, DpAll K H xs ds → DpAll K H (xs ++ [v]) (ds ++ [d])
  | [], _, h => by
    cases dpA_nil h
    exact .cons hd .nil
  | e :: ds, _, h => by
    obtain ⟨u, r, rfl, h1, h2⟩ := dpA_cons h
    exact .cons h1 (dpA_one hd h2)
/-- place + (k,) -/
theorem rd_place {H : Hp} {Q : VK} {v : V} {pl : List PyData} {k : Int} {p : Addr} (h : Dp K H v (.tuple pl)) (hz : pl.length ≤ 900) (hp : H p = some (.tup [.int k])) (q : ∀ x H', Same H H' → Dp K H' x (.tuple (pl ++ [.int k])) → Q x H') : rPlus K v (.ref p) H Q := by
  obtain ⟨a, xs, rfl, hS, hA⟩ := dp_tup h
  refine rd_plus_t hS (SqT.of hp) (by rw [dpA_len hA]; simp; omega) fun p2 H2 e2 h2 => ?_
  exact q _ H2 e2 (.tup h2 (dpA_one (.int _) (dpAll_sm e2 _ _ hA)))

end

end

section
section
variable {P : Program} {w : World} {K : PySem.W.Frag} {mg : Str → Option Value} {base : Heap} {A : CA}
theorem Rw.ins_len (r : Rw) (th : List Str) : (r.ins th).length ≤ th.length + 1 := by
  cases r <;> simp [Rw.ins]
theorem rd_within (T : Txt K mg A) {σ : L2.St} {H : Hp} {r : Rw} {v tv : V} {th : List Str} {Q : VK} (h1 : σ[1]? = some (some v)) (h2 : σ[2]? = some (some tv)) (hO : OR A H r v) (ht : ONs K H th tv) (hz : th.length ≤ 900) (q : ∀ x H', Same H H' → ONs K H' (r.ins th) x → Q x H') :
    tIf (tTest (tCB (rIsiB K) (tCons (tVar 1) (tCons (tC (.ref (A.r .held))) tNil)))) (tOp (rPlus K) (tVar 2) (tTup (tCons (tFld K (tVar 1) "box") tNil))) (tVar 2) σ H Q := by
  refine rd_if ?_
  refine rd_test ?_
  refine rd_cb ?_
  refine rd_cons ?_
  refine rd_var h1 ?_
  walk_at "rd"
  refine rd_isR1 T rfl hO ?_
  refine rd_bl ?_
  have no : ∀ r : Rw, (r.cls.tag == RC.held.tag) = false → r.ins th = th := fun r hc => by
    cases r with
    | held => cases hc
    | _ => rfl
  refine rd_both (fun hc => ?_) (fun hc => ?_)
  · cases r with
    | held b e y ff =>
      obtain ⟨a1, dx1, u1, p0, u2, us, rfl, g2, _⟩ := hO
      obtain ⟨pt, rfl, hS⟩ := ht
      refine rd_op ?_
      refine rd_var h2 ?_
      refine rd_tup ?_
      refine rd_cons ?_
      refine rd_fld ?_
      refine rd_var h1 ?_
      refine ⟨a1, _, dx1, _, _, rfl, g2, (T.tyR .held).cl, T.n_Held_box, rfl, ?_⟩
      walk_at "rd"
      refine rd_new (by simp) fun p H1 np e1 hp => ?_
      refine rd_plus_t (seqT_sm e1 hS) (SqT.of hp) (by rw [List.length_map]; simp; omega) fun p2 H2 e2 hp2 => ?_
      exact q _ H2 (e1.trans e2) ⟨p2, rfl, by rw [show Rw.ins th (.held b e y ff) = th ++ [b] from rfl, List.map_append]; exact hp2⟩
    | chg k => cases k <;> cases hc
    | turn => cases hc
    | swap => cases hc
    | mov k => cases k <;> cases hc
    | nam k => cases k <;> cases hc
    | blk k => cases k <;> cases hc
  · refine rd_var h2 ?_
    exact q _ H (Same.refl _) (by rw [no r hc]; exact ht)
theorem Rw.inner_wf {r : Rw} (h : r.wf) : ∀ l ∈ r.innerR, wfRs l := by
  cases r with
  | blk k t y n a =>
    intro l hl
    rcases (by simpa [Rw.innerR] using hl : l = y ∨ l = n) with z | z
    · rw [z]; exact h.2.1
    · rw [z]; exact h.2.2.1
  | held b e y f =>
    intro l hl
    rw [List.mem_singleton.mp hl]
    exact h.2.2.1
  | _ => intro l hl; cases hl
theorem drop_one {α : Type} {l : List α} {j : Nat} {a : α} (h : l[j]? = some a) : l.drop j = a :: l.drop (j + 1) := by
  obtain ⟨hj, e⟩ := List.getElem?_eq_some_iff.mp h
  rw [List.drop_eq_getElem_cons hj, e]
def spNR (K : PySem.W.Frag) (A : CA) (n : Nat) : Sp := fun vs H Q E => ∃ (v rv tv qv : V) (p : Pg) (r : Rw) (th : List Str) (pl : List PyData), vs = [v, rv, tv, qv] ∧ OLk K A H p v ∧ OR A H r rv ∧ r.wf ∧ r.cnt ≤ 1000 ∧ r.dp ≤ n ∧ ONs K H th tv ∧ th.length + r.dp ≤ 100 ∧ p.names.length ≤ 100 ∧ Dp K H qv (.tuple pl) ∧ pl.length + 2 * r.dp ≤ 101 ∧ Out K A H Q E (r.look p.st (p.rt.map (·.1)) th pl)
def spNRs (K : PySem.W.Frag) (A : CA) (n : Nat) : Sp := fun vs H Q E => ∃ (v rv tv qv : V) (p : Pg) (rs : List Rw) (th : List Str) (pl : List PyData), vs = [v, rv, tv, qv] ∧ OLk K A H p v ∧ OT A H rs rv ∧ wfRs rs ∧ cntRs rs ≤ 1000 ∧ dpRs rs ≤ n ∧ ONs K H th tv ∧ th.length + dpRs rs ≤ 100 ∧ p.names.length ≤ 100 ∧ Dp K H qv (.tuple pl) ∧ pl.length + 2 * dpRs rs ≤ 100 ∧ Out K A H Q E (lookRs p.st (p.rt.map (·.1)) rs th pl 0)
theorem OLk.obj {H : Hp} {p : Pg} {v : V} (h : OLk K A H p v) : ∃ a dx fs, v = .ref a ∧ H a = some (.ins A.Look dx fs) ∧ fs.map (·.1) = (["boxes", "stacks", "named"] : List Str) := by
  obtain ⟨a, dx, v1, v2, l, h1, h2, _⟩ := h
  exact ⟨a, dx, _, h1, h2, rfl⟩
theorem rd_mthL {H : Hp} {p : Pg} {v : V} {m : Str} {R : Prop} (h : OLk K A H p v) (hm : (["boxes", "stacks", "named"] : List Str).contains m = false) (q : R) : ∃ a dx fs, v = .ref a ∧ H a = some (.ins A.Look dx fs) ∧ fs.lookup m = none ∧ R := by
  obtain ⟨a, dx, fs, h1, h2, h3⟩ := h.obj
  exact ⟨a, dx, fs, h1, h2, lookup_free (fl := ["boxes", "stacks", "named"]) _ h3 (by decide +kernel) hm, q⟩
theorem ok_need_rows1 {n k : Nat} (T : Txt K mg A) (m_need_row : Mth P w K mg base (L2.CX P w) A.Look "need_row" k ["self", "row", "there", "place"] (spNR K A n)) : Mth P w K mg base (L2.CX P w) A.Look "need_rows" (k + 1) ["self", "rows", "there", "ahead"] (spNRs K A n) := by
  refine T.m_Look_need_rows.okX sc_Look_need_rows (fun vs H Q E h => ?_) (fun f cdv Ar outer s H vs Q E hr h => ?_)
  · obtain ⟨v, rv, tv, qv, p, rs, th, pl, rfl, _⟩ := h
    rfl
  obtain ⟨v, rv, tv, qv, p, rs, th, pl, rfl, hL, ⟨pr, us, rfl, hp, hu⟩, hw, hc, hn, ht, htl, hz, hD, hpl, o⟩ := h
  refine ⟨_, (pss_one (ps_for (passes_of rfl) rfl (k_enum K (by rfl) T.b_enumerate (pv 1)) (k_gtup K (n := 2) rfl (pgs_cons (pg_name (i := 4) sc_Look_need_rows.nd rfl (by first | exact Or.inl rfl | exact Or.inr rfl)) (pgs_cons (pg_name (i := 5) sc_Look_need_rows.nd rfl (by first | exact Or.inl rfl | exact Or.inr rfl)) pgs_nil))) (pss_one (ps_expr (pe_mth m_need_row hr (by omega) (passes_call (takes_of rfl rfl rfl rfl) (fun _ _ _ _ h => h)) (pv 0) (pa_cons (pv 5) (pa_cons (pv 2) (pa_cons (pe_op (k_plus K) (pv 3) (pe_tup (pa_cons (pv 4) pa_nil))) pa_nil)))))))), ?_⟩
  refine rd_for_eT ?_
  walk_at "rd"
  refine ⟨pr, us, rfl, SqT.of hp, ?_⟩
  have hl := hu.len
  refine for_it walk_enumT (fun i σ' H' => (∃ o4 o5, σ' = [some v, some (.ref pr), some tv, some qv, o4, o5]) ∧ Same H H' ∧ lookRs p.st (p.rt.map (·.1)) rs th pl 0 = lookRs p.st (p.rt.map (·.1)) (rs.drop i) th pl i) ⟨⟨none, none, rfl⟩, Same.refl _, rfl⟩ (fun _ _ _ _ h => seqT_sm h.2.1 (SqT.of hp)) ?_ ?_
  · rintro j y σ' H2 H3 hj ⟨⟨o4, o5, rfl⟩, e2, eq2⟩ ⟨T0, x, rfl, nT, rfl, hx⟩
    obtain ⟨r, h1, h2⟩ := hu.get hx
    have hm := List.mem_of_getElem? h1
    have e23 : Same H2 (upd H2 T0 (.tup [.int (j : Nat), x])) := sm_new nT
    have e3 := e2.trans e23
    refine rd_gtup (SqT.of upd_same) rfl ?_
    refine rd_gcons ?_
    refine rd_name ?_
    refine rd_gcons ?_
    refine rd_name ?_
    refine rd_gnil ?_
    walk_at "rd"
    refine rd_mthL (hL.sm e3) (by decide +kernel) ?_
    walk_at "rd"
    refine rd_new (by simp) fun p4 H4 np4 e4 hp4 => ?_
    have e04 := e3.trans e4
    have hdr : r.dp ≤ dpRs rs := dpRs_all.mp (Nat.le_refl _) r hm
    refine rd_place (dp_sm e04 _ _ hD) (by omega) hp4 fun x5 H5 e5 hd5 => ?_
    have e05 := e04.trans e5
    rw [drop_one h1] at eq2
    have eq3 : lookRs p.st (p.rt.map (·.1)) rs th pl 0 = (r.look p.st (p.rt.map (·.1)) th (pl ++ [.int (j : Nat)])).or (lookRs p.st (p.rt.map (·.1)) (rs.drop (j + 1)) th pl (j + 1)) := eq2
    have o5 := o.sm e05
    rw [eq3] at o5
    refine ⟨v, x, tv, x5, p, r, th, _, rfl, hL.sm e05, h2.sm e05, wfRs_all.mp hw r hm, Nat.le_trans (cnt_mem hm) hc, Nat.le_trans hdr hn, ht.sm e05, by omega, hz, hd5, by rw [List.length_append]; simp; omega, o5.fst fun hno H6 e6 => ?_⟩
    walk_at "rd"
    refine ⟨⟨_, _, rfl⟩, e05.trans e6, ?_⟩
    rw [eq3, hno, Option.none_or]
  · rintro σ' H2 ⟨⟨o4, o5, rfl⟩, e2, eq2⟩
    rw [hl, List.drop_length] at eq2
    exact o.ok eq2 _ e2
theorem neverX {CX : CXT} {C : Addr} {m qual : Str} {st : Stmt} {ps : List Str} {k : Nat} {sp : Sp} (d : MthAt K C m qual st ps) (no : ∀ vs H Q E, ¬ sp vs H Q E) : Mth P w K mg base CX C m k ps sp := by
  obtain ⟨f, fd, F, c, g, b⟩ := d
  exact ⟨f, fd, ⟨fun _ _ _ _ h => (no _ _ _ _ h).elim, fun A outer s H args us vs Q E _ _ _ _ h => (no _ _ _ _ h).elim⟩, c, g, b⟩
theorem spNR0 : ∀ vs H Q E, ¬ spNR K A 0 vs H Q E := fun vs H Q E h => by
  obtain ⟨v, rv, tv, qv, p, r, th, pl, _, _, _, _, _, hn, _⟩ := h
  have := r.dp_pos
  omega
theorem ok_need_row (T : Txt K mg A) (U : TxE K A) : ∀ n : Nat, Mth P w K mg base (L2.CX P w) A.Look "need_row" (2 * n + 13) ["self", "row", "there", "place"] (spNR K A n)
  | 0 => neverX T.m_Look_need_row spNR0
  | n + 1 => by
    have m_need_rows := ok_need_rows1 T (ok_need_row T U n)
    have m_need_named := ok_need_named (P := P) (w := w) (base := base) T U
    have m_need_kept := ok_need_kept (P := P) (w := w) (base := base) T U
    have m_inner := ok_rinner (P := P) (w := w) (base := base) T
    refine T.m_Look_need_row.okX sc_Look_need_row (fun vs H Q E h => ?_) (fun f cdv Ar outer s H vs Q E hr h => ?_)
    · obtain ⟨v, rv, tv, qv, p, r, th, pl, rfl, _⟩ := h
      rfl
    obtain ⟨v, rv, tv, qv, p, r, th, pl, rfl, hL, hO, hw, hc, hn, ht, htl, hz, hD, hpl, o⟩ := h
    refine ⟨_, (pss_cons (ps_expr (pe_mth m_need_named hr (by omega) (passes_call (takes_of rfl rfl rfl rfl) (fun _ _ _ _ h => h)) (pv 0) (pa_cons (pv 1) (pa_cons (pv 2) (pa_cons (pv 3) pa_nil)))))
    (pss_cons (ps_expr (pe_mth m_need_kept hr (by omega) (passes_call (takes_of rfl rfl rfl rfl) (fun _ _ _ _ h => h)) (pv 0) (pa_cons (pv 1) (pa_cons (pv 2) (pa_cons (pv 3) pa_nil)))))
    (pss_cons (ps_set (i := 4) sc_Look_need_row.nd rfl (by first | exact Or.inl rfl | exact Or.inr rfl) (pe_ifExp (pt_val (pe_callB (k_isi K) (by rfl) T.b_isinstance bt_isinstance (pa_cons (pv 1) (pa_cons (pe_gref T.g_Held) pa_nil)))) (pe_op (k_plus K) (pv 2) (pe_tup (pa_cons (k_fld K (pv 1) rfl) pa_nil))) (pv 2)))
    (pss_one (ps_for (passes_of rfl) rfl (k_enum K (by rfl) T.b_enumerate (pe_dyn m_inner hr (by omega) pass0 (pv 1))) (k_gtup K (n := 2) rfl (pgs_cons (pg_name (i := 5) sc_Look_need_row.nd rfl (by first | exact Or.inl rfl | exact Or.inr rfl)) (pgs_cons (pg_name (i := 6) sc_Look_need_row.nd rfl (by first | exact Or.inl rfl | exact Or.inr rfl)) pgs_nil))) (pss_one (ps_expr (pe_mth m_need_rows hr (by omega) (passes_call (takes_of rfl rfl rfl rfl) (fun _ _ _ _ h => h)) (pv 0) (pa_cons (pv 6) (pa_cons (pv 4) (pa_cons (pe_op (k_plus K) (pv 3) (pe_tup (pa_cons (pv 5) pa_nil))) pa_nil))))))))))), ?_⟩
    have hdp := r.dp_pos
    rw [r.look_eq, Rw.why, Option.or_assoc] at o
    walk_at "rd"
    refine rd_mthL hL (by decide +kernel) ?_
    walk_at "rd"
    refine ⟨v, rv, tv, qv, p, r, th, pl, rfl, hL, hO, hw, ht, by omega, hz, hD, o.fst fun hno H1 e1 => ?_⟩
    have o1 := (o.snd hno).sm e1
    walk_at "rd"
    refine rd_mthL (hL.sm e1) (by decide +kernel) ?_
    walk_at "rd"
    refine ⟨v, rv, tv, qv, p, r, th, pl, rfl, hL.sm e1, hO.sm e1, hw, ht.sm e1, by omega, hz, dp_sm e1 _ _ hD, o1.fst fun hno1 H2 e2 => ?_⟩
    have o2 := (o1.snd hno1).sm e2
    have e02 := e1.trans e2
    refine rd_seq ?_
    refine rd_asg ?_
    refine rd_within T ?h1 ?h2 (hO.sm e02) (ht.sm e02) (by omega) fun xw H3 e3 hxw => ?_
    case h1 => exact rfl
    case h2 => exact rfl
    have e03 := e02.trans e3
    have o3 := o2.sm e3
    have hil := r.ins_len th
    walk_at "rd"
    refine rd_for_eL ?_
    walk_at "rd"
    refine rd_dynR (hO.sm e03) (by decide +kernel) ?_
    refine ⟨rv, r, rfl, hO.sm e03, rfl, fun py us H4 ny e4 hy hu => ?_⟩
    have e04 := e03.trans e4
    have o4 := o3.sm e4
    have hlu : us.length = r.innerR.length := (Paired.length hu).symm
    refine ⟨py, us, rfl, SqL.of hy, ?_⟩
    refine for_it walk_enumL (fun i σ' H' => (∃ o5 o6, σ' = [some v, some rv, some tv, some qv, some xw, o5, o6]) ∧ Same H4 H' ∧ lookPs p.st (p.rt.map (·.1)) r.innerR (r.ins th) pl 0 = lookPs p.st (p.rt.map (·.1)) (r.innerR.drop i) (r.ins th) pl i) ⟨⟨none, none, rfl⟩, Same.refl _, rfl⟩ (fun _ _ _ _ h => h.2.1.seq (SqL.of hy)) ?_ ?_
    · rintro j y σ' H5 H6 hj ⟨⟨o5, o6, rfl⟩, e5, eq5⟩ ⟨T0, x, rfl, nT, rfl, hx⟩
      obtain ⟨l, h1, h2⟩ := paired_get hu hx
      have hm := List.mem_of_getElem? h1
      have e56 : Same H5 (upd H5 T0 (.tup [.int (j : Nat), x])) := sm_new nT
      have e46 := e5.trans e56
      have e06 := e04.trans e46
      refine rd_gtup (SqT.of upd_same) rfl ?_
      refine rd_gcons ?_
      refine rd_name ?_
      refine rd_gcons ?_
      refine rd_name ?_
      refine rd_gnil ?_
      walk_at "rd"
      refine rd_mthL (hL.sm e06) (by decide +kernel) ?_
      walk_at "rd"
      refine rd_new (by simp) fun p7 H7 np7 e7 hp7 => ?_
      have e07 := e06.trans e7
      have hd5 := Rw.inner_dp hm
      have hc5 := Rw.inner_cnt hm
      refine rd_place (dp_sm e07 _ _ hD) (by omega) hp7 fun x8 H8 e8 hd8 => ?_
      have e08 := e07.trans e8
      have e48 := (e46.trans e7).trans e8
      rw [drop_one h1] at eq5
      have eq3 : lookPs p.st (p.rt.map (·.1)) r.innerR (r.ins th) pl 0 = (lookRs p.st (p.rt.map (·.1)) l (r.ins th) (pl ++ [.int (j : Nat)]) 0).or (lookPs p.st (p.rt.map (·.1)) (r.innerR.drop (j + 1)) (r.ins th) pl (j + 1)) := eq5
      have o8 := o4.sm e48
      rw [eq3] at o8
      refine ⟨v, x, xw, x8, p, l, r.ins th, _, rfl, hL.sm e08, h2.sm e48, Rw.inner_wf hw l hm, by omega, by omega, hxw.sm (e4.trans e48), by omega, hz, hd8, by rw [List.length_append]; simp; omega, o8.fst fun hno9 H9 e9 => ?_⟩
      walk_at "rd"
      refine ⟨⟨_, _, rfl⟩, e48.trans e9, ?_⟩
      rw [eq3, hno9, Option.none_or]
    · rintro σ' H5 ⟨⟨o5, o6, rfl⟩, e5, eq5⟩
      rw [hlu, List.drop_length] at eq5
      exact o4.ok eq5 _ e5
/-! ### look, is_let -/
def spLook (K : PySem.W.Frag) (A : CA) : Sp := fun vs H Q E => ∃ (v : V) (p : Pg), vs = [v] ∧ OP K A H p v ∧ p.wf ∧ Out K A H Q E p.look
theorem Pg.wf.names {p : Pg} (h : p.wf) : p.names.length ≤ 100 := by
  have b2 := h.b2
  have s2 := h.s2
  have r2 := h.r2
  unfold Pg.names
  rw [List.length_append, List.length_append, List.length_map]
  omega
theorem rd_mkLk {v : V} {p : Pg} {H : Hp} {Q : VK} {E : XK} (hO : OP K A H p v) (hw : p.wf) (q : ∀ x H', Same H H' → OLk K A H' p (.ref x) → Q (.ref x) H') :
    ∀ x dx, H x = none → H dx = none → dx ≠ x → spLkI K A (.ref x :: ([v] ++ [])) (upd (upd H dx (.own x)) x (.ins A.Look dx [])) (fun v H2 => v = .non ∧ Q (.ref x) H2) E := by
  intro x dx nx nd ne
  have e1 : Same H (upd H dx (.own x)) := sm_new nd
  have n1 : upd H dx (.own x) x = none := by rw [upd_ne (Ne.symm ne)]; exact nx
  have e2 : Same H (upd (upd H dx (.own x)) x (.ins A.Look dx [])) := e1.trans (sm_new n1)
  have r2 := hw.r2
  exact ⟨x, dx, v, p, rfl, upd_same, hO.sm e2, by omega, fun H' k h => ⟨rfl, q x H' (sm_of_kp e2 nx k) h⟩⟩
theorem ok_look (T : Txt K mg A) (U : TxE K A) : Cal P w K mg base (L2.CX P w) "look" 27 ["program"] (spLook K A) := by
  have k_Look := ok_Look_init (P := P) (w := w) (base := base) T
  have m_need_single := ok_need_single (P := P) (w := w) (base := base) T U
  have m_need_rows := ok_need_rows1 T (ok_need_row (P := P) (w := w) (base := base) T U 6)
  refine T.d_look.okX sc_look (fun vs H Q E h => ?_) (fun f cdv Ar outer s H vs Q E hr h => ?_)
  · obtain ⟨v, p, rfl, _⟩ := h
    rfl
  obtain ⟨v, p, rfl, hO, hw, o⟩ := h
  refine ⟨_, (pss_cons (ps_set (i := 1) sc_look.nd rfl (by first | exact Or.inl rfl | exact Or.inr rfl) (pe_mkr k_Look hr (by omega) pass0 (pa_cons (pv 0) pa_nil)))
    (pss_cons (ps_expr (pe_mth0 m_need_single hr (by omega) (passes_call (takes_of rfl rfl rfl rfl) (fun _ _ _ _ h => h)) (pv 1)))
    (pss_one (ps_for (passes_of rfl) rfl (k_any K (k_fld K (pv 0) rfl)) (k_gtup K (n := 2) rfl (pgs_cons (pg_name (i := 2) sc_look.nd rfl (by first | exact Or.inl rfl | exact Or.inr rfl)) (pgs_cons (pg_name (i := 3) sc_look.nd rfl (by first | exact Or.inl rfl | exact Or.inr rfl)) pgs_nil))) (pss_one (ps_expr (pe_mth m_need_rows hr (by omega) (passes_call (takes_of rfl rfl rfl rfl) (fun _ _ _ _ h => h)) (pv 1) (pa_cons (pv 3) (pa_cons (k_fld K (pv 0) rfl) (pa_cons (pe_tup (pa_cons (pv 2) pa_nil)) pa_nil)))))))))), ?_⟩
  have hz := hw.names
  have b2 := hw.b2
  walk_at "rd"
  refine rd_mkLk (Q := fun xx H2 => gName 1 xx (L2.start N_look [v]) H2 _) hO hw fun x H1 e1 hL => ?_
  unfold Pg.look at o
  walk_at "rd"
  refine rd_mthL hL (by decide +kernel) ?_
  walk_at "rd"
  have o1 := o.sm e1
  refine ⟨.ref x, p, rfl, hL, by omega, o1.fst fun hno H2 e2 => ?_⟩
  have o2 := (o1.snd hno).sm e2
  have e02 := e1.trans e2
  have hO2 := hO.sm e02
  obtain ⟨a, dx, v1, v2, v3, rfl, ha, h1, h2, t, us, rfl, ht, hl, hg⟩ := hO2
  walk_at "rd"
  refine rd_for_t ?_
  walk_at "rd"
  refine ⟨a, _, dx, _, _, rfl, ha, T.ty_Program.cl, T.n_Program_routines, rfl, ?_⟩
  have hS := SqT.of (K := K) ht
  refine ⟨_, rfl, ⟨_, hS⟩, ?_⟩
  refine for_it walk_tup (fun i σ' H' => (∃ o5 o6, σ' = [some (.ref a), some (.ref x), o5, o6]) ∧ Same H2 H' ∧ lookAll p.st (p.rt.map (·.1)) p.bx p.rt = lookAll p.st (p.rt.map (·.1)) p.bx (p.rt.drop i)) ⟨⟨none, none, rfl⟩, Same.refl _, rfl⟩ (fun _ _ _ _ h => seqT_sm h.2.1 hS) ?_ ?_
  · rintro j y σ' H3 H4 hj ⟨⟨o5, o6, rfl⟩, e3, eq3⟩ ⟨rfl, hx⟩
    obtain ⟨pr, g1, t4, v4, rfl, g3, g4⟩ := hg j y hx
    have hm := List.mem_of_getElem? g1
    have hcn := hw.cnt hm
    have hdn := hw.rd pr hm
    refine rd_gtup (SqT.of (e3 _ _ g3)) rfl ?_
    refine rd_gcons ?_
    refine rd_name ?_
    refine rd_gcons ?_
    refine rd_name ?_
    refine rd_gnil ?_
    walk_at "rd"
    refine rd_mthL (hL.sm (e2.trans e3)) (by decide +kernel) ?_
    walk_at "rd"
    refine ⟨a, _, dx, _, _, rfl, e3 _ _ ha, T.ty_Program.cl, T.n_Program_boxes, rfl, ?_⟩
    walk_at "rd"
    refine rd_new (by simp) fun p5 H5 np5 e5 hp5 => ?_
    have e25 := e3.trans e5
    rw [drop_one g1] at eq3
    have eq4 : lookAll p.st (p.rt.map (·.1)) p.bx p.rt = (lookRs p.st (p.rt.map (·.1)) pr.2 p.bx [.str pr.1] 0).or (lookAll p.st (p.rt.map (·.1)) p.bx (p.rt.drop (j + 1))) := eq3
    have o5 := o2.sm e25
    rw [eq4] at o5
    refine ⟨.ref x, v4, v1, .ref p5, p, pr.2, p.bx, [.str pr.1], rfl, hL.sm (e2.trans e25), g4.car (.sm e25), hw.rw pr hm, by omega, hdn, h1.sm e25, by omega, hz, .tup (SqT.of hp5) (.cons (.str _) .nil), by simp; omega, o5.fst fun hno6 H6 e6 => ?_⟩
    walk_at "rd"
    refine ⟨⟨_, _, rfl⟩, e25.trans e6, ?_⟩
    rw [eq4, hno6, Option.none_or]
  · rintro σ' H3 ⟨⟨o5, o6, rfl⟩, e3, eq3⟩
    rw [hl, List.drop_length] at eq3
    exact o2.ok eq3 _ e3
def spIsLet (K : PySem.W.Frag) (A : CA) : Sp := fun vs H Q _ => ∃ (v : V) (p : Pg), vs = [v] ∧ OP K A H p v ∧ p.wf ∧ Rt H Q (.bl p.look.isNone)
theorem ok_is_let (T : Txt K mg A) (U : TxE K A) : Cal P w K mg base CX0 "is_let" 28 ["program"] (spIsLet K A) := by
  have c_look := ok_look (P := P) (w := w) (base := base) T U
  refine T.d_is_let.ok sc_is_let (fun vs H Q E h => ?_) (fun f cdv Ar outer s H vs Q E hr h => ?_)
  · obtain ⟨v, p, rfl, _⟩ := h
    rfl
  obtain ⟨v, p, rfl, hO, hw, q⟩ := h
  refine ⟨_, pss_one (ps_try_onlyE (Wout := fun _ _ _ _ => False) (tb := fun W => tDrop (tCall (spLook K A) [] (fun cls d H => ∀ σ, W cls d σ H) (tCons (tVar 0) tNil))) (ts := fun _ _ _ => tRet (tC (.bl false))) (pss_one (ps_ret pe_bl)) rfl rfl ⟨rfl, by decide, .inl T.g_NoWay⟩ (fun u s' ⟨_, _, _, _, _, _, _, _, _, _, _, _, _, _, _, _, z⟩ => z.elim)
    (fun W pn xe tk po => pss_one (ps_expr (pe_cal c_look hr (by omega) (passes_call tk (fun _ _ _ _ h => h _)) (pa_cons (pv 0) pa_nil)))) (fun a oe cls d pn hz hf => pss_one (ps_ret pe_bl))), ?_⟩
  refine rd_drop ?_
  walk_at "rd"
  refine ⟨v, p, rfl, hO, hw, fun hno H1 e1 => ?_, fun pl y hso d qv H1 e1 hd hD σ => ?_⟩
  · walk_at "rd"
    have z := q H1 e1
    rw [hno] at z
    exact z
  · refine ⟨true, U.m1, fun _ a na => ?_, fun z => by cases z⟩
    walk_at "rd"
    have z := q H1 e1
    rw [hso] at z
    exact z

end

end

section
section
variable {X : Cx}
/-- d.update(e) -/
def rUpd : V → List V → Hp → VK → Prop := fun x vs H Q => ∃ (a b : Addr) (kvs more : List (Key × V)), x = .ref a ∧ vs = [.ref b] ∧ a ≠ b ∧ H a = some (.dK kvs) ∧ H b = some (.dK more) ∧ kvs.length + more.length ≤ 1000 ∧ Q .non (upd H a (.dK (mergeK kvs more)))
theorem mt_update : MtR X "dict.update" rUpd := by
  intro pins s σ H x vs v us Q I rx rv h
  obtain ⟨a, b, kvs, more, rfl, rfl, ne, ha, hb, hz, q⟩ := h
  cases rx
  obtain ⟨u, rfl, ru⟩ := rv.one
  cases ru
  obtain ⟨z1, d1, vs1, r1, dd1⟩ := dk_of I.hok ha
  obtain ⟨z2, d2, vs2, r2, dd2⟩ := dk_of I.hok hb
  have hl := length_mergeK more kvs
  refine call_meetsIn PySem.F.slot_dict_update dd1.typeIs PySem.F.entry_dict_update (PySem.F.args_dict_update_2 _ _) (meets_dict_update (mixKind X.prog X.w) a b ne d2) ⟨vs1, vs2, dd1, dd2, by rw [← r1.length, ← r2.length]; exact size_ok hz, fun h' e1 e2 hs => ⟨.non, _, ?_, rfl, q⟩⟩
  have he : ∃ q, h'.get? a = some q := by
    obtain ⟨q, _, _, hq, _⟩ := e1
    exact ⟨q, hq⟩
  exact d_write (t' := s.toks) I (by rw [ha]; exact True.intro) hs he (dk_new (Nat.le_trans hl (size_ok hz)) d1 (r2.merge r1) e1)
end
section
variable {K : PySem.W.Frag} {σ : L2.St} {H : Hp}
theorem rd_gsub {to ti : TE} {t : TSet} {v : V} {R : L2.St → Hp → Prop} (q : to σ H fun o H1 => ti σ H1 fun i H2 => t o i v H2 fun H3 => R σ H3) : gSub to ti t v σ H R := q
theorem rd_setL {p : Addr} {xs : List V} {k : Int} {j : Nat} {v : V} {Q : Hp → Prop} (h : H p = some (.lst xs)) (e : ixN xs.length k = some j) (q : Q (upd H p (.lst (xs.set j v)))) : rSetL (.ref p) (.int k) v H Q := ⟨p, xs, k, j, rfl, rfl, h, e, q⟩
theorem rd_dget {td ty : TE} {Q : VK} (q : td σ H fun x H1 => ty σ H1 fun y H2 => ∃ a v, x = .ref a ∧ DGet H2 a y (some v) ∧ Q v H2) : tDGet td ty σ H Q := q
theorem rd_dput {td ty tv : TE} {nx : L2.St → Hp → Prop} {rt : VK} {bk ct : L2.St → Hp → Prop} (q : tv σ H fun v H1 => td σ H1 fun x H2 => ty σ H2 fun y H3 => ∃ a H4, x = .ref a ∧ DPut H3 a y v H4 ∧ nx σ H4) : sDPut td ty tv { nx := nx, rt := rt, bk := bk, ct := ct } σ H := q
end
section
variable {P : Program} {w : World} {K : PySem.W.Frag} {mg : Str → Option Value} {base : Heap} {A : CA}
/-! # the law's draws -/
def Sta (s : Addr) (H : Hp) : Prop := ∃ a b : Int, H s = some (.lst [.int a, .int b]) ∧ 0 ≤ a ∧ a < 2147483647 ∧ 0 ≤ b
theorem Sta.sm {s : Addr} {H H' : Hp} (h : Sta s H) (e : Same H H') : Sta s H' := by
  obtain ⟨a, b, h1, h2⟩ := h
  exact ⟨a, b, e _ _ h1, h2⟩
def spMix : Sp := fun vs H Q _ => ∃ (s : Addr) (c : Int), vs = [.ref s, .int c] ∧ Sta s H ∧ ∀ (n : Int) (H' : Hp), 0 ≤ n → Kp [s] H H' → Sta s H' → Q (.int n) H'
theorem ok_L_mix (T : Txt K mg A) : Cal P w K mg base CX0 "_law_mix" 1 ["_law_state", "_law_cell"] spMix := by
  refine T.d_L_mix.ok sc_L_mix (fun vs H Q E h => ?_) (fun f cdv Ar outer s H vs Q E hr h => ?_)
  · obtain ⟨s, c, rfl, _⟩ := h
    rfl
  obtain ⟨s, c, rfl, ⟨a, b, hs, a0, a1, b0⟩, q⟩ := h
  refine ⟨_, (pss_cons (ps_if (pt_cmpR op_ge (pe_callB call_abs (by rfl) T.b_abs bt_abs (pa_cons (pv 1) pa_nil)) (pe_op op_pow pe_int pe_int) (nomark _)) (pss_one (ps_asg (pe_callB call_abs (by rfl) T.b_abs bt_abs (pa_cons (pv 1) pa_nil)) (pg_sub (pv 0) pe_int set_list))) pss_nil)
    (pss_cons (ps_if (pt_cmpR op_gt (pe_ix (k_ix K) (pv 0) pe_int (fun _ _ => rfl)) pe_int (nomark _)) (pss_cons (ps_set (i := 2) sc_L_mix.nd rfl (by first | exact Or.inl rfl | exact Or.inr rfl) (pe_op op_mod (pe_ix (k_ix K) (pv 0) pe_int (fun _ _ => rfl)) pe_int))
    (pss_cons (ps_asg (pe_op op_fdiv (pe_ix (k_ix K) (pv 0) pe_int (fun _ _ => rfl)) pe_int) (pg_sub (pv 0) pe_int set_list))
    (pss_one (ps_ret (pv 2))))) pss_nil)
    (pss_cons (ps_asg (pe_op op_mod (pe_op (k_plus K) (pe_op (k_plus K) (pe_op op_times (pe_ix (k_ix K) (pv 0) pe_int (fun _ _ => rfl)) pe_int) (pe_op op_times (pe_op op_mod (pv 1) pe_int) pe_int)) pe_int) pe_int) (pg_sub (pv 0) pe_int set_list))
    (pss_one (ps_ret (pe_op op_fdiv (pe_op op_mod (pe_op op_times (pe_ix (k_ix K) (pv 0) pe_int (fun _ _ => rfl)) (pe_ix (k_ix K) (pv 0) pe_int (fun _ _ => rfl))) pe_int) pe_int)))))), ?_⟩
  have ab : 0 ≤ (if c < 0 then -c else c) := by split <;> omega
  walk_at "rd"
  refine ⟨c, rfl, ?_⟩
  walk_at "rd"
  refine rd_I ⟨by decide, by decide, by decide⟩ ?_
  walk_at "rd"
  refine rd_both (fun hc => ?_) (fun hc => ?_)
  · walk_at "rd"
    refine ⟨c, rfl, ?_⟩
    refine rd_gsub ?_
    walk_at "rd"
    refine rd_setL (j := 1) hs (by rfl) ?_
    have b1 := ab
    revert b1
    generalize (if c < 0 then -c else c) = b'
    intro b1
    have hs1 : upd H s (.lst ([V.int a, V.int b].set 1 (.int b'))) s = some (.lst [.int a, .int b']) := upd_same
    have k1 : Kp [s] H (upd H s (.lst ([V.int a, V.int b].set 1 (.int b')))) := Kp.put hs (by simp) (fun _ z => by cases z) (fun _ _ z => by cases z)
    revert hs1 k1
    generalize upd H s (.lst ([V.int a, V.int b].set 1 (.int b'))) = H1
    intro hs1 k1
    walk_at "rd"
    refine rd_ix_l (SqL.of hs1) (atI_nat (j := 1) rfl) ?_
    walk_at "rd"
    refine rd_both (fun hb => ?_) (fun hb => ?_)
    · walk_at "rd"
      refine rd_ix_l (SqL.of hs1) (atI_nat (j := 1) rfl) ?_
      walk_at "rd"
      refine rd_I (by decide) ?_
      walk_at "rd"
      refine rd_ix_l (SqL.of hs1) (atI_nat (j := 1) rfl) ?_
      walk_at "rd"
      refine rd_I ⟨by decide, by decide⟩ ?_
      refine rd_gsub ?_
      walk_at "rd"
      refine rd_setL (j := 1) hs1 (by rfl) ?_
      walk_at "rd"
      exact q _ _ (Int.emod_nonneg _ (by decide)) (k1.trans (Kp.put hs1 (by simp) (fun _ z => by cases z) (fun _ _ z => by cases z))) ⟨a, _, upd_same, a0, a1, Int.ediv_nonneg b1 (by decide)⟩
    · walk_at "rd"
      refine rd_ix_l (SqL.of hs1) (atI_nat (j := 0) rfl) ?_
      walk_at "rd"
      refine rd_times_i (.inr ⟨by decide, by decide⟩) ?_
      walk_at "rd"
      refine rd_I (by decide) ?_
      walk_at "rd"
      refine rd_times_i (.inr ⟨by decide, by decide⟩) ?_
      walk_at "rd"
      walk_at "rd"
      refine rd_I (by decide) ?_
      refine rd_gsub ?_
      walk_at "rd"
      refine rd_setL (j := 0) hs1 (by rfl) ?_
      have a2 : 0 ≤ (a * 48271 + c % 2147483647 * 16807 + 11) % 2147483647 := Int.emod_nonneg _ (by decide)
      have a3 : (a * 48271 + c % 2147483647 * 16807 + 11) % 2147483647 < 2147483647 := Int.emod_lt_of_pos _ (by decide)
      revert a2 a3
      generalize (a * 48271 + c % 2147483647 * 16807 + 11) % 2147483647 = a'
      intro a2 a3
      have hs3 : upd H1 s (.lst ([V.int a, V.int b'].set 0 (.int a'))) s = some (.lst [.int a', .int b']) := upd_same
      have k3 := k1.trans (Kp.put (o := .lst ([V.int a, V.int b'].set 0 (.int a'))) hs1 (by simp : s ∈ [s]) (fun _ z => by cases z) (fun _ _ z => by cases z))
      walk_at "rd"
      refine rd_ix_l (SqL.of hs3) (atI_nat (j := 0) rfl) ?_
      walk_at "rd"
      refine rd_ix_l (SqL.of hs3) (atI_nat (j := 0) rfl) ?_
      refine rd_times_i (.inl ⟨by omega, by omega⟩) ?_
      walk_at "rd"
      refine rd_I (by decide) ?_
      walk_at "rd"
      refine rd_I ⟨by decide, by decide⟩ ?_
      exact q _ _ (Int.ediv_nonneg (Int.emod_nonneg _ (by decide)) (by decide)) k3 ⟨a', b', hs3, a2, a3, b1⟩
  · obtain ⟨b', hb', b1⟩ : ∃ b' : Int, b' = b ∧ 0 ≤ b' := ⟨b, rfl, b0⟩
    obtain ⟨H1, hH, k1⟩ : ∃ H1, H1 = H ∧ Kp [s] H H1 := ⟨H, rfl, Kp.refl H⟩
    rw [← hb'] at hs
    have hs1 : H1 s = some (.lst [.int a, .int b']) := by rw [hH]; exact hs
    rw [← hH]
    walk_at "rd"
    refine rd_ix_l (SqL.of hs1) (atI_nat (j := 1) rfl) ?_
    walk_at "rd"
    refine rd_both (fun hb => ?_) (fun hb => ?_)
    · walk_at "rd"
      refine rd_ix_l (SqL.of hs1) (atI_nat (j := 1) rfl) ?_
      walk_at "rd"
      refine rd_I (by decide) ?_
      walk_at "rd"
      refine rd_ix_l (SqL.of hs1) (atI_nat (j := 1) rfl) ?_
      walk_at "rd"
      refine rd_I ⟨by decide, by decide⟩ ?_
      refine rd_gsub ?_
      walk_at "rd"
      refine rd_setL (j := 1) hs1 (by rfl) ?_
      walk_at "rd"
      exact q _ _ (Int.emod_nonneg _ (by decide)) (k1.trans (Kp.put hs1 (by simp) (fun _ z => by cases z) (fun _ _ z => by cases z))) ⟨a, _, upd_same, a0, a1, Int.ediv_nonneg b1 (by decide)⟩
    · walk_at "rd"
      refine rd_ix_l (SqL.of hs1) (atI_nat (j := 0) rfl) ?_
      walk_at "rd"
      refine rd_times_i (.inr ⟨by decide, by decide⟩) ?_
      walk_at "rd"
      refine rd_I (by decide) ?_
      walk_at "rd"
      refine rd_times_i (.inr ⟨by decide, by decide⟩) ?_
      walk_at "rd"
      walk_at "rd"
      refine rd_I (by decide) ?_
      refine rd_gsub ?_
      walk_at "rd"
      refine rd_setL (j := 0) hs1 (by rfl) ?_
      have a2 : 0 ≤ (a * 48271 + c % 2147483647 * 16807 + 11) % 2147483647 := Int.emod_nonneg _ (by decide)
      have a3 : (a * 48271 + c % 2147483647 * 16807 + 11) % 2147483647 < 2147483647 := Int.emod_lt_of_pos _ (by decide)
      revert a2 a3
      generalize (a * 48271 + c % 2147483647 * 16807 + 11) % 2147483647 = a'
      intro a2 a3
      have hs3 : upd H1 s (.lst ([V.int a, V.int b'].set 0 (.int a'))) s = some (.lst [.int a', .int b']) := upd_same
      have k3 := k1.trans (Kp.put (o := .lst ([V.int a, V.int b'].set 0 (.int a'))) hs1 (by simp : s ∈ [s]) (fun _ z => by cases z) (fun _ _ z => by cases z))
      walk_at "rd"
      refine rd_ix_l (SqL.of hs3) (atI_nat (j := 0) rfl) ?_
      walk_at "rd"
      refine rd_ix_l (SqL.of hs3) (atI_nat (j := 0) rfl) ?_
      refine rd_times_i (.inl ⟨by omega, by omega⟩) ?_
      walk_at "rd"
      refine rd_I (by decide) ?_
      walk_at "rd"
      refine rd_I ⟨by decide, by decide⟩ ?_
      exact q _ _ (Int.ediv_nonneg (Int.emod_nonneg _ (by decide)) (by decide)) k3 ⟨a', b', hs3, a2, a3, b1⟩

end

end

section
section
/-! ### the law's names -/
def words16 : List Str := ["k", "ifs", "holdr", "turnb", "backu", "pushe", "popp", "tot", "endy", "untilx", "toldx", "againb", "nota", "swapp", "callo", "loopy"]
def signs36 : Str := "abcdefghijklmnopqrstuvwxyz0123456789"
def mkName (b : Str) (j : Nat) (c : Nat) : Str := (cutS b none (some (1 + (j : Int))) ++ ⟨#[c]⟩) ++ cutS b (some (1 + (j : Int))) none
def namesB (b : Str) : Bool := (List.range b.length).all fun j => signs36.cps.toList.all fun c => nameOk (mkName b j c) && (nameOk (mkName b j c ++ "b") && decide ((mkName b j c).length ≤ 20))
theorem names_0 : namesB (words16.getD 0 "") = true := by decide +kernel
theorem names_1 : namesB (words16.getD 1 "") = true := by decide +kernel
theorem names_2 : namesB (words16.getD 2 "") = true := by decide +kernel
theorem names_3 : namesB (words16.getD 3 "") = true := by decide +kernel
theorem names_4 : namesB (words16.getD 4 "") = true := by decide +kernel
theorem names_5 : namesB (words16.getD 5 "") = true := by decide +kernel
theorem names_6 : namesB (words16.getD 6 "") = true := by decide +kernel
theorem names_7 : namesB (words16.getD 7 "") = true := by decide +kernel
theorem names_8 : namesB (words16.getD 8 "") = true := by decide +kernel
theorem names_9 : namesB (words16.getD 9 "") = true := by decide +kernel
theorem names_10 : namesB (words16.getD 10 "") = true := by decide +kernel
theorem names_11 : namesB (words16.getD 11 "") = true := by decide +kernel
theorem names_12 : namesB (words16.getD 12 "") = true := by decide +kernel
theorem names_13 : namesB (words16.getD 13 "") = true := by decide +kernel
theorem names_14 : namesB (words16.getD 14 "") = true := by decide +kernel
theorem names_15 : namesB (words16.getD 15 "") = true := by decide +kernel
theorem names_ok : (words16.all namesB) = true := by
  show (namesB (words16.getD 0 "") && (namesB (words16.getD 1 "") && (namesB (words16.getD 2 "") && (namesB (words16.getD 3 "") && (namesB (words16.getD 4 "") && (namesB (words16.getD 5 "") && (namesB (words16.getD 6 "") && (namesB (words16.getD 7 "") &&
    (namesB (words16.getD 8 "") && (namesB (words16.getD 9 "") && (namesB (words16.getD 10 "") && (namesB (words16.getD 11 "") && (namesB (words16.getD 12 "") && (namesB (words16.getD 13 "") && (namesB (words16.getD 14 "") && (namesB (words16.getD 15 "") && true)))))))))))))))) = true
  rw [names_0, names_1, names_2, names_3, names_4, names_5, names_6, names_7, names_8, names_9, names_10, names_11, names_12, names_13, names_14, names_15]
  rfl
theorem words_len : (words16.all fun b => decide (1 ≤ b.length) && decide (b.length ≤ 10)) = true := by decide +kernel
theorem names_at {b : Str} {j c : Nat} (hb : b ∈ words16) (hj : j < b.length) (hc : c ∈ signs36.cps.toList) : nameOk (mkName b j c) = true ∧ nameOk (mkName b j c ++ "b") = true ∧ (mkName b j c).length ≤ 20 := by
  have h := List.all_eq_true.mp (List.all_eq_true.mp (show namesB b = true from List.all_eq_true.mp names_ok b hb) j (List.mem_range.mpr hj)) c hc
  simp only [Bool.and_eq_true, decide_eq_true_eq] at h
  exact h
theorem split_words : Txt.split "k ifs holdr turnb backu pushe popp tot endy untilx toldx againb nota swapp callo loopy" " " = words16 := by decide +kernel
end

end

section
section
variable {K : PySem.W.Frag} {σ : L2.St} {H : Hp}
theorem rd_mod {n k : Int} {Q : VK} (hk : 0 < k) (q : ∀ m : Nat, (m : Int) < k → Q (.int m) H) : rI (fun _ j => 0 < j) (fun i j => V.int (i % j)) (.int n) (.int k) H Q := by
  refine ⟨n, k, rfl, rfl, hk, ?_⟩
  have h0 := Int.emod_nonneg n (by omega : k ≠ 0)
  have h1 := Int.emod_lt_of_pos n hk
  have e : ((n % k).toNat : Int) = n % k := Int.toNat_of_nonneg h0
  have z := q (n % k).toNat (by omega)
  rw [e] at z
  exact z
theorem rd_mix {s : Addr} {Q : VK} {E : XK} (hs : Sta s H) (q : ∀ (n : Int) (H' : Hp), 0 ≤ n → Kp [s] H H' → Sta s H' → Q (.int n) H') : spMix [.ref s, .int 0] H Q E := ⟨s, 0, rfl, hs, q⟩
theorem rd_m1 {r : V → List V → Hp → VK → Prop} {to te : TE} {Q : VK} (q : to σ H fun x H1 => (∃ a, x = .str a) ∧ te σ H1 fun y H2 => r x [y] H2 Q) : tM1 r to te σ H Q := q
theorem Kp.at {M : List Addr} {H H' : Hp} {l : Addr} {o : HO} (k : Kp M H H') (h : H l = some o) (n : l ∉ M) : H' l = some o := k.all _ _ h n
end
section
variable {P : Program} {w : World} {K : PySem.W.Frag} {mg : Str → Option Value} {base : Heap} {A : CA}
theorem cutV_to (xs : List V) (n : Nat) : cutV xs none (some (n : Int)) = xs.take n := by
  unfold cutV
  rw [HT.sIx_nat]
  show (xs.drop 0).take (min n xs.length - 0) = _
  rw [List.drop_zero, Nat.sub_zero, ← List.take_eq_take_min]
theorem cutV_from (xs : List V) (n : Nat) : cutV xs (some (n : Int)) none = xs.drop n := by
  unfold cutV
  rw [HT.sIx_nat]
  show (xs.drop (min n xs.length)).take (xs.length - min n xs.length) = _
  by_cases h : n ≤ xs.length
  · rw [Nat.min_eq_left h]
    exact List.take_of_length_le (by rw [List.length_drop]; omega)
  · rw [Nat.min_eq_right (by omega), List.drop_length, List.drop_eq_nil_of_le (by omega)]
    simp
theorem cutV_both (xs : List V) (m n : Nat) : cutV xs (some (m : Int)) (some (n : Int)) = (xs.drop m).take (n - m) := by
  unfold cutV
  rw [HT.sIx_nat, HT.sIx_nat]
  by_cases h : m ≤ xs.length
  · rw [Nat.min_eq_left h]
    by_cases h2 : n ≤ xs.length
    · rw [Nat.min_eq_left h2]
    · rw [Nat.min_eq_right (by omega), List.take_of_length_le (by rw [List.length_drop]; omega), List.take_of_length_le (by rw [List.length_drop]; omega)]
  · rw [List.drop_eq_nil_of_le (by omega), List.drop_eq_nil_of_le (by omega)]
    simp
theorem strs_rep {p : Str → Prop} : ∀ {ys : List V}, (∀ y ∈ ys, ∃ x : Str, y = .str x ∧ p x) → ∃ xs : List Str, ys = xs.map V.str ∧ ∀ x ∈ xs, p x
  | [], _ => ⟨[], rfl, fun x h => by cases h⟩
  | y :: ys, h => by
    obtain ⟨x, rfl, h1⟩ := h y (List.mem_cons_self ..)
    obtain ⟨xs, rfl, h2⟩ := strs_rep (p := p) (ys := ys) fun z hz => h z (List.mem_cons_of_mem _ hz)
    exact ⟨x :: xs, rfl, fun z hz => (List.mem_cons.mp hz).elim (fun e => e ▸ h1) (h2 z)⟩
/-- so many fine names, in a new list -/
theorem rd_newS {ys : List Str} {H : Hp} {Q : VK} (q : ∀ p H2, H p = none → Same H H2 → H2 p = some (.lst (ys.map V.str)) → Q (.ref p) H2) : rNewStrs ys H Q := fun p np => q p _ np (sm_new np) upd_same
theorem rd_lc_r {ta : TA} {g : TG} {tt : TT} {te : TE} {vs : List Nat} {σ : L2.St} {H : Hp} {Q : VK} (q : ta σ H fun ys H1 => ∃ j : Int, ys = [.int j] ∧ -(2 ^ 62) ≤ j ∧ j < 2 ^ 62 ∧ LcW g tt te vs σ Q (Itr 0 j.toNat) H1) : tLc (iRng1 ta) g tt te vs σ H Q := q
theorem rd_for_r {ta : TA} {g : TG} {tb : TS} {D : Ends} {σ : L2.St} {H : Hp} (q : ta σ H fun ys H1 => ∃ j : Int, ys = [.int j] ∧ -(2 ^ 62) ≤ j ∧ j < 2 ^ 62 ∧ ForW g tb D σ (Itr 0 j.toNat) H1) : tFor (iRng1 ta) g tb D σ H := q
def spLNames : Sp := fun vs H Q _ => ∃ (s : Addr) (k : Int), vs = [.ref s, .int k] ∧ Sta s H ∧ 2 ≤ k ∧ k ≤ 100 ∧ ∀ (l : Addr) (xs : List Str) (H' : Hp), H l = none → l ≠ s → Kp [s] H H' → Sta s H' → H' l = some (.lst (xs.map V.str)) → xs.length = k.toNat → (∀ x ∈ xs, nameOk x = true) → Q (.ref l) H'
theorem ok_L_names (T : Txt K mg A) : Cal P w K mg base CX0 "_law_names" 2 ["_law_state", "_law_many"] spLNames := by
  have c_L_mix := ok_L_mix (P := P) (w := w) (base := base) T
  refine T.d_L_names.ok sc_L_names (fun vs H Q E h => ?_) (fun f cdv Ar outer s H vs Q E hr h => ?_)
  · obtain ⟨s, k, rfl, _⟩ := h
    rfl
  obtain ⟨s, k, rfl, hs, k0, k1, q⟩ := h
  refine ⟨_, (pss_cons (ps_set (i := 2) sc_L_names.nd rfl (by first | exact Or.inl rfl | exact Or.inr rfl) pe_str)
    (pss_cons (ps_set (i := 3) sc_L_names.nd rfl (by first | exact Or.inl rfl | exact Or.inr rfl) (pe_split pe_str pe_str))
    (pss_cons (ps_set (i := 4) sc_L_names.nd rfl (by first | exact Or.inl rfl | exact Or.inr rfl) (pe_ix (k_ix K) (pv 3) (pe_op op_mod (pe_cal c_L_mix hr (by omega) pass0 (pa_cons (pv 0) (pa_cons pe_int pa_nil))) pe_int) (fun _ _ => rfl)))
    (pss_cons (ps_set (i := 5) sc_L_names.nd rfl (by first | exact Or.inl rfl | exact Or.inr rfl) (pe_op (k_plus K) pe_int (pe_op op_mod (pe_cal c_L_mix hr (by omega) pass0 (pa_cons (pv 0) (pa_cons pe_int pa_nil))) (pe_callB (k_len K) (by rfl) T.b_len bt_len (pa_cons (pv 4) pa_nil)))))
    (pss_cons (ps_set (i := 6) sc_L_names.nd rfl (by first | exact Or.inl rfl | exact Or.inr rfl) (pe_op op_mod (pe_cal c_L_mix hr (by omega) pass0 (pa_cons (pv 0) (pa_cons pe_int pa_nil))) pe_int))
    (pss_cons (ps_setLc (i := 7) (own := [("_law_k", 8)]) rfl sc_L_names.nd rfl rfl (sw_true rfl rfl rfl (by decide +kernel)) (pi_range1 (by rfl) T.b_range (pa_cons (pv 1) pa_nil)) (blkOk_by (N := N_L_names) (sc := defScope s_L_names) (by decide +kernel)) (fun _ _ _ _ _ => (pg_name (i := 8) sc_L_names.nd rfl (by first | exact Or.inl rfl | exact Or.inr rfl))) (fun _ _ _ _ _ => pts_nil) (fun _ _ _ _ _ => (pe_op (k_plus K) (pe_op (k_plus K) (pe_slice (k_sl K) (pv 4) po_none (po_some (pv 5))) (pe_ix (k_ix K) (pv 2) (pe_op op_mod (pe_op (k_plus K) (pv 6) (pv 8)) pe_int) (fun _ _ => rfl))) (pe_slice (k_sl K) (pv 4) (po_some (pv 5)) po_none))))
    (pss_one (ps_ret (pe_ifExp (PW.pt (pw_and (pt_cmpR op_gt (pv 1) pe_int (nomark _)) (pw_and1 (pt_cmpR (k_eql K hr.units) (pe_op op_mod (pv 6) pe_int) pe_int (nomark _))))) (pe_op (k_plus K) (pe_op (k_plus K) (pe_slice (k_sl K) (pv 7) po_none (po_some pe_int)) (pe_lst (pa_cons (pe_op (k_plus K) (pe_ix (k_ix K) (pv 7) pe_int (fun _ _ => rfl)) pe_str) pa_nil))) (pe_slice (k_sl K) (pv 7) (po_some pe_int) po_none)) (pv 7)))))))))), ?_⟩
  walk_at "rd"
  refine rd_m1 ?_
  walk_at "rd"
  refine ⟨⟨_, rfl⟩, ?_⟩
  walk_at "rd"
  refine ⟨_, _, rfl, rfl, by decide, by decide +kernel, ?_⟩
  rw [split_words]
  refine rd_newS fun p1 H1 n1 e1 hp1 => ?_
  have n1s : p1 ≠ s := fun z => by
    obtain ⟨_, _, z1, _⟩ := hs
    rw [z, z1] at n1
    cases n1
  walk_at "rd"
  refine rd_mix (hs.sm e1) fun r1 H2 _ k2 hs2 => ?_
  walk_at "rd"
  refine rd_mod (by decide) fun m1 hm1 => ?_
  have hp2 := k2.at hp1 (by simpa using n1s)
  have hb : ∃ b, words16[m1]? = some b ∧ b ∈ words16 := by
    have z : m1 < words16.length := by
      show m1 < 16
      omega
    exact ⟨words16[m1], List.getElem?_eq_getElem z, List.getElem_mem z⟩
  obtain ⟨b, hb1, hb2⟩ := hb
  have hbl := List.all_eq_true.mp words_len b hb2
  simp only [Bool.and_eq_true, decide_eq_true_eq] at hbl
  refine rd_ix_l (SqL.of hp2) (atI_nat (j := m1) (v := .str b) (by rw [List.getElem?_map, hb1] <;> rfl)) ?_
  walk_at "rd"
  refine rd_mix hs2 fun r2 H3 _ k3 hs3 => ?_
  walk_at "rd"
  refine rd_len_s (by omega) ?_
  refine rd_mod (by omega) fun m2 hm2 => ?_
  walk_at "rd"
  refine rd_mix hs3 fun r3 H4 _ k4 hs4 => ?_
  walk_at "rd"
  refine rd_mod (by decide) fun m3 hm3 => ?_
  have k14 := (k2.trans k3).trans k4
  have k04 : Kp [s] H H4 := (sm_kp e1).trans k14
  walk_at "rd"
  have sgn : ∀ i : Nat, i < 36 → ∃ c, atI signs36.cps.toList (i : Int) = some c ∧ c ∈ signs36.cps.toList := fun i hi => by
    have z : i < signs36.cps.toList.length := by
      show i < 36
      omega
    exact ⟨signs36.cps.toList[i], atI_nat (List.getElem?_eq_getElem z), List.getElem_mem z⟩
  refine rd_lc_r ?_
  walk_at "rd"
  refine ⟨k, rfl, by omega, by omega, fun D nD => ?_⟩
  refine lc_map walk_range (fun j y _ => ∃ x : Str, y = .str x ∧ nameOk x = true ∧ nameOk (x ++ "b") = true ∧ x.length ≤ 20) nD (by omega) (fun _ _ _ _ _ _ h => h) (fun _ _ => trivial) ?_ ?_
  · rintro j y H5 H6 F Z hi e5 ⟨rfl, rfl⟩ hF
    refine ⟨Same.refl _, ?_⟩
    walk_at "rd"
    refine ⟨rfl, ?_⟩
    walk_at "rd"
    refine rd_sl_s (by omega) ?_
    have e36 : ∀ t : Int, (t % 36).toNat < 36 ∧ ((t % 36).toNat : Int) = t % 36 := fun t => by omega
    walk_at "rd"
    refine rd_mod (by decide) fun m4 hm4 => ?_
    obtain ⟨c, hc1, hc2⟩ := sgn m4 (by omega)
    obtain ⟨g1, g2, g3⟩ := names_at (j := m2) hb2 (by omega) hc2
    refine rd_ix_s (z := signs36) (c := c) (by decide) hc1 ?_
    refine rd_plus_s (by have z := cutS_length b none (some (1 + (m2 : Int))); show _ + 1 ≤ 1000; omega) ?_
    walk_at "rd"
    refine rd_sl_s (by omega) ?_
    refine rd_plus_s (by have z := cutS_length b none (some (1 + (m2 : Int))); have z2 := cutS_length b (some (1 + (m2 : Int))) none; rw [Str.length_append]; show _ + 1 + _ ≤ 1000; omega) ?_
    exact hF _ _ (Same.refl _) ⟨mkName b m2 c, rfl, g1, g2, g3⟩
  · intro ys H5 e5 hD hly hy
    walk_at "rd"
    have hys : ∃ xs : List Str, ys = xs.map V.str ∧ ∀ x ∈ xs, nameOk x = true ∧ nameOk (x ++ "b") = true ∧ x.length ≤ 20 := by
      refine strs_rep fun y hy' => ?_
      obtain ⟨j, hj⟩ := List.getElem?_of_mem hy'
      exact hy j y hj
    obtain ⟨xs, rfl, hxs⟩ := hys
    rw [List.length_map] at hly
    have e5' : Kp [s] H H5 := k04.trans (sm_kp e5)
    have hD0 : H D = none := by
      cases z : H D with
      | none => rfl
      | some o =>
        have nDs : D ≠ s := fun z2 => by
          obtain ⟨_, _, z3, _⟩ := hs4
          rw [z2, z3] at nD
          cases nD
        rw [k04.all _ _ z (by simpa using nDs)] at nD
        cases nD
    have nDs : D ≠ s := fun z2 => by
      obtain ⟨_, _, z3, _⟩ := hs4
      rw [z2, z3] at nD
      cases nD
    have ok1 : ∀ x ∈ xs, nameOk x = true := fun x hx => (hxs x hx).1
    have fin : Q (.ref D) H5 := q D xs H5 hD0 nDs e5' (hs4.sm e5) hD hly ok1
    have hk1 : (1 : Int) < k := by omega
    walk_at "rd"
    refine rd_mod (by decide) fun m5 hm5 => ?_
    walk_at "rd"
    refine rd_both (fun hc => ?_) (fun hc => ?_)
    · walk_at "rd"
      refine rd_sl_l (SqL.of hD) fun p6 H6 n6 e6 hp6 => ?_
      walk_at "rd"
      have hD6 := e6 _ _ hD
      obtain ⟨x0, x1, xr, rfl⟩ : ∃ x0 x1 xr, xs = x0 :: x1 :: xr := by
        match xs, hly with
        | [], h => simp at h; omega
        | [_], h => simp at h; omega
        | x0 :: x1 :: xr, _ => exact ⟨x0, x1, xr, rfl⟩
      refine rd_ix_l (SqL.of hD6) (atI_nat (j := 0) rfl) ?_
      walk_at "rd"
      obtain ⟨g1, g2, g3⟩ := hxs x0 (List.mem_cons_self ..)
      refine rd_plus_s (by show _ + 1 ≤ 1000; omega) ?_
      walk_at "rd"
      refine rd_new (by simp) fun p7 H7 n7 e7 hp7 => ?_
      rw [show cutV ((x0 :: x1 :: xr).map V.str) none (some 1) = [V.str x0] from cutV_to _ 1] at hp6
      refine rd_plus_l (e7 _ _ hp6) hp7 (by simp) fun p8 H8 n8 e8 hp8 => ?_
      walk_at "rd"
      have e58 := (e6.trans e7).trans e8
      refine rd_sl_l (SqL.of (e58 _ _ hD)) fun p9 H9 n9 e9 hp9 => ?_
      rw [show cutV ((x0 :: x1 :: xr).map V.str) (some 2) none = xr.map V.str from cutV_from _ 2] at hp9
      have hlx : xr.length + 2 = k.toNat := by simpa using hly
      refine rd_plus_l (e9 _ _ hp8) hp9 (by simp; omega) fun p10 H10 n10 e10 hp10 => ?_
      have e510 := (e58.trans e9).trans e10
      have hn5 : H5 p10 = none := (e58.trans e9).free n10
      have hs5 := hs4.sm e5
      have n10s : p10 ≠ s := fun z => by
        obtain ⟨_, _, z3, _⟩ := hs5
        rw [z, z3] at hn5
        cases hn5
      refine q p10 (x0 :: (x0 ++ "b") :: xr) H10 ?_ n10s (e5'.trans (sm_kp e510)) (hs5.sm e510) (by rw [hp10] <;> rfl) (by simpa using hly) fun x hx => ?_
      · cases z : H p10 with
        | none => rfl
        | some o =>
          rw [e5'.all _ _ z (by simpa using n10s)] at hn5
          cases hn5
      · rcases List.mem_cons.mp hx with z | hx
        · rw [z]; exact g1
        · rcases List.mem_cons.mp hx with z | hx
          · rw [z]; exact g2
          · exact ok1 x (List.mem_cons_of_mem _ (List.mem_cons_of_mem _ hx))
    · walk_at "rd"
      exact fin
end

end

section

/-! # told data can be compared -/
theorem figs_small : (figs.all fun c => decide (c < 0x110000)) = true := by decide +kernel
theorem strOk_of {x : Str} (h : nameOk x = true) : PyData.strOk x = true := by
  unfold nameOk at h
  obtain ⟨_, h⟩ := Bool.and_eq_true_iff.mp h
  obtain ⟨_, h⟩ := Bool.and_eq_true_iff.mp h
  obtain ⟨_, h⟩ := Bool.and_eq_true_iff.mp h
  unfold PyData.strOk
  rw [← Array.all_toList, List.all_eq_true]
  intro c hc
  have z := of_decide_eq_true (List.all_eq_true.mp h c hc)
  exact List.all_eq_true.mp figs_small c z
theorem signs_ok : ∀ s ∈ signs, PyData.strOk s = true := by decide +kernel
theorem lay_strs : ∀ {xs : List Str}, (∀ x ∈ xs, PyData.strOk x = true) → PyData.canLayAll0 (xs.map PyData.str) = true
  | [], _ => rfl
  | x :: xs, h => by
    show (PyData.strOk x && PyData.canLayAll0 (xs.map PyData.str)) = true
    rw [h x (List.mem_cons_self ..), lay_strs fun y hy => h y (List.mem_cons_of_mem _ hy)] <;> rfl
theorem depth_strs : ∀ xs : List Str, PyData.depthAll (xs.map PyData.str) = 0
  | [] => rfl
  | x :: xs => by
    show max 0 (PyData.depthAll (xs.map PyData.str)) = 0
    rw [depth_strs xs] <;> rfl
theorem Sy.lay : ∀ t : Sy, t.wf → t.told.canLay0 = true
  | .num n, _ => by
    show (PyData.strOk "number" && (true && true)) = true
    decide +kernel
  | .box x, h => by
    show (PyData.strOk "box" && (PyData.strOk x && true)) = true
    rw [strOk_of h] <;> decide +kernel
  | .many x, h => by
    show (PyData.strOk "many" && (PyData.strOk x && true)) = true
    rw [strOk_of h] <;> decide +kernel
  | .top x, h => by
    show (PyData.strOk "top" && (PyData.strOk x && true)) = true
    rw [strOk_of h] <;> decide +kernel
  | .not t, h => by
    show (PyData.strOk "not" && (t.told.canLay0 && true)) = true
    rw [Sy.lay t h] <;> decide +kernel
  | .pair s a b, h => by
    show (PyData.strOk s && (a.told.canLay0 && (b.told.canLay0 && true))) = true
    rw [signs_ok s h.1, Sy.lay a h.2.1, Sy.lay b h.2.2] <;> rfl
theorem Sy.deep : ∀ t : Sy, t.told.depth ≤ t.dp
  | .num n => Nat.le_refl _
  | .box x => Nat.le_refl _
  | .many x => Nat.le_refl _
  | .top x => Nat.le_refl _
  | .not t => by
    have ih := Sy.deep t
    show max 0 (max t.told.depth 0) + 1 ≤ 1 + t.dp
    omega
  | .pair s a b => by
    have h1 := Sy.deep a
    have h2 := Sy.deep b
    show max 0 (max a.told.depth (max b.told.depth 0)) + 1 ≤ 1 + max a.dp b.dp
    omega
theorem nm_ok : (∀ k : CK, PyData.strOk k.nm = true) ∧ (∀ k : MK, PyData.strOk k.nm = true) ∧ (∀ k : NK, PyData.strOk k.nm = true) ∧ ∀ k : BK, PyData.strOk k.nm = true :=
  ⟨fun k => by cases k <;> decide +kernel, fun k => by cases k <;> decide +kernel, fun k => by cases k <;> decide +kernel, fun k => by cases k <;> decide +kernel⟩
mutual
theorem Rw.lay : ∀ r : Rw, r.wf → r.told.canLay0 = true
  | .chg k b e, h => by
    show (PyData.strOk k.nm && (PyData.strOk b && (e.told.canLay0 && true))) = true
    rw [nm_ok.1 k, strOk_of h.1, e.lay h.2.1] <;> rfl
  | .swap a b, h => by
    show (PyData.strOk "swap" && (PyData.strOk a && (PyData.strOk b && true))) = true
    rw [strOk_of h.1, strOk_of h.2] <;> decide +kernel
  | .turn b n, h => by
    show (PyData.strOk "turn" && (PyData.strOk b && (true && true))) = true
    rw [strOk_of h.1] <;> decide +kernel
  | .mov k b s, h => by
    show (PyData.strOk k.nm && (PyData.strOk b && (PyData.strOk s && true))) = true
    rw [nm_ok.2.1 k, strOk_of h.1, strOk_of h.2] <;> rfl
  | .nam k x, h => by
    show (PyData.strOk k.nm && (PyData.strOk x && true)) = true
    rw [nm_ok.2.2.1 k, strOk_of h] <;> rfl
  | .blk k t y n a, h => by
    show (PyData.strOk k.nm && (t.told.canLay0 && (PyData.canLayAll0 (toldRs y) && (PyData.canLayAll0 (toldRs n) && (a.told.canLay0 && true))))) = true
    rw [nm_ok.2.2.2 k, t.lay h.1.1, layRs y h.2.1, layRs n h.2.2.1, a.lay h.2.2.2.1] <;> rfl
  | .held b e r f, h => by
    show (PyData.strOk "held" && (PyData.strOk b && (e.told.canLay0 && (PyData.canLayAll0 (toldRs r) && (f.told.canLay0 && true))))) = true
    rw [strOk_of h.1, e.lay h.2.1.1, layRs r h.2.2.1, f.lay h.2.2.2.1] <;> decide +kernel
theorem layRs : ∀ rs : List Rw, wfRs rs → PyData.canLayAll0 (toldRs rs) = true
  | [], _ => rfl
  | r :: rs, h => by
    show (r.told.canLay0 && PyData.canLayAll0 (toldRs rs)) = true
    rw [Rw.lay r h.1, layRs rs h.2] <;> rfl
end
mutual
theorem Rw.deep : ∀ r : Rw, r.wf → r.told.depth ≤ 2 * r.dp + 8
  | .chg k b e, h => by
    have h1 := e.deep
    have h2 : e.dp ≤ 8 := h.2.2.2
    show max 0 (max 0 (max e.told.depth 0)) + 1 ≤ 2 * 1 + 8
    omega
  | .swap a b, h => by show 1 ≤ 10; omega
  | .turn b n, h => by show 1 ≤ 10; omega
  | .mov k b s, h => by show 1 ≤ 10; omega
  | .nam k x, h => by show 1 ≤ 10; omega
  | .blk k t y n a, h => by
    have h1 := t.deep
    have h2 : t.dp ≤ 8 := h.1.2.2
    have h3 := a.deep
    have h4 : a.dp ≤ 8 := h.2.2.2.2.2
    have h5 := deepRs y h.2.1
    have h6 := deepRs n h.2.2.1
    show max 0 (max t.told.depth (max (PyData.depthAll (toldRs y) + 1) (max (PyData.depthAll (toldRs n) + 1) (max a.told.depth 0)))) + 1 ≤ 2 * (1 + max (dpRs y) (dpRs n)) + 8
    omega
  | .held b e r f, h => by
    have h1 := e.deep
    have h2 : e.dp ≤ 8 := h.2.1.2.2
    have h3 := f.deep
    have h4 : f.dp ≤ 8 := h.2.2.2.2.2
    have h5 := deepRs r h.2.2.1
    show max 0 (max 0 (max e.told.depth (max (PyData.depthAll (toldRs r) + 1) (max f.told.depth 0)))) + 1 ≤ 2 * (1 + dpRs r) + 8
    omega
theorem deepRs : ∀ rs : List Rw, wfRs rs → PyData.depthAll (toldRs rs) ≤ 2 * dpRs rs + 8
  | [], _ => Nat.zero_le _
  | r :: rs, h => by
    have h1 := Rw.deep r h.1
    have h2 := deepRs rs h.2
    show max r.told.depth (PyData.depthAll (toldRs rs)) ≤ 2 * max r.dp (dpRs rs) + 8
    omega
end
theorem lay_rts : ∀ {l : List (Str × List Rw)}, (∀ x ∈ l, nameOk x.1 = true ∧ wfRs x.2 ∧ dpRs x.2 ≤ 6) → PyData.canLayAll0 (l.map Pg.toldR) = true ∧ PyData.depthAll (l.map Pg.toldR) ≤ 30
  | [], _ => ⟨rfl, Nat.zero_le _⟩
  | x :: l, h => by
    obtain ⟨h1, h2, h3⟩ := h x (List.mem_cons_self ..)
    obtain ⟨g1, g2⟩ := lay_rts fun y hy => h y (List.mem_cons_of_mem _ hy)
    have h4 := deepRs x.2 h2
    refine ⟨?_, ?_⟩
    · show ((PyData.strOk x.1 && (PyData.canLayAll0 (toldRs x.2) && true)) && PyData.canLayAll0 (l.map Pg.toldR)) = true
      rw [strOk_of h1, layRs x.2 h2, g1] <;> rfl
    · show max (max 0 (max (PyData.depthAll (toldRs x.2) + 1) 0) + 1) (PyData.depthAll (l.map Pg.toldR)) ≤ 30
      omega
theorem Pg.shaped {p : Pg} (h : p.wf) : SeqAt.shaped p.told = true := by
  obtain ⟨g1, g2⟩ := lay_rts (l := p.rt) fun x hx => ⟨h.rn x hx, h.rw x hx, h.rd x hx⟩
  have d1 := depth_strs p.bx
  have d2 := depth_strs p.st
  show (PyData.canLay0 p.told && decide (p.told.depth ≤ 64)) = true
  rw [Bool.and_eq_true]
  refine ⟨?_, decide_eq_true ?_⟩
  · show (PyData.canLayAll0 (p.bx.map PyData.str) && (PyData.canLayAll0 (p.st.map PyData.str) && (PyData.canLayAll0 (p.rt.map Pg.toldR) && true))) = true
    have l1 := lay_strs fun x hx => strOk_of (h.bn x hx)
    have l2 := lay_strs fun x hx => strOk_of (h.sn x hx)
    simp [l1, l2, g1]
  · show max (PyData.depthAll (p.bx.map PyData.str) + 1) (max (PyData.depthAll (p.st.map PyData.str) + 1) (max (PyData.depthAll (p.rt.map Pg.toldR) + 1) 0)) + 1 ≤ 64
    omega
theorem shaped_strs {xs : List Str} (h : ∀ x ∈ xs, nameOk x = true) : SeqAt.shaped (.list (xs.map PyData.str)) = true := by
  have d := depth_strs xs
  show (PyData.canLayAll0 (xs.map PyData.str) && decide (PyData.depthAll (xs.map PyData.str) + 1 ≤ 64)) = true
  have l := lay_strs fun x hx => strOk_of (h x hx)
  simp [l, d]
section
variable {K : PySem.W.Frag} {H : Hp}
theorem dp_strsL {xs : List Str} {a : Addr} (h : SqL K H a (xs.map V.str)) : Dp K H (.ref a) (.list (xs.map PyData.str)) := by
  refine .lst h ?_
  clear h
  induction xs with
  | nil => exact .nil
  | cons x r ih => exact .cons (.str _) ih
theorem rd_eq_nil {xs : List Str} {a p : Addr} {Q : VK} (h : H a = some (.lst (xs.map V.str))) (hn : ∀ x ∈ xs, nameOk x = true) (hp : H p = some (.lst [])) (q : Q (.bl xs.isEmpty) H) : rEql K (.ref a) (.ref p) H Q := by
  refine rd_eq_d (dp_strsL (SqL.of h)) (.lst (SqL.of hp) .nil) (shaped_strs hn) (by decide +kernel) ?_
  have e : PyData.eqv (.list (xs.map PyData.str)) (.list []) = xs.isEmpty := by cases xs <;> rfl
  rw [e]
  exact q
theorem rd_ne_nil {xs : List Str} {a p : Addr} {Q : VK} (h : H a = some (.lst (xs.map V.str))) (hn : ∀ x ∈ xs, nameOk x = true) (hp : H p = some (.lst [])) (q : Q (.bl (!xs.isEmpty)) H) : rNeq K (.ref a) (.ref p) H Q := by
  refine rd_ne_d (dp_strsL (SqL.of h)) (.lst (SqL.of hp) .nil) (shaped_strs hn) (by decide +kernel) ?_
  have e : PyData.eqv (.list (xs.map PyData.str)) (.list []) = xs.isEmpty := by cases xs <;> rfl
  rw [e]
  exact q
end

end

section
section
variable {P : Program} {w : World} {K : PySem.W.Frag} {mg : Str → Option Value} {base : Heap} {A : CA}
theorem Sta.ne {s : Addr} {H : Hp} {p : Addr} (h : Sta s H) (n : H p = none) : p ≠ s := fun z => by
  obtain ⟨_, _, z1, _⟩ := h
  rw [z, z1] at n
  cases n
theorem Sta.nI {s : Addr} {H : Hp} (h : Sta s H) : NoIns [s] H := by
  obtain ⟨_, _, z1, _⟩ := h
  exact noIns_lst z1
theorem Kp.sm {M : List Addr} {H H1 H2 : Hp} (k : Kp M H H1) (e : Same H1 H2) : Kp M H H2 := k.trans (sm_kp e)
def spLWord : Sp := fun vs H Q _ => ∃ s : Addr, vs = [.ref s] ∧ Sta s H ∧ ∀ (n : Int) (H' : Hp), Kp [s] H H' → Sta s H' → 0 ≤ n → n ≤ 65535 → Q (.int n) H'
theorem ok_L_word (T : Txt K mg A) : Cal P w K mg base CX0 "_law_word" 2 ["_law_state"] spLWord := by
  have c_L_mix := ok_L_mix (P := P) (w := w) (base := base) T
  refine T.d_L_word.ok sc_L_word (fun vs H Q E h => ?_) (fun f cdv Ar outer s H vs Q E hr h => ?_)
  · obtain ⟨s, rfl, _⟩ := h
    rfl
  obtain ⟨s, rfl, hs, q⟩ := h
  refine ⟨_, (pss_cons (ps_set (i := 1) sc_L_word.nd rfl (by first | exact Or.inl rfl | exact Or.inr rfl) (pe_op op_mod (pe_cal c_L_mix hr (by omega) pass0 (pa_cons (pv 0) (pa_cons pe_int pa_nil))) pe_int))
    (pss_one (ps_ret (pe_ix (k_ix K) (pe_lst (pa_cons pe_int (pa_cons pe_int (pa_cons pe_int (pa_cons (pe_op op_mod (pe_cal c_L_mix hr (by omega) pass0 (pa_cons (pv 0) (pa_cons pe_int pa_nil))) pe_int) (pa_cons (pe_op op_mod (pe_cal c_L_mix hr (by omega) pass0 (pa_cons (pv 0) (pa_cons pe_int pa_nil))) pe_int) pa_nil)))))) (pv 1) (fun _ _ => rfl))))), ?_⟩
  walk_at "rd"
  refine rd_mix hs fun r1 H1 _ k1 hs1 => ?_
  walk_at "rd"
  refine rd_mod (by decide) fun m1 hm1 => ?_
  walk_at "rd"
  refine rd_mix hs1 fun r2 H2 _ k2 hs2 => ?_
  walk_at "rd"
  refine rd_mod (by decide) fun m2 hm2 => ?_
  walk_at "rd"
  refine rd_mix hs2 fun r3 H3 _ k3 hs3 => ?_
  walk_at "rd"
  refine rd_mod (by decide) fun m3 hm3 => ?_
  walk_at "rd"
  refine rd_new (by simp) fun p H4 np e4 hp => ?_
  walk_at "rd"
  have hv : ∃ n : Int, [V.int 0, V.int 1, V.int 65535, V.int m2, V.int m3][m1]? = some (.int n) ∧ 0 ≤ n ∧ n ≤ 65535 := by
    match m1, hm1 with
    | 0, _ => exact ⟨_, rfl, by omega, by omega⟩
    | 1, _ => exact ⟨_, rfl, by omega, by omega⟩
    | 2, _ => exact ⟨_, rfl, by omega, by omega⟩
    | 3, _ => exact ⟨_, rfl, by omega, by omega⟩
    | 4, _ => exact ⟨_, rfl, by omega, by omega⟩
    | k + 5, h => omega
  obtain ⟨n, h1, h2, h3⟩ := hv
  refine rd_ix_l (SqL.of hp) (atI_nat (j := m1) h1) ?_
  exact q n H4 (((k1.trans k2).trans k3).sm e4) (hs3.sm e4) h2 h3
/-- a list of names -/
def Nms (H : Hp) (l s : Addr) (xs : List Str) : Prop := H l = some (.lst (xs.map V.str)) ∧ l ≠ s ∧ ∀ x ∈ xs, nameOk x = true
theorem Nms.kp {H H' : Hp} {l s : Addr} {xs : List Str} (h : Nms H l s xs) (k : Kp [s] H H') : Nms H' l s xs := ⟨k.all _ _ h.1 (by simpa using h.2.1), h.2⟩
theorem Nms.sm {H H' : Hp} {l s : Addr} {xs : List Str} (h : Nms H l s xs) (k : Same H H') : Nms H' l s xs := h.kp (sm_kp k)
def pw2 : Nat → Nat | 0 => 1 | n + 1 => 2 * pw2 n
def spLSay (K : PySem.W.Frag) (n : Nat) : Sp := fun vs H Q _ => ∃ (s lb ls : Addr) (bs ss : List Str) (d : Int), vs = [.ref s, .ref lb, .ref ls, .int d] ∧ Sta s H ∧ Nms H lb s bs ∧ Nms H ls s ss ∧ 0 ≤ d ∧ d + 1 ≤ n ∧
  ∀ (x : V) (t : Sy) (H' : Hp), Kp [s] H H' → Sta s H' → Dp K H' x t.told → t.wf → t.dp ≤ n → t.sz < pw2 n → Q x H'
theorem rd_pick {xs : List Str} {s l : Addr} {H : Hp} {n : Int} {Q : VK} (h : Nms H l s xs) (h0 : xs ≠ []) (q : ∀ x ∈ xs, Q (.str x) H) : rI (fun _ j => 0 < j) (fun i j => V.int (i % j)) (.int n) (.int ((xs.map V.str).length : Nat)) H fun y H2 => rIx K (.ref l) y H2 Q := by
  have hl : 0 < xs.length := List.length_pos_iff.mpr h0
  refine rd_mod (by rw [List.length_map]; omega) fun m hm => ?_
  rw [List.length_map] at hm
  have z : m < xs.length := by omega
  refine rd_ix_l (SqL.of h.1) (atI_nat (j := m) (v := .str xs[m]) (by rw [List.getElem?_map, List.getElem?_eq_getElem z] <;> rfl)) ?_
  exact q _ (List.getElem_mem z)
theorem signs10 : ∀ c ∈ ("+-*/:&|^=<" : Str).cps.toList, (⟨#[c]⟩ : Str) ∈ signs := by decide +kernel
theorem ok_L_saying (T : Txt K mg A) : ∀ n : Nat, Cal P w K mg base CX0 "_law_saying" (n + 3) ["_law_state", "_law_boxes", "_law_stacks", "_law_deep"] (spLSay K n)
  | 0 => T.d_L_saying.never fun vs H Q E h => by
    obtain ⟨_, _, _, _, _, d, _, _, _, _, h0, hn, _⟩ := h
    omega
  | n + 1 => by
    have c_L_mix := ok_L_mix (P := P) (w := w) (base := base) T
    have c_L_word := ok_L_word (P := P) (w := w) (base := base) T
    have c_L_saying := ok_L_saying T n
    refine T.d_L_saying.ok sc_L_saying (fun vs H Q E h => ?_) (fun f cdv Ar outer s H vs Q E hr h => ?_)
    · obtain ⟨s, lb, ls, bs, ss, d, rfl, _⟩ := h
      rfl
    obtain ⟨s, lb, ls, bs, ss, d, rfl, hs, hb, hss, hd0, hd, q⟩ := h
    have hp1 : 1 ≤ pw2 n := by
      have z : ∀ k, 1 ≤ pw2 k := fun k => by
        induction k with
        | zero => exact Nat.le_refl _
        | succ k ih =>
          show 1 ≤ 2 * pw2 k
          omega
      exact z n
    have hp2 : pw2 (n + 1) = 2 * pw2 n := rfl
    refine ⟨_, (pss_cons (ps_set (i := 4) sc_L_saying.nd rfl (by first | exact Or.inl rfl | exact Or.inr rfl) (pe_op op_mod (pe_cal c_L_mix hr (by omega) pass0 (pa_cons (pv 0) (pa_cons pe_int pa_nil))) pe_int))
    (pss_cons (ps_if (PW.pt (pw_or (pt_cmpR (k_eql K hr.units) (pv 3) pe_int (nomark _)) (pw_or1 (pt_cmpR op_lt (pv 4) pe_int (nomark _))))) (pss_cons (ps_if (PW.pt (pw_or (pt_cmpR (k_eql K hr.units) (pv 1) (pe_lst pa_nil) (nomark _)) (pw_or1 (pt_cmpR (k_eql K hr.units) (pv 4) pe_int (nomark _))))) (pss_one (ps_ret (pe_tup (pa_cons pe_str (pa_cons (pe_cal c_L_word hr (by omega) pass0 (pa_cons (pv 0) pa_nil)) pa_nil))))) pss_nil)
    (pss_one (ps_ret (pe_tup (pa_cons pe_str (pa_cons (pe_ix (k_ix K) (pv 1) (pe_op op_mod (pe_cal c_L_mix hr (by omega) pass0 (pa_cons (pv 0) (pa_cons pe_int pa_nil))) (pe_callB (k_len K) (by rfl) T.b_len bt_len (pa_cons (pv 1) pa_nil))) (fun _ _ => rfl)) pa_nil)))))) pss_nil)
    (pss_cons (ps_if (PW.pt (pw_and (pt_cmpR op_lt (pv 4) pe_int (nomark _)) (pw_and1 (pt_cmpR (k_neq K hr.units) (pv 2) (pe_lst pa_nil) (nomark _))))) (pss_one (ps_ret (pe_tup (pa_cons (pe_ix (k_ix K) (pe_lst (pa_cons pe_str (pa_cons pe_str pa_nil))) (pe_op op_sub (pv 4) pe_int) (fun _ _ => rfl)) (pa_cons (pe_ix (k_ix K) (pv 2) (pe_op op_mod (pe_cal c_L_mix hr (by omega) pass0 (pa_cons (pv 0) (pa_cons pe_int pa_nil))) (pe_callB (k_len K) (by rfl) T.b_len bt_len (pa_cons (pv 2) pa_nil))) (fun _ _ => rfl)) pa_nil))))) pss_nil)
    (pss_cons (ps_set (i := 5) sc_L_saying.nd rfl (by first | exact Or.inl rfl | exact Or.inr rfl) (pe_cal c_L_saying hr (by omega) pass0 (pa_cons (pv 0) (pa_cons (pv 1) (pa_cons (pv 2) (pa_cons (pe_op op_sub (pv 3) pe_int) pa_nil))))))
    (pss_cons (ps_if (pt_cmpR (k_eql K hr.units) (pv 4) pe_int (nomark _)) (pss_one (ps_ret (pe_tup (pa_cons pe_str (pa_cons (pv 5) pa_nil))))) pss_nil)
    (pss_cons (ps_set (i := 6) sc_L_saying.nd rfl (by first | exact Or.inl rfl | exact Or.inr rfl) (pe_ix (k_ix K) pe_str (pe_op op_mod (pe_cal c_L_mix hr (by omega) pass0 (pa_cons (pv 0) (pa_cons pe_int pa_nil))) pe_int) (fun _ _ => rfl)))
    (pss_one (ps_ret (pe_tup (pa_cons (pv 6) (pa_cons (pv 5) (pa_cons (pe_cal c_L_saying hr (by omega) pass0 (pa_cons (pv 0) (pa_cons (pv 1) (pa_cons (pv 2) (pa_cons (pe_op op_sub (pv 3) pe_int) pa_nil))))) pa_nil)))))))))))), ?_⟩
    walk_at "rd"
    refine rd_mix hs fun r1 H1 _ k1 hs1 => ?_
    walk_at "rd"
    refine rd_mod (by decide) fun m1 hm1 => ?_
    walk_at "rd"
    have hb1 := hb.kp k1
    have hss1 := hss.kp k1
    have num : ∀ {H2 : Hp}, Kp [s] H H2 → Sta s H2 → spLWord [.ref s] H2 (fun x H3 => NewO .tup Q [.str "number", x] H3) E0 := fun {H2} k2 hs2 => ⟨s, rfl, hs2, fun i H3 k3 hs3 i0 i1 => rd_new (by simp) fun p H4 np e4 hp => q _ (.num i) H4 ((k2.trans k3).sm e4) (hs3.sm e4) (.tup (SqT.of hp) (.cons (.str _) (.cons (.int _) .nil))) ⟨i0, i1⟩ (by show 1 ≤ n + 1; omega) (by show 1 < _; omega)⟩
    by_cases hd0 : d = 0
    · walk_at "rd"
      refine rd_new (by simp) fun p2 H2 np2 e2 hp2 => ?_
      refine rd_eq_nil (hb1.sm e2).1 hb.2.2 hp2 ?_
      walk_at "rd"
      cases hbe : bs.isEmpty with
      | true =>
        walk_at "rd"
        exact num (k1.sm e2) (hs1.sm e2)
      | false =>
        have hbn : bs ≠ [] := fun z => by rw [z] at hbe; cases hbe
        walk_at "rd"
        refine rd_both (fun hc => ?_) (fun hc => ?_)
        · walk_at "rd"
          exact num (k1.sm e2) (hs1.sm e2)
        · walk_at "rd"
          refine rd_mix (hs1.sm e2) fun r3 H3 _ k3 hs3 => ?_
          walk_at "rd"
          have hb3 := (hb1.sm e2).kp k3
          refine rd_len_l (SqL.of hb3.1) ?_
          refine rd_pick hb3 hbn fun x hx => ?_
          walk_at "rd"
          refine rd_new (by simp) fun p H4 np e4 hp => ?_
          exact q _ (.box x) H4 (((k1.sm e2).trans k3).sm e4) (hs3.sm e4) (.tup (SqT.of hp) (.cons (.str _) (.cons (.str _) .nil))) (hb.2.2 x hx) (by show 1 ≤ n + 1; omega) (by show 1 < _; omega)
    · walk_at "rd"
      refine rd_both (fun hm4 => ?_) (fun hm4 => ?_)
      · walk_at "rd"
        refine rd_new (by simp) fun p2 H2 np2 e2 hp2 => ?_
        refine rd_eq_nil (hb1.sm e2).1 hb.2.2 hp2 ?_
        walk_at "rd"
        cases hbe : bs.isEmpty with
        | true =>
          walk_at "rd"
          exact num (k1.sm e2) (hs1.sm e2)
        | false =>
          have hbn : bs ≠ [] := fun z => by rw [z] at hbe; cases hbe
          walk_at "rd"
          refine rd_both (fun hc => ?_) (fun hc => ?_)
          · walk_at "rd"
            exact num (k1.sm e2) (hs1.sm e2)
          · walk_at "rd"
            refine rd_mix (hs1.sm e2) fun r3 H3 _ k3 hs3 => ?_
            walk_at "rd"
            have hb3 := (hb1.sm e2).kp k3
            refine rd_len_l (SqL.of hb3.1) ?_
            refine rd_pick hb3 hbn fun x hx => ?_
            walk_at "rd"
            refine rd_new (by simp) fun p H4 np e4 hp => ?_
            exact q _ (.box x) H4 (((k1.sm e2).trans k3).sm e4) (hs3.sm e4) (.tup (SqT.of hp) (.cons (.str _) (.cons (.str _) .nil))) (hb.2.2 x hx) (by show 1 ≤ n + 1; omega) (by show 1 < _; omega)
      · have hm4 : ¬ (m1 : Int) < 4 := of_decide_eq_false hm4
        have hn1 : 1 ≤ n := by omega
        walk_at "rd"
        refine rd_both (fun hm6 => ?_) (fun hm6 => ?_)
        · have hm6 : (m1 : Int) < 6 := of_decide_eq_true hm6
          walk_at "rd"
          refine rd_new (by simp) fun p2 H2 np2 e2 hp2 => ?_
          refine rd_ne_nil (hss1.sm e2).1 hss.2.2 hp2 ?_
          walk_at "rd"
          cases hse : ss.isEmpty with
          | false =>
            have hsn : ss ≠ [] := fun z => by rw [z] at hse; cases hse
            walk_at "rd"
            refine rd_new (by simp) fun p3 H3 np3 e3 hp3 => ?_
            have e23 := e2.trans e3
            have hv : ∃ x : Str, atI [V.str "many", V.str "top"] ((m1 : Int) - 4) = some (.str x) ∧ (x = "many" ∨ x = "top") := by
              have z : m1 = 4 ∨ m1 = 5 := by omega
              rcases z with z | z
              · subst z
                exact ⟨_, rfl, .inl rfl⟩
              · subst z
                exact ⟨_, rfl, .inr rfl⟩
            obtain ⟨x3, hx3, hx4⟩ := hv
            walk_at "rd"
            refine rd_ix_l (SqL.of hp3) hx3 ?_
            walk_at "rd"
            refine rd_mix (hs1.sm e23) fun r3 H4 _ k4 hs4 => ?_
            walk_at "rd"
            have hs4' := (hss1.sm e23).kp k4
            refine rd_len_l (SqL.of hs4'.1) ?_
            refine rd_pick hs4' hsn fun x hx => ?_
            walk_at "rd"
            refine rd_new (by simp) fun p H5 np e5 hp => ?_
            have kk := ((k1.sm e23).trans k4).sm e5
            rcases hx4 with z | z
            · subst z
              exact q _ (.many x) H5 kk (hs4.sm e5) (.tup (SqT.of hp) (.cons (.str _) (.cons (.str _) .nil))) (hss.2.2 x hx) (by show 1 ≤ n + 1; omega) (by show 1 < _; omega)
            · subst z
              exact q _ (.top x) H5 kk (hs4.sm e5) (.tup (SqT.of hp) (.cons (.str _) (.cons (.str _) .nil))) (hss.2.2 x hx) (by show 1 ≤ n + 1; omega) (by show 1 < _; omega)
          | true =>
            clear hm6
            have kz := k1.sm e2
            have hsz := hs1.sm e2
            have hbz := hb1.sm e2
            have hssz := hss1.sm e2
            walk_at "rd"
            refine ⟨s, lb, ls, bs, ss, _, rfl, hsz, hbz, hssz, by omega, by omega, fun y1 t1 H3 k3 hs3 hd1 w1 p1 z1 => ?_⟩
            have kz3 := kz.trans k3
            walk_at "rd"
            refine rd_both (fun h6 => ?_) (fun h6 => ?_)
            · walk_at "rd"
              refine rd_new (by simp) fun p H4 np e4 hp => ?_
              exact q _ (.not t1) H4 (kz3.sm e4) (hs3.sm e4) (.tup (SqT.of hp) (.cons (.str _) (.cons (dp_sm e4 _ _ hd1) .nil))) w1 (by show 1 + t1.dp ≤ n + 1; omega) (by show 1 + t1.sz < _; omega)
            · walk_at "rd"
              refine rd_mix hs3 fun r4 H4 _ k4 hs4 => ?_
              walk_at "rd"
              refine rd_mod (by decide) fun m4 hm4 => ?_
              have hc : ∃ c, ("+-*/:&|^=<" : Str).cps.toList[m4]? = some c ∧ c ∈ ("+-*/:&|^=<" : Str).cps.toList := by
                have z : m4 < ("+-*/:&|^=<" : Str).cps.toList.length := by
                  show m4 < 10
                  omega
                exact ⟨_, List.getElem?_eq_getElem z, List.getElem_mem z⟩
              obtain ⟨c, hc1, hc2⟩ := hc
              refine rd_ix_s (by decide) (atI_nat (j := m4) hc1) ?_
              walk_at "rd"
              have k34 := k3.trans k4
              refine ⟨s, lb, ls, bs, ss, _, rfl, hs4, hbz.kp k34, hssz.kp k34, by omega, by omega, fun y2 t2 H5 k5 hs5 hd2 w2 p2 z2 => ?_⟩
              walk_at "rd"
              refine rd_new (by simp) fun p H6 np e6 hp => ?_
              have k35 := k4.trans k5
              have g1 : Dp K H6 y1 t1.told := dp_sm e6 _ _ (dp_kp k35 _ _ (noL_told t1) hd1)
              exact q _ (.pair ⟨#[c]⟩ t1 t2) H6 (((kz.trans k34).trans k5).sm e6) (hs5.sm e6) (.tup (SqT.of hp) (.cons (.str _) (.cons g1 (.cons (dp_sm e6 _ _ hd2) .nil)))) ⟨signs10 c hc2, w1, w2⟩ (by show 1 + max t1.dp t2.dp ≤ n + 1; omega) (by show 1 + (t1.sz + t2.sz) < _; omega)
        · have kz := k1
          have hsz := hs1
          have hbz := hb1
          have hssz := hss1
          walk_at "rd"
          refine ⟨s, lb, ls, bs, ss, _, rfl, hsz, hbz, hssz, by omega, by omega, fun y1 t1 H3 k3 hs3 hd1 w1 p1 z1 => ?_⟩
          have kz3 := kz.trans k3
          walk_at "rd"
          refine rd_both (fun h6 => ?_) (fun h6 => ?_)
          · walk_at "rd"
            refine rd_new (by simp) fun p H4 np e4 hp => ?_
            exact q _ (.not t1) H4 (kz3.sm e4) (hs3.sm e4) (.tup (SqT.of hp) (.cons (.str _) (.cons (dp_sm e4 _ _ hd1) .nil))) w1 (by show 1 + t1.dp ≤ n + 1; omega) (by show 1 + t1.sz < _; omega)
          · walk_at "rd"
            refine rd_mix hs3 fun r4 H4 _ k4 hs4 => ?_
            walk_at "rd"
            refine rd_mod (by decide) fun m4 hm4 => ?_
            have hc : ∃ c, ("+-*/:&|^=<" : Str).cps.toList[m4]? = some c ∧ c ∈ ("+-*/:&|^=<" : Str).cps.toList := by
              have z : m4 < ("+-*/:&|^=<" : Str).cps.toList.length := by
                show m4 < 10
                omega
              exact ⟨_, List.getElem?_eq_getElem z, List.getElem_mem z⟩
            obtain ⟨c, hc1, hc2⟩ := hc
            refine rd_ix_s (by decide) (atI_nat (j := m4) hc1) ?_
            walk_at "rd"
            have k34 := k3.trans k4
            refine ⟨s, lb, ls, bs, ss, _, rfl, hs4, hbz.kp k34, hssz.kp k34, by omega, by omega, fun y2 t2 H5 k5 hs5 hd2 w2 p2 z2 => ?_⟩
            walk_at "rd"
            refine rd_new (by simp) fun p H6 np e6 hp => ?_
            have k35 := k4.trans k5
            have g1 : Dp K H6 y1 t1.told := dp_sm e6 _ _ (dp_kp k35 _ _ (noL_told t1) hd1)
            exact q _ (.pair ⟨#[c]⟩ t1 t2) H6 (((kz.trans k34).trans k5).sm e6) (hs5.sm e6) (.tup (SqT.of hp) (.cons (.str _) (.cons g1 (.cons (dp_sm e6 _ _ hd2) .nil)))) ⟨signs10 c hc2, w1, w2⟩ (by show 1 + max t1.dp t2.dp ≤ n + 1; omega) (by show 1 + (t1.sz + t2.sz) < _; omega)
end

end

section
section
variable {P : Program} {w : World} {K : PySem.W.Frag} {mg : Str → Option Value} {base : Heap} {A : CA}
/-- the state, the room, the names of a drawn program -/
structure Gn (s r ln : Addr) (ns : List Str) (H : Hp) : Prop where
  st : Sta s H
  rs : r ≠ s
  ls : ln ≠ s
  lr : ln ≠ r
  nm : H ln = some (.lst (ns.map V.str))
  len : ns.length = 11
  ok : ∀ x ∈ ns, nameOk x = true
theorem Gn.two {s r ln : Addr} {ns : List Str} {H H' : Hp} (g : Gn s r ln ns H) (k : Kp [s, r] H H') (hs : Sta s H') : Gn s r ln ns H' := { g with st := hs, nm := k.all _ _ g.nm (by simp [g.ls, g.lr]) }
theorem kp_left {s r : Addr} {H H' : Hp} (k : Kp [s] H H') : Kp [s, r] H H' := k.mono fun b hb => by
  rw [List.mem_singleton.mp hb]
  exact List.mem_cons_self ..
theorem Gn.one {s r ln : Addr} {ns : List Str} {H H' : Hp} (g : Gn s r ln ns H) (k : Kp [s] H H') (hs : Sta s H') : Gn s r ln ns H' := g.two (kp_left k) hs
theorem Gn.sm {s r ln : Addr} {ns : List Str} {H H' : Hp} (g : Gn s r ln ns H) (e : Same H H') : Gn s r ln ns H' := g.two (sm_kp e) (g.st.sm e)
def Rm (r : Addr) (R : Int) (H : Hp) : Prop := H r = some (.lst [.int R]) ∧ 0 ≤ R
theorem Rm.one {s r : Addr} {R : Int} {H H' : Hp} (h : Rm r R H) (k : Kp [s] H H') (n : r ≠ s) : Rm r R H' := ⟨k.all _ _ h.1 (by simpa using n), h.2⟩
theorem Rm.sm {r : Addr} {R : Int} {H H' : Hp} (h : Rm r R H) (e : Same H H') : Rm r R H' := ⟨e _ _ h.1, h.2⟩
theorem Gn.at {s r ln : Addr} {ns : List Str} {H : Hp} (g : Gn s r ln ns H) {m : Nat} (h : m < 11) : ∃ x, atI (ns.map V.str) (m : Int) = some (.str x) ∧ nameOk x = true := by
  have z : m < ns.length := by rw [g.len]; exact h
  exact ⟨ns[m], atI_nat (j := m) (by rw [List.getElem?_map, List.getElem?_eq_getElem z] <;> rfl), g.ok _ (List.getElem_mem z)⟩
theorem nms_of {s p : Addr} {ns xs : List Str} {H : Hp} (hs : Sta s H) (n : H p = none) {H' : Hp} (h : H' p = some (.lst (xs.map V.str))) (ok : ∀ x ∈ xs, nameOk x = true) : Nms H' p s xs := ⟨h, hs.ne n, ok⟩
/-- what a drawn row is -/
def spARow (K : PySem.W.Frag) (n : Nat) : Sp := fun vs H Q _ => ∃ (s r ln : Addr) (ns : List Str) (d R : Int), vs = [.ref s, .ref ln, .ref r, .int d] ∧ Gn s r ln ns H ∧ Rm r R H ∧ R ≤ 900 ∧ d + n = 7 ∧ 1 ≤ n ∧ n ≤ 6 ∧
  ∀ (x : V) (rw : Rw) (H' : Hp) (R' : Int), Kp [s, r] H H' → Sta s H' → Rm r R' H' → Dp K H' x rw.told → rw.wf → rw.dp ≤ n → rw.cnt + R' ≤ R + 1 → Q x H'
def spARows (K : PySem.W.Frag) (n : Nat) : Sp := fun vs H Q _ => ∃ (s r ln : Addr) (ns : List Str) (d R : Int), vs = [.ref s, .ref ln, .ref r, .int d] ∧ Gn s r ln ns H ∧ Rm r R H ∧ R ≤ 900 ∧ d + n = 7 ∧ 1 ≤ n ∧ n ≤ 6 ∧
  ∀ (x : V) (rs : List Rw) (H' : Hp) (R' : Int), Kp [s, r] H H' → Sta s H' → Rm r R' H' → Dp K H' x (.tuple (toldRs rs)) → wfRs rs → dpRs rs ≤ n → cntRs rs + R' ≤ R → Q x H'
theorem noL_rows (rs : List Rw) : noL (.tuple (toldRs rs)) = true := noLs_rows rs
/-- rows + (row,) -/
theorem rd_rows {H : Hp} {Q : VK} {v x : V} {rs : List Rw} {rw : Rw} {p : Addr} (h : Dp K H v (.tuple (toldRs rs))) (hz : cntRs rs ≤ 900) (hx : Dp K H x rw.told) (hp : H p = some (.tup [x])) (q : ∀ y H', Same H H' → Dp K H' y (.tuple (toldRs (rs ++ [rw]))) → Q y H') : rPlus K v (.ref p) H Q := by
  obtain ⟨a, xs, rfl, hS, hA⟩ := dp_tup h
  have hl := len_cnt rs
  refine rd_plus_t hS (SqT.of hp) (by rw [dpA_len hA, toldRs_map, List.length_map]; simp; omega) fun p2 H2 e2 h2 => ?_
  refine q _ H2 e2 (.tup h2 ?_)
  rw [toldRs_map, List.map_append, ← toldRs_map]
  exact dpA_one (dp_sm e2 _ _ hx) (dpAll_sm e2 _ _ hA)
theorem wfRs_one {rs : List Rw} {rw : Rw} (h : wfRs rs) (hw : rw.wf) : wfRs (rs ++ [rw]) := wfRs_app.mpr ⟨h, hw, trivial⟩
theorem dpRs_one {rs : List Rw} {rw : Rw} {n : Nat} (h : dpRs rs ≤ n) (hw : rw.dp ≤ n) : dpRs (rs ++ [rw]) ≤ n := by
  rw [dpRs_app]
  show max _ (max rw.dp 0) ≤ n
  omega
theorem cntRs_one (rs : List Rw) (rw : Rw) : cntRs (rs ++ [rw]) = cntRs rs + rw.cnt := by
  rw [cntRs_app]
  rfl
theorem ok_any_rows1 {n k : Nat} (hk : 1 ≤ k) (T : Txt K mg A) (c_L_any_row : Cal P w K mg base CX0 "_law_any_row" k ["_law_state", "_law_names_here", "_law_room", "_law_deep"] (spARow K n)) : Cal P w K mg base CX0 "_law_any_rows" (k + 1) ["_law_state", "_law_names_here", "_law_room", "_law_deep"] (spARows K n) := by
  have c_L_mix := ok_L_mix (P := P) (w := w) (base := base) T
  refine T.d_L_any_rows.ok sc_L_any_rows (fun vs H Q E h => ?_) (fun f cdv Ar outer s H vs Q E hr h => ?_)
  · obtain ⟨s, r, ln, ns, d, R, rfl, _⟩ := h
    rfl
  obtain ⟨s, r, ln, ns, d, R, rfl, g, hR, hR9, hd, hn1, hn6, q⟩ := h
  refine ⟨_, (pss_cons (ps_set (i := 4) sc_L_any_rows.nd rfl (by first | exact Or.inl rfl | exact Or.inr rfl) (pe_tup pa_nil))
    (pss_cons (ps_for PassesOwn.never rfl (pi_range1 (by rfl) T.b_range (pa_cons (pe_op op_mod (pe_cal c_L_mix hr (by omega) pass0 (pa_cons (pv 0) (pa_cons pe_int pa_nil))) pe_int) pa_nil)) (pg_name (i := 5) sc_L_any_rows.nd rfl (by first | exact Or.inl rfl | exact Or.inr rfl)) (pss_one (ps_if (pt_cmpR op_gt (pe_ix (k_ix K) (pv 2) pe_int (fun _ _ => rfl)) pe_int (nomark _)) (pss_cons (ps_asg (pe_op op_sub (pe_ix (k_ix K) (pv 2) pe_int (fun _ _ => rfl)) pe_int) (pg_sub (pv 2) pe_int set_list))
    (pss_one (ps_set (i := 4) sc_L_any_rows.nd rfl (by first | exact Or.inl rfl | exact Or.inr rfl) (pe_op (k_plus K) (pv 4) (pe_tup (pa_cons (pe_cal c_L_any_row hr (by omega) pass0 (pa_cons (pv 0) (pa_cons (pv 1) (pa_cons (pv 2) (pa_cons (pv 3) pa_nil))))) pa_nil)))))) pss_nil)))
    (pss_one (ps_ret (pv 4))))), ?_⟩
  walk_at "rd"
  refine rd_new (by simp) fun p1 H1 np1 e1 hp1 => ?_
  walk_at "rd"
  refine rd_for_r ?_
  walk_at "rd"
  refine rd_mix (g.st.sm e1) fun r1 H2 _ k2 hs2 => ?_
  walk_at "rd"
  refine rd_mod (by decide) fun m hm => ?_
  walk_at "rd"
  refine ⟨m, rfl, by omega, by omega, ?_⟩
  have g2 := (g.sm e1).one k2 hs2
  have k02 : Kp [s, r] H H2 := (sm_kp e1).trans (kp_left k2)
  refine for_it walk_range (fun i σ' H' => ∃ (x : V) (rs : List Rw) (R' : Int) (o : Option V), σ' = [some (.ref s), some (.ref ln), some (.ref r), some (.int d), some x, o] ∧ Kp [s, r] H H' ∧ Sta s H' ∧ Rm r R' H' ∧ Dp K H' x (.tuple (toldRs rs)) ∧ wfRs rs ∧ dpRs rs ≤ n ∧ cntRs rs + R' ≤ R)
    ⟨.ref p1, [], R, none, rfl, k02, hs2, (hR.sm e1).one k2 g.rs, .tup (SqT.of (k2.tup _ _ hp1)) .nil, trivial, Nat.zero_le _, by simp [cntRs]⟩ (fun _ _ _ _ _ => trivial) ?_ ?_
  · rintro j y σ' H3 H4 hj ⟨x, rs, R', o, rfl, k3, hs3, hR3, hD3, hw3, hd3, hc3⟩ ⟨rfl, rfl⟩
    have g3 := g.two k3 hs3
    have hR0 := hR3.2
    walk_at "rd"
    refine rd_ix_l (SqL.of hR3.1) (atI_nat (j := 0) rfl) ?_
    walk_at "rd"
    refine rd_both (fun hc => ?_) (fun hc => ?_)
    · have hc : 0 < R' := of_decide_eq_true hc
      walk_at "rd"
      refine rd_ix_l (SqL.of hR3.1) (atI_nat (j := 0) rfl) ?_
      walk_at "rd"
      refine rd_gsub ?_
      walk_at "rd"
      refine rd_setL (j := 0) hR3.1 (by rfl) ?_
      have k4 : Kp [s, r] H4 (upd H4 r (.lst ([V.int R'].set 0 (.int (R' - 1))))) := Kp.put hR3.1 (by simp) (fun _ z => by cases z) (fun _ _ z => by cases z)
      have hs4 : Sta s (upd H4 r (.lst ([V.int R'].set 0 (.int (R' - 1))))) := by
        obtain ⟨a, b, z, z2⟩ := hs3
        exact ⟨a, b, by rw [upd_ne (Ne.symm g.rs)]; exact z, z2⟩
      have hR4 : Rm r (R' - 1) (upd H4 r (.lst ([V.int R'].set 0 (.int (R' - 1))))) := ⟨upd_same, by omega⟩
      walk_at "rd"
      refine ⟨s, r, ln, ns, d, R' - 1, rfl, g3.two k4 hs4, hR4, by omega, hd, hn1, hn6, fun y1 rw H5 R5 k5 hs5 hR5 hD5 hw5 hd5 hc5 => ?_⟩
      have hcp := rw.cnt_pos
      walk_at "rd"
      refine rd_new (by simp) fun p6 H6 np6 e6 hp6 => ?_
      have hD6 : Dp K H6 x (.tuple (toldRs rs)) := dp_sm e6 _ _ (dp_kp (k4.trans k5) _ _ (noL_rows rs) hD3)
      refine rd_rows hD6 (by have := hR5.2; omega) (dp_sm e6 _ _ hD5) hp6 fun y7 H7 e7 hD7 => ?_
      walk_at "rd"
      have k57 := (k5.sm e6).sm e7
      refine ⟨y7, rs ++ [rw], R5, _, rfl, (k3.trans k4).trans k57, (hs5.sm e6).sm e7, (hR5.sm e6).sm e7, hD7, wfRs_one hw3 hw5, dpRs_one hd3 hd5, ?_⟩
      rw [cntRs_one]
      omega
    · walk_at "rd"
      exact ⟨x, rs, R', _, rfl, k3, hs3, hR3, hD3, hw3, hd3, hc3⟩
  · rintro σ' H3 ⟨x, rs, R', o, rfl, k3, hs3, hR3, hD3, hw3, hd3, hc3⟩
    walk_at "rd"
    exact q x rs H3 R' k3 hs3 hR3 hD3 hw3 hd3 hc3
end

end

section
section
variable {P : Program} {w : World} {K : PySem.W.Frag} {mg : Str → Option Value} {base : Heap} {A : CA}
theorem rd_par {i j : Nat} {ta : TA} {nx : L2.St → Hp → Prop} {rt : VK} {bk ct : L2.St → Hp → Prop} {σ : L2.St} {H : Hp} (q : ta σ H fun vs H1 => ∃ v w, vs = [v, w] ∧ nx ((σ.set i (some v)).set j (some w)) H1) : tPar i j ta { nx := nx, rt := rt, bk := bk, ct := ct } σ H := q
theorem ok_any_row1 {n k : Nat} (hk : 6 ≤ k) (T : Txt K mg A) (c_L_any_rows : Cal P w K mg base CX0 "_law_any_rows" k ["_law_state", "_law_names_here", "_law_room", "_law_deep"] (spARows K n)) : Cal P w K mg base CX0 "_law_any_row" (k + 1) ["_law_state", "_law_names_here", "_law_room", "_law_deep"] (spARow K (n + 1)) := by
  have c_L_mix := ok_L_mix (P := P) (w := w) (base := base) T
  have c_L_saying := ok_L_saying (P := P) (w := w) (base := base) T 3
  refine T.d_L_any_row.ok sc_L_any_row (fun vs H Q E h => ?_) (fun f cdv Ar outer s H vs Q E hr h => ?_)
  · obtain ⟨s, r, ln, ns, d, R, rfl, _⟩ := h
    rfl
  obtain ⟨s, r, ln, ns, d, R, rfl, g, hR, hR9, hd, hn1, hn6, q⟩ := h
  refine ⟨_, (pss_cons (ps_par (i := 4) (j := 5) rfl sc_L_any_row.nd rfl rfl (by decide) rfl rfl (pa_cons (pe_ix (k_ix K) (pv 1) (pe_op op_mod (pe_cal c_L_mix hr (by omega) pass0 (pa_cons (pv 0) (pa_cons pe_int pa_nil))) pe_int) (fun _ _ => rfl)) (pa_cons (pe_ix (k_ix K) (pv 1) (pe_op op_mod (pe_cal c_L_mix hr (by omega) pass0 (pa_cons (pv 0) (pa_cons pe_int pa_nil))) pe_int) (fun _ _ => rfl)) pa_nil)) (by rfl))
    (pss_cons (ps_set (i := 6) sc_L_any_row.nd rfl (by first | exact Or.inl rfl | exact Or.inr rfl) (pe_cal c_L_saying hr (by omega) pass0 (pa_cons (pv 0) (pa_cons (pe_slice (k_sl K) (pv 1) po_none (po_some pe_int)) (pa_cons (pe_slice (k_sl K) (pv 1) (po_some pe_int) (po_some pe_int)) (pa_cons (pe_op op_mod (pe_cal c_L_mix hr (by omega) pass0 (pa_cons (pv 0) (pa_cons pe_int pa_nil))) pe_int) pa_nil))))))
    (pss_cons (ps_set (i := 7) sc_L_any_row.nd rfl (by first | exact Or.inl rfl | exact Or.inr rfl) (pe_op op_mod (pe_cal c_L_mix hr (by omega) pass0 (pa_cons (pv 0) (pa_cons pe_int pa_nil))) pe_int))
    (pss_cons (ps_if (pt_cmpR op_lt (pv 7) pe_int (nomark _)) (pss_one (ps_ret (pe_tup (pa_cons (pe_ix (k_ix K) (pe_lst (pa_cons pe_str (pa_cons pe_str (pa_cons pe_str pa_nil)))) (pv 7) (fun _ _ => rfl)) (pa_cons (pv 4) (pa_cons (pv 6) pa_nil)))))) pss_nil)
    (pss_cons (ps_if (pt_cmpR op_lt (pv 7) pe_int (nomark _)) (pss_one (ps_ret (pe_ix (k_ix K) (pe_lst (pa_cons (pe_tup (pa_cons pe_str (pa_cons (pv 4) (pa_cons (pv 5) pa_nil)))) (pa_cons (pe_tup (pa_cons pe_str (pa_cons (pv 4) (pa_cons (pe_op op_mod (pe_cal c_L_mix hr (by omega) pass0 (pa_cons (pv 0) (pa_cons pe_int pa_nil))) pe_int) pa_nil)))) pa_nil))) (pe_op op_sub (pv 7) pe_int) (fun _ _ => rfl)))) pss_nil)
    (pss_cons (ps_if (pt_cmpR op_lt (pv 7) pe_int (nomark _)) (pss_one (ps_ret (pe_tup (pa_cons (pe_ix (k_ix K) (pe_lst (pa_cons pe_str (pa_cons pe_str pa_nil))) (pe_op op_sub (pv 7) pe_int) (fun _ _ => rfl)) (pa_cons (pv 4) (pa_cons (pe_ix (k_ix K) (pv 1) (pe_op (k_plus K) pe_int (pe_op op_mod (pe_cal c_L_mix hr (by omega) pass0 (pa_cons (pv 0) (pa_cons pe_int pa_nil))) pe_int)) (fun _ _ => rfl)) pa_nil)))))) pss_nil)
    (pss_cons (ps_if (PW.pt (pw_or (pt_cmpR op_lt (pv 7) pe_int (nomark _)) (pw_or1 (pt_cmpR (k_eql K hr.units) (pv 3) pe_int (nomark _))))) (pss_one (ps_ret (pe_tup (pa_cons (pe_ix (k_ix K) (pe_lst (pa_cons pe_str (pa_cons pe_str pa_nil))) (pe_op op_mod (pv 7) pe_int) (fun _ _ => rfl)) (pa_cons (pe_ix (k_ix K) (pv 1) pe_int (fun _ _ => rfl)) pa_nil))))) pss_nil)
    (pss_cons (ps_set (i := 8) sc_L_any_row.nd rfl (by first | exact Or.inl rfl | exact Or.inr rfl) (pe_cal c_L_saying hr (by omega) pass0 (pa_cons (pv 0) (pa_cons (pe_slice (k_sl K) (pv 1) po_none (po_some pe_int)) (pa_cons (pe_slice (k_sl K) (pv 1) (po_some pe_int) (po_some pe_int)) (pa_cons pe_int pa_nil))))))
    (pss_cons (ps_set (i := 9) sc_L_any_row.nd rfl (by first | exact Or.inl rfl | exact Or.inr rfl) (pe_cal c_L_any_rows hr (by omega) pass0 (pa_cons (pv 0) (pa_cons (pv 1) (pa_cons (pv 2) (pa_cons (pe_op (k_plus K) (pv 3) pe_int) pa_nil))))))
    (pss_cons (ps_if (pt_cmpR (k_eql K hr.units) (pv 7) pe_int (nomark _)) (pss_one (ps_ret (pe_tup (pa_cons pe_str (pa_cons (pv 4) (pa_cons (pv 6) (pa_cons (pv 9) (pa_cons (pv 8) pa_nil)))))))) pss_nil)
    (pss_cons (ps_set (i := 10) sc_L_any_row.nd rfl (by first | exact Or.inl rfl | exact Or.inr rfl) (pe_cal c_L_any_rows hr (by omega) pass0 (pa_cons (pv 0) (pa_cons (pv 1) (pa_cons (pv 2) (pa_cons (pe_op (k_plus K) (pv 3) pe_int) pa_nil))))))
    (pss_one (ps_ret (pe_tup (pa_cons (pe_ix (k_ix K) (pe_lst (pa_cons pe_str (pa_cons pe_str pa_nil))) (pe_op op_mod (pv 7) pe_int) (fun _ _ => rfl)) (pa_cons (pv 6) (pa_cons (pv 9) (pa_cons (pv 10) (pa_cons (pv 8) pa_nil))))))))))))))))))), ?_⟩
  walk_at "rd"
  refine rd_par ?_
  walk_at "rd"
  refine rd_mix g.st fun r1 H1 _ k1 hs1 => ?_
  walk_at "rd"
  refine rd_mod (by decide) fun m1 hm1 => ?_
  have g1 := g.one k1 hs1
  obtain ⟨bx, hbx, okb⟩ := g1.at (m := m1) (by omega)
  refine rd_ix_l (SqL.of g1.nm) hbx ?_
  walk_at "rd"
  refine rd_mix hs1 fun r2 H2 _ k2 hs2 => ?_
  walk_at "rd"
  refine rd_mod (by decide) fun m2 hm2 => ?_
  have g2 := g1.one k2 hs2
  obtain ⟨ot, hot, oko⟩ := g2.at (m := m2) (by omega)
  refine rd_ix_l (SqL.of g2.nm) hot ?_
  walk_at "rd"
  refine ⟨_, _, rfl, ?_⟩
  walk_at "rd"
  refine rd_sl_l (SqL.of g2.nm) fun p2a H2a np2a e2a hp2a => ?_
  walk_at "rd"
  refine rd_sl_l (SqL.of (e2a _ _ g2.nm)) fun p2b H2b np2b e2b hp2b => ?_
  rw [show cutV (ns.map V.str) none (some 5) = (ns.take 5).map V.str from by rw [show (some (5 : Int)) = some ((5 : Nat) : Int) from rfl, cutV_to, List.map_take]] at hp2a
  rw [show cutV (ns.map V.str) (some 5) (some 7) = ((ns.drop 5).take 2).map V.str from by rw [show (some (5 : Int)) = some ((5 : Nat) : Int) from rfl, show (some (7 : Int)) = some ((7 : Nat) : Int) from rfl, cutV_both, List.map_take, List.map_drop]] at hp2b
  have e2c := e2a.trans e2b
  have nb2 : Nms H2b p2a s (ns.take 5) := ⟨e2b _ _ hp2a, g2.st.ne np2a, fun x hx => g.ok x (List.mem_of_mem_take hx)⟩
  have ns2 : Nms H2b p2b s ((ns.drop 5).take 2) := ⟨hp2b, (g2.sm e2a).st.ne np2b, fun x hx => g.ok x (List.mem_of_mem_drop (List.mem_of_mem_take hx))⟩
  walk_at "rd"
  refine rd_mix (g2.sm e2c).st fun r3 H3 _ k3 hs3 => ?_
  walk_at "rd"
  refine rd_mod (by decide) fun m3 hm3 => ?_
  walk_at "rd"
  refine ⟨s, p2a, p2b, _, _, _, rfl, hs3, nb2.kp k3, ns2.kp k3, by omega, by omega, fun y4 t4 H4 k4 hs4 hD4 w4 p4 z4 => ?_⟩
  have g4 := ((g2.sm e2c).one k3 hs3).one k4 hs4
  have k04 : Kp [s] H H4 := (((k1.trans k2).sm e2c).trans k3).trans k4
  have t4ok : t4.ok := ⟨w4, by
    have z : pw2 3 = 8 := rfl
    omega, by omega⟩
  walk_at "rd"
  refine rd_mix hs4 fun r5 H5 _ k5 hs5 => ?_
  walk_at "rd"
  refine rd_mod (by decide) fun m5 hm5 => ?_
  have g5 := g4.one k5 hs5
  have k05 : Kp [s] H H5 := k04.trans k5
  have hD5 : Dp K H5 y4 t4.told := dp_kp k5 _ _ (noL_told t4) hD4
  walk_at "rd"
  -- what ends a branch
  have fin : ∀ {H' : Hp} {x : V} (row : Rw), Kp [s] H H' → Sta s H' → Dp K H' x row.told → row.wf → row.dp = 1 → row.cnt = 1 → Q x H' := fun {H' x} row kk hs' hD' hw' hd' hc' => q x row H' R (kp_left kk) hs' (hR.one kk g.rs) hD' hw' (by omega) (by omega)
  refine rd_both (fun h3 => ?_) (fun h3 => ?_)
  · have h3 : (m5 : Int) < 3 := of_decide_eq_true h3
    walk_at "rd"
    refine rd_new (by simp) fun p6 H6 np6 e6 hp6 => ?_
    have hv : ∃ k : CK, [V.str "add", V.str "less", V.str "mix"][m5]? = some (.str k.nm) := by
      match m5, h3 with
      | 0, _ => exact ⟨.add, rfl⟩
      | 1, _ => exact ⟨.less, rfl⟩
      | 2, _ => exact ⟨.mix, rfl⟩
      | k + 3, h => omega
    obtain ⟨kk, hkk⟩ := hv
    walk_at "rd"
    refine rd_ix_l (SqL.of hp6) (atI_nat (j := m5) hkk) ?_
    walk_at "rd"
    refine rd_new (by simp) fun p7 H7 np7 e7 hp7 => ?_
    exact fin (.chg kk bx t4) ((k05.sm e6).sm e7) ((hs5.sm e6).sm e7) (.tup (SqT.of hp7) (.cons (.str _) (.cons (.str _) (.cons (dp_sm (e6.trans e7) _ _ hD5) .nil)))) ⟨okb, t4ok⟩ rfl rfl
  have h3 : ¬ (m5 : Int) < 3 := of_decide_eq_false h3
  walk_at "rd"
  refine rd_both (fun h5 => ?_) (fun h5 => ?_)
  · have h5 : (m5 : Int) < 5 := of_decide_eq_true h5
    walk_at "rd"
    refine rd_new (by simp) fun p6 H6 np6 e6 hp6 => ?_
    walk_at "rd"
    refine rd_mix (hs5.sm e6) fun r7 H7 _ k7 hs7 => ?_
    walk_at "rd"
    refine rd_mod (by decide) fun m7 hm7 => ?_
    walk_at "rd"
    refine rd_new (by simp) fun p8 H8 np8 e8 hp8 => ?_
    walk_at "rd"
    refine rd_new (by simp) fun p9 H9 np9 e9 hp9 => ?_
    have kk := (((k05.sm e6).trans k7).sm e8).sm e9
    have hh := (hs7.sm e8).sm e9
    have g6 : H9 p6 = some (.tup [V.str "swap", V.str bx, V.str ot]) := e9 _ _ (e8 _ _ (k7.tup _ _ hp6))
    have z : m5 = 3 ∨ m5 = 4 := by omega
    walk_at "rd"
    rcases z with z | z
    · subst z
      refine rd_ix_l (SqL.of hp9) (v := .ref p6) rfl ?_
      exact fin (.swap bx ot) kk hh (.tup (SqT.of g6) (.cons (.str _) (.cons (.str _) (.cons (.str _) .nil)))) ⟨okb, oko⟩ rfl rfl
    · subst z
      refine rd_ix_l (SqL.of hp9) (v := .ref p8) rfl ?_
      exact fin (.turn bx m7) kk hh (.tup (SqT.of (e9 _ _ hp8)) (.cons (.str _) (.cons (.str _) (.cons (.int _) .nil)))) ⟨okb, by omega, by omega⟩ rfl rfl
  have h5 : ¬ (m5 : Int) < 5 := of_decide_eq_false h5
  walk_at "rd"
  refine rd_both (fun h7 => ?_) (fun h7 => ?_)
  · have h7 : (m5 : Int) < 7 := of_decide_eq_true h7
    walk_at "rd"
    refine rd_new (by simp) fun p6 H6 np6 e6 hp6 => ?_
    have hv : ∃ k : MK, atI [V.str "push", V.str "pop"] ((m5 : Int) - 5) = some (.str k.nm) := by
      have z : m5 = 5 ∨ m5 = 6 := by omega
      rcases z with z | z
      · subst z
        exact ⟨.push, rfl⟩
      · subst z
        exact ⟨.pop, rfl⟩
    obtain ⟨kk, hkk⟩ := hv
    walk_at "rd"
    refine rd_ix_l (SqL.of hp6) hkk ?_
    walk_at "rd"
    refine rd_mix (hs5.sm e6) fun r7 H7 _ k7 hs7 => ?_
    walk_at "rd"
    refine rd_mod (by decide) fun m7 hm7 => ?_
    have g7 := (g5.sm e6).one k7 hs7
    obtain ⟨sx, hsx, oks⟩ := g7.at (m := 5 + m7) (by omega)
    walk_at "rd"
    refine rd_ix_l (SqL.of g7.nm) (i := 5 + (m7 : Int)) (by rw [show (5 : Int) + (m7 : Int) = ((5 + m7 : Nat) : Int) from by omega]; exact hsx) ?_
    walk_at "rd"
    refine rd_new (by simp) fun p8 H8 np8 e8 hp8 => ?_
    exact fin (.mov kk bx sx) (((k05.sm e6).trans k7).sm e8) (hs7.sm e8) (.tup (SqT.of hp8) (.cons (.str _) (.cons (.str _) (.cons (.str _) .nil)))) ⟨okb, oks⟩ rfl rfl
  have h7 : ¬ (m5 : Int) < 7 := of_decide_eq_false h7
  have hpar : m5 % 2 = 0 ∨ m5 % 2 = 1 := by omega
  walk_at "rd"
  by_cases h9 : (m5 : Int) < 9
  · walk_at "rd"
    refine rd_new (by simp) fun p6 H6 np6 e6 hp6 => ?_
    have hv : ∃ k : NK, atI [V.str "call", V.str "back"] ((m5 : Int) % 2) = some (.str k.nm) := by
      rcases hpar with z | z
      · rw [show (m5 : Int) % 2 = 0 from by omega]
        exact ⟨.call, rfl⟩
      · rw [show (m5 : Int) % 2 = 1 from by omega]
        exact ⟨.back, rfl⟩
    obtain ⟨kk, hkk⟩ := hv
    walk_at "rd"
    refine rd_I (by decide) ?_
    refine rd_ix_l (SqL.of hp6) hkk ?_
    walk_at "rd"
    have g6 := g5.sm e6
    obtain ⟨cx, hcx, okc⟩ := g6.at (m := 7) (by omega)
    refine rd_ix_l (SqL.of g6.nm) hcx ?_
    walk_at "rd"
    refine rd_new (by simp) fun p7 H7 np7 e7 hp7 => ?_
    exact fin (.nam kk cx) ((k05.sm e6).sm e7) ((hs5.sm e6).sm e7) (.tup (SqT.of hp7) (.cons (.str _) (.cons (.str _) .nil))) okc rfl rfl
  · by_cases h6 : d = 6
    · walk_at "rd"
      refine rd_new (by simp) fun p6 H6 np6 e6 hp6 => ?_
      have hv : ∃ k : NK, atI [V.str "call", V.str "back"] ((m5 : Int) % 2) = some (.str k.nm) := by
        rcases hpar with z | z
        · rw [show (m5 : Int) % 2 = 0 from by omega]
          exact ⟨.call, rfl⟩
        · rw [show (m5 : Int) % 2 = 1 from by omega]
          exact ⟨.back, rfl⟩
      obtain ⟨kk, hkk⟩ := hv
      walk_at "rd"
      refine rd_I (by decide) ?_
      refine rd_ix_l (SqL.of hp6) hkk ?_
      walk_at "rd"
      have g6 := g5.sm e6
      obtain ⟨cx, hcx, okc⟩ := g6.at (m := 7) (by omega)
      refine rd_ix_l (SqL.of g6.nm) hcx ?_
      walk_at "rd"
      refine rd_new (by simp) fun p7 H7 np7 e7 hp7 => ?_
      exact fin (.nam kk cx) ((k05.sm e6).sm e7) ((hs5.sm e6).sm e7) (.tup (SqT.of hp7) (.cons (.str _) (.cons (.str _) .nil))) okc rfl rfl
    · walk_at "rd"
      have hn : 1 ≤ n := by omega
      refine rd_sl_l (SqL.of g5.nm) fun p5a H5a np5a e5a hp5a => ?_
      walk_at "rd"
      refine rd_sl_l (SqL.of (e5a _ _ g5.nm)) fun p5b H5b np5b e5b hp5b => ?_
      rw [show cutV (ns.map V.str) none (some 5) = (ns.take 5).map V.str from by rw [show (some (5 : Int)) = some ((5 : Nat) : Int) from rfl, cutV_to, List.map_take]] at hp5a
      rw [show cutV (ns.map V.str) (some 5) (some 7) = ((ns.drop 5).take 2).map V.str from by rw [show (some (5 : Int)) = some ((5 : Nat) : Int) from rfl, show (some (7 : Int)) = some ((7 : Nat) : Int) from rfl, cutV_both, List.map_take, List.map_drop]] at hp5b
      have e5c := e5a.trans e5b
      have nb5 : Nms H5b p5a s (ns.take 5) := ⟨e5b _ _ hp5a, g5.st.ne np5a, fun x hx => g.ok x (List.mem_of_mem_take hx)⟩
      have ns5 : Nms H5b p5b s ((ns.drop 5).take 2) := ⟨hp5b, (g5.sm e5a).st.ne np5b, fun x hx => g.ok x (List.mem_of_mem_drop (List.mem_of_mem_take hx))⟩
      walk_at "rd"
      refine ⟨s, p5a, p5b, _, _, _, rfl, (g5.sm e5c).st, nb5, ns5, by omega, by omega, fun y6 t6 H6 k6 hs6 hD6 w6 p6 z6 => ?_⟩
      have t6ok : t6.ok := ⟨w6, by have z : pw2 3 = 8 := rfl; omega, by omega⟩
      have g6 := (g5.sm e5c).one k6 hs6
      have k06 : Kp [s] H H6 := (k05.sm e5c).trans k6
      have hD46 : Dp K H6 y4 t4.told := dp_kp k6 _ _ (noL_told t4) (dp_sm e5c _ _ hD5)
      walk_at "rd"
      refine ⟨s, r, ln, ns, _, R, rfl, g6, hR.one k06 g.rs, hR9, by omega, hn, by omega, fun y7 rs7 H7 R7 k7 hs7 hR7 hD7 w7 p7 z7 => ?_⟩
      have g7 := g6.two k7 hs7
      have k07 : Kp [s, r] H H7 := (kp_left k06).trans k7
      have hD47 := dp_kp k7 _ _ (noL_told t4) hD46
      have hD67 := dp_kp k7 _ _ (noL_told t6) hD6
      walk_at "rd"
      by_cases h9' : m5 = 9
      · subst h9'
        walk_at "rd"
        refine rd_new (by simp) fun p8 H8 np8 e8 hp8 => ?_
        exact q _ (.held bx t4 rs7 t6) H8 R7 (k07.sm e8) (hs7.sm e8) (hR7.sm e8) (.tup (SqT.of hp8) (.cons (.str _) (.cons (.str _) (.cons (dp_sm e8 _ _ hD47) (.cons (dp_sm e8 _ _ hD7) (.cons (dp_sm e8 _ _ hD67) .nil)))))) ⟨okb, t4ok, w7, t6ok⟩ (by show 1 + dpRs rs7 ≤ n + 1; omega) (by show (((1 + cntRs rs7 : Nat)) : Int) + R7 ≤ R + 1; omega)
      · have h9i : ¬ (m5 : Int) = 9 := by omega
        walk_at "rd"
        refine ⟨s, r, ln, ns, _, R7, rfl, g7, hR7, by omega, by omega, hn, by omega, fun y8 rs8 H8 R8 k8 hs8 hR8 hD8 w8 p8 z8 => ?_⟩
        have hD48 := dp_kp k8 _ _ (noL_told t4) hD47
        have hD68 := dp_kp k8 _ _ (noL_told t6) hD67
        have hD78 := dp_kp k8 _ _ (noL_rows rs7) hD7
        walk_at "rd"
        refine rd_new (by simp) fun p9 H9 np9 e9 hp9 => ?_
        have hv : ∃ k : BK, atI [V.str "choice", V.str "loop"] ((m5 : Int) % 2) = some (.str k.nm) := by
          rcases hpar with z | z
          · rw [show (m5 : Int) % 2 = 0 from by omega]
            exact ⟨.cho, rfl⟩
          · rw [show (m5 : Int) % 2 = 1 from by omega]
            exact ⟨.loop, rfl⟩
        obtain ⟨kk, hkk⟩ := hv
        walk_at "rd"
        refine rd_I (by decide) ?_
        refine rd_ix_l (SqL.of hp9) hkk ?_
        walk_at "rd"
        refine rd_new (by simp) fun p10 H10 np10 e10 hp10 => ?_
        have ee := e9.trans e10
        exact q _ (.blk kk t4 rs7 rs8 t6) H10 R8 ((k07.trans k8).sm ee) (hs8.sm ee) (hR8.sm ee) (.tup (SqT.of hp10) (.cons (.str _) (.cons (dp_sm ee _ _ hD48) (.cons (dp_sm ee _ _ hD78) (.cons (dp_sm ee _ _ hD8) (.cons (dp_sm ee _ _ hD68) .nil)))))) ⟨t4ok, w7, w8, t6ok⟩ (by show 1 + max (dpRs rs7) (dpRs rs8) ≤ n + 1; omega) (by show (((1 + (cntRs rs7 + cntRs rs8) : Nat)) : Int) + R8 ≤ R + 1; omega)
theorem ok_any_row0 (T : Txt K mg A) : Cal P w K mg base CX0 "_law_any_rows" 6 ["_law_state", "_law_names_here", "_law_room", "_law_deep"] (spARows K 0) := T.d_L_any_rows.never fun vs H Q E h => by
  obtain ⟨_, _, _, _, _, _, _, _, _, _, _, hn, _⟩ := h
  omega
theorem ok_any_rows (T : Txt K mg A) : ∀ n : Nat, Cal P w K mg base CX0 "_law_any_rows" (2 * n + 6) ["_law_state", "_law_names_here", "_law_room", "_law_deep"] (spARows K n)
  | 0 => ok_any_row0 T
  | n + 1 => ok_any_rows1 (by omega) T (ok_any_row1 (by omega) T (ok_any_rows T n))
end

end

section
section
variable {P : Program} {w : World} {K : PySem.W.Frag} {mg : Str → Option Value} {base : Heap} {A : CA}
theorem kp_drop {s r : Addr} {H H1 H2 : Hp} (k1 : Kp [s] H H1) (n : H r = none) (k : Kp [s, r] H1 H2) : Kp [s] H H2 where
  all := fun b o h nb => k.all b o (k1.all b o h nb) (by
    intro hb
    rcases (by simpa using hb : b = s ∨ b = r) with z | z
    · exact nb (by simp [z])
    · rw [z, n] at h
      cases h)
  tup := fun b xs h => k.tup b xs (k1.tup b xs h)
  frz := fun b o u h => k.frz b o u (k1.frz b o u h)
theorem dpA_app {H : Hp} : ∀ {ds es : List PyData} {xs ys : List V}, DpAll K H xs ds → DpAll K H ys es → DpAll K H (xs ++ ys) (ds ++ es)
  | [], _, _, _, h, g => by
    cases dpA_nil h
    exact g
  | d :: ds, _, _, _, h, g => by
    obtain ⟨u, r, rfl, h1, h2⟩ := dpA_cons h
    exact .cons h1 (dpA_app h2 g)
/-- rows + rows -/
theorem rd_rowsApp {H : Hp} {Q : VK} {v x : V} {rs rt : List Rw} (h : Dp K H v (.tuple (toldRs rs))) (hz : cntRs rs ≤ 400) (h2 : Dp K H x (.tuple (toldRs rt))) (hz2 : cntRs rt ≤ 400) (q : ∀ y H', Same H H' → Dp K H' y (.tuple (toldRs (rs ++ rt))) → Q y H') : rPlus K v x H Q := by
  obtain ⟨a, xs, rfl, hS, hA⟩ := dp_tup h
  obtain ⟨a2, xs2, rfl, hS2, hA2⟩ := dp_tup h2
  have hl := len_cnt rs
  have hl2 := len_cnt rt
  refine rd_plus_t hS hS2 (by rw [dpA_len hA, dpA_len hA2, toldRs_map, toldRs_map, List.length_map, List.length_map]; omega) fun p2 H2 e2 g2 => ?_
  refine q _ H2 e2 (.tup g2 ?_)
  rw [toldRs_map, List.map_append, ← toldRs_map, ← toldRs_map]
  exact dpA_app (dpAll_sm e2 _ _ hA) (dpAll_sm e2 _ _ hA2)
/-- routines + ((name, rows),) -/
theorem rd_rtsOne {H : Hp} {Q : VK} {v y : V} {l : List (Str × List Rw)} {x : Str} {rs : List Rw} {p q1 : Addr} (h : Dp K H v (.tuple (l.map Pg.toldR))) (hz : l.length ≤ 400) (hp : H p = some (.tup [.ref q1])) (hq : H q1 = some (.tup [.str x, y])) (hy : Dp K H y (.tuple (toldRs rs)))
    (q : ∀ z H', Same H H' → Dp K H' z (.tuple ((l ++ [(x, rs)]).map Pg.toldR)) → Q z H') : rPlus K v (.ref p) H Q := by
  obtain ⟨a, xs, rfl, hS, hA⟩ := dp_tup h
  refine rd_plus_t hS (SqT.of hp) (by rw [dpA_len hA, List.length_map]; simp; omega) fun p2 H2 e2 g2 => ?_
  refine q _ H2 e2 (.tup g2 ?_)
  rw [List.map_append]
  exact dpA_app (dpAll_sm e2 _ _ hA) (.cons (.tup (SqT.of (e2 _ _ hq)) (.cons (.str _) (.cons (dp_sm e2 _ _ hy) .nil))) .nil)
theorem noL_rts : ∀ l : List (Str × List Rw), noLs (l.map Pg.toldR) = true
  | [] => rfl
  | x :: l => by
    have h1 := noLs_rows x.2
    have h2 := noL_rts l
    show (noL (.tuple [.str x.1, .tuple (toldRs x.2)]) && noLs (l.map Pg.toldR)) = true
    rw [h2]
    simp [noL, noLs, h1]
/-- the routines made so far -/
structure RtsOk (l : List (Str × List Rw)) : Prop where
  n : ∀ x ∈ l, nameOk x.1 = true
  w : ∀ x ∈ l, wfRs x.2
  d : ∀ x ∈ l, dpRs x.2 ≤ 6
def cntL (l : List (Str × List Rw)) : Nat := (l.map fun x => cntRs x.2).sum
theorem RtsOk.one {l : List (Str × List Rw)} {x : Str} {rs : List Rw} (h : RtsOk l) (h1 : nameOk x = true) (h2 : wfRs rs) (h3 : dpRs rs ≤ 6) : RtsOk (l ++ [(x, rs)]) where
  n := fun y hy => (List.mem_append.mp hy).elim (h.n y) fun z => by rw [List.mem_singleton.mp z]; exact h1
  w := fun y hy => (List.mem_append.mp hy).elim (h.w y) fun z => by rw [List.mem_singleton.mp z]; exact h2
  d := fun y hy => (List.mem_append.mp hy).elim (h.d y) fun z => by rw [List.mem_singleton.mp z]; exact h3
theorem cntL_one (l : List (Str × List Rw)) (x : Str) (rs : List Rw) : cntL (l ++ [(x, rs)]) = cntL l + cntRs rs := by
  unfold cntL
  rw [List.map_append, List.sum_append]
  simp
theorem cntL_mem {l : List (Str × List Rw)} {x : Str × List Rw} (h : x ∈ l) : cntRs x.2 ≤ cntL l := sum_mem (List.mem_map.mpr ⟨x, h, rfl⟩ : cntRs x.2 ∈ l.map fun x => cntRs x.2)
def spAProg (K : PySem.W.Frag) : Sp := fun vs H Q _ => ∃ s : Addr, vs = [.ref s] ∧ Sta s H ∧ ∀ (x : V) (p : Pg) (H' : Hp), Kp [s] H H' → Sta s H' → Dp K H' x p.told → p.wf → Q x H'
theorem ok_any_program (T : Txt K mg A) : Cal P w K mg base CX0 "_law_any_program" 19 ["_law_state"] (spAProg K) := by
  have c_L_mix := ok_L_mix (P := P) (w := w) (base := base) T
  have c_L_names := ok_L_names (P := P) (w := w) (base := base) T
  have c_L_any_rows := ok_any_rows (P := P) (w := w) (base := base) T 6
  refine T.d_L_any_program.ok sc_L_any_program (fun vs H Q E h => ?_) (fun f cdv Ar outer s H vs Q E hr h => ?_)
  · obtain ⟨s, rfl, _⟩ := h
    rfl
  obtain ⟨s, rfl, hs, q⟩ := h
  refine ⟨_, (pss_cons (ps_set (i := 1) sc_L_any_program.nd rfl (by first | exact Or.inl rfl | exact Or.inr rfl) (pe_cal c_L_names hr (by omega) pass0 (pa_cons (pv 0) (pa_cons pe_int pa_nil))))
    (pss_cons (ps_set (i := 2) sc_L_any_program.nd rfl (by first | exact Or.inl rfl | exact Or.inr rfl) (pe_lst (pa_cons (pe_op (k_plus K) pe_int (pe_op op_mod (pe_cal c_L_mix hr (by omega) pass0 (pa_cons (pv 0) (pa_cons pe_int pa_nil))) pe_int)) pa_nil)))
    (pss_cons (ps_set (i := 3) sc_L_any_program.nd rfl (by first | exact Or.inl rfl | exact Or.inr rfl) (pe_tup pa_nil))
    (pss_cons (ps_for PassesOwn.never rfl (pi_range1 (by rfl) T.b_range (pa_cons (pe_op (k_plus K) pe_int (pe_op op_mod (pe_cal c_L_mix hr (by omega) pass0 (pa_cons (pv 0) (pa_cons pe_int pa_nil))) pe_int)) pa_nil)) (pg_name (i := 4) sc_L_any_program.nd rfl (by first | exact Or.inl rfl | exact Or.inr rfl)) (pss_cons (ps_set (i := 5) sc_L_any_program.nd rfl (by first | exact Or.inl rfl | exact Or.inr rfl) (pe_tup pa_nil))
    (pss_cons (ps_for PassesOwn.never rfl (pi_range1 (by rfl) T.b_range (pa_cons (pe_op (k_plus K) pe_int (pe_op op_mod (pe_cal c_L_mix hr (by omega) pass0 (pa_cons (pv 0) (pa_cons pe_int pa_nil))) pe_int)) pa_nil)) (pg_name (i := 6) sc_L_any_program.nd rfl (by first | exact Or.inl rfl | exact Or.inr rfl)) (pss_one (ps_set (i := 5) sc_L_any_program.nd rfl (by first | exact Or.inl rfl | exact Or.inr rfl) (pe_op (k_plus K) (pv 5) (pe_cal c_L_any_rows hr (by omega) pass0 (pa_cons (pv 0) (pa_cons (pv 1) (pa_cons (pv 2) (pa_cons pe_int pa_nil)))))))))
    (pss_one (ps_set (i := 3) sc_L_any_program.nd rfl (by first | exact Or.inl rfl | exact Or.inr rfl) (pe_op (k_plus K) (pv 3) (pe_tup (pa_cons (pe_tup (pa_cons (pe_ix (k_ix K) (pv 1) (pe_op (k_plus K) pe_int (pv 4)) (fun _ _ => rfl)) (pa_cons (pv 5) pa_nil))) pa_nil))))))))
    (pss_one (ps_ret (pe_tup (pa_cons (pe_callTy (k_tup K) (by rfl) T.b_tuple bt_tuple (pa_cons (pe_slice (k_sl K) (pv 1) po_none (po_some pe_int)) pa_nil)) (pa_cons (pe_callTy (k_tup K) (by rfl) T.b_tuple bt_tuple (pa_cons (pe_slice (k_sl K) (pv 1) (po_some pe_int) (po_some pe_int)) pa_nil)) (pa_cons (pv 3) pa_nil)))))))))), ?_⟩
  walk_at "rd"
  refine ⟨s, _, rfl, hs, by omega, by omega, fun ln ns H1 nl ls k1 hs1 hln hlen hok => ?_⟩
  walk_at "rd"
  refine rd_mix hs1 fun r2 H2 _ k2 hs2 => ?_
  walk_at "rd"
  refine rd_mod (by decide) fun m2 hm2 => ?_
  walk_at "rd"
  refine rd_new (by simp) fun r H3 nr e3 hr3 => ?_
  have k02 : Kp [s] H H2 := k1.trans k2
  have nr0 : H r = none := by
    have rs2 := hs2.ne nr
    cases z : H r with
    | none => rfl
    | some o =>
      rw [k02.all _ _ z (by simpa using rs2)] at nr
      cases nr
  have hln2 := k2.all _ _ hln (by simpa using ls)
  have hs3 := hs2.sm e3
  have nlr : ln ≠ r := fun z => by
    rw [z, nr] at hln2
    cases hln2
  have g3 : Gn s r ln ns H3 := ⟨hs3, hs2.ne nr, ls, nlr, e3 _ _ hln2, hlen, hok⟩
  have hR3 : Rm r (10 + m2) H3 := ⟨hr3, by omega⟩
  walk_at "rd"
  refine rd_new (by simp) fun p4 H4 np4 e4 hp4 => ?_
  walk_at "rd"
  refine rd_for_r ?_
  walk_at "rd"
  refine rd_mix (hs3.sm e4) fun r5 H5 _ k5 hs5 => ?_
  walk_at "rd"
  refine rd_mod (by decide) fun m5 hm5 => ?_
  walk_at "rd"
  refine ⟨1 + m5, rfl, by omega, by omega, ?_⟩
  have k35 : Kp [s, r] H3 H5 := (sm_kp e4).trans (kp_left k5)
  have en : ((1 : Int) + (m5 : Int)).toNat = 1 + m5 := by omega
  rw [en]
  refine for_it walk_range (fun i σ' H' => ∃ (x : V) (l : List (Str × List Rw)) (R' : Int) (o4 o5 o6 : Option V), σ' = [some (.ref s), some (.ref ln), some (.ref r), some x, o4, o5, o6] ∧ Kp [s, r] H3 H' ∧ Sta s H' ∧ Rm r R' H' ∧ Dp K H' x (.tuple (l.map Pg.toldR)) ∧ l.length = i ∧ RtsOk l ∧ cntL l + R' ≤ 49)
    ⟨.ref p4, [], 10 + m2, none, none, none, rfl, k35, hs5, (hR3.sm e4).one k5 g3.rs, .tup (SqT.of (k5.tup _ _ hp4)) .nil, rfl, ⟨fun x h => (by cases h), fun x h => (by cases h), fun x h => (by cases h)⟩, by show (0 : Int) + _ ≤ 49; omega⟩ (fun _ _ _ _ _ => trivial) ?_ ?_
  · rintro j y σ' H6 H7 hj ⟨x, l, R', o4, o5, o6, rfl, k6, hs6, hR6, hD6, hl6, ok6, hc6⟩ ⟨rfl, rfl⟩
    walk_at "rd"
    refine rd_new (by simp) fun p8 H8 np8 e8 hp8 => ?_
    walk_at "rd"
    refine rd_for_r ?_
    walk_at "rd"
    refine rd_mix (hs6.sm e8) fun r9 H9 _ k9 hs9 => ?_
    walk_at "rd"
    refine rd_mod (by decide) fun m9 hm9 => ?_
    walk_at "rd"
    refine ⟨1 + m9, rfl, by omega, by omega, ?_⟩
    have k79 : Kp [s, r] H7 H9 := (sm_kp e8).trans (kp_left k9)
    refine for_it walk_range (fun i σ' H' => ∃ (y : V) (rs : List Rw) (R2 : Int) (o4 o6 : Option V), σ' = [some (.ref s), some (.ref ln), some (.ref r), some x, o4, some y, o6] ∧ o4 = some (.int (0 + (j : Nat))) ∧ Kp [s, r] H7 H' ∧ Sta s H' ∧ Rm r R2 H' ∧ Dp K H' y (.tuple (toldRs rs)) ∧ wfRs rs ∧ dpRs rs ≤ 6 ∧ cntL l + (cntRs rs + R2) ≤ 49)
      ⟨.ref p8, [], R', _, o6, rfl, rfl, k79, hs9, (hR6.sm e8).one k9 g3.rs, .tup (SqT.of (k9.tup _ _ hp8)) .nil, trivial, Nat.zero_le _, by show _ + ((0 : Int) + _) ≤ 49; omega⟩ (fun _ _ _ _ _ => trivial) ?_ ?_
    · rintro i y1 σ1 H10 H11 hi ⟨y, rs, R2, o4', o6', rfl, ho4, k10, hs10, hR10, hD10, hw10, hd10, hc10⟩ ⟨rfl, rfl⟩
      have g10 := g3.two (k6.trans k10) hs10
      have z0 := hR10.2
      walk_at "rd"
      refine ⟨s, r, ln, ns, 1, R2, rfl, g10, hR10, by omega, by omega, by omega, by omega, fun y2 rs2 H12 R3 k12 hs12 hR12 hD12 hw12 hd12 hc12 => ?_⟩
      have z1 := hR12.2
      refine rd_rowsApp (dp_kp k12 _ _ (noL_rows rs) hD10) (by omega) hD12 (by omega) fun y3 H13 e13 hD13 => ?_
      walk_at "rd"
      refine ⟨y3, rs ++ rs2, R3, _, _, rfl, ho4, (k10.trans k12).sm e13, hs12.sm e13, hR12.sm e13, hD13, wfRs_app.mpr ⟨hw10, hw12⟩, ?_, ?_⟩
      · rw [dpRs_app]
        omega
      · rw [cntRs_app]
        omega
    · rintro σ1 H10 ⟨y, rs, R2, o4', o6', rfl, ho4, k10, hs10, hR10, hD10, hw10, hd10, hc10⟩
      have g10 := g3.two (k6.trans k10) hs10
      have z0 := hR10.2
      subst ho4
      have hD10x : Dp K H10 x (.tuple (l.map Pg.toldR)) := dp_kp k10 _ _ (noL_rts l) hD6
      obtain ⟨nx, hnx, okx⟩ := g10.at (m := 7 + j) (by omega)
      walk_at "rd"
      refine rd_ix_l (SqL.of g10.nm) (i := 7 + (0 + (j : Int))) (by rw [show (7 : Int) + (0 + (j : Int)) = ((7 + j : Nat) : Int) from by omega]; exact hnx) ?_
      walk_at "rd"
      refine rd_new (by simp) fun p11 H11 np11 e11 hp11 => ?_
      walk_at "rd"
      refine rd_new (by simp) fun p12 H12 np12 e12 hp12 => ?_
      have ee := e11.trans e12
      refine rd_rtsOne (dp_sm ee _ _ hD10x) (by omega) hp12 (e12 _ _ hp11) (dp_sm ee _ _ hD10) fun x13 H13 e13 hD13 => ?_
      walk_at "rd"
      have ee3 := ee.trans e13
      refine ⟨x13, _, R2, _, _, _, rfl, (k6.trans k10).sm ee3, hs10.sm ee3, hR10.sm ee3, hD13, by rw [List.length_append, hl6] <;> rfl, ok6.one okx hw10 hd10, ?_⟩
      rw [cntL_one]
      omega
  · rintro σ' H6 ⟨x, l, R', o4, o5, o6, rfl, k6, hs6, hR6, hD6, hl6, ok6, hc6⟩
    have g6 := g3.two k6 hs6
    have z0 := hR6.2
    walk_at "rd"
    refine rd_sl_l (SqL.of g6.nm) fun pa Ha npa ea hpa => ?_
    rw [show cutV (ns.map V.str) none (some 5) = (ns.take 5).map V.str from by rw [show (some (5 : Int)) = some ((5 : Nat) : Int) from rfl, cutV_to, List.map_take]] at hpa
    walk_at "rd"
    refine rd_tupOf (SqL.of hpa) fun pb Hb npb eb hpb => ?_
    walk_at "rd"
    have eab := ea.trans eb
    refine rd_sl_l (SqL.of (eab _ _ g6.nm)) fun pc Hc npc ec hpc => ?_
    rw [show cutV (ns.map V.str) (some 5) (some 7) = ((ns.drop 5).take 2).map V.str from by rw [show (some (5 : Int)) = some ((5 : Nat) : Int) from rfl, show (some (7 : Int)) = some ((7 : Nat) : Int) from rfl, cutV_both, List.map_take, List.map_drop]] at hpc
    walk_at "rd"
    refine rd_tupOf (SqL.of hpc) fun pd Hd npd ed hpd => ?_
    walk_at "rd"
    refine rd_new (by simp) fun pe He npe ee hpe => ?_
    have ecd := ec.trans ed
    have ebe := ecd.trans ee
    have eall := eab.trans ebe
    have l5 : (ns.take 5).length = 5 := by rw [List.length_take, hlen]; rfl
    have l2 : ((ns.drop 5).take 2).length = 2 := by rw [List.length_take, List.length_drop, hlen]; rfl
    refine q _ ⟨ns.take 5, (ns.drop 5).take 2, l⟩ He (kp_drop (k02.sm e3) nr0 (k6.sm eall)) (hs6.sm eall) (.tup (SqT.of hpe) (.cons (ONs.dp ⟨pb, rfl, SqT.of (ebe _ _ hpb)⟩) (.cons (ONs.dp ⟨pd, rfl, SqT.of (ee _ _ hpd)⟩) (.cons (dp_sm eall _ _ hD6) .nil)))) ?_
    exact { b1 := by rw [l5]; omega, b2 := by rw [l5]; omega, s2 := by rw [l2]; omega, r1 := by rw [hl6]; omega, r2 := by rw [hl6]; omega, bn := fun x hx => hok x (List.mem_of_mem_take hx), sn := fun x hx => hok x (List.mem_of_mem_drop (List.mem_of_mem_take hx)), rn := ok6.n, rw := ok6.w, rd := ok6.d, rc := (show cntL l ≤ 80 by omega) }
end

end

section
section
variable {P : Program} {w : World} {K : PySem.W.Frag} {mg : Str → Option Value} {base : Heap} {A : CA}
/-! ### the law's world -/
structure WD where
  bs : List Str
  ss : List Str
  rts : List Str
  hs : List Str
  xs : List Str
structure WD.ok (W : WD) : Prop where
  b1 : 1 ≤ W.bs.length
  b2 : W.bs.length ≤ 4
  s2 : W.ss.length ≤ 2
  r1 : 1 ≤ W.rts.length
  r2 : W.rts.length ≤ 3
  h5 : W.hs.length = 5
  x3 : W.xs.length = 3
def wkv (l1 l2 l3 l4 l5 : Addr) (R : Int) : List (Key × V) := [(.inr "boxes", .ref l1), (.inr "stacks", .ref l2), (.inr "routines", .ref l3), (.inr "held", .ref l4), (.inr "strange", .ref l5), (.inr "room", .int R)]
structure WL (s wd : Addr) (W : WD) (l1 l2 l3 l4 l5 : Addr) (H : Hp) : Prop where
  n1 : Nms H l1 s W.bs
  n2 : Nms H l2 s W.ss
  n3 : Nms H l3 s W.rts
  n4 : Nms H l4 s W.hs
  n5 : Nms H l5 s W.xs
  w1 : l1 ≠ wd
  w2 : l2 ≠ wd
  w3 : l3 ≠ wd
  w4 : l4 ≠ wd
  w5 : l5 ≠ wd
/-- the world as it stands, R rows to go -/
def Wd (s wd : Addr) (W : WD) (R : Int) (H : Hp) : Prop := wd ≠ s ∧ W.ok ∧ 0 ≤ R ∧ ∃ l1 l2 l3 l4 l5, H wd = some (.dK (wkv l1 l2 l3 l4 l5 R)) ∧ WL s wd W l1 l2 l3 l4 l5 H
theorem Nms.two {s wd l : Addr} {xs : List Str} {H H' : Hp} (h : Nms H l s xs) (n : l ≠ wd) (k : Kp [s, wd] H H') : Nms H' l s xs := ⟨k.all _ _ h.1 (by simp [h.2.1, n]), h.2⟩
theorem WL.two {s wd : Addr} {W : WD} {l1 l2 l3 l4 l5 : Addr} {H H' : Hp} (h : WL s wd W l1 l2 l3 l4 l5 H) (k : Kp [s, wd] H H') : WL s wd W l1 l2 l3 l4 l5 H' := { h with n1 := h.n1.two h.w1 k, n2 := h.n2.two h.w2 k, n3 := h.n3.two h.w3 k, n4 := h.n4.two h.w4 k, n5 := h.n5.two h.w5 k }
theorem Wd.one {s wd : Addr} {W : WD} {R : Int} {H H' : Hp} (h : Wd s wd W R H) (k : Kp [s] H H') : Wd s wd W R H' := by
  obtain ⟨h1, h2, h3, l1, l2, l3, l4, l5, h4, h5⟩ := h
  exact ⟨h1, h2, h3, l1, l2, l3, l4, l5, k.all _ _ h4 (by simpa using h1), h5.two (kp_left k)⟩
theorem Wd.sm {s wd : Addr} {W : WD} {R : Int} {H H' : Hp} (h : Wd s wd W R H) (e : Same H H') : Wd s wd W R H' := h.one (sm_kp e)
theorem rd_disp {trs : List (TE × TE)} {σ : L2.St} {H : Hp} {Q : VK} (q : ∀ p, H p = none → tPairs trs σ (upd H p (.dK [])) fun ps H2 => H2 p = some (.dK []) ∧ ∃ kvs : List (Key × V), ps = kvs.map (fun kv => (kV kv.1, kv.2)) ∧ kvs.length ≤ 15 ∧ Q (.ref p) (upd H2 p (.dK (mergeK [] kvs)))) : tDisp trs σ H Q := q
theorem rd_pnil {σ : L2.St} {H : Hp} {R : List (V × V) → Hp → Prop} (q : R [] H) : tPairs [] σ H R := q
theorem rd_pcons {tk tv : TE} {r : List (TE × TE)} {σ : L2.St} {H : Hp} {R : List (V × V) → Hp → Prop} (q : tk σ H fun x H1 => tv σ H1 fun y H2 => tPairs r σ H2 fun ps H3 => R ((x, y) :: ps) H3) : tPairs ((tk, tv) :: r) σ H R := q
theorem rd_bmD {r : V → List V → Hp → VK → Prop} {i : Nat} {t : TA} {σ : L2.St} {H : Hp} {Q : VK} {a : Addr} {kvs : List (Key × V)} (hv : σ[i]? = some (some (.ref a))) (h : H a = some (.dK kvs)) (q : t σ H fun vs H2 => r (.ref a) vs H2 Q) : tBM K "dict" r (tVar i) t σ H Q := ⟨.ref a, hv, .inr (.inr (.inl ⟨rfl, .inl ⟨kvs, h⟩⟩)), q⟩
theorem merge1 (a b c : V) : mergeK [] [((.inr "boxes" : Key), a), (.inr "stacks", b), (.inr "routines", c)] = [(.inr "boxes", a), (.inr "stacks", b), (.inr "routines", c)] := by rfl
theorem merge2 (a b c : V) : mergeK [] [((.inr "held" : Key), a), (.inr "strange", b), (.inr "room", c)] = [(.inr "held", a), (.inr "strange", b), (.inr "room", c)] := by rfl
theorem merge3 (l1 l2 l3 l4 l5 : Addr) (R : Int) : mergeK [((.inr "boxes" : Key), V.ref l1), (.inr "stacks", .ref l2), (.inr "routines", .ref l3)] [((.inr "held" : Key), V.ref l4), (.inr "strange", .ref l5), (.inr "room", .int R)] = wkv l1 l2 l3 l4 l5 R := by rfl
theorem kp_putN {M : List Addr} {H H1 : Hp} {p : Addr} {o : HO} (k : Kp M H H1) (n : H p = none) : Kp M H (upd H1 p o) where
  all := fun b v h nb => by
    rw [upd_ne (ne_of_none h n)]
    exact k.all b v h nb
  tup := fun b xs h => by
    rw [upd_ne (ne_of_none h n)]
    exact k.tup b xs h
  frz := fun b v u h => by
    rw [upd_ne (ne_of_none h n)]
    exact k.frz b v u h
def spWorld : Sp := fun vs H Q _ => ∃ s : Addr, vs = [.ref s] ∧ Sta s H ∧ ∀ (wd : Addr) (W : WD) (R : Int) (H' : Hp), H wd = none → Kp [s] H H' → Sta s H' → Wd s wd W R H' → R ≤ 35 → Q (.ref wd) H'
theorem ok_world (T : Txt K mg A) : Cal P w K mg base CX0 "_law_world" 3 ["_law_state"] spWorld := by
  have c_L_mix := ok_L_mix (P := P) (w := w) (base := base) T
  have c_L_names := ok_L_names (P := P) (w := w) (base := base) T
  refine T.d_L_world.ok sc_L_world (fun vs H Q E h => ?_) (fun f cdv Ar outer s H vs Q E hr h => ?_)
  · obtain ⟨s, rfl, _⟩ := h
    rfl
  obtain ⟨s, rfl, hs, q⟩ := h
  refine ⟨_, (pss_cons (ps_set (i := 1) sc_L_world.nd rfl (by first | exact Or.inl rfl | exact Or.inr rfl) (pe_cal c_L_names hr (by omega) pass0 (pa_cons (pv 0) (pa_cons pe_int pa_nil))))
    (pss_cons (ps_set (i := 2) sc_L_world.nd rfl (by first | exact Or.inl rfl | exact Or.inr rfl) (pe_lst (pa_cons (pe_op (k_plus K) pe_int (pe_op op_mod (pe_cal c_L_mix hr (by omega) pass0 (pa_cons (pv 0) (pa_cons pe_int pa_nil))) pe_int)) (pa_cons (pe_op op_mod (pe_cal c_L_mix hr (by omega) pass0 (pa_cons (pv 0) (pa_cons pe_int pa_nil))) pe_int) pa_nil))))
    (pss_cons (ps_set (i := 2) sc_L_world.nd rfl (by first | exact Or.inl rfl | exact Or.inr rfl) (pe_op (k_plus K) (pv 2) (pe_lst (pa_cons (pe_op (k_plus K) pe_int (pe_op op_mod (pe_cal c_L_mix hr (by omega) pass0 (pa_cons (pv 0) (pa_cons pe_int pa_nil))) pe_int)) pa_nil))))
    (pss_cons (ps_set (i := 3) sc_L_world.nd rfl (by first | exact Or.inl rfl | exact Or.inr rfl) (pe_disp (pps_cons pe_str (pe_slice (k_sl K) (pv 1) po_none (po_some (pe_ix (k_ix K) (pv 2) pe_int (fun _ _ => rfl)))) (pps_cons pe_str (pe_slice (k_sl K) (pv 1) (po_some pe_int) (po_some (pe_op (k_plus K) pe_int (pe_ix (k_ix K) (pv 2) pe_int (fun _ _ => rfl))))) (pps_cons pe_str (pe_slice (k_sl K) (pv 1) (po_some pe_int) (po_some (pe_op (k_plus K) pe_int (pe_ix (k_ix K) (pv 2) pe_int (fun _ _ => rfl))))) pps_nil))) (by rfl) (by rfl) (fun z => by cases z) (by decide)))
    (pss_cons (ps_expr (pe_bm PySem.F.plainAttrs_dict PySem.F.slot_dict_update PySem.F.type_dict_update mt_update (pv 3) (pa_cons (pe_disp (pps_cons pe_str (pe_slice (k_sl K) (pv 1) (po_some pe_int) (po_some pe_int)) (pps_cons pe_str (pe_slice (k_sl K) (pv 1) (po_some pe_int) po_none) (pps_cons pe_str (pe_op (k_plus K) pe_int (pe_op op_mod (pe_cal c_L_mix hr (by omega) pass0 (pa_cons (pv 0) (pa_cons pe_int pa_nil))) pe_int)) pps_nil))) (by rfl) (by rfl) (fun z => by cases z) (by decide)) pa_nil)))
    (pss_one (ps_ret (pv 3)))))))), ?_⟩
  walk_at "rd"
  refine ⟨s, _, rfl, hs, by omega, by omega, fun ln ns H1 nl ls k1 hs1 hln hlen hok => ?_⟩
  walk_at "rd"
  refine rd_mix hs1 fun r2 H2 _ k2 hs2 => ?_
  walk_at "rd"
  refine rd_mod (by decide) fun ma hma => ?_
  walk_at "rd"
  refine rd_mix hs2 fun r3 H3 _ k3 hs3 => ?_
  walk_at "rd"
  refine rd_mod (by decide) fun mb hmb => ?_
  walk_at "rd"
  refine rd_new (by simp) fun p4 H4 np4 e4 hp4 => ?_
  walk_at "rd"
  refine rd_mix (hs3.sm e4) fun r5 H5 _ k5 hs5 => ?_
  walk_at "rd"
  refine rd_mod (by decide) fun mc hmc => ?_
  have np4s := hs3.ne np4
  have hp5 := k5.all _ _ hp4 (by simpa using np4s)
  walk_at "rd"
  refine rd_new (by simp) fun p6 H6 np6 e6 hp6 => ?_
  refine rd_plus_l (e6 _ _ hp5) hp6 (by simp) fun p7 H7 np7 e7 hp7 => ?_
  walk_at "rd"
  have k05 : Kp [s] H H5 := (((k1.trans k2).trans k3).sm e4).trans k5
  have k25 : Kp [s] H1 H5 := ((k2.trans k3).sm e4).trans k5
  have e57 := e6.trans e7
  have hln7 : H7 ln = some (.lst (ns.map V.str)) := e57 _ _ (k25.all _ _ hln (by simpa using ls))
  have k07 : Kp [s] H H7 := k05.sm e57
  have hs7 := hs5.sm e57
  refine rd_disp fun wd nwd => ?_
  have ew : Same H7 (upd H7 wd (.dK [])) := sm_new nwd
  have nwds := hs7.ne nwd
  refine rd_pcons ?_
  walk_at "rd"
  refine rd_ix_l (SqL.of (ew _ _ hp7)) (i := 0) (v := .int (1 + ma)) rfl ?_
  walk_at "rd"
  refine rd_sl_l (SqL.of (ew _ _ hln7)) fun l1 Ha na ea ha => ?_
  rw [show (1 : Int) + (ma : Int) = ((1 + ma : Nat) : Int) from by omega, cutV_to, ← List.map_take] at ha
  have e1 := ew.trans ea
  refine rd_pcons ?_
  walk_at "rd"
  refine rd_ix_l (SqL.of (e1 _ _ hp7)) (i := 1) (v := .int mb) rfl ?_
  walk_at "rd"
  refine rd_sl_l (SqL.of (e1 _ _ hln7)) fun l2 Hb nb eb hb => ?_
  rw [show (4 : Int) + (mb : Int) = ((4 + mb : Nat) : Int) from by omega, show (some (4 : Int)) = some ((4 : Nat) : Int) from rfl, cutV_both, ← List.map_drop, ← List.map_take] at hb
  have e2 := e1.trans eb
  refine rd_pcons ?_
  walk_at "rd"
  refine rd_ix_l (SqL.of (e2 _ _ hp7)) (i := 2) (v := .int (1 + mc)) rfl ?_
  walk_at "rd"
  refine rd_sl_l (SqL.of (e2 _ _ hln7)) fun l3 Hc nc ec hc => ?_
  rw [show (6 : Int) + (1 + (mc : Int)) = ((6 + (1 + mc) : Nat) : Int) from by omega, show (some (6 : Int)) = some ((6 : Nat) : Int) from rfl, cutV_both, ← List.map_drop, ← List.map_take] at hc
  have e3 := e2.trans ec
  refine rd_pnil ?_
  have eac := (ea.trans eb).trans ec
  have hwc := eac _ _ upd_same
  refine ⟨hwc, [(.inr "boxes", .ref l1), (.inr "stacks", .ref l2), (.inr "routines", .ref l3)], rfl, by simp, ?_⟩
  rw [merge1]
  have nw : ∀ {H' : Hp} {l : Addr}, H' l = none → Same (upd H7 wd (.dK [])) H' → l ≠ wd := fun {H' l} n e z => by
    rw [z, e _ _ upd_same] at n
    cases n
  have w1 := nw na (Same.refl _)
  have w2 := nw nb ea
  have w3 := nw nc (ea.trans eb)
  have nwd0 : H wd = none := by
    cases z : H wd with
    | none => rfl
    | some o =>
      rw [k07.all _ _ z (by simpa using nwds)] at nwd
      cases nwd
  have hsc := hs7.sm e3
  have k0c : Kp [s] H Hc := k07.sm e3
  have hlnc := e3 _ _ hln7
  have lnw : ln ≠ wd := fun z => by
    rw [z, nwd] at hln7
    cases hln7
  have ha' := (eb.trans ec) _ _ ha
  have hb' := ec _ _ hb
  have s1 := (hs7.sm ew).ne na
  have s2 := (hs7.sm e1).ne nb
  have s3 := (hs7.sm e2).ne nc
  obtain ⟨H8, hH8⟩ : ∃ H8, H8 = upd Hc wd (.dK [((.inr "boxes" : Key), .ref l1), (.inr "stacks", .ref l2), (.inr "routines", .ref l3)]) := ⟨_, rfl⟩
  rw [← hH8]
  have hw8 : H8 wd = some (.dK [((.inr "boxes" : Key), .ref l1), (.inr "stacks", .ref l2), (.inr "routines", .ref l3)]) := by rw [hH8]; exact upd_same
  have o8 : ∀ l, l ≠ wd → H8 l = Hc l := fun l n => by rw [hH8]; exact upd_ne n
  have hs8 : Sta s H8 := by
    obtain ⟨a, b, z, z2⟩ := hsc
    exact ⟨a, b, by rw [o8 s (Ne.symm nwds)]; exact z, z2⟩
  have k08 : Kp [s] H H8 := by rw [hH8]; exact kp_putN k0c nwd0
  have hln8 : H8 ln = some (.lst (ns.map V.str)) := by rw [o8 ln lnw]; exact hlnc
  walk_at "rd"
  refine rd_bmD rfl hw8 ?_
  walk_at "rd"
  refine rd_disp fun d2 nd2 => ?_
  have ex : Same H8 (upd H8 d2 (.dK [])) := sm_new nd2
  have nd2s := hs8.ne nd2
  have nd2w : d2 ≠ wd := fun z => by
    rw [z, hw8] at nd2
    cases nd2
  refine rd_pcons ?_
  walk_at "rd"
  refine rd_sl_l (SqL.of (ex _ _ hln8)) fun l4 Hd nd ed hd => ?_
  rw [show (some (9 : Int)) = some ((9 : Nat) : Int) from rfl, show (some (14 : Int)) = some ((14 : Nat) : Int) from rfl, cutV_both, ← List.map_drop, ← List.map_take] at hd
  have f1 := ex.trans ed
  refine rd_pcons ?_
  walk_at "rd"
  refine rd_sl_l (SqL.of (f1 _ _ hln8)) fun l5 He ne ee he => ?_
  rw [show (some (14 : Int)) = some ((14 : Nat) : Int) from rfl, cutV_from, ← List.map_drop] at he
  have f2 := f1.trans ee
  refine rd_pcons ?_
  walk_at "rd"
  refine rd_mix (hs8.sm f2) fun r9 Hf _ kf hsf => ?_
  walk_at "rd"
  refine rd_mod (by decide) fun mr hmr => ?_
  walk_at "rd"
  refine rd_pnil ?_
  have hd2f : Hf d2 = some (.dK []) := kf.all _ _ ((ed.trans ee) _ _ upd_same) (by simpa using nd2s)
  refine ⟨hd2f, [(.inr "held", .ref l4), (.inr "strange", .ref l5), (.inr "room", .int (12 + mr))], rfl, by simp, ?_⟩
  rw [merge2]
  have k8f : Kp [s] H8 Hf := (sm_kp f2).trans kf
  have hwf : Hf wd = some (.dK [((.inr "boxes" : Key), .ref l1), (.inr "stacks", .ref l2), (.inr "routines", .ref l3)]) := k8f.all _ _ hw8 (by simpa using nwds)
  refine ⟨wd, d2, _, _, rfl, rfl, Ne.symm nd2w, by rw [upd_ne (Ne.symm nd2w)]; exact hwf, upd_same, by simp, ?_⟩
  rw [merge3]
  have n2 : ∀ {H' : Hp} {l : Addr}, H' l = none → Same (upd H8 d2 (.dK [])) H' → l ≠ d2 ∧ l ≠ wd ∧ l ≠ s := by
    intro H' l n e
    refine ⟨fun z => ?_, fun z => ?_, ((hs8.sm ex).sm e).ne n⟩
    · rw [z, e _ _ upd_same] at n
      cases n
    · rw [z, e _ _ (ex _ _ hw8)] at n
      cases n
  obtain ⟨x41, x42, x43⟩ := n2 nd (Same.refl _)
  obtain ⟨x51, x52, x53⟩ := n2 ne ed
  have nd20 : H d2 = none := by
    cases z : H d2 with
    | none => rfl
    | some o =>
      rw [k08.all _ _ z (by simpa using nd2s)] at nd2
      cases nd2
  have fre : ∀ {l : Addr} {xs : List V}, H8 l = some (.lst xs) → l ≠ d2 := fun {l xs} z z2 => by
    rw [z2, nd2] at z
    cases z
  have g1 : H8 l1 = some (.lst ((ns.take (1 + ma)).map V.str)) := by rw [o8 l1 w1]; exact ha'
  have g2 : H8 l2 = some (.lst (((ns.drop 4).take (4 + mb - 4)).map V.str)) := by rw [o8 l2 w2]; exact hb'
  have g3 : H8 l3 = some (.lst (((ns.drop 6).take (6 + (1 + mc) - 6)).map V.str)) := by rw [o8 l3 w3]; exact hc
  have up : ∀ {l : Addr} {o : HO}, Hf l = some o → l ≠ d2 → l ≠ wd → (upd (upd Hf d2 (.dK [((.inr "held" : Key), .ref l4), (.inr "strange", .ref l5), (.inr "room", .int (12 + mr))])) wd (.dK (wkv l1 l2 l3 l4 l5 (12 + mr)))) l = some o := fun {l o} z a b => by
    rw [upd_ne b, upd_ne a]
    exact z
  have hl17 : ns.length = 17 := hlen
  walk_at "rd"
  refine q wd ⟨ns.take (1 + ma), (ns.drop 4).take (4 + mb - 4), (ns.drop 6).take (6 + (1 + mc) - 6), (ns.drop 9).take (14 - 9), ns.drop 14⟩ (12 + mr) _ nwd0 (kp_putN (kp_putN (k08.trans k8f) nd20) nwd0) ?_ ⟨nwds, ?_, by omega, l1, l2, l3, l4, l5, upd_same, ?_⟩ (by omega)
  · obtain ⟨a, b, z, z2⟩ := hsf
    exact ⟨a, b, up z (Ne.symm nd2s) (Ne.symm nwds), z2⟩
  · exact { b1 := by rw [List.length_take, hl17]; omega, b2 := by rw [List.length_take, hl17]; omega, s2 := by rw [List.length_take, List.length_drop, hl17]; omega, r1 := by rw [List.length_take, List.length_drop, hl17]; omega, r2 := by rw [List.length_take, List.length_drop, hl17]; omega, h5 := by rw [List.length_take, List.length_drop, hl17]; rfl, x3 := by rw [List.length_drop, hl17] }
  · have at8 : ∀ {l : Addr} {xs : List V}, H8 l = some (.lst xs) → l ≠ s → l ≠ wd → (upd (upd Hf d2 (.dK [((.inr "held" : Key), .ref l4), (.inr "strange", .ref l5), (.inr "room", .int (12 + mr))])) wd (.dK (wkv l1 l2 l3 l4 l5 (12 + mr)))) l = some (.lst xs) := fun {l xs} z a b => up (k8f.all _ _ z (by simpa using a)) (fre z) b
    exact { n1 := ⟨at8 g1 s1 w1, s1, (fun x hx => hok x (List.mem_of_mem_take hx))⟩, n2 := ⟨at8 g2 s2 w2, s2, fun x hx => hok x (List.mem_of_mem_drop (List.mem_of_mem_take hx))⟩, n3 := ⟨at8 g3 s3 w3, s3, fun x hx => hok x (List.mem_of_mem_drop (List.mem_of_mem_take hx))⟩, n4 := ⟨up (kf.all _ _ (ee _ _ hd) (by simpa using x43)) x41 x42, x43, fun x hx => hok x (List.mem_of_mem_drop (List.mem_of_mem_take hx))⟩, n5 := ⟨up (kf.all _ _ he (by simpa using x53)) x51 x52, x53, fun x hx => hok x (List.mem_of_mem_drop hx)⟩, w1 := w1, w2 := w2, w3 := w3, w4 := x42, w5 := x52 }
end

end

section
section
variable {J : It} {n : Nat} {g : TG} {tt : TT} {te : TE} {vs : List Nat} {σ : L2.St} {H1 : Hp} {D : Addr} {Qd : Hp → Prop}
/-- a comprehension with a test: all that is kept is p -/
theorem lc_flt {G : Hp → Prop} {xs : List V} (w : Walk J xs.length G (YAt xs)) (p : V → Prop) (nD : H1 D = none) (hn : xs.length ≤ 900) (hG : ∀ H, Same H1 H → G H)
    (hs : ∀ (i : Nat) x H (F : V → Hp → Prop) (Z : Hp → Prop), xs[i]? = some x → Same H1 H → (∀ y H4, Same H H4 → p y → F y H4) → (∀ H4, Same H H4 → Z H4) → g x (wipe σ vs) H fun σ2 H2 => wipe σ2 vs = wipe σ vs ∧ tt σ2 H2 fun b H3 => if b = true then te σ2 H3 F else Z H3)
    (hd : ∀ ys H, Same H1 H → H D = some (.lst ys) → ys.length ≤ xs.length → (∀ y ∈ ys, p y) → Qd H) :
    ∃ W : Nat → Nat → Hp → Prop, (∃ m, W 0 m (upd H1 D (.lst []))) ∧ ∀ i m H, W i m H →
      (J.stop i H ∧ Qd H) ∨ (J.go i H ∧ ∃ Nx : Hp → Prop, (∀ H', Nx H' → ∃ m', m' < m ∧ W (i + 1) m' H') ∧ ∀ x H', J.yld i H x H' → g x (wipe σ vs) H' fun σ2 H2 => wipe σ2 vs = wipe σ vs ∧ tt σ2 H2 fun b H3 =>
        if b = true then te σ2 H3 fun y H4 => ∃ acc, H4 D = some (.lst acc) ∧ acc.length < sizeLine ∧ Nx (upd H4 D (.lst (acc ++ [y]))) else Nx H3) := by
  refine lc_it w (fun i H => ∃ ys, Same H1 H ∧ H D = some (.lst ys) ∧ ys.length ≤ i ∧ ∀ y ∈ ys, p y) ⟨[], sm_new nD, upd_same, Nat.le_refl _, fun y hy => by cases hy⟩ (fun i H _ ⟨_, e, _⟩ => hG H e) ?_ ?_
  · rintro i x H H' hi ⟨ys, e, hD, hl, hr⟩ ⟨rfl, hx⟩
    refine hs i x H' _ _ hx e (fun y H4 e4 py => ⟨ys, e4 _ _ hD, size_ok (by omega), ys ++ [y], sm_put (e.trans e4) nD, upd_same, by rw [List.length_append]; simp; omega, fun z hz => ?_⟩) fun H4 e4 => ⟨ys, e.trans e4, e4 _ _ hD, by omega, hr⟩
    rcases List.mem_append.mp hz with h | h
    · exact hr z h
    · rw [List.mem_singleton.mp h]
      exact py
  · rintro H ⟨ys, e, hD, hl, hr⟩
    exact hd ys H e hD hl hr
end
section
variable {P : Program} {w : World} {K : PySem.W.Frag} {mg : Str → Option Value} {base : Heap} {A : CA}
theorem dget_bx {H : Hp} {wd l1 l2 l3 l4 l5 : Addr} {R : Int} (h : H wd = some (.dK (wkv l1 l2 l3 l4 l5 R))) : DGet H wd (.str "boxes") (some (.ref l1)) := .inl ⟨_, .inr "boxes", .inl h, rfl, rfl⟩
theorem dget_st {H : Hp} {wd l1 l2 l3 l4 l5 : Addr} {R : Int} (h : H wd = some (.dK (wkv l1 l2 l3 l4 l5 R))) : DGet H wd (.str "stacks") (some (.ref l2)) := .inl ⟨_, .inr "stacks", .inl h, rfl, rfl⟩
theorem dget_rt {H : Hp} {wd l1 l2 l3 l4 l5 : Addr} {R : Int} (h : H wd = some (.dK (wkv l1 l2 l3 l4 l5 R))) : DGet H wd (.str "routines") (some (.ref l3)) := .inl ⟨_, .inr "routines", .inl h, rfl, rfl⟩
theorem dget_hd {H : Hp} {wd l1 l2 l3 l4 l5 : Addr} {R : Int} (h : H wd = some (.dK (wkv l1 l2 l3 l4 l5 R))) : DGet H wd (.str "held") (some (.ref l4)) := .inl ⟨_, .inr "held", .inl h, rfl, rfl⟩
theorem dget_sg {H : Hp} {wd l1 l2 l3 l4 l5 : Addr} {R : Int} (h : H wd = some (.dK (wkv l1 l2 l3 l4 l5 R))) : DGet H wd (.str "strange") (some (.ref l5)) := .inl ⟨_, .inr "strange", .inl h, rfl, rfl⟩
theorem dget_rm {H : Hp} {wd l1 l2 l3 l4 l5 : Addr} {R : Int} (h : H wd = some (.dK (wkv l1 l2 l3 l4 l5 R))) : DGet H wd (.str "room") (some (.int R)) := .inl ⟨_, .inr "room", .inl h, rfl, rfl⟩
theorem dput_rm {H : Hp} {wd l1 l2 l3 l4 l5 : Addr} {R R' : Int} (h : H wd = some (.dK (wkv l1 l2 l3 l4 l5 R))) : DPut H wd (.str "room") (.int R') (upd H wd (.dK (wkv l1 l2 l3 l4 l5 R'))) := .inl ⟨_, .inr "room", h, rfl, size_ok (by decide : 6 + 1 ≤ 1000), rfl⟩
structure Gw (s wd lt : Addr) (W : WD) (th : List Str) (R : Int) (H : Hp) : Prop where
  st : Sta s H
  wo : Wd s wd W R H
  no : Nms H lt s th
  tw : lt ≠ wd
  t1 : 1 ≤ th.length
  r4 : R ≤ 40
theorem Gw.one {s wd lt : Addr} {W : WD} {th : List Str} {R : Int} {H H' : Hp} (g : Gw s wd lt W th R H) (k : Kp [s] H H') (hs : Sta s H') : Gw s wd lt W th R H' := { g with st := hs, wo := g.wo.one k, no := g.no.kp k }
theorem Gw.sm {s wd lt : Addr} {W : WD} {th : List Str} {R : Int} {H H' : Hp} (g : Gw s wd lt W th R H) (e : Same H H') : Gw s wd lt W th R H' := g.one (sm_kp e) (g.st.sm e)
theorem Gw.two {s wd lt : Addr} {W : WD} {th : List Str} {R R' : Int} {H H' : Hp} (g : Gw s wd lt W th R H) (k : Kp [s, wd] H H') (hs : Sta s H') (hw : Wd s wd W R' H') (hr : R' ≤ 40) : Gw s wd lt W th R' H' := { g with st := hs, wo := hw, no := g.no.two g.tw k, r4 := hr }
def spGRow (K : PySem.W.Frag) (n : Nat) : Sp := fun vs H Q _ => ∃ (s wd lt : Addr) (W : WD) (th : List Str) (d R : Int), vs = [.ref s, .ref wd, .ref lt, .int d] ∧ Gw s wd lt W th R H ∧ d + n = 7 ∧ 1 ≤ n ∧ n ≤ 6 ∧ th.length + n ≤ 12 ∧
  ∀ (x : V) (rw : Rw) (H' : Hp) (R' : Int), Kp [s, wd] H H' → Sta s H' → Wd s wd W R' H' → Dp K H' x rw.told → rw.wf → rw.dp ≤ n → rw.cnt + R' ≤ R + 1 → Q x H'
def spGBlock (K : PySem.W.Frag) (n : Nat) : Sp := fun vs H Q _ => ∃ (s wd lt : Addr) (W : WD) (th : List Str) (d y R : Int), vs = [.ref s, .ref wd, .ref lt, .int d, .int y] ∧ Gw s wd lt W th R H ∧ d + n = 7 ∧ 2 ≤ n ∧ n ≤ 6 ∧ th.length + n ≤ 12 ∧ 0 ≤ y ∧
  ∀ (x : V) (rw : Rw) (H' : Hp) (R' : Int), Kp [s, wd] H H' → Sta s H' → Wd s wd W R' H' → Dp K H' x rw.told → rw.wf → rw.dp ≤ n → rw.cnt + R' ≤ R + 1 → Q x H'
def spGRows (K : PySem.W.Frag) (n : Nat) : Sp := fun vs H Q _ => ∃ (s wd lt : Addr) (W : WD) (th : List Str) (d R : Int), vs = [.ref s, .ref wd, .ref lt, .int d] ∧ Gw s wd lt W th R H ∧ d + n = 7 ∧ 1 ≤ n ∧ n ≤ 6 ∧ th.length + n ≤ 12 ∧
  ∀ (x : V) (rs : List Rw) (H' : Hp) (R' : Int), Kp [s, wd] H H' → Sta s H' → Wd s wd W R' H' → Dp K H' x (.tuple (toldRs rs)) → wfRs rs → dpRs rs ≤ n → cntRs rs + R' ≤ R → Q x H'
theorem ok_good_rows1 {n k : Nat} (hk : 1 ≤ k) (T : Txt K mg A) (c_L_good_row : Cal P w K mg base CX0 "_law_good_row" k ["_law_state", "_law_world_here", "_law_there", "_law_deep"] (spGRow K n)) : Cal P w K mg base CX0 "_law_good_rows" (k + 1) ["_law_state", "_law_world_here", "_law_there", "_law_deep"] (spGRows K n) := by
  have c_L_mix := ok_L_mix (P := P) (w := w) (base := base) T
  refine T.d_L_good_rows.ok sc_L_good_rows (fun vs H Q E h => ?_) (fun f cdv Ar outer s H vs Q E hr h => ?_)
  · obtain ⟨s, wd, lt, W, th, d, R, rfl, _⟩ := h
    rfl
  obtain ⟨s, wd, lt, W, th, d, R, rfl, g, hd, hn1, hn6, ht, q⟩ := h
  refine ⟨_, (pss_cons (ps_set (i := 4) sc_L_good_rows.nd rfl (by first | exact Or.inl rfl | exact Or.inr rfl) (pe_tup pa_nil))
    (pss_cons (ps_for PassesOwn.never rfl (pi_range1 (by rfl) T.b_range (pa_cons (pe_op op_mod (pe_cal c_L_mix hr (by omega) pass0 (pa_cons (pv 0) (pa_cons pe_int pa_nil))) pe_int) pa_nil)) (pg_name (i := 5) sc_L_good_rows.nd rfl (by first | exact Or.inl rfl | exact Or.inr rfl)) (pss_one (ps_if (pt_cmpR op_gt (pe_dget (hu_of hr) (pv 1) pe_str (fun _ _ => rfl)) pe_int (nomark _)) (pss_cons (ps_dput (hu_of hr) (pv 1) pe_str (pe_op op_sub (pe_dget (hu_of hr) (pv 1) pe_str (fun _ _ => rfl)) pe_int) rfl)
    (pss_one (ps_set (i := 4) sc_L_good_rows.nd rfl (by first | exact Or.inl rfl | exact Or.inr rfl) (pe_op (k_plus K) (pv 4) (pe_tup (pa_cons (pe_cal c_L_good_row hr (by omega) pass0 (pa_cons (pv 0) (pa_cons (pv 1) (pa_cons (pv 2) (pa_cons (pv 3) pa_nil))))) pa_nil)))))) pss_nil)))
    (pss_one (ps_ret (pv 4))))), ?_⟩
  walk_at "rd"
  refine rd_new (by simp) fun p1 H1 np1 e1 hp1 => ?_
  walk_at "rd"
  refine rd_for_r ?_
  walk_at "rd"
  refine rd_mix (g.st.sm e1) fun r1 H2 _ k2 hs2 => ?_
  walk_at "rd"
  refine rd_mod (by decide) fun m hm => ?_
  walk_at "rd"
  refine ⟨m, rfl, by omega, by omega, ?_⟩
  have g2 := (g.sm e1).one k2 hs2
  have k02 : Kp [s, wd] H H2 := (sm_kp e1).trans (kp_left k2)
  refine for_it walk_range (fun i σ' H' => ∃ (x : V) (rs : List Rw) (R' : Int) (o : Option V), σ' = [some (.ref s), some (.ref wd), some (.ref lt), some (.int d), some x, o] ∧ Kp [s, wd] H H' ∧ Sta s H' ∧ Wd s wd W R' H' ∧ Dp K H' x (.tuple (toldRs rs)) ∧ wfRs rs ∧ dpRs rs ≤ n ∧ cntRs rs + R' ≤ R)
    ⟨.ref p1, [], R, none, rfl, k02, hs2, g2.wo, .tup (SqT.of (k2.tup _ _ hp1)) .nil, trivial, Nat.zero_le _, by simp [cntRs]⟩ (fun _ _ _ _ _ => trivial) ?_ ?_
  · rintro j y σ' H3 H4 hj ⟨x, rs, R', o, rfl, k3, hs3, hW3, hD3, hw3, hd3, hc3⟩ ⟨rfl, rfl⟩
    have r4 := g.r4
    have g3 : Gw s wd lt W th R' H4 := g.two k3 hs3 hW3 (by omega)
    obtain ⟨hws, hWo, hR0, l1, l2, l3, l4, l5, hwd, hWL⟩ := hW3
    walk_at "rd"
    refine rd_dget ?_
    walk_at "rd"
    refine ⟨wd, _, rfl, dget_rm hwd, ?_⟩
    walk_at "rd"
    refine rd_both (fun hc => ?_) (fun hc => ?_)
    · have hc : 0 < R' := of_decide_eq_true hc
      walk_at "rd"
      refine rd_dput ?_
      walk_at "rd"
      refine rd_dget ?_
      walk_at "rd"
      refine ⟨wd, _, rfl, dget_rm hwd, ?_⟩
      walk_at "rd"
      refine ⟨wd, _, rfl, dput_rm hwd, ?_⟩
      obtain ⟨H5, hH5⟩ : ∃ H5, H5 = upd H4 wd (.dK (wkv l1 l2 l3 l4 l5 (R' - 1))) := ⟨_, rfl⟩
      rw [← hH5]
      have k4 : Kp [s, wd] H4 H5 := by
        rw [hH5]
        exact Kp.put hwd (by simp) (fun _ z => by cases z) (fun _ _ z => by cases z)
      have hs5 : Sta s H5 := by
        obtain ⟨a, b, z, z2⟩ := hs3
        exact ⟨a, b, by rw [hH5, upd_ne (Ne.symm hws)]; exact z, z2⟩
      have hW5 : Wd s wd W (R' - 1) H5 := ⟨hws, hWo, by omega, l1, l2, l3, l4, l5, by rw [hH5]; exact upd_same, hWL.two k4⟩
      walk_at "rd"
      refine ⟨s, wd, lt, W, th, d, R' - 1, rfl, g3.two k4 hs5 hW5 (by omega), hd, hn1, hn6, ht, fun y1 rw H6 R6 k6 hs6 hW6 hD6 hw6 hd6 hc6 => ?_⟩
      have hcp := rw.cnt_pos
      have hR6 := hW6.2.2.1
      walk_at "rd"
      refine rd_new (by simp) fun p7 H7 np7 e7 hp7 => ?_
      have hD7 : Dp K H7 x (.tuple (toldRs rs)) := dp_sm e7 _ _ (dp_kp (k4.trans k6) _ _ (noL_rows rs) hD3)
      refine rd_rows hD7 (by omega) (dp_sm e7 _ _ hD6) hp7 fun y8 H8 e8 hD8 => ?_
      walk_at "rd"
      have k68 := (k6.sm e7).sm e8
      refine ⟨y8, rs ++ [rw], R6, _, rfl, (k3.trans k4).trans k68, (hs6.sm e7).sm e8, (hW6.sm e7).sm e8, hD8, wfRs_one hw3 hw6, dpRs_one hd3 hd6, ?_⟩
      rw [cntRs_one]
      omega
    · walk_at "rd"
      exact ⟨x, rs, R', _, rfl, k3, hs3, g3.wo, hD3, hw3, hd3, hc3⟩
  · rintro σ' H3 ⟨x, rs, R', o, rfl, k3, hs3, hW3, hD3, hw3, hd3, hc3⟩
    walk_at "rd"
    exact q x rs H3 R' k3 hs3 hW3 hD3 hw3 hd3 hc3
theorem ok_good_block1 {n k : Nat} (hk : 6 ≤ k) (T : Txt K mg A) (c_L_good_rows : Cal P w K mg base CX0 "_law_good_rows" k ["_law_state", "_law_world_here", "_law_there", "_law_deep"] (spGRows K n)) : Cal P w K mg base CX0 "_law_good_block" (k + 1) ["_law_state", "_law_world_here", "_law_there", "_law_deep", "_law_way"] (spGBlock K (n + 1)) := by
  have c_L_mix := ok_L_mix (P := P) (w := w) (base := base) T
  have c_L_saying := ok_L_saying (P := P) (w := w) (base := base) T 3
  refine T.d_L_good_block.ok sc_L_good_block (fun vs H Q E h => ?_) (fun f cdv Ar outer s H vs Q E hr h => ?_)
  · obtain ⟨s, wd, lt, W, th, d, y, R, rfl, _⟩ := h
    rfl
  obtain ⟨s, wd, lt, W, th, d, y, R, rfl, g, hd, hn1, hn6, ht, hy, q⟩ := h
  have h83 : pw2 3 = 8 := rfl
  refine ⟨_, (pss_cons (ps_set (i := 5) sc_L_good_block.nd rfl (by first | exact Or.inl rfl | exact Or.inr rfl) (pe_cal c_L_saying hr (by omega) pass0 (pa_cons (pv 0) (pa_cons (pv 2) (pa_cons (pe_dget (hu_of hr) (pv 1) pe_str (fun _ _ => rfl)) (pa_cons (pe_op op_mod (pe_cal c_L_mix hr (by omega) pass0 (pa_cons (pv 0) (pa_cons pe_int pa_nil))) pe_int) pa_nil))))))
    (pss_cons (ps_set (i := 6) sc_L_good_block.nd rfl (by first | exact Or.inl rfl | exact Or.inr rfl) (pe_cal c_L_saying hr (by omega) pass0 (pa_cons (pv 0) (pa_cons (pv 2) (pa_cons (pe_dget (hu_of hr) (pv 1) pe_str (fun _ _ => rfl)) (pa_cons (pe_op op_mod (pe_cal c_L_mix hr (by omega) pass0 (pa_cons (pv 0) (pa_cons pe_int pa_nil))) pe_int) pa_nil))))))
    (pss_cons (ps_if (pt_cmpR op_lt (pv 4) pe_int (nomark _)) (pss_cons (ps_set (i := 7) sc_L_good_block.nd rfl (by first | exact Or.inl rfl | exact Or.inr rfl) (pe_ix (k_ix K) (pe_dget (hu_of hr) (pv 1) pe_str (fun _ _ => rfl)) (pe_op op_sub (pv 3) pe_int) (fun _ _ => rfl)))
    (pss_one (ps_ret (pe_tup (pa_cons pe_str (pa_cons (pv 7) (pa_cons (pv 5) (pa_cons (pe_cal c_L_good_rows hr (by omega) pass0 (pa_cons (pv 0) (pa_cons (pv 1) (pa_cons (pe_op (k_plus K) (pv 2) (pe_lst (pa_cons (pv 7) pa_nil))) (pa_cons (pe_op (k_plus K) (pv 3) pe_int) pa_nil))))) (pa_cons (pv 6) pa_nil))))))))) pss_nil)
    (pss_cons (ps_set (i := 8) sc_L_good_block.nd rfl (by first | exact Or.inl rfl | exact Or.inr rfl) (pe_cal c_L_good_rows hr (by omega) pass0 (pa_cons (pv 0) (pa_cons (pv 1) (pa_cons (pv 2) (pa_cons (pe_op (k_plus K) (pv 3) pe_int) pa_nil))))))
    (pss_one (ps_ret (pe_tup (pa_cons (pe_ix (k_ix K) (pe_lst (pa_cons pe_str (pa_cons pe_str pa_nil))) (pe_op op_mod (pv 4) pe_int) (fun _ _ => rfl)) (pa_cons (pv 5) (pa_cons (pv 8) (pa_cons (pe_cal c_L_good_rows hr (by omega) pass0 (pa_cons (pv 0) (pa_cons (pv 1) (pa_cons (pv 2) (pa_cons (pe_op (k_plus K) (pv 3) pe_int) pa_nil))))) (pa_cons (pv 6) pa_nil)))))))))))), ?_⟩
  obtain ⟨hws, hWo, hR0, l1, l2, l3, l4, l5, hwd, hWL⟩ := id g.wo
  walk_at "rd"
  refine rd_dget ?_
  walk_at "rd"
  refine ⟨wd, _, rfl, dget_st hwd, ?_⟩
  walk_at "rd"
  refine rd_mix g.st fun r1 H1 _ k1 hs1 => ?_
  walk_at "rd"
  refine rd_mod (by decide) fun m1 hm1 => ?_
  walk_at "rd"
  have g1 := g.one k1 hs1
  have hWL1 := hWL.two (kp_left k1)
  refine ⟨s, lt, l2, th, W.ss, m1, rfl, hs1, g1.no, hWL1.n2, by omega, by omega, fun y1 t1 H2 k2 hs2 hD2 w2 d2 z2 => ?_⟩
  have g2 := g1.one k2 hs2
  have hwd2 := k2.all _ _ (k1.all _ _ hwd (by simpa using hws)) (by simpa using hws)
  have hWL2 := hWL1.two (kp_left k2)
  walk_at "rd"
  refine rd_dget ?_
  walk_at "rd"
  refine ⟨wd, _, rfl, dget_st hwd2, ?_⟩
  walk_at "rd"
  refine rd_mix hs2 fun r3 H3 _ k3 hs3 => ?_
  walk_at "rd"
  refine rd_mod (by decide) fun m3 hm3 => ?_
  walk_at "rd"
  have g3 := g2.one k3 hs3
  have hWL3 := hWL2.two (kp_left k3)
  refine ⟨s, lt, l2, th, W.ss, m3, rfl, hs3, g3.no, hWL3.n2, by omega, by omega, fun y4 t4 H4 k4 hs4 hD4 w4 d4 z4 => ?_⟩
  have g4 := g3.one k4 hs4
  have k24 := k3.trans k4
  have k04 : Kp [s] H H4 := ((k1.trans k2).trans k3).trans k4
  have hwd4 := k24.all _ _ hwd2 (by simpa using hws)
  have hWL4 := hWL3.two (kp_left k4)
  have hD2' := dp_kp k24 _ _ (noL_told t1) hD2
  have ok1 : t1.ok := ⟨w2, by omega, by omega⟩
  have ok4 : t4.ok := ⟨w4, by omega, by omega⟩
  walk_at "rd"
  refine rd_both (fun h9 => ?_) (fun h9 => ?_)
  · walk_at "rd"
    refine rd_dget ?_
    walk_at "rd"
    refine ⟨wd, _, rfl, dget_hd hwd4, ?_⟩
    walk_at "rd"
    have hv : ∃ x, atI (W.hs.map V.str) (d - 1) = some (.str x) ∧ nameOk x = true := by
      obtain ⟨m, hm⟩ : ∃ m : Nat, d - 1 = (m : Int) := ⟨(d - 1).toNat, by omega⟩
      have z : m < W.hs.length := by rw [hWo.h5]; omega
      rw [hm]
      exact ⟨W.hs[m], atI_nat (j := m) (by rw [List.getElem?_map, List.getElem?_eq_getElem z] <;> rfl), hWL4.n4.2.2 _ (List.getElem_mem z)⟩
    obtain ⟨hx, hx1, hx2⟩ := hv
    refine rd_ix_l (SqL.of hWL4.n4.1) hx1 ?_
    walk_at "rd"
    refine rd_new (by simp) fun p5 H5 np5 e5 hp5 => ?_
    refine rd_plus_l (e5 _ _ g4.no.1) hp5 (by rw [List.length_map]; simp; omega) fun p6 H6 np6 e6 hp6 => ?_
    have e56 := e5.trans e6
    have g6 := g4.sm e56
    have np6w : p6 ≠ wd := fun z => by
      rw [z, e5 _ _ hwd4] at np6
      cases np6
    have g6' : Gw s wd p6 W (th ++ [hx]) R H6 := { st := g6.st, wo := g6.wo, no := ⟨by rw [hp6, List.map_append] <;> rfl, (hs4.sm e5).ne np6, fun x hx' => (List.mem_append.mp hx').elim (g4.no.2.2 x) fun z => by rw [List.mem_singleton.mp z]; exact hx2⟩, tw := np6w, t1 := by rw [List.length_append]; simp, r4 := g.r4 }
    walk_at "rd"
    refine ⟨s, wd, p6, W, _, _, R, rfl, g6', by omega, by omega, by omega, by rw [List.length_append]; simp; omega, fun y7 rs7 H7 R7 k7 hs7 hW7 hD7 w7 d7 z7 => ?_⟩
    walk_at "rd"
    refine rd_new (by simp) fun p8 H8 np8 e8 hp8 => ?_
    have k48 : Kp [s, wd] H4 H7 := (sm_kp e56).trans k7
    have a1 := dp_sm e8 _ _ (dp_kp k48 _ _ (noL_told t1) hD2')
    have a4 := dp_sm e8 _ _ (dp_kp k48 _ _ (noL_told t4) hD4)
    exact q _ (.held hx t1 rs7 t4) H8 R7 (((kp_left k04).trans k48).sm e8) (hs7.sm e8) (hW7.sm e8) (.tup (SqT.of hp8) (.cons (.str _) (.cons (.str _) (.cons a1 (.cons (dp_sm e8 _ _ hD7) (.cons a4 .nil)))))) ⟨hx2, ok1, w7, ok4⟩ (by show 1 + dpRs rs7 ≤ n + 1; omega) (by show (((1 + cntRs rs7 : Nat)) : Int) + R7 ≤ R + 1; omega)
  · walk_at "rd"
    refine ⟨s, wd, lt, W, th, _, R, rfl, g4, by omega, by omega, by omega, by omega, fun y7 rs7 H7 R7 k7 hs7 hW7 hD7 w7 d7 z7 => ?_⟩
    have r4 := g.r4
    have g7 := g4.two k7 hs7 hW7 (by omega)
    walk_at "rd"
    refine rd_new (by simp) fun p8 H8 np8 e8 hp8 => ?_
    have hv : ∃ k : BK, atI [V.str "choice", V.str "loop"] (y % 2) = some (.str k.nm) := by
      have z : y % 2 = 0 ∨ y % 2 = 1 := by omega
      rcases z with z | z
      · rw [z]
        exact ⟨.cho, rfl⟩
      · rw [z]
        exact ⟨.loop, rfl⟩
    obtain ⟨kk, hkk⟩ := hv
    walk_at "rd"
    refine rd_I (by decide) ?_
    refine rd_ix_l (SqL.of hp8) hkk ?_
    walk_at "rd"
    refine ⟨s, wd, lt, W, th, _, R7, rfl, g7.sm e8, by omega, by omega, by omega, by omega, fun y9 rs9 H9 R9 k9 hs9 hW9 hD9 w9 d9 z9 => ?_⟩
    walk_at "rd"
    refine rd_new (by simp) fun p10 H10 np10 e10 hp10 => ?_
    have k79 : Kp [s, wd] H7 H9 := (sm_kp e8).trans k9
    have k49 := k7.trans k79
    have a1 := dp_sm e10 _ _ (dp_kp k49 _ _ (noL_told t1) hD2')
    have a4 := dp_sm e10 _ _ (dp_kp k49 _ _ (noL_told t4) hD4)
    have a7 := dp_sm e10 _ _ (dp_kp k79 _ _ (noL_rows rs7) hD7)
    exact q _ (.blk kk t1 rs7 rs9 t4) H10 R9 (((kp_left k04).trans k49).sm e10) (hs9.sm e10) (hW9.sm e10) (.tup (SqT.of hp10) (.cons (.str _) (.cons a1 (.cons a7 (.cons (dp_sm e10 _ _ hD9) (.cons a4 .nil)))))) ⟨ok1, w7, w9, ok4⟩ (by show 1 + max (dpRs rs7) (dpRs rs9) ≤ n + 1; omega) (by show (((1 + (cntRs rs7 + cntRs rs9) : Nat)) : Int) + R9 ≤ R + 1; omega)
end

end

section
section
variable {P : Program} {w : World} {K : PySem.W.Frag} {mg : Str → Option Value} {base : Heap} {A : CA}
theorem ok_good_row1 {n k : Nat} (hk : 6 ≤ k) (T : Txt K mg A) (c_L_good_block : Cal P w K mg base CX0 "_law_good_block" k ["_law_state", "_law_world_here", "_law_there", "_law_deep", "_law_way"] (spGBlock K n)) : Cal P w K mg base CX0 "_law_good_row" (k + 1) ["_law_state", "_law_world_here", "_law_there", "_law_deep"] (spGRow K n) := by
  have c_L_mix := ok_L_mix (P := P) (w := w) (base := base) T
  have c_L_saying := ok_L_saying (P := P) (w := w) (base := base) T 3
  refine T.d_L_good_row.ok sc_L_good_row (fun vs H Q E h => ?_) (fun f cdv Ar outer s H vs Q E hr h => ?_)
  · obtain ⟨s, wd, lt, W, th, d, R, rfl, _⟩ := h
    rfl
  obtain ⟨s, wd, lt, W, th, d, R, rfl, g, hd, hn1, hn6, ht, q⟩ := h
  have h83 : pw2 3 = 8 := rfl
  refine ⟨_, (pss_cons (ps_set (i := 4) sc_L_good_row.nd rfl (by first | exact Or.inl rfl | exact Or.inr rfl) (pe_ix (k_ix K) (pv 2) (pe_op op_mod (pe_cal c_L_mix hr (by omega) pass0 (pa_cons (pv 0) (pa_cons pe_int pa_nil))) (pe_callB (k_len K) (by rfl) T.b_len bt_len (pa_cons (pv 2) pa_nil))) (fun _ _ => rfl)))
    (pss_cons (ps_setLc (i := 5) (own := [("_law_name", 9)]) rfl sc_L_good_row.nd rfl rfl (sw_true rfl rfl rfl (by decide +kernel)) (k_any K (pv 2)) (blkOk_by (N := N_L_good_row) (sc := defScope s_L_good_row) (by decide +kernel)) (fun _ _ _ _ _ => (pg_name (i := 9) sc_L_good_row.nd rfl (by first | exact Or.inl rfl | exact Or.inr rfl))) (fun _ _ _ _ _ => (pts_one (pt_cmpR (k_neq K hr.units) (pv 9) (pv 4) (nomark _)))) (fun _ _ _ _ _ => (pv 9)))
    (pss_cons (ps_set (i := 6) sc_L_good_row.nd rfl (by first | exact Or.inl rfl | exact Or.inr rfl) (pe_op op_mod (pe_cal c_L_mix hr (by omega) pass0 (pa_cons (pv 0) (pa_cons pe_int pa_nil))) pe_int))
    (pss_cons (ps_if (PW.pt (pw_and (pt_cmpR (k_eql K hr.units) (pv 6) pe_int (nomark _)) (pw_and1 (pt_cmpR (k_neq K hr.units) (pv 5) (pe_lst pa_nil) (nomark _))))) (pss_one (ps_ret (pe_tup (pa_cons pe_str (pa_cons (pv 4) (pa_cons (pe_ix (k_ix K) (pv 5) (pe_op op_mod (pe_cal c_L_mix hr (by omega) pass0 (pa_cons (pv 0) (pa_cons pe_int pa_nil))) (pe_callB (k_len K) (by rfl) T.b_len bt_len (pa_cons (pv 5) pa_nil))) (fun _ _ => rfl)) pa_nil)))))) pss_nil)
    (pss_cons (ps_if (pt_cmpR (k_eql K hr.units) (pv 6) pe_int (nomark _)) (pss_one (ps_ret (pe_tup (pa_cons pe_str (pa_cons (pv 4) (pa_cons (pe_op op_mod (pe_cal c_L_mix hr (by omega) pass0 (pa_cons (pv 0) (pa_cons pe_int pa_nil))) pe_int) pa_nil)))))) pss_nil)
    (pss_cons (ps_if (PW.pt (pw_and (pt_cmpR (k_eql K hr.units) (pv 6) pe_int (nomark _)) (pw_and1 (pt_cmpR (k_neq K hr.units) (pe_dget (hu_of hr) (pv 1) pe_str (fun _ _ => rfl)) (pe_lst pa_nil) (nomark _))))) (pss_one (ps_ret (pe_tup (pa_cons (pe_ix (k_ix K) (pe_lst (pa_cons pe_str (pa_cons pe_str pa_nil))) (pe_op op_mod (pe_cal c_L_mix hr (by omega) pass0 (pa_cons (pv 0) (pa_cons pe_int pa_nil))) pe_int) (fun _ _ => rfl)) (pa_cons (pv 4) (pa_cons (pe_ix (k_ix K) (pe_dget (hu_of hr) (pv 1) pe_str (fun _ _ => rfl)) pe_int (fun _ _ => rfl)) pa_nil)))))) pss_nil)
    (pss_cons (ps_if (pt_cmpR (k_eql K hr.units) (pv 6) pe_int (nomark _)) (pss_cons (ps_set (i := 7) sc_L_good_row.nd rfl (by first | exact Or.inl rfl | exact Or.inr rfl) (pe_dget (hu_of hr) (pv 1) pe_str (fun _ _ => rfl)))
    (pss_one (ps_ret (pe_tup (pa_cons (pe_ix (k_ix K) (pe_lst (pa_cons pe_str (pa_cons pe_str pa_nil))) (pe_op op_mod (pe_cal c_L_mix hr (by omega) pass0 (pa_cons (pv 0) (pa_cons pe_int pa_nil))) pe_int) (fun _ _ => rfl)) (pa_cons (pe_ix (k_ix K) (pv 7) (pe_op op_mod (pe_cal c_L_mix hr (by omega) pass0 (pa_cons (pv 0) (pa_cons pe_int pa_nil))) (pe_callB (k_len K) (by rfl) T.b_len bt_len (pa_cons (pv 7) pa_nil))) (fun _ _ => rfl)) pa_nil)))))) pss_nil)
    (pss_cons (ps_if (PW.pt (pw_and (pt_cmpR op_gt (pv 6) pe_int (nomark _)) (pw_and1 (pt_cmpR op_lt (pv 3) pe_int (nomark _))))) (pss_one (ps_ret (pe_cal c_L_good_block hr (by omega) pass0 (pa_cons (pv 0) (pa_cons (pv 1) (pa_cons (pv 2) (pa_cons (pv 3) (pa_cons (pv 6) pa_nil)))))))) pss_nil)
    (pss_cons (ps_set (i := 8) sc_L_good_row.nd rfl (by first | exact Or.inl rfl | exact Or.inr rfl) (pe_cal c_L_saying hr (by omega) pass0 (pa_cons (pv 0) (pa_cons (pv 5) (pa_cons (pe_dget (hu_of hr) (pv 1) pe_str (fun _ _ => rfl)) (pa_cons (pe_op op_mod (pe_cal c_L_mix hr (by omega) pass0 (pa_cons (pv 0) (pa_cons pe_int pa_nil))) pe_int) pa_nil))))))
    (pss_one (ps_ret (pe_tup (pa_cons (pe_ix (k_ix K) (pe_lst (pa_cons pe_str (pa_cons pe_str (pa_cons pe_str pa_nil)))) (pe_op op_mod (pv 6) pe_int) (fun _ _ => rfl)) (pa_cons (pv 4) (pa_cons (pv 8) pa_nil))))))))))))))), ?_⟩
  walk_at "rd"
  refine rd_mix g.st fun r1 H1 _ k1 hs1 => ?_
  walk_at "rd"
  have g1 := g.one k1 hs1
  refine rd_len_l (SqL.of g1.no.1) ?_
  refine rd_pick g1.no (fun z => by have := g.t1; rw [z] at this; simp at this) fun bx hbx => ?_
  have okb := g.no.2.2 bx hbx
  walk_at "rd"
  refine rd_lc_l ?_
  walk_at "rd"
  refine ⟨_, rfl, ⟨_, SqL.of g1.no.1⟩, fun lo nlo => ?_⟩
  refine lc_flt walk_list (fun y => ∃ x : Str, y = .str x ∧ nameOk x = true) nlo (by rw [List.length_map]; omega) (fun H' e => SqL.of (e _ _ g1.no.1)) ?_ ?_
  · intro i x H2 F Z hx e2 hF hZ
    rw [List.getElem?_map] at hx
    obtain ⟨x', hx1, rfl⟩ := Option.map_eq_some_iff.mp hx
    walk_at "rd"
    refine ⟨rfl, ?_⟩
    walk_at "rd"
    refine rd_both (fun hc => ?_) (fun hc => ?_)
    · walk_at "rd"
      exact hF _ _ (Same.refl _) ⟨x', rfl, g.no.2.2 x' (List.mem_of_getElem? hx1)⟩
    · exact hZ _ (Same.refl _)
  intro ys H2 e2 hlo hlen hys
  obtain ⟨os, rfl, hos⟩ := strs_rep hys
  have g2 := g1.sm e2
  have ho2 : Nms H2 lo s os := ⟨hlo, g1.st.ne nlo, hos⟩
  walk_at "rd"
  refine rd_mix g2.st fun r3 H3 _ k3 hs3 => ?_
  walk_at "rd"
  refine rd_mod (by decide) fun m5 hm5 => ?_
  have g3 := g2.one k3 hs3
  have ho3 := ho2.kp k3
  have k03 : Kp [s] H H3 := (k1.sm e2).trans k3
  obtain ⟨hws, hWo, hR0, l1, l2, l3, l4, l5, hwd, hWL⟩ := id g3.wo
  have fin : ∀ {H' : Hp} {x : V} (row : Rw), Kp [s] H H' → Sta s H' → Dp K H' x row.told → row.wf → row.dp = 1 → row.cnt = 1 → Q x H' := fun {H' x} row kk hs' hD' hw' hd' hc' => q x row H' R (kp_left kk) hs' (g.wo.one kk) hD' hw' (by omega) (by omega)
  walk_at "rd"
  by_cases h3 : m5 = 3
  · subst h3
    walk_at "rd"
    refine rd_new (by simp) fun p6 H6 np6 e6 hp6 => ?_
    refine rd_ne_nil (ho3.sm e6).1 hos hp6 ?_
    walk_at "rd"
    cases hoe : os.isEmpty with
    | false =>
      have hon : os ≠ [] := fun z => by rw [z] at hoe; cases hoe
      walk_at "rd"
      refine rd_mix (hs3.sm e6) fun r7 H7 _ k7 hs7 => ?_
      walk_at "rd"
      have ho7 := (ho3.sm e6).kp k7
      refine rd_len_l (SqL.of ho7.1) ?_
      refine rd_pick ho7 hon fun x hx => ?_
      walk_at "rd"
      refine rd_new (by simp) fun p8 H8 np8 e8 hp8 => ?_
      exact fin (.swap bx x) (((k03.sm e6).trans k7).sm e8) (hs7.sm e8) (.tup (SqT.of hp8) (.cons (.str _) (.cons (.str _) (.cons (.str _) .nil)))) ⟨okb, hos x hx⟩ rfl rfl
    | true =>
      have kz := k03.sm e6
      have gz := g3.sm e6
      have hwdz := e6 _ _ hwd
      have hWLz := hWL.two (sm_kp e6)
      have hoz := ho3.sm e6
      walk_at "rd"
      refine rd_dget ?_
      walk_at "rd"
      refine ⟨wd, _, rfl, dget_st hwdz, ?_⟩
      walk_at "rd"
      refine rd_mix gz.st fun r7 H7 _ k7 hs7 => ?_
      walk_at "rd"
      refine rd_mod (by decide) fun m7 hm7 => ?_
      walk_at "rd"
      refine ⟨s, lo, l2, os, W.ss, m7, rfl, hs7, hoz.kp k7, hWLz.n2.kp k7, by omega, by omega, fun y8 t8 H8 k8 hs8 hD8 w8 d8 z8 => ?_⟩
      walk_at "rd"
      refine rd_new (by simp) fun p9 H9 np9 e9 hp9 => ?_
      have hv : ∃ k : CK, atI [V.str "add", V.str "less", V.str "mix"] ((3 : Int) % 3) = some (.str k.nm) := by
        have z : (3 : Int) % 3 = 0 ∨ (3 : Int) % 3 = 1 ∨ (3 : Int) % 3 = 2 := by omega
        rcases z with z | z | z <;> rw [z]
        · exact ⟨.add, rfl⟩
        · exact ⟨.less, rfl⟩
        · exact ⟨.mix, rfl⟩
      obtain ⟨kk, hkk⟩ := hv
      walk_at "rd"
      refine rd_I (by decide) ?_
      refine rd_ix_l (SqL.of hp9) hkk ?_
      walk_at "rd"
      refine rd_new (by simp) fun p10 H10 np10 e10 hp10 => ?_
      have ee := e9.trans e10
      exact fin (.chg kk bx t8) (((kz.trans k7).trans k8).sm ee) (hs8.sm ee) (.tup (SqT.of hp10) (.cons (.str _) (.cons (.str _) (.cons (dp_sm ee _ _ hD8) .nil)))) ⟨okb, w8, by omega, by omega⟩ rfl rfl

  by_cases h4 : m5 = 4
  · subst h4
    walk_at "rd"
    refine rd_mix hs3 fun r7 H7 _ k7 hs7 => ?_
    walk_at "rd"
    refine rd_mod (by decide) fun m7 hm7 => ?_
    walk_at "rd"
    refine rd_new (by simp) fun p8 H8 np8 e8 hp8 => ?_
    exact fin (.turn bx m7) ((k03.trans k7).sm e8) (hs7.sm e8) (.tup (SqT.of hp8) (.cons (.str _) (.cons (.str _) (.cons (.int _) .nil)))) ⟨okb, by omega, by omega⟩ rfl rfl
  by_cases h5 : m5 = 5
  · subst h5
    walk_at "rd"
    refine rd_dget ?_
    walk_at "rd"
    refine ⟨wd, _, rfl, dget_st hwd, ?_⟩
    walk_at "rd"
    refine rd_new (by simp) fun p6 H6 np6 e6 hp6 => ?_
    have hWL6 := hWL.two (sm_kp e6)
    refine rd_ne_nil hWL6.n2.1 hWL6.n2.2.2 hp6 ?_
    walk_at "rd"
    cases hse : W.ss.isEmpty with
    | false =>
      have hsn : W.ss ≠ [] := fun z => by rw [z] at hse; cases hse
      walk_at "rd"
      refine rd_new (by simp) fun p7 H7 np7 e7 hp7 => ?_
      walk_at "rd"
      refine rd_mix ((hs3.sm e6).sm e7) fun r8 H8 _ k8 hs8 => ?_
      walk_at "rd"
      refine rd_mod (by decide) fun m8 hm8 => ?_
      have e67 := e6.trans e7
      have hp8 := k8.all _ _ hp7 (by simpa using ((hs3.sm e6).ne np7))
      have hv : ∃ k : MK, atI [V.str "push", V.str "pop"] (m8 : Int) = some (.str k.nm) := by
        have z : m8 = 0 ∨ m8 = 1 := by omega
        rcases z with z | z
        · subst z
          exact ⟨.push, rfl⟩
        · subst z
          exact ⟨.pop, rfl⟩
      obtain ⟨kk, hkk⟩ := hv
      refine rd_ix_l (SqL.of hp8) hkk ?_
      have k38 : Kp [s] H3 H8 := (sm_kp e67).trans k8
      have hwd8 := k38.all _ _ hwd (by simpa using hws)
      have hWL8 := hWL.two (kp_left k38)
      walk_at "rd"
      refine rd_dget ?_
      walk_at "rd"
      refine ⟨wd, _, rfl, dget_st hwd8, ?_⟩
      walk_at "rd"
      obtain ⟨x0, xr, hss0⟩ : ∃ x0 xr, W.ss = x0 :: xr := by
        cases z : W.ss with
        | nil => exact absurd z hsn
        | cons a b => exact ⟨a, b, rfl⟩
      refine rd_ix_l (SqL.of hWL8.n2.1) (v := .str x0) (by rw [hss0]; exact atI_nat (j := 0) rfl) ?_
      walk_at "rd"
      refine rd_new (by simp) fun p9 H9 np9 e9 hp9 => ?_
      exact fin (.mov kk bx x0) ((k03.trans k38).sm e9) (hs8.sm e9) (.tup (SqT.of hp9) (.cons (.str _) (.cons (.str _) (.cons (.str _) .nil)))) ⟨okb, hWL.n2.2.2 x0 (by rw [hss0]; exact List.mem_cons_self ..)⟩ rfl rfl
    | true =>
      have kz := k03.sm e6
      have gz := g3.sm e6
      have hwdz := e6 _ _ hwd
      have hWLz := hWL6
      have hoz := ho3.sm e6
      walk_at "rd"
      refine rd_dget ?_
      walk_at "rd"
      refine ⟨wd, _, rfl, dget_st hwdz, ?_⟩
      walk_at "rd"
      refine rd_mix gz.st fun r7 H7 _ k7 hs7 => ?_
      walk_at "rd"
      refine rd_mod (by decide) fun m7 hm7 => ?_
      walk_at "rd"
      refine ⟨s, lo, l2, os, W.ss, m7, rfl, hs7, hoz.kp k7, hWLz.n2.kp k7, by omega, by omega, fun y8 t8 H8 k8 hs8 hD8 w8 d8 z8 => ?_⟩
      walk_at "rd"
      refine rd_new (by simp) fun p9 H9 np9 e9 hp9 => ?_
      have hv : ∃ k : CK, atI [V.str "add", V.str "less", V.str "mix"] ((5 : Int) % 3) = some (.str k.nm) := by
        have z : (5 : Int) % 3 = 0 ∨ (5 : Int) % 3 = 1 ∨ (5 : Int) % 3 = 2 := by omega
        rcases z with z | z | z <;> rw [z]
        · exact ⟨.add, rfl⟩
        · exact ⟨.less, rfl⟩
        · exact ⟨.mix, rfl⟩
      obtain ⟨kk, hkk⟩ := hv
      walk_at "rd"
      refine rd_I (by decide) ?_
      refine rd_ix_l (SqL.of hp9) hkk ?_
      walk_at "rd"
      refine rd_new (by simp) fun p10 H10 np10 e10 hp10 => ?_
      have ee := e9.trans e10
      exact fin (.chg kk bx t8) (((kz.trans k7).trans k8).sm ee) (hs8.sm ee) (.tup (SqT.of hp10) (.cons (.str _) (.cons (.str _) (.cons (dp_sm ee _ _ hD8) .nil)))) ⟨okb, w8, by omega, by omega⟩ rfl rfl

  by_cases h6 : m5 = 6
  · subst h6
    walk_at "rd"
    refine rd_dget ?_
    walk_at "rd"
    refine ⟨wd, _, rfl, dget_rt hwd, ?_⟩
    walk_at "rd"
    refine rd_new (by simp) fun p7 H7 np7 e7 hp7 => ?_
    walk_at "rd"
    refine rd_mix (hs3.sm e7) fun r8 H8 _ k8 hs8 => ?_
    walk_at "rd"
    refine rd_mod (by decide) fun m8 hm8 => ?_
    have hp8 := k8.all _ _ hp7 (by simpa using hs3.ne np7)
    have hv : ∃ k : NK, atI [V.str "call", V.str "back"] (m8 : Int) = some (.str k.nm) := by
      have z : m8 = 0 ∨ m8 = 1 := by omega
      rcases z with z | z
      · subst z
        exact ⟨.call, rfl⟩
      · subst z
        exact ⟨.back, rfl⟩
    obtain ⟨kk, hkk⟩ := hv
    refine rd_ix_l (SqL.of hp8) hkk ?_
    walk_at "rd"
    refine rd_mix hs8 fun r9 H9 _ k9 hs9 => ?_
    walk_at "rd"
    have k39 : Kp [s] H3 H9 := ((sm_kp e7).trans k8).trans k9
    have hn3 := hWL.n3.kp k39
    refine rd_len_l (SqL.of hn3.1) ?_
    refine rd_pick hn3 (fun z => by have := hWo.r1; rw [z] at this; simp at this) fun x hx => ?_
    walk_at "rd"
    refine rd_new (by simp) fun p9 H10 np9 e9 hp9 => ?_
    exact fin (.nam kk x) ((k03.trans k39).sm e9) (hs9.sm e9) (.tup (SqT.of hp9) (.cons (.str _) (.cons (.str _) .nil))) (hWL.n3.2.2 x hx) rfl rfl
  have kz := k03
  have gz := g3
  have hwdz := hwd
  have hWLz := hWL
  have hoz := ho3
  have i3 : ¬ (m5 : Int) = 3 := by omega
  have i4 : ¬ (m5 : Int) = 4 := by omega
  have i5 : ¬ (m5 : Int) = 5 := by omega
  have i6 : ¬ (m5 : Int) = 6 := by omega
  walk_at "rd"
  by_cases h7 : (6 : Int) < m5
  · by_cases hdp : d < 6
    · walk_at "rd"
      exact ⟨s, wd, lt, W, th, d, m5, R, rfl, g3, hd, by omega, hn6, ht, by omega, fun x row H' R' kk hs' hW' hD' hw' hd' hc' => q x row H' R' ((kp_left k03).trans kk) hs' hW' hD' hw' hd' hc'⟩
    · walk_at "rd"
      refine rd_dget ?_
      walk_at "rd"
      refine ⟨wd, _, rfl, dget_st hwdz, ?_⟩
      walk_at "rd"
      refine rd_mix gz.st fun r7 H7 _ k7 hs7 => ?_
      walk_at "rd"
      refine rd_mod (by decide) fun m7 hm7 => ?_
      walk_at "rd"
      refine ⟨s, lo, l2, os, W.ss, m7, rfl, hs7, hoz.kp k7, hWLz.n2.kp k7, by omega, by omega, fun y8 t8 H8 k8 hs8 hD8 w8 d8 z8 => ?_⟩
      walk_at "rd"
      refine rd_new (by simp) fun p9 H9 np9 e9 hp9 => ?_
      have hv : ∃ k : CK, atI [V.str "add", V.str "less", V.str "mix"] ((m5 : Int) % 3) = some (.str k.nm) := by
        have z : (m5 : Int) % 3 = 0 ∨ (m5 : Int) % 3 = 1 ∨ (m5 : Int) % 3 = 2 := by omega
        rcases z with z | z | z <;> rw [z]
        · exact ⟨.add, rfl⟩
        · exact ⟨.less, rfl⟩
        · exact ⟨.mix, rfl⟩
      obtain ⟨kk, hkk⟩ := hv
      walk_at "rd"
      refine rd_I (by decide) ?_
      refine rd_ix_l (SqL.of hp9) hkk ?_
      walk_at "rd"
      refine rd_new (by simp) fun p10 H10 np10 e10 hp10 => ?_
      have ee := e9.trans e10
      exact fin (.chg kk bx t8) (((kz.trans k7).trans k8).sm ee) (hs8.sm ee) (.tup (SqT.of hp10) (.cons (.str _) (.cons (.str _) (.cons (dp_sm ee _ _ hD8) .nil)))) ⟨okb, w8, by omega, by omega⟩ rfl rfl

  · walk_at "rd"
    refine rd_dget ?_
    walk_at "rd"
    refine ⟨wd, _, rfl, dget_st hwdz, ?_⟩
    walk_at "rd"
    refine rd_mix gz.st fun r7 H7 _ k7 hs7 => ?_
    walk_at "rd"
    refine rd_mod (by decide) fun m7 hm7 => ?_
    walk_at "rd"
    refine ⟨s, lo, l2, os, W.ss, m7, rfl, hs7, hoz.kp k7, hWLz.n2.kp k7, by omega, by omega, fun y8 t8 H8 k8 hs8 hD8 w8 d8 z8 => ?_⟩
    walk_at "rd"
    refine rd_new (by simp) fun p9 H9 np9 e9 hp9 => ?_
    have hv : ∃ k : CK, atI [V.str "add", V.str "less", V.str "mix"] ((m5 : Int) % 3) = some (.str k.nm) := by
      have z : (m5 : Int) % 3 = 0 ∨ (m5 : Int) % 3 = 1 ∨ (m5 : Int) % 3 = 2 := by omega
      rcases z with z | z | z <;> rw [z]
      · exact ⟨.add, rfl⟩
      · exact ⟨.less, rfl⟩
      · exact ⟨.mix, rfl⟩
    obtain ⟨kk, hkk⟩ := hv
    walk_at "rd"
    refine rd_I (by decide) ?_
    refine rd_ix_l (SqL.of hp9) hkk ?_
    walk_at "rd"
    refine rd_new (by simp) fun p10 H10 np10 e10 hp10 => ?_
    have ee := e9.trans e10
    exact fin (.chg kk bx t8) (((kz.trans k7).trans k8).sm ee) (hs8.sm ee) (.tup (SqT.of hp10) (.cons (.str _) (.cons (.str _) (.cons (dp_sm ee _ _ hD8) .nil)))) ⟨okb, w8, by omega, by omega⟩ rfl rfl

theorem ok_good_rows0 (T : Txt K mg A) : Cal P w K mg base CX0 "_law_good_rows" 6 ["_law_state", "_law_world_here", "_law_there", "_law_deep"] (spGRows K 0) := T.d_L_good_rows.never fun vs H Q E h => by
  obtain ⟨_, _, _, _, _, _, _, _, _, _, hn, _⟩ := h
  omega
theorem ok_good_rows (T : Txt K mg A) : ∀ n : Nat, Cal P w K mg base CX0 "_law_good_rows" (3 * n + 6) ["_law_state", "_law_world_here", "_law_there", "_law_deep"] (spGRows K n)
  | 0 => ok_good_rows0 T
  | n + 1 => ok_good_rows1 (by omega) T (ok_good_row1 (by omega) T (ok_good_block1 (by omega) T (ok_good_rows T n)))
end

end

section
section
variable {P : Program} {w : World} {K : PySem.W.Frag} {mg : Str → Option Value} {base : Heap} {A : CA}
def spGProg (K : PySem.W.Frag) : Sp := fun vs H Q _ => ∃ (s wd : Addr) (W : WD) (R : Int), vs = [.ref s, .ref wd] ∧ Sta s H ∧ Wd s wd W R H ∧ R ≤ 35 ∧
  ∀ (x : V) (p : Pg) (H' : Hp) (R' : Int), Kp [s, wd] H H' → Sta s H' → Wd s wd W R' H' → Dp K H' x p.told → p.wf → cntL p.rt ≤ 35 → R' ≤ 35 → Q x H'
theorem ok_good_program (T : Txt K mg A) : Cal P w K mg base CX0 "_law_good_program" 25 ["_law_state", "_law_world_here"] (spGProg K) := by
  have c_L_mix := ok_L_mix (P := P) (w := w) (base := base) T
  have c_L_good_rows := ok_good_rows (P := P) (w := w) (base := base) T 6
  refine T.d_L_good_program.ok sc_L_good_program (fun vs H Q E h => ?_) (fun f cdv Ar outer s H vs Q E hr h => ?_)
  · obtain ⟨s, wd, W, R, rfl, _⟩ := h
    rfl
  obtain ⟨s, wd, W, R, rfl, hs, hW, hR, q⟩ := h
  refine ⟨_, (pss_cons (ps_set (i := 2) sc_L_good_program.nd rfl (by first | exact Or.inl rfl | exact Or.inr rfl) (pe_tup pa_nil))
    (pss_cons (ps_for PassesOwn.never rfl (k_any K (pe_dget (hu_of hr) (pv 1) pe_str (fun _ _ => rfl))) (pg_name (i := 3) sc_L_good_program.nd rfl (by first | exact Or.inl rfl | exact Or.inr rfl)) (pss_cons (ps_set (i := 4) sc_L_good_program.nd rfl (by first | exact Or.inl rfl | exact Or.inr rfl) (pe_tup pa_nil))
    (pss_cons (ps_for PassesOwn.never rfl (pi_range1 (by rfl) T.b_range (pa_cons (pe_op (k_plus K) pe_int (pe_op op_mod (pe_cal c_L_mix hr (by omega) pass0 (pa_cons (pv 0) (pa_cons pe_int pa_nil))) pe_int)) pa_nil)) (pg_name (i := 5) sc_L_good_program.nd rfl (by first | exact Or.inl rfl | exact Or.inr rfl)) (pss_one (ps_set (i := 4) sc_L_good_program.nd rfl (by first | exact Or.inl rfl | exact Or.inr rfl) (pe_op (k_plus K) (pv 4) (pe_cal c_L_good_rows hr (by omega) pass0 (pa_cons (pv 0) (pa_cons (pv 1) (pa_cons (pe_dget (hu_of hr) (pv 1) pe_str (fun _ _ => rfl)) (pa_cons pe_int pa_nil)))))))))
    (pss_one (ps_set (i := 2) sc_L_good_program.nd rfl (by first | exact Or.inl rfl | exact Or.inr rfl) (pe_op (k_plus K) (pv 2) (pe_tup (pa_cons (pe_tup (pa_cons (pv 3) (pa_cons (pv 4) pa_nil))) pa_nil))))))))
    (pss_one (ps_ret (pe_tup (pa_cons (pe_callTy (k_tup K) (by rfl) T.b_tuple bt_tuple (pa_cons (pe_dget (hu_of hr) (pv 1) pe_str (fun _ _ => rfl)) pa_nil)) (pa_cons (pe_callTy (k_tup K) (by rfl) T.b_tuple bt_tuple (pa_cons (pe_dget (hu_of hr) (pv 1) pe_str (fun _ _ => rfl)) pa_nil)) (pa_cons (pv 2) pa_nil)))))))), ?_⟩
  walk_at "rd"
  refine rd_new (by simp) fun p4 H4 np4 e4 hp4 => ?_
  have hW4 := hW.sm e4
  have hs4 := hs.sm e4
  obtain ⟨hws, hWo, hR0, l1, l2, l3, l4, l5, hwd, hWL⟩ := id hW4
  walk_at "rd"
  refine rd_for_l ?_
  refine rd_dget ?_
  walk_at "rd"
  refine ⟨wd, _, rfl, dget_rt hwd, ?_⟩
  refine ⟨_, rfl, ⟨_, SqL.of hWL.n3.1⟩, ?_⟩
  have ll := hWL
  refine for_it walk_list (fun i σ' H' => ∃ (x : V) (l : List (Str × List Rw)) (R' : Int) (o4 o5 o6 : Option V), σ' = [some (.ref s), some (.ref wd), some x, o4, o5, o6] ∧ Kp [s, wd] H4 H' ∧ Sta s H' ∧ Wd s wd W R' H' ∧ WL s wd W l1 l2 l3 l4 l5 H' ∧ Dp K H' x (.tuple (l.map Pg.toldR)) ∧ l.length = i ∧ RtsOk l ∧ cntL l + R' ≤ 35)
    ⟨.ref p4, [], R, none, none, none, rfl, Kp.refl _, hs4, hW4, hWL, .tup (SqT.of hp4) .nil, rfl, ⟨fun x h => (by cases h), fun x h => (by cases h), fun x h => (by cases h)⟩, by show (0 : Int) + _ ≤ 35; omega⟩ (fun i σ' H' _ ⟨_, _, _, _, _, _, _, _, _, _, h, _⟩ => SqL.of h.n3.1) ?_ ?_
  · rintro j y σ' H6 H7 hj ⟨x, l, R', o4, o5, o6, rfl, k6, hs6, hW6, hWL6, hD6, hl6, ok6, hc6⟩ ⟨rfl, hx⟩
    rw [List.getElem?_map] at hx
    obtain ⟨nx, hnx, rfl⟩ := Option.map_eq_some_iff.mp hx
    have okx := hWL.n3.2.2 nx (List.mem_of_getElem? hnx)
    have hjr : j < W.rts.length := (List.getElem?_eq_some_iff.mp hnx).1
    have hR60 := hW6.2.2.1
    have r2 := hWo.r2
    walk_at "rd"
    refine rd_new (by simp) fun p8 H8 np8 e8 hp8 => ?_
    walk_at "rd"
    refine rd_for_r ?_
    walk_at "rd"
    refine rd_mix (hs6.sm e8) fun r9 H9 _ k9 hs9 => ?_
    walk_at "rd"
    refine rd_mod (by decide) fun m9 hm9 => ?_
    walk_at "rd"
    refine ⟨1 + m9, rfl, by omega, by omega, ?_⟩
    have k79 : Kp [s, wd] H7 H9 := (sm_kp e8).trans (kp_left k9)
    refine for_it walk_range (fun i σ' H' => ∃ (y : V) (rs : List Rw) (R2 : Int) (o6 : Option V), σ' = [some (.ref s), some (.ref wd), some x, some (.str nx), some y, o6] ∧ Kp [s, wd] H7 H' ∧ Sta s H' ∧ Wd s wd W R2 H' ∧ WL s wd W l1 l2 l3 l4 l5 H' ∧ Dp K H' y (.tuple (toldRs rs)) ∧ wfRs rs ∧ dpRs rs ≤ 6 ∧ cntL l + (cntRs rs + R2) ≤ 35)
      ⟨.ref p8, [], R', o6, rfl, k79, hs9, (hW6.sm e8).one k9, hWL6.two k79, .tup (SqT.of (k9.tup _ _ hp8)) .nil, trivial, Nat.zero_le _, by show _ + ((0 : Int) + _) ≤ 35; omega⟩ (fun _ _ _ _ _ => trivial) ?_ ?_
    · rintro i y1 σ1 H10 H11 hi ⟨y, rs, R2, o6', rfl, k10, hs10, hW10, hWL10, hD10, hw10, hd10, hc10⟩ ⟨rfl, rfl⟩
      have z0 := hW10.2.2.1
      have b1 := hWo.b1
      have b2 := hWo.b2
      walk_at "rd"
      refine rd_dget ?_
      walk_at "rd"
      obtain ⟨_, _, _, l1', l2', l3', l4', l5', hwd10, hWL10'⟩ := id hW10
      refine ⟨wd, _, rfl, dget_bx hwd10, ?_⟩
      walk_at "rd"
      refine ⟨s, wd, l1', W, W.bs, 1, R2, rfl, { st := hs10, wo := hW10, no := hWL10'.n1, tw := hWL10'.w1, t1 := b1, r4 := by omega }, by omega, by omega, by omega, by omega, fun y2 rs2 H12 R3 k12 hs12 hW12 hD12 hw12 hd12 hc12 => ?_⟩
      have z1 := hW12.2.2.1
      refine rd_rowsApp (dp_kp k12 _ _ (noL_rows rs) hD10) (by omega) hD12 (by omega) fun y3 H13 e13 hD13 => ?_
      walk_at "rd"
      refine ⟨y3, rs ++ rs2, R3, _, rfl, (k10.trans k12).sm e13, hs12.sm e13, hW12.sm e13, hWL10.two (k12.sm e13), hD13, wfRs_app.mpr ⟨hw10, hw12⟩, ?_, ?_⟩
      · rw [dpRs_app]
        omega
      · rw [cntRs_app]
        omega
    · rintro σ1 H10 ⟨y, rs, R2, o6', rfl, k10, hs10, hW10, hWL10, hD10, hw10, hd10, hc10⟩
      have z0 := hW10.2.2.1
      have hD10x : Dp K H10 x (.tuple (l.map Pg.toldR)) := dp_kp k10 _ _ (noL_rts l) hD6
      walk_at "rd"
      refine rd_new (by simp) fun p11 H11 np11 e11 hp11 => ?_
      walk_at "rd"
      refine rd_new (by simp) fun p12 H12 np12 e12 hp12 => ?_
      have ee := e11.trans e12
      refine rd_rtsOne (dp_sm ee _ _ hD10x) (by omega) hp12 (e12 _ _ hp11) (dp_sm ee _ _ hD10) fun x13 H13 e13 hD13 => ?_
      walk_at "rd"
      have ee3 := ee.trans e13
      refine ⟨x13, _, R2, _, _, _, rfl, (k6.trans k10).sm ee3, hs10.sm ee3, hW10.sm ee3, hWL10.two (sm_kp ee3), hD13, by rw [List.length_append, hl6] <;> rfl, ok6.one okx hw10 hd10, ?_⟩
      rw [cntL_one]
      omega
  · rintro σ' H6 ⟨x, l, R', o4, o5, o6, rfl, k6, hs6, hW6, hWL6, hD6, hl6, ok6, hc6⟩
    have z0 := hW6.2.2.1
    obtain ⟨_, _, _, l1', l2', l3', l4', l5', hwd6, hWL6'⟩ := id hW6
    walk_at "rd"
    refine rd_dget ?_
    walk_at "rd"
    refine ⟨wd, _, rfl, dget_bx hwd6, ?_⟩
    walk_at "rd"
    refine rd_tupOf (SqL.of hWL6'.n1.1) fun pb Hb npb eb hpb => ?_
    walk_at "rd"
    refine rd_dget ?_
    walk_at "rd"
    refine ⟨wd, _, rfl, dget_st (eb _ _ hwd6), ?_⟩
    walk_at "rd"
    refine rd_tupOf (SqL.of (eb _ _ hWL6'.n2.1)) fun pd Hd npd ed hpd => ?_
    walk_at "rd"
    refine rd_new (by simp) fun pe He npe ee hpe => ?_
    have ebe := ed.trans ee
    have eall := eb.trans ebe
    rw [List.length_map] at hl6
    have b1 := hWo.b1
    have b2 := hWo.b2
    have s2 := hWo.s2
    have r1 := hWo.r1
    have r2 := hWo.r2
    refine q _ ⟨W.bs, W.ss, l⟩ He R' (((sm_kp e4).trans k6).sm eall) (hs6.sm eall) (hW6.sm eall) (.tup (SqT.of hpe) (.cons (ONs.dp ⟨pb, rfl, SqT.of (ebe _ _ hpb)⟩) (.cons (ONs.dp ⟨pd, rfl, SqT.of (ee _ _ hpd)⟩) (.cons (dp_sm eall _ _ hD6) .nil)))) ?_ (by show cntL l ≤ 35; omega) (by omega)
    exact { b1 := b1, b2 := (by show W.bs.length ≤ 12; omega), s2 := (by show W.ss.length ≤ 4; omega), r1 := (by show 1 ≤ l.length; omega), r2 := (by show l.length ≤ 8; omega), bn := hWL.n1.2.2, sn := hWL.n2.2.2, rn := ok6.n, rw := ok6.w, rd := ok6.d, rc := (show cntL l ≤ 80 by omega) }
end

end

section
section
variable {P : Program} {w : World} {K : PySem.W.Frag} {mg : Str → Option Value} {base : Heap} {A : CA}
/-- a value that is a bad row's tuple -/
def BadV (K : PySem.W.Frag) (H : Hp) (v : V) : Prop := ∃ row : Rw, Dp K H v row.told ∧ row.wf ∧ row.dp ≤ 2 ∧ row.cnt ≤ 3
def Bads (K : PySem.W.Frag) (s : Addr) (H : Hp) (p : Addr) (k : Nat) : Prop := ∃ vs, H p = some (.lst vs) ∧ p ≠ s ∧ vs.length ≤ k ∧ vs ≠ [] ∧ ∀ v ∈ vs, BadV K H v
theorem BadV.sm {H H' : Hp} {v : V} (h : BadV K H v) (e : Same H H') : BadV K H' v := by
  obtain ⟨row, h1, h2⟩ := h
  exact ⟨row, dp_sm e _ _ h1, h2⟩
theorem BadV.kp {H H' : Hp} {v : V} {M : List Addr} (h : BadV K H v) (k : Kp M H H') : BadV K H' v := by
  obtain ⟨row, h1, h2⟩ := h
  exact ⟨row, dp_kp k _ _ (noL_row row) h1, h2⟩
/-- an expression that gives the data d, at any heap behind H0 -/
def EvD (K : PySem.W.Frag) (H0 : Hp) (σ : L2.St) (te : TE) (d : PyData) : Prop := ∀ (H : Hp) (Q : VK), Same H0 H → (∀ v H', Same H H' → Dp K H' v d → Q v H') → te σ H Q
def EvA (K : PySem.W.Frag) (H0 : Hp) (σ : L2.St) (ta : TA) (ds : List PyData) : Prop := ∀ (H : Hp) (R : List V → Hp → Prop), Same H0 H → (∀ vs H', Same H H' → DpAll K H' vs ds → R vs H') → ta σ H R
def EvB (K : PySem.W.Frag) (H0 : Hp) (σ : L2.St) (ta : TA) (n : Nat) : Prop := ∀ (H : Hp) (R : List V → Hp → Prop), Same H0 H → (∀ vs H', Same H H' → vs.length = n → (∀ v ∈ vs, BadV K H' v) → R vs H') → ta σ H R
section
variable {H0 : Hp} {σ : L2.St} {te : TE} {ta : TA} {d : PyData} {ds : List PyData} {i n : Nat} {x : Str}
theorem EvD.var (h : σ[i]? = some (some (.str x))) : EvD K H0 σ (tVar i) (.str x) := fun H Q _ q => ⟨_, h, q _ H (Same.refl H) (.str x)⟩
theorem EvD.one {v : V} (h : Dp K H0 v d) (hv : σ[i]? = some (some v) := by rfl) : EvD K H0 σ (tVar i) d := fun H Q e q => ⟨_, hv, q _ H (Same.refl H) (dp_sm e _ _ h)⟩
theorem EvD.cs : EvD K H0 σ (tC (.str x)) (.str x) := fun H Q _ q => q _ H (Same.refl H) (.str x)
theorem EvD.ci {k : Int} : EvD K H0 σ (tC (.int k)) (.int k) := fun H Q _ q => q _ H (Same.refl H) (.int k)
theorem EvA.nil : EvA K H0 σ tNil [] := fun H R _ q => q [] H (Same.refl H) .nil
theorem EvA.cons (h1 : EvD K H0 σ te d) (h2 : EvA K H0 σ ta ds) : EvA K H0 σ (tCons te ta) (d :: ds) := fun H R e q => h1 H _ e fun v H1 e1 hv => h2 H1 _ (e.trans e1) fun vs H2 e2 hvs => q (v :: vs) H2 (e1.trans e2) (.cons (dp_sm e2 _ _ hv) hvs)
theorem EvD.tup (h : EvA K H0 σ ta ds) (hz : ds.length ≤ 1000) : EvD K H0 σ (tTup ta) (.tuple ds) := fun H Q e q => h H _ e fun vs H1 e1 hvs => rd_new (by rw [dpA_len hvs]; exact hz) fun p H2 np e2 hp => q _ H2 (e1.trans e2) (.tup (SqT.of hp) (dpAll_sm e2 _ _ hvs))
theorem EvB.nil : EvB K H0 σ tNil 0 := fun H R _ q => q [] H (Same.refl H) rfl fun v hv => by cases hv
theorem EvB.cons {row : Rw} (h1 : EvD K H0 σ te row.told) (hw : row.wf) (hd : row.dp ≤ 2) (hc : row.cnt ≤ 3) (h2 : EvB K H0 σ ta n) : EvB K H0 σ (tCons te ta) (n + 1) := fun H R e q => h1 H _ e fun v H1 e1 hv => h2 H1 _ (e.trans e1) fun vs H2 e2 hl hvs => q (v :: vs) H2 (e1.trans e2) (by rw [List.length_cons, hl]) fun u hu => by
  rcases List.mem_cons.mp hu with z | z
  · rw [z]
    exact ⟨row, dp_sm e2 _ _ hv, hw, hd, hc⟩
  · exact hvs u z
end
def bst (s wd : Addr) (bx hx sx rx gx : Str) (y : V) (p : Addr) : L2.St := [some (.ref s), some (.ref wd), some (.str bx), some (.str hx), some (.str sx), some (.str rx), some (.str gx), some y, some (.ref p)]
theorem rd_bad1 {s wd : Addr} {bx hx sx rx gx : Str} {y : V} {H : Hp} {ta : TA} {n : Nat} {nx : L2.St → Hp → Prop} {rt : VK} {bk ct : L2.St → Hp → Prop} {o : Option V} (hs : Sta s H) (ev : EvB K H [some (.ref s), some (.ref wd), some (.str bx), some (.str hx), some (.str sx), some (.str rx), some (.str gx), some y, o] ta n) (h0 : 1 ≤ n) (hn : n ≤ 5)
    (q : ∀ r H', Same H H' → Bads K s H' r 5 → nx (bst s wd bx hx sx rx gx y r) H') : tAsg (tLst ta) (gName 8) { nx := nx, rt := rt, bk := bk, ct := ct } [some (.ref s), some (.ref wd), some (.str bx), some (.str hx), some (.str sx), some (.str rx), some (.str gx), some y, o] H := by
  refine ev H _ (Same.refl H) fun vs H1 e1 hl hv => ?_
  refine ⟨size_ok (by omega), fun r np => ?_⟩
  have e2 : Same H1 (upd H1 r (.lst vs)) := sm_new np
  have hr : upd H1 r (.lst vs) r = some (.lst vs) := upd_same
  exact q r (upd H1 r (.lst vs)) (e1.trans e2) ⟨vs, hr, (hs.sm e1).ne np, by omega, fun z => by rw [z] at hl; simp at hl; omega, fun v hv' => (hv v hv').sm e2⟩
theorem rd_bad2 {s wd p : Addr} {bx hx sx rx gx : Str} {y : V} {H : Hp} {ta : TA} {n k : Nat} {nx : L2.St → Hp → Prop} {rt : VK} {bk ct : L2.St → Hp → Prop} (bl : Bads K s H p k) (hk : k ≤ 500) (hs : Sta s H) (ev : EvB K H (bst s wd bx hx sx rx gx y p) ta n) (hn : n ≤ 5)
    (q : ∀ r H', Same H H' → Bads K s H' r (k + 5) → nx (bst s wd bx hx sx rx gx y r) H') : tAsg (tOp (rPlus K) (tVar 8) (tLst ta)) (gName 8) { nx := nx, rt := rt, bk := bk, ct := ct } (bst s wd bx hx sx rx gx y p) H := by
  refine rd_asg ?_
  refine rd_op ?_
  refine rd_var (v := .ref p) rfl ?_
  refine ev H _ (Same.refl H) fun vs H1 e1 hl hv => ?_
  refine ⟨size_ok (by omega), fun p2 np => ?_⟩
  have e2 : Same H1 (upd H1 p2 (.lst vs)) := sm_new np
  have hp : upd H1 p2 (.lst vs) p2 = some (.lst vs) := upd_same
  obtain ⟨ws, h1, h2, h3, h4, h5⟩ := bl
  have e12 := e1.trans e2
  refine rd_plus_l (e12 _ _ h1) hp (by omega) fun r H' nr e hr => ?_
  refine q r H' (e12.trans e) ⟨ws ++ vs, hr, (hs.sm e12).ne nr, by rw [List.length_append]; omega, by simp [h4], fun v hv' => ?_⟩
  rcases List.mem_append.mp hv' with z | z
  · exact (h5 v z).sm (e12.trans e)
  · exact (hv v z).sm (e2.trans e)
def spBad (K : PySem.W.Frag) : Sp := fun vs H Q _ => ∃ (s wd : Addr) (W : WD) (R : Int), vs = [.ref s, .ref wd] ∧ Sta s H ∧ Wd s wd W R H ∧
  ∀ (x : V) (row : Rw) (H' : Hp), Kp [s] H H' → Sta s H' → Dp K H' x row.told → row.wf → row.dp ≤ 2 → row.cnt ≤ 3 → Q x H'
theorem nms_at {H : Hp} {l s : Addr} {xs : List Str} (h : Nms H l s xs) {m : Nat} (hm : m < xs.length) : ∃ x, atI (xs.map V.str) (m : Int) = some (.str x) ∧ nameOk x = true :=
  ⟨xs[m], atI_nat (j := m) (by rw [List.getElem?_map, List.getElem?_eq_getElem hm] <;> rfl), h.2.2 _ (List.getElem_mem hm)⟩
theorem ok_bad_row (T : Txt K mg A) : Cal P w K mg base CX0 "_law_bad_row" 2 ["_law_state", "_law_world_here"] (spBad K) := by
  have c_L_mix := ok_L_mix (P := P) (w := w) (base := base) T
  refine T.d_L_bad_row.ok sc_L_bad_row (fun vs H Q E h => ?_) (fun f cdv Ar outer s H vs Q E hr h => ?_)
  · obtain ⟨s, wd, W, R, rfl, _⟩ := h
    rfl
  obtain ⟨s, wd, W, R, rfl, hs, hW, q⟩ := h
  refine ⟨_, (pss_cons (ps_par (i := 2) (j := 3) rfl sc_L_bad_row.nd rfl rfl (by decide) rfl rfl (pa_cons (pe_ix (k_ix K) (pe_dget (hu_of hr) (pv 1) pe_str (fun _ _ => rfl)) pe_int (fun _ _ => rfl)) (pa_cons (pe_ix (k_ix K) (pe_dget (hu_of hr) (pv 1) pe_str (fun _ _ => rfl)) (pe_op op_mod (pe_cal c_L_mix hr (by omega) pass0 (pa_cons (pv 0) (pa_cons pe_int pa_nil))) pe_int) (fun _ _ => rfl)) pa_nil)) (by rfl))
    (pss_cons (ps_set (i := 4) sc_L_bad_row.nd rfl (by first | exact Or.inl rfl | exact Or.inr rfl) (pe_ix (k_ix K) (pe_op (k_plus K) (pe_dget (hu_of hr) (pv 1) pe_str (fun _ _ => rfl)) (pe_dget (hu_of hr) (pv 1) pe_str (fun _ _ => rfl))) pe_int (fun _ _ => rfl)))
    (pss_cons (ps_par (i := 5) (j := 6) rfl sc_L_bad_row.nd rfl rfl (by decide) rfl rfl (pa_cons (pe_ix (k_ix K) (pe_dget (hu_of hr) (pv 1) pe_str (fun _ _ => rfl)) pe_int (fun _ _ => rfl)) (pa_cons (pe_ix (k_ix K) (pe_dget (hu_of hr) (pv 1) pe_str (fun _ _ => rfl)) pe_int (fun _ _ => rfl)) pa_nil)) (by rfl))
    (pss_cons (ps_set (i := 7) sc_L_bad_row.nd rfl (by first | exact Or.inl rfl | exact Or.inr rfl) (pe_tup (pa_cons pe_str (pa_cons (pe_op op_mod (pe_cal c_L_mix hr (by omega) pass0 (pa_cons (pv 0) (pa_cons pe_int pa_nil))) pe_int) pa_nil))))
    (pss_cons (ps_set (i := 8) sc_L_bad_row.nd rfl (by first | exact Or.inl rfl | exact Or.inr rfl) (pe_lst (pa_cons (pe_tup (pa_cons pe_str (pa_cons (pv 6) (pa_cons pe_int pa_nil)))) (pa_cons (pe_tup (pa_cons pe_str (pa_cons (pv 2) (pa_cons (pe_tup (pa_cons pe_str (pa_cons (pv 6) pa_nil))) pa_nil)))) pa_nil))))
    (pss_cons (ps_set (i := 8) sc_L_bad_row.nd rfl (by first | exact Or.inl rfl | exact Or.inr rfl) (pe_op (k_plus K) (pv 8) (pe_lst (pa_cons (pe_tup (pa_cons pe_str (pa_cons (pv 2) (pa_cons (pv 6) pa_nil)))) pa_nil))))
    (pss_cons (ps_set (i := 8) sc_L_bad_row.nd rfl (by first | exact Or.inl rfl | exact Or.inr rfl) (pe_op (k_plus K) (pv 8) (pe_lst (pa_cons (pe_tup (pa_cons pe_str (pa_cons (pv 2) (pa_cons (pe_tup (pa_cons pe_str (pa_cons (pv 6) pa_nil))) pa_nil)))) pa_nil))))
    (pss_cons (ps_set (i := 8) sc_L_bad_row.nd rfl (by first | exact Or.inl rfl | exact Or.inr rfl) (pe_op (k_plus K) (pv 8) (pe_lst (pa_cons (pe_tup (pa_cons pe_str (pa_cons (pv 2) (pa_cons (pv 2) pa_nil)))) (pa_cons (pe_tup (pa_cons pe_str (pa_cons (pv 4) (pa_cons (pv 7) pa_nil)))) (pa_cons (pe_tup (pa_cons pe_str (pa_cons (pv 6) pa_nil))) pa_nil))))))
    (pss_cons (ps_set (i := 8) sc_L_bad_row.nd rfl (by first | exact Or.inl rfl | exact Or.inr rfl) (pe_op (k_plus K) (pv 8) (pe_lst (pa_cons (pe_tup (pa_cons pe_str (pa_cons (pv 2) pa_nil))) pa_nil))))
    (pss_cons (ps_set (i := 8) sc_L_bad_row.nd rfl (by first | exact Or.inl rfl | exact Or.inr rfl) (pe_op (k_plus K) (pv 8) (pe_lst (pa_cons (pe_tup (pa_cons pe_str (pa_cons (pv 2) (pa_cons (pe_tup (pa_cons pe_str (pa_cons (pv 2) pa_nil))) pa_nil)))) pa_nil))))
    (pss_cons (ps_set (i := 8) sc_L_bad_row.nd rfl (by first | exact Or.inl rfl | exact Or.inr rfl) (pe_op (k_plus K) (pv 8) (pe_lst (pa_cons (pe_tup (pa_cons pe_str (pa_cons (pv 2) (pa_cons (pe_tup (pa_cons pe_str (pa_cons (pe_tup (pa_cons pe_str (pa_cons (pe_tup (pa_cons pe_str (pa_cons (pv 2) pa_nil))) pa_nil))) (pa_cons (pv 7) pa_nil)))) pa_nil)))) pa_nil))))
    (pss_cons (ps_set (i := 8) sc_L_bad_row.nd rfl (by first | exact Or.inl rfl | exact Or.inr rfl) (pe_op (k_plus K) (pv 8) (pe_lst (pa_cons (pe_tup (pa_cons pe_str (pa_cons (pv 2) (pa_cons (pv 2) pa_nil)))) pa_nil))))
    (pss_cons (ps_set (i := 8) sc_L_bad_row.nd rfl (by first | exact Or.inl rfl | exact Or.inr rfl) (pe_op (k_plus K) (pv 8) (pe_lst (pa_cons (pe_tup (pa_cons pe_str (pa_cons (pv 2) (pa_cons (pv 7) (pa_cons (pe_tup pa_nil) (pa_cons (pv 7) pa_nil)))))) pa_nil))))
    (pss_cons (ps_set (i := 8) sc_L_bad_row.nd rfl (by first | exact Or.inl rfl | exact Or.inr rfl) (pe_op (k_plus K) (pv 8) (pe_lst (pa_cons (pe_tup (pa_cons pe_str (pa_cons (pv 4) (pa_cons (pv 7) (pa_cons (pe_tup pa_nil) (pa_cons (pv 7) pa_nil)))))) (pa_cons (pe_tup (pa_cons pe_str (pa_cons (pv 5) (pa_cons (pv 7) (pa_cons (pe_tup pa_nil) (pa_cons (pv 7) pa_nil)))))) pa_nil)))))
    (pss_cons (ps_set (i := 8) sc_L_bad_row.nd rfl (by first | exact Or.inl rfl | exact Or.inr rfl) (pe_op (k_plus K) (pv 8) (pe_lst (pa_cons (pe_tup (pa_cons pe_str (pa_cons (pv 3) (pa_cons pe_int pa_nil)))) (pa_cons (pe_tup (pa_cons pe_str (pa_cons (pv 3) pa_nil))) pa_nil)))))
    (pss_cons (ps_set (i := 8) sc_L_bad_row.nd rfl (by first | exact Or.inl rfl | exact Or.inr rfl) (pe_op (k_plus K) (pv 8) (pe_lst (pa_cons (pe_tup (pa_cons pe_str (pa_cons (pv 3) (pa_cons (pe_tup (pa_cons pe_str (pa_cons (pv 3) pa_nil))) (pa_cons (pe_tup pa_nil) (pa_cons (pv 7) pa_nil)))))) pa_nil))))
    (pss_cons (ps_set (i := 8) sc_L_bad_row.nd rfl (by first | exact Or.inl rfl | exact Or.inr rfl) (pe_op (k_plus K) (pv 8) (pe_lst (pa_cons (pe_tup (pa_cons pe_str (pa_cons (pv 3) (pa_cons (pv 7) (pa_cons (pe_tup pa_nil) (pa_cons (pe_tup (pa_cons pe_str (pa_cons (pv 3) pa_nil))) pa_nil)))))) (pa_cons (pe_tup (pa_cons pe_str (pa_cons (pv 3) (pa_cons (pv 2) pa_nil)))) pa_nil)))))
    (pss_cons (ps_set (i := 8) sc_L_bad_row.nd rfl (by first | exact Or.inl rfl | exact Or.inr rfl) (pe_op (k_plus K) (pv 8) (pe_lst (pa_cons (pe_tup (pa_cons pe_str (pa_cons (pv 3) (pa_cons (pv 7) (pa_cons (pe_tup (pa_cons (pe_tup (pa_cons pe_str (pa_cons (pv 3) (pa_cons (pv 7) (pa_cons (pe_tup pa_nil) (pa_cons (pv 7) pa_nil)))))) pa_nil)) (pa_cons (pv 7) pa_nil)))))) pa_nil))))
    (pss_cons (ps_set (i := 8) sc_L_bad_row.nd rfl (by first | exact Or.inl rfl | exact Or.inr rfl) (pe_op (k_plus K) (pv 8) (pe_lst (pa_cons (pe_tup (pa_cons pe_str (pa_cons (pv 6) (pa_cons (pv 6) pa_nil)))) (pa_cons (pe_tup (pa_cons pe_str (pa_cons (pv 4) pa_nil))) pa_nil)))))
    (pss_cons (ps_set (i := 8) sc_L_bad_row.nd rfl (by first | exact Or.inl rfl | exact Or.inr rfl) (pe_op (k_plus K) (pv 8) (pe_lst (pa_cons (pe_tup (pa_cons pe_str (pa_cons (pe_tup (pa_cons pe_str (pa_cons (pv 6) pa_nil))) (pa_cons (pe_tup pa_nil) (pa_cons (pe_tup pa_nil) (pa_cons (pv 7) pa_nil)))))) pa_nil))))
    (pss_cons (ps_set (i := 8) sc_L_bad_row.nd rfl (by first | exact Or.inl rfl | exact Or.inr rfl) (pe_op (k_plus K) (pv 8) (pe_lst (pa_cons (pe_tup (pa_cons pe_str (pa_cons (pv 7) (pa_cons (pe_tup pa_nil) (pa_cons (pe_tup pa_nil) (pa_cons (pe_tup (pa_cons pe_str (pa_cons (pv 6) pa_nil))) pa_nil)))))) pa_nil))))
    (pss_cons (ps_set (i := 8) sc_L_bad_row.nd rfl (by first | exact Or.inl rfl | exact Or.inr rfl) (pe_op (k_plus K) (pv 8) (pe_lst (pa_cons (pe_tup (pa_cons pe_str (pa_cons (pv 2) (pa_cons (pe_tup (pa_cons pe_str (pa_cons (pv 2) pa_nil))) pa_nil)))) pa_nil))))
    (pss_cons (ps_set (i := 8) sc_L_bad_row.nd rfl (by first | exact Or.inl rfl | exact Or.inr rfl) (pe_op (k_plus K) (pv 8) (pe_lst (pa_cons (pe_tup (pa_cons pe_str (pa_cons (pv 6) (pa_cons (pe_tup (pa_cons pe_str (pa_cons (pv 6) pa_nil))) pa_nil)))) pa_nil))))
    (pss_cons (ps_set (i := 8) sc_L_bad_row.nd rfl (by first | exact Or.inl rfl | exact Or.inr rfl) (pe_op (k_plus K) (pv 8) (pe_lst (pa_cons (pe_tup (pa_cons pe_str (pa_cons (pv 6) (pa_cons (pv 7) (pa_cons (pe_tup (pa_cons (pe_tup (pa_cons pe_str (pa_cons (pv 6) (pa_cons (pe_tup (pa_cons pe_str (pa_cons (pv 2) pa_nil))) pa_nil)))) pa_nil)) (pa_cons (pv 7) pa_nil)))))) pa_nil))))
    (pss_cons (ps_set (i := 8) sc_L_bad_row.nd rfl (by first | exact Or.inl rfl | exact Or.inr rfl) (pe_op (k_plus K) (pv 8) (pe_lst (pa_cons (pe_tup (pa_cons pe_str (pa_cons (pv 7) (pa_cons (pe_tup (pa_cons (pe_tup (pa_cons pe_str (pa_cons (pv 6) (pa_cons pe_int pa_nil)))) pa_nil)) (pa_cons (pe_tup (pa_cons (pe_tup (pa_cons pe_str (pa_cons (pv 6) pa_nil))) pa_nil)) (pa_cons (pe_tup (pa_cons pe_str (pa_cons (pv 6) pa_nil))) pa_nil)))))) pa_nil))))
    (pss_cons (ps_set (i := 8) sc_L_bad_row.nd rfl (by first | exact Or.inl rfl | exact Or.inr rfl) (pe_op (k_plus K) (pv 8) (pe_lst (pa_cons (pe_tup (pa_cons pe_str (pa_cons (pv 6) (pa_cons (pv 6) pa_nil)))) pa_nil))))
    (pss_cons (ps_set (i := 8) sc_L_bad_row.nd rfl (by first | exact Or.inl rfl | exact Or.inr rfl) (pe_op (k_plus K) (pv 8) (pe_lst (pa_cons (pe_tup (pa_cons pe_str (pa_cons (pv 2) (pa_cons (pe_tup (pa_cons pe_str (pa_cons (pe_tup (pa_cons pe_str (pa_cons (pv 2) pa_nil))) (pa_cons (pe_tup (pa_cons pe_str (pa_cons (pv 6) pa_nil))) pa_nil)))) pa_nil)))) pa_nil))))
    (pss_cons (ps_set (i := 8) sc_L_bad_row.nd rfl (by first | exact Or.inl rfl | exact Or.inr rfl) (pe_op (k_plus K) (pv 8) (pe_lst (pa_cons (pe_tup (pa_cons pe_str (pa_cons (pv 2) (pa_cons (pe_tup (pa_cons pe_str (pa_cons (pe_tup (pa_cons pe_str (pa_cons (pv 6) pa_nil))) (pa_cons (pe_tup (pa_cons pe_str (pa_cons (pv 2) pa_nil))) pa_nil)))) pa_nil)))) pa_nil))))
    (pss_cons (ps_set (i := 8) sc_L_bad_row.nd rfl (by first | exact Or.inl rfl | exact Or.inr rfl) (pe_op (k_plus K) (pv 8) (pe_lst (pa_cons (pe_tup (pa_cons pe_str (pa_cons (pv 2) (pa_cons (pe_tup (pa_cons pe_str (pa_cons (pv 6) pa_nil))) (pa_cons (pe_tup pa_nil) (pa_cons (pv 7) pa_nil)))))) pa_nil))))
    (pss_cons (ps_set (i := 8) sc_L_bad_row.nd rfl (by first | exact Or.inl rfl | exact Or.inr rfl) (pe_op (k_plus K) (pv 8) (pe_lst (pa_cons (pe_tup (pa_cons pe_str (pa_cons (pv 2) (pa_cons (pv 7) (pa_cons (pe_tup pa_nil) (pa_cons (pe_tup (pa_cons pe_str (pa_cons (pv 6) pa_nil))) pa_nil)))))) pa_nil))))
    (pss_cons (ps_set (i := 8) sc_L_bad_row.nd rfl (by first | exact Or.inl rfl | exact Or.inr rfl) (pe_op (k_plus K) (pv 8) (pe_lst (pa_cons (pe_tup (pa_cons pe_str (pa_cons (pv 4) (pa_cons (pe_tup (pa_cons pe_str (pa_cons (pv 6) pa_nil))) (pa_cons (pe_tup pa_nil) (pa_cons (pv 7) pa_nil)))))) pa_nil))))
    (pss_cons (ps_set (i := 8) sc_L_bad_row.nd rfl (by first | exact Or.inl rfl | exact Or.inr rfl) (pe_op (k_plus K) (pv 8) (pe_lst (pa_cons (pe_tup (pa_cons pe_str (pa_cons (pv 2) (pa_cons (pe_tup (pa_cons pe_str (pa_cons (pv 4) pa_nil))) pa_nil)))) (pa_cons (pe_tup (pa_cons pe_str (pa_cons (pv 2) (pa_cons (pe_tup (pa_cons pe_str (pa_cons (pv 2) pa_nil))) pa_nil)))) pa_nil)))))
    (pss_one (ps_ret (pe_ix (k_ix K) (pv 8) (pe_op op_mod (pe_cal c_L_mix hr (by omega) pass0 (pa_cons (pv 0) (pa_cons pe_int pa_nil))) (pe_callB (k_len K) (by rfl) T.b_len bt_len (pa_cons (pv 8) pa_nil))) (fun _ _ => rfl)))))))))))))))))))))))))))))))))))), ?_⟩
  obtain ⟨hws, hWo, hR0, l1, l2, l3, l4, l5, hwd, hWL⟩ := id hW
  have b1 := hWo.b1
  have r1 := hWo.r1
  have h5 := hWo.h5
  have x3 := hWo.x3
  walk_at "rd"
  refine rd_par ?_
  walk_at "rd"
  refine rd_dget ?_
  walk_at "rd"
  refine ⟨wd, _, rfl, dget_bx hwd, ?_⟩
  walk_at "rd"
  obtain ⟨bx, hbx, ok_bx⟩ := nms_at hWL.n1 (m := 0) (by omega)
  refine rd_ix_l (SqL.of hWL.n1.1) hbx ?_
  walk_at "rd"
  refine rd_dget ?_
  walk_at "rd"
  refine ⟨wd, _, rfl, dget_hd hwd, ?_⟩
  walk_at "rd"
  refine rd_mix hs fun r1' H1 _ k1 hs1 => ?_
  walk_at "rd"
  refine rd_mod (by decide) fun m1 hm1 => ?_
  have hWL1 := hWL.two (kp_left k1)
  have hwd1 := k1.all _ _ hwd (by simpa using hws)
  obtain ⟨hx, hhx, ok_hx⟩ := nms_at hWL1.n4 (m := m1) (by omega)
  refine rd_ix_l (SqL.of hWL1.n4.1) hhx ?_
  walk_at "rd"
  refine ⟨_, _, rfl, ?_⟩
  walk_at "rd"
  refine rd_dget ?_
  walk_at "rd"
  refine ⟨wd, _, rfl, dget_st hwd1, ?_⟩
  walk_at "rd"
  refine rd_dget ?_
  walk_at "rd"
  refine ⟨wd, _, rfl, dget_sg hwd1, ?_⟩
  have s2 := hWo.s2
  refine rd_plus_l hWL1.n2.1 hWL1.n5.1 (by rw [List.length_map, List.length_map]; omega) fun pA HA npA eA hpA => ?_
  walk_at "rd"
  have hvs : ∃ x, atI (W.ss.map V.str ++ W.xs.map V.str) 0 = some (.str x) ∧ nameOk x = true := by
    rw [← List.map_append]
    have z : 0 < (W.ss ++ W.xs).length := by rw [List.length_append]; omega
    refine ⟨(W.ss ++ W.xs)[0], atI_nat (j := 0) (by rw [List.getElem?_map, List.getElem?_eq_getElem z] <;> rfl), ?_⟩
    rcases List.mem_append.mp (List.getElem_mem z) with h | h
    · exact hWL.n2.2.2 _ h
    · exact hWL.n5.2.2 _ h
  obtain ⟨sx, hsx, ok_sx⟩ := hvs
  refine rd_ix_l (SqL.of hpA) hsx ?_
  have hWLA := hWL1.two (sm_kp eA)
  have hwdA := eA _ _ hwd1
  walk_at "rd"
  refine rd_par ?_
  walk_at "rd"
  refine rd_dget ?_
  walk_at "rd"
  refine ⟨wd, _, rfl, dget_rt hwdA, ?_⟩
  walk_at "rd"
  obtain ⟨rx, hrx, ok_rx⟩ := nms_at hWLA.n3 (m := 0) (by omega)
  refine rd_ix_l (SqL.of hWLA.n3.1) hrx ?_
  walk_at "rd"
  refine rd_dget ?_
  walk_at "rd"
  refine ⟨wd, _, rfl, dget_sg hwdA, ?_⟩
  walk_at "rd"
  obtain ⟨gx, hgx, ok_gx⟩ := nms_at hWLA.n5 (m := 1) (by omega)
  refine rd_ix_l (SqL.of hWLA.n5.1) hgx ?_
  walk_at "rd"
  refine ⟨_, _, rfl, ?_⟩
  walk_at "rd"
  refine rd_mix (hs1.sm eA) fun r2' HB _ kB hsB => ?_
  walk_at "rd"
  refine rd_mod (by decide) fun n1 hn1 => ?_
  walk_at "rd"
  refine rd_new (by simp) fun pC HC npC eC hpC => ?_
  refine rd_name ?_
  have d1 : Dp K HC (.ref pC) (Sy.num n1).told := .tup (SqT.of hpC) (.cons (.str _) (.cons (.int _) .nil))
  have hs3 := hsB.sm eC
  have k03 : Kp [s] H HC := ((k1.sm eA).trans kB).sm eC
  refine rd_seq ?_
  refine rd_bad1 (K := K) hs3 (.cons (row := (.turn gx 3)) (.tup (.cons .cs (.cons (.var (i := 6) rfl) (.cons .ci .nil))) (by exact Nat.le_of_ble_eq_true rfl)) ⟨ok_gx, by omega, by omega⟩ (Nat.le_of_ble_eq_true rfl) (Nat.le_of_ble_eq_true rfl) (.cons (row := (.chg .add bx (.box gx))) (.tup (.cons .cs (.cons (.var (i := 2) rfl) (.cons (.tup (.cons .cs (.cons (.var (i := 6) rfl) .nil)) (by exact Nat.le_of_ble_eq_true rfl)) .nil))) (by exact Nat.le_of_ble_eq_true rfl)) ⟨ok_bx, ⟨ok_gx, Nat.le_of_ble_eq_true rfl, Nat.le_of_ble_eq_true rfl⟩⟩ (Nat.le_of_ble_eq_true rfl) (Nat.le_of_ble_eq_true rfl) .nil)) (by decide) (by decide) fun p0 H0 e0 bl => ?_
  have hs4 := hs3.sm e0
  have h1 := dp_sm e0 _ _ d1
  have ez := e0
  refine rd_seq ?_
  refine rd_bad2 (K := K) bl (by omega) hs4 (.cons (row := (.mov .push bx gx)) (.tup (.cons .cs (.cons (.var (i := 2) rfl) (.cons (.var (i := 6) rfl) .nil))) (by exact Nat.le_of_ble_eq_true rfl)) ⟨ok_bx, ok_gx⟩ (Nat.le_of_ble_eq_true rfl) (Nat.le_of_ble_eq_true rfl) .nil) (by decide) fun p0 H0 e0 bl => ?_
  have hs4 := hs4.sm e0
  have h1 := dp_sm e0 _ _ h1
  have ez := ez.trans e0
  refine rd_seq ?_
  refine rd_bad2 (K := K) bl (by omega) hs4 (.cons (row := (.chg .mix bx (.many gx))) (.tup (.cons .cs (.cons (.var (i := 2) rfl) (.cons (.tup (.cons .cs (.cons (.var (i := 6) rfl) .nil)) (by exact Nat.le_of_ble_eq_true rfl)) .nil))) (by exact Nat.le_of_ble_eq_true rfl)) ⟨ok_bx, ⟨ok_gx, Nat.le_of_ble_eq_true rfl, Nat.le_of_ble_eq_true rfl⟩⟩ (Nat.le_of_ble_eq_true rfl) (Nat.le_of_ble_eq_true rfl) .nil) (by decide) fun p0 H0 e0 bl => ?_
  have hs4 := hs4.sm e0
  have h1 := dp_sm e0 _ _ h1
  have ez := ez.trans e0
  refine rd_seq ?_
  refine rd_bad2 (K := K) bl (by omega) hs4 (.cons (row := (.mov .pop bx bx)) (.tup (.cons .cs (.cons (.var (i := 2) rfl) (.cons (.var (i := 2) rfl) .nil))) (by exact Nat.le_of_ble_eq_true rfl)) ⟨ok_bx, ok_bx⟩ (Nat.le_of_ble_eq_true rfl) (Nat.le_of_ble_eq_true rfl) (.cons (row := (.chg .less sx (.num n1))) (.tup (.cons .cs (.cons (.var (i := 4) rfl) (.cons (.one h1) .nil))) (by exact Nat.le_of_ble_eq_true rfl)) ⟨ok_sx, ⟨⟨by omega, by omega⟩, Nat.le_of_ble_eq_true rfl, Nat.le_of_ble_eq_true rfl⟩⟩ (Nat.le_of_ble_eq_true rfl) (Nat.le_of_ble_eq_true rfl) (.cons (row := (.nam .call gx)) (.tup (.cons .cs (.cons (.var (i := 6) rfl) .nil)) (by exact Nat.le_of_ble_eq_true rfl)) ok_gx (Nat.le_of_ble_eq_true rfl) (Nat.le_of_ble_eq_true rfl) .nil))) (by decide) fun p0 H0 e0 bl => ?_
  have hs4 := hs4.sm e0
  have h1 := dp_sm e0 _ _ h1
  have ez := ez.trans e0
  refine rd_seq ?_
  refine rd_bad2 (K := K) bl (by omega) hs4 (.cons (row := (.nam .back bx)) (.tup (.cons .cs (.cons (.var (i := 2) rfl) .nil)) (by exact Nat.le_of_ble_eq_true rfl)) ok_bx (Nat.le_of_ble_eq_true rfl) (Nat.le_of_ble_eq_true rfl) .nil) (by decide) fun p0 H0 e0 bl => ?_
  have hs4 := hs4.sm e0
  have h1 := dp_sm e0 _ _ h1
  have ez := ez.trans e0
  refine rd_seq ?_
  refine rd_bad2 (K := K) bl (by omega) hs4 (.cons (row := (.chg .add bx (.box bx))) (.tup (.cons .cs (.cons (.var (i := 2) rfl) (.cons (.tup (.cons .cs (.cons (.var (i := 2) rfl) .nil)) (by exact Nat.le_of_ble_eq_true rfl)) .nil))) (by exact Nat.le_of_ble_eq_true rfl)) ⟨ok_bx, ⟨ok_bx, Nat.le_of_ble_eq_true rfl, Nat.le_of_ble_eq_true rfl⟩⟩ (Nat.le_of_ble_eq_true rfl) (Nat.le_of_ble_eq_true rfl) .nil) (by decide) fun p0 H0 e0 bl => ?_
  have hs4 := hs4.sm e0
  have h1 := dp_sm e0 _ _ h1
  have ez := ez.trans e0
  refine rd_seq ?_
  refine rd_bad2 (K := K) bl (by omega) hs4 (.cons (row := (.chg .less bx (.pair "+" (.not (.box bx)) (.num n1)))) (.tup (.cons .cs (.cons (.var (i := 2) rfl) (.cons (.tup (.cons .cs (.cons (.tup (.cons .cs (.cons (.tup (.cons .cs (.cons (.var (i := 2) rfl) .nil)) (by exact Nat.le_of_ble_eq_true rfl)) .nil)) (by exact Nat.le_of_ble_eq_true rfl)) (.cons (.one h1) .nil))) (by exact Nat.le_of_ble_eq_true rfl)) .nil))) (by exact Nat.le_of_ble_eq_true rfl)) ⟨ok_bx, ⟨⟨by decide +kernel, ok_bx, ⟨by omega, by omega⟩⟩, Nat.le_of_ble_eq_true rfl, Nat.le_of_ble_eq_true rfl⟩⟩ (Nat.le_of_ble_eq_true rfl) (Nat.le_of_ble_eq_true rfl) .nil) (by decide) fun p0 H0 e0 bl => ?_
  have hs4 := hs4.sm e0
  have h1 := dp_sm e0 _ _ h1
  have ez := ez.trans e0
  refine rd_seq ?_
  refine rd_bad2 (K := K) bl (by omega) hs4 (.cons (row := (.swap bx bx)) (.tup (.cons .cs (.cons (.var (i := 2) rfl) (.cons (.var (i := 2) rfl) .nil))) (by exact Nat.le_of_ble_eq_true rfl)) ⟨ok_bx, ok_bx⟩ (Nat.le_of_ble_eq_true rfl) (Nat.le_of_ble_eq_true rfl) .nil) (by decide) fun p0 H0 e0 bl => ?_
  have hs4 := hs4.sm e0
  have h1 := dp_sm e0 _ _ h1
  have ez := ez.trans e0
  refine rd_seq ?_
  refine rd_bad2 (K := K) bl (by omega) hs4 (.cons (row := (.held bx (.num n1) [] (.num n1))) (.tup (.cons .cs (.cons (.var (i := 2) rfl) (.cons (.one h1) (.cons (.tup .nil (by exact Nat.le_of_ble_eq_true rfl)) (.cons (.one h1) .nil))))) (by exact Nat.le_of_ble_eq_true rfl)) ⟨ok_bx, ⟨⟨by omega, by omega⟩, Nat.le_of_ble_eq_true rfl, Nat.le_of_ble_eq_true rfl⟩, trivial, ⟨⟨by omega, by omega⟩, Nat.le_of_ble_eq_true rfl, Nat.le_of_ble_eq_true rfl⟩⟩ (Nat.le_of_ble_eq_true rfl) (Nat.le_of_ble_eq_true rfl) .nil) (by decide) fun p0 H0 e0 bl => ?_
  have hs4 := hs4.sm e0
  have h1 := dp_sm e0 _ _ h1
  have ez := ez.trans e0
  refine rd_seq ?_
  refine rd_bad2 (K := K) bl (by omega) hs4 (.cons (row := (.held sx (.num n1) [] (.num n1))) (.tup (.cons .cs (.cons (.var (i := 4) rfl) (.cons (.one h1) (.cons (.tup .nil (by exact Nat.le_of_ble_eq_true rfl)) (.cons (.one h1) .nil))))) (by exact Nat.le_of_ble_eq_true rfl)) ⟨ok_sx, ⟨⟨by omega, by omega⟩, Nat.le_of_ble_eq_true rfl, Nat.le_of_ble_eq_true rfl⟩, trivial, ⟨⟨by omega, by omega⟩, Nat.le_of_ble_eq_true rfl, Nat.le_of_ble_eq_true rfl⟩⟩ (Nat.le_of_ble_eq_true rfl) (Nat.le_of_ble_eq_true rfl) (.cons (row := (.held rx (.num n1) [] (.num n1))) (.tup (.cons .cs (.cons (.var (i := 5) rfl) (.cons (.one h1) (.cons (.tup .nil (by exact Nat.le_of_ble_eq_true rfl)) (.cons (.one h1) .nil))))) (by exact Nat.le_of_ble_eq_true rfl)) ⟨ok_rx, ⟨⟨by omega, by omega⟩, Nat.le_of_ble_eq_true rfl, Nat.le_of_ble_eq_true rfl⟩, trivial, ⟨⟨by omega, by omega⟩, Nat.le_of_ble_eq_true rfl, Nat.le_of_ble_eq_true rfl⟩⟩ (Nat.le_of_ble_eq_true rfl) (Nat.le_of_ble_eq_true rfl) .nil)) (by decide) fun p0 H0 e0 bl => ?_
  have hs4 := hs4.sm e0
  have h1 := dp_sm e0 _ _ h1
  have ez := ez.trans e0
  refine rd_seq ?_
  refine rd_bad2 (K := K) bl (by omega) hs4 (.cons (row := (.turn hx 1)) (.tup (.cons .cs (.cons (.var (i := 3) rfl) (.cons .ci .nil))) (by exact Nat.le_of_ble_eq_true rfl)) ⟨ok_hx, by omega, by omega⟩ (Nat.le_of_ble_eq_true rfl) (Nat.le_of_ble_eq_true rfl) (.cons (row := (.nam .call hx)) (.tup (.cons .cs (.cons (.var (i := 3) rfl) .nil)) (by exact Nat.le_of_ble_eq_true rfl)) ok_hx (Nat.le_of_ble_eq_true rfl) (Nat.le_of_ble_eq_true rfl) .nil)) (by decide) fun p0 H0 e0 bl => ?_
  have hs4 := hs4.sm e0
  have h1 := dp_sm e0 _ _ h1
  have ez := ez.trans e0
  refine rd_seq ?_
  refine rd_bad2 (K := K) bl (by omega) hs4 (.cons (row := (.held hx (.box hx) [] (.num n1))) (.tup (.cons .cs (.cons (.var (i := 3) rfl) (.cons (.tup (.cons .cs (.cons (.var (i := 3) rfl) .nil)) (by exact Nat.le_of_ble_eq_true rfl)) (.cons (.tup .nil (by exact Nat.le_of_ble_eq_true rfl)) (.cons (.one h1) .nil))))) (by exact Nat.le_of_ble_eq_true rfl)) ⟨ok_hx, ⟨ok_hx, Nat.le_of_ble_eq_true rfl, Nat.le_of_ble_eq_true rfl⟩, trivial, ⟨⟨by omega, by omega⟩, Nat.le_of_ble_eq_true rfl, Nat.le_of_ble_eq_true rfl⟩⟩ (Nat.le_of_ble_eq_true rfl) (Nat.le_of_ble_eq_true rfl) .nil) (by decide) fun p0 H0 e0 bl => ?_
  have hs4 := hs4.sm e0
  have h1 := dp_sm e0 _ _ h1
  have ez := ez.trans e0
  refine rd_seq ?_
  refine rd_bad2 (K := K) bl (by omega) hs4 (.cons (row := (.held hx (.num n1) [] (.box hx))) (.tup (.cons .cs (.cons (.var (i := 3) rfl) (.cons (.one h1) (.cons (.tup .nil (by exact Nat.le_of_ble_eq_true rfl)) (.cons (.tup (.cons .cs (.cons (.var (i := 3) rfl) .nil)) (by exact Nat.le_of_ble_eq_true rfl)) .nil))))) (by exact Nat.le_of_ble_eq_true rfl)) ⟨ok_hx, ⟨⟨by omega, by omega⟩, Nat.le_of_ble_eq_true rfl, Nat.le_of_ble_eq_true rfl⟩, trivial, ⟨ok_hx, Nat.le_of_ble_eq_true rfl, Nat.le_of_ble_eq_true rfl⟩⟩ (Nat.le_of_ble_eq_true rfl) (Nat.le_of_ble_eq_true rfl) (.cons (row := (.swap hx bx)) (.tup (.cons .cs (.cons (.var (i := 3) rfl) (.cons (.var (i := 2) rfl) .nil))) (by exact Nat.le_of_ble_eq_true rfl)) ⟨ok_hx, ok_bx⟩ (Nat.le_of_ble_eq_true rfl) (Nat.le_of_ble_eq_true rfl) .nil)) (by decide) fun p0 H0 e0 bl => ?_
  have hs4 := hs4.sm e0
  have h1 := dp_sm e0 _ _ h1
  have ez := ez.trans e0
  refine rd_seq ?_
  refine rd_bad2 (K := K) bl (by omega) hs4 (.cons (row := (.held hx (.num n1) [(.held hx (.num n1) [] (.num n1))] (.num n1))) (.tup (.cons .cs (.cons (.var (i := 3) rfl) (.cons (.one h1) (.cons (.tup (.cons (.tup (.cons .cs (.cons (.var (i := 3) rfl) (.cons (.one h1) (.cons (.tup .nil (by exact Nat.le_of_ble_eq_true rfl)) (.cons (.one h1) .nil))))) (by exact Nat.le_of_ble_eq_true rfl)) .nil) (by exact Nat.le_of_ble_eq_true rfl)) (.cons (.one h1) .nil))))) (by exact Nat.le_of_ble_eq_true rfl)) ⟨ok_hx, ⟨⟨by omega, by omega⟩, Nat.le_of_ble_eq_true rfl, Nat.le_of_ble_eq_true rfl⟩, ⟨⟨ok_hx, ⟨⟨by omega, by omega⟩, Nat.le_of_ble_eq_true rfl, Nat.le_of_ble_eq_true rfl⟩, trivial, ⟨⟨by omega, by omega⟩, Nat.le_of_ble_eq_true rfl, Nat.le_of_ble_eq_true rfl⟩⟩, trivial⟩, ⟨⟨by omega, by omega⟩, Nat.le_of_ble_eq_true rfl, Nat.le_of_ble_eq_true rfl⟩⟩ (Nat.le_of_ble_eq_true rfl) (Nat.le_of_ble_eq_true rfl) .nil) (by decide) fun p0 H0 e0 bl => ?_
  have hs4 := hs4.sm e0
  have h1 := dp_sm e0 _ _ h1
  have ez := ez.trans e0
  refine rd_seq ?_
  refine rd_bad2 (K := K) bl (by omega) hs4 (.cons (row := (.mov .push gx gx)) (.tup (.cons .cs (.cons (.var (i := 6) rfl) (.cons (.var (i := 6) rfl) .nil))) (by exact Nat.le_of_ble_eq_true rfl)) ⟨ok_gx, ok_gx⟩ (Nat.le_of_ble_eq_true rfl) (Nat.le_of_ble_eq_true rfl) (.cons (row := (.nam .call sx)) (.tup (.cons .cs (.cons (.var (i := 4) rfl) .nil)) (by exact Nat.le_of_ble_eq_true rfl)) ok_sx (Nat.le_of_ble_eq_true rfl) (Nat.le_of_ble_eq_true rfl) .nil)) (by decide) fun p0 H0 e0 bl => ?_
  have hs4 := hs4.sm e0
  have h1 := dp_sm e0 _ _ h1
  have ez := ez.trans e0
  refine rd_seq ?_
  refine rd_bad2 (K := K) bl (by omega) hs4 (.cons (row := (.blk .cho (.top gx) [] [] (.num n1))) (.tup (.cons .cs (.cons (.tup (.cons .cs (.cons (.var (i := 6) rfl) .nil)) (by exact Nat.le_of_ble_eq_true rfl)) (.cons (.tup .nil (by exact Nat.le_of_ble_eq_true rfl)) (.cons (.tup .nil (by exact Nat.le_of_ble_eq_true rfl)) (.cons (.one h1) .nil))))) (by exact Nat.le_of_ble_eq_true rfl)) ⟨⟨ok_gx, Nat.le_of_ble_eq_true rfl, Nat.le_of_ble_eq_true rfl⟩, trivial, trivial, ⟨⟨by omega, by omega⟩, Nat.le_of_ble_eq_true rfl, Nat.le_of_ble_eq_true rfl⟩⟩ (Nat.le_of_ble_eq_true rfl) (Nat.le_of_ble_eq_true rfl) .nil) (by decide) fun p0 H0 e0 bl => ?_
  have hs4 := hs4.sm e0
  have h1 := dp_sm e0 _ _ h1
  have ez := ez.trans e0
  refine rd_seq ?_
  refine rd_bad2 (K := K) bl (by omega) hs4 (.cons (row := (.blk .loop (.num n1) [] [] (.box gx))) (.tup (.cons .cs (.cons (.one h1) (.cons (.tup .nil (by exact Nat.le_of_ble_eq_true rfl)) (.cons (.tup .nil (by exact Nat.le_of_ble_eq_true rfl)) (.cons (.tup (.cons .cs (.cons (.var (i := 6) rfl) .nil)) (by exact Nat.le_of_ble_eq_true rfl)) .nil))))) (by exact Nat.le_of_ble_eq_true rfl)) ⟨⟨⟨by omega, by omega⟩, Nat.le_of_ble_eq_true rfl, Nat.le_of_ble_eq_true rfl⟩, trivial, trivial, ⟨ok_gx, Nat.le_of_ble_eq_true rfl, Nat.le_of_ble_eq_true rfl⟩⟩ (Nat.le_of_ble_eq_true rfl) (Nat.le_of_ble_eq_true rfl) .nil) (by decide) fun p0 H0 e0 bl => ?_
  have hs4 := hs4.sm e0
  have h1 := dp_sm e0 _ _ h1
  have ez := ez.trans e0
  refine rd_seq ?_
  refine rd_bad2 (K := K) bl (by omega) hs4 (.cons (row := (.chg .mix bx (.top bx))) (.tup (.cons .cs (.cons (.var (i := 2) rfl) (.cons (.tup (.cons .cs (.cons (.var (i := 2) rfl) .nil)) (by exact Nat.le_of_ble_eq_true rfl)) .nil))) (by exact Nat.le_of_ble_eq_true rfl)) ⟨ok_bx, ⟨ok_bx, Nat.le_of_ble_eq_true rfl, Nat.le_of_ble_eq_true rfl⟩⟩ (Nat.le_of_ble_eq_true rfl) (Nat.le_of_ble_eq_true rfl) .nil) (by decide) fun p0 H0 e0 bl => ?_
  have hs4 := hs4.sm e0
  have h1 := dp_sm e0 _ _ h1
  have ez := ez.trans e0
  refine rd_seq ?_
  refine rd_bad2 (K := K) bl (by omega) hs4 (.cons (row := (.chg .add gx (.box gx))) (.tup (.cons .cs (.cons (.var (i := 6) rfl) (.cons (.tup (.cons .cs (.cons (.var (i := 6) rfl) .nil)) (by exact Nat.le_of_ble_eq_true rfl)) .nil))) (by exact Nat.le_of_ble_eq_true rfl)) ⟨ok_gx, ⟨ok_gx, Nat.le_of_ble_eq_true rfl, Nat.le_of_ble_eq_true rfl⟩⟩ (Nat.le_of_ble_eq_true rfl) (Nat.le_of_ble_eq_true rfl) .nil) (by decide) fun p0 H0 e0 bl => ?_
  have hs4 := hs4.sm e0
  have h1 := dp_sm e0 _ _ h1
  have ez := ez.trans e0
  refine rd_seq ?_
  refine rd_bad2 (K := K) bl (by omega) hs4 (.cons (row := (.held gx (.num n1) [(.chg .add gx (.top bx))] (.num n1))) (.tup (.cons .cs (.cons (.var (i := 6) rfl) (.cons (.one h1) (.cons (.tup (.cons (.tup (.cons .cs (.cons (.var (i := 6) rfl) (.cons (.tup (.cons .cs (.cons (.var (i := 2) rfl) .nil)) (by exact Nat.le_of_ble_eq_true rfl)) .nil))) (by exact Nat.le_of_ble_eq_true rfl)) .nil) (by exact Nat.le_of_ble_eq_true rfl)) (.cons (.one h1) .nil))))) (by exact Nat.le_of_ble_eq_true rfl)) ⟨ok_gx, ⟨⟨by omega, by omega⟩, Nat.le_of_ble_eq_true rfl, Nat.le_of_ble_eq_true rfl⟩, ⟨⟨ok_gx, ⟨ok_bx, Nat.le_of_ble_eq_true rfl, Nat.le_of_ble_eq_true rfl⟩⟩, trivial⟩, ⟨⟨by omega, by omega⟩, Nat.le_of_ble_eq_true rfl, Nat.le_of_ble_eq_true rfl⟩⟩ (Nat.le_of_ble_eq_true rfl) (Nat.le_of_ble_eq_true rfl) .nil) (by decide) fun p0 H0 e0 bl => ?_
  have hs4 := hs4.sm e0
  have h1 := dp_sm e0 _ _ h1
  have ez := ez.trans e0
  refine rd_seq ?_
  refine rd_bad2 (K := K) bl (by omega) hs4 (.cons (row := (.blk .cho (.num n1) [(.turn gx 1)] [(.nam .call gx)] (.box gx))) (.tup (.cons .cs (.cons (.one h1) (.cons (.tup (.cons (.tup (.cons .cs (.cons (.var (i := 6) rfl) (.cons .ci .nil))) (by exact Nat.le_of_ble_eq_true rfl)) .nil) (by exact Nat.le_of_ble_eq_true rfl)) (.cons (.tup (.cons (.tup (.cons .cs (.cons (.var (i := 6) rfl) .nil)) (by exact Nat.le_of_ble_eq_true rfl)) .nil) (by exact Nat.le_of_ble_eq_true rfl)) (.cons (.tup (.cons .cs (.cons (.var (i := 6) rfl) .nil)) (by exact Nat.le_of_ble_eq_true rfl)) .nil))))) (by exact Nat.le_of_ble_eq_true rfl)) ⟨⟨⟨by omega, by omega⟩, Nat.le_of_ble_eq_true rfl, Nat.le_of_ble_eq_true rfl⟩, ⟨⟨ok_gx, by omega, by omega⟩, trivial⟩, ⟨ok_gx, trivial⟩, ⟨ok_gx, Nat.le_of_ble_eq_true rfl, Nat.le_of_ble_eq_true rfl⟩⟩ (Nat.le_of_ble_eq_true rfl) (Nat.le_of_ble_eq_true rfl) .nil) (by decide) fun p0 H0 e0 bl => ?_
  have hs4 := hs4.sm e0
  have h1 := dp_sm e0 _ _ h1
  have ez := ez.trans e0
  refine rd_seq ?_
  refine rd_bad2 (K := K) bl (by omega) hs4 (.cons (row := (.swap gx gx)) (.tup (.cons .cs (.cons (.var (i := 6) rfl) (.cons (.var (i := 6) rfl) .nil))) (by exact Nat.le_of_ble_eq_true rfl)) ⟨ok_gx, ok_gx⟩ (Nat.le_of_ble_eq_true rfl) (Nat.le_of_ble_eq_true rfl) .nil) (by decide) fun p0 H0 e0 bl => ?_
  have hs4 := hs4.sm e0
  have h1 := dp_sm e0 _ _ h1
  have ez := ez.trans e0
  refine rd_seq ?_
  refine rd_bad2 (K := K) bl (by omega) hs4 (.cons (row := (.chg .add bx (.pair "+" (.box bx) (.many gx)))) (.tup (.cons .cs (.cons (.var (i := 2) rfl) (.cons (.tup (.cons .cs (.cons (.tup (.cons .cs (.cons (.var (i := 2) rfl) .nil)) (by exact Nat.le_of_ble_eq_true rfl)) (.cons (.tup (.cons .cs (.cons (.var (i := 6) rfl) .nil)) (by exact Nat.le_of_ble_eq_true rfl)) .nil))) (by exact Nat.le_of_ble_eq_true rfl)) .nil))) (by exact Nat.le_of_ble_eq_true rfl)) ⟨ok_bx, ⟨⟨by decide +kernel, ok_bx, ok_gx⟩, Nat.le_of_ble_eq_true rfl, Nat.le_of_ble_eq_true rfl⟩⟩ (Nat.le_of_ble_eq_true rfl) (Nat.le_of_ble_eq_true rfl) .nil) (by decide) fun p0 H0 e0 bl => ?_
  have hs4 := hs4.sm e0
  have h1 := dp_sm e0 _ _ h1
  have ez := ez.trans e0
  refine rd_seq ?_
  refine rd_bad2 (K := K) bl (by omega) hs4 (.cons (row := (.chg .mix bx (.pair "-" (.top gx) (.box bx)))) (.tup (.cons .cs (.cons (.var (i := 2) rfl) (.cons (.tup (.cons .cs (.cons (.tup (.cons .cs (.cons (.var (i := 6) rfl) .nil)) (by exact Nat.le_of_ble_eq_true rfl)) (.cons (.tup (.cons .cs (.cons (.var (i := 2) rfl) .nil)) (by exact Nat.le_of_ble_eq_true rfl)) .nil))) (by exact Nat.le_of_ble_eq_true rfl)) .nil))) (by exact Nat.le_of_ble_eq_true rfl)) ⟨ok_bx, ⟨⟨by decide +kernel, ok_gx, ok_bx⟩, Nat.le_of_ble_eq_true rfl, Nat.le_of_ble_eq_true rfl⟩⟩ (Nat.le_of_ble_eq_true rfl) (Nat.le_of_ble_eq_true rfl) .nil) (by decide) fun p0 H0 e0 bl => ?_
  have hs4 := hs4.sm e0
  have h1 := dp_sm e0 _ _ h1
  have ez := ez.trans e0
  refine rd_seq ?_
  refine rd_bad2 (K := K) bl (by omega) hs4 (.cons (row := (.held bx (.many gx) [] (.num n1))) (.tup (.cons .cs (.cons (.var (i := 2) rfl) (.cons (.tup (.cons .cs (.cons (.var (i := 6) rfl) .nil)) (by exact Nat.le_of_ble_eq_true rfl)) (.cons (.tup .nil (by exact Nat.le_of_ble_eq_true rfl)) (.cons (.one h1) .nil))))) (by exact Nat.le_of_ble_eq_true rfl)) ⟨ok_bx, ⟨ok_gx, Nat.le_of_ble_eq_true rfl, Nat.le_of_ble_eq_true rfl⟩, trivial, ⟨⟨by omega, by omega⟩, Nat.le_of_ble_eq_true rfl, Nat.le_of_ble_eq_true rfl⟩⟩ (Nat.le_of_ble_eq_true rfl) (Nat.le_of_ble_eq_true rfl) .nil) (by decide) fun p0 H0 e0 bl => ?_
  have hs4 := hs4.sm e0
  have h1 := dp_sm e0 _ _ h1
  have ez := ez.trans e0
  refine rd_seq ?_
  refine rd_bad2 (K := K) bl (by omega) hs4 (.cons (row := (.held bx (.num n1) [] (.box gx))) (.tup (.cons .cs (.cons (.var (i := 2) rfl) (.cons (.one h1) (.cons (.tup .nil (by exact Nat.le_of_ble_eq_true rfl)) (.cons (.tup (.cons .cs (.cons (.var (i := 6) rfl) .nil)) (by exact Nat.le_of_ble_eq_true rfl)) .nil))))) (by exact Nat.le_of_ble_eq_true rfl)) ⟨ok_bx, ⟨⟨by omega, by omega⟩, Nat.le_of_ble_eq_true rfl, Nat.le_of_ble_eq_true rfl⟩, trivial, ⟨ok_gx, Nat.le_of_ble_eq_true rfl, Nat.le_of_ble_eq_true rfl⟩⟩ (Nat.le_of_ble_eq_true rfl) (Nat.le_of_ble_eq_true rfl) .nil) (by decide) fun p0 H0 e0 bl => ?_
  have hs4 := hs4.sm e0
  have h1 := dp_sm e0 _ _ h1
  have ez := ez.trans e0
  refine rd_seq ?_
  refine rd_bad2 (K := K) bl (by omega) hs4 (.cons (row := (.held sx (.box gx) [] (.num n1))) (.tup (.cons .cs (.cons (.var (i := 4) rfl) (.cons (.tup (.cons .cs (.cons (.var (i := 6) rfl) .nil)) (by exact Nat.le_of_ble_eq_true rfl)) (.cons (.tup .nil (by exact Nat.le_of_ble_eq_true rfl)) (.cons (.one h1) .nil))))) (by exact Nat.le_of_ble_eq_true rfl)) ⟨ok_sx, ⟨ok_gx, Nat.le_of_ble_eq_true rfl, Nat.le_of_ble_eq_true rfl⟩, trivial, ⟨⟨by omega, by omega⟩, Nat.le_of_ble_eq_true rfl, Nat.le_of_ble_eq_true rfl⟩⟩ (Nat.le_of_ble_eq_true rfl) (Nat.le_of_ble_eq_true rfl) .nil) (by decide) fun p0 H0 e0 bl => ?_
  have hs4 := hs4.sm e0
  have h1 := dp_sm e0 _ _ h1
  have ez := ez.trans e0
  refine rd_seq ?_
  refine rd_bad2 (K := K) bl (by omega) hs4 (.cons (row := (.chg .add bx (.box sx))) (.tup (.cons .cs (.cons (.var (i := 2) rfl) (.cons (.tup (.cons .cs (.cons (.var (i := 4) rfl) .nil)) (by exact Nat.le_of_ble_eq_true rfl)) .nil))) (by exact Nat.le_of_ble_eq_true rfl)) ⟨ok_bx, ⟨ok_sx, Nat.le_of_ble_eq_true rfl, Nat.le_of_ble_eq_true rfl⟩⟩ (Nat.le_of_ble_eq_true rfl) (Nat.le_of_ble_eq_true rfl) (.cons (row := (.chg .mix bx (.many bx))) (.tup (.cons .cs (.cons (.var (i := 2) rfl) (.cons (.tup (.cons .cs (.cons (.var (i := 2) rfl) .nil)) (by exact Nat.le_of_ble_eq_true rfl)) .nil))) (by exact Nat.le_of_ble_eq_true rfl)) ⟨ok_bx, ⟨ok_bx, Nat.le_of_ble_eq_true rfl, Nat.le_of_ble_eq_true rfl⟩⟩ (Nat.le_of_ble_eq_true rfl) (Nat.le_of_ble_eq_true rfl) .nil)) (by decide) fun p0 H0 e0 bl => ?_
  have hs4 := hs4.sm e0
  have h1 := dp_sm e0 _ _ h1
  have ez := ez.trans e0
  unfold bst
  walk_at "rd"
  refine rd_mix (hs3.sm ez) fun rF HF _ kF hsF => ?_
  walk_at "rd"
  obtain ⟨vs, g1, g2, g3, g4, g5⟩ := bl
  have g6 := kF.all _ _ g1 (by simpa using g2)
  refine rd_len_l (SqL.of g6) ?_
  have hl : 0 < vs.length := List.length_pos_iff.mpr g4
  refine rd_mod (by omega) fun mF hmF => ?_
  have z : mF < vs.length := by omega
  refine rd_ix_l (SqL.of g6) (atI_nat (j := mF) (v := vs[mF]) (List.getElem?_eq_getElem z)) ?_
  obtain ⟨row, r1, r2, r3, r4⟩ := (g5 _ (List.getElem_mem z)).kp kF
  exact q _ row HF ((k03.sm ez).trans kF) hsF r1 r2 r3 r4
end

end

section
section
variable {P : Program} {w : World} {K : PySem.W.Frag} {mg : Str → Option Value} {base : Heap} {A : CA}
def Rw.nm : Rw → Str
  | .chg k _ _ => k.nm
  | .swap _ _ => "swap"
  | .turn _ _ => "turn"
  | .mov k _ _ => k.nm
  | .nam k _ => k.nm
  | .blk k _ _ _ _ => k.nm
  | .held _ _ _ _ => "held"
def spWithin (K : PySem.W.Frag) : Sp := fun vs H Q _ => ∃ (v : V) (r : Rw), vs = [v] ∧ Dp K H v r.told ∧ ∀ (p : Addr) (us : List V) (H' : Hp), H p = none → Same H H' → H' p = some (.lst us) → DpAll K H' us (r.innerR.map fun l => .tuple (toldRs l)) → Q (.ref p) H'
theorem ok_L_within (T : Txt K mg A) : Cal P w K mg base CX0 "_law_within" 1 ["_law_row"] (spWithin K) := by
  refine T.d_L_within.ok sc_L_within (fun vs H Q E h => ?_) (fun f cdv Ar outer s H vs Q E hr h => ?_)
  · obtain ⟨v, r, rfl, _⟩ := h
    rfl
  obtain ⟨v, r, rfl, hD, q⟩ := h
  refine ⟨_, (pss_cons (ps_if (pt_cmpR (k_in K) (pe_ix (k_ix K) (pv 0) pe_int (fun _ _ => rfl)) (pe_tup (pa_cons pe_str (pa_cons pe_str pa_nil))) rfl) (pss_one (ps_ret (pe_lst (pa_cons (pe_ix (k_ix K) (pv 0) pe_int (fun _ _ => rfl)) (pa_cons (pe_ix (k_ix K) (pv 0) pe_int (fun _ _ => rfl)) pa_nil))))) pss_nil)
    (pss_one (ps_ret (pe_ifExp (pt_cmpR (k_eql K hr.units) (pe_ix (k_ix K) (pv 0) pe_int (fun _ _ => rfl)) pe_str (nomark _)) (pe_lst (pa_cons (pe_ix (k_ix K) (pv 0) pe_int (fun _ _ => rfl)) pa_nil)) (pe_lst pa_nil))))), ?_⟩
  have fst : ∃ a x xs ds, v = .ref a ∧ SqT K H a (V.str x :: xs) ∧ DpAll K H xs ds ∧ r.told = .tuple (.str x :: ds) ∧ x = r.nm := by
    cases r <;>
    · obtain ⟨a, xs, rfl, hS, hA⟩ := dp_tup hD
      obtain ⟨u, us, rfl, h1, h2⟩ := dpA_cons hA
      cases dp_str h1
      exact ⟨a, _, us, _, rfl, hS, h2, rfl, rfl⟩
  obtain ⟨a, x, xs, ds, rfl, hS, hA, hT, hx⟩ := fst
  walk_at "rd"
  refine rd_ix_t hS (atI_nat (j := 0) rfl) ?_
  walk_at "rd"
  refine rd_new (by simp) fun p1 H1 np1 e1 hp1 => ?_
  refine rd_in_nT (xs := ["choice", "loop"]) (SqT.of hp1) ?_
  have hS1 := seqT_sm e1 hS
  have hD1 := dp_sm e1 _ _ hD
  walk_at "rd"
  have leaf : ∀ {nm : Str}, x = nm → decide (nm ∈ (["choice", "loop"] : List Str)) = false → decide (nm = "held") = false → r.innerR = [] → True := fun _ _ _ _ => trivial
  cases r with
  | blk k t y n a2 =>
    have hx : x = k.nm := hx
    obtain ⟨a', x1, x2, x3, x4, x5, e', hS', d1, d2, d3, d4, d5⟩ := dp_five hD1
    cases e'
    have hb : decide (x ∈ (["choice", "loop"] : List Str)) = true := by
      rw [hx]
      cases k <;> decide +kernel
    rw [hb]
    walk_at "rd"
    refine rd_ix_t hS' (atI_nat (j := 2) rfl) ?_
    walk_at "rd"
    refine rd_ix_t hS' (atI_nat (j := 3) rfl) ?_
    walk_at "rd"
    refine rd_new (by simp) fun p2 H2 np2 e2 hp2 => ?_
    exact q p2 [x3, x4] H2 (free_back e1 np2) (e1.trans e2) hp2 (.cons (dp_sm e2 _ _ d3) (.cons (dp_sm e2 _ _ d4) .nil))
  | held b e y ff =>
    have hx : x = "held" := hx
    obtain ⟨a', x1, x2, x3, x4, x5, e', hS', d1, d2, d3, d4, d5⟩ := dp_five hD1
    cases e'
    have hb : decide (x ∈ (["choice", "loop"] : List Str)) = false := by
      rw [hx]
      decide +kernel
    rw [hb]
    walk_at "rd"
    refine rd_ix_t hS1 (atI_nat (j := 0) rfl) ?_
    walk_at "rd"
    refine rd_ix_t hS' (atI_nat (j := 3) rfl) ?_
    walk_at "rd"
    refine rd_new (by simp) fun p2 H2 np2 e2 hp2 => ?_
    exact q p2 [x4] H2 (free_back e1 np2) (e1.trans e2) hp2 (.cons (dp_sm e2 _ _ d4) .nil)
  | chg k =>
    have hx : x = k.nm := hx
    have hb : decide (x ∈ (["choice", "loop"] : List Str)) = false := by
      rw [hx]
      cases k <;> decide +kernel
    rw [hb]
    walk_at "rd"
    refine rd_ix_t hS1 (atI_nat (j := 0) rfl) ?_
    walk_at "rd"
    refine rd_false (decide_eq_false (by rw [hx]; cases k <;> decide +kernel)) ?_
    walk_at "rd"
    refine rd_new (by simp) fun p2 H2 np2 e2 hp2 => ?_
    exact q p2 [] H2 (free_back e1 np2) (e1.trans e2) hp2 .nil
  | swap  =>
    have hx : x = "swap" := hx
    have hb : decide (x ∈ (["choice", "loop"] : List Str)) = false := by
      rw [hx]
      decide +kernel
    rw [hb]
    walk_at "rd"
    refine rd_ix_t hS1 (atI_nat (j := 0) rfl) ?_
    walk_at "rd"
    refine rd_false (decide_eq_false (by rw [hx]; decide +kernel)) ?_
    walk_at "rd"
    refine rd_new (by simp) fun p2 H2 np2 e2 hp2 => ?_
    exact q p2 [] H2 (free_back e1 np2) (e1.trans e2) hp2 .nil
  | turn  =>
    have hx : x = "turn" := hx
    have hb : decide (x ∈ (["choice", "loop"] : List Str)) = false := by
      rw [hx]
      decide +kernel
    rw [hb]
    walk_at "rd"
    refine rd_ix_t hS1 (atI_nat (j := 0) rfl) ?_
    walk_at "rd"
    refine rd_false (decide_eq_false (by rw [hx]; decide +kernel)) ?_
    walk_at "rd"
    refine rd_new (by simp) fun p2 H2 np2 e2 hp2 => ?_
    exact q p2 [] H2 (free_back e1 np2) (e1.trans e2) hp2 .nil
  | mov k =>
    have hx : x = k.nm := hx
    have hb : decide (x ∈ (["choice", "loop"] : List Str)) = false := by
      rw [hx]
      cases k <;> decide +kernel
    rw [hb]
    walk_at "rd"
    refine rd_ix_t hS1 (atI_nat (j := 0) rfl) ?_
    walk_at "rd"
    refine rd_false (decide_eq_false (by rw [hx]; cases k <;> decide +kernel)) ?_
    walk_at "rd"
    refine rd_new (by simp) fun p2 H2 np2 e2 hp2 => ?_
    exact q p2 [] H2 (free_back e1 np2) (e1.trans e2) hp2 .nil
  | nam k =>
    have hx : x = k.nm := hx
    have hb : decide (x ∈ (["choice", "loop"] : List Str)) = false := by
      rw [hx]
      cases k <;> decide +kernel
    rw [hb]
    walk_at "rd"
    refine rd_ix_t hS1 (atI_nat (j := 0) rfl) ?_
    walk_at "rd"
    refine rd_false (decide_eq_false (by rw [hx]; cases k <;> decide +kernel)) ?_
    walk_at "rd"
    refine rd_new (by simp) fun p2 H2 np2 e2 hp2 => ?_
    exact q p2 [] H2 (free_back e1 np2) (e1.trans e2) hp2 .nil
theorem shaped_inner {r : Rw} (hw : r.wf) (hd : r.dp ≤ 6) : SeqAt.shaped (.list (r.innerR.map fun l => .tuple (toldRs l))) = true := by
  have key : ∀ ls : List (List Rw), (∀ l ∈ ls, wfRs l ∧ dpRs l ≤ 6) → PyData.canLayAll0 (ls.map fun l => .tuple (toldRs l)) = true ∧ PyData.depthAll (ls.map fun l => .tuple (toldRs l)) ≤ 30 := by
    intro ls
    induction ls with
    | nil => intro _; exact ⟨rfl, Nat.zero_le _⟩
    | cons l ls ih =>
      intro h
      obtain ⟨g1, g2⟩ := ih fun z hz => h z (List.mem_cons_of_mem _ hz)
      obtain ⟨h1, h2⟩ := h l (List.mem_cons_self ..)
      have h3 := deepRs l h1
      refine ⟨?_, ?_⟩
      · show (PyData.canLayAll0 (toldRs l) && PyData.canLayAll0 (ls.map fun l => .tuple (toldRs l))) = true
        simp [layRs l h1, g1]
      · show max (PyData.depthAll (toldRs l) + 1) (PyData.depthAll (ls.map fun l => .tuple (toldRs l))) ≤ 30
        omega
  obtain ⟨g1, g2⟩ := key r.innerR fun l hl => ⟨Rw.inner_wf hw l hl, by have := Rw.inner_dp hl; omega⟩
  show (PyData.canLayAll0 _ && decide (PyData.depthAll _ + 1 ≤ 64)) = true
  rw [g1]
  simp
  omega
theorem dpA_take {H : Hp} : ∀ {ds : List PyData} {xs : List V}, DpAll K H xs ds → ∀ n, DpAll K H (xs.take n) (ds.take n)
  | [], _, h, n => by
    cases dpA_nil h
    simp
    exact .nil
  | d :: ds, _, h, 0 => .nil
  | d :: ds, _, h, n + 1 => by
    obtain ⟨u, r, rfl, h1, h2⟩ := dpA_cons h
    exact .cons h1 (dpA_take h2 n)
theorem dpA_drop {H : Hp} : ∀ {ds : List PyData} {xs : List V}, DpAll K H xs ds → ∀ n, DpAll K H (xs.drop n) (ds.drop n)
  | [], _, h, n => by
    cases dpA_nil h
    simp
    exact .nil
  | d :: ds, _, h, 0 => h
  | d :: ds, _, h, n + 1 => by
    obtain ⟨u, r, rfl, h1, h2⟩ := dpA_cons h
    exact dpA_drop h2 n
theorem wfRs_take {rs : List Rw} (h : wfRs rs) (n : Nat) : wfRs (rs.take n) := wfRs_all.mpr fun r hr => wfRs_all.mp h r (List.mem_of_mem_take hr)
theorem wfRs_drop {rs : List Rw} (h : wfRs rs) (n : Nat) : wfRs (rs.drop n) := wfRs_all.mpr fun r hr => wfRs_all.mp h r (List.mem_of_mem_drop hr)
theorem dpRs_take (rs : List Rw) (n : Nat) : dpRs (rs.take n) ≤ dpRs rs := dpRs_all.mpr fun r hr => dpRs_all.mp (Nat.le_refl _) r (List.mem_of_mem_take hr)
theorem dpRs_drop (rs : List Rw) (n : Nat) : dpRs (rs.drop n) ≤ dpRs rs := dpRs_all.mpr fun r hr => dpRs_all.mp (Nat.le_refl _) r (List.mem_of_mem_drop hr)
theorem cntRs_split (rs : List Rw) (n : Nat) : cntRs (rs.take n) + cntRs (rs.drop n) = cntRs rs := by
  rw [← cntRs_app, List.take_append_drop]
theorem split_at {rs : List Rw} {m : Nat} {r : Rw} (h : rs[m]? = some r) : r.dp ≤ dpRs rs ∧ cntRs (rs.take m) + (r.cnt + cntRs (rs.drop (m + 1))) = cntRs rs := by
  refine ⟨dpRs_all.mp (Nat.le_refl _) r (List.mem_of_getElem? h), ?_⟩
  have e := cntRs_split rs m
  rw [drop_one h] at e
  exact e
def spPut (K : PySem.W.Frag) (n : Nat) : Sp := fun vs H Q _ => ∃ (s : Addr) (v bv : V) (rs : List Rw) (bad : Rw) (d : Int), vs = [.ref s, v, bv, .int d] ∧ Sta s H ∧ Dp K H v (.tuple (toldRs rs)) ∧ wfRs rs ∧ dpRs rs ≤ n + 2 ∧ cntRs rs ≤ 200 ∧ d + n = 5 ∧ Dp K H bv bad.told ∧ bad.wf ∧ bad.dp ≤ 2 ∧ bad.cnt ≤ 3 ∧ 1 ≤ n ∧ n ≤ 4 ∧
  ∀ (x : V) (rs' : List Rw) (H' : Hp), Kp [s] H H' → Sta s H' → Dp K H' x (.tuple (toldRs rs')) → wfRs rs' → dpRs rs' ≤ n + 2 → cntRs rs' = cntRs rs + bad.cnt → Q x H'
theorem ok_put_in (T : Txt K mg A) : ∀ n : Nat, Cal P w K mg base CX0 "_law_put_in" (n + 2) ["_law_state", "_law_rows", "_law_bad", "_law_deep"] (spPut K n)
  | 0 => T.d_L_put_in.never fun vs H Q E h => by
    obtain ⟨_, _, _, _, _, _, _, _, _, _, _, _, _, _, _, _, _, hn, _⟩ := h
    omega
  | n + 1 => by
    have c_L_put_in := ok_put_in T n
    have c_L_mix := ok_L_mix (P := P) (w := w) (base := base) T
    have c_L_within := ok_L_within (P := P) (w := w) (base := base) T
    refine T.d_L_put_in.ok sc_L_put_in (fun vs H Q E h => ?_) (fun f cdv Ar outer s H vs Q E hr h => ?_)
    · obtain ⟨s, v, bv, rs, bad, d, rfl, _⟩ := h
      rfl
    obtain ⟨s, v, bv, rs, bad, d, rfl, hs, hD, hw, hdp, hcn, hd, hB, hbw, hbd, hbc, hn1, hn4, q⟩ := h
    obtain ⟨a, xs, rfl, hS, hA⟩ := dp_tup hD
    have hxl : xs.length = rs.length := by rw [dpA_len hA, toldRs_map, List.length_map]
    have hlc := len_cnt rs
    refine ⟨_, (pss_cons (ps_set (i := 4) sc_L_put_in.nd rfl (by first | exact Or.inl rfl | exact Or.inr rfl) (pe_op op_mod (pe_cal c_L_mix hr (by omega) pass0 (pa_cons (pv 0) (pa_cons pe_int pa_nil))) (pe_op (k_plus K) (pe_callB (k_len K) (by rfl) T.b_len bt_len (pa_cons (pv 1) pa_nil)) pe_int)))
    (pss_cons (ps_if (PW.pt (pw_and (pt_cmpR op_lt (pv 4) (pe_callB (k_len K) (by rfl) T.b_len bt_len (pa_cons (pv 1) pa_nil)) (nomark _)) (pw_and (pt_cmpR op_lt (pv 3) pe_int (nomark _)) (pw_and (pt_cmpR (k_neq K hr.units) (pe_cal c_L_within hr (by omega) pass0 (pa_cons (pe_ix (k_ix K) (pv 1) (pv 4) (fun _ _ => rfl)) pa_nil)) (pe_lst pa_nil) (nomark _)) (pw_and1 (pt_cmpR op_gt (pe_op op_mod (pe_cal c_L_mix hr (by omega) pass0 (pa_cons (pv 0) (pa_cons pe_int pa_nil))) pe_int) pe_int (nomark _))))))) (pss_cons (ps_set (i := 5) sc_L_put_in.nd rfl (by first | exact Or.inl rfl | exact Or.inr rfl) (pe_ix (k_ix K) (pv 1) (pv 4) (fun _ _ => rfl)))
    (pss_cons (ps_set (i := 6) sc_L_put_in.nd rfl (by first | exact Or.inl rfl | exact Or.inr rfl) (pe_ifExp (pt_cmpR (k_eql K hr.units) (pe_ix (k_ix K) (pv 5) pe_int (fun _ _ => rfl)) pe_str (nomark _)) pe_int (pe_op (k_plus K) pe_int (pe_op op_mod (pe_cal c_L_mix hr (by omega) pass0 (pa_cons (pv 0) (pa_cons pe_int pa_nil))) pe_int))))
    (pss_cons (ps_set (i := 5) sc_L_put_in.nd rfl (by first | exact Or.inl rfl | exact Or.inr rfl) (pe_op (k_plus K) (pe_op (k_plus K) (pe_slice (k_sl K) (pv 5) po_none (po_some (pv 6))) (pe_tup (pa_cons (pe_cal c_L_put_in hr (by omega) pass0 (pa_cons (pv 0) (pa_cons (pe_ix (k_ix K) (pv 5) (pv 6) (fun _ _ => rfl)) (pa_cons (pv 2) (pa_cons (pe_op (k_plus K) (pv 3) pe_int) pa_nil))))) pa_nil))) (pe_slice (k_sl K) (pv 5) (po_some (pe_op (k_plus K) (pv 6) pe_int)) po_none)))
    (pss_one (ps_ret (pe_op (k_plus K) (pe_op (k_plus K) (pe_slice (k_sl K) (pv 1) po_none (po_some (pv 4))) (pe_tup (pa_cons (pv 5) pa_nil))) (pe_slice (k_sl K) (pv 1) (po_some (pe_op (k_plus K) (pv 4) pe_int)) po_none))))))) pss_nil)
    (pss_one (ps_ret (pe_op (k_plus K) (pe_op (k_plus K) (pe_slice (k_sl K) (pv 1) po_none (po_some (pv 4))) (pe_tup (pa_cons (pv 2) pa_nil))) (pe_slice (k_sl K) (pv 1) (po_some (pv 4)) po_none)))))), ?_⟩
    walk_at "rd"
    refine rd_mix hs fun r1 H1 _ k1 hs1 => ?_
    have hS1 := seqT_kp k1 hS
    have hA1 := dpAll_kp k1 _ _ (noLs_rows rs) hA
    have hB1 := dp_kp k1 _ _ (noL_row bad) hB
    walk_at "rd"
    refine rd_len_t hS1 ?_
    walk_at "rd"
    refine rd_mod (by omega) fun m hm => ?_
    walk_at "rd"
    refine rd_len_t hS1 ?_
    walk_at "rd"
    refine rd_both (fun hc => ?_) (fun hc => ?_)
    · have hc : (m : Int) < xs.length := of_decide_eq_true hc
      walk_at "rd"
      refine rd_both (fun hc2 => ?_) (fun hc2 => ?_)
      · have hc2 : d < 4 := of_decide_eq_true hc2
        have hml : m < xs.length := by omega
        obtain ⟨xm, hxm⟩ : ∃ xm, xs[m]? = some xm := ⟨_, List.getElem?_eq_getElem hml⟩
        obtain ⟨dm, hdm, hDm⟩ := dpA_get hA1 hxm
        rw [toldRs_map, List.getElem?_map] at hdm
        obtain ⟨r, hrm, rfl⟩ := Option.map_eq_some_iff.mp hdm
        have hmem := List.mem_of_getElem? hrm
        have hrw := wfRs_all.mp hw r hmem
        have hrd := dpRs_all.mp hdp r hmem
        walk_at "rd"
        refine rd_ix_t hS1 (atI_nat (j := m) hxm) ?_
        walk_at "rd"
        refine ⟨xm, r, rfl, hDm, fun p2 us H2 np2 e2 hp2 hA2 => ?_⟩
        walk_at "rd"
        refine rd_new (by simp) fun p3 H3 np3 e3 hp3 => ?_
        refine rd_ne_d (.lst (SqL.of (e3 _ _ hp2)) (dpAll_sm e3 _ _ hA2)) (.lst (SqL.of hp3) .nil) (shaped_inner hrw (by omega)) (by decide +kernel) ?_
        have e13 := e2.trans e3
        walk_at "rd"
        refine rd_both (fun hc3 => ?_) (fun hc3 => ?_)
        · walk_at "rd"
          refine rd_mix (hs1.sm e13) fun r4 H4 _ k4 hs4 => ?_
          walk_at "rd"
          refine rd_mod (by decide) fun m4 hm4 => ?_
          walk_at "rd"
          have k14 : Kp [s] H1 H4 := (sm_kp e13).trans k4
          refine rd_both (fun hc4 => ?_) (fun hc4 => ?_)
          · have hS4 := seqT_kp k14 hS1
            have hA4 := dpAll_kp k14 _ _ (noLs_rows rs) hA1
            have hB4 := dp_kp k14 _ _ (noL_row bad) hB1
            have hD4 := dp_kp k14 _ _ (noL_row r) hDm
            walk_at "rd"
            refine rd_ix_t hS4 (atI_nat (j := m) hxm) ?_
            walk_at "rd"
            cases r with
            | held b e y ff =>
              obtain ⟨ar, x1, x2, x3, x4, x5, rfl, hR6, d1, d2, d3, d4, d5⟩ := dp_five hD4
              cases dp_str d1
              cases dp_str d2
              obtain ⟨w1, w2, w3, w4⟩ := hrw
              have hrd' : 1 + dpRs y ≤ n + 1 + 2 := hrd
              have hcr := cnt_mem hmem
              have hcr' : 1 + cntRs y ≤ cntRs rs := hcr
              refine rd_ix_t hR6 (atI_nat (j := 0) rfl) ?_
              walk_at "rd"
              have H6e := Same.refl H4
              obtain ⟨H6, hH6⟩ : ∃ H6, H6 = H4 := ⟨_, rfl⟩
              subst hH6
              have hs6 := hs4
              have hS6 := hS4
              have hA6 := hA4
              have hB6 := hB4
              have k06 : Kp [s] H H6 := k1.trans k14
              walk_at "rd"
              refine rd_sl_t hR6 fun t1 I1 i1 j1 => ?_
              rw [show (some (3 : Int)) = some ((3 : Nat) : Int) from rfl, cutV_to] at j1
              walk_at "rd"
              refine rd_ix_t (seqT_sm i1 hR6) (atI_nat (j := 3) rfl) ?_
              walk_at "rd"
              refine ⟨s, _, bv, y, bad, _, rfl, hs6.sm i1, dp_sm i1 _ _ d4, w3, by omega, by omega, by omega, dp_sm i1 _ _ hB6, hbw, hbd, hbc, by omega, by omega, fun x8 rs8 I2 k8 hs8 hD8 w8 d8 c8 => ?_⟩
              have k68 : Kp [s] H6 I2 := (sm_kp i1).trans k8
              walk_at "rd"
              refine rd_new (by simp) fun t2 I3 nt2 i3 j3 => ?_
              refine rd_plus_t (seqT_sm i3 (seqT_kp k8 j1)) (SqT.of j3) (by simp) fun t4 I4 i4 j4 => ?_
              have i34 := i3.trans i4
              have hR9 := seqT_sm i34 (seqT_kp k68 hR6)
              walk_at "rd"
              refine rd_sl_t hR9 fun t5 I5 i5 j5 => ?_
              rw [show (some ((3 : Int) + 1)) = some ((4 : Nat) : Int) from rfl, cutV_from] at j5
              refine rd_plus_t (seqT_sm i5 j4) j5 (by simp) fun t6 I6 i6 j6 => ?_
              have i36 := (i34.trans i5).trans i6
              have kz := (k06.trans k68).sm i36
              have hsz := hs8.sm i36
              have k66 : Kp [s] H6 I6 := k68.sm i36
              have hSz := seqT_kp k66 hS6
              have hAz := dpAll_kp k66 _ _ (noLs_rows rs) hA6
              have HX : Dp K I6 (.ref t6) (Rw.held b e rs8 ff).told := .tup j6 (.cons (.str _) (.cons (.str _) (.cons (dp_sm i36 _ _ (dp_kp k68 _ _ (noL_told e) d3)) (.cons (dp_sm i36 _ _ hD8) (.cons (dp_sm i36 _ _ (dp_kp k68 _ _ (noL_told ff) d5)) .nil)))))
              walk_at "rd"
              refine rd_sl_t hSz fun q1 J1 f1 g1 => ?_
              rw [cutV_to] at g1
              walk_at "rd"
              refine rd_new (by simp) fun q2 J2 nq2 f2 g2 => ?_
              refine rd_plus_t (seqT_sm f2 g1) (SqT.of g2) (by rw [List.length_take]; simp; omega) fun q3 J3 f3 g3 => ?_
              have f13 := (f1.trans f2).trans f3
              walk_at "rd"
              refine rd_sl_t (seqT_sm f13 hSz) fun q4 J4 f4 g4 => ?_
              rw [show (m : Int) + 1 = ((m + 1 : Nat) : Int) from by omega, cutV_from] at g4
              refine rd_plus_t (seqT_sm f4 g3) g4 (by simp only [List.length_append, List.length_take, List.length_drop, List.length_cons, List.length_nil]; omega) fun q5 J5 f5 g5 => ?_
              have f15 := (f13.trans f4).trans f5
              have hA5 := dpAll_sm f15 _ _ hAz
              have hB5 := dp_sm f15 _ _ HX
              have hsp := split_at hrm
              have hcs : cntRs (rs.take m) + (Rw.cnt (.held b e y ff) + cntRs (rs.drop (m + 1))) = cntRs rs := by
                rw [hsp.2]
              have hds := hsp.1
              exact q _ (rs.take m ++ [(.held b e rs8 ff)] ++ rs.drop (m + 1)) J5 (kz.sm f15) (hsz.sm f15) (.tup g5 (by rw [toldRs_map, List.map_append, List.map_append, List.map_take, List.map_drop, ← toldRs_map]; exact dpA_app (dpA_app (dpA_take hA5 m) (.cons hB5 .nil)) (dpA_drop hA5 (m + 1)))) (wfRs_app.mpr ⟨wfRs_app.mpr ⟨wfRs_take hw m, (show Rw.wf (.held b e rs8 ff) from ⟨w1, w2, w8, w4⟩), trivial⟩, wfRs_drop hw (m + 1)⟩) (by rw [dpRs_app, dpRs_app]; have := dpRs_take rs m; have := dpRs_drop rs (m + 1); show max (max _ (max (1 + dpRs rs8) 0)) _ ≤ _; omega) (by rw [cntRs_app, cntRs_app]; show cntRs (rs.take m) + ((1 + cntRs rs8) + 0) + cntRs (rs.drop (m + 1)) = _; have hz := hcs; have hz2 : cntRs (rs.take m) + ((1 + cntRs y) + cntRs (rs.drop (m + 1))) = cntRs rs := hz; omega)
            | blk kb t y nn a2 =>
              obtain ⟨ar, x1, x2, x3, x4, x5, rfl, hR4, d1', d2', d3', d4', d5'⟩ := dp_five hD4
              cases dp_str d1'
              obtain ⟨w1, w2, w3, w4⟩ := hrw
              have hrd' : 1 + max (dpRs y) (dpRs nn) ≤ n + 1 + 2 := hrd
              have hcr := cnt_mem hmem
              have hcr' : 1 + (cntRs y + cntRs nn) ≤ cntRs rs := hcr
              refine rd_ix_t hR4 (atI_nat (j := 0) rfl) ?_
              walk_at "rd"
              refine rd_false (by cases kb <;> decide +kernel) ?_
              walk_at "rd"
              refine rd_mix hs4 fun r6 H6 _ k6 hs6 => ?_
              walk_at "rd"
              refine rd_mod (by decide) fun m6 hm6 => ?_
              have k06 : Kp [s] H H6 := (k1.trans k14).trans k6
              have hS6 := seqT_kp k6 hS4
              have hA6 := dpAll_kp k6 _ _ (noLs_rows rs) hA4
              have hB6 := dp_kp k6 _ _ (noL_row bad) hB4
              have hR6 := seqT_kp k6 hR4
              have d2 := dp_kp k6 _ _ (noL_told t) d2'
              have d3 := dp_kp k6 _ _ (noL_rows y) d3'
              have d4 := dp_kp k6 _ _ (noL_rows nn) d4'
              have d5 := dp_kp k6 _ _ (noL_told a2) d5'
              have z6 : m6 = 0 ∨ m6 = 1 := by omega
              rcases z6 with z6 | z6
              · subst z6
                walk_at "rd"
                rw [show (2 : Int) + ((0 : Nat) : Int) = 2 from rfl]
                refine rd_sl_t hR6 fun t1 I1 i1 j1 => ?_
                rw [show (some (2 : Int)) = some ((2 : Nat) : Int) from rfl, cutV_to] at j1
                walk_at "rd"
                refine rd_ix_t (seqT_sm i1 hR6) (atI_nat (j := 2) rfl) ?_
                walk_at "rd"
                refine ⟨s, _, bv, y, bad, _, rfl, hs6.sm i1, dp_sm i1 _ _ d3, w2, by omega, by omega, by omega, dp_sm i1 _ _ hB6, hbw, hbd, hbc, by omega, by omega, fun x8 rs8 I2 k8 hs8 hD8 w8 d8 c8 => ?_⟩
                have k68 : Kp [s] H6 I2 := (sm_kp i1).trans k8
                walk_at "rd"
                refine rd_new (by simp) fun t2 I3 nt2 i3 j3 => ?_
                refine rd_plus_t (seqT_sm i3 (seqT_kp k8 j1)) (SqT.of j3) (by simp) fun t4 I4 i4 j4 => ?_
                have i34 := i3.trans i4
                have hR9 := seqT_sm i34 (seqT_kp k68 hR6)
                walk_at "rd"
                refine rd_sl_t hR9 fun t5 I5 i5 j5 => ?_
                rw [show (some ((2 : Int) + 1)) = some ((3 : Nat) : Int) from rfl, cutV_from] at j5
                refine rd_plus_t (seqT_sm i5 j4) j5 (by simp) fun t6 I6 i6 j6 => ?_
                have i36 := (i34.trans i5).trans i6
                have kz := (k06.trans k68).sm i36
                have hsz := hs8.sm i36
                have k66 : Kp [s] H6 I6 := k68.sm i36
                have hSz := seqT_kp k66 hS6
                have hAz := dpAll_kp k66 _ _ (noLs_rows rs) hA6
                have HX : Dp K I6 (.ref t6) (Rw.blk kb t rs8 nn a2).told := .tup j6 (.cons (.str _) (.cons (dp_sm i36 _ _ (dp_kp k68 _ _ (noL_told t) d2)) (.cons (dp_sm i36 _ _ hD8) (.cons (dp_sm i36 _ _ (dp_kp k68 _ _ (noL_rows nn) d4)) (.cons (dp_sm i36 _ _ (dp_kp k68 _ _ (noL_told a2) d5)) .nil)))))
                walk_at "rd"
                refine rd_sl_t hSz fun q1 J1 f1 g1 => ?_
                rw [cutV_to] at g1
                walk_at "rd"
                refine rd_new (by simp) fun q2 J2 nq2 f2 g2 => ?_
                refine rd_plus_t (seqT_sm f2 g1) (SqT.of g2) (by rw [List.length_take]; simp; omega) fun q3 J3 f3 g3 => ?_
                have f13 := (f1.trans f2).trans f3
                walk_at "rd"
                refine rd_sl_t (seqT_sm f13 hSz) fun q4 J4 f4 g4 => ?_
                rw [show (m : Int) + 1 = ((m + 1 : Nat) : Int) from by omega, cutV_from] at g4
                refine rd_plus_t (seqT_sm f4 g3) g4 (by simp only [List.length_append, List.length_take, List.length_drop, List.length_cons, List.length_nil]; omega) fun q5 J5 f5 g5 => ?_
                have f15 := (f13.trans f4).trans f5
                have hA5 := dpAll_sm f15 _ _ hAz
                have hB5 := dp_sm f15 _ _ HX
                have hsp := split_at hrm
                have hcs : cntRs (rs.take m) + (Rw.cnt (.blk kb t y nn a2) + cntRs (rs.drop (m + 1))) = cntRs rs := by
                  rw [hsp.2]
                have hds := hsp.1
                exact q _ (rs.take m ++ [(.blk kb t rs8 nn a2)] ++ rs.drop (m + 1)) J5 (kz.sm f15) (hsz.sm f15) (.tup g5 (by rw [toldRs_map, List.map_append, List.map_append, List.map_take, List.map_drop, ← toldRs_map]; exact dpA_app (dpA_app (dpA_take hA5 m) (.cons hB5 .nil)) (dpA_drop hA5 (m + 1)))) (wfRs_app.mpr ⟨wfRs_app.mpr ⟨wfRs_take hw m, (show Rw.wf (.blk kb t rs8 nn a2) from ⟨w1, w8, w3, w4⟩), trivial⟩, wfRs_drop hw (m + 1)⟩) (by rw [dpRs_app, dpRs_app]; have := dpRs_take rs m; have := dpRs_drop rs (m + 1); show max (max _ (max (1 + max (dpRs rs8) (dpRs nn)) 0)) _ ≤ _; omega) (by rw [cntRs_app, cntRs_app]; show cntRs (rs.take m) + ((1 + (cntRs rs8 + cntRs nn)) + 0) + cntRs (rs.drop (m + 1)) = _; have hz := hcs; have hz2 : cntRs (rs.take m) + ((1 + (cntRs y + cntRs nn)) + cntRs (rs.drop (m + 1))) = cntRs rs := hz; omega)
              · subst z6
                walk_at "rd"
                rw [show (2 : Int) + ((1 : Nat) : Int) = 3 from rfl]
                refine rd_sl_t hR6 fun t1 I1 i1 j1 => ?_
                rw [show (some (3 : Int)) = some ((3 : Nat) : Int) from rfl, cutV_to] at j1
                walk_at "rd"
                refine rd_ix_t (seqT_sm i1 hR6) (atI_nat (j := 3) rfl) ?_
                walk_at "rd"
                refine ⟨s, _, bv, nn, bad, _, rfl, hs6.sm i1, dp_sm i1 _ _ d4, w3, by omega, by omega, by omega, dp_sm i1 _ _ hB6, hbw, hbd, hbc, by omega, by omega, fun x8 rs8 I2 k8 hs8 hD8 w8 d8 c8 => ?_⟩
                have k68 : Kp [s] H6 I2 := (sm_kp i1).trans k8
                walk_at "rd"
                refine rd_new (by simp) fun t2 I3 nt2 i3 j3 => ?_
                refine rd_plus_t (seqT_sm i3 (seqT_kp k8 j1)) (SqT.of j3) (by simp) fun t4 I4 i4 j4 => ?_
                have i34 := i3.trans i4
                have hR9 := seqT_sm i34 (seqT_kp k68 hR6)
                walk_at "rd"
                refine rd_sl_t hR9 fun t5 I5 i5 j5 => ?_
                rw [show (some ((3 : Int) + 1)) = some ((4 : Nat) : Int) from rfl, cutV_from] at j5
                refine rd_plus_t (seqT_sm i5 j4) j5 (by simp) fun t6 I6 i6 j6 => ?_
                have i36 := (i34.trans i5).trans i6
                have kz := (k06.trans k68).sm i36
                have hsz := hs8.sm i36
                have k66 : Kp [s] H6 I6 := k68.sm i36
                have hSz := seqT_kp k66 hS6
                have hAz := dpAll_kp k66 _ _ (noLs_rows rs) hA6
                have HX : Dp K I6 (.ref t6) (Rw.blk kb t y rs8 a2).told := .tup j6 (.cons (.str _) (.cons (dp_sm i36 _ _ (dp_kp k68 _ _ (noL_told t) d2)) (.cons (dp_sm i36 _ _ (dp_kp k68 _ _ (noL_rows y) d3)) (.cons (dp_sm i36 _ _ hD8) (.cons (dp_sm i36 _ _ (dp_kp k68 _ _ (noL_told a2) d5)) .nil)))))
                walk_at "rd"
                refine rd_sl_t hSz fun q1 J1 f1 g1 => ?_
                rw [cutV_to] at g1
                walk_at "rd"
                refine rd_new (by simp) fun q2 J2 nq2 f2 g2 => ?_
                refine rd_plus_t (seqT_sm f2 g1) (SqT.of g2) (by rw [List.length_take]; simp; omega) fun q3 J3 f3 g3 => ?_
                have f13 := (f1.trans f2).trans f3
                walk_at "rd"
                refine rd_sl_t (seqT_sm f13 hSz) fun q4 J4 f4 g4 => ?_
                rw [show (m : Int) + 1 = ((m + 1 : Nat) : Int) from by omega, cutV_from] at g4
                refine rd_plus_t (seqT_sm f4 g3) g4 (by simp only [List.length_append, List.length_take, List.length_drop, List.length_cons, List.length_nil]; omega) fun q5 J5 f5 g5 => ?_
                have f15 := (f13.trans f4).trans f5
                have hA5 := dpAll_sm f15 _ _ hAz
                have hB5 := dp_sm f15 _ _ HX
                have hsp := split_at hrm
                have hcs : cntRs (rs.take m) + (Rw.cnt (.blk kb t y nn a2) + cntRs (rs.drop (m + 1))) = cntRs rs := by
                  rw [hsp.2]
                have hds := hsp.1
                exact q _ (rs.take m ++ [(.blk kb t y rs8 a2)] ++ rs.drop (m + 1)) J5 (kz.sm f15) (hsz.sm f15) (.tup g5 (by rw [toldRs_map, List.map_append, List.map_append, List.map_take, List.map_drop, ← toldRs_map]; exact dpA_app (dpA_app (dpA_take hA5 m) (.cons hB5 .nil)) (dpA_drop hA5 (m + 1)))) (wfRs_app.mpr ⟨wfRs_app.mpr ⟨wfRs_take hw m, (show Rw.wf (.blk kb t y rs8 a2) from ⟨w1, w2, w8, w4⟩), trivial⟩, wfRs_drop hw (m + 1)⟩) (by rw [dpRs_app, dpRs_app]; have := dpRs_take rs m; have := dpRs_drop rs (m + 1); show max (max _ (max (1 + max (dpRs y) (dpRs rs8)) 0)) _ ≤ _; omega) (by rw [cntRs_app, cntRs_app]; show cntRs (rs.take m) + ((1 + (cntRs y + cntRs rs8)) + 0) + cntRs (rs.drop (m + 1)) = _; have hz := hcs; have hz2 : cntRs (rs.take m) + ((1 + (cntRs y + cntRs nn)) + cntRs (rs.drop (m + 1))) = cntRs rs := hz; omega)
            | chg => cases hc3
            | swap => cases hc3
            | turn => cases hc3
            | mov => cases hc3
            | nam => cases hc3
          · have kz := k1.trans k14
            have hsz := hs4
            have hSz := seqT_kp k14 hS1
            have hAz := dpAll_kp k14 _ _ (noLs_rows rs) hA1
            have hBz := dp_kp k14 _ _ (noL_row bad) hB1
            walk_at "rd"
            refine rd_sl_t hSz fun q1 J1 f1 g1 => ?_
            rw [cutV_to] at g1
            walk_at "rd"
            refine rd_new (by simp) fun q2 J2 nq2 f2 g2 => ?_
            refine rd_plus_t (seqT_sm f2 g1) (SqT.of g2) (by rw [List.length_take]; simp; omega) fun q3 J3 f3 g3 => ?_
            have f13 := (f1.trans f2).trans f3
            walk_at "rd"
            refine rd_sl_t (seqT_sm f13 hSz) fun q4 J4 f4 g4 => ?_
            rw [cutV_from] at g4
            refine rd_plus_t (seqT_sm f4 g3) g4 (by simp only [List.length_append, List.length_take, List.length_drop, List.length_cons, List.length_nil]; omega) fun q5 J5 f5 g5 => ?_
            have f15 := (f13.trans f4).trans f5
            have hA5 := dpAll_sm f15 _ _ hAz
            have hB5 := dp_sm f15 _ _ hBz
            exact q _ (rs.take m ++ [bad] ++ rs.drop m) J5 (kz.sm f15) (hsz.sm f15) (.tup g5 (by rw [toldRs_map, List.map_append, List.map_append, List.map_take, List.map_drop, ← toldRs_map]; exact dpA_app (dpA_app (dpA_take hA5 m) (.cons hB5 .nil)) (dpA_drop hA5 m))) (wfRs_app.mpr ⟨wfRs_app.mpr ⟨wfRs_take hw m, hbw, trivial⟩, wfRs_drop hw m⟩) (by rw [dpRs_app, dpRs_app]; have := dpRs_take rs m; have := dpRs_drop rs m; show max (max _ (max bad.dp 0)) _ ≤ _; omega) (by rw [cntRs_app, cntRs_app]; have := cntRs_split rs m; show cntRs (rs.take m) + (bad.cnt + 0) + cntRs (rs.drop m) = _; omega)
        · have kz := k1.sm e13
          have hsz := hs1.sm e13
          have hSz := seqT_sm e13 hS1
          have hAz := dpAll_sm e13 _ _ hA1
          have hBz := dp_sm e13 _ _ hB1
          walk_at "rd"
          refine rd_sl_t hSz fun q1 J1 f1 g1 => ?_
          rw [cutV_to] at g1
          walk_at "rd"
          refine rd_new (by simp) fun q2 J2 nq2 f2 g2 => ?_
          refine rd_plus_t (seqT_sm f2 g1) (SqT.of g2) (by rw [List.length_take]; simp; omega) fun q3 J3 f3 g3 => ?_
          have f13 := (f1.trans f2).trans f3
          walk_at "rd"
          refine rd_sl_t (seqT_sm f13 hSz) fun q4 J4 f4 g4 => ?_
          rw [cutV_from] at g4
          refine rd_plus_t (seqT_sm f4 g3) g4 (by simp only [List.length_append, List.length_take, List.length_drop, List.length_cons, List.length_nil]; omega) fun q5 J5 f5 g5 => ?_
          have f15 := (f13.trans f4).trans f5
          have hA5 := dpAll_sm f15 _ _ hAz
          have hB5 := dp_sm f15 _ _ hBz
          exact q _ (rs.take m ++ [bad] ++ rs.drop m) J5 (kz.sm f15) (hsz.sm f15) (.tup g5 (by rw [toldRs_map, List.map_append, List.map_append, List.map_take, List.map_drop, ← toldRs_map]; exact dpA_app (dpA_app (dpA_take hA5 m) (.cons hB5 .nil)) (dpA_drop hA5 m))) (wfRs_app.mpr ⟨wfRs_app.mpr ⟨wfRs_take hw m, hbw, trivial⟩, wfRs_drop hw m⟩) (by rw [dpRs_app, dpRs_app]; have := dpRs_take rs m; have := dpRs_drop rs m; show max (max _ (max bad.dp 0)) _ ≤ _; omega) (by rw [cntRs_app, cntRs_app]; have := cntRs_split rs m; show cntRs (rs.take m) + (bad.cnt + 0) + cntRs (rs.drop m) = _; omega)
      · have kz := k1
        have hsz := hs1
        have hSz := hS1
        have hAz := hA1
        have hBz := hB1
        walk_at "rd"
        refine rd_sl_t hSz fun q1 J1 f1 g1 => ?_
        rw [cutV_to] at g1
        walk_at "rd"
        refine rd_new (by simp) fun q2 J2 nq2 f2 g2 => ?_
        refine rd_plus_t (seqT_sm f2 g1) (SqT.of g2) (by rw [List.length_take]; simp; omega) fun q3 J3 f3 g3 => ?_
        have f13 := (f1.trans f2).trans f3
        walk_at "rd"
        refine rd_sl_t (seqT_sm f13 hSz) fun q4 J4 f4 g4 => ?_
        rw [cutV_from] at g4
        refine rd_plus_t (seqT_sm f4 g3) g4 (by simp only [List.length_append, List.length_take, List.length_drop, List.length_cons, List.length_nil]; omega) fun q5 J5 f5 g5 => ?_
        have f15 := (f13.trans f4).trans f5
        have hA5 := dpAll_sm f15 _ _ hAz
        have hB5 := dp_sm f15 _ _ hBz
        exact q _ (rs.take m ++ [bad] ++ rs.drop m) J5 (kz.sm f15) (hsz.sm f15) (.tup g5 (by rw [toldRs_map, List.map_append, List.map_append, List.map_take, List.map_drop, ← toldRs_map]; exact dpA_app (dpA_app (dpA_take hA5 m) (.cons hB5 .nil)) (dpA_drop hA5 m))) (wfRs_app.mpr ⟨wfRs_app.mpr ⟨wfRs_take hw m, hbw, trivial⟩, wfRs_drop hw m⟩) (by rw [dpRs_app, dpRs_app]; have := dpRs_take rs m; have := dpRs_drop rs m; show max (max _ (max bad.dp 0)) _ ≤ _; omega) (by rw [cntRs_app, cntRs_app]; have := cntRs_split rs m; show cntRs (rs.take m) + (bad.cnt + 0) + cntRs (rs.drop m) = _; omega)
    · have kz := k1
      have hsz := hs1
      have hSz := hS1
      have hAz := hA1
      have hBz := hB1
      walk_at "rd"
      refine rd_sl_t hSz fun q1 J1 f1 g1 => ?_
      rw [cutV_to] at g1
      walk_at "rd"
      refine rd_new (by simp) fun q2 J2 nq2 f2 g2 => ?_
      refine rd_plus_t (seqT_sm f2 g1) (SqT.of g2) (by rw [List.length_take]; simp; omega) fun q3 J3 f3 g3 => ?_
      have f13 := (f1.trans f2).trans f3
      walk_at "rd"
      refine rd_sl_t (seqT_sm f13 hSz) fun q4 J4 f4 g4 => ?_
      rw [cutV_from] at g4
      refine rd_plus_t (seqT_sm f4 g3) g4 (by simp only [List.length_append, List.length_take, List.length_drop, List.length_cons, List.length_nil]; omega) fun q5 J5 f5 g5 => ?_
      have f15 := (f13.trans f4).trans f5
      have hA5 := dpAll_sm f15 _ _ hAz
      have hB5 := dp_sm f15 _ _ hBz
      exact q _ (rs.take m ++ [bad] ++ rs.drop m) J5 (kz.sm f15) (hsz.sm f15) (.tup g5 (by rw [toldRs_map, List.map_append, List.map_append, List.map_take, List.map_drop, ← toldRs_map]; exact dpA_app (dpA_app (dpA_take hA5 m) (.cons hB5 .nil)) (dpA_drop hA5 m))) (wfRs_app.mpr ⟨wfRs_app.mpr ⟨wfRs_take hw m, hbw, trivial⟩, wfRs_drop hw m⟩) (by rw [dpRs_app, dpRs_app]; have := dpRs_take rs m; have := dpRs_drop rs m; show max (max _ (max bad.dp 0)) _ ≤ _; omega) (by rw [cntRs_app, cntRs_app]; have := cntRs_split rs m; show cntRs (rs.take m) + (bad.cnt + 0) + cntRs (rs.drop m) = _; omega)

end

end

section
section
variable {P : Program} {w : World} {K : PySem.W.Frag} {mg : Str → Option Value} {base : Heap} {A : CA}
theorem take_one_drop {α : Type} (l : List α) (j : Nat) (a x : α) (h : l[j]? = some a) : l.take j ++ [x] ++ l.drop (j + 1) = l.set j x := by
  have hj := (List.getElem?_eq_some_iff.mp h).1
  rw [List.set_eq_take_append_cons_drop, if_pos hj, List.append_assoc]
  rfl
/-- the program told, one row spoilt -/
def spSpoilt (K : PySem.W.Frag) : Sp := fun vs H Q _ => ∃ (s wd : Addr) (v : V) (W : WD) (R : Int) (p : Pg), vs = [.ref s, v, .ref wd] ∧ Sta s H ∧ Wd s wd W R H ∧ Dp K H v p.told ∧ p.wf ∧ cntL p.rt ≤ 35 ∧
  ∀ (x : V) (p' : Pg) (H' : Hp), Kp [s] H H' → Sta s H' → Dp K H' x p'.told → p'.wf → Q x H'
theorem noLs_strs : ∀ xs : List Str, noLs (xs.map PyData.str) = true
  | [] => rfl
  | x :: xs => by
    show (noL (.str x) && noLs (xs.map PyData.str)) = true
    rw [noLs_strs xs] <;> rfl
theorem noL_pg (p : Pg) : noL p.told = true := by
  show (noLs (p.bx.map PyData.str) && (noLs (p.st.map PyData.str) && (noLs (p.rt.map Pg.toldR) && true))) = true
  rw [noLs_strs, noLs_strs, noL_rts] <;> rfl
theorem ok_spoilt (T : Txt K mg A) : Cal P w K mg base CX0 "_law_spoilt" 7 ["_law_state", "_law_told", "_law_world_here"] (spSpoilt K) := by
  have c_L_mix := ok_L_mix (P := P) (w := w) (base := base) T
  have c_L_bad_row := ok_bad_row (P := P) (w := w) (base := base) T
  have c_L_put_in := ok_put_in (P := P) (w := w) (base := base) T 4
  refine T.d_L_spoilt.ok sc_L_spoilt (fun vs H Q E h => ?_) (fun f cdv Ar outer s H vs Q E hr h => ?_)
  · obtain ⟨s, wd, v, W, R, p, rfl, _⟩ := h
    rfl
  obtain ⟨s, wd, v, W, R, p, rfl, hs, hW, hD, hw, hc, q⟩ := h
  obtain ⟨a, x1, x2, x3, rfl, hS, d1, d2, d3⟩ := dp_three hD
  obtain ⟨a3, xs, rfl, hS3, hA⟩ := dp_tup d3
  have hxl : xs.length = p.rt.length := by rw [dpA_len hA, List.length_map]
  have r1 := hw.r1
  have r2 := hw.r2
  refine ⟨_, (pss_cons (ps_set (i := 3) sc_L_spoilt.nd rfl (by first | exact Or.inl rfl | exact Or.inr rfl) (pe_op op_mod (pe_cal c_L_mix hr (by omega) pass0 (pa_cons (pv 0) (pa_cons pe_int pa_nil))) (pe_callB (k_len K) (by rfl) T.b_len bt_len (pa_cons (pe_ix (k_ix K) (pv 1) pe_int (fun _ _ => rfl)) pa_nil))))
    (pss_cons (ps_asg (pe_ix (k_ix K) (pe_ix (k_ix K) (pv 1) pe_int (fun _ _ => rfl)) (pv 3) (fun _ _ => rfl)) (k_gtup K (n := 2) rfl (pgs_cons (pg_name (i := 4) sc_L_spoilt.nd rfl (by first | exact Or.inl rfl | exact Or.inr rfl)) (pgs_cons (pg_name (i := 5) sc_L_spoilt.nd rfl (by first | exact Or.inl rfl | exact Or.inr rfl)) pgs_nil))))
    (pss_cons (ps_set (i := 5) sc_L_spoilt.nd rfl (by first | exact Or.inl rfl | exact Or.inr rfl) (pe_cal c_L_put_in hr (by omega) pass0 (pa_cons (pv 0) (pa_cons (pv 5) (pa_cons (pe_cal c_L_bad_row hr (by omega) pass0 (pa_cons (pv 0) (pa_cons (pv 2) pa_nil))) (pa_cons pe_int pa_nil))))))
    (pss_one (ps_ret (pe_op (k_plus K) (pe_slice (k_sl K) (pv 1) po_none (po_some pe_int)) (pe_tup (pa_cons (pe_op (k_plus K) (pe_op (k_plus K) (pe_slice (k_sl K) (pe_ix (k_ix K) (pv 1) pe_int (fun _ _ => rfl)) po_none (po_some (pv 3))) (pe_tup (pa_cons (pe_tup (pa_cons (pv 4) (pa_cons (pv 5) pa_nil))) pa_nil))) (pe_slice (k_sl K) (pe_ix (k_ix K) (pv 1) pe_int (fun _ _ => rfl)) (po_some (pe_op (k_plus K) (pv 3) pe_int)) po_none)) pa_nil)))))))), ?_⟩
  walk_at "rd"
  refine rd_mix hs fun r1' H1 _ k1 hs1 => ?_
  have hS1 := seqT_kp k1 hS
  have hS31 := seqT_kp k1 hS3
  have hA1 := dpAll_kp k1 _ _ (noL_rts p.rt) hA
  walk_at "rd"
  refine rd_ix_t hS1 (atI_nat (j := 2) rfl) ?_
  walk_at "rd"
  refine rd_len_t hS31 ?_
  refine rd_mod (by omega) fun m hm => ?_
  have hml : m < xs.length := by omega
  obtain ⟨xm, hxm⟩ : ∃ xm, xs[m]? = some xm := ⟨_, List.getElem?_eq_getElem hml⟩
  obtain ⟨dm, hdm, hDm⟩ := dpA_get hA1 hxm
  rw [List.getElem?_map] at hdm
  obtain ⟨pr, hpr, rfl⟩ := Option.map_eq_some_iff.mp hdm
  have hmem := List.mem_of_getElem? hpr
  obtain ⟨ap, y1, y2, rfl, hSp, e1, e2⟩ := dp_two hDm
  cases dp_str e1
  walk_at "rd"
  refine rd_ix_t hS1 (atI_nat (j := 2) rfl) ?_
  walk_at "rd"
  refine rd_ix_t hS31 (atI_nat (j := m) hxm) ?_
  refine rd_gtup hSp rfl ?_
  refine rd_gcons ?_
  refine rd_name ?_
  refine rd_gcons ?_
  refine rd_name ?_
  refine rd_gnil ?_
  walk_at "rd"
  refine ⟨s, wd, W, R, rfl, hs1, hW.one k1, fun bv bad H2 k2 hs2 hB wb db cb => ?_⟩
  walk_at "rd"
  have hcm := cntL_mem hmem
  refine ⟨s, y2, bv, pr.2, bad, 1, rfl, hs2, dp_kp k2 _ _ (noL_rows pr.2) e2, hw.rw pr hmem, hw.rd pr hmem, by omega, by omega, hB, wb, db, cb, by omega, by omega, fun x4 rs' H4 k4 hs4 hD4 w4 d4 c4 => ?_⟩
  have k14 := k2.trans k4
  have hS4 := seqT_kp k14 hS1
  have hS34 := seqT_kp k14 hS31
  have hA4 := dpAll_kp k14 _ _ (noL_rts p.rt) hA1
  walk_at "rd"
  refine rd_sl_t hS4 fun t1 I1 i1 j1 => ?_
  rw [show (some (2 : Int)) = some ((2 : Nat) : Int) from rfl, cutV_to] at j1
  walk_at "rd"
  refine rd_ix_t (seqT_sm i1 hS4) (atI_nat (j := 2) rfl) ?_
  walk_at "rd"
  refine rd_sl_t (seqT_sm i1 hS34) fun t2 I2 i2 j2 => ?_
  rw [cutV_to] at j2
  walk_at "rd"
  refine rd_new (by simp) fun t3 I3 nt3 i3 j3 => ?_
  walk_at "rd"
  refine rd_new (by simp) fun t4 I4 nt4 i4 j4 => ?_
  have i34 := i3.trans i4
  refine rd_plus_t (seqT_sm i34 j2) (SqT.of j4) (by rw [List.length_take]; simp; omega) fun t5 I5 i5 j5 => ?_
  have i15 := ((i1.trans i2).trans i34).trans i5
  walk_at "rd"
  refine rd_ix_t (seqT_sm i15 hS4) (atI_nat (j := 2) rfl) ?_
  walk_at "rd"
  refine rd_sl_t (seqT_sm i15 hS34) fun t6 I6 i6 j6 => ?_
  rw [show (m : Int) + 1 = ((m + 1 : Nat) : Int) from by omega, cutV_from] at j6
  refine rd_plus_t (seqT_sm i6 j5) j6 (by simp only [List.length_append, List.length_take, List.length_drop, List.length_cons, List.length_nil]; omega) fun t7 I7 i7 j7 => ?_
  walk_at "rd"
  refine rd_new (by simp) fun t8 I8 nt8 i8 j8 => ?_
  have i28 := (((i2.trans i34).trans i5).trans i6).trans (i7.trans i8)
  refine rd_plus_t (seqT_sm i28 j1) (SqT.of j8) (by simp) fun t9 I9 i9 j9 => ?_
  have i39 := ((i4.trans i5).trans i6).trans ((i7.trans i8).trans i9)
  have i49 := (i1.trans i28).trans i9
  have hA9 := dpAll_sm i49 _ _ hA4
  have hpair : Dp K I9 (.ref t3) (Pg.toldR (pr.1, rs')) := .tup (SqT.of (i39 _ _ j3)) (.cons (.str _) (.cons (dp_sm (((i1.trans i2).trans i3).trans i39) _ _ hD4) .nil))
  have hrts : Dp K I9 (.ref t7) (.tuple ((p.rt.take m ++ [(pr.1, rs')] ++ p.rt.drop (m + 1)).map Pg.toldR)) := .tup (seqT_sm (i8.trans i9) j7) (by
    rw [List.map_append, List.map_append, List.map_take, List.map_drop]
    exact dpA_app (dpA_app (dpA_take hA9 m) (.cons hpair .nil)) (dpA_drop hA9 (m + 1)))
  have hk49 : Kp [s] H I9 := (k1.trans k14).sm i49
  have g1 := dp_kp hk49 (.tuple (p.bx.map PyData.str)) _ (noLs_strs p.bx) d1
  have g2 := dp_kp hk49 (.tuple (p.st.map PyData.str)) _ (noLs_strs p.st) d2
  have hset := take_one_drop p.rt m pr (pr.1, rs') hpr
  have hmm : ∀ y ∈ p.rt.take m ++ [(pr.1, rs')] ++ p.rt.drop (m + 1), y ∈ p.rt ∨ y = (pr.1, rs') := fun y hy => by
    rcases List.mem_append.mp hy with h | h
    · rcases List.mem_append.mp h with h | h
      · exact .inl (List.mem_of_mem_take h)
      · exact .inr (List.mem_singleton.mp h)
    · exact .inl (List.mem_of_mem_drop h)
  have hlen : (p.rt.take m ++ [(pr.1, rs')] ++ p.rt.drop (m + 1)).length = p.rt.length := by rw [hset, List.length_set]
  have hcnt : cntL (p.rt.take m ++ [(pr.1, rs')] ++ p.rt.drop (m + 1)) ≤ 80 := by
    have z1 : cntL p.rt = cntL (p.rt.take m) + (cntRs pr.2 + cntL (p.rt.drop (m + 1))) := by
      have e : p.rt = p.rt.take m ++ p.rt.drop m := (List.take_append_drop m p.rt).symm
      rw [drop_one hpr] at e
      conv => lhs; rw [e]
      unfold cntL
      rw [List.map_append, List.sum_append, List.map_cons, List.sum_cons]
    have z2 : cntL (p.rt.take m ++ [(pr.1, rs')] ++ p.rt.drop (m + 1)) = cntL (p.rt.take m) + cntRs rs' + cntL (p.rt.drop (m + 1)) := by
      unfold cntL
      rw [List.map_append, List.map_append, List.sum_append, List.sum_append]
      simp
    omega
  refine q _ ⟨p.bx, p.st, p.rt.take m ++ [(pr.1, rs')] ++ p.rt.drop (m + 1)⟩ I9 hk49 (hs4.sm i49) (.tup j9 (.cons g1 (.cons g2 (.cons hrts .nil)))) ?_
  exact { b1 := hw.b1, b2 := hw.b2, s2 := hw.s2, r1 := (by show 1 ≤ List.length _; rw [hlen]; omega), r2 := (by show List.length _ ≤ 8; rw [hlen]; omega), bn := hw.bn, sn := hw.sn, rn := (fun y hy => (hmm y hy).elim (hw.rn y) (fun z => by rw [z]; exact hw.rn pr hmem)), rw := (fun y hy => (hmm y hy).elim (hw.rw y) (fun z => by rw [z]; exact w4)), rd := (fun y hy => (hmm y hy).elim (hw.rd y) (fun z => by rw [z]; exact d4)), rc := hcnt }
end

end

section
section
variable {P : Program} {w : World} {K : PySem.W.Frag} {mg : Str → Option Value} {base : Heap} {A : CA}
/-! # the law's own look -/
def Sy.nm : Sy → Str
  | .num _ => "number"
  | .box _ => "box"
  | .many _ => "many"
  | .top _ => "top"
  | .not _ => "not"
  | .pair s _ _ => s
/-- what stands behind a saying's word: sayings, and what is none -/
def Sy.bits : Sy → List (Option Sy)
  | .not t => [some t]
  | .pair _ a b => [some a, some b]
  | _ => [none]
def bitF (f : Sy → List Str) : Option Sy → List Str
  | some t => f t
  | none => []
def BitR (K : PySem.W.Frag) (H : Hp) (b : Option Sy) (v : V) : Prop := match b with
  | some t => Dp K H v t.told
  | none => (∃ i, v = .int i) ∨ ∃ x, v = .str x
theorem told_head {H : Hp} {v : V} {t : Sy} (h : Dp K H v t.told) : ∃ a nm xs, v = .ref a ∧ SqT K H a (V.str nm :: xs) ∧ Paired (BitR K H) t.bits xs ∧ nm = t.nm := by
  cases t with
  | pair s b c =>
    obtain ⟨a, x, y, z, rfl, hS, d1, d2, d3⟩ := dp_three h
    cases dp_str d1
    exact ⟨a, _, _, rfl, hS, .cons d2 (.cons d3 .nil), rfl⟩
  | not b =>
    obtain ⟨a, x, y, rfl, hS, d1, d2⟩ := dp_two h
    cases dp_str d1
    exact ⟨a, _, _, rfl, hS, .cons d2 .nil, rfl⟩
  | num i =>
    obtain ⟨a, x, y, rfl, hS, d1, d2⟩ := dp_two h
    cases dp_str d1
    exact ⟨a, _, _, rfl, hS, .cons (.inl ⟨_, dp_int d2⟩) .nil, rfl⟩
  | box i =>
    obtain ⟨a, x, y, rfl, hS, d1, d2⟩ := dp_two h
    cases dp_str d1
    exact ⟨a, _, _, rfl, hS, .cons (.inr ⟨_, dp_str d2⟩) .nil, rfl⟩
  | many i =>
    obtain ⟨a, x, y, rfl, hS, d1, d2⟩ := dp_two h
    cases dp_str d1
    exact ⟨a, _, _, rfl, hS, .cons (.inr ⟨_, dp_str d2⟩) .nil, rfl⟩
  | top i =>
    obtain ⟨a, x, y, rfl, hS, d1, d2⟩ := dp_two h
    cases dp_str d1
    exact ⟨a, _, _, rfl, hS, .cons (.inr ⟨_, dp_str d2⟩) .nil, rfl⟩
theorem Sy.bit_dp {t u : Sy} (h : some u ∈ t.bits) : u.dp < t.dp := by
  cases t with
  | not b =>
    have e : u = b := by simpa [Sy.bits] using h
    subst e
    show u.dp < 1 + u.dp
    omega
  | pair s b c =>
    have e : u = b ∨ u = c := by simpa [Sy.bits] using h
    show u.dp < 1 + max b.dp c.dp
    rcases e with e | e <;> subst e <;> omega
  | _ => simp [Sy.bits] at h
theorem Sy.bit_sz {t u : Sy} (h : some u ∈ t.bits) : u.sz ≤ t.sz := by
  cases t with
  | not b =>
    have e : u = b := by simpa [Sy.bits] using h
    subst e
    show u.sz ≤ 1 + u.sz
    omega
  | pair s b c =>
    have e : u = b ∨ u = c := by simpa [Sy.bits] using h
    show u.sz ≤ 1 + (b.sz + c.sz)
    rcases e with e | e <;> subst e <;> omega
  | _ => simp [Sy.bits] at h
theorem Sy.bit_wf {t u : Sy} (h : some u ∈ t.bits) (hw : t.wf) : u.wf := by
  cases t with
  | not b =>
    have e : u = b := by simpa [Sy.bits] using h
    subst e
    exact hw
  | pair s b c =>
    have e : u = b ∨ u = c := by simpa [Sy.bits] using h
    rcases e with e | e <;> subst e
    · exact hw.2.1
    · exact hw.2.2
  | _ => simp [Sy.bits] at h
theorem bits_len {f : Sy → List Str} (hf : ∀ t : Sy, (f t).length ≤ t.sz) (t : Sy) (j : Nat) : ((t.bits.take j).flatMap (bitF f)).length ≤ t.sz := by
  have key : ((t.bits.take j).flatMap (bitF f)).length ≤ (t.bits.flatMap (bitF f)).length := by
    conv => rhs; rw [← List.take_append_drop j t.bits]
    rw [List.flatMap_append, List.length_append]
    omega
  refine Nat.le_trans key ?_
  cases t with
  | not b =>
    have z := hf b
    show (f b ++ []).length ≤ 1 + b.sz
    rw [List.append_nil]
    omega
  | pair s b c =>
    have z := hf b
    have z2 := hf c
    show (f b ++ (f c ++ [])).length ≤ 1 + (b.sz + c.sz)
    rw [List.append_nil, List.length_append]
    omega
  | _ => simp [Sy.bits, bitF]
theorem bits_bx {t : Sy} (h : t.nm ≠ "box" ∨ ∀ x, t ≠ .box x) : t.bits.flatMap (bitF Sy.bx) = t.bx := by
  cases t with
  | box x =>
    rcases h with h | h
    · exact absurd rfl h
    · exact absurd rfl (h x)
  | _ => simp [Sy.bits, bitF, Sy.bx]
theorem bits_st {t : Sy} (h : ∀ x, t ≠ .many x ∧ t ≠ .top x) : t.bits.flatMap (bitF Sy.st) = t.st := by
  cases t with
  | many x => exact absurd rfl (h x).1
  | top x => exact absurd rfl (h x).2
  | _ => simp [Sy.bits, bitF, Sy.st]
def spIn (K : PySem.W.Frag) (n : Nat) (f : Sy → List Str) : Sp := fun vs H Q _ => ∃ (v : V) (t : Sy), vs = [v] ∧ Dp K H v t.told ∧ t.dp ≤ n ∧ t.sz ≤ 30 ∧ t.wf ∧ ∀ (p : Addr) (H' : Hp), H p = none → Same H H' → H' p = some (.lst ((f t).map V.str)) → Q (.ref p) H'
theorem sign_ne {s : Str} (h : s ∈ signs) : s ≠ "box" ∧ s ≠ "many" ∧ s ≠ "top" ∧ s ≠ "number" ∧ s ≠ "not" := by
  have e : ∀ z ∈ signs, z ≠ "box" ∧ z ≠ "many" ∧ z ≠ "top" ∧ z ≠ "number" ∧ z ≠ "not" := by decide +kernel
  exact e s h
theorem nm_box {t : Sy} (hw : t.wf) : t.nm = "box" ↔ ∃ x, t = .box x := by
  cases t with
  | box x => exact ⟨fun _ => ⟨x, rfl⟩, fun _ => rfl⟩
  | pair s a b => exact ⟨fun h => absurd h (sign_ne hw.1).1, fun ⟨x, h⟩ => by cases h⟩
  | num n => exact ⟨fun h => absurd h (by show ¬ ("number" : Str) = "box"; decide +kernel), fun ⟨x, h⟩ => by cases h⟩
  | many n => exact ⟨fun h => absurd h (by show ¬ ("many" : Str) = "box"; decide +kernel), fun ⟨x, h⟩ => by cases h⟩
  | top n => exact ⟨fun h => absurd h (by show ¬ ("top" : Str) = "box"; decide +kernel), fun ⟨x, h⟩ => by cases h⟩
  | not n => exact ⟨fun h => absurd h (by show ¬ ("not" : Str) = "box"; decide +kernel), fun ⟨x, h⟩ => by cases h⟩
theorem nm_stk {t : Sy} (hw : t.wf) : t.nm ∈ (["many", "top"] : List Str) ↔ ∃ x, t = .many x ∨ t = .top x := by
  cases t with
  | many x => exact ⟨fun _ => ⟨x, .inl rfl⟩, fun _ => by show ("many" : Str) ∈ _; decide +kernel⟩
  | top x => exact ⟨fun _ => ⟨x, .inr rfl⟩, fun _ => by show ("top" : Str) ∈ _; decide +kernel⟩
  | pair s a b => exact ⟨fun h => by
      have z := sign_ne hw.1
      have h : s ∈ (["many", "top"] : List Str) := h
      rcases (by simpa using h : s = "many" ∨ s = "top") with e | e
      · exact absurd e z.2.1
      · exact absurd e z.2.2.1, fun ⟨x, h⟩ => by rcases h with h | h <;> cases h⟩
  | num n => exact ⟨fun h => absurd h (by show ¬ ("number" : Str) ∈ _; decide +kernel), fun ⟨x, h⟩ => by rcases h with h | h <;> cases h⟩
  | box n => exact ⟨fun h => absurd h (by show ¬ ("box" : Str) ∈ _; decide +kernel), fun ⟨x, h⟩ => by rcases h with h | h <;> cases h⟩
  | not n => exact ⟨fun h => absurd h (by show ¬ ("not" : Str) ∈ _; decide +kernel), fun ⟨x, h⟩ => by rcases h with h | h <;> cases h⟩
theorem ok_L_boxes_in (T : Txt K mg A) : ∀ n : Nat, Cal P w K mg base CX0 "_law_boxes_in" (n + 1) ["_law_told"] (spIn K n Sy.bx)
  | 0 => T.d_L_boxes_in.never fun vs H Q E h => by
    obtain ⟨v, t, _, _, hn, _⟩ := h
    have := t.dp_pos
    omega
  | n + 1 => by
    have c_L_boxes_in := ok_L_boxes_in T n
    refine T.d_L_boxes_in.ok sc_L_boxes_in (fun vs H Q E h => ?_) (fun f cdv Ar outer s H vs Q E hr h => ?_)
    · obtain ⟨v, t, rfl, _⟩ := h
      rfl
    obtain ⟨v, t, rfl, hD, hn, hsz, hw, q⟩ := h
    obtain ⟨a, nm, xs, rfl, hS, hA, hnm⟩ := told_head hD
    refine ⟨_, (pss_cons (ps_if (pt_cmpR (k_eql K hr.units) (pe_ix (k_ix K) (pv 0) pe_int (fun _ _ => rfl)) pe_str (nomark _)) (pss_one (ps_ret (pe_lst (pa_cons (pe_ix (k_ix K) (pv 0) pe_int (fun _ _ => rfl)) pa_nil)))) pss_nil)
    (pss_cons (ps_set (i := 1) sc_L_boxes_in.nd rfl (by first | exact Or.inl rfl | exact Or.inr rfl) (pe_lst pa_nil))
    (pss_cons (ps_for PassesOwn.never rfl (k_any K (pe_slice (k_sl K) (pv 0) (po_some pe_int) po_none)) (pg_name (i := 2) sc_L_boxes_in.nd rfl (by first | exact Or.inl rfl | exact Or.inr rfl)) (pss_one (ps_if (pt_val (pe_callB (k_isi K) (by rfl) T.b_isinstance bt_isinstance (pa_cons (pv 2) (pa_cons (pe_bltn (v := .ty "tuple") (by rfl) T.b_tuple bt_tuple rfl) pa_nil)))) (pss_one (ps_set (i := 1) sc_L_boxes_in.nd rfl (by first | exact Or.inl rfl | exact Or.inr rfl) (pe_op (k_plus K) (pv 1) (pe_cal c_L_boxes_in hr (by omega) pass0 (pa_cons (pv 2) pa_nil))))) pss_nil)))
    (pss_one (ps_ret (pv 1)))))), ?_⟩
    walk_at "rd"
    refine rd_ix_t hS (atI_nat (j := 0) rfl) ?_
    walk_at "rd"
    refine rd_both (fun hc => ?_) (fun hc => ?_)
    · obtain ⟨x, rfl⟩ := (nm_box hw).mp (hnm ▸ of_decide_eq_true hc)
      cases hA with
      | cons h1 h2 =>
        cases h2
        obtain ⟨a', x1, x2, e', hS', d1, d2⟩ := dp_two hD
        cases e'
        cases dp_str d2
        walk_at "rd"
        refine rd_ix_t hS' (atI_nat (j := 1) rfl) ?_
        walk_at "rd"
        exact rd_new (by simp) fun p1 H1 np1 e1 hp1 => q p1 H1 np1 e1 hp1
    have hnb : ∀ x, t ≠ .box x := fun x z => of_decide_eq_false hc (hnm.trans ((nm_box hw).mpr ⟨x, z⟩))
    have EZ := Same.refl H
    have hbits := bits_bx (.inr hnb)
    walk_at "rd"
    refine rd_new (by simp) fun p1 H1 np1 e1 hp1 => ?_
    walk_at "rd"
    refine rd_for_t ?_
    have eZ := EZ.trans e1
    refine rd_sl ?_
    walk_at "rd"
    refine rd_sl_t (seqT_sm eZ hS) fun p2 H2 e2 hp2 => ?_
    rw [show (some (1 : Int)) = some ((1 : Nat) : Int) from rfl, cutV_from, List.drop_one, List.tail_cons] at hp2
    refine ⟨_, rfl, ⟨_, hp2⟩, ?_⟩
    have hxl := Paired.length hA
    have np1' : H p1 = none := EZ.free np1
    refine for_it walk_tup (fun i σ' H' => ∃ (p : Addr) (o : Option V), σ' = [some (.ref a), some (.ref p), o] ∧ Same H2 H' ∧ H p = none ∧ H' p = some (.lst (((t.bits.take i).flatMap (bitF Sy.bx)).map V.str))) ⟨p1, none, rfl, Same.refl _, np1', e2 _ _ hp1⟩ (fun _ _ _ _ ⟨_, _, _, h, _⟩ => seqT_sm h hp2) ?_ ?_
    · rintro j y σ' H3 H4 hj ⟨p, o, rfl, e3, np, hp⟩ ⟨rfl, hx⟩
      obtain ⟨b, hb, hR⟩ := paired_get hA hx
      have hmb := List.mem_of_getElem? hb
      have e03 := eZ.trans (e2.trans e3)
      cases b with
      | none =>
        obtain ⟨tt, hty, hki⟩ : ∃ tt, TyX K H4 y tt ∧ PySem.W.kitOne K tt (.type "tuple") = some false := by
          rcases hR with ⟨i, rfl⟩ | ⟨x, rfl⟩
          · exact ⟨_, .base (.int _), ki_it⟩
          · exact ⟨_, .base (.str _), ki_st⟩
        walk_at "rd"
        refine rd_isi (.ty _) hty hki ?_
        walk_at "rd"
        refine ⟨p, _, rfl, e3, np, ?_⟩
        rw [flat_one hb]
        show _ = some (HO.lst ((_ ++ []).map V.str))
        rw [List.append_nil]
        exact hp
      | some u =>
        have hDu : Dp K H4 y u.told := dp_sm e03 _ _ hR
        obtain ⟨au, nu, xu, rfl, hSu, _, _⟩ := told_head hDu
        have hu := Sy.bit_dp hmb
        have hus := Sy.bit_sz hmb
        walk_at "rd"
        refine rd_isi (.ty _) (tyx_tup hSu) ki_tt ?_
        walk_at "rd"
        refine ⟨_, u, rfl, hDu, by omega, by omega, Sy.bit_wf hmb hw, fun p5 H5 np5 e5 hp5 => ?_⟩
        have lf := Sy.bx_len u
        have lt := bits_len Sy.bx_len t j
        refine rd_plus_l (e5 _ _ hp) hp5 (by rw [List.length_map, List.length_map]; omega) fun p6 H6 np6 e6 hp6 => ?_
        walk_at "rd"
        refine ⟨p6, _, rfl, (e3.trans e5).trans e6, (e03.trans e5).free np6, ?_⟩
        rw [hp6, flat_one hb, List.map_append]
        rfl
    · rintro σ' H3 ⟨p, o, rfl, e3, np, hp⟩
      walk_at "rd"
      rw [← hxl, List.take_length] at hp
      exact q p H3 np (eZ.trans (e2.trans e3)) (by rw [hp, hbits])

theorem ok_L_stacks_in (T : Txt K mg A) : ∀ n : Nat, Cal P w K mg base CX0 "_law_stacks_in" (n + 1) ["_law_told"] (spIn K n Sy.st)
  | 0 => T.d_L_stacks_in.never fun vs H Q E h => by
    obtain ⟨v, t, _, _, hn, _⟩ := h
    have := t.dp_pos
    omega
  | n + 1 => by
    have c_L_stacks_in := ok_L_stacks_in T n
    refine T.d_L_stacks_in.ok sc_L_stacks_in (fun vs H Q E h => ?_) (fun f cdv Ar outer s H vs Q E hr h => ?_)
    · obtain ⟨v, t, rfl, _⟩ := h
      rfl
    obtain ⟨v, t, rfl, hD, hn, hsz, hw, q⟩ := h
    obtain ⟨a, nm, xs, rfl, hS, hA, hnm⟩ := told_head hD
    refine ⟨_, (pss_cons (ps_if (pt_cmpR (k_in K) (pe_ix (k_ix K) (pv 0) pe_int (fun _ _ => rfl)) (pe_tup (pa_cons pe_str (pa_cons pe_str pa_nil))) rfl) (pss_one (ps_ret (pe_lst (pa_cons (pe_ix (k_ix K) (pv 0) pe_int (fun _ _ => rfl)) pa_nil)))) pss_nil)
    (pss_cons (ps_set (i := 1) sc_L_stacks_in.nd rfl (by first | exact Or.inl rfl | exact Or.inr rfl) (pe_lst pa_nil))
    (pss_cons (ps_for PassesOwn.never rfl (k_any K (pe_slice (k_sl K) (pv 0) (po_some pe_int) po_none)) (pg_name (i := 2) sc_L_stacks_in.nd rfl (by first | exact Or.inl rfl | exact Or.inr rfl)) (pss_one (ps_if (pt_val (pe_callB (k_isi K) (by rfl) T.b_isinstance bt_isinstance (pa_cons (pv 2) (pa_cons (pe_bltn (v := .ty "tuple") (by rfl) T.b_tuple bt_tuple rfl) pa_nil)))) (pss_one (ps_set (i := 1) sc_L_stacks_in.nd rfl (by first | exact Or.inl rfl | exact Or.inr rfl) (pe_op (k_plus K) (pv 1) (pe_cal c_L_stacks_in hr (by omega) pass0 (pa_cons (pv 2) pa_nil))))) pss_nil)))
    (pss_one (ps_ret (pv 1)))))), ?_⟩
    walk_at "rd"
    refine rd_ix_t hS (atI_nat (j := 0) rfl) ?_
    walk_at "rd"
    refine rd_new (by simp) fun p0 H0 np0 EZ hp0 => ?_
    refine rd_in_nT (xs := ["many", "top"]) (SqT.of hp0) ?_
    walk_at "rd"
    refine rd_both (fun hc => ?_) (fun hc => ?_)
    · obtain ⟨x, hx⟩ := (nm_stk hw).mp (hnm ▸ of_decide_eq_true hc)
      rcases hx with rfl | rfl <;>
      · cases hA with
        | cons h1 h2 =>
          cases h2
          obtain ⟨a', x1, x2, e', hS', d1, d2⟩ := dp_two hD
          cases e'
          cases dp_str d2
          walk_at "rd"
          refine rd_ix_t (seqT_sm EZ hS') (atI_nat (j := 1) rfl) ?_
          walk_at "rd"
          exact rd_new (by simp) fun p1 H1 np1 e1 hp1 => q p1 H1 (EZ.free np1) (EZ.trans e1) hp1
    have hns : ∀ x, t ≠ .many x ∧ t ≠ .top x := fun x => ⟨fun z => of_decide_eq_false hc (by rw [hnm]; exact (nm_stk hw).mpr ⟨x, .inl z⟩), fun z => of_decide_eq_false hc (by rw [hnm]; exact (nm_stk hw).mpr ⟨x, .inr z⟩)⟩
    have hbits := bits_st hns
    walk_at "rd"
    refine rd_new (by simp) fun p1 H1 np1 e1 hp1 => ?_
    walk_at "rd"
    refine rd_for_t ?_
    have eZ := EZ.trans e1
    refine rd_sl ?_
    walk_at "rd"
    refine rd_sl_t (seqT_sm eZ hS) fun p2 H2 e2 hp2 => ?_
    rw [show (some (1 : Int)) = some ((1 : Nat) : Int) from rfl, cutV_from, List.drop_one, List.tail_cons] at hp2
    refine ⟨_, rfl, ⟨_, hp2⟩, ?_⟩
    have hxl := Paired.length hA
    have np1' : H p1 = none := EZ.free np1
    refine for_it walk_tup (fun i σ' H' => ∃ (p : Addr) (o : Option V), σ' = [some (.ref a), some (.ref p), o] ∧ Same H2 H' ∧ H p = none ∧ H' p = some (.lst (((t.bits.take i).flatMap (bitF Sy.st)).map V.str))) ⟨p1, none, rfl, Same.refl _, np1', e2 _ _ hp1⟩ (fun _ _ _ _ ⟨_, _, _, h, _⟩ => seqT_sm h hp2) ?_ ?_
    · rintro j y σ' H3 H4 hj ⟨p, o, rfl, e3, np, hp⟩ ⟨rfl, hx⟩
      obtain ⟨b, hb, hR⟩ := paired_get hA hx
      have hmb := List.mem_of_getElem? hb
      have e03 := eZ.trans (e2.trans e3)
      cases b with
      | none =>
        obtain ⟨tt, hty, hki⟩ : ∃ tt, TyX K H4 y tt ∧ PySem.W.kitOne K tt (.type "tuple") = some false := by
          rcases hR with ⟨i, rfl⟩ | ⟨x, rfl⟩
          · exact ⟨_, .base (.int _), ki_it⟩
          · exact ⟨_, .base (.str _), ki_st⟩
        walk_at "rd"
        refine rd_isi (.ty _) hty hki ?_
        walk_at "rd"
        refine ⟨p, _, rfl, e3, np, ?_⟩
        rw [flat_one hb]
        show _ = some (HO.lst ((_ ++ []).map V.str))
        rw [List.append_nil]
        exact hp
      | some u =>
        have hDu : Dp K H4 y u.told := dp_sm e03 _ _ hR
        obtain ⟨au, nu, xu, rfl, hSu, _, _⟩ := told_head hDu
        have hu := Sy.bit_dp hmb
        have hus := Sy.bit_sz hmb
        walk_at "rd"
        refine rd_isi (.ty _) (tyx_tup hSu) ki_tt ?_
        walk_at "rd"
        refine ⟨_, u, rfl, hDu, by omega, by omega, Sy.bit_wf hmb hw, fun p5 H5 np5 e5 hp5 => ?_⟩
        have lf := Sy.st_len u
        have lt := bits_len Sy.st_len t j
        refine rd_plus_l (e5 _ _ hp) hp5 (by rw [List.length_map, List.length_map]; omega) fun p6 H6 np6 e6 hp6 => ?_
        walk_at "rd"
        refine ⟨p6, _, rfl, (e3.trans e5).trans e6, (e03.trans e5).free np6, ?_⟩
        rw [hp6, flat_one hb, List.map_append]
        rfl
    · rintro σ' H3 ⟨p, o, rfl, e3, np, hp⟩
      walk_at "rd"
      rw [← hxl, List.take_length] at hp
      exact q p H3 np (eZ.trans (e2.trans e3)) (by rw [hp, hbits])

end

end

section
section
variable {P : Program} {w : World} {K : PySem.W.Frag} {mg : Str → Option Value} {base : Heap} {A : CA}
def spLSays (K : PySem.W.Frag) : Sp := fun vs H Q _ => ∃ (v : V) (r : Rw), vs = [v] ∧ Dp K H v r.told ∧ ∀ (p : Addr) (us : List V) (H' : Hp), H p = none → Same H H' → H' p = some (.lst us) → DpAll K H' us (r.says.map Sy.told) → Q (.ref p) H'
theorem row_head {H : Hp} {v : V} {r : Rw} (hD : Dp K H v r.told) : ∃ a x xs, v = .ref a ∧ SqT K H a (V.str x :: xs) ∧ x = r.nm := by
  cases r <;>
  · obtain ⟨a, xs, rfl, hS, hA⟩ := dp_tup hD
    obtain ⟨u, us, rfl, h1, h2⟩ := dpA_cons hA
    cases dp_str h1
    exact ⟨a, _, us, rfl, hS, rfl⟩
def skv (q1 q2 q3 q4 q5 q6 : Addr) : List (Key × V) := [((.inr "add" : Key), V.ref q1), ((.inr "less" : Key), V.ref q2), ((.inr "mix" : Key), V.ref q3), ((.inr "choice" : Key), V.ref q4), ((.inr "loop" : Key), V.ref q5), ((.inr "held" : Key), V.ref q6)]
theorem merge_s (q1 q2 q3 q4 q5 q6 : Addr) : mergeK [] (skv q1 q2 q3 q4 q5 q6) = skv q1 q2 q3 q4 q5 q6 := by rfl
theorem get_s {H : Hp} {d q1 q2 q3 q4 q5 q6 : Addr} (h : H d = some (.dK (skv q1 q2 q3 q4 q5 q6))) (x : Str) : DGet H d (.str x) (valV (skv q1 q2 q3 q4 q5 q6) (.inr x)) := .inl ⟨_, .inr x, .inl h, rfl, rfl⟩
theorem rd_dget2 {td ty tx : TE} {σ : L2.St} {H : Hp} {Q : VK} (q : td σ H fun x H1 => ∃ a, x = .ref a ∧ IsD H1 a ∧ ty σ H1 fun y H2 => tx σ H2 fun z H3 => ∃ o, DGet H3 a y o ∧ Q (o.getD z) H3) : tDGet2 td ty tx σ H Q := q
/-- where a row's sayings stand -/
def Rw.sayAt : Rw → List Nat
  | .chg _ _ _ => [2]
  | .blk _ _ _ _ _ => [1, 4]
  | .held _ _ _ _ => [2, 4]
  | _ => []
theorem say_at {H : Hp} {a : Addr} {r : Rw} (hD : Dp K H (.ref a) r.told) : ∃ xs, SqT K H a xs ∧ ∀ (j : Nat) i, r.sayAt[j]? = some i → ∃ y t, xs[i]? = some y ∧ r.says[j]? = some t ∧ Dp K H y t.told := by
  cases r with
  | chg k b e =>
    obtain ⟨a', x, y, z, e', hS', d1, d2, d3⟩ := dp_three hD
    cases e'
    refine ⟨_, hS', fun j i h => ?_⟩
    match j, h with
    | 0, h =>
      cases Option.some.inj h
      exact ⟨z, e, rfl, rfl, d3⟩
  | blk k t y n a2 =>
    obtain ⟨a', x, x2, x3, x4, x5, e', hS', d1, d2, d3, d4, d5⟩ := dp_five hD
    cases e'
    refine ⟨_, hS', fun j i h => ?_⟩
    match j, h with
    | 0, h =>
      cases Option.some.inj h
      exact ⟨x2, t, rfl, rfl, d2⟩
    | 1, h =>
      cases Option.some.inj h
      exact ⟨x5, a2, rfl, rfl, d5⟩
  | held b e y f =>
    obtain ⟨a', x, x2, x3, x4, x5, e', hS', d1, d2, d3, d4, d5⟩ := dp_five hD
    cases e'
    refine ⟨_, hS', fun j i h => ?_⟩
    match j, h with
    | 0, h =>
      cases Option.some.inj h
      exact ⟨x3, e, rfl, rfl, d3⟩
    | 1, h =>
      cases Option.some.inj h
      exact ⟨x5, f, rfl, rfl, d5⟩
  | swap => obtain ⟨a', xs, e', hS', _⟩ := dp_tup hD; cases e'; exact ⟨_, hS', fun j i h => by simp [Rw.sayAt] at h⟩
  | turn => obtain ⟨a', xs, e', hS', _⟩ := dp_tup hD; cases e'; exact ⟨_, hS', fun j i h => by simp [Rw.sayAt] at h⟩
  | mov => obtain ⟨a', xs, e', hS', _⟩ := dp_tup hD; cases e'; exact ⟨_, hS', fun j i h => by simp [Rw.sayAt] at h⟩
  | nam => obtain ⟨a', xs, e', hS', _⟩ := dp_tup hD; cases e'; exact ⟨_, hS', fun j i h => by simp [Rw.sayAt] at h⟩
theorem ok_L_sayings (T : Txt K mg A) : Cal P w K mg base CX0 "_law_sayings" 1 ["_law_row"] (spLSays K) := by
  refine T.d_L_sayings.ok sc_L_sayings (fun vs H Q E h => ?_) (fun f cdv Ar outer s H vs Q E hr h => ?_)
  · obtain ⟨v, r, rfl, _⟩ := h
    rfl
  obtain ⟨v, r, rfl, hD, q⟩ := h
  obtain ⟨a, nm, xs, rfl, hS, hnm⟩ := row_head hD
  refine ⟨_, (pss_cons (ps_set (i := 1) sc_L_sayings.nd rfl (by first | exact Or.inl rfl | exact Or.inr rfl) (pe_disp (pps_cons pe_str (pe_lst (pa_cons pe_int pa_nil)) (pps_cons pe_str (pe_lst (pa_cons pe_int pa_nil)) (pps_cons pe_str (pe_lst (pa_cons pe_int pa_nil)) (pps_cons pe_str (pe_lst (pa_cons pe_int (pa_cons pe_int pa_nil))) (pps_cons pe_str (pe_lst (pa_cons pe_int (pa_cons pe_int pa_nil))) (pps_cons pe_str (pe_lst (pa_cons pe_int (pa_cons pe_int pa_nil))) pps_nil)))))) (by rfl) (by rfl) (fun z => by cases z) (by decide)))
    (pss_one (ps_ret (pe_lc (own := [("_law_k", 2)]) rfl sc_L_sayings.nd (k_any K (pe_dget2 (hu_of hr) (pv 1) (pe_ix (k_ix K) (pv 0) pe_int (fun _ _ => rfl)) (pe_lst pa_nil) ⟨rfl, rfl, rfl, rfl⟩)) (blkOk_by (N := N_L_sayings) (sc := defScope s_L_sayings) (by decide +kernel)) (fun _ _ _ _ _ => (pg_name (i := 2) sc_L_sayings.nd rfl (by first | exact Or.inl rfl | exact Or.inr rfl))) (fun _ _ _ _ _ => pts_nil) (fun _ _ _ _ _ => (pe_ix (k_ix K) (pv 0) (pv 2) (fun _ _ => rfl))))))), ?_⟩
  walk_at "rd"
  refine rd_disp fun d nd => ?_
  have e0 : Same H (upd H d (.dK [])) := sm_new nd
  refine rd_pcons ?_
  walk_at "rd"
  refine rd_new (by simp) fun q1 H1 nq1 e1 hq1 => ?_
  refine rd_pcons ?_
  walk_at "rd"
  refine rd_new (by simp) fun q2 H2 nq2 e2 hq2 => ?_
  refine rd_pcons ?_
  walk_at "rd"
  refine rd_new (by simp) fun q3 H3 nq3 e3 hq3 => ?_
  refine rd_pcons ?_
  walk_at "rd"
  refine rd_new (by simp) fun q4 H4 nq4 e4 hq4 => ?_
  refine rd_pcons ?_
  walk_at "rd"
  refine rd_new (by simp) fun q5 H5 nq5 e5 hq5 => ?_
  refine rd_pcons ?_
  walk_at "rd"
  refine rd_new (by simp) fun q6 H6 nq6 e6 hq6 => ?_
  refine rd_pnil ?_
  have e16 := ((((e1.trans e2).trans e3).trans e4).trans e5).trans e6
  have e06 := e0.trans e16
  refine ⟨e16 _ _ upd_same, [((.inr "add" : Key), V.ref q1), ((.inr "less" : Key), V.ref q2), ((.inr "mix" : Key), V.ref q3), ((.inr "choice" : Key), V.ref q4), ((.inr "loop" : Key), V.ref q5), ((.inr "held" : Key), V.ref q6)], rfl, by simp, ?_⟩
  rw [show [((.inr "add" : Key), V.ref q1), ((.inr "less" : Key), V.ref q2), ((.inr "mix" : Key), V.ref q3), ((.inr "choice" : Key), V.ref q4), ((.inr "loop" : Key), V.ref q5), ((.inr "held" : Key), V.ref q6)] = skv q1 q2 q3 q4 q5 q6 from rfl, merge_s]
  have hd6 : H6 d = some (.dK []) := e16 _ _ upd_same
  obtain ⟨H7, hH7⟩ : ∃ H7, H7 = upd H6 d (.dK (skv q1 q2 q3 q4 q5 q6)) := ⟨_, rfl⟩
  rw [← hH7]
  have e07 : Same H H7 := by
    rw [hH7]
    exact sm_put e06 nd
  have hd7 : H7 d = some (.dK (skv q1 q2 q3 q4 q5 q6)) := by rw [hH7]; exact upd_same
  have nqd : ∀ {l : Addr} {H' : Hp}, Same (upd H d (.dK [])) H' → H' l = none → l ≠ d := by
    intro l H' e n z
    rw [z, e _ _ upd_same] at n
    cases n
  have up : ∀ {l : Addr} {o : HO}, H6 l = some o → l ≠ d → H7 l = some o := by
    intro l o h n
    rw [hH7, upd_ne n]
    exact h
  have g1 := up (((((e2.trans e3).trans e4).trans e5).trans e6) _ _ hq1) (nqd (Same.refl _) nq1)
  have g2 := up ((((e3.trans e4).trans e5).trans e6) _ _ hq2) (nqd e1 nq2)
  have g3 := up (((e4.trans e5).trans e6) _ _ hq3) (nqd (e1.trans e2) nq3)
  have g4 := up ((e5.trans e6) _ _ hq4) (nqd ((e1.trans e2).trans e3) nq4)
  have g5 := up (e6 _ _ hq5) (nqd (((e1.trans e2).trans e3).trans e4) nq5)
  have g6 := up hq6 (nqd ((((e1.trans e2).trans e3).trans e4).trans e5) nq6)
  walk_at "rd"
  refine rd_lc_l ?_
  refine rd_dget2 ?_
  walk_at "rd"
  refine ⟨d, rfl, .inl ⟨_, .inl hd7⟩, ?_⟩
  have hS7 := seqT_sm e07 hS
  walk_at "rd"
  refine rd_ix_t hS7 (atI_nat (j := 0) rfl) ?_
  walk_at "rd"
  refine rd_new (by simp) fun pe H8 npe e8 hpe => ?_
  refine ⟨_, get_s (e8 _ _ hd7) nm, ?_⟩
  have e08 := e07.trans e8
  have hD8 := dp_sm e08 _ _ hD
  -- the list of places
  have hl : ∃ l, (valV (skv q1 q2 q3 q4 q5 q6) (.inr nm)).getD (.ref pe) = .ref l ∧ H8 l = some (.lst (r.sayAt.map fun i => V.int (i : Nat))) := by
    rw [hnm]
    cases r with
    | chg k => cases k <;> first | exact ⟨q1, rfl, e8 _ _ g1⟩ | exact ⟨q2, rfl, e8 _ _ g2⟩ | exact ⟨q3, rfl, e8 _ _ g3⟩
    | blk k => cases k <;> first | exact ⟨q4, rfl, e8 _ _ g4⟩ | exact ⟨q5, rfl, e8 _ _ g5⟩
    | held => exact ⟨q6, rfl, e8 _ _ g6⟩
    | swap => exact ⟨pe, rfl, hpe⟩
    | turn => exact ⟨pe, rfl, hpe⟩
    | mov k => cases k <;> exact ⟨pe, rfl, hpe⟩
    | nam k => cases k <;> exact ⟨pe, rfl, hpe⟩
  obtain ⟨l, hl1, hl2⟩ := hl
  rw [hl1]
  obtain ⟨xs8, hS8, hat⟩ := say_at hD8
  have hsl : r.sayAt.length = r.says.length := by cases r <;> rfl
  have hs2 := r.says_len
  refine ⟨l, rfl, ⟨_, SqL.of hl2⟩, fun D nD => ?_⟩
  refine lc_map walk_list (fun j y H => ∃ t, r.says[j]? = some t ∧ Dp K H y t.told) nD (by rw [List.length_map]; omega) (fun j y H1 H2 k nI ⟨t, h1, h2⟩ => ⟨t, h1, dp_kp k _ _ (noL_told t) h2⟩) (fun H' e => SqL.of (e _ _ hl2)) ?_ ?_
  · rintro j y H9 H10 F Z hi e9 ⟨rfl, hx⟩ hF
    refine ⟨Same.refl _, ?_⟩
    rw [List.getElem?_map] at hx
    obtain ⟨i, hi1, rfl⟩ := Option.map_eq_some_iff.mp hx
    obtain ⟨y, t, hy1, hy2, hy3⟩ := hat j i hi1
    walk_at "rd"
    refine ⟨rfl, ?_⟩
    walk_at "rd"
    refine rd_ix_t (seqT_sm e9 hS8) (atI_nat (j := i) hy1) ?_
    exact hF _ _ (Same.refl _) ⟨t, hy2, dp_sm e9 _ _ hy3⟩
  · intro ys H9 e9 hD9 hly hy
    walk_at "rd"
    rw [List.length_map] at hly
    refine q D ys H9 (e08.free nD) (e08.trans e9) hD9 (dpA_of (by rw [List.length_map]; omega) fun j x hx => ?_)
    obtain ⟨t, h1, h2⟩ := hy j x hx
    exact ⟨t.told, by rw [List.getElem?_map, h1] <;> rfl, h2⟩
end

end

section
section
variable {K : PySem.W.Frag} {J : It} {g : TG} {tt : TT} {te : TE} {vs : List Nat} {σ : L2.St} {H1 : Hp} {D : Addr} {Qd : Hp → Prop}
/-- a comprehension with a test, over texts: just what passes -/
theorem lc_filt {G : Hp → Prop} {xs : List Str} (f : Str → Bool) (w : Walk J (xs.map V.str).length G (YAt (xs.map V.str))) (nD : H1 D = none) (hn : xs.length ≤ 900) (hG : ∀ H, Same H1 H → G H)
    (hs : ∀ (i : Nat) x H (F : V → Hp → Prop) (Z : Hp → Prop), xs[i]? = some x → Same H1 H → (f x = true → ∀ H4, Same H H4 → F (.str x) H4) → (f x = false → ∀ H4, Same H H4 → Z H4) → g (.str x) (wipe σ vs) H fun σ2 H2 => wipe σ2 vs = wipe σ vs ∧ tt σ2 H2 fun b H3 => if b = true then te σ2 H3 F else Z H3)
    (hd : ∀ H, Same H1 H → H D = some (.lst ((xs.filter f).map V.str)) → Qd H) :
    ∃ W : Nat → Nat → Hp → Prop, (∃ m, W 0 m (upd H1 D (.lst []))) ∧ ∀ i m H, W i m H →
      (J.stop i H ∧ Qd H) ∨ (J.go i H ∧ ∃ Nx : Hp → Prop, (∀ H', Nx H' → ∃ m', m' < m ∧ W (i + 1) m' H') ∧ ∀ x H', J.yld i H x H' → g x (wipe σ vs) H' fun σ2 H2 => wipe σ2 vs = wipe σ vs ∧ tt σ2 H2 fun b H3 =>
        if b = true then te σ2 H3 fun y H4 => ∃ acc, H4 D = some (.lst acc) ∧ acc.length < sizeLine ∧ Nx (upd H4 D (.lst (acc ++ [y]))) else Nx H3) := by
  refine lc_it w (fun i H => Same H1 H ∧ H D = some (.lst (((xs.take i).filter f).map V.str))) ⟨sm_new nD, upd_same⟩ (fun i H _ h => hG H h.1) ?_ ?_
  · rintro i x H H' hi ⟨e, hD⟩ ⟨rfl, hx⟩
    rw [List.getElem?_map] at hx
    obtain ⟨x', hx1, rfl⟩ := Option.map_eq_some_iff.mp hx
    refine hs i x' H' _ _ hx1 e (fun hf H4 e4 => ⟨_, e4 _ _ hD, size_ok ?_, sm_put (e.trans e4) nD, ?_⟩) fun hf H4 e4 => ⟨e.trans e4, ?_⟩
    · rw [List.length_map]
      have z := List.length_filter_le f (xs.take i)
      rw [List.length_take] at z
      omega
    · rw [upd_same, take_one hx1, List.filter_append, List.map_append]
      simp [hf]
    · rw [take_one hx1, List.filter_append, List.map_append]
      simp [hf]
      exact e4 _ _ hD
  · rintro H ⟨e, hD⟩
    refine hd H e ?_
    rw [List.length_map, List.take_length] at hD
    exact hD
def wst (rv tv : V) (lt pb ps : Addr) (o5 o6 o7 o8 : Option V) : L2.St := [some rv, some (.ref lt), some tv, some (.ref pb), some (.ref ps), o5, o6, o7, o8]
/-- the names that a row's own fields add -/
theorem rd_why3 {rest : TS} {D : Ends} {rv tv : V} {lt pb ps : Addr} {o5 o6 o7 o8 : Option V} {H : Hp} {r : Rw} {xs ys : List Str} (hD : Dp K H rv r.told) (hb : H pb = some (.lst (xs.map V.str))) (hst : H ps = some (.lst (ys.map V.str))) (lx : xs.length ≤ 100) (ly : ys.length ≤ 100)
    (q : ∀ pb' ps' H', Same H H' → H' pb' = some (.lst ((xs ++ r.fbox).map V.str)) → H' ps' = some (.lst ((ys ++ r.fstk).map V.str)) → rest D (wst rv tv lt pb' ps' o5 o6 o7 o8) H') :
    tSeq (tIfS (tTest (tOp (rInB K) (tOp (rIx K) (tVar 0) (tC (.int 0))) (tTup (tCons (tC (.str "add")) (tCons (tC (.str "less")) (tCons (tC (.str "mix")) (tCons (tC (.str "turn")) (tCons (tC (.str "push")) (tCons (tC (.str "pop")) tNil))))))))) (tAsg (tOp (rPlus K) (tVar 3) (tLst (tCons (tOp (rIx K) (tVar 0) (tC (.int 1))) tNil))) (gName 3)) tNext) (tSeq (tIfS (tTest (tOp (rEql K) (tOp (rIx K) (tVar 0) (tC (.int 0))) (tC (.str "swap")))) (tAsg (tOp (rPlus K) (tVar 3) (tCB (rLstOf K) (tCons (tSl (rSlB K) (tVar 0) (tPart (tC (.int 1))) tNoPart) tNil))) (gName 3)) tNext) (tSeq (tIfS (tTest (tOp (rInB K) (tOp (rIx K) (tVar 0) (tC (.int 0))) (tTup (tCons (tC (.str "push")) (tCons (tC (.str "pop")) tNil))))) (tAsg (tOp (rPlus K) (tVar 4) (tLst (tCons (tOp (rIx K) (tVar 0) (tC (.int 2))) tNil))) (gName 4)) tNext) rest)) D (wst rv tv lt pb ps o5 o6 o7 o8) H := by
  obtain ⟨dn, dr, db, dc⟩ := D
  unfold wst
  cases r with
  | chg k b e =>
    obtain ⟨a, x, y, z, rfl, hS, d1, d2, d3⟩ := dp_three hD
    cases dp_str d1
    cases dp_str d2
    walk_at "rt"
    refine rd_new (by simp) fun pA HA npA eA hpA => ?_
    refine rd_in_nT (xs := ["add", "less", "mix", "turn", "push", "pop"]) (SqT.of hpA) ?_
    have hS := seqT_sm eA hS
    walk_at "rt"
    refine rd_true (by cases k <;> decide +kernel) ?_
    walk_at "rt"
    refine rd_new (by simp) fun pB HB npB eB hpB => ?_
    have eAB := eA.trans eB
    refine rd_plus_l (eAB _ _ hb) hpB (by rw [List.length_map]; simp; omega) fun pD HD npD eD hpD => ?_
    have hS := seqT_sm (eB.trans eD) hS
    have eAD := eAB.trans eD
    walk_at "rt"
    refine rd_false (decide_eq_false (by cases k <;> decide +kernel)) ?_
    walk_at "rt"
    refine rd_new (by simp) fun pC HC npC eC hpC => ?_
    refine rd_in_nT (xs := ["push", "pop"]) (SqT.of hpC) ?_
    have hS := seqT_sm eC hS
    walk_at "rt"
    refine rd_false (by cases k <;> decide +kernel) ?_
    walk_at "rt"
    exact q pD ps HC (eAD.trans eC) (by rw [List.map_append]; exact eC _ _ hpD) (by rw [show Rw.fstk (.chg k b e) = [] from rfl, List.append_nil]; exact (eAD.trans eC) _ _ hst)
  | turn b n =>
    obtain ⟨a, x, y, z, rfl, hS, d1, d2, d3⟩ := dp_three hD
    cases dp_str d1
    cases dp_str d2
    walk_at "rt"
    refine rd_new (by simp) fun pA HA npA eA hpA => ?_
    refine rd_in_nT (xs := ["add", "less", "mix", "turn", "push", "pop"]) (SqT.of hpA) ?_
    have hS := seqT_sm eA hS
    walk_at "rt"
    walk_at "rt"
    refine rd_new (by simp) fun pB HB npB eB hpB => ?_
    have eAB := eA.trans eB
    refine rd_plus_l (eAB _ _ hb) hpB (by rw [List.length_map]; simp; omega) fun pD HD npD eD hpD => ?_
    have hS := seqT_sm (eB.trans eD) hS
    have eAD := eAB.trans eD
    walk_at "rt"
    refine rd_new (by simp) fun pC HC npC eC hpC => ?_
    refine rd_in_nT (xs := ["push", "pop"]) (SqT.of hpC) ?_
    have hS := seqT_sm eC hS
    walk_at "rt"
    walk_at "rt"
    exact q pD ps HC (eAD.trans eC) (by rw [List.map_append]; exact eC _ _ hpD) (by rw [show Rw.fstk (.turn b n) = [] from rfl, List.append_nil]; exact (eAD.trans eC) _ _ hst)
  | mov k b s =>
    obtain ⟨a, x, y, z, rfl, hS, d1, d2, d3⟩ := dp_three hD
    cases dp_str d1
    cases dp_str d2
    cases dp_str d3
    walk_at "rt"
    refine rd_new (by simp) fun pA HA npA eA hpA => ?_
    refine rd_in_nT (xs := ["add", "less", "mix", "turn", "push", "pop"]) (SqT.of hpA) ?_
    have hS := seqT_sm eA hS
    walk_at "rt"
    refine rd_true (by cases k <;> decide +kernel) ?_
    walk_at "rt"
    refine rd_new (by simp) fun pB HB npB eB hpB => ?_
    have eAB := eA.trans eB
    refine rd_plus_l (eAB _ _ hb) hpB (by rw [List.length_map]; simp; omega) fun pD HD npD eD hpD => ?_
    have hS := seqT_sm (eB.trans eD) hS
    have eAD := eAB.trans eD
    walk_at "rt"
    refine rd_false (decide_eq_false (by cases k <;> decide +kernel)) ?_
    walk_at "rt"
    refine rd_new (by simp) fun pC HC npC eC hpC => ?_
    refine rd_in_nT (xs := ["push", "pop"]) (SqT.of hpC) ?_
    have hS := seqT_sm eC hS
    walk_at "rt"
    refine rd_true (by cases k <;> decide +kernel) ?_
    walk_at "rt"
    refine rd_new (by simp) fun pE HE npE eE hpE => ?_
    have eAE := (eAD.trans eC).trans eE
    refine rd_plus_l (eAE _ _ hst) hpE (by rw [List.length_map]; simp; omega) fun pF HF npF eF hpF => ?_
    walk_at "rt"
    exact q pD pF HF (eAE.trans eF) (by rw [List.map_append]; exact ((eC.trans eE).trans eF) _ _ hpD) (by rw [List.map_append]; exact hpF)
  | swap b e =>
    obtain ⟨a, x, y, z, rfl, hS, d1, d2, d3⟩ := dp_three hD
    cases dp_str d1
    cases dp_str d2
    cases dp_str d3
    walk_at "rt"
    refine rd_new (by simp) fun pA HA npA eA hpA => ?_
    refine rd_in_nT (xs := ["add", "less", "mix", "turn", "push", "pop"]) (SqT.of hpA) ?_
    have hS := seqT_sm eA hS
    walk_at "rt"
    walk_at "rt"
    refine rd_sl_t hS fun pB HB eB hpB => ?_
    rw [show (some (1 : Int)) = some ((1 : Nat) : Int) from rfl, cutV_from] at hpB
    walk_at "rt"
    refine rd_lstT hpB fun pL HL npL eL hpL => ?_
    have eAL := (eA.trans eB).trans eL
    refine rd_plus_l (eAL _ _ hb) hpL (by rw [List.length_map]; simp; omega) fun pD HD npD eD hpD => ?_
    have hS := seqT_sm ((eB.trans eL).trans eD) hS
    have eAD := eAL.trans eD
    walk_at "rt"
    refine rd_new (by simp) fun pC HC npC eC hpC => ?_
    refine rd_in_nT (xs := ["push", "pop"]) (SqT.of hpC) ?_
    have hS := seqT_sm eC hS
    walk_at "rt"
    walk_at "rt"
    exact q pD ps HC (eAD.trans eC) (by rw [List.map_append]; exact eC _ _ hpD) (by rw [show Rw.fstk (.swap b e) = [] from rfl, List.append_nil]; exact (eAD.trans eC) _ _ hst)
  | nam k x' =>
    obtain ⟨a, x, y, rfl, hS, d1, d2⟩ := dp_two hD
    cases dp_str d1
    walk_at "rt"
    refine rd_new (by simp) fun pA HA npA eA hpA => ?_
    refine rd_in_nT (xs := ["add", "less", "mix", "turn", "push", "pop"]) (SqT.of hpA) ?_
    have hS := seqT_sm eA hS
    walk_at "rt"
    refine rd_false (by cases k <;> decide +kernel) ?_
    walk_at "rt"
    refine rd_false (decide_eq_false (by cases k <;> decide +kernel)) ?_
    walk_at "rt"
    refine rd_new (by simp) fun pC HC npC eC hpC => ?_
    refine rd_in_nT (xs := ["push", "pop"]) (SqT.of hpC) ?_
    have hS := seqT_sm eC hS
    walk_at "rt"
    refine rd_false (by cases k <;> decide +kernel) ?_
    walk_at "rt"
    have eAC := eA.trans eC
    exact q pb ps HC (eAC) (by rw [show Rw.fbox (.nam k x') = [] from rfl, List.append_nil]; exact eAC _ _ hb) (by rw [show Rw.fstk (.nam k x') = [] from rfl, List.append_nil]; exact eAC _ _ hst)
  | blk k t y n a2 =>
    obtain ⟨a, x, y1, y2, y3, y4, rfl, hS, d1, d2, d3, d4, d5⟩ := dp_five hD
    cases dp_str d1
    walk_at "rt"
    refine rd_new (by simp) fun pA HA npA eA hpA => ?_
    refine rd_in_nT (xs := ["add", "less", "mix", "turn", "push", "pop"]) (SqT.of hpA) ?_
    have hS := seqT_sm eA hS
    walk_at "rt"
    refine rd_false (by cases k <;> decide +kernel) ?_
    walk_at "rt"
    refine rd_false (decide_eq_false (by cases k <;> decide +kernel)) ?_
    walk_at "rt"
    refine rd_new (by simp) fun pC HC npC eC hpC => ?_
    refine rd_in_nT (xs := ["push", "pop"]) (SqT.of hpC) ?_
    have hS := seqT_sm eC hS
    walk_at "rt"
    refine rd_false (by cases k <;> decide +kernel) ?_
    walk_at "rt"
    have eAC := eA.trans eC
    exact q pb ps HC (eAC) (by rw [show Rw.fbox (.blk k t y n a2) = [] from rfl, List.append_nil]; exact eAC _ _ hb) (by rw [show Rw.fstk (.blk k t y n a2) = [] from rfl, List.append_nil]; exact eAC _ _ hst)
  | held b e y f =>
    obtain ⟨a, x, y1, y2, y3, y4, rfl, hS, d1, d2, d3, d4, d5⟩ := dp_five hD
    cases dp_str d1
    walk_at "rt"
    refine rd_new (by simp) fun pA HA npA eA hpA => ?_
    refine rd_in_nT (xs := ["add", "less", "mix", "turn", "push", "pop"]) (SqT.of hpA) ?_
    have hS := seqT_sm eA hS
    walk_at "rt"
    walk_at "rt"
    refine rd_new (by simp) fun pC HC npC eC hpC => ?_
    refine rd_in_nT (xs := ["push", "pop"]) (SqT.of hpC) ?_
    have hS := seqT_sm eC hS
    walk_at "rt"
    walk_at "rt"
    have eAC := eA.trans eC
    exact q pb ps HC (eAC) (by rw [show Rw.fbox (.held b e y f) = [] from rfl, List.append_nil]; exact eAC _ _ hb) (by rw [show Rw.fstk (.held b e y f) = [] from rfl, List.append_nil]; exact eAC _ _ hst)
end

end

section
section
variable {P : Program} {w : World} {K : PySem.W.Frag} {mg : Str → Option Value} {base : Heap} {A : CA}
def lawWhy (p : Pg) (r : Rw) (th : List Str) : Str := ((whyN' p r th).or (whyK' p r th)).getD ""
theorem why_k {p : Pg} {r : Rw} {th : List Str} (h1 : ¬ decide (∀ x ∈ r.abox, x ∈ th) = false) (h2 : ¬ decide (∀ x ∈ r.astk, x ∈ p.st) = false) (h3 : r.rtn (p.rt.map (·.1)) = true) : lawWhy p r th = (whyK' p r th).getD "" := by
  unfold lawWhy whyN' Rw.whyN
  rw [if_neg h1, if_neg h2, h3]
  rfl
theorem why_fine {p : Pg} {r : Rw} {th : List Str} (h1 : ¬ decide (∀ x ∈ r.abox, x ∈ th) = false) (h2 : ¬ decide (∀ x ∈ r.astk, x ∈ p.st) = false) (h3 : r.rtn (p.rt.map (·.1)) = true) (h4 : r.self = true) (h5 : r.kept p.st (p.rt.map (·.1)) th = true) : lawWhy p r th = "" := by
  rw [why_k h1 h2 h3]
  unfold whyK' Rw.whyK
  rw [h4, h5]
  rfl
theorem Sy.bx_ok : ∀ {t : Sy}, t.wf → ∀ x ∈ t.bx, nameOk x = true
  | .num _, _, x, h => by cases h
  | .box _, hw, x, h => by rw [List.mem_singleton.mp h]; exact hw
  | .many _, _, x, h => by cases h
  | .top _, _, x, h => by cases h
  | .not t, hw, x, h => Sy.bx_ok (t := t) hw x h
  | .pair _ a b, hw, x, h => (List.mem_append.mp h).elim (Sy.bx_ok hw.2.1 x) (Sy.bx_ok hw.2.2 x)
theorem Sy.st_ok : ∀ {t : Sy}, t.wf → ∀ x ∈ t.st, nameOk x = true
  | .num _, _, x, h => by cases h
  | .box _, _, x, h => by cases h
  | .many _, hw, x, h => by rw [List.mem_singleton.mp h]; exact hw
  | .top _, hw, x, h => by rw [List.mem_singleton.mp h]; exact hw
  | .not t, hw, x, h => Sy.st_ok (t := t) hw x h
  | .pair _ a b, hw, x, h => (List.mem_append.mp h).elim (Sy.st_ok hw.2.1 x) (Sy.st_ok hw.2.2 x)
theorem Rw.fbox_ok {r : Rw} (h : r.wf) : ∀ x ∈ r.fbox, nameOk x = true := by
  cases r with
  | chg k b e => intro x hx; rw [List.mem_singleton.mp hx]; exact h.1
  | turn b m => intro x hx; rw [List.mem_singleton.mp hx]; exact h.1
  | mov k b s => intro x hx; rw [List.mem_singleton.mp hx]; exact h.1
  | swap a b =>
    intro x hx
    rcases (by simpa [Rw.fbox] using hx : x = a ∨ x = b) with z | z
    · rw [z]; exact h.1
    · rw [z]; exact h.2
  | _ => intro x hx; cases hx
theorem Rw.fstk_ok {r : Rw} (h : r.wf) : ∀ x ∈ r.fstk, nameOk x = true := by
  cases r with
  | mov k b s => intro x hx; rw [List.mem_singleton.mp hx]; exact h.2
  | _ => intro x hx; cases hx
theorem says_flat {f : Sy → List Str} {r : Rw} (hw : r.wf) (hf : ∀ {t : Sy}, t.wf → ∀ x ∈ f t, nameOk x = true) : ∀ x ∈ r.says.flatMap f, nameOk x = true := fun x hx => by
  obtain ⟨t, ht, h⟩ := List.mem_flatMap.mp hx
  exact hf (Rw.says_ok hw t ht).1 x h
theorem says_take_len {f : Sy → List Str} (hf : ∀ t : Sy, (f t).length ≤ t.sz) {r : Rw} (hw : r.wf) (j : Nat) : ((r.says.take j).flatMap f).length ≤ 60 := by
  have key : ∀ l : List Sy, (∀ t ∈ l, t ∈ r.says) → (l.flatMap f).length ≤ 30 * l.length := by
    intro l
    induction l with
    | nil => intro _; simp
    | cons t l ih =>
      intro h
      have h1 := hf t
      have h2 := (Rw.says_ok hw t (h t (List.mem_cons_self ..))).2.1
      have h3 := ih fun u hu => h u (List.mem_cons_of_mem _ hu)
      rw [List.flatMap_cons, List.length_append, List.length_cons]
      omega
  have h1 := key (r.says.take j) fun t ht => List.mem_of_mem_take ht
  have h2 := r.says_len
  rw [List.length_take] at h1
  omega
theorem filt_all {xs ys : List Str} {th : List Str} (h : ∀ z, z ∈ xs ↔ z ∈ ys) : (xs.filter fun x => !decide (x ∈ th)).isEmpty = decide (∀ x ∈ ys, x ∈ th) := by
  rw [Bool.eq_iff_iff, List.isEmpty_iff, List.filter_eq_nil_iff, decide_eq_true_eq]
  constructor
  · intro g x hx
    have z := g x ((h x).mpr hx)
    simpa using z
  · intro g x hx
    have z := g x ((h x).mp hx)
    simpa using z
def spWhy (K : PySem.W.Frag) : Sp := fun vs H Q _ => ∃ (rv tv : V) (lt : Addr) (r : Rw) (th : List Str) (p : Pg), vs = [rv, .ref lt, tv] ∧ Dp K H rv r.told ∧ r.wf ∧ H lt = some (.lst (th.map V.str)) ∧ th.length ≤ 100 ∧ Dp K H tv p.told ∧ p.wf ∧ Rt H Q (.str (lawWhy p r th))
theorem ok_L_why (T : Txt K mg A) : Cal P w K mg base CX0 "_law_why" 10 ["_law_row", "_law_there", "_law_told"] (spWhy K) := by
  have c_L_sayings := ok_L_sayings (P := P) (w := w) (base := base) T
  have c_L_boxes_in := ok_L_boxes_in (P := P) (w := w) (base := base) T 8
  have c_L_stacks_in := ok_L_stacks_in (P := P) (w := w) (base := base) T 8
  refine T.d_L_why.ok sc_L_why (fun vs H Q E h => ?_) (fun f cdv Ar outer s H vs Q E hr h => ?_)
  · obtain ⟨rv, tv, lt, r, th, p, rfl, _⟩ := h
    rfl
  obtain ⟨rv, tv, lt, r, th, p, rfl, hD, hw, hth, hz, hT, hpw, q⟩ := h
  have hzs := p.st_len
  have hzn := hpw.names
  have ret : ∀ {H' : Hp} (y : Str), Same H H' → lawWhy p r th = y → Q (.str y) H' := fun {H'} y e h => h ▸ q H' e
  refine ⟨_, (pss_cons (ps_set (i := 3) sc_L_why.nd rfl (by first | exact Or.inl rfl | exact Or.inr rfl) (pe_lst pa_nil))
    (pss_cons (ps_set (i := 4) sc_L_why.nd rfl (by first | exact Or.inl rfl | exact Or.inr rfl) (pe_lst pa_nil))
    (pss_cons (ps_for PassesOwn.never rfl (k_any K (pe_cal c_L_sayings hr (by omega) pass0 (pa_cons (pv 0) pa_nil))) (pg_name (i := 5) sc_L_why.nd rfl (by first | exact Or.inl rfl | exact Or.inr rfl)) (pss_cons (ps_set (i := 3) sc_L_why.nd rfl (by first | exact Or.inl rfl | exact Or.inr rfl) (pe_op (k_plus K) (pv 3) (pe_cal c_L_boxes_in hr (by omega) pass0 (pa_cons (pv 5) pa_nil))))
    (pss_one (ps_set (i := 4) sc_L_why.nd rfl (by first | exact Or.inl rfl | exact Or.inr rfl) (pe_op (k_plus K) (pv 4) (pe_cal c_L_stacks_in hr (by omega) pass0 (pa_cons (pv 5) pa_nil)))))))
    (pss_cons (ps_if (pt_cmpR (k_in K) (pe_ix (k_ix K) (pv 0) pe_int (fun _ _ => rfl)) (pe_tup (pa_cons pe_str (pa_cons pe_str (pa_cons pe_str (pa_cons pe_str (pa_cons pe_str (pa_cons pe_str pa_nil))))))) rfl) (pss_one (ps_set (i := 3) sc_L_why.nd rfl (by first | exact Or.inl rfl | exact Or.inr rfl) (pe_op (k_plus K) (pv 3) (pe_lst (pa_cons (pe_ix (k_ix K) (pv 0) pe_int (fun _ _ => rfl)) pa_nil))))) pss_nil)
    (pss_cons (ps_if (pt_cmpR (k_eql K hr.units) (pe_ix (k_ix K) (pv 0) pe_int (fun _ _ => rfl)) pe_str (nomark _)) (pss_one (ps_set (i := 3) sc_L_why.nd rfl (by first | exact Or.inl rfl | exact Or.inr rfl) (pe_op (k_plus K) (pv 3) (pe_callTy (k_lst K rfl) (by rfl) T.b_list bt_list (pa_cons (pe_slice (k_sl K) (pv 0) (po_some pe_int) po_none) pa_nil))))) pss_nil)
    (pss_cons (ps_if (pt_cmpR (k_in K) (pe_ix (k_ix K) (pv 0) pe_int (fun _ _ => rfl)) (pe_tup (pa_cons pe_str (pa_cons pe_str pa_nil))) rfl) (pss_one (ps_set (i := 4) sc_L_why.nd rfl (by first | exact Or.inl rfl | exact Or.inr rfl) (pe_op (k_plus K) (pv 4) (pe_lst (pa_cons (pe_ix (k_ix K) (pv 0) pe_int (fun _ _ => rfl)) pa_nil))))) pss_nil)
    (pss_cons (ps_setLc (i := 6) (own := [("_law_name", 7), ("_law_rows", 8)]) rfl sc_L_why.nd rfl rfl (sw_true rfl rfl rfl (by decide +kernel)) (k_any K (pe_ix (k_ix K) (pv 2) pe_int (fun _ _ => rfl))) (blkOk_by (N := N_L_why) (sc := defScope s_L_why) (by decide +kernel)) (fun _ _ _ _ _ => (k_gtup K (n := 2) rfl (pgs_cons (pg_name (i := 7) sc_L_why.nd rfl (by first | exact Or.inl rfl | exact Or.inr rfl)) (pgs_cons (pg_name (i := 8) sc_L_why.nd rfl (by first | exact Or.inl rfl | exact Or.inr rfl)) pgs_nil)))) (fun _ _ _ _ _ => pts_nil) (fun _ _ _ _ _ => (pv 7)))
    (pss_cons (ps_if (pt_cmpR (k_neq K hr.units) (pe_lc (own := [("_law_name", 7)]) rfl sc_L_why.nd (k_any K (pv 3)) (blkOk_by (N := N_L_why) (sc := defScope s_L_why) (by decide +kernel)) (fun _ _ _ _ _ => (pg_name (i := 7) sc_L_why.nd rfl (by first | exact Or.inl rfl | exact Or.inr rfl))) (fun _ _ _ _ _ => (pts_one (pt_cmpR (k_nin K) (pv 7) (pv 1) rfl))) (fun _ _ _ _ _ => (pv 7))) (pe_lst pa_nil) (nomark _)) (pss_one (ps_ret pe_str)) pss_nil)
    (pss_cons (ps_if (pt_cmpR (k_neq K hr.units) (pe_lc (own := [("_law_name", 7)]) rfl sc_L_why.nd (k_any K (pv 4)) (blkOk_by (N := N_L_why) (sc := defScope s_L_why) (by decide +kernel)) (fun _ _ _ _ _ => (pg_name (i := 7) sc_L_why.nd rfl (by first | exact Or.inl rfl | exact Or.inr rfl))) (fun _ _ _ _ _ => (pts_one (pt_cmpR (k_nin K) (pv 7) (pe_ix (k_ix K) (pv 2) pe_int (fun _ _ => rfl)) rfl))) (fun _ _ _ _ _ => (pv 7))) (pe_lst pa_nil) (nomark _)) (pss_one (ps_ret pe_str)) pss_nil)
    (pss_cons (ps_if (PW.pt (pw_and (pt_cmpR (k_in K) (pe_ix (k_ix K) (pv 0) pe_int (fun _ _ => rfl)) (pe_tup (pa_cons pe_str (pa_cons pe_str pa_nil))) rfl) (pw_and1 (pt_cmpR (k_nin K) (pe_ix (k_ix K) (pv 0) pe_int (fun _ _ => rfl)) (pv 6) rfl)))) (pss_one (ps_ret pe_str)) pss_nil)
    (pss_cons (ps_if (PW.pt (pw_and (pt_cmpR (k_eql K hr.units) (pe_ix (k_ix K) (pv 0) pe_int (fun _ _ => rfl)) pe_str (nomark _)) (pw_and1 (pt_cmpR (k_eql K hr.units) (pe_ix (k_ix K) (pv 0) pe_int (fun _ _ => rfl)) (pe_ix (k_ix K) (pv 0) pe_int (fun _ _ => rfl)) (nomark _))))) (pss_one (ps_ret pe_str)) pss_nil)
    (pss_cons (ps_if (PW.pt (pw_and (pt_cmpR (k_in K) (pe_ix (k_ix K) (pv 0) pe_int (fun _ _ => rfl)) (pe_tup (pa_cons pe_str (pa_cons pe_str (pa_cons pe_str pa_nil)))) rfl) (pw_and1 (pt_cmpR (k_in K) (pe_ix (k_ix K) (pv 0) pe_int (fun _ _ => rfl)) (pe_cal c_L_boxes_in hr (by omega) pass0 (pa_cons (pe_ix (k_ix K) (pv 0) pe_int (fun _ _ => rfl)) pa_nil)) rfl)))) (pss_one (ps_ret pe_str)) pss_nil)
    (pss_cons (ps_if (PW.pt (pw_and (pt_cmpR (k_eql K hr.units) (pe_ix (k_ix K) (pv 0) pe_int (fun _ _ => rfl)) pe_str (nomark _)) (pw_and1 (pt_cmpR (k_in K) (pe_ix (k_ix K) (pv 0) pe_int (fun _ _ => rfl)) (pe_op (k_plus K) (pe_op (k_plus K) (pv 1) (pe_callTy (k_lst K rfl) (by rfl) T.b_list bt_list (pa_cons (pe_ix (k_ix K) (pv 2) pe_int (fun _ _ => rfl)) pa_nil))) (pv 6)) rfl)))) (pss_one (ps_ret pe_str)) pss_nil)
    (pss_one (ps_ret pe_str))))))))))))))), ?_⟩
  walk_at "rd"
  refine rd_new (by simp) fun pb H1 nb e1 hb => ?_
  walk_at "rd"
  refine rd_new (by simp) fun ps H2 ns e2 hs => ?_
  have e12 := e1.trans e2
  walk_at "rd"
  refine rd_for_l ?_
  walk_at "rd"
  refine ⟨rv, r, rfl, dp_sm e12 _ _ hD, fun py us H3 ny e3 hy hA => ?_⟩
  have e13 := e12.trans e3
  refine ⟨_, rfl, ⟨_, SqL.of hy⟩, ?_⟩
  have hlu : us.length = r.says.length := by rw [dpA_len hA, List.length_map]
  refine for_it walk_list (fun i σ' H' => ∃ (p3 p4 : Addr) (o5 : Option V), σ' = wst rv tv lt p3 p4 o5 none none none ∧ Same H3 H' ∧ H' p3 = some (.lst (((r.says.take i).flatMap Sy.bx).map V.str)) ∧ H' p4 = some (.lst (((r.says.take i).flatMap Sy.st).map V.str)))
    ⟨pb, ps, none, rfl, Same.refl _, e3 _ _ (e2 _ _ hb), e3 _ _ hs⟩ (fun _ _ _ _ ⟨_, _, _, _, h, _⟩ => SqL.of (h _ _ hy)) ?_ ?_
  · rintro j y σ' H4 H5 hj ⟨p3, p4, o5, rfl, e4, g3, g4⟩ ⟨rfl, hx⟩
    obtain ⟨dd, hd1, hd2⟩ := dpA_get hA hx
    rw [List.getElem?_map] at hd1
    obtain ⟨t, ht, rfl⟩ := Option.map_eq_some_iff.mp hd1
    obtain ⟨t1, t2, t3⟩ := Rw.says_ok hw t (List.mem_of_getElem? ht)
    have hDt := dp_sm e4 _ _ hd2
    have lb := says_take_len Sy.bx_len hw j
    have ls := says_take_len Sy.st_len hw j
    have lb2 := Sy.bx_len t
    have ls2 := Sy.st_len t
    unfold wst
    walk_at "rd"
    refine ⟨y, t, rfl, hDt, t3, t2, t1, fun p5 H6 np5 e6 hp5 => ?_⟩
    refine rd_plus_l (e6 _ _ g3) hp5 (by rw [List.length_map, List.length_map]; omega) fun p6 H7 np6 e7 hp6 => ?_
    have e57 := e6.trans e7
    walk_at "rd"
    refine ⟨y, t, rfl, dp_sm e57 _ _ hDt, t3, t2, t1, fun p8 H8 np8 e8 hp8 => ?_⟩
    refine rd_plus_l (e8 _ _ (e57 _ _ g4)) hp8 (by rw [List.length_map, List.length_map]; omega) fun p9 H9 np9 e9 hp9 => ?_
    walk_at "rd"
    have e79 := e8.trans e9
    refine ⟨p6, p9, _, rfl, (e4.trans e57).trans e79, ?_, ?_⟩
    · rw [e79 _ _ hp6, flat_one ht, List.map_append]
    · rw [hp9, flat_one ht, List.map_append]
  rintro σ' H4 ⟨p3, p4, o5, rfl, e4, g3, g4⟩
  have lb := says_take_len Sy.bx_len hw us.length
  have ls := says_take_len Sy.st_len hw us.length
  rw [hlu, List.take_length] at g3 g4 lb ls
  have e04 := e13.trans e4
  refine rd_why3 (dp_sm e04 _ _ hD) g3 g4 (by omega) (by omega) fun pb' ps' H5 e5 hb5 hs5 => ?_
  have e05 := e04.trans e5
  obtain ⟨a, x1, x2, x3, rfl, hTS, d1, d2, d3⟩ := dp_three hT
  obtain ⟨a3, xs3, rfl, hS3, hA3⟩ := dp_tup d3
  obtain ⟨pst, rfl, hSst⟩ := ons_of d2
  have hl3 : xs3.length = p.rt.length := by rw [dpA_len hA3, List.length_map]
  have hr2 := hpw.r2
  unfold wst
  walk_at "rd"
  refine rd_lc_t ?_
  walk_at "rd"
  refine rd_ix_t (seqT_sm e05 hTS) (atI_nat (j := 2) rfl) ?_
  refine ⟨_, rfl, ⟨_, seqT_sm e05 hS3⟩, fun Dr nDr => ?_⟩
  refine lc_map walk_tup (fun j y _ => ∃ pr : Str × List Rw, p.rt[j]? = some pr ∧ y = .str pr.1) nDr (by omega) (fun _ _ _ _ _ _ h => h) (fun H' e => seqT_sm e (seqT_sm e05 hS3)) ?_ ?_
  · rintro j y H6 H7 F Z hi e6 ⟨rfl, hx⟩ hF
    refine ⟨Same.refl _, ?_⟩
    obtain ⟨dd, hd1, hd2⟩ := dpA_get hA3 hx
    rw [List.getElem?_map] at hd1
    obtain ⟨pr, hpr, rfl⟩ := Option.map_eq_some_iff.mp hd1
    obtain ⟨ap, y1, y2, rfl, hSp, f1, f2⟩ := dp_two hd2
    cases dp_str f1
    refine rd_gtup (seqT_sm (e05.trans e6) hSp) rfl ?_
    refine rd_gcons ?_
    refine rd_name ?_
    refine rd_gcons ?_
    refine rd_name ?_
    refine rd_gnil ?_
    refine ⟨rfl, ?_⟩
    walk_at "rd"
    exact hF _ _ (Same.refl _) ⟨pr, hpr, rfl⟩
  intro rns H6 e6 hDr hlr hyr
  have hrns : rns = (p.rt.map (·.1)).map V.str := by
    refine List.ext_getElem? fun j => ?_
    cases hj : rns[j]? with
    | some y =>
      obtain ⟨pr, g1, g2⟩ := hyr j y hj
      rw [List.getElem?_map, List.getElem?_map, g1, g2]
      rfl
    | none =>
      have z := List.getElem?_eq_none_iff.mp hj
      rw [eq_comm, List.getElem?_eq_none_iff, List.length_map, List.length_map]
      omega
  rw [hrns] at hDr
  have e06 := e05.trans e6
  have lfb := r.fbox_len
  have lfs := r.fstk_len
  have okb : ∀ x ∈ (r.says.flatMap Sy.bx ++ r.fbox), nameOk x = true := fun x hx => (List.mem_append.mp hx).elim (says_flat hw Sy.bx_ok x) (Rw.fbox_ok hw x)
  have oks : ∀ x ∈ (r.says.flatMap Sy.st ++ r.fstk), nameOk x = true := fun x hx => (List.mem_append.mp hx).elim (says_flat hw Sy.st_ok x) (Rw.fstk_ok hw x)
  have eqb := filt_all (th := th) (fun z => by unfold Rw.abox; rw [List.mem_append, List.mem_append, or_comm] : ∀ z, z ∈ (r.says.flatMap Sy.bx ++ r.fbox) ↔ z ∈ r.abox)
  have eqs := filt_all (th := p.st) (fun z => by unfold Rw.astk; rw [List.mem_append, List.mem_append, or_comm] : ∀ z, z ∈ (r.says.flatMap Sy.st ++ r.fstk) ↔ z ∈ r.astk)
  walk_at "rd"
  refine rd_lc_l ?_
  walk_at "rd"
  refine ⟨_, rfl, ⟨_, SqL.of (e6 _ _ hb5)⟩, fun D1 nD1 => ?_⟩
  refine lc_filt (fun x => !decide (x ∈ th)) walk_list nD1 (by rw [List.length_append]; omega) (fun H' e => SqL.of (e _ _ (e6 _ _ hb5))) ?_ ?_
  · intro i x H7 F Z hx e7 hF hZ
    refine rd_name ?_
    refine ⟨rfl, ?_⟩
    walk_at "rd"
    refine rd_nin_nL (SqL.of ((e06.trans e7) _ _ hth)) ?_
    walk_at "rd"
    refine rd_both (fun hc => ?_) (fun hc => ?_)
    · walk_at "rd"
      exact hF hc _ (Same.refl _)
    · exact hZ hc _ (Same.refl _)
  intro H7 e7 hD1
  have e07 := e06.trans e7
  walk_at "rd"
  refine rd_new (by simp) fun pn H8 npn e8 hpn => ?_
  refine rd_ne_nil (e8 _ _ hD1) (fun x hx => okb x (List.mem_filter.mp hx).1) hpn ?_
  rw [eqb]
  have e08 := e07.trans e8
  walk_at "rd"
  refine rd_both (fun hc => ?_) (fun hc => ?_)
  · have hc' : decide (∀ x ∈ r.abox, x ∈ th) = false := by simpa using hc
    walk_at "rd"
    exact ret "box" e08 (by unfold lawWhy whyN' Rw.whyN; rw [if_pos hc'] <;> rfl)
  have hN1 : ¬ decide (∀ x ∈ r.abox, x ∈ th) = false := by
    intro z
    rw [z] at hc
    cases hc
  walk_at "rd"
  refine rd_lc_l ?_
  walk_at "rd"
  have hs8 := ((e6.trans e7).trans e8) _ _ hs5
  refine ⟨_, rfl, ⟨_, SqL.of hs8⟩, fun D2 nD2 => ?_⟩
  refine lc_filt (fun x => !decide (x ∈ p.st)) walk_list nD2 (by rw [List.length_append]; omega) (fun H' e => SqL.of (e _ _ hs8)) ?_ ?_
  · intro i x H9 F Z hx e9 hF hZ
    refine rd_name ?_
    refine ⟨rfl, ?_⟩
    walk_at "rd"
    refine rd_ix_t (seqT_sm (e08.trans e9) hTS) (atI_nat (j := 1) rfl) ?_
    refine rd_nin_nT (seqT_sm (e08.trans e9) hSst) ?_
    walk_at "rd"
    refine rd_both (fun hc => ?_) (fun hc => ?_)
    · walk_at "rd"
      exact hF hc _ (Same.refl _)
    · exact hZ hc _ (Same.refl _)
  intro H9 e9 hD2
  have e09 := e08.trans e9
  walk_at "rd"
  refine rd_new (by simp) fun pm Hz npm ez9 hpm => ?_
  refine rd_ne_nil (ez9 _ _ hD2) (fun x hx => oks x (List.mem_filter.mp hx).1) hpm ?_
  rw [eqs]
  have ez := e09.trans ez9
  walk_at "rd"
  refine rd_both (fun hc2 => ?_) (fun hc2 => ?_)
  · have hc' : decide (∀ x ∈ r.astk, x ∈ p.st) = false := by simpa using hc2
    walk_at "rd"
    exact ret "stack" ez (by unfold lawWhy whyN' Rw.whyN; rw [if_neg hN1, if_pos hc'] <;> rfl)
  · have hN2 : ¬ decide (∀ x ∈ r.astk, x ∈ p.st) = false := by
      intro z
      rw [z] at hc2
      cases hc2
    have hDz := dp_sm ez _ _ hD
    have hrn := (((e7.trans e8).trans e9).trans ez9) _ _ hDr
    have hTz := seqT_sm ez hTS
    have hT2z := seqT_sm ez hSst
    have hthz := ez _ _ hth
    cases r with
    | turn b m =>
      obtain ⟨a, x, y, z, rfl, hS, d1, d2, d3⟩ := dp_three hDz
      cases dp_str d1
      have eT := Same.refl Hz
      walk_at "rt"
      refine rd_new (by simp) fun pW1 HW1 npW1 eW1 hpW1 => ?_
      refine rd_in_nT (xs := ["call", "back"]) (SqT.of hpW1) ?_
      have hS := seqT_sm eW1 hS
      have eT := eT.trans eW1
      walk_at "rt"
      walk_at "rt"
      walk_at "rt"
      refine rd_new (by simp) fun pW2 HW2 npW2 eW2 hpW2 => ?_
      refine rd_in_nT (xs := ["add", "less", "mix"]) (SqT.of hpW2) ?_
      have hS := seqT_sm eW2 hS
      have eT := eT.trans eW2
      walk_at "rt"
      walk_at "rt"
      exact ret "" (ez.trans eT) (by rw [why_fine hN1 hN2 rfl rfl rfl])
    | mov k b s =>
      obtain ⟨a, x, y, z, rfl, hS, d1, d2, d3⟩ := dp_three hDz
      cases dp_str d1
      have eT := Same.refl Hz
      walk_at "rt"
      refine rd_new (by simp) fun pW3 HW3 npW3 eW3 hpW3 => ?_
      refine rd_in_nT (xs := ["call", "back"]) (SqT.of hpW3) ?_
      have hS := seqT_sm eW3 hS
      have eT := eT.trans eW3
      walk_at "rt"
      refine rd_false (by cases k <;> decide +kernel) ?_
      walk_at "rt"
      walk_at "rt"
      refine rd_false (decide_eq_false (by cases k <;> decide +kernel)) ?_
      walk_at "rt"
      walk_at "rt"
      refine rd_new (by simp) fun pW4 HW4 npW4 eW4 hpW4 => ?_
      refine rd_in_nT (xs := ["add", "less", "mix"]) (SqT.of hpW4) ?_
      have hS := seqT_sm eW4 hS
      have eT := eT.trans eW4
      walk_at "rt"
      refine rd_false (by cases k <;> decide +kernel) ?_
      walk_at "rt"
      walk_at "rt"
      refine rd_false (decide_eq_false (by cases k <;> decide +kernel)) ?_
      walk_at "rt"
      exact ret "" (ez.trans eT) (by rw [why_fine hN1 hN2 rfl rfl rfl])
    | blk k t y n a2 =>
      obtain ⟨a, x, y1, y2, y3, y4, rfl, hS, d1, d2, d3, d4, d5⟩ := dp_five hDz
      cases dp_str d1
      have eT := Same.refl Hz
      walk_at "rt"
      refine rd_new (by simp) fun pW5 HW5 npW5 eW5 hpW5 => ?_
      refine rd_in_nT (xs := ["call", "back"]) (SqT.of hpW5) ?_
      have hS := seqT_sm eW5 hS
      have eT := eT.trans eW5
      walk_at "rt"
      refine rd_false (by cases k <;> decide +kernel) ?_
      walk_at "rt"
      walk_at "rt"
      refine rd_false (decide_eq_false (by cases k <;> decide +kernel)) ?_
      walk_at "rt"
      walk_at "rt"
      refine rd_new (by simp) fun pW6 HW6 npW6 eW6 hpW6 => ?_
      refine rd_in_nT (xs := ["add", "less", "mix"]) (SqT.of hpW6) ?_
      have hS := seqT_sm eW6 hS
      have eT := eT.trans eW6
      walk_at "rt"
      refine rd_false (by cases k <;> decide +kernel) ?_
      walk_at "rt"
      walk_at "rt"
      refine rd_false (decide_eq_false (by cases k <;> decide +kernel)) ?_
      walk_at "rt"
      exact ret "" (ez.trans eT) (by rw [why_fine hN1 hN2 rfl rfl rfl])
    | nam k x' =>
      obtain ⟨a, x, y, rfl, hS, d1, d2⟩ := dp_two hDz
      cases dp_str d1
      have eT := Same.refl Hz
      cases dp_str d2
      walk_at "rt"
      refine rd_new (by simp) fun pW7 HW7 npW7 eW7 hpW7 => ?_
      refine rd_in_nT (xs := ["call", "back"]) (SqT.of hpW7) ?_
      have hS := seqT_sm eW7 hS
      have eT := eT.trans eW7
      walk_at "rt"
      refine rd_true (by cases k <;> decide +kernel) ?_
      walk_at "rt"
      refine rd_nin_nL (SqL.of (eT _ _ hrn)) ?_
      walk_at "rt"
      refine rd_both (fun hd => ?_) (fun hd => ?_)
      · have hd' : decide (x' ∈ p.rt.map (·.1)) = false := by simpa using hd
        walk_at "rt"
        exact ret "routine" (ez.trans eT) (by unfold lawWhy whyN' Rw.whyN; rw [if_neg hN1, if_neg hN2, if_pos (show Rw.rtn _ (.nam k x') = false from hd')] <;> rfl)
      · have hd' : decide (x' ∈ p.rt.map (·.1)) = true := by simpa using hd
        walk_at "rt"
        refine rd_false (decide_eq_false (by cases k <;> decide +kernel)) ?_
        walk_at "rt"
        walk_at "rt"
        refine rd_new (by simp) fun pW8 HW8 npW8 eW8 hpW8 => ?_
        refine rd_in_nT (xs := ["add", "less", "mix"]) (SqT.of hpW8) ?_
        have hS := seqT_sm eW8 hS
        have eT := eT.trans eW8
        walk_at "rt"
        refine rd_false (by cases k <;> decide +kernel) ?_
        walk_at "rt"
        walk_at "rt"
        refine rd_false (decide_eq_false (by cases k <;> decide +kernel)) ?_
        walk_at "rt"
        exact ret "" (ez.trans eT) (by rw [why_fine hN1 hN2 hd' rfl rfl])
    | swap b e =>
      obtain ⟨a, x, y, z, rfl, hS, d1, d2, d3⟩ := dp_three hDz
      cases dp_str d1
      have eT := Same.refl Hz
      cases dp_str d2
      cases dp_str d3
      walk_at "rt"
      refine rd_new (by simp) fun pW9 HW9 npW9 eW9 hpW9 => ?_
      refine rd_in_nT (xs := ["call", "back"]) (SqT.of hpW9) ?_
      have hS := seqT_sm eW9 hS
      have eT := eT.trans eW9
      walk_at "rt"
      walk_at "rt"
      refine rd_both (fun hd => ?_) (fun hd => ?_)
      · have hd' : decide (b ≠ e) = false := by
          have z : b = e := of_decide_eq_true hd
          simpa using z
        walk_at "rt"
        exact ret "itself" (ez.trans eT) (by rw [why_k hN1 hN2 rfl]; unfold whyK' Rw.whyK; rw [if_pos (show Rw.self (.swap b e) = false from hd')] <;> rfl)
      · have hd' : decide (b ≠ e) = true := by
          have z : ¬ b = e := of_decide_eq_false hd
          simpa using z
        walk_at "rt"
        refine rd_new (by simp) fun pW10 HW10 npW10 eW10 hpW10 => ?_
        refine rd_in_nT (xs := ["add", "less", "mix"]) (SqT.of hpW10) ?_
        have hS := seqT_sm eW10 hS
        have eT := eT.trans eW10
        walk_at "rt"
        walk_at "rt"
        exact ret "" (ez.trans eT) (by rw [why_fine hN1 hN2 rfl hd' rfl])
    | chg k b e =>
      obtain ⟨a, x, y, z, rfl, hS, d1, d2, d3⟩ := dp_three hDz
      cases dp_str d1
      have eT := Same.refl Hz
      cases dp_str d2
      walk_at "rt"
      refine rd_new (by simp) fun pW11 HW11 npW11 eW11 hpW11 => ?_
      refine rd_in_nT (xs := ["call", "back"]) (SqT.of hpW11) ?_
      have hS := seqT_sm eW11 hS
      have eT := eT.trans eW11
      walk_at "rt"
      refine rd_false (by cases k <;> decide +kernel) ?_
      walk_at "rt"
      walk_at "rt"
      refine rd_false (decide_eq_false (by cases k <;> decide +kernel)) ?_
      walk_at "rt"
      walk_at "rt"
      refine rd_new (by simp) fun pW12 HW12 npW12 eW12 hpW12 => ?_
      refine rd_in_nT (xs := ["add", "less", "mix"]) (SqT.of hpW12) ?_
      have hS := seqT_sm eW12 hS
      have eT := eT.trans eW12
      walk_at "rt"
      refine rd_true (by cases k <;> decide +kernel) ?_
      walk_at "rt"
      obtain ⟨w1, w2, w3, w4⟩ := hw
      refine ⟨z, e, rfl, dp_sm eT _ _ d3, w4, w3, w2, fun pB HB npB eB hpB => ?_⟩
      have hS := seqT_sm eB hS
      have eT := eT.trans eB
      refine rd_in_nL (SqL.of hpB) ?_
      walk_at "rt"
      refine rd_both (fun hd => ?_) (fun hd => ?_)
      · have hd' : decide (b ∉ e.bx) = false := by
          have z : b ∈ e.bx := of_decide_eq_true hd
          simpa using z
        walk_at "rt"
        exact ret "itself" (ez.trans eT) (by rw [why_k hN1 hN2 rfl]; unfold whyK' Rw.whyK; rw [if_pos (show Rw.self (.chg k b e) = false from hd')] <;> rfl)
      · have hd' : decide (b ∉ e.bx) = true := by
          have z : ¬ b ∈ e.bx := of_decide_eq_false hd
          simpa using z
        walk_at "rt"
        refine rd_false (decide_eq_false (by cases k <;> decide +kernel)) ?_
        walk_at "rt"
        exact ret "" (ez.trans eT) (by rw [why_fine hN1 hN2 rfl hd' rfl])
    | held b e y ff =>
      obtain ⟨a, x, y1, y2, y3, y4, rfl, hS, d1, d2, d3, d4, d5⟩ := dp_five hDz
      cases dp_str d1
      have eT := Same.refl Hz
      cases dp_str d2
      walk_at "rt"
      refine rd_new (by simp) fun pW13 HW13 npW13 eW13 hpW13 => ?_
      refine rd_in_nT (xs := ["call", "back"]) (SqT.of hpW13) ?_
      have hS := seqT_sm eW13 hS
      have eT := eT.trans eW13
      walk_at "rt"
      walk_at "rt"
      walk_at "rt"
      refine rd_new (by simp) fun pW14 HW14 npW14 eW14 hpW14 => ?_
      refine rd_in_nT (xs := ["add", "less", "mix"]) (SqT.of hpW14) ?_
      have hS := seqT_sm eW14 hS
      have eT := eT.trans eW14
      walk_at "rt"
      walk_at "rt"
      refine rd_ix_t (seqT_sm eT hTz) (atI_nat (j := 1) rfl) ?_
      walk_at "rt"
      refine rd_lstT (seqT_sm eT hT2z) fun pL HL npL eL hpL => ?_
      have eT := eT.trans eL
      refine rd_plus_l (eT _ _ hthz) hpL (by rw [List.length_map, List.length_map]; omega) fun pM HM npM eM hpM => ?_
      have eT := eT.trans eM
      walk_at "rt"
      refine rd_plus_l hpM (eT _ _ hrn) (by simp only [List.length_append, List.length_map] at hzs ⊢; omega) fun pN HN npN eN hpN => ?_
      have eT := eT.trans eN
      have hpN' : HN pN = some (.lst ((th ++ p.st ++ p.rt.map (·.1)).map V.str)) := by
        rw [hpN, List.map_append, List.map_append]
      refine rd_in_nL (SqL.of hpN') ?_
      walk_at "rt"
      refine rd_both (fun hd => ?_) (fun hd => ?_)
      · have hd' : decide (b ∉ th ++ p.st ++ p.rt.map (·.1)) = false := decide_eq_false fun n => n (of_decide_eq_true hd)
        walk_at "rt"
        exact ret "held" (ez.trans eT) (by rw [why_k hN1 hN2 rfl]; unfold whyK' Rw.whyK; rw [if_neg (by show ¬ true = false; decide), if_pos (show Rw.kept _ _ _ (.held b e y ff) = false from hd')] <;> rfl)
      · have hd' : decide (b ∉ th ++ p.st ++ p.rt.map (·.1)) = true := decide_eq_true (of_decide_eq_false hd)
        walk_at "rt"
        exact ret "" (ez.trans eT) (by rw [why_fine hN1 hN2 rfl rfl hd'])
end

end

section
section
variable {P : Program} {w : World} {K : PySem.W.Frag} {mg : Str → Option Value} {base : Heap} {A : CA}
def failD : Fail → PyData
  | none => .none
  | some (pl, y) => .tuple [.tuple pl, .str y]
theorem fail_non {H : Hp} {x : V} {f : Fail} (h : Dp K H x (failD f)) : decide (x = .non) = f.isNone := by
  cases f with
  | none => cases h; rfl
  | some z =>
    obtain ⟨pl, y⟩ := z
    cases h
    exact decide_eq_false (by intro z; cases z)
theorem why_eq {p : Pg} {r : Rw} {th : List Str} {pl : List PyData} : (lawWhy p r th = "" ∧ r.why p.st (p.rt.map (·.1)) th pl = none) ∨ (lawWhy p r th ≠ "" ∧ r.why p.st (p.rt.map (·.1)) th pl = some (pl, lawWhy p r th)) := by
  have n1 : ∀ y, whyN' p r th = some y → y ≠ "" := fun y h => by
    unfold whyN' Rw.whyN at h
    split at h
    · rw [← Option.some.inj h]; decide +kernel
    · split at h
      · rw [← Option.some.inj h]; decide +kernel
      · split at h
        · rw [← Option.some.inj h]; decide +kernel
        · cases h
  have n2 : ∀ y, whyK' p r th = some y → y ≠ "" := fun y h => by
    unfold whyK' Rw.whyK at h
    split at h
    · rw [← Option.some.inj h]; decide +kernel
    · split at h
      · rw [← Option.some.inj h]; decide +kernel
      · cases h
  unfold lawWhy Rw.why at'
  show _ ∧ ((whyN' p r th).map _).or ((whyK' p r th).map _) = _ ∨ _ ∧ ((whyN' p r th).map _).or ((whyK' p r th).map _) = _
  cases h1 : whyN' p r th with
  | some y => exact .inr ⟨n1 y h1, rfl⟩
  | none =>
    cases h2 : whyK' p r th with
    | some y => exact .inr ⟨n2 y h2, rfl⟩
    | none => exact .inl ⟨rfl, rfl⟩
/-- a row's word, and what stands behind it -/
theorem row_two {H : Hp} {v : V} {r : Rw} (hD : Dp K H v r.told) (th : List Str) : ∃ a nm u xs, v = .ref a ∧ SqT K H a (V.str nm :: u :: xs) ∧ (nm = "held" → ∃ b : Str, u = .str b ∧ r.ins th = th ++ [b]) ∧ (nm ≠ "held" → r.ins th = th) := by
  cases r with
  | held b e y ff =>
    obtain ⟨a, x1, x2, x3, x4, x5, rfl, hS, d1, d2, _⟩ := dp_five hD
    cases dp_str d1
    cases dp_str d2
    exact ⟨a, _, _, _, rfl, hS, fun _ => ⟨b, rfl, rfl⟩, fun h => absurd rfl h⟩
  | blk k t y n a2 =>
    obtain ⟨a, x1, x2, x3, x4, x5, rfl, hS, d1, d2, _⟩ := dp_five hD
    cases dp_str d1
    exact ⟨a, _, _, _, rfl, hS, fun h => absurd h (by cases k <;> decide +kernel), fun _ => rfl⟩
  | chg k b e =>
    obtain ⟨a, x1, x2, x3, rfl, hS, d1, _⟩ := dp_three hD
    cases dp_str d1
    exact ⟨a, _, _, _, rfl, hS, fun h => absurd h (by cases k <;> decide +kernel), fun _ => rfl⟩
  | swap b e =>
    obtain ⟨a, x1, x2, x3, rfl, hS, d1, _⟩ := dp_three hD
    cases dp_str d1
    exact ⟨a, _, _, _, rfl, hS, fun h => absurd h (by decide +kernel), fun _ => rfl⟩
  | turn b e =>
    obtain ⟨a, x1, x2, x3, rfl, hS, d1, _⟩ := dp_three hD
    cases dp_str d1
    exact ⟨a, _, _, _, rfl, hS, fun h => absurd h (by decide +kernel), fun _ => rfl⟩
  | mov k b e =>
    obtain ⟨a, x1, x2, x3, rfl, hS, d1, _⟩ := dp_three hD
    cases dp_str d1
    exact ⟨a, _, _, _, rfl, hS, fun h => absurd h (by cases k <;> decide +kernel), fun _ => rfl⟩
  | nam k x =>
    obtain ⟨a, x1, x2, rfl, hS, d1, _⟩ := dp_two hD
    cases dp_str d1
    exact ⟨a, _, _, _, rfl, hS, fun h => absurd h (by cases k <;> decide +kernel), fun _ => rfl⟩
/-- place + (k, m) -/
theorem rd_place2 {H : Hp} {Q : VK} {v : V} {pl : List PyData} {k m : Int} {p : Addr} (h : Dp K H v (.tuple pl)) (hz : pl.length ≤ 900) (hp : H p = some (.tup [.int k, .int m])) (q : ∀ x H', Same H H' → Dp K H' x (.tuple (pl ++ [.int k] ++ [.int m])) → Q x H') : rPlus K v (.ref p) H Q := by
  obtain ⟨a, xs, rfl, hS, hA⟩ := dp_tup h
  refine rd_plus_t hS (SqT.of hp) (by rw [dpA_len hA]; simp; omega) fun p2 H2 e2 h2 => ?_
  exact q _ H2 e2 (.tup h2 (by rw [List.append_assoc]; exact dpA_app (dpAll_sm e2 _ _ hA) (.cons (.int _) (.cons (.int _) .nil))))
def spLkR (K : PySem.W.Frag) (n : Nat) : Sp := fun vs H Q _ => ∃ (v tv av : V) (lt : Addr) (rs : List Rw) (th : List Str) (p : Pg) (pl : List PyData), vs = [v, .ref lt, tv, av] ∧ Dp K H v (.tuple (toldRs rs)) ∧ wfRs rs ∧ cntRs rs ≤ 400 ∧ dpRs rs < n ∧ H lt = some (.lst (th.map V.str)) ∧ th.length + n ≤ 100 ∧ Dp K H tv p.told ∧ p.wf ∧ Dp K H av (.tuple pl) ∧ pl.length + 2 * n ≤ 100 ∧
  ∀ (x : V) (H' : Hp), Same H H' → Dp K H' x (failD (lookRs p.st (p.rt.map (·.1)) rs th pl 0)) → Q x H'
theorem ok_look_rows (T : Txt K mg A) : ∀ n : Nat, Cal P w K mg base CX0 "_law_look_rows" (n + 11) ["_law_rows", "_law_there", "_law_told", "_law_ahead"] (spLkR K n)
  | 0 => T.d_L_look_rows.never fun vs H Q E h => by
    obtain ⟨_, _, _, _, _, _, _, _, _, _, _, _, hn, _⟩ := h
    omega
  | n + 1 => by
    have c_L_look_rows := ok_look_rows T n
    have c_L_why := ok_L_why (P := P) (w := w) (base := base) T
    have c_L_within := ok_L_within (P := P) (w := w) (base := base) T
    refine T.d_L_look_rows.ok sc_L_look_rows (fun vs H Q E h => ?_) (fun f cdv Ar outer s H vs Q E hr h => ?_)
    · obtain ⟨v, tv, av, lt, rs, th, p, pl, rfl, _⟩ := h
      rfl
    obtain ⟨v, tv, av, lt, rs, th, p, pl, rfl, hD, hw, hcn, hn, hth, htl, hT, hpw, hpl, hpll, q⟩ := h
    obtain ⟨a, xs, rfl, hS, hA⟩ := dp_tup hD
    refine ⟨_, (pss_cons (ps_for PassesOwn.never rfl (k_enum K (by rfl) T.b_enumerate (pv 0)) (k_gtup K (n := 2) rfl (pgs_cons (pg_name (i := 4) sc_L_look_rows.nd rfl (by first | exact Or.inl rfl | exact Or.inr rfl)) (pgs_cons (pg_name (i := 5) sc_L_look_rows.nd rfl (by first | exact Or.inl rfl | exact Or.inr rfl)) pgs_nil))) (pss_cons (ps_set (i := 6) sc_L_look_rows.nd rfl (by first | exact Or.inl rfl | exact Or.inr rfl) (pe_cal c_L_why hr (by omega) pass0 (pa_cons (pv 5) (pa_cons (pv 1) (pa_cons (pv 2) pa_nil)))))
    (pss_cons (ps_if (pt_cmpR (k_neq K hr.units) (pv 6) pe_str (nomark _)) (pss_one (ps_ret (pe_tup (pa_cons (pe_op (k_plus K) (pv 3) (pe_tup (pa_cons (pv 4) pa_nil))) (pa_cons (pv 6) pa_nil))))) pss_nil)
    (pss_cons (ps_set (i := 7) sc_L_look_rows.nd rfl (by first | exact Or.inl rfl | exact Or.inr rfl) (pe_op (k_plus K) (pv 1) (pe_op op_times (pe_lst (pa_cons (pe_ix (k_ix K) (pv 5) pe_int (fun _ _ => rfl)) pa_nil)) (pe_callTy call_int1 (by rfl) T.b_int bt_int (pa_cons (pe_cmpR (k_eql K hr.units) (pe_ix (k_ix K) (pv 5) pe_int (fun _ _ => rfl)) pe_str (nomark _)) pa_nil)))))
    (pss_one (ps_for PassesOwn.never rfl (k_enum K (by rfl) T.b_enumerate (pe_cal c_L_within hr (by omega) pass0 (pa_cons (pv 5) pa_nil))) (k_gtup K (n := 2) rfl (pgs_cons (pg_name (i := 8) sc_L_look_rows.nd rfl (by first | exact Or.inl rfl | exact Or.inr rfl)) (pgs_cons (pg_name (i := 9) sc_L_look_rows.nd rfl (by first | exact Or.inl rfl | exact Or.inr rfl)) pgs_nil))) (pss_cons (ps_set (i := 10) sc_L_look_rows.nd rfl (by first | exact Or.inl rfl | exact Or.inr rfl) (pe_cal c_L_look_rows hr (by omega) pass0 (pa_cons (pv 9) (pa_cons (pv 7) (pa_cons (pv 2) (pa_cons (pe_op (k_plus K) (pv 3) (pe_tup (pa_cons (pv 4) (pa_cons (pv 8) pa_nil)))) pa_nil))))))
    (pss_one (ps_if (pt_cmpR op_notN (pv 10) pe_non (nomark _)) (pss_one (ps_ret (pv 10))) pss_nil)))))))))
    (pss_one (ps_ret pe_non))), ?_⟩
    refine rd_for_eT ?_
    walk_at "rd"
    refine ⟨a, xs, rfl, hS, ?_⟩
    have hxl : xs.length = rs.length := by rw [dpA_len hA, toldRs_map, List.length_map]
    refine for_it walk_enumT (fun i σ' H' => (∃ o4 o5 o6 o7 o8 o9 o10, σ' = [some (.ref a), some (.ref lt), some tv, some av, o4, o5, o6, o7, o8, o9, o10]) ∧ Same H H' ∧ lookRs p.st (p.rt.map (·.1)) rs th pl 0 = lookRs p.st (p.rt.map (·.1)) (rs.drop i) th pl i) ⟨⟨none, none, none, none, none, none, none, rfl⟩, Same.refl _, rfl⟩ (fun _ _ _ _ h => seqT_sm h.2.1 hS) ?_ ?_
    · rintro j y σ' H2 H3 hj ⟨⟨o4, o5, o6, o7, o8, o9, o10, rfl⟩, e2, eq2⟩ ⟨T0, x, rfl, nT, rfl, hx⟩
      obtain ⟨dd, hd1, hd2⟩ := dpA_get hA hx
      rw [toldRs_map, List.getElem?_map] at hd1
      obtain ⟨r, h1, rfl⟩ := Option.map_eq_some_iff.mp hd1
      have hm := List.mem_of_getElem? h1
      have hrw := wfRs_all.mp hw r hm
      have e23 : Same H2 (upd H2 T0 (.tup [.int (j : Nat), x])) := sm_new nT
      have e3 := e2.trans e23
      have hDr := dp_sm e3 _ _ hd2
      refine rd_gtup (SqT.of upd_same) rfl ?_
      refine rd_gcons ?_
      refine rd_name ?_
      refine rd_gcons ?_
      refine rd_name ?_
      refine rd_gnil ?_
      rw [drop_one h1] at eq2
      have eq3 : lookRs p.st (p.rt.map (·.1)) rs th pl 0 = (r.look p.st (p.rt.map (·.1)) th (pl ++ [.int (j : Nat)])).or (lookRs p.st (p.rt.map (·.1)) (rs.drop (j + 1)) th pl (j + 1)) := eq2
      rw [r.look_eq, Option.or_assoc] at eq3
      walk_at "rd"
      refine ⟨x, tv, lt, r, th, p, rfl, hDr, hrw, e3 _ _ hth, by omega, dp_sm e3 _ _ hT, hpw, fun H4 e4 => ?_⟩
      have e04 := e3.trans e4
      walk_at "rd"
      rcases why_eq (p := p) (r := r) (th := th) (pl := pl ++ [.int (j : Nat)]) with ⟨hy, hno⟩ | ⟨hy, hso⟩
      · rw [hno, Option.none_or] at eq3
        refine rd_false (by simpa using hy) ?_
        have hDr4 := dp_sm e4 _ _ hDr
        obtain ⟨ar, nm, u, xr, rfl, hSr, hnm1, hnm2⟩ := row_two hDr4 th
        walk_at "rd"
        refine rd_ix_t hSr (atI_nat (j := 1) rfl) ?_
        walk_at "rd"
        refine rd_new (by simp) fun p5 H5 np5 e5 hp5 => ?_
        walk_at "rd"
        refine rd_ix_t (seqT_sm e5 hSr) (atI_nat (j := 0) rfl) ?_
        walk_at "rd"
        refine .inr ⟨_, rfl, ?_⟩
        have hins : ∃ zs : List Str, (List.replicate (Int.toNat (if decide (nm = "held") = true then 1 else 0)) [u]).flatten = zs.map V.str ∧ th ++ zs = r.ins th ∧ zs.length ≤ 1 := by
          by_cases hh : nm = "held"
          · obtain ⟨b, rfl, hb⟩ := hnm1 hh
            rw [decide_eq_true hh]
            exact ⟨[b], rfl, hb.symm, Nat.le_refl _⟩
          · rw [decide_eq_false hh]
            exact ⟨[], rfl, by rw [List.append_nil]; exact (hnm2 hh).symm, by simp⟩
        obtain ⟨zs, hz1, hz2, hz3⟩ := hins
        refine .inr ⟨p5, _, [u], rfl, rfl, hp5, by split <;> decide, by split <;> decide, by split <;> first | (simp; done) | (simp; decide), fun p6 np6 => ?_⟩
        rw [hz1]
        have e6 : Same H5 (upd H5 p6 (.lst (zs.map V.str))) := sm_new np6
        obtain ⟨H6, hH6⟩ : ∃ H6, H6 = upd H5 p6 (.lst (zs.map V.str)) := ⟨_, rfl⟩
        rw [← hH6] at e6 ⊢
        have hp6 : H6 p6 = some (.lst (zs.map V.str)) := by rw [hH6]; exact upd_same
        have e46 := e5.trans e6
        have e06 := e04.trans e46
        refine rd_plus_l (e06 _ _ hth) hp6 (by rw [List.length_map, List.length_map]; omega) fun p7 H7 np7 e7 hp7 => ?_
        rw [← List.map_append, hz2] at hp7
        have e07 := e06.trans e7
        have e47 := e46.trans e7
        walk_at "rd"
        refine rd_for_eL ?_
        walk_at "rd"
        refine ⟨_, r, rfl, dp_sm e47 _ _ hDr4, fun py us H8 ny e8 hy8 hA8 => ?_⟩
        have e08 := e07.trans e8
        have hlu : us.length = r.innerR.length := by rw [dpA_len hA8, List.length_map]
        refine ⟨py, us, rfl, SqL.of hy8, ?_⟩
        have hdr : r.dp ≤ dpRs rs := dpRs_all.mp (Nat.le_refl _) r hm
        have hcr := cnt_mem hm
        have hil := r.ins_len th
        refine for_it walk_enumL (fun i σ' H' => (∃ o8 o9 o10, σ' = [some (.ref a), some (.ref lt), some tv, some av, some (.int (j : Nat)), some (.ref ar), some (.str (lawWhy p r th)), some (.ref p7), o8, o9, o10]) ∧ Same H8 H' ∧ lookPs p.st (p.rt.map (·.1)) r.innerR (r.ins th) (pl ++ [.int (j : Nat)]) 0 = lookPs p.st (p.rt.map (·.1)) (r.innerR.drop i) (r.ins th) (pl ++ [.int (j : Nat)]) i) ⟨⟨_, _, _, rfl⟩, Same.refl _, rfl⟩ (fun _ _ _ _ h => h.2.1.seq (SqL.of hy8)) ?_ ?_
        · rintro i y σ' H9 H10 hi ⟨⟨o8, o9, o10, rfl⟩, e9, eq9⟩ ⟨T1, x1, rfl, nT1, rfl, hx1⟩
          obtain ⟨dd, hd1, hd2⟩ := dpA_get hA8 hx1
          rw [List.getElem?_map] at hd1
          obtain ⟨l, hl1, rfl⟩ := Option.map_eq_some_iff.mp hd1
          have hml := List.mem_of_getElem? hl1
          have hdl := Rw.inner_dp hml
          have hcl := Rw.inner_cnt hml
          have e10 : Same H9 (upd H9 T1 (.tup [.int (i : Nat), x1])) := sm_new nT1
          have e810 := e9.trans e10
          have e010 := e08.trans e810
          refine rd_gtup (SqT.of upd_same) rfl ?_
          refine rd_gcons ?_
          refine rd_name ?_
          refine rd_gcons ?_
          refine rd_name ?_
          refine rd_gnil ?_
          walk_at "rd"
          refine rd_new (by simp) fun p11 H11 np11 e11 hp11 => ?_
          refine rd_place2 (dp_sm (e010.trans e11) _ _ hpl) (by omega) hp11 fun x12 H12 e12 hD12 => ?_
          have e812 := (e810.trans e11).trans e12
          have e012 := e08.trans e812
          rw [drop_one hl1] at eq9
          have eq10 : lookPs p.st (p.rt.map (·.1)) r.innerR (r.ins th) (pl ++ [.int (j : Nat)]) 0 = (lookRs p.st (p.rt.map (·.1)) l (r.ins th) (pl ++ [.int (j : Nat)] ++ [.int (i : Nat)]) 0).or (lookPs p.st (p.rt.map (·.1)) (r.innerR.drop (i + 1)) (r.ins th) (pl ++ [.int (j : Nat)]) (i + 1)) := eq9
          refine ⟨x1, tv, x12, p7, l, r.ins th, p, _, rfl, dp_sm e812 _ _ hd2, Rw.inner_wf hrw l hml, by omega, by omega, (e8.trans e812) _ _ hp7, by omega, dp_sm e012 _ _ hT, hpw, hD12, by rw [List.length_append, List.length_append]; simp; omega, fun x13 H13 e13 hD13 => ?_⟩
          walk_at "rd"
          refine ⟨rfl, ?_⟩
          rw [fail_non hD13]
          walk_at "rd"
          cases hf : lookRs p.st (p.rt.map (·.1)) l (r.ins th) (pl ++ [.int (j : Nat)] ++ [.int (i : Nat)]) 0 with
          | none =>
            rw [hf, Option.none_or] at eq10
            refine rd_false rfl ?_
            walk_at "rd"
            exact ⟨⟨_, _, _, rfl⟩, e812.trans e13, eq10⟩
          | some z =>
            rw [hf] at eq10
            refine rd_true rfl ?_
            walk_at "rd"
            refine q _ H13 (e012.trans e13) ?_
            rw [eq3, eq10]
            rw [hf] at hD13
            exact hD13
        · rintro σ' H9 ⟨⟨o8, o9, o10, rfl⟩, e9, eq9⟩
          rw [hlu, List.drop_length] at eq9
          have eq9' : lookPs p.st (p.rt.map (·.1)) r.innerR (r.ins th) (pl ++ [.int (j : Nat)]) 0 = none := eq9
          rw [eq9', Option.none_or] at eq3
          exact ⟨⟨_, _, _, _, _, _, _, rfl⟩, e08.trans e9, eq3⟩
      · rw [hso] at eq3
        refine rd_true (by simpa using hy) ?_
        walk_at "rd"
        refine rd_new (by simp) fun p5 H5 np5 e5 hp5 => ?_
        refine rd_place (dp_sm (e04.trans e5) _ _ hpl) (by omega) hp5 fun x6 H6 e6 hD6 => ?_
        walk_at "rd"
        refine rd_new (by simp) fun p7 H7 np7 e7 hp7 => ?_
        have e07 := ((e04.trans e5).trans e6).trans e7
        refine q _ H7 e07 ?_
        rw [eq3]
        exact .tup (SqT.of hp7) (.cons (dp_sm e7 _ _ hD6) (.cons (.str _) .nil))
    · rintro σ' H2 ⟨⟨o4, o5, o6, o7, o8, o9, o10, rfl⟩, e2, eq2⟩
      rw [hxl, List.drop_length] at eq2
      walk_at "rd"
      refine q _ H2 e2 ?_
      rw [eq2]
      exact .non
end

end

section
section
variable {P : Program} {w : World} {K : PySem.W.Frag} {mg : Str → Option Value} {base : Heap} {A : CA}
def spLLook (K : PySem.W.Frag) : Sp := fun vs H Q _ => ∃ (v : V) (p : Pg), vs = [v] ∧ Dp K H v p.told ∧ p.wf ∧ ∀ (x : V) (H' : Hp), Same H H' → Dp K H' x (failD p.look) → Q x H'
theorem ok_L_look (T : Txt K mg A) : Cal P w K mg base CX0 "_law_look" 19 ["_law_told"] (spLLook K) := by
  have c_L_look_rows := ok_look_rows (P := P) (w := w) (base := base) T 7
  refine T.d_L_look.ok sc_L_look (fun vs H Q E h => ?_) (fun f cdv Ar outer s H vs Q E hr h => ?_)
  · obtain ⟨v, p, rfl, _⟩ := h
    rfl
  obtain ⟨v, p, rfl, hD, hw, q⟩ := h
  obtain ⟨a, x1, x2, x3, rfl, hS, d1, d2, d3⟩ := dp_three hD
  obtain ⟨a3, xs3, rfl, hS3, hA3⟩ := dp_tup d3
  obtain ⟨p1, rfl, hSb⟩ := ons_of d1
  obtain ⟨p2, rfl, hSs⟩ := ons_of d2
  have hl3 : xs3.length = p.rt.length := by rw [dpA_len hA3, List.length_map]
  have b2 := hw.b2
  have s2 := hw.s2
  have r2 := hw.r2
  have hzn := hw.names
  refine ⟨_, (pss_cons (ps_set (i := 3) sc_L_look.nd rfl (by first | exact Or.inl rfl | exact Or.inr rfl) (pe_op (k_plus K) (pe_callTy (k_lst K rfl) (by rfl) T.b_list bt_list (pa_cons (pe_op (k_plus K) (pe_ix (k_ix K) (pv 0) pe_int (fun _ _ => rfl)) (pe_ix (k_ix K) (pv 0) pe_int (fun _ _ => rfl))) pa_nil)) (pe_lc (own := [("_law_name", 1), ("_law_rows", 2)]) rfl sc_L_look.nd (k_any K (pe_ix (k_ix K) (pv 0) pe_int (fun _ _ => rfl))) (blkOk_by (N := N_L_look) (sc := defScope s_L_look) (by decide +kernel)) (fun _ _ _ _ _ => (k_gtup K (n := 2) rfl (pgs_cons (pg_name (i := 1) sc_L_look.nd rfl (by first | exact Or.inl rfl | exact Or.inr rfl)) (pgs_cons (pg_name (i := 2) sc_L_look.nd rfl (by first | exact Or.inl rfl | exact Or.inr rfl)) pgs_nil)))) (fun _ _ _ _ _ => pts_nil) (fun _ _ _ _ _ => (pv 1)))))
    (pss_cons (ps_if (pt_cmpR op_lt (pe_lenSetS rfl (by rfl) T.b_len (by rfl) T.b_set (pv 3)) (pe_callB (k_len K) (by rfl) T.b_len bt_len (pa_cons (pv 3) pa_nil)) (nomark _)) (pss_one (ps_ret (pe_tup (pa_cons (pe_tup pa_nil) (pa_cons pe_str pa_nil))))) pss_nil)
    (pss_cons (ps_for PassesOwn.never rfl (k_any K (pe_ix (k_ix K) (pv 0) pe_int (fun _ _ => rfl))) (k_gtup K (n := 2) rfl (pgs_cons (pg_name (i := 1) sc_L_look.nd rfl (by first | exact Or.inl rfl | exact Or.inr rfl)) (pgs_cons (pg_name (i := 2) sc_L_look.nd rfl (by first | exact Or.inl rfl | exact Or.inr rfl)) pgs_nil))) (pss_cons (ps_set (i := 4) sc_L_look.nd rfl (by first | exact Or.inl rfl | exact Or.inr rfl) (pe_cal c_L_look_rows hr (by omega) pass0 (pa_cons (pv 2) (pa_cons (pe_callTy (k_lst K rfl) (by rfl) T.b_list bt_list (pa_cons (pe_ix (k_ix K) (pv 0) pe_int (fun _ _ => rfl)) pa_nil)) (pa_cons (pv 0) (pa_cons (pe_tup (pa_cons (pv 1) pa_nil)) pa_nil))))))
    (pss_one (ps_if (pt_cmpR op_notN (pv 4) pe_non (nomark _)) (pss_one (ps_ret (pv 4))) pss_nil))))
    (pss_one (ps_ret pe_non))))), ?_⟩
  walk_at "rd"
  refine rd_ix_t hS (atI_nat (j := 0) rfl) ?_
  walk_at "rd"
  refine rd_ix_t hS (atI_nat (j := 1) rfl) ?_
  refine rd_plus_t hSb hSs (by rw [List.length_map, List.length_map]; omega) fun p4 H4 e4 h4 => ?_
  walk_at "rd"
  refine rd_lstT h4 fun l5 H5 n5 e5 h5 => ?_
  have e05 := e4.trans e5
  refine rd_lc_t ?_
  walk_at "rd"
  refine rd_ix_t (seqT_sm e05 hS) (atI_nat (j := 2) rfl) ?_
  refine ⟨_, rfl, ⟨_, seqT_sm e05 hS3⟩, fun Dr nDr => ?_⟩
  refine lc_map walk_tup (fun j y _ => ∃ pr : Str × List Rw, p.rt[j]? = some pr ∧ y = .str pr.1) nDr (by omega) (fun _ _ _ _ _ _ h => h) (fun H' e => seqT_sm e (seqT_sm e05 hS3)) ?_ ?_
  · rintro j y H6 H7 F Z hi e6 ⟨rfl, hx⟩ hF
    refine ⟨Same.refl _, ?_⟩
    obtain ⟨dd, hd1, hd2⟩ := dpA_get hA3 hx
    rw [List.getElem?_map] at hd1
    obtain ⟨pr, hpr, rfl⟩ := Option.map_eq_some_iff.mp hd1
    obtain ⟨ap, y1, y2, rfl, hSp, f1, f2⟩ := dp_two hd2
    cases dp_str f1
    refine rd_gtup (seqT_sm (e05.trans e6) hSp) rfl ?_
    refine rd_gcons ?_
    refine rd_name ?_
    refine rd_gcons ?_
    refine rd_name ?_
    refine rd_gnil ?_
    refine ⟨rfl, ?_⟩
    walk_at "rd"
    exact hF _ _ (Same.refl _) ⟨pr, hpr, rfl⟩
  intro rns H6 e6 hDr hlr hyr
  have hrns : rns = (p.rt.map (·.1)).map V.str := by
    refine List.ext_getElem? fun j => ?_
    cases hj : rns[j]? with
    | some y =>
      obtain ⟨pr, g1, g2⟩ := hyr j y hj
      rw [List.getElem?_map, List.getElem?_map, g1, g2]
      rfl
    | none =>
      have z := List.getElem?_eq_none_iff.mp hj
      rw [eq_comm, List.getElem?_eq_none_iff, List.length_map, List.length_map]
      omega
  rw [hrns] at hDr
  refine rd_plus_l (e6 _ _ h5) hDr (by simp only [List.length_append, List.length_map]; omega) fun l7 H7 n7 e7 h7 => ?_
  have h7' : H7 l7 = some (.lst (p.names.map V.str)) := by
    rw [h7]
    unfold Pg.names
    rw [List.map_append, List.map_append]
  have e07 := (e05.trans e6).trans e7
  walk_at "rd"
  refine rd_lenS ?_
  walk_at "rd"
  refine ⟨l7, p.names, rfl, SqL.of h7', by omega, ?_⟩
  walk_at "rd"
  refine rd_len_l (SqL.of h7') ?_
  walk_at "rd"
  have hdl := dist_le p.names
  by_cases c : dist p.names < p.names.length
  · refine rd_true (by rw [List.length_map]; simp; omega) ?_
    walk_at "rd"
    refine rd_new (by simp) fun p8 H8 np8 e8 hp8 => ?_
    walk_at "rd"
    refine rd_new (by simp) fun p9 H9 np9 e9 hp9 => ?_
    refine q _ H9 ((e07.trans e8).trans e9) ?_
    rw [show p.look = (some (([] : List PyData), ("names" : Str)) : Fail) from by unfold Pg.look Pg.one; rw [if_pos c] <;> rfl]
    exact .tup (SqT.of hp9) (.cons (.tup (SqT.of (e9 _ _ hp8)) .nil) (.cons (.str _) .nil))
  · have hlook : p.look = lookAll p.st (p.rt.map (·.1)) p.bx p.rt := by
      unfold Pg.look Pg.one
      rw [if_neg c, Option.none_or]
    rw [hlook] at q
    refine rd_false (by rw [List.length_map]; simp; omega) ?_
    walk_at "rd"
    refine rd_for_t ?_
    walk_at "rd"
    refine rd_ix_t (seqT_sm e07 hS) (atI_nat (j := 2) rfl) ?_
    have hS37 := seqT_sm e07 hS3
    refine ⟨_, rfl, ⟨_, hS37⟩, ?_⟩
    refine for_it walk_tup (fun i σ' H' => (∃ o1 o2 o4, σ' = [some (.ref a), o1, o2, some (.ref l7), o4]) ∧ Same H7 H' ∧ lookAll p.st (p.rt.map (·.1)) p.bx p.rt = lookAll p.st (p.rt.map (·.1)) p.bx (p.rt.drop i)) ⟨⟨_, _, _, rfl⟩, Same.refl _, rfl⟩ (fun _ _ _ _ h => seqT_sm h.2.1 hS37) ?_ ?_
    · rintro j y σ' H8 H9 hj ⟨⟨o1, o2, o4, rfl⟩, e8, eq3⟩ ⟨rfl, hx⟩
      have e08 := e07.trans e8
      obtain ⟨dd, hd1, hd2⟩ := dpA_get hA3 hx
      rw [List.getElem?_map] at hd1
      obtain ⟨pr, hpr, rfl⟩ := Option.map_eq_some_iff.mp hd1
      have hm := List.mem_of_getElem? hpr
      have hcn := hw.cnt hm
      have hdn := hw.rd pr hm
      obtain ⟨ap, y1, y2, rfl, hSp, f1, f2⟩ := dp_two hd2
      cases dp_str f1
      refine rd_gtup (seqT_sm e08 hSp) rfl ?_
      refine rd_gcons ?_
      refine rd_name ?_
      refine rd_gcons ?_
      refine rd_name ?_
      refine rd_gnil ?_
      walk_at "rd"
      refine rd_ix_t (seqT_sm e08 hS) (atI_nat (j := 0) rfl) ?_
      walk_at "rd"
      refine rd_lstT (seqT_sm e08 hSb) fun lb Hb nb eb hb => ?_
      walk_at "rd"
      refine rd_new (by simp) fun pn Hn npn en hpn => ?_
      have e0n := (e08.trans eb).trans en
      rw [drop_one hpr] at eq3
      have eq4 : lookAll p.st (p.rt.map (·.1)) p.bx p.rt = (lookRs p.st (p.rt.map (·.1)) pr.2 p.bx [.str pr.1] 0).or (lookAll p.st (p.rt.map (·.1)) p.bx (p.rt.drop (j + 1))) := eq3
      refine ⟨y2, .ref a, .ref pn, lb, pr.2, p.bx, p, [.str pr.1], rfl, dp_sm e0n _ _ f2, hw.rw pr hm, by omega, by omega, en _ _ hb, by omega, dp_sm e0n _ _ hD, hw, .tup (SqT.of hpn) (.cons (.str _) .nil), by simp, fun x13 H13 e13 hD13 => ?_⟩
      walk_at "rd"
      refine ⟨rfl, ?_⟩
      rw [fail_non hD13]
      walk_at "rd"
      cases hf : lookRs p.st (p.rt.map (·.1)) pr.2 p.bx [.str pr.1] 0 with
      | none =>
        rw [hf, Option.none_or] at eq4
        refine rd_false rfl ?_
        walk_at "rd"
        exact ⟨⟨_, _, _, rfl⟩, ((e8.trans eb).trans en).trans e13, eq4⟩
      | some z =>
        rw [hf] at eq4
        refine rd_true rfl ?_
        walk_at "rd"
        refine q _ H13 (e0n.trans e13) ?_
        rw [eq4]
        rw [hf] at hD13
        exact hD13
    · rintro σ' H8 ⟨⟨o1, o2, o4, rfl⟩, e8, eq3⟩
      rw [hl3, List.drop_length] at eq3
      walk_at "rd"
      refine q _ H8 (e07.trans e8) ?_
      rw [eq3]
      exact .non
end

end

section
theorem bt_ValueError : bootBuiltins "ValueError" = some (.type "ValueError") := by decide +kernel
theorem passes_callL {X : Cx} {W : WX} {E : XK} (tk : L2.Takes X W) (hW : ∀ cls d (σ : L2.St) H, σ.length = X.N.length → E cls d H → W cls d σ H) : Passes (L2.CX X.prog X.w) X E :=
  fun _ σ _ _ e s' I c => tk e s' (L2.XE.of_call I (fun cls d H' h => hW cls d σ H' I.len h) c)
section
variable {P : Program} {w : World} {K : PySem.W.Frag} {mg : Str → Option Value} {base : Heap} {A : CA}
theorem rd_cx {te : TE} {f : Str} {σ : L2.St} {H : Hp} {Q : VK} (q : te σ H fun x H1 => ∃ (a C dd : Addr) (fs : List (Str × V)) (v : V), x = .ref a ∧ H1 a = some (Caught (.ref C) (some dd) a) ∧ H1 dd = some (.xd fs) ∧ XfC K C ∧ PySem.W.findIn K (.ref C) f = some none ∧ fs.lookup f = some v ∧ Q v H1) : tCx K te f σ H Q := q
def spAsked (K : PySem.W.Frag) (A : CA) : Sp := fun vs H Q _ => ∃ (v : V) (p : Pg), vs = [v] ∧ OP K A H p v ∧ p.wf ∧ ∀ (x : V) (H' : Hp), Same H H' → Dp K H' x (failD p.look) → Q x H'
theorem ok_L_asked (T : Txt K mg A) (U : TxE K A) (hv : mg "ValueError" = none) : Cal P w K mg base CX0 "_law_asked" 29 ["_law_program"] (spAsked K A) := by
  have c_look := ok_look (P := P) (w := w) (base := base) T U
  refine T.d_L_asked.ok sc_L_asked (fun vs H Q E h => ?_) (fun f cdv Ar outer s H vs Q E hr h => ?_)
  · obtain ⟨v, p, rfl, _⟩ := h
    rfl
  obtain ⟨v, p, rfl, hO, hw, q⟩ := h
  refine ⟨_, (pss_cons (ps_set (i := 1) sc_L_asked.nd rfl (by first | exact Or.inl rfl | exact Or.inr rfl) pe_int)
    (pss_cons (ps_set (i := 2) sc_L_asked.nd rfl (by first | exact Or.inl rfl | exact Or.inr rfl) pe_non)
    (pss_cons (ps_try_kept (i := 3) (Wout := fun _ _ _ _ => False) (tb := fun W => tAsg (tCall (spLook K A) [] (fun cls d H => ∀ σ : L2.St, σ.length = 5 → W cls d σ H) (tCons (tVar 0) tNil)) (gName 1)) (ts := fun _ _ _ => tAsg (tVar 3) (gName 2)) rfl rfl sc_L_asked.nd rfl rfl ⟨rfl, by decide, .inl T.g_WayError⟩ (fun u s1 ⟨_, _, _, _, _, _, _, _, _, _, _, _, _, _, _, _, z⟩ => z.elim) rfl (fun W pn xe tk po => pss_one (ps_set (i := 1) sc_L_asked.nd rfl (by first | exact Or.inl rfl | exact Or.inr rfl) (pe_cal c_look hr (by omega) (passes_callL tk (fun _ _ σ _ e h => h σ e)) (pa_cons (pv 0) pa_nil)))) (fun a oe cls d pn hz hf => pss_one (ps_set (i := 2) sc_L_asked.nd rfl (by first | exact Or.inl rfl | exact Or.inr rfl) (pv 3))))
    (pss_cons (ps_if (pt_cmpR op_isN (pv 2) pe_non (nomark _)) (pss_one (ps_ret (pe_ifExp (pt_cmpR op_isN (pv 1) pe_non (nomark _)) pe_non pe_bl))) pss_nil)
    (pss_cons (ps_set (i := 4) sc_L_asked.nd rfl (by first | exact Or.inl rfl | exact Or.inr rfl) (pe_callB (k_isx K) (by rfl) T.b_isinstance bt_isinstance (pa_cons (pv 2) (pa_cons (pe_tup (pa_cons (pe_gref T.g_NoPlain) (pa_cons (pe_gref T.g_NoProgram) (pa_cons (pe_gref T.g_NoRow) (pa_cons (pe_gref T.g_NoSaying) (pa_cons (pe_gref T.g_NoSheet) (pa_cons (pe_gref T.g_NoState) (pa_cons (pe_gref T.g_NoText) (pa_cons (pe_gref T.g_Stopped) pa_nil))))))))) pa_nil))))
    (pss_cons (ps_if (PW.pt (pw_or (pt_val (pv 4)) (pw_or (pt_not (pt_val (pe_callB (k_isx K) (by rfl) T.b_isinstance bt_isinstance (pa_cons (pv 2) (pa_cons (pe_gref T.g_NoWay) pa_nil))))) (pw_or1 (pt_not (pt_val (pe_callB (k_isx K) (by rfl) T.b_isinstance bt_isinstance (pa_cons (pv 2) (pa_cons (pe_bltn (v := .ty "ValueError") (by rfl) hv bt_ValueError rfl) pa_nil))))))))) (pss_one (ps_ret pe_bl)) pss_nil)
    (pss_one (ps_ret (pe_tup (pa_cons (k_xfld K (pv 2)) (pa_cons (k_xfld K (pv 2)) pa_nil))))))))))), ?_⟩
  walk_at "rd"
  refine ⟨v, p, rfl, hO, hw, ⟨fun hn H1 e1 => ?_, fun pl y hy d pv1 H1 e1 hd hD => ?_⟩⟩
  · walk_at "rd"
    refine ⟨rfl, ?_⟩
    walk_at "rd"
    walk_at "rd"
    refine ⟨rfl, ?_⟩
    walk_at "rd"
    first
      | exact q _ H1 e1 (by rw [hn]; exact .non)
      | trace_state
  · intro σ hσ
    obtain ⟨o0, o1, o2, o3, o4, rfl⟩ : ∃ o0 o1 o2 o3 o4, σ = [o0, o1, o2, o3, o4] := by
      match σ, hσ with
      | [o0, o1, o2, o3, o4], _ => exact ⟨_, _, _, _, _, rfl⟩
    refine ⟨true, U.m2, fun _ a na => ?_, fun z => nomatch z⟩
    walk_at "rd"
    have e2 : Same H1 (upd H1 a (Caught (.ref A.NoWay) (some d) a)) := sm_new na
    obtain ⟨H2, hH2⟩ : ∃ H2, H2 = upd H1 a (Caught (.ref A.NoWay) (some d) a) := ⟨_, rfl⟩
    have ha2 : H2 a = some (Caught (.ref A.NoWay) (some d) a) := by rw [hH2]; exact upd_same
    rw [← hH2] at e2 ⊢
    have hd2 := e2 _ _ hd
    refine ⟨rfl, ?_⟩
    walk_at "rd"
    walk_at "rd"
    refine rd_false (decide_eq_false (by intro z; cases z)) ?_
    walk_at "rd"
    refine rd_new (by simp) fun tp H3 n3 e3 h3 => ?_
    walk_at "rd"
    refine ⟨a, A.NoWay, d, _, _, false, rfl, e3 _ _ ha2, e3 _ _ hd2, U.exc, ?_, .inr ⟨tp, _, _, rfl, h3, .cons (.own _) (.cons (.own _) (.cons (.own _) (.cons (.own _) (.cons (.own _) (.cons (.own _) (.cons (.own _) (.cons (.own _) .nil))))))), ?_⟩⟩
    · walk_at "rd"
      refine ⟨a, A.NoWay, d, _, _, true, rfl, e3 _ _ ha2, e3 _ _ hd2, U.exc, ?_, .inl ⟨_, .own _, T.is_NoWay_NoWay⟩⟩
      walk_at "rd"
      refine ⟨a, A.NoWay, d, _, _, true, rfl, e3 _ _ ha2, e3 _ _ hd2, U.exc, ?_, .inl ⟨_, .ty _, U.ve⟩⟩
      walk_at "rd"
      refine rd_cx ?_
      walk_at "rd"
      refine ⟨a, A.NoWay, d, _, _, rfl, e3 _ _ ha2, e3 _ _ hd2, U.xf, U.pl, rfl, ?_⟩
      walk_at "rd"
      refine rd_cx ?_
      walk_at "rd"
      refine ⟨a, A.NoWay, d, _, _, rfl, e3 _ _ ha2, e3 _ _ hd2, U.xf, U.rs, rfl, ?_⟩
      walk_at "rd"
      refine rd_new (by simp) fun p4 H4 n4 e4 h4 => ?_
      have e24 := e2.trans (e3.trans e4)
      refine q _ H4 (e1.trans e24) ?_
      rw [hy]
      exact .tup (SqT.of h4) (.cons (dp_sm e24 _ _ hD) (.cons (.str _) .nil))
    · simp only [PySem.W.kitAny, T.is_NoWay_NoPlain, T.is_NoWay_NoProgram, T.is_NoWay_NoRow, T.is_NoWay_NoSaying, T.is_NoWay_NoSheet, T.is_NoWay_NoState, T.is_NoWay_NoText, T.is_NoWay_Stopped]
end

end

section
/-! ### a failure has a shape -/
def Flat (pl : List PyData) : Prop := PyData.canLayAll0 pl = true ∧ PyData.depthAll pl = 0
theorem Flat.app {pl : List PyData} {x : PyData} (h : Flat pl) (h1 : x.canLay0 = true) (h2 : x.depth = 0) : Flat (pl ++ [x]) := by
  obtain ⟨g1, g2⟩ := h
  induction pl with
  | nil =>
    refine ⟨?_, ?_⟩
    · show (x.canLay0 && true) = true
      rw [h1]; rfl
    · show max x.depth 0 = 0
      omega
  | cons y r ih =>
    have g1' : (y.canLay0 && PyData.canLayAll0 r) = true := g1
    have g2' : max y.depth (PyData.depthAll r) = 0 := g2
    rw [Bool.and_eq_true] at g1'
    obtain ⟨k1, k2⟩ := ih g1'.2 (by omega)
    refine ⟨?_, ?_⟩
    · show (y.canLay0 && PyData.canLayAll0 (r ++ [x])) = true
      rw [g1'.1, k1]; rfl
    · show max y.depth (PyData.depthAll (r ++ [x])) = 0
      omega
theorem Flat.int {pl : List PyData} {n : Nat} (h : Flat pl) : Flat (pl ++ [.int (n : Nat)]) := h.app rfl rfl
def FlF (f : Fail) : Prop := ∀ pl y, f = some (pl, y) → Flat pl ∧ PyData.strOk y = true
theorem FlF.none : FlF none := fun _ _ h => nomatch h
theorem FlF.or {a b : Fail} (ha : FlF a) (hb : FlF b) : FlF (a.or b) := by
  cases a with
  | none => exact hb
  | some z => exact ha
theorem FlF.at {pl : List PyData} {o : Option Str} (h : Flat pl) (ho : ∀ y, o = some y → PyData.strOk y = true) : FlF (at' pl o) := by
  intro p y e
  cases o with
  | none => cases e
  | some z =>
    cases e
    exact ⟨h, ho _ rfl⟩
theorem Rw.why_flat {S N : List Str} (r : Rw) (th : List Str) {pl : List PyData} (h : Flat pl) : FlF (r.why S N th pl) := by
  refine (FlF.at h fun y hy => ?_).or (FlF.at h fun y hy => ?_)
  · unfold Rw.whyN at hy
    split at hy
    · rw [← Option.some.inj hy]; decide +kernel
    · split at hy
      · rw [← Option.some.inj hy]; decide +kernel
      · split at hy
        · rw [← Option.some.inj hy]; decide +kernel
        · cases hy
  · unfold Rw.whyK at hy
    split at hy
    · rw [← Option.some.inj hy]; decide +kernel
    · split at hy
      · rw [← Option.some.inj hy]; decide +kernel
      · cases hy
mutual
theorem Rw.look_flat {S N : List Str} : ∀ (r : Rw) (th : List Str) (pl : List PyData), Flat pl → FlF (r.look S N th pl)
  | .chg k b e, th, pl, h => Rw.why_flat _ th h
  | .swap a b, th, pl, h => Rw.why_flat _ th h
  | .turn b n, th, pl, h => Rw.why_flat _ th h
  | .mov k b s, th, pl, h => Rw.why_flat _ th h
  | .nam k x, th, pl, h => Rw.why_flat _ th h
  | .blk k t y n a, th, pl, h => (Rw.why_flat _ th h).or ((lookRs_flat y th _ 0 (h.app rfl rfl)).or (lookRs_flat n th _ 0 (h.app rfl rfl)))
  | .held b e y f, th, pl, h => (Rw.why_flat _ th h).or (lookRs_flat y _ _ 0 (h.app rfl rfl))
theorem lookRs_flat {S N : List Str} : ∀ (rs : List Rw) (th : List Str) (pl : List PyData) (k : Nat), Flat pl → FlF (lookRs S N rs th pl k)
  | [], _, _, _, _ => FlF.none
  | r :: rs, th, pl, k, h => (Rw.look_flat r th _ h.int).or (lookRs_flat rs th pl (k + 1) h)
end
theorem lookAll_flat {S N B : List Str} : ∀ (l : List (Str × List Rw)), (∀ x ∈ l, PyData.strOk x.1 = true) → FlF (lookAll S N B l)
  | [], _ => FlF.none
  | x :: r, h => (lookRs_flat x.2 B _ 0 (Flat.app (pl := []) (x := .str x.1) ⟨rfl, rfl⟩ (h x (List.mem_cons_self ..)) rfl)).or (lookAll_flat r fun y hy => h y (List.mem_cons_of_mem _ hy))
theorem Pg.look_flat {p : Pg} (h : p.wf) : FlF p.look := by
  refine FlF.or (fun pl y e => ?_) (lookAll_flat p.rt fun x hx => strOk_of (h.rn x hx))
  unfold Pg.one at e
  split at e
  · cases e
    exact ⟨⟨rfl, rfl⟩, by decide +kernel⟩
  · cases e
theorem shaped_fail {p : Pg} (h : p.wf) : SeqAt.shaped (failD p.look) = true := by
  have z := Pg.look_flat h
  cases hf : p.look with
  | none => decide +kernel
  | some q =>
    obtain ⟨pl, y⟩ := q
    obtain ⟨⟨h1, h2⟩, h3⟩ := z pl y hf
    show ((PyData.canLayAll0 pl && (PyData.strOk y && true)) && decide (max (PyData.depthAll pl + 1) (max 0 0) + 1 ≤ 64)) = true
    rw [h1, h2, h3]
    rfl

end

section
section
variable {P : Program} {w : World} {K : PySem.W.Frag} {mg : Str → Option Value} {base : Heap} {A : CA}
def spLGood (K : PySem.W.Frag) : Sp := fun vs H Q _ => ∃ (v : V) (p : Pg), vs = [v] ∧ Dp K H v p.told ∧ p.wf ∧ ∀ H', Same H H' → Q (.bl true) H'
theorem rd_mthP {H : Hp} {p : Pg} {v : V} {m : Str} {R : Prop} (h : OP K A H p v) (hm : (["boxes", "stacks", "routines"] : List Str).contains m = false) (q : R) : ∃ a dx fs, v = .ref a ∧ H a = some (.ins A.Program dx fs) ∧ fs.lookup m = none ∧ R := by
  obtain ⟨a, dx, v1, v2, v3, h1, h2, _⟩ := h
  exact ⟨a, dx, _, h1, h2, lookup_free ["boxes", "stacks", "routines"] rfl (by decide +kernel) hm, q⟩
theorem ok_L_good (T : Txt K mg A) (U : TxE K A) (hv : mg "ValueError" = none) : Cal P w K mg base CX0 "_law_good" 40 ["_law_told"] (spLGood K) := by
  have c_L_look := ok_L_look (P := P) (w := w) (base := base) T
  have c_program_of := ok_program_of (P := P) (w := w) (base := base) T
  have c_L_asked := ok_L_asked (P := P) (w := w) (base := base) T U hv
  have c_is_let := ok_is_let (P := P) (w := w) (base := base) T U
  have m_told := ok_Program_told (P := P) (w := w) (base := base) T
  refine T.d_L_good.ok sc_L_good (fun vs H Q E h => ?_) (fun f cdv Ar outer s H vs Q E hr h => ?_)
  · obtain ⟨v, p, rfl, _⟩ := h
    rfl
  obtain ⟨v, p, rfl, hD, hw, q⟩ := h
  refine ⟨_, (pss_cons (ps_set (i := 1) sc_L_good.nd rfl (by first | exact Or.inl rfl | exact Or.inr rfl) (pe_cal c_L_look hr (by omega) pass0 (pa_cons (pv 0) pa_nil)))
    (pss_cons (ps_set (i := 2) sc_L_good.nd rfl (by first | exact Or.inl rfl | exact Or.inr rfl) (pe_cal c_program_of hr (by omega) pass0 (pa_cons (pv 0) pa_nil)))
    (pss_cons (ps_set (i := 3) sc_L_good.nd rfl (by first | exact Or.inl rfl | exact Or.inr rfl) (pe_cal c_L_asked hr (by omega) pass0 (pa_cons (pv 2) pa_nil)))
    (pss_cons (ps_if (PW.pt (pw_or (pt_cmpR (k_neq K hr.units) (pv 3) (pv 1) (nomark _)) (pw_or1 (PW.pt (pw_and (pt_cmpR op_notN (pv 1) pe_non (nomark _)) (pw_and1 (pt_not (pt_val (pe_callB (k_isi K) (by rfl) T.b_isinstance bt_isinstance (pa_cons (pe_ix (k_ix K) (pv 3) pe_int (fun _ _ => rfl)) (pa_cons (pe_bltn (v := .ty "tuple") (by rfl) T.b_tuple bt_tuple rfl) pa_nil))))))))))) (pss_one (ps_ret pe_bl)) pss_nil)
    (pss_cons (ps_set (i := 4) sc_L_good.nd rfl (by first | exact Or.inl rfl | exact Or.inr rfl) (pe_cal c_is_let hr (by omega) pass0 (pa_cons (pv 2) pa_nil)))
    (pss_one (ps_ret (pe_and (pe_callB (k_isi K) (by rfl) T.b_isinstance bt_isinstance (pa_cons (pv 4) (pa_cons (pe_bltn (v := .ty "bool") (by rfl) T.b_bool bt_bool rfl) pa_nil))) (pe_and (pe_cmpR (k_eql K hr.units) (pv 4) (pe_cmpR op_isN (pv 1) pe_non (nomark _)) (nomark _)) (pe_one (pe_cmpR (k_eql K hr.units) (pe_mth0 m_told hr (by omega) pass0 (pv 2)) (pv 0) (nomark _)))))))))))), ?_⟩
  walk_at "rd"
  refine ⟨v, p, rfl, hD, hw, fun x1 H1 e1 h1 => ?_⟩
  walk_at "rd"
  refine ⟨v, p, rfl, dp_sm e1 _ _ hD, hw, fun x2 H2 e2 h2 => ?_⟩
  walk_at "rd"
  refine ⟨x2, p, rfl, h2, hw, fun x3 H3 e3 h3 => ?_⟩
  have h1' := dp_sm (e2.trans e3) _ _ h1
  have sh := shaped_fail hw
  walk_at "rd"
  refine rd_ne_d h3 h1' sh sh ?_
  rw [SeqAt.eqv_refl _ (SeqAt.canLay_of_shaped sh)]
  refine ⟨false, rfl, ?_⟩
  refine rd_false rfl ?_
  walk_at "rd"
  have tl : ∀ x1, Dp K H3 x1 (failD p.look) → spIsLet K A ([x2] ++ []) H3
    (fun x H1 =>
      gName 4 x (((List.set (L2.start N_L_good [v]) 1 (some x1)).set 2 (some x2)).set 3 (some x3)) H1
        (tRet
          (tAndV (tCB (rIsiB K) (tCons (tVar 4) (tCons (tC (V.ty "bool")) tNil)))
            (tAndV
              (tOp (rEql K) (tVar 4)
                (tOp (fun x y H Q => y = V.non ∧ Q (V.bl (decide (x = V.non))) H) (tVar 1) (tC V.non)))
              (tOp (rEql K) (tMeth A.Program "told" (spPTold K A) [] E0 (tVar 2) tNil) (tVar 0))))
          { nx := fun x H' => Q V.non H', rt := Q }))
    E0 := by
    intro x1 h1
    refine ⟨x2, p, rfl, h2.sm e3, hw, fun H4 e4 => ?_⟩
    walk_at "rd"
    refine rd_isi (.ty _) (.base (.bl _)) ki_bb ?_
    walk_at "rd"
    refine ⟨rfl, ?_⟩
    rw [fail_non h1]
    have eb : PyData.eqv (.bool p.look.isNone) (.bool p.look.isNone) = true := by cases p.look.isNone <;> rfl
    refine rd_eq_d (.bl _) (.bl _) (by cases p.look.isNone <;> decide +kernel) (by cases p.look.isNone <;> decide +kernel) ?_
    rw [eb]
    walk_at "rd"
    refine rd_mthP ((h2.sm e3).sm e4) (by decide +kernel) ?_
    walk_at "rd"
    refine ⟨x2, p, rfl, (h2.sm e3).sm e4, hw, fun x5 H5 e5 h5 => ?_⟩
    walk_at "rd"
    have e05 := ((e1.trans e2).trans e3).trans (e4.trans e5)
    refine rd_eq_d h5 (dp_sm e05 _ _ hD) (Pg.shaped hw) (Pg.shaped hw) ?_
    rw [SeqAt.eqv_refl _ (SeqAt.canLay_of_shaped (Pg.shaped hw))]
    exact q H5 e05
  cases hf : p.look with
  | none =>
    rw [hf] at h1 h1' h3
    cases h1'
    refine ⟨rfl, ?_⟩
    walk_at "rd"
    exact tl _ (by rw [hf]; exact .non)
  | some z =>
    obtain ⟨pl, y⟩ := z
    rw [hf] at h1 h1' h3
    obtain ⟨a3, y1, y2, rfl, hS3, f1, f2⟩ := dp_two h3
    obtain ⟨a1, xs1, rfl, _, _⟩ := dp_tup h1'
    obtain ⟨a4, xs4, rfl, hS4, _⟩ := dp_tup f1
    refine ⟨rfl, ?_⟩
    walk_at "rd"
    refine rd_true (by rw [decide_eq_false (by intro z; cases z)]; rfl) ?_
    walk_at "rd"
    refine rd_ix_t hS3 (atI_nat (j := 0) rfl) ?_
    walk_at "rd"
    refine rd_isi (.ty _) (tyx_tup hS4) ki_tt ?_
    walk_at "rd"
    exact tl _ (by rw [hf]; exact h1')
end

end

section
section
variable {P : Program} {w : World} {K : PySem.W.Frag} {mg : Str → Option Value} {base : Heap} {A : CA}
def spLaw (K : PySem.W.Frag) : Sp := fun vs H Q _ => ∃ (a : Addr) (is : List Int), vs = [.ref a] ∧ SqL K H a (is.map V.int) ∧ ∀ H', Q (.bl true) H'
theorem ok_law (T : Txt K mg A) (U : TxE K A) (hv : mg "ValueError" = none) {fL : Addr} {fdL : FuncData} (FL : Fun K "law" "law" s_law fL fdL) : FnOk P w K mg base CX0 50 fL fdL ["_law_script"] (spLaw K) := by
  have c_L_mix := ok_L_mix (P := P) (w := w) (base := base) T
  have c_L_world := ok_world (P := P) (w := w) (base := base) T
  have c_L_good_program := ok_good_program (P := P) (w := w) (base := base) T
  have c_L_spoilt := ok_spoilt (P := P) (w := w) (base := base) T
  have c_L_any_program := ok_any_program (P := P) (w := w) (base := base) T
  have c_program_of := ok_program_of (P := P) (w := w) (base := base) T
  have c_L_asked := ok_L_asked (P := P) (w := w) (base := base) T U hv
  have c_is_let := ok_is_let (P := P) (w := w) (base := base) T U
  have c_L_good := ok_L_good (P := P) (w := w) (base := base) T U hv
  have m_told := ok_Program_told (P := P) (w := w) (base := base) T
  have m_mirror := ok_Program_mirror (P := P) (w := w) (base := base) T
  refine FL.ok sc_law (fun vs H Q E h => ?_) (fun cdv Ar outer s H vs Q E hr h => ?_)
  · obtain ⟨a, is, rfl, _⟩ := h
    rfl
  obtain ⟨a, is, rfl, ha, q⟩ := h
  refine ⟨_, (pss_cons (ps_set (i := 1) sc_law.nd rfl (by first | exact Or.inl rfl | exact Or.inr rfl) (pe_lst (pa_cons (pe_op (k_plus K) pe_int (pe_op op_mod (pe_callB (k_len K) (by rfl) T.b_len bt_len (pa_cons (pv 0) pa_nil)) pe_int)) (pa_cons pe_int pa_nil))))
    (pss_cons (ps_for PassesOwn.never rfl (k_any K (pe_op (k_plus K) (pe_lst (pa_cons pe_int pa_nil)) (pe_slice (k_sl K) (pv 0) po_none (po_some pe_int)))) (pg_name (i := 2) sc_law.nd rfl (by first | exact Or.inl rfl | exact Or.inr rfl)) (pss_cons (ps_expr (pe_cal c_L_mix hr (by omega) pass0 (pa_cons (pv 1) (pa_cons (pv 2) pa_nil))))
    (pss_cons (ps_set (i := 3) sc_law.nd rfl (by first | exact Or.inl rfl | exact Or.inr rfl) (pe_cal c_L_world hr (by omega) pass0 (pa_cons (pv 1) pa_nil)))
    (pss_cons (ps_set (i := 4) sc_law.nd rfl (by first | exact Or.inl rfl | exact Or.inr rfl) (pe_cal c_L_good_program hr (by omega) pass0 (pa_cons (pv 1) (pa_cons (pv 3) pa_nil))))
    (pss_one (ps_for PassesOwn.never rfl (k_any K (pe_lst (pa_cons (pv 4) (pa_cons (pe_cal c_L_spoilt hr (by omega) pass0 (pa_cons (pv 1) (pa_cons (pv 4) (pa_cons (pv 3) pa_nil)))) (pa_cons (pe_cal c_L_any_program hr (by omega) pass0 (pa_cons (pv 1) pa_nil)) pa_nil))))) (pg_name (i := 5) sc_law.nd rfl (by first | exact Or.inl rfl | exact Or.inr rfl)) (pss_cons (ps_set (i := 6) sc_law.nd rfl (by first | exact Or.inl rfl | exact Or.inr rfl) (pe_cal c_program_of hr (by omega) pass0 (pa_cons (pv 5) pa_nil)))
    (pss_cons (ps_set (i := 7) sc_law.nd rfl (by first | exact Or.inl rfl | exact Or.inr rfl) (pe_mth0 m_mirror hr (by omega) pass0 (pv 6)))
    (pss_cons (ps_if (PW.pt (pw_or (pt_not (pt_val (pe_cal c_L_good hr (by omega) pass0 (pa_cons (pv 5) pa_nil)))) (pw_or1 (pt_not (pt_val (pe_cal c_L_good hr (by omega) pass0 (pa_cons (pe_mth0 m_told hr (by omega) pass0 (pv 7)) pa_nil))))))) (pss_one (ps_ret pe_bl)) pss_nil)
    (pss_cons (ps_if (PW.pt (pw_or (pt_cmpR (k_neq K hr.units) (pe_cal c_is_let hr (by omega) pass0 (pa_cons (pv 7) pa_nil)) (pe_cal c_is_let hr (by omega) pass0 (pa_cons (pv 6) pa_nil)) (nomark _)) (pw_or1 (pt_cmpR (k_neq K hr.units) (pe_cal c_is_let hr (by omega) pass0 (pa_cons (pe_mth0 m_mirror hr (by omega) pass0 (pv 7)) pa_nil)) (pe_cal c_is_let hr (by omega) pass0 (pa_cons (pv 6) pa_nil)) (nomark _))))) (pss_one (ps_ret pe_bl)) pss_nil)
    (pss_one (ps_if (pt_cmpR (k_neq K hr.units) (pe_cal c_L_asked hr (by omega) pass0 (pa_cons (pe_mth0 m_mirror hr (by omega) pass0 (pv 7)) pa_nil)) (pe_cal c_L_asked hr (by omega) pass0 (pa_cons (pv 6) pa_nil)) (nomark _)) (pss_one (ps_ret pe_bl)) pss_nil))))))))))))
    (pss_one (ps_ret pe_bl)))), ?_⟩
  walk_at "rd"
  refine rd_len_l ha ?_
  walk_at "rd"
  refine rd_mod (by decide) fun m hm => ?_
  walk_at "rd"
  refine rd_new (by simp) fun st H1 n1 e1 h1 => ?_
  refine rd_for_l ?_
  walk_at "rd"
  refine rd_new (by simp) fun p5 H2 n2 e2 h2 => ?_
  walk_at "rd"
  refine rd_sl_l ((e1.trans e2).seq ha) fun p6 H3 n3 e3 h3 => ?_
  rw [show (some (6 : Int)) = some ((6 : Nat) : Int) from rfl, cutV_to] at h3
  refine rd_plus_l (e3 _ _ h2) h3 (by simp only [List.length_take, List.length_cons, List.length_nil]; omega) fun lc H4 n4 e4 h4 => ?_
  have hst3 := e3 _ _ (e2 _ _ h1)
  have hst4 := e4 _ _ hst3
  have nls : lc ≠ st := fun z => by rw [z, hst3] at n4; cases n4
  have hS4 : Sta st H4 := ⟨_, _, hst4, by omega, by omega, by omega⟩
  rw [← List.map_take] at h4
  have h4' : H4 lc = some (.lst ((5 :: is.take 6).map V.int)) := h4
  clear h4
  refine ⟨lc, rfl, ⟨_, SqL.of h4'⟩, ?_⟩
  refine for_it walk_list (fun i σ' H' => ∃ o2 o3 o4 o5 o6 o7 : Option V, σ' = [some (.ref a), some (.ref st), o2, o3, o4, o5, o6, o7] ∧ Sta st H' ∧ H' lc = some (.lst ((5 :: is.take 6).map V.int)))
    ⟨_, _, _, _, _, _, rfl, hS4, h4'⟩ (fun i σ' H' _ ⟨_, _, _, _, _, _, _, _, h⟩ => SqL.of h) ?_ ?_
  · rintro j y σ' H6 H7 hj ⟨o2, o3, o4, o5, o6, o7, rfl, hS6, hl6⟩ ⟨rfl, hx⟩
    rw [List.getElem?_map] at hx
    obtain ⟨c, hc, rfl⟩ := Option.map_eq_some_iff.mp hx
    walk_at "rd"
    refine ⟨st, c, rfl, hS6, fun r9 H9 _ k9 hs9 => ?_⟩
    have hl9 := k9.at hl6 (by simp [nls])
    walk_at "rd"
    refine ⟨st, rfl, hs9, fun wd W R H10 nwd k10 hs10 hW10 hR => ?_⟩
    have nlw : lc ≠ wd := fun z => by rw [← z, hl9] at nwd; cases nwd
    have hl10 := k10.at hl9 (by simp [nls])
    walk_at "rd"
    refine ⟨st, wd, W, R, rfl, hs10, hW10, hR, fun x p H11 R' k11 hs11 hW11 hD hpw hcn hR' => ?_⟩
    have hl11 := k11.at hl10 (by simp [nls, nlw])
    walk_at "rd"
    refine rd_for_l ?_
    walk_at "rd"
    refine ⟨st, wd, x, W, R', p, rfl, hs11, hW11, hD, hpw, hcn, fun x2 p2 H12 k12 hs12 hD2 hw2 => ?_⟩
    have hl12 := k12.at hl11 (by simp [nls])
    walk_at "rd"
    refine ⟨st, rfl, hs12, fun x3 p3 H13 k13 hs13 hD3 hw3 => ?_⟩
    have hl13 := k13.at hl12 (by simp [nls])
    walk_at "rd"
    refine rd_new (by simp) fun p14 H14 n14 e14 h14 => ?_
    have all : ∀ (j : Nat) (y : V), [x, x2, x3][j]? = some y → ∃ p : Pg, Dp K H14 y p.told ∧ p.wf := by
      intro j y hy
      match j, hy with
      | 0, hy => cases hy; exact ⟨p, dp_kp (k12.trans (k13.trans (sm_kp e14))) _ _ (noL_pg p) hD, hpw⟩
      | 1, hy => cases hy; exact ⟨p2, dp_kp (k13.trans (sm_kp e14)) _ _ (noL_pg p2) hD2, hw2⟩
      | 2, hy => cases hy; exact ⟨p3, dp_sm e14 _ _ hD3, hw3⟩
    refine ⟨p14, rfl, ⟨_, SqL.of h14⟩, ?_⟩
    refine for_it walk_list (fun i σ' H' => ∃ o5 o6 o7 : Option V, σ' = [some (.ref a), some (.ref st), some (.int c), some (.ref wd), some x, o5, o6, o7] ∧ Same H14 H')
      ⟨_, _, _, rfl, Same.refl _⟩ (fun i σ' H' _ ⟨_, _, _, _, h⟩ => h.seq (SqL.of h14)) ?_ ?_
    · rintro i y σ1 H15 H16 hi ⟨o5, o6, o7, rfl, e15⟩ ⟨rfl, hy⟩
      obtain ⟨p, hDy, hw⟩ := all _ _ hy
      have hDy := dp_sm e15 _ _ hDy
      have lk : p.mir.look.isNone = p.look.isNone := by
        have z := p.mir_look
        cases h1 : p.look <;> cases h2 : p.mir.look <;> simp_all
      have sh := shaped_fail hw
      walk_at "rd"
      refine ⟨y, p, rfl, hDy, hw, fun x6 H17 e17 hO => ?_⟩
      walk_at "rd"
      refine rd_mthP hO (by decide +kernel) ?_
      walk_at "rd"
      refine ⟨x6, p, rfl, hO, hw, fun x7 H18 e18 hM => ?_⟩
      walk_at "rd"
      refine ⟨y, p, rfl, dp_sm (e17.trans e18) _ _ hDy, hw, fun H19 e19 => ?_⟩
      walk_at "rd"
      refine rd_mthP (hM.sm e19) (by decide +kernel) ?_
      walk_at "rd"
      refine ⟨x7, p.mir, rfl, hM.sm e19, hw.mir, fun x8 H20 e20 h8 => ?_⟩
      walk_at "rd"
      refine ⟨x8, p.mir, rfl, h8, hw.mir, fun H21 e21 => ?_⟩
      walk_at "rd"
      have e21' := (e19.trans e20).trans e21
      refine ⟨x7, p.mir, rfl, hM.sm e21', hw.mir, fun H22 e22 => ?_⟩
      walk_at "rd"
      have hO22 := hO.sm ((e18.trans e21').trans e22)
      refine ⟨x6, p, rfl, hO22, hw, fun H23 e23 => ?_⟩
      have bl : ∀ b : Bool, PyData.eqv (.bool b) (.bool b) = true := by intro b; cases b <;> rfl
      have bs : ∀ b : Bool, SeqAt.shaped (.bool b) = true := by intro b; cases b <;> decide +kernel
      dsimp only
      rw [lk]
      refine rd_ne_d (.bl _) (.bl _) (bs _) (bs _) ?_
      rw [bl]
      refine ⟨false, rfl, ?_⟩
      refine rd_false rfl ?_
      walk_at "rd"
      refine rd_mthP ((hM.sm e21').sm (e22.trans e23)) (by decide +kernel) ?_
      walk_at "rd"
      refine ⟨x7, p.mir, rfl, (hM.sm e21').sm (e22.trans e23), hw.mir, fun x9 H24 e24 hMM => ?_⟩
      rw [p.mir_mir hw] at hMM
      walk_at "rd"
      refine ⟨x9, p, rfl, hMM, hw, fun H25 e25 => ?_⟩
      walk_at "rd"
      refine ⟨x6, p, rfl, hO22.sm ((e23.trans e24).trans e25), hw, fun H26 e26 => ?_⟩
      dsimp only
      refine rd_ne_d (.bl _) (.bl _) (bs _) (bs _) ?_
      rw [bl]
      refine ⟨false, rfl, ?_⟩
      refine rd_false rfl ?_
      walk_at "rd"
      have e27 := e25.trans e26
      refine rd_mthP ((hM.sm e21').sm ((e22.trans e23).trans (e24.trans e27))) (by decide +kernel) ?_
      walk_at "rd"
      refine ⟨x7, p.mir, rfl, (hM.sm e21').sm ((e22.trans e23).trans (e24.trans e27)), hw.mir, fun x10 H27 e28 hM2 => ?_⟩
      rw [p.mir_mir hw] at hM2
      walk_at "rd"
      refine ⟨x10, p, rfl, hM2, hw, fun x11 H28 e29 h11 => ?_⟩
      walk_at "rd"
      refine ⟨x6, p, rfl, hO22.sm ((e23.trans e24).trans (e27.trans (e28.trans e29))), hw, fun x12 H29 e30 h12 => ?_⟩
      dsimp only
      refine rd_ne_d (dp_sm e30 _ _ h11) h12 sh sh ?_
      rw [SeqAt.eqv_refl _ (SeqAt.canLay_of_shaped sh)]
      refine ⟨false, rfl, ?_⟩
      refine rd_false rfl ?_
      walk_at "rd"
      exact ⟨_, _, _, rfl, e15.trans ((e17.trans (e18.trans e21')).trans ((e22.trans e23).trans ((e24.trans e27).trans (e28.trans (e29.trans e30)))))⟩
    · rintro σ1 H15 ⟨o5, o6, o7, rfl, e15⟩
      exact ⟨_, _, _, _, _, _, rfl, hs13.sm (e14.trans e15), e15 _ _ (e14 _ _ hl13)⟩
  · rintro σ' H6 ⟨o2, o3, o4, o5, o6, o7, rfl, hS6, hl6⟩
    walk_at "rd"
    exact q _
end

end

section
open He
section
variable {K : PySem.W.Frag} {h : Heap} {mg : Str → Option Value}
theorem wayB_ok {W : Addr} (c : wayB K W = true) : BaseC K W := by
  obtain ⟨c1, c⟩ := ba c
  obtain ⟨c2, c⟩ := ba c
  refine ⟨c1, eqO_ok c2, ?_⟩
  split at c
  · rename_i v e
    rw [e, of_decide_eq_true c]
  · cases c
theorem txe_of (F : Fct K) (e : fnL K = fnLV) : TxE K (caK K) := by
  obtain ⟨a1, a2⟩ := ba F.exc
  obtain ⟨a2, a3⟩ := ba a2
  obtain ⟨b1, b⟩ := ba a1
  obtain ⟨b2, b⟩ := ba b
  obtain ⟨b3, b⟩ := ba b
  obtain ⟨b4, b⟩ := ba b
  obtain ⟨b5, b6⟩ := ba b
  obtain ⟨t1, t2⟩ := ba b2
  have x1 := xfB_ok b1
  obtain ⟨n1, n⟩ := ba a2
  obtain ⟨n2, n⟩ := ba n
  obtain ⟨n3, n⟩ := ba n
  obtain ⟨n4, n⟩ := ba n
  obtain ⟨n5, n⟩ := ba n
  obtain ⟨n6, n7⟩ := ba n
  obtain ⟨z1, _⟩ := ba F.cls
  obtain ⟨z1, z2⟩ := ba z1
  obtain ⟨m1, m2⟩ := ba n1
  have ef : fnO K (ma K (ga K "NoWay") "__init__") = fnV "NoWay.__init__" "__init__" s_NoWay_init := congrArg (fun z : FnL => z.2.2.2.2) e
  obtain ⟨fd, F1⟩ := fun_at ef n2
  exact ⟨⟨oexB_ok b3, of_decide_eq_true b4, x1.exC, of_decide_eq_true b5, b6⟩, ⟨_, fd, eqO_ok m1, beq_iff_eq.mp m2, F1, binds_at F1 arg_no⟩, eqO_ok n3, eqO_ok n4, x1,
    ⟨x1.ga, x1.gg, x1.exC, x1.hdC, eqO_ok t1, eqO_ok z1, of_decide_eq_true z2, of_decide_eq_true t2⟩, wayB_ok a3, of_decide_eq_true n5, of_decide_eq_true n6, of_decide_eq_true n7⟩
theorem txt_of (X : K.In h) (G : h.Ns mainGlobals mg) (F : Fct K) (e : fnL K = fnLV) : Txt K mg (caK K) := by
  have hcl : ∀ C ∈ clsTab (caK K), Cls K C ∧ TyC K C := fun C hC => by
    obtain ⟨z1, z⟩ := ba F.cls
    obtain ⟨z1, z2⟩ := ba z1
    obtain ⟨y1, y2⟩ := ba (List.all_eq_true.mp z C hC)
    obtain ⟨y3, y4⟩ := ba y2
    exact ⟨clsB_ok y1, clsB_ok y1, eqO_ok y3, eqO_ok z1, of_decide_eq_true z2, of_decide_eq_true y4⟩
  refine ⟨?_, ?_, ?_, ?_, ?_, ?_, ?_, ?_, ?_, ?_, ?_, ?_⟩
  · intro i d hd
    have c0 := all_at F.dfs hd
    obtain ⟨c1, c2⟩ := ba c0
    have e2 : (defTab.map fun d => fnO K (ga K d.1)) = defTab.map fun d => fnV d.1 d.1 d.2.1 := congrArg (fun z : FnL => z.1) e
    obtain ⟨fd, F1⟩ := fun_at (map_at e2 hd) c2
    exact ⟨_, fd, F1, glob_ok X G c1, binds_at F1 (by have b := all_at arg_def hd; exact b)⟩
  · intro i d hd
    have c0 := all_at F.ali hd
    obtain ⟨c1, c2⟩ := ba c0
    have e3 : (aliTab.map fun d => fnO K (ga K d.1)) = aliTab.map fun d => fnV d.2.1 d.2.1 d.2.2.1 := congrArg (fun z : FnL => z.2.1) e
    obtain ⟨fd, F1⟩ := fun_at (map_at e3 hd) c2
    exact ⟨_, fd, F1, glob_ok X G c1, binds_at F1 (by have b := all_at arg_ali hd; exact b)⟩
  · intro i d hd
    have c0 := all_at F.mth hd
    obtain ⟨c1, c2⟩ := ba c0
    obtain ⟨c2, c3⟩ := ba c2
    have e2 : ((mthTab (caK K)).map fun d => fnO K (ma K d.1 d.2.1)) = (mthTab (caK K)).map fun d => fnV d.2.2.1 d.2.1 d.2.2.2.1 := (congrArg (fun z : FnL => z.2.2.1) e).trans (mth_val _).symm
    obtain ⟨fd, F1⟩ := fun_at (map_at e2 hd) c3
    obtain ⟨c, hc, ec⟩ := List.any_eq_true.mp c1
    have ec2 : c = d.1 := Nat.eq_of_beq_eq_true ec
    subst ec2
    exact ⟨_, fd, F1, (hcl _ hc).1, mthB_ok c2 c3, binds_at F1 (by have b := all_at (arg_mth _) hd; exact b)⟩
  · intro i d hd
    have c0 := all_at F.mkr hd
    obtain ⟨c1, c2⟩ := ba c0
    obtain ⟨c2, c3⟩ := ba c2
    have e2 : ((mkTab (caK K)).map fun d => fnO K (ma K d.2.1 "__init__")) = (mkTab (caK K)).map fun d => fnV d.2.2.1 "__init__" d.2.2.2.1 := (congrArg (fun z : FnL => z.2.2.2.1) e).trans (mk_val _).symm
    obtain ⟨fd, F1⟩ := fun_at (map_at e2 hd) c3
    exact ⟨_, fd, F1, mkB_ok c2, glob_ok X G c1, binds_at F1 (by have b := all_at (arg_mk _) hd; exact b)⟩
  · intro i d hd
    have c0 := all_at F.na hd
    exact eqO_ok c0
  · intro i d hd
    have c0 := all_at F.int hd
    exact int_ok X G c0
  · intro i d hd
    have c0 := all_at F.str hd
    exact str_ok X G c0
  · intro i d hd
    have c0 := all_at (ba F.free).2 hd
    exact free_ok X G c0
  · intro i d hd
    have c0 := all_at F.glo hd
    exact glob_ok X G c0
  · intro i d hd
    have c0 := all_at F.isi hd
    exact of_decide_eq_true c0
  · intro i d hd
    exact (hcl _ (List.mem_of_getElem? hd)).2
  · obtain ⟨q0, q⟩ := ba F.tup
    obtain ⟨q1, q2⟩ := ba q
    intro i d hd H
    match i, hd with
    | 0, hd =>
      cases hd
      exact tupB_ok q0 H
    | 1, hd =>
      cases hd
      exact tupB_ok q1 H
    | 2, hd =>
      cases hd
      exact tupB_ok q2 H
    | n + 3, hd => cases hd
theorem ve_of (X : K.In h) (G : h.Ns mainGlobals mg) (F : Fct K) : mg "ValueError" = none := free_ok X G (ba F.free).1
end
end

/-! ### the end -/
theorem facts {P : Program} {w : World} {K : PySem.W.Frag} {h : Heap} {mg : Str → Option Value} {f : Addr} (X : K.In h) (G : h.Ns mainGlobals mg) (hfa : mg ("law" : Str) = some (.ref f)) (c : obM K = vaM) :
    ∃ fd : FuncData, (∀ (s : Shared) (v : Value), BindsTo s fd ⟨[v], []⟩ [("_law_script", v)]) ∧ ∀ base : Heap, K.In base → base.Ns mainGlobals mg → FnOk P w K mg base CX0 50 f fd ["_law_script"] (spLaw K) := by
  have hc : (oA K, oB K mthH0, oB K mthH1, oD K, oE K) = (vA, vB mthH0, vB mthH1, vD, true) := c
  obtain ⟨c1, hc⟩ := Prod.mk.inj hc
  obtain ⟨c2, hc⟩ := Prod.mk.inj hc
  obtain ⟨c3, hc⟩ := Prod.mk.inj hc
  obtain ⟨c4, c5⟩ := Prod.mk.inj hc
  obtain ⟨F, e⟩ := groups c1 c2 c3 c4 c5
  have T := txt_of X G F e
  have U := txe_of F e
  have V := ve_of X G F
  have hl : defTab[48]? = some ((("law", s_law, ["_law_script"]) : Str × Stmt × List Str)) := rfl
  have c0 := all_at F.dfs hl
  obtain ⟨z1, z2⟩ := He.ba c0
  have e2 : (defTab.map fun d => fnO K (He.ga K d.1)) = defTab.map fun d => fnV d.1 d.1 d.2.1 := congrArg (fun z : FnL => z.1) e
  obtain ⟨fd, FL⟩ := fun_at (map_at e2 hl) z2
  have eg : mg ("law" : Str) = some (.ref (He.ga K "law")) := glob_ok X G z1
  have ef := hfa.symm.trans eg
  cases ef
  exact ⟨fd, fun s v => bindsTo_at (ps := ["_law_script"]) FL (by have b := all_at arg_def hl; exact b) s [v] rfl, fun base _ _ => ok_law T U V FL⟩

end Mw
open PySem PySem.W PySem.Calls PyProof.Rows
theorem PySem.Challenge.cw_mirrorwalk_k33_whole_mirror_let_holds : PySem.Challenge.rw_mirrorwalk_k33_whole_mirror_let.Holds := by
  refine Mw.row_said fun said => ?_
  refine HandSHeadRun.head_any (r := Mw.RL) (q := view Mw.RL.prog [113]) (H := Mw.hookM) (ob := Mw.obT) (M := 24000) (loose := Mw.lns) (d := HandSHeadRun.topDef Mw.RL.prog 113) (kwd := []) Mw.obT_eq
    Mw.row_open Mw.row_fence Mw.run_all Mw.row_def Mw.row_the Mw.row_kwd (by rfl) said Mw.row_ok Mw.row_bare ?hw ?hc
  case hw =>
    w_on
    w_witness2
  case hc =>
    refine L2.walk_ofE (l := PySem.Challenge.rw_mirrorwalk_k33_whole_mirror_let) (n := 63) (k := 50) (x := "_law_script") (CX := L2.CX0) rfl (by decide) (by kernel_rfl) ⟨rfl, by decide, by decide⟩ ?F (fun _ _ _ _ z => z)
    intro w mg fa h Y G hmg0
    obtain ⟨K, KX, c⟩ := Y
    have hmg : mg ("law" : PySem.Str) = some (.ref fa) := by
      have e : (HandSHeadRun.topDef Mw.RL.prog 113).name = ("law" : PySem.Str) := by kernel_rfl
      rw [← e]
      exact hmg0
    obtain ⟨fd, hb, hF⟩ := Mw.facts (P := (PySem.Challenge.rw_mirrorwalk_k33_whole_mirror_let).prog) (w := w) KX G hmg c
    exact ⟨K, fd, Mw.spLaw K, KX, hb, fun H a ns hl _ hS => ⟨a, ns, rfl, hS, fun _ => rfl⟩, hF⟩
