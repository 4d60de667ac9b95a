import PyProof.Rows.All
import Wide.All
import OpenK.AllK
import Wide.FinOn
import HandS.ForMost
import HandS.Defaults
import HandS.Head0
import HandS.Head1
import HandS.Head2
import HandS.HeadHook1
import HandS.HeadHook2
import HandS.HeadHook3
import HandS.HeadHook4
import HandS.Slots
import HandS.ExcOwn
import HandS.SortKw
import KE.DataMinMax
import HandS.MakeKw
import HandS.MakeKwOnly
import HandS.IsInst
import HandS.TupAny
import HandS.Style
import HandS.Conv
import HandS.FStr
import HandS.Codes
import HandS.Walk
import KE.GoesEnum
import KE.GoesMore
import KE.KDictZip
import KE.GoesEnumKw
import KE.KItemsList
import HandS.ListItems
import HandS.TryOnly
import HandS.Wide
import HandS.RevTup
import HandS.Sort
import KE.KDictList
import KE.KDictSum
import HandS.HeadEnd
import HandS.Zip
import PySem.Challenge.RW_haulring_k14_whole_plain_by_deeds
set_option Elab.async false
set_option linter.all false
set_option maxRecDepth 100000
set_option maxHeartbeats 4000000
/-! The text by places. -/
namespace L2.K14
open PySem PySem.Spec PyProof.Rows
def top (i : Nat) : Stmt := PySem.Challenge.pw_haulring_k14_whole_plain_by_deeds.main.body.getD i (.Pass ⟨0, 0, 0, 0⟩)

abbrev s_BadMemory_init : Stmt := inClass (top 2) 0
abbrev s_BadProgram_init : Stmt := inClass (top 3) 0
abbrev s_BadNumber_init : Stmt := inClass (top 4) 0
abbrev s_is_whole : Stmt := top 10
abbrev s_is_byte : Stmt := top 11
abbrev s_is_flag : Stmt := top 12
abbrev s_is_memory : Stmt := top 13
abbrev s_area_wrong : Stmt := top 17
abbrev s_own_size : Stmt := top 18
abbrev s_is_thing : Stmt := top 35
abbrev s_form_of : Stmt := top 36
abbrev s_things_wrong : Stmt := top 37
abbrev s_step_wrong : Stmt := top 38
abbrev s_list_wrong : Stmt := top 39
abbrev s_is_deed : Stmt := top 40
abbrev s_flags_noted : Stmt := top 41
abbrev s_program_wrong : Stmt := top 42
abbrev s_need_program : Stmt := top 43
abbrev s_area_cells : Stmt := top 60
abbrev s_cells_touched : Stmt := top 61
abbrev s_deed_cells : Stmt := top 62
abbrev s_do_step : Stmt := top 63
abbrev s_Course_init : Stmt := inClass (top 64) 0
abbrev s_Course_tell : Stmt := inClass (top 64) 1
abbrev s_Course_pass_by : Stmt := inClass (top 64) 2
abbrev s_Course_do_posted : Stmt := inClass (top 64) 3
abbrev s_Course_do_deed : Stmt := inClass (top 64) 4
abbrev s_Course_do_all : Stmt := inClass (top 64) 5
abbrev s_Course_end : Stmt := inClass (top 64) 6
abbrev s_need_memory : Stmt := top 65
abbrev s_need_inside : Stmt := top 66
abbrev s_need_both : Stmt := top 67
abbrev s_course_of : Stmt := top 68
abbrev s_need_many : Stmt := top 69
abbrev s_Plain_init : Stmt := inClass (top 70) 0
abbrev s_Plain_gone_on : Stmt := inClass (top 70) 1
abbrev s_Plain_go : Stmt := inClass (top 70) 2
abbrev s_Plain_back : Stmt := inClass (top 70) 3
abbrev s_Plain_gone : Stmt := inClass (top 70) 4
abbrev s_Plain_is_over : Stmt := inClass (top 70) 5
abbrev s_Plain_memory : Stmt := inClass (top 70) 6
abbrev s_Plain_peeks : Stmt := inClass (top 70) 7
abbrev s_Plain_plain_twin : Stmt := inClass (top 70) 8
abbrev s_Plain_eq : Stmt := inClass (top 70) 9
abbrev s_Plain_len : Stmt := inClass (top 70) 10
abbrev s_Plain_repr : Stmt := inClass (top 70) 11
abbrev s__law_mixed : Stmt := top 72
abbrev s__law_begun : Stmt := top 73
abbrev s__law_take : Stmt := top 74
abbrev s__law_of : Stmt := top 75
abbrev s__law_area : Stmt := top 76
abbrev s__law_byte : Stmt := top 77
abbrev s__law_moving : Stmt := top 78
abbrev s__law_a_step : Stmt := top 79
abbrev s__law_line : Stmt := top 80
abbrev s__law_sheet : Stmt := top 81
abbrev s__law_store : Stmt := top 82
abbrev s__law_cells : Stmt := top 83
abbrev s__law_own : Stmt := top 84
abbrev s__law_read : Stmt := top 85
abbrev s__law_write : Stmt := top 86
abbrev s__law_moved : Stmt := top 87
abbrev s__law_passed : Stmt := top 88
abbrev s__law_did : Stmt := top 89
abbrev s__law_run : Stmt := top 90
abbrev s__law_stood : Stmt := top 91
abbrev s__law_is_so : Stmt := top 92
abbrev s__law_gone_right : Stmt := top 93
abbrev s__law_others_right : Stmt := top 94
abbrev s_law : Stmt := top 95
end L2.K14
set_option Elab.async false
set_option linter.all false
set_option maxRecDepth 100000
set_option maxHeartbeats 0
/-! the head: the top's run, the facts that it leaves -/
namespace L2.K14
open PySem PySem.Spec PyProof.Rows

def d_is_whole : He.DefD := ⟨("is_whole", none), "is_whole", "is_whole", defArgs s_is_whole, defBody s_is_whole, defScope s_is_whole, [], [("least", .int 0), ("most", .int 1023)]⟩
def d_is_byte : He.DefD := ⟨("is_byte", none), "is_byte", "is_byte", defArgs s_is_byte, defBody s_is_byte, defScope s_is_byte, [], []⟩
def d_is_flag : He.DefD := ⟨("is_flag", none), "is_flag", "is_flag", defArgs s_is_flag, defBody s_is_flag, defScope s_is_flag, [], []⟩
def d_is_memory : He.DefD := ⟨("is_memory", none), "is_memory", "is_memory", defArgs s_is_memory, defBody s_is_memory, defScope s_is_memory, [], []⟩
def d_area_wrong : He.DefD := ⟨("area_wrong", none), "area_wrong", "area_wrong", defArgs s_area_wrong, defBody s_area_wrong, defScope s_area_wrong, [], []⟩
def d_own_size : He.DefD := ⟨("own_size", none), "own_size", "own_size", defArgs s_own_size, defBody s_own_size, defScope s_own_size, [], []⟩
def d_is_thing : He.DefD := ⟨("is_thing", none), "is_thing", "is_thing", defArgs s_is_thing, defBody s_is_thing, defScope s_is_thing, [], []⟩
def d_form_of : He.DefD := ⟨("form_of", none), "form_of", "form_of", defArgs s_form_of, defBody s_form_of, defScope s_form_of, [], []⟩
def d_things_wrong : He.DefD := ⟨("things_wrong", none), "things_wrong", "things_wrong", defArgs s_things_wrong, defBody s_things_wrong, defScope s_things_wrong, [], []⟩
def d_step_wrong : He.DefD := ⟨("step_wrong", none), "step_wrong", "step_wrong", defArgs s_step_wrong, defBody s_step_wrong, defScope s_step_wrong, [], []⟩
def d_list_wrong : He.DefD := ⟨("list_wrong", none), "list_wrong", "list_wrong", defArgs s_list_wrong, defBody s_list_wrong, defScope s_list_wrong, [], []⟩
def d_is_deed : He.DefD := ⟨("is_deed", none), "is_deed", "is_deed", defArgs s_is_deed, defBody s_is_deed, defScope s_is_deed, [], []⟩
def d_flags_noted : He.DefD := ⟨("flags_noted", none), "flags_noted", "flags_noted", defArgs s_flags_noted, defBody s_flags_noted, defScope s_flags_noted, [], []⟩
def d_program_wrong : He.DefD := ⟨("program_wrong", none), "program_wrong", "program_wrong", defArgs s_program_wrong, defBody s_program_wrong, defScope s_program_wrong, [], []⟩
def d_need_program : He.DefD := ⟨("need_program", none), "need_program", "need_program", defArgs s_need_program, defBody s_need_program, defScope s_need_program, [], []⟩
def d_area_cells : He.DefD := ⟨("area_cells", none), "area_cells", "area_cells", defArgs s_area_cells, defBody s_area_cells, defScope s_area_cells, [], []⟩
def d_cells_touched : He.DefD := ⟨("cells_touched", none), "cells_touched", "cells_touched", defArgs s_cells_touched, defBody s_cells_touched, defScope s_cells_touched, [], []⟩
def d_deed_cells : He.DefD := ⟨("deed_cells", none), "deed_cells", "deed_cells", defArgs s_deed_cells, defBody s_deed_cells, defScope s_deed_cells, [], []⟩
def d_do_step : He.DefD := ⟨("do_step", none), "do_step", "do_step", defArgs s_do_step, defBody s_do_step, defScope s_do_step, [], []⟩
def d_Course___init__ : He.DefD := ⟨("Course", some "__init__"), "__init__", "Course.__init__", defArgs s_Course_init, defBody s_Course_init, defScope s_Course_init, [], []⟩
def d_Course_tell : He.DefD := ⟨("Course", some "tell"), "tell", "Course.tell", defArgs s_Course_tell, defBody s_Course_tell, defScope s_Course_tell, [], []⟩
def d_Course_pass_by : He.DefD := ⟨("Course", some "pass_by"), "pass_by", "Course.pass_by", defArgs s_Course_pass_by, defBody s_Course_pass_by, defScope s_Course_pass_by, [], []⟩
def d_Course_do_posted : He.DefD := ⟨("Course", some "do_posted"), "do_posted", "Course.do_posted", defArgs s_Course_do_posted, defBody s_Course_do_posted, defScope s_Course_do_posted, [], []⟩
def d_Course_do_deed : He.DefD := ⟨("Course", some "do_deed"), "do_deed", "Course.do_deed", defArgs s_Course_do_deed, defBody s_Course_do_deed, defScope s_Course_do_deed, [], []⟩
def d_Course_do_all : He.DefD := ⟨("Course", some "do_all"), "do_all", "Course.do_all", defArgs s_Course_do_all, defBody s_Course_do_all, defScope s_Course_do_all, [], []⟩
def d_need_memory : He.DefD := ⟨("need_memory", none), "need_memory", "need_memory", defArgs s_need_memory, defBody s_need_memory, defScope s_need_memory, [], []⟩
def d_need_inside : He.DefD := ⟨("need_inside", none), "need_inside", "need_inside", defArgs s_need_inside, defBody s_need_inside, defScope s_need_inside, [], []⟩
def d_need_both : He.DefD := ⟨("need_both", none), "need_both", "need_both", defArgs s_need_both, defBody s_need_both, defScope s_need_both, [], []⟩
def d_course_of : He.DefD := ⟨("course_of", none), "course_of", "course_of", defArgs s_course_of, defBody s_course_of, defScope s_course_of, [], []⟩
def d_need_many : He.DefD := ⟨("need_many", none), "need_many", "need_many", defArgs s_need_many, defBody s_need_many, defScope s_need_many, [], []⟩
def d_Plain___init__ : He.DefD := ⟨("Plain", some "__init__"), "__init__", "Plain.__init__", defArgs s_Plain_init, defBody s_Plain_init, defScope s_Plain_init, [], []⟩
def d_Plain_gone_on : He.DefD := ⟨("Plain", some "gone_on"), "gone_on", "Plain.gone_on", defArgs s_Plain_gone_on, defBody s_Plain_gone_on, defScope s_Plain_gone_on, [], []⟩
def d_Plain_go : He.DefD := ⟨("Plain", some "go"), "go", "Plain.go", defArgs s_Plain_go, defBody s_Plain_go, defScope s_Plain_go, [.int 1], []⟩
def d_Plain_back : He.DefD := ⟨("Plain", some "back"), "back", "Plain.back", defArgs s_Plain_back, defBody s_Plain_back, defScope s_Plain_back, [.int 1], []⟩
def d_Plain_gone : He.DefD := ⟨("Plain", some "gone"), "gone", "Plain.gone", defArgs s_Plain_gone, defBody s_Plain_gone, defScope s_Plain_gone, [], []⟩
def d_Plain_is_over : He.DefD := ⟨("Plain", some "is_over"), "is_over", "Plain.is_over", defArgs s_Plain_is_over, defBody s_Plain_is_over, defScope s_Plain_is_over, [], []⟩
def d_Plain_memory : He.DefD := ⟨("Plain", some "memory"), "memory", "Plain.memory", defArgs s_Plain_memory, defBody s_Plain_memory, defScope s_Plain_memory, [], []⟩
def d_Plain_peeks : He.DefD := ⟨("Plain", some "peeks"), "peeks", "Plain.peeks", defArgs s_Plain_peeks, defBody s_Plain_peeks, defScope s_Plain_peeks, [], []⟩
def d_Plain_plain_twin : He.DefD := ⟨("Plain", some "plain_twin"), "plain_twin", "Plain.plain_twin", defArgs s_Plain_plain_twin, defBody s_Plain_plain_twin, defScope s_Plain_plain_twin, [], []⟩
def d_Plain___eq__ : He.DefD := ⟨("Plain", some "__eq__"), "__eq__", "Plain.__eq__", defArgs s_Plain_eq, defBody s_Plain_eq, defScope s_Plain_eq, [], []⟩
def d_Plain___len__ : He.DefD := ⟨("Plain", some "__len__"), "__len__", "Plain.__len__", defArgs s_Plain_len, defBody s_Plain_len, defScope s_Plain_len, [], []⟩
def d_Plain___repr__ : He.DefD := ⟨("Plain", some "__repr__"), "__repr__", "Plain.__repr__", defArgs s_Plain_repr, defBody s_Plain_repr, defScope s_Plain_repr, [], []⟩
def d__law_mixed : He.DefD := ⟨("_law_mixed", none), "_law_mixed", "_law_mixed", defArgs s__law_mixed, defBody s__law_mixed, defScope s__law_mixed, [], []⟩
def d__law_begun : He.DefD := ⟨("_law_begun", none), "_law_begun", "_law_begun", defArgs s__law_begun, defBody s__law_begun, defScope s__law_begun, [], []⟩
def d__law_take : He.DefD := ⟨("_law_take", none), "_law_take", "_law_take", defArgs s__law_take, defBody s__law_take, defScope s__law_take, [], []⟩
def d__law_of : He.DefD := ⟨("_law_of", none), "_law_of", "_law_of", defArgs s__law_of, defBody s__law_of, defScope s__law_of, [], []⟩
def d__law_area : He.DefD := ⟨("_law_area", none), "_law_area", "_law_area", defArgs s__law_area, defBody s__law_area, defScope s__law_area, [], []⟩
def d__law_byte : He.DefD := ⟨("_law_byte", none), "_law_byte", "_law_byte", defArgs s__law_byte, defBody s__law_byte, defScope s__law_byte, [], []⟩
def d__law_moving : He.DefD := ⟨("_law_moving", none), "_law_moving", "_law_moving", defArgs s__law_moving, defBody s__law_moving, defScope s__law_moving, [], []⟩
def d__law_a_step : He.DefD := ⟨("_law_a_step", none), "_law_a_step", "_law_a_step", defArgs s__law_a_step, defBody s__law_a_step, defScope s__law_a_step, [], []⟩
def d__law_line : He.DefD := ⟨("_law_line", none), "_law_line", "_law_line", defArgs s__law_line, defBody s__law_line, defScope s__law_line, [], []⟩
def d__law_sheet : He.DefD := ⟨("_law_sheet", none), "_law_sheet", "_law_sheet", defArgs s__law_sheet, defBody s__law_sheet, defScope s__law_sheet, [], []⟩
def d__law_store : He.DefD := ⟨("_law_store", none), "_law_store", "_law_store", defArgs s__law_store, defBody s__law_store, defScope s__law_store, [], []⟩
def d__law_cells : He.DefD := ⟨("_law_cells", none), "_law_cells", "_law_cells", defArgs s__law_cells, defBody s__law_cells, defScope s__law_cells, [], []⟩
def d__law_own : He.DefD := ⟨("_law_own", none), "_law_own", "_law_own", defArgs s__law_own, defBody s__law_own, defScope s__law_own, [], []⟩
def d__law_read : He.DefD := ⟨("_law_read", none), "_law_read", "_law_read", defArgs s__law_read, defBody s__law_read, defScope s__law_read, [], []⟩
def d__law_write : He.DefD := ⟨("_law_write", none), "_law_write", "_law_write", defArgs s__law_write, defBody s__law_write, defScope s__law_write, [], []⟩
def d__law_moved : He.DefD := ⟨("_law_moved", none), "_law_moved", "_law_moved", defArgs s__law_moved, defBody s__law_moved, defScope s__law_moved, [], []⟩
def d__law_passed : He.DefD := ⟨("_law_passed", none), "_law_passed", "_law_passed", defArgs s__law_passed, defBody s__law_passed, defScope s__law_passed, [], []⟩
def d__law_did : He.DefD := ⟨("_law_did", none), "_law_did", "_law_did", defArgs s__law_did, defBody s__law_did, defScope s__law_did, [], []⟩
def d__law_run : He.DefD := ⟨("_law_run", none), "_law_run", "_law_run", defArgs s__law_run, defBody s__law_run, defScope s__law_run, [], []⟩
def d__law_stood : He.DefD := ⟨("_law_stood", none), "_law_stood", "_law_stood", defArgs s__law_stood, defBody s__law_stood, defScope s__law_stood, [], []⟩
def d__law_is_so : He.DefD := ⟨("_law_is_so", none), "_law_is_so", "_law_is_so", defArgs s__law_is_so, defBody s__law_is_so, defScope s__law_is_so, [], []⟩
def d__law_gone_right : He.DefD := ⟨("_law_gone_right", none), "_law_gone_right", "_law_gone_right", defArgs s__law_gone_right, defBody s__law_gone_right, defScope s__law_gone_right, [], []⟩
def d__law_others_right : He.DefD := ⟨("_law_others_right", none), "_law_others_right", "_law_others_right", defArgs s__law_others_right, defBody s__law_others_right, defScope s__law_others_right, [], []⟩
def d_law : He.DefD := ⟨("law", none), "law", "law", defArgs s_law, defBody s_law, defScope s_law, [], []⟩
def fns0 : List He.DefD := [d_is_whole, d_is_byte, d_is_flag, d_is_memory, d_area_wrong, d_own_size, d_is_thing, d_form_of, d_things_wrong, d_step_wrong, d_list_wrong, d_is_deed, d_flags_noted, d_program_wrong, d_need_program, d_area_cells, d_cells_touched, d_deed_cells, d_do_step, d_Course___init__, d_Course_tell, d_Course_pass_by, d_Course_do_posted, d_Course_do_deed, d_Course_do_all, d_need_memory, d_need_inside, d_need_both, d_course_of, d_need_many]
def fns1 : List He.DefD := [d_Plain___init__, d_Plain_gone_on, d_Plain_go, d_Plain_back, d_Plain_gone, d_Plain_is_over, d_Plain_memory, d_Plain_peeks, d_Plain_plain_twin, d_Plain___eq__, d_Plain___len__, d_Plain___repr__, d__law_mixed, d__law_begun, d__law_take, d__law_of, d__law_area, d__law_byte, d__law_moving, d__law_a_step, d__law_line, d__law_sheet, d__law_store, d__law_cells, d__law_own, d__law_read, d__law_write, d__law_moved, d__law_passed, d__law_did]
def fns2 : List He.DefD := [d__law_run, d__law_stood, d__law_is_so, d__law_gone_right, d__law_others_right, d_law]
def fns : List He.DefD := fns0 ++ (fns1 ++ (fns2))
def fas0 : List He.Fa := [.int "MOST_CELLS" 1024, .int "FLAGS" 8, .int "GREATEST_CELL" 1023, .int "GREATEST_BYTE" 255, .int "MOST_AREA" 256, .str "END" "end", .int "MOST_STEPS" 64, .int "MOST_DEEDS" 24, .int "MOST_NOTED" 99, .str "COPY_steps" "copy", .str "FILL_steps" "fill", .str "ADD_steps" "add", .str "NOTE_steps" "note", .str "WAIT_steps" "wait", .str "FENCE" "fence", .str "POST_steps" "post", .str "SIZE" "size", .str "SKIP" "skip", .str "FLAG" "flag", .str "COPY_plain" "copy", .str "FILL_plain" "fill", .str "ADD_plain" "add", .str "NOTE_plain" "note", .str "WAIT_plain" "wait", .str "POST_plain" "post", .str "POKE" "poke", .str "PEEK" "peek", .str "SEE" "see", .str "READ" "r", .str "WRITE" "w"]
def fas1 : List He.Fa := [.str "OVER" "over", .str "STUCK" "stuck", .int "BYTES" 256, .int "MOST_ROWS" 100000, .free "isinstance", .free "int", .free "bool", .free "tuple", .free "len", .free "all", .free "enumerate", .free "str", .free "dict", .free "any", .free "range", .free "list", .free "zip", .free "sum", .free "max", .free "min", .free "repr", .glo "is_whole", .glo "is_byte", .glo "is_flag", .glo "is_memory", .glo "area_wrong", .glo "own_size", .glo "is_thing", .glo "form_of", .glo "things_wrong"]
def fas2 : List He.Fa := [.glo "step_wrong", .glo "list_wrong", .glo "is_deed", .glo "flags_noted", .glo "program_wrong", .glo "need_program", .glo "area_cells", .glo "cells_touched", .glo "deed_cells", .glo "do_step", .meth "Course" "__init__", .meth "Course" "tell", .meth "Course" "pass_by", .meth "Course" "do_posted", .meth "Course" "do_deed", .meth "Course" "do_all", .glo "need_memory", .glo "need_inside", .glo "need_both", .glo "course_of", .glo "need_many", .meth "Plain" "__init__", .meth "Plain" "gone_on", .meth "Plain" "go", .meth "Plain" "back", .meth "Plain" "gone", .meth "Plain" "is_over", .meth "Plain" "memory", .meth "Plain" "peeks", .meth "Plain" "plain_twin"]
def fas3 : List He.Fa := [.meth "Plain" "__eq__", .meth "Plain" "__len__", .meth "Plain" "__repr__", .glo "_law_mixed", .glo "_law_begun", .glo "_law_take", .glo "_law_of", .glo "_law_area", .glo "_law_byte", .glo "_law_moving", .glo "_law_a_step", .glo "_law_line", .glo "_law_sheet", .glo "_law_store", .glo "_law_cells", .glo "_law_own", .glo "_law_read", .glo "_law_write", .glo "_law_moved", .glo "_law_passed", .glo "_law_did", .glo "_law_run", .glo "_law_stood", .glo "_law_is_so", .glo "_law_gone_right", .glo "_law_others_right", .glo "law", .glo "Course", .cls "Course", .mkr "Course"]
def fas4 : List He.Fa := [.glo "Plain", .cls "Plain", .mkr "Plain", .noat "Course" "course_memory", .noat "Course" "course_flags", .noat "Course" "course_rows", .noat "Course" "course_peeks", .noat "Course" "course_stuck", .noat "Plain" "plain_asked", .noat "Plain" "plain_rows", .noat "Plain" "plain_bytes", .noat "Plain" "plain_elders", .glo "STEP_FORMS", .glo "DEED_FORMS"]
def fas : List He.Fa := fas0 ++ (fas1 ++ (fas2 ++ (fas3 ++ (fas4))))
def loos0 : List Str := ["HaulError", "BadMemory", "BadProgram", "BadNumber", "MOST_CELLS", "FLAGS", "GREATEST_CELL", "GREATEST_BYTE", "is_whole", "is_byte", "is_flag", "is_memory", "MOST_AREA", "END", "area_wrong", "own_size", "MOST_STEPS", "MOST_DEEDS", "MOST_NOTED", "COPY_steps", "FILL_steps", "ADD_steps", "NOTE_steps", "WAIT_steps", "FENCE", "POST_steps", "SIZE", "SKIP", "FLAG", "STEP_FORMS"]
def loos1 : List Str := ["DEED_FORMS", "is_thing", "form_of", "things_wrong", "step_wrong", "list_wrong", "is_deed", "flags_noted", "program_wrong", "need_program", "COPY_plain", "FILL_plain", "ADD_plain", "NOTE_plain", "WAIT_plain", "POST_plain", "POKE", "PEEK", "SEE", "READ", "WRITE", "OVER", "STUCK", "BYTES", "MOST_ROWS", "area_cells", "cells_touched", "deed_cells", "do_step", "Course"]
def loos2 : List Str := ["need_memory", "need_inside", "need_both", "course_of", "need_many", "Plain", "_law_mixed", "_law_begun", "_law_take", "_law_of", "_law_area", "_law_byte", "_law_moving", "_law_a_step", "_law_line", "_law_sheet", "_law_store", "_law_cells", "_law_own", "_law_read", "_law_write", "_law_moved", "_law_passed", "_law_did", "_law_run", "_law_stood", "_law_is_so", "_law_gone_right", "_law_others_right"]
def loos : List Str := loos0 ++ (loos1 ++ (loos2))
/-! ### more facts -/
def entB : List DictEntry → List (Str × Str) → Bool
  | [], [] => true
  | e :: es, q :: qs => (match e.key with
    | .str x _ => decide (x = q.1)
    | _ => false) && (He.relB (.str q.2) e.val && entB es qs)
  | _, _ => false
def formB (K : PySem.W.Frag) (x : Str) (kvs : List (Str × Str)) : Bool := match K.lookup (He.ga K x) with
  | some ⟨.type c, none, .dict es _, sl⟩ => decide (c = "dict") && (sl.isEmpty && (!(He.ga K x == sysModules) && entB es.toList kvs))
  | _ => false
def stepF : List (Str × Str) := [("copy", ⟨[65, 65, 83].toArray⟩), ("fill", ⟨[65, 66, 83].toArray⟩), ("add", ⟨[65, 67].toArray⟩), ("note", ⟨[70].toArray⟩), ("wait", ⟨[70, 78].toArray⟩), ("fence", ⟨[].toArray⟩)]
def deedF : List (Str × Str) := [("post", ⟨[72, 76].toArray⟩), ("poke", ⟨[67, 66].toArray⟩), ("peek", ⟨[67].toArray⟩), ("join", ⟨[72].toArray⟩), ("see", ⟨[70, 78].toArray⟩)]
def moreB (K : PySem.W.Frag) : Bool :=
  He.eqO (PySem.W.findIn K (.ref (He.ga K "Plain")) "__class__") (some (some (.builtin "object.__class__"))) &&
  (He.eqO (PySem.W.specialIn K (.builtin "object.__class__") "__get__") (some (some (.builtin "getset_descriptor.__get__"))) &&
  (decide (PySem.W.takesIn K (.builtin "object.__class__") = some true) &&
  (decide (PySem.W.mroIn K (He.ga K "Plain") (.type "object") = some true) &&
  (decide (PySem.W.kitOne K (.ref (He.ga K "Plain")) (.ref (He.ga K "Plain")) = some true) &&
  (decide (PySem.W.kitOne K (.type "int") (.ref (He.ga K "Plain")) = some false) &&
  (decide (PySem.W.kitOne K (.type "tuple") (.ref (He.ga K "Plain")) = some false) &&
  (decide (PySem.W.kitOne K (.type "str") (.ref (He.ga K "Plain")) = some false) &&
  (He.eqO (PySem.W.findIn K (.ref (He.ga K "Plain")) "__ne__") (some (some (.builtin "object.__ne__"))) &&
  (formB K "STEP_FORMS" stepF && formB K "DEED_FORMS" deedF)))))))))
def tabs : List He.Tab := [(fun K => He.ga K "STEP_FORMS", stepF.map (·.1)), (fun K => He.ga K "DEED_FORMS", deedF.map (·.1))]
abbrev theRow : PySem.W.OpenRow := PySem.W.OpenLaw.row PySem.Challenge.rw_haulring_k14_whole_plain_by_deeds
abbrev theView : Program := PySem.W.view theRow.prog [95]
abbrev hk : PySem.W.Hook := He.hookX 4 fas fns tabs [] moreB
def ob (s : PySem.W.SharedT) : He.AlX := He.obsX 4 fas fns tabs [] moreB (HandSHeadRun.getT s)
theorem ob_eq (s : PySem.W.SharedT) : ob s = hk.obs s.abs := He.obsX_eq (HandSHeadRun.getT_eq s)
/-! ### the run, looked at in parts (one run each: less memory at a time) -/
noncomputable abbrev theEnd (v : World) (os : OsState) : Option PySem.W.SharedT := HandSHeadRun.endF (HandSHeadRun.stepQ (HandSHeadRun.denQ HandSHeadRun.tabQ) theRow.prog v) 20000 theRow.prog v os
def kOf (s : PySem.W.SharedT) : PySem.W.Frag := He.frT (HandSHeadRun.getT s) (He.asD (HandSHeadRun.getT s) 4)
abbrev wB (w : World) (b : Bool) : World := w.withFollow "special-get-raises" b
def Look (v : World) : Prop := ∀ os : OsState, (theEnd v os).map (fun s => (HandSHeadRun.looksF theRow.prog (PySem.W.boot_heap v.params) s.abs, HandSHeadRun.seenQ theView loos (importedModules theRow.prog.main.body) (fun s => PySem.W.xlAt theView [] s && PySem.W.recOk theRow.toRowW.records s) s.abs)) = some (true, PySem.W.openGood theView loos)
def TellA (v : World) : Prop := ∀ os : OsState, (theEnd v os).map (fun s => ((fas.all fun f => f.ok (kOf s)) && moreB (kOf s), tabs.map fun t => He.dicW (kOf s) (t.1 (kOf s)))) = some (true, tabs.map fun t => some (He.keysIn v.params t.2))
def TellB (v : World) : Prop := ∀ os : OsState, (theEnd v os).map (fun s => (fns.all fun d => d.ok (kOf s), fns.map fun d => He.fnW (kOf s) d.at_)) = some (true, fns.map He.DefD.val)
theorem join {v : World} (h1 : Look v) (h2 : TellA v) (h3 : TellB v) : HandSHeadRun.RunEq theRow theView hk ob 20000 loos v := by
  intro os
  obtain ⟨s, hs, e1⟩ := Option.map_eq_some_iff.mp (h1 os)
  have e2 := h2 os
  have e3 := h3 os
  rw [hs] at e2 e3
  obtain ⟨a1, a2⟩ := Prod.mk.inj (Option.some.inj e2)
  obtain ⟨b1, b2⟩ := Prod.mk.inj (Option.some.inj e3)
  obtain ⟨c1, c2⟩ := He.ba a1
  have e5 : ob s = hk.val v := by
    show ((((fas.all fun f => f.ok (kOf s)) && fns.all fun d => d.ok (kOf s), fns.map fun d => He.fnW (kOf s) d.at_), tabs.map fun t => He.dicW (kOf s) (t.1 (kOf s))), moreB (kOf s) && true) = ((((true, fns.map He.DefD.val), tabs.map fun t => some (He.keysIn v.params t.2)), true) : He.AlX)
    rw [c1, c2, a2, b1, b2]
    rfl
  show (theEnd v os).map _ = _
  rw [hs]
  obtain ⟨d1, d2⟩ := Prod.mk.inj e1
  exact congrArg some (Prod.ext d1 (Prod.ext d2 e5))
theorem lookF (w : World) : Look (wB w false) := by
  intro os
  kernel_rfl
theorem lookT (w : World) : Look (wB w true) := by
  intro os
  kernel_rfl
theorem tellAF (w : World) : TellA (wB w false) := by
  intro os
  kernel_rfl
theorem tellAT (w : World) : TellA (wB w true) := by
  intro os
  kernel_rfl
theorem tellBF (w : World) : TellB (wB w false) := by
  intro os
  kernel_rfl
theorem tellBT (w : World) : TellB (wB w true) := by
  intro os
  kernel_rfl
theorem run (w : World) : HandSHeadRun.RunEq theRow theView hk ob 20000 loos w := PySem.W.byRow2 "special-get-raises" (fun w => join (lookF w) (tellAF w) (tellBF w)) (fun w => join (lookT w) (tellAT w) (tellBT w)) w
end L2.K14
set_option Elab.async false
set_option linter.all false
/-! What the defs compute, in plain Lean. -/
namespace L2.K14
open PySem
/-! ### areas, steps, programs -/
structure Ar where
  start : Nat
  count : Nat
  rows : Nat
  pitch : Nat
inductive Stp where
  | copy (a b : Ar) (skip : Nat)
  | fill (a : Ar) (byte skip : Nat)
  | add (a : Ar) (cell : Nat)
  | note (f : Nat)
  | wait (f n : Nat)
  | fence
inductive Ded where
  | post (h : Nat) (l : List Stp)
  | poke (c b : Nat)
  | peek (c : Nat)
  | join (h : Nat)
  | see (f n : Nat)
abbrev dN (n : Nat) : PyData := .int (n : Int)
def Ar.d (a : Ar) : PyData := .tuple [dN a.start, dN a.count, dN a.rows, dN a.pitch]
def Stp.d : Stp → PyData
  | .copy a b k => .tuple [.str "copy", a.d, b.d, dN k]
  | .fill a b k => .tuple [.str "fill", a.d, dN b, dN k]
  | .add a c => .tuple [.str "add", a.d, dN c]
  | .note f => .tuple [.str "note", dN f]
  | .wait f n => .tuple [.str "wait", dN f, dN n]
  | .fence => .tuple [.str "fence"]
def Ded.d : Ded → PyData
  | .post h l => .tuple [.str "post", dN h, .tuple (l.map Stp.d)]
  | .poke c b => .tuple [.str "poke", dN c, dN b]
  | .peek c => .tuple [.str "peek", dN c]
  | .join h => .tuple [.str "join", dN h]
  | .see f n => .tuple [.str "see", dN f, dN n]
def sheetD (p : List Ded) : PyData := .tuple (p.map Ded.d)
def memD (m : List Nat) : PyData := .tuple (m.map dN)
/-- its cells, in order -/
def Ar.cells (a : Ar) : List Nat := (List.range a.rows).flatMap fun r => (List.range a.count).map fun i => a.start + a.pitch * r + i
def Ar.size (a : Ar) : Nat := a.count * a.rows
/-- an area of the law's draws: below so many cells, at most forty -/
structure Ar.Ok (a : Ar) (top : Nat) : Prop where
  c1 : 1 ≤ a.count
  r1 : 1 ≤ a.rows
  cp : a.count ≤ a.pitch
  one : a.rows = 1 → a.pitch = a.count
  sz : a.rows * a.count ≤ 8
  span : a.start + (a.rows - 1) * a.pitch + a.count ≤ top
  p40 : a.pitch ≤ 40
theorem foldl_take {α β : Type} (f : β → α → β) (s : β) {l : List α} {i : Nat} {x : α} (h : l[i]? = some x) : (l.take (i + 1)).foldl f s = f ((l.take i).foldl f s) x := by
  rw [List.take_add_one, h, List.foldl_append]
  rfl
end L2.K14
set_option Elab.async false
set_option linter.all false
set_option maxRecDepth 100000
set_option maxHeartbeats 4000000
/-! Rules of the hand layer that this claim wants: star targets. -/
namespace L2.K14
open PySem PySem.Spec PyProof.Rows
section
variable {X : Cx} {pins : List (Addr × Obj)} {σ : St} {H : Hp} {s : Shared}
/-- a library rule that tells its new object by Fr and News, brought to the layer -/
theorem inv_news {m : Str → Option Value} {h' : Heap} {tk : Nat} {D : Addr} {o : Obj} {ho : HO} (I : Inv X pins σ H s) (F : Fr X.base X.env.locals s.heap m) (F' : Fr X.base X.env.locals h' m)
    (N' : News X.base X.env.locals h' ((D, o) :: allNews X.base s.heap X.env.locals)) (hl : ∀ p ∈ allNews X.base s.heap X.env.locals, p.1 < D)
    (new : ObjOk X.prog X.w (upd H D ho) h' D ho) : H D = none ∧ Inv X pins σ (upd H D ho) { s with heap := h', toks := tk } := by
  have kp : ∀ b u, b ≠ X.env.locals → s.heap.get? b = some u → h'.get? b = some u := fun b u nb e => by
    cases q : X.base.get? b with
    | some v =>
      have e2 := I.bk b v q
      rw [e] at e2
      cases e2
      exact F'.keep b u q
    | none => exact (N' (b, u) (List.mem_cons_of_mem _ (mem_allNews nb q e))).1
  have dL : D ≠ X.env.locals := (N' _ List.mem_cons_self).2.1
  have dB : X.base.get? D = none := (N' _ List.mem_cons_self).2.2
  have dN : s.heap.get? D = none := by
    cases q : s.heap.get? D with
    | none => rfl
    | some u => exact absurd (hl (D, u) (mem_allNews dL dB q)) (Nat.lt_irrefl _)
  have hD : H D = none := I.hok.gone dN
  have nt : ∀ c u, H c = some u → c ≠ X.env.locals := fun c u e z => by
    rw [z, I.free] at e
    cases e
  refine ⟨hD, I.step (g' := s.gens) (d' := s.drawn) (ch := []) (fun _ z => nomatch z) (fun b u nb _ _ e _ => kp b u nb e) (fun b u nb _ _ e _ => ⟨u.slots, kp b u nb e⟩) (fun b u _ e n => ?_) (fun b u _ e => ?_)
    (fun b xs e => ?_) (fun b u xs e => ?_) (fun b ps e => ⟨#[], ?_⟩) (fun m' hm => ?_) (fun b u e => ?_) I.bare⟩
  · have nb : b ≠ D := fun z => by
      rw [z, dN] at e
      cases e
    rw [upd_ne nb]
    exact n
  · by_cases nb : b = X.env.locals
    · rw [nb]
      obtain ⟨o', _, _, z, _⟩ := F'.ns
      exact ⟨o', z⟩
    · exact ⟨u, kp b u nb e⟩
  · rw [upd_ne (ne_of_none e hD)]
    exact e
  · rw [upd_ne (ne_of_none e hD)]
    exact e
  · rw [upd_ne (ne_of_none e hD), e]
    simp
  · rw [SlX.ns_only hm F.ns]
    exact F'.ns
  · by_cases nb : b = D
    · subst nb
      rw [upd_same] at e
      cases e
      exact new
    · rw [upd_ne nb] at e
      refine (I.hok b u e).stay (fun c v hc q => kp c v ?_ q) (fun c q => by rw [upd_ne (ne_of_none q hD)]; exact q) fun c xs q => by rw [upd_ne (ne_of_none q hD)]; exact q
      rcases hc with rfl | hc
      · exact nt _ _ e
      · exact nt _ _ hc

/-! ### w, *ts = a tuple -/
def gStar (K : PySem.W.Frag) (t : TGs) : TG := fun v σ H Q => ∃ a x xs, v = .ref a ∧ SqT K H a (x :: xs) ∧ xs.length ≤ 1000 ∧ ∀ p, H p = none → t [x, .ref p] σ (upd H p (.lst xs)) Q
theorem pgs_starred {e : Expr} {p : Pos} {t : TG} (h1 : PG X e t) : PGs X [.Starred e p] (gCons t gNil) := by
  refine ⟨fun pins s σ H vs us Q I r h => ?_⟩
  obtain ⟨v, vr, e1, h⟩ := h
  subst e1
  cases r with
  | cons r rr =>
    refine assignInOrder_cons (thn (h1.run pins s σ H _ _ _ I r h) fun _ s1 q => ?_)
    obtain ⟨σ1, H1, I1, e2, q1⟩ := q
    subst e2
    cases rr
    exact assignInOrder_nil ⟨σ1, H1, I1, q1⟩
theorem pg_star {e1 e2 : Expr} {k : Nat} {p pos : Pos} {t : TGs} (hc : X.calm = true) (h : PGs X [e1, .Starred e2 p] t)
    (hn : (assignEach [e1, .Starred e2 p] X.env).length = 2 := by rfl) (hst : (assignEach [e1, .Starred e2 p] X.env).findIdx? (·.1) = some 1 := by rfl) : PG X (.Tuple [e1, .Starred e2 p] k pos) (gStar X.K t) := by
  refine ⟨fun pins s σ H v u Q I r hw => ?_⟩
  obtain ⟨a, x, xs, rfl, hq, hl, hw⟩ := hw
  cases r
  obtain ⟨its, rv, ht, hz⟩ := I.tuple hq
  obtain ⟨m, F⟩ := I.fr
  cases rv with
  | @cons _ u0 _ us r0 rr =>
    have el : us.length = xs.length := rr.length.symm
    have hs1 : (u0 :: us).toArray.size = us.length + 1 := by simp
    refine PySem.W.kun_assignT (first := [u0]) (mids := us) (lasts := []) F news_all ht (I.ok.hd hc) hn hst (by decide) (by omega) (by omega) (by simp) (by simp) (by simp) fun D h' tk F' N' l1 => ?_
    obtain ⟨hD, I1⟩ := inv_news (tk := tk) (ho := .lst xs) I F F' N' l1 ⟨by rw [sizeLine_eq]; omega, us, 0, rr, (N' _ List.mem_cons_self).1⟩
    exact h.run pins _ σ _ [x, .ref D] _ Q I1 (.cons r0 (.cons rfl .nil)) (hw D hD)
end
end L2.K14
set_option Elab.async false
set_option linter.all false
set_option maxRecDepth 100000
set_option maxHeartbeats 4000000
/-! Rules of the hand layer that this claim wants: own ==, !=, len, repr; repr of data. -/
namespace L2.K14
open PySem PySem.Spec PyProof.Rows
section
variable {X : Cx} {pins : List (Addr × Obj)} {σ : St} {H : Hp} {s : Shared}
/-- a callee runs at a place that stands on the same frames -/
theorem run_there {k : Nat} {f : Addr} {fd : FuncData} {ps : List Str} {sp : Sp} {A : Around} {us : List Value} {vs : List V} {Q : VK} (F : FnOk X.prog X.w X.K X.mg X.base CX0 k f fd ps sp) (hr : Room k A) (hfr : A.frames = X.A.frames)
    (hb : Binds X.K fd ps []) (I : Inv X pins σ H s) (r : Vals vs us) (h : sp vs H Q E0) : wpAny (model X.prog X.w) A (call (.ref f) us) (EP X pins σ Q) X.xe s := by
  have e := I.env0
  have e0 : Env0 X.prog X.w X.K X.mg X.base A X.stack s H := ⟨hfr.trans e.frames, e.mod, e.bs, e.bsz, e.funs, e.frf, e.hok, e.bare⟩
  have hl : us.length = ps.length := by rw [← r.length]; exact F.len _ _ _ _ h
  have b := hb s us I.kIn (by simpa using hl)
  rw [List.append_nil] at b
  refine wpAny_call (codeAny_mono (F.run A X.stack s H ⟨us, []⟩ us vs Q E0 hr e0 b r h) fun r s' hq => ?_)
  cases r with
  | error e => exact False.elim hq
  | ok fl =>
    cases fl with
    | ret u => exact I.after hq
    | next => exact False.elim hq
    | brk => exact False.elim hq
    | cont => exact False.elim hq
/-- an own method that the interpreter calls by its name -/
structure Own (K : PySem.W.Frag) (C : Addr) (m : Str) (f : Addr) : Prop where
  at_ : PySem.W.findIn K (.ref C) m = some (some (.ref f))
  fn : PySem.W.isFn K (.ref f) = true
theorem inst_at {a C dx : Addr} {fs : List (Str × V)} (I : Inv X pins σ H s) (h : H a = some (.ins C dx fs)) : ∃ od, PySem.W.InstAt s.heap a (PySem.W.instObj C dx) C (some od) := by
  obtain ⟨mA, J, _⟩ := ins_get I.hok h
  obtain ⟨od, J, _⟩ := J.look
  exact ⟨od, J⟩
/-- len(x), x an instance with its own __len__ -/
def rLenO (C : Addr) (sp : Sp) : List V → Hp → VK → Prop := fun xs H Q => ∃ a dx fs, xs = [.ref a] ∧ H a = some (.ins C dx fs) ∧ sp [.ref a] H (fun v H' => ∃ n : Nat, v = .int n ∧ (n : Int) < 2 ^ 63 ∧ Q (.int n) H') E0
theorem call_lenO {k : Nat} {C f : Addr} {fd : FuncData} {ps : List Str} {sp : Sp} (O : Own X.K C "__len__" f) (F : FnOk X.prog X.w X.K X.mg X.base CX0 k f fd ps sp) (hb : Binds X.K fd ps []) (hr : Room (k + 1) X.A) : CallR X (.builtin "len") (rLenO C sp) := by
  intro pins s σ H xs us Q I r h
  obtain ⟨a, dx, fs, rfl, ha, h⟩ := h
  obtain ⟨u, rfl, e⟩ := vals1 r
  cases e
  obtain ⟨od, J⟩ := inst_at I ha
  obtain ⟨m, hF⟩ := I.fr
  refine PySem.W.len_K hF I.ok.mod.kin J O.at_ O.fn (wpAny_mono (run_there (vs := [V.ref a]) (us := [.ref a]) F hr.in1 rfl hb I (.cons rfl .nil) h) (fun v s' q => ?_) fun _ _ x => x)
  obtain ⟨z, H', I', rz, n, ez, hn, q⟩ := q
  subst ez
  obtain ⟨t, rfl⟩ := rz
  exact ⟨⟨by omega, hn⟩, .int n, H', I'.tok _, ⟨_, rfl⟩, q⟩
/-- repr(x), x an instance with its own __repr__ -/
def rReprO (C : Addr) (sp : Sp) : List V → Hp → VK → Prop := fun xs H Q => ∃ a dx fs, xs = [.ref a] ∧ H a = some (.ins C dx fs) ∧ sp [.ref a] H (fun v H' => ∃ z, v = .str z ∧ Q (.str z) H') E0
theorem call_reprO {k : Nat} {C f : Addr} {fd : FuncData} {ps : List Str} {sp : Sp} (O : Own X.K C "__repr__" f) (F : FnOk X.prog X.w X.K X.mg X.base CX0 k f fd ps sp) (hb : Binds X.K fd ps []) (hr : Room (k + 1) X.A) : CallR X (.builtin "repr") (rReprO C sp) := by
  intro pins s σ H xs us Q I r h
  obtain ⟨a, dx, fs, rfl, ha, h⟩ := h
  obtain ⟨u, rfl, e⟩ := vals1 r
  cases e
  obtain ⟨od, J⟩ := inst_at I ha
  obtain ⟨m, hF⟩ := I.fr
  refine PySem.W.repr_K hr.in1.units0 hF I.ok.mod.kin J O.at_ O.fn (wpAny_mono (run_there (vs := [V.ref a]) (us := [.ref a]) F hr.in1 rfl hb I (.cons rfl .nil) h) (fun v s' q => ?_) fun _ _ x => x)
  obtain ⟨z, H', I', rz, w, ez, q⟩ := q
  subst ez
  obtain ⟨t, rfl⟩ := rz
  exact ⟨.str w, H', I', ⟨_, rfl⟩, q⟩
/-- whose type the interpreter reads, and that the right one's == isn't asked first -/
def NotFirst (X : Cx) (C : Addr) (y : V) (H : Hp) : Prop := ∀ (pins : List (Addr × Obj)) (σ : St) (s : Shared) (u : Value), Inv X pins σ H s → RelV y u → ∃ tb, PySem.W.Looks (model X.prog X.w) s.heap (typeOf u) tb ∧ PySem.W.notFirst X.K C tb = true
/-- x == y by the own __eq__ of x's class -/
def rEqO (X : Cx) (C : Addr) (sp : Sp) : R2 := fun x y H Q => ∃ a dx fs, x = .ref a ∧ H a = some (.ins C dx fs) ∧ NotFirst X C y H ∧ sp [.ref a, y] H (fun v H' => ∃ b, v = .bl b ∧ Q (.bl b) H') E0
theorem op_eqO {k : Nat} {C f : Addr} {fd : FuncData} {ps : List Str} {sp : Sp} (O : Own X.K C "__eq__" f) (F : FnOk X.prog X.w X.K X.mg X.base CX0 k f fd ps sp) (hb : Binds X.K fd ps []) (hr : Room k X.A) : OpR X (compareOp .Eq) (rEqO X C sp) := by
  intro pins s σ H x y v u Q I rx ry h
  obtain ⟨a, dx, fs, rfl, ha, hn, h⟩ := h
  cases rx
  obtain ⟨od, J⟩ := inst_at I ha
  obtain ⟨m, hF⟩ := I.fr
  obtain ⟨tb, l, n⟩ := hn pins σ s u I ry
  refine PySem.W.cmp_ofEq (PySem.W.cmp_K (op := .Eq) (tb := tb) hr.units0 hF I.ok.mod.kin J l n O.at_ O.fn (wpAny_mono (run_there (vs := [V.ref a, y]) (us := [.ref a, u]) F hr rfl hb I (.cons rfl (.cons ry .nil)) h) (fun v s' q => ?_) fun _ _ x => x))
  obtain ⟨z, H', I', rz, b, ez, q⟩ := q
  subst ez
  cases rz
  exact ⟨.bl b, H', I', rfl, q⟩
theorem notFirst_ins {C a dx : Addr} {fs : List (Str × V)} (h : H a = some (.ins C dx fs)) : NotFirst X C (.ref a) H := by
  intro pins σ s u I ry
  cases ry
  obtain ⟨od, J⟩ := inst_at I h
  exact ⟨_, J.type, by simp [PySem.W.notFirst]⟩

theorem notFirst_of {C : Addr} {y : V} {T : String} {l : List Value} (e : PySem.fastBuiltinMro T = some l) (hl : l.all (fun v => match v with | .ref _ => false | _ => true) = true)
    (hT : ∀ (pins : List (Addr × Obj)) (σ : St) (s : Shared) (u : Value), Inv X pins σ H s → RelV y u → PySem.W.Looks (model X.prog X.w) s.heap (typeOf u) (.type T)) : NotFirst X C y H := by
  intro pins σ s u I ry
  refine ⟨_, hT pins σ s u I ry, ?_⟩
  have h1 : PySem.W.subIn X.K (.type T) (.ref C) = some false := by
    show (PySem.fastBuiltinMro T).map (·.contains (.ref C)) = some false
    rw [e]
    show some (l.contains (.ref C)) = some false
    have : l.contains (.ref C) = false := by
      rw [Bool.eq_false_iff]
      intro z
      have hm := List.contains_iff_mem.mp z
      have := List.all_eq_true.mp hl _ hm
      simp at this
    rw [this]
  simp [PySem.W.notFirst, h1]
theorem looks_of_is {M : Model} {h : Heap} {u : Value} {T : String} (hT : ∀ s : Shared, (∀ b o, h.get? b = some o → s.heap.get? b = some o) → s.TypeIs u T) : PySem.W.Looks M h (typeOf u) (.type T) := fun A Q E s k q => wpAny_typeOf (hT s k) q
theorem notFirst_int {C : Addr} {i : Int} : NotFirst X C (.int i) H :=
  notFirst_of (T := "int") (l := [.type "int", .type "object"]) (by decide +kernel) (by decide) fun pins σ s u I ry => by
    obtain ⟨t, rfl⟩ := ry
    exact looks_of_is fun s _ => typeIs_int s i t
theorem notFirst_str {C : Addr} {z : Str} : NotFirst X C (.str z) H :=
  notFirst_of (T := "str") (l := [.type "str", .type "object"]) (by decide +kernel) (by decide) fun pins σ s u I ry => by
    obtain ⟨t, rfl⟩ := ry
    exact looks_of_is fun s _ => typeIs_str s z t
theorem notFirst_tup {C a : Addr} {xs : List V} (h : SqT X.K H a xs) : NotFirst X C (.ref a) H :=
  notFirst_of (T := "tuple") (l := [.type "tuple", .type "object"]) (by decide +kernel) (by decide) fun pins σ s u I ry => by
    cases ry
    obtain ⟨its, _, ht, _⟩ := I.tuple h
    exact looks_of_is fun s k => (ht.keeps k).typeIs

theorem ifBound_objNe {M : Model} {A : Around} {E : Value → Shared → Prop} {K : PySem.W.Frag} {x C : Addr} {ox : Obj} {od : Option Obj} {args : List Value} {Q : Option Value → Shared → Prop} (XK : K.In s.heap) (J : PySem.W.InstAt s.heap x ox C od)
    (hs : PySem.W.findIn K (.ref C) "__ne__" = some (some (.builtin "object.__ne__"))) (h : wpAny M A (call (.builtin "object.__ne__") (.ref x :: args)) (fun v => Q (some v)) E s) : wpAny M A (callSpecialIfBound? (.ref x) "__ne__" args) Q E s := by
  simp only [callSpecialIfBound?, bindSpecialIfBound?]
  have goal2 : wpAny M A (call (.builtin "object.__ne__") ([.ref x] ++ args) >>= fun v => pure (some v)) Q E s := wpAny_bind (wpAny_mono h (fun _ _ z => wpAny_pure z) fun _ _ z => z)
  refine wpAny_holding (wpAny_bind (wpAny_bind (wpAny_bind (J.type.here ((PySem.W.looks_findIn XK hs).here (wpAny_bind (wpAny_askSetting (wpAny_ite ?_))))))))
  split
  · exact wpAny_bind (wpAny_of_eq (F.cmp_object.ne.bind _) (wpAny_pure (by exact goal2)))
  · exact wpAny_tryCatch (wpAny_bind (wpAny_of_eq (F.cmp_object.ne.bind _) (wpAny_pure (by exact goal2))))
/-- x != y by the own __eq__ of their class -/
def rNeO (C : Addr) (sp : Sp) : R2 := fun x y H Q => ∃ a dx fs b dy gs, x = .ref a ∧ y = .ref b ∧ H a = some (.ins C dx fs) ∧ H b = some (.ins C dy gs) ∧ sp [.ref a, .ref b] H (fun v H' => ∃ k, v = .bl k ∧ Q (.bl (!k)) H') E0
theorem op_neO {k : Nat} {C f : Addr} {fd : FuncData} {ps : List Str} {sp : Sp} (O : Own X.K C "__eq__" f) (hne : PySem.W.findIn X.K (.ref C) "__ne__" = some (some (.builtin "object.__ne__"))) (hm : PySem.W.mroIn X.K C (.type "object") = some true)
    (G : FnOk X.prog X.w X.K X.mg X.base CX0 k f fd ps sp) (hb : Binds X.K fd ps []) (hr : Room (k + 1) X.A) : OpR X (compareOp .NotEq) (rNeO C sp) := by
  intro pins s σ H x y v u Q I rx ry h
  obtain ⟨a, dx, fs, b, dy, gs, rfl, rfl, ha, hb', h⟩ := h
  cases rx
  cases ry
  obtain ⟨od, J⟩ := inst_at I ha
  obtain ⟨od', J'⟩ := inst_at I hb'
  have hu : X.A.units + 1 < cLine := hu_of hr
  have XI := I.kIn
  have run := run_there (vs := [V.ref a, V.ref b]) (us := [.ref a, .ref b]) G hr.in1 rfl hb I (.cons rfl (.cons rfl .nil)) h
  have fin : ∀ (w : Value) (s' : Shared), EP X pins σ (fun v H' => ∃ k, v = .bl k ∧ Q (.bl (!k)) H') w s' → ∃ k, w = .bool k ∧ EP X pins σ Q (.bool (!k)) s' := fun w s' q => by
    obtain ⟨z, H', I', rz, k, ez, q⟩ := q
    subst ez
    cases rz
    exact ⟨k, rfl, .bl (!k), H', I', rfl, q⟩
  have ent : wpAny (model X.prog X.w) X.A.in1 (Builtin.«object.__ne__» ⟨[.ref a, .ref b], []⟩) (fun r s' => ∃ k, r = .done (.ret (.bool k)) ∧ EP X pins σ Q (.bool k) s') X.xe s := by
    unfold Builtin.«object.__ne__»
    repeat (first
      | with_reducible refine wpAny_cRoomFor hu ?_
      | (refine wpAny_bind (m := callSpecialIfBound? (.ref a) (Str.ofString "__eq__") [.ref b]) (PySem.W.ifBound_K XI J O.at_ O.fn (wpAny_mono run (fun w s' q => by
          obtain ⟨k, rfl, q2⟩ := fin w s' q
          repeat (first | exact ⟨_, rfl, q2⟩ | exact wpAny_pure ⟨_, rfl, q2⟩ | (refine wpAny_bind (m := truthy (.bool _)) (wpAny_truthy_bool ?_)) | wp_step)) fun _ _ e => e)))
      | wp_step)
  have one : wpAny (model X.prog X.w) X.A (tryCompare (.ref a) "__ne__" (.ref b)) (fun r s' => ∃ k, r = some (.bool k) ∧ EP X pins σ Q (.bool k) s') X.xe s := by
    unfold tryCompare
    have cl : wpAny (model X.prog X.w) X.A (call (.builtin "object.__ne__") [.ref a, .ref b]) (fun w s' => ∃ k, w = .bool k ∧ EP X pins σ Q (.bool k) s') X.xe s := by
      refine wpAny_call (codeAny_call_builtin F.cmp_object.ne.plain F.cmpEntry_ne (PySem.W.check_slot F.cmpKind_ne F.cmpSplit_ne (J.type.andThen (PySem.W.looks_mroIn XI hm)) (F.cmpArgs_ne _ _) (wpAny_mono ent (fun r s' q => ?_) fun _ _ e => e)))
      obtain ⟨k, rfl, q⟩ := q
      exact ⟨k, rfl, q⟩
    refine wpAny_bind (ifBound_objNe XI J hne (wpAny_mono cl (fun w s' q => ?_) fun _ _ e => e))
    obtain ⟨k, rfl, q⟩ := q
    exact wpAny_pure ⟨k, rfl, q⟩
  refine PySem.W.cmp_ofNotEq ?_
  unfold richCompare
  simp only [oneThing_ref]
  refine wpAny_holding (wpAny_bind (wpAny_cRoomFor hr.units0 ?_))
  refine wpAny_bind (J.type.here (wpAny_bind (J'.type.here ?_)))
  rw [show (Value.ref C != Value.ref C) = false from by simp]
  simp only [Bool.false_eq_true, if_false]
  refine wpAny_bind (wpAny_pure ?_)
  simp only [Bool.false_eq_true, if_false]
  refine wpAny_bind (wpAny_mono one (fun r s' q => ?_) fun _ _ e => e)
  obtain ⟨k, rfl, q⟩ := q
  first | exact wpAny_pure q | exact wpAny_pure (wpAny_pure q)
end
end L2.K14
set_option Elab.async false
set_option linter.all false
set_option maxRecDepth 100000
set_option maxHeartbeats 4000000
/-! Rules of the hand layer that this claim wants: repr of data. -/
namespace L2.K14
open PySem PySem.Spec PyProof.Rows
section
variable {X : Cx} {pins : List (Addr × Obj)} {σ : St} {H : Hp} {s : Shared}
/-- repr(x), x a list or a tuple of data: where no repr is under way -/
def rReprD (K : PySem.W.Frag) : List V → Hp → VK → Prop := fun xs H Q => ∃ a d, xs = [.ref a] ∧ Dp K H (.ref a) d ∧ d.showable = true ∧ d.hasDict = false ∧ d.shown.length ≤ sizeLine ∧ d.depth ≤ 60 ∧ Q (.str d.shown) H
theorem call_reprD (hg : X.A.guards = some []) (hu : X.A.units + 64 < cLine) : CallR X (.builtin "repr") (rReprD X.K) := by
  intro pins s σ H xs us Q I r h
  obtain ⟨a, d, rfl, hd, hs, hn, hl, hdp, q⟩ := h
  obtain ⟨u, rfl, e⟩ := vals1 r
  cases e
  obtain ⟨as, rd⟩ := Dp.reads I d (.ref a) _ hd rfl
  exact repr_of_reads' rd hs (fun z => by rw [hn] at z; cases z) hg (by omega) (fun _ _ e => e) (fun h' u tk kp => ⟨.str d.shown, H, I.kept kp, ⟨u, rfl⟩, q⟩) hl

/-! ### max(xs, default=d), xs a list of ints -/
def maxDI (d : Int) : List Int → Int
  | [] => d
  | n :: r => r.foldl max n
theorem alike_ints (ns : List Int) : PySem.W.AlikeAll (ns.map PyData.int) := by
  refine ⟨fun x hx y hy => ?_, fun x hx => ?_⟩
  · obtain ⟨i, _, rfl⟩ := List.mem_map.mp hx
    obtain ⟨j, _, rfl⟩ := List.mem_map.mp hy
    simp only [PySem.W.alike]
  · obtain ⟨i, _, rfl⟩ := List.mem_map.mp hx
    exact fun z => nomatch z
theorem depth_ints : ∀ ns : List Int, PyData.depthAll (ns.map PyData.int) ≤ 1
  | [] => by simp [PyData.depthAll]
  | n :: r => by
    have := depth_ints r
    simp [PyData.depthAll, PyData.depth]
    omega
theorem reads_ints {h : Heap} : ∀ {ns : List Int} {us : List Value}, Vals (ns.map V.int) us → ReadsAll h us (ns.map PyData.int) []
  | [], _, r => by
    cases r
    exact .nil
  | n :: ns, _, r => by
    cases r with
    | cons r1 r2 =>
      obtain ⟨t, rfl⟩ := r1
      exact ReadsAll.cons (as := []) (bs := []) (.int n t) (reads_ints r2)
def rMaxDI (K : PySem.W.Frag) : List V → List V → Hp → VK → Prop := fun vs zs H Q => ∃ (a : Addr) (ns : List Int) (d : Int), vs = [.ref a] ∧ zs = [.int d] ∧ SqL K H a (ns.map V.int) ∧ Q (.int (maxDI d ns)) H
theorem cr_maxDI (hc : X.calm = true) (hu : X.A.units + 64 < cLine) : CallRK X (.builtin "max") [Str.ofString "default"] (rMaxDI X.K) := by
  intro pins s σ H xs zs us ws Q I r rz h
  obtain ⟨a, ns, d, rfl, rfl, hs, q⟩ := h
  obtain ⟨u, rfl, e⟩ := vals1 r
  cases e
  obtain ⟨w', rfl, t, rfl⟩ := vals1 rz
  obtain ⟨its, rv, hl, hz⟩ := I.list hs
  have rd := reads_ints (h := s.heap) rv
  have hd := depth_ints ns
  refine PySem.W.max_list_default (vs := its.toArray) (xs := ns.map PyData.int) (as := []) (I.ok.hd hc) hl.isList (by simpa using rd) (alike_ints ns) (by omega) (fun e0 h' tk kp => ?_) (fun y ys i v h' tk bs e1 hv rv kp => ?_)
  · have e : ns = [] := by simpa using e0
    subst e
    exact ⟨.int d, H, I.kept kp, ⟨t, rfl⟩, q⟩
  · cases ns with
    | nil => cases e1
    | cons n r' =>
      have e2 := List.cons.inj e1
      obtain ⟨e3, e4⟩ := e2
      subst e3
      subst e4
      rw [PySem.W.maxD_ints] at rv
      cases rv with
      | int _ t' => exact ⟨.int (maxDI d (n :: r')), H, I.kept kp, ⟨t', rfl⟩, q⟩
end
end L2.K14
set_option Elab.async false
set_option linter.all false
set_option maxRecDepth 100000
set_option maxHeartbeats 4000000
/-! What the module holds; callees; heaps; data. -/
namespace L2.K14
open PySem PySem.Spec PyProof.Rows
/-- a constant of the module -/
def GC (mg : Str → Option Value) (x : Str) (v : V) : Prop := ∃ u, mg x = some u ∧ RelV v u

/-- what the module holds behind its top -/
structure Txt (K : PySem.W.Frag) (mg : Str → Option Value) : Prop where
  c_MOST_CELLS : GC mg "MOST_CELLS" (.int 1024)
  c_FLAGS : GC mg "FLAGS" (.int 8)
  c_GREATEST_CELL : GC mg "GREATEST_CELL" (.int 1023)
  c_GREATEST_BYTE : GC mg "GREATEST_BYTE" (.int 255)
  c_MOST_AREA : GC mg "MOST_AREA" (.int 256)
  c_END : GC mg "END" (.str "end")
  c_MOST_STEPS : GC mg "MOST_STEPS" (.int 64)
  c_MOST_DEEDS : GC mg "MOST_DEEDS" (.int 24)
  c_MOST_NOTED : GC mg "MOST_NOTED" (.int 99)
  c_COPY_steps : GC mg "COPY_steps" (.str "copy")
  c_FILL_steps : GC mg "FILL_steps" (.str "fill")
  c_ADD_steps : GC mg "ADD_steps" (.str "add")
  c_NOTE_steps : GC mg "NOTE_steps" (.str "note")
  c_WAIT_steps : GC mg "WAIT_steps" (.str "wait")
  c_FENCE : GC mg "FENCE" (.str "fence")
  c_POST_steps : GC mg "POST_steps" (.str "post")
  c_SIZE : GC mg "SIZE" (.str "size")
  c_SKIP : GC mg "SKIP" (.str "skip")
  c_FLAG : GC mg "FLAG" (.str "flag")
  c_COPY_plain : GC mg "COPY_plain" (.str "copy")
  c_FILL_plain : GC mg "FILL_plain" (.str "fill")
  c_ADD_plain : GC mg "ADD_plain" (.str "add")
  c_NOTE_plain : GC mg "NOTE_plain" (.str "note")
  c_WAIT_plain : GC mg "WAIT_plain" (.str "wait")
  c_POST_plain : GC mg "POST_plain" (.str "post")
  c_POKE : GC mg "POKE" (.str "poke")
  c_PEEK : GC mg "PEEK" (.str "peek")
  c_SEE : GC mg "SEE" (.str "see")
  c_READ : GC mg "READ" (.str "r")
  c_WRITE : GC mg "WRITE" (.str "w")
  c_OVER : GC mg "OVER" (.str "over")
  c_STUCK : GC mg "STUCK" (.str "stuck")
  c_BYTES : GC mg "BYTES" (.int 256)
  c_MOST_ROWS : GC mg "MOST_ROWS" (.int 100000)
  b_isinstance : mg "isinstance" = none
  b_int : mg "int" = none
  b_bool : mg "bool" = none
  b_tuple : mg "tuple" = none
  b_len : mg "len" = none
  b_all : mg "all" = none
  b_enumerate : mg "enumerate" = none
  b_str : mg "str" = none
  b_dict : mg "dict" = none
  b_any : mg "any" = none
  b_range : mg "range" = none
  b_list : mg "list" = none
  b_zip : mg "zip" = none
  b_sum : mg "sum" = none
  b_max : mg "max" = none
  b_min : mg "min" = none
  b_repr : mg "repr" = none

/-! ### callees -/
/-- a def of the module that is called by its name -/
def Cal (P : Program) (w : World) (K : PySem.W.Frag) (mg : Str → Option Value) (base : Heap) (k : Nat) (x : Str) (ps : List Str) (sp : Sp) : Prop :=
  ∃ f fd, FnOk P w K mg base CX0 k f fd ps sp ∧ mg x = some (.ref f) ∧ PySem.W.keepIn K (.ref f) = true ∧ Binds K fd ps []
/-- a method -/
def Met (P : Program) (w : World) (K : PySem.W.Frag) (mg : Str → Option Value) (base : Heap) (C : Addr) (k : Nat) (m : Str) (ps : List Str) (sp : Sp) : Prop :=
  ∃ f fd, FnOk P w K mg base CX0 k f fd ps sp ∧ Meth K C m f ∧ Binds K fd ps []
section
variable {X : Cx} {e : Expr} {es : List Expr} {t : TA}
theorem pk {x : Str} {v : V} {pos : Pos} (h : GC X.mg x v) (hg : Gl X x := by rfl) (hd : (x == ("__debug__" : Str)) = false := by decide) : PE X (.Name x pos) (tC v) := by
  obtain ⟨u, e, r⟩ := h
  exact pe_glob hg e r hd
theorem pc {k n : Nat} {x : Str} {ps : List Str} {sp : Sp} {p pos : Pos} (D : Cal X.prog X.w X.K X.mg X.base k x ps sp) (hr : Room n X.A) (ha : PA X (e :: es) t) (hk : k ≤ n := by decide) (hg : Gl X x := by rfl) (hdb : (x == ("__debug__" : Str)) = false := by decide)
    (he : starEach (e :: es) X.env = (false, eval e X.env) :: starEach es X.env := by rfl) (hpl : (backTo pos (starEach es X.env)).any (·.1) = false := by rfl) : PE X (.Call (.Name x p) (e :: es) [] pos) (tCall sp [] E0 t) := by
  obtain ⟨f, fd, F, m, kp, b⟩ := D
  exact pe_call F (hr.mono hk) hg m kp b .nil pass0 ha hdb he hpl
end

/-! ### heaps -/
/-- all that was tracked is as it was, but what stands at M; the tuples are as they were -/
structure Kp (M : List Addr) (H H' : Hp) : Prop where
  keep : ∀ b o, H b = some o → b ∉ M → H' b = some o
  tups : ∀ b xs, H b = some (.tup xs) → H' b = some (.tup xs)
theorem Kp.refl {M : List Addr} (H : Hp) : Kp M H H := ⟨fun _ _ h _ => h, fun _ _ h => h⟩
theorem Kp.trans {M : List Addr} {H H1 H2 : Hp} (a : Kp M H H1) (b : Kp M H1 H2) : Kp M H H2 := ⟨fun c o h hm => b.keep c o (a.keep c o h hm) hm, fun c xs h => b.tups c xs (a.tups c xs h)⟩
theorem Kp.more {M M' : List Addr} {H H' : Hp} (a : Kp M H H') (h : ∀ b ∈ M, b ∈ M') : Kp M' H H' := ⟨fun c o e hm => a.keep c o e fun z => hm (h c z), a.tups⟩
theorem Kp.new {M : List Addr} {H : Hp} {p : Addr} {o : HO} (h : H p = none) : Kp M H (upd H p o) := ⟨fun c u e _ => by rw [upd_ne (ne_of_none e h)]; exact e, fun c xs e => by rw [upd_ne (ne_of_none e h)]; exact e⟩
/-- what H does not know may change -/
theorem Kp.drop {M : List Addr} {H H' : Hp} {p : Addr} (a : Kp (p :: M) H H') (h : H p = none) : Kp M H H' := ⟨fun c o e hm => a.keep c o e fun z => by
  rcases List.mem_cons.mp z with z | z
  · rw [z, h] at e; cases e
  · exact hm z, a.tups⟩
theorem Kp.same {H H' : Hp} (a : Kp [] H H') : Same H H' := fun b o e => a.keep b o e (by simp)
theorem Kp.of {M : List Addr} {H H' : Hp} (a : Same H H') : Kp M H H' := ⟨fun c o e _ => a c o e, fun c xs e => a c _ e⟩
theorem Kp.free {H H' : Hp} (a : Kp [] H H') {p : Addr} (h : H' p = none) : H p = none := a.same.free h
/-- an object that is no tuple is written -/
theorem Kp.put {M : List Addr} {H : Hp} {p : Addr} {o u : HO} (h : H p = some o) (hn : ∀ xs, o ≠ .tup xs) (hm : p ∈ M) : Kp M H (upd H p u) := by
  refine ⟨fun c v e z => ?_, fun c xs e => ?_⟩
  · rw [upd_ne (fun q => z (by rw [q]; exact hm))]
    exact e
  · rw [upd_ne (fun q => by rw [q, h] at e; exact hn xs (Option.some.inj e))]
    exact e

/-! ### data made of tuples -/
inductive TD (H : Hp) : V → PyData → Prop
  | non : TD H .non .none
  | bl (b : Bool) : TD H (.bl b) (.bool b)
  | int (i : Int) : TD H (.int i) (.int i)
  | str (x : Str) : TD H (.str x) (.str x)
  | tup {a : Addr} {xs : List V} {ds : List PyData} : H a = some (.tup xs) → xs.length = ds.length → (∀ (i : Nat) x d, xs[i]? = some x → ds[i]? = some d → TD H x d) → TD H (.ref a) (.tuple ds)
def TDs (H : Hp) (xs : List V) (ds : List PyData) : Prop := xs.length = ds.length ∧ ∀ (i : Nat) x d, xs[i]? = some x → ds[i]? = some d → TD H x d
theorem TD.mono {H H' : Hp} (k : ∀ b xs, H b = some (.tup xs) → H' b = some (.tup xs)) {v : V} {d : PyData} (h : TD H v d) : TD H' v d := by
  induction h with
  | non => exact .non
  | bl b => exact .bl b
  | int i => exact .int i
  | str x => exact .str x
  | tup h1 h2 _ ih => exact .tup (k _ _ h1) h2 ih
theorem TD.kp {M : List Addr} {H H' : Hp} (k : Kp M H H') {v : V} {d : PyData} (h : TD H v d) : TD H' v d := h.mono k.tups
theorem TDs.kp {M : List Addr} {H H' : Hp} (k : Kp M H H') {vs : List V} {ds : List PyData} (h : TDs H vs ds) : TDs H' vs ds := ⟨h.1, fun i x d e1 e2 => (h.2 i x d e1 e2).kp k⟩
theorem TDs.nil {H : Hp} : TDs H [] [] := ⟨rfl, fun i x d h => by simp at h⟩
theorem TDs.cons {H : Hp} {v : V} {d : PyData} {vs : List V} {ds : List PyData} (h : TD H v d) (r : TDs H vs ds) : TDs H (v :: vs) (d :: ds) := ⟨by simp [r.1], fun i x e h1 h2 => by
  cases i with
  | zero => simp at h1 h2; subst h1; subst h2; exact h
  | succ i => exact r.2 i x e (by simpa using h1) (by simpa using h2)⟩
theorem TDs.append {H : Hp} {vs us : List V} {ds es : List PyData} (h : TDs H vs ds) (r : TDs H us es) : TDs H (vs ++ us) (ds ++ es) := by
  refine ⟨by simp [h.1, r.1], fun i x e h1 h2 => ?_⟩
  by_cases hi : i < vs.length
  · rw [List.getElem?_append_left hi] at h1
    rw [List.getElem?_append_left (by rw [← h.1]; exact hi)] at h2
    exact h.2 i x e h1 h2
  · rw [List.getElem?_append_right (by omega)] at h1
    rw [List.getElem?_append_right (by rw [← h.1]; omega), ← h.1] at h2
    exact r.2 _ x e h1 h2
theorem TDs.tup {H : Hp} {a : Addr} {xs : List V} {ds : List PyData} (h : H a = some (.tup xs)) (r : TDs H xs ds) : TD H (.ref a) (.tuple ds) := .tup h r.1 r.2
theorem TD.inv {H : Hp} {v : V} {ds : List PyData} (h : TD H v (.tuple ds)) : ∃ a xs, v = .ref a ∧ H a = some (.tup xs) ∧ TDs H xs ds := by
  cases h with
  | tup h1 h2 h3 => exact ⟨_, _, rfl, h1, h2, h3⟩
theorem TDs.at {H : Hp} {vs : List V} {ds : List PyData} (h : TDs H vs ds) {i : Nat} {d : PyData} (e : ds[i]? = some d) : ∃ v, vs[i]? = some v ∧ TD H v d := by
  have hi : i < vs.length := by rw [h.1]; exact (List.getElem?_eq_some_iff.mp e).1
  exact ⟨vs[i], List.getElem?_eq_getElem hi, h.2 i _ d (List.getElem?_eq_getElem hi) e⟩
theorem TDs.at' {H : Hp} {vs : List V} {ds : List PyData} (h : TDs H vs ds) {i : Nat} {v : V} (e : vs[i]? = some v) : ∃ d, ds[i]? = some d ∧ TD H v d := by
  have hi : i < ds.length := by rw [← h.1]; exact (List.getElem?_eq_some_iff.mp e).1
  exact ⟨ds[i], List.getElem?_eq_getElem hi, h.2 i _ _ e (List.getElem?_eq_getElem hi)⟩
theorem TDs.ints {H : Hp} (ns : List Int) : TDs H (ns.map V.int) (ns.map PyData.int) := ⟨by simp, fun i x d h1 h2 => by
  rw [List.getElem?_map] at h1 h2
  cases q : ns[i]? with
  | none => rw [q] at h1; cases h1
  | some n => rw [q] at h1 h2; cases h1; cases h2; exact .int n⟩
mutual
theorem TD.dp {K : PySem.W.Frag} {H : Hp} : ∀ (d : PyData) (v : V), TD H v d → Dp K H v d
  | .none, _, h => by cases h; exact .non
  | .bool b, _, h => by cases h; exact .bl b
  | .int i, _, h => by cases h; exact .int i
  | .str x, _, h => by cases h; exact .str x
  | .tuple ds, _, h => by
    obtain ⟨a, xs, rfl, h1, h2⟩ := h.inv
    exact .tup (SqT.of h1) (TDs.dp ds xs h2)
  | .list _, _, h => by cases h
  | .dict _, _, h => by cases h
theorem TDs.dp {K : PySem.W.Frag} {H : Hp} : ∀ (ds : List PyData) (vs : List V), TDs H vs ds → DpAll K H vs ds
  | [], vs, h => by
    have : vs = [] := List.eq_nil_of_length_eq_zero h.1
    subst this
    exact .nil
  | d :: ds, vs, h => by
    cases vs with
    | nil => exact absurd h.1 (by simp)
    | cons v vs => exact .cons (TD.dp d v (h.2 0 v d rfl rfl)) (TDs.dp ds vs ⟨by simpa using h.1, fun i x e h1 h2 => h.2 (i + 1) x e (by simpa using h1) (by simpa using h2)⟩)
end
end L2.K14
set_option Elab.async false
set_option linter.all false
set_option maxRecDepth 100000
set_option maxHeartbeats 4000000
/-! Rules of the hand layer that this claim wants: enumerate over a tuple, over a text. -/
namespace L2.K14
open PySem PySem.Spec PyProof.Rows
theorem new_enum1 {v : Value} {o : Obj} {G : Heap → Prop} (B : Begins v o G) :
    Meets (Builtin.«enumerate.__new__» ⟨[.type "enumerate", v], []⟩) (fun _ R s => G s.heap ∧
      R (.ok (.ret (.ref (s.heap.push o).objs.size))) { s with heap := (s.heap.push o).push { cls := .type "enumerate", data := .fields #[.none, .bool false, .ref s.heap.objs.size, rawInt 0, .none, .none] } }) :=
  .of_wp fun prog w A R s h => by
    obtain ⟨hp, g, d, tk, os⟩ := s
    obtain ⟨h1, h⟩ := h
    have hsub := sub_enumerate
    have it0 : ∀ {A' : Around} {E : Value → Shared → Prop} {Q : Value → Shared → Prop}, Q (.ref hp.objs.size) ⟨hp.push o, g, d, tk, os⟩ → wpAny (model prog w) A' (pyIter v) Q E ⟨hp, g, d, tk, os⟩ :=
      fun q => B.iter prog w _ _ _ _ h1 q
    wp_walk using it0
    refine wpAny_stack_any fun st => wpAny_pure ?_
    split
    · rename_i c _ _ _ _ _
      by_cases hc : (c == Value.type "enumerate") = true
      all_goals simp only [hc]
      all_goals wp_walk using it0
      all_goals exact ⟨_, rfl, h⟩
    · wp_walk using it0
      exact ⟨_, rfl, h⟩
section
variable {prog : Program} {w : World} {A : Around} {E : Value → Shared → Prop} {s : Shared}
theorem enum1_begins {v : Value} {o : Obj} {G : Heap → Prop} {Q : Value → Shared → Prop} (B : Begins v o G) (h1 : G s.heap)
    (h : ∀ h', IsEnum h' (s.heap.objs.size + 1) s.heap.objs.size 0 .none → h'.get? s.heap.objs.size = some o → h'.objs.size = s.heap.objs.size + 2 →
      (∀ b u, s.heap.get? b = some u → h'.get? b = some u) → Q (.ref (s.heap.objs.size + 1)) { s with heap := h' }) :
    wpAny (model prog w) A (call (.type "enumerate") [v]) Q E s := by
  refine callType_new F.called_enumerate (by decide) (F.typeCall_enumerate_1 _) (F.newCall_enumerate_1 _) (fun obj => F.args_object_init_2 obj _) F.entry_enumerate_new (new_enum1 B) ⟨h1, ?_⟩
  have e1 : (s.heap.push o).objs.size = s.heap.objs.size + 1 := Heap.size_push ..
  have e2 : IsEnum ((s.heap.push o).push { cls := .type "enumerate", data := .fields #[.none, .bool false, .ref s.heap.objs.size, rawInt 0, .none, .none] }) (s.heap.objs.size + 1) s.heap.objs.size 0 .none := by
    rw [← e1]
    exact Heap.get?_push_size _ rfl
  show _ ∧ _
  rw [e1]
  exact ⟨⟨_, e2, rfl⟩, h _ e2 (Heap.get?_push_of_some _ (Heap.get?_push_size _ B.free)) (by rw [Heap.size_push, e1]) fun b u z => Heap.get?_push_of_some _ (Heap.get?_push_of_some _ z)⟩
end
/-- a walk of new pairs (i, x i), i below n, while G holds of the heap -/
def Itg (n : Nat) (x : Nat → Option V) (G : Hp → Prop) : It :=
  ⟨fun i H => i < n ∧ G H, fun i H v H' => ∃ T y, v = .ref T ∧ H T = none ∧ H' = upd H T (.tup [.int (i : Nat), y]) ∧ x i = some y, fun i H => i = n ∧ G H⟩
theorem walk_itg {n : Nat} {x : Nat → Option V} {G : Hp → Prop} : Walk (Itg n x G) n G (YPair (fun i => some (.int (i : Nat))) x) :=
  ⟨fun i H h g => ⟨h, g⟩, fun H g => ⟨rfl, g⟩, fun i H v H' _ _ y => by
    obtain ⟨T, y, e, n, e2, e3⟩ := y
    exact ⟨T, _, y, e, n, e2, rfl, e3⟩⟩
/-- an enumerate over what draws the items x i -/
theorem turn_enumG {P : Program} {w : World} {K : PySem.W.Frag} {elts : List Expr} {kk : Nat} {tpos : Pos} {e it : Addr} {fp : List Addr} {n : Nat} {S : Nat → Heap → Prop} {x : Nat → Option V} {G : Hp → Prop}
    (D : ∀ (X : Cx) (pins : List (Addr × Obj)) (σ : L2.St) (H : Hp) (s : Shared), X.K = K → Inv X pins σ H s → G H → ∀ A : Around, A.handled = none →
      ∃ (Pi : Nat → Value → Prop) (Src : Heap → Prop), Draws P w A it fp n Pi (fun i h => S i h ∧ Src h) ∧ Src s.heap ∧ ∀ i v, i < n → Pi i v → ∃ y, x i = some y ∧ RelV y v) (hei : e ≠ it) (hef : e ∉ fp)
    (hS : ∀ i h, S i h → ∃ o, h.get? it = some o ∧ ∀ v, o.data ≠ .cell v) (hst : ∀ i h h', S i h → (∀ o, h.get? it = some o → h'.get? it = some o) → S i h') :
    Turn P w K (.Tuple elts kk tpos) (Itg n x G) [e, it] e (fun i h => (∃ old, IsEnum h e it ((i : Nat) : Int) old) ∧ S i h) where
  mem := by simp
  obj := fun i h st b hb => by
    obtain ⟨⟨old, he⟩, hs⟩ := st
    have e' : b = e ∨ b = it := by simpa using hb
    rcases e' with z | z
    · rw [z]; exact ⟨_, he, fun v q => nomatch q⟩
    · rw [z]; exact hS i h hs
  keep := fun i h h' st k => ⟨st.1.elim fun old he => ⟨old, k e (by simp) _ he⟩, hst i h h' st.2 fun o q => k it (by simp) o q⟩
  item := by
    intro X hP' hw hK hc i pins s σ H E I hf st hg
    subst hP' hw hK
    obtain ⟨⟨old, he⟩, hs⟩ := st
    obtain ⟨hg, hG⟩ := hg
    obtain ⟨Pi, Src, Dr, hsrc, hP⟩ := D X pins σ H s rfl I hG X.A.in1 (I.ok.hd hc)
    have hel : e < s.heap.objs.size := Heap.lt_size he
    have hil : it < s.heap.objs.size := by obtain ⟨_, q, _⟩ := hS i _ hs; exact Heap.lt_size q
    refine wpAny_pyNext_enum_itemC Dr he ⟨hs, hsrc⟩ hg hei hef fun u h' tk hu ho hs' hT hsz hk => ?_
    obtain ⟨y, hy, ru⟩ := hP i u hg hu
    refine ⟨_, rfl, wpAny_letOwnedTupleGo_enum (s := { s with heap := h', toks := tk + 1 }) ho fun h'' he' sb => ?_⟩
    have hT2 : h''.get? s.heap.objs.size = some { cls := .type "tuple", data := .seq #[.int i tk, u] } := (sb.2 _ (Nat.ne_of_gt hel)).trans hT
    have new : ObjOk X.prog X.w (upd H s.heap.objs.size (.tup [.int (i : Nat), y])) h'' s.heap.objs.size (.tup [.int (i : Nat), y]) :=
      ⟨by show 2 ≤ sizeLine; decide, [.int i tk, u], .cons ⟨_, rfl⟩ (.cons ru .nil), ⟨_, hT2, rfl, _, rfl⟩⟩
    have I1 : Inv X pins σ (upd H s.heap.objs.size (.tup [.int (i : Nat), y])) { s with heap := h'', toks := tk + 1 } :=
      I.turnedNew (ch := [e, it]) (fun b ob hb q => (sb.2 b (fun z => hb (by simp [z]))).trans (hk b ob (fun z => hb (by simp [z])) (fun z => hb (by simp [z])) q)) hf (Nat.le_refl _) new
    refine ⟨.ref s.heap.objs.size, _, I1, rfl, ⟨_, y, rfl, I.hok.fresh (Nat.le_refl _), rfl, hy⟩, ⟨⟨u, ?_⟩, hst _ _ _ hs'.1 fun o q => (sb.2 it (Ne.symm hei)).trans q⟩, fun b hb => ?_⟩
    · have e1 : ((i + 1 : Nat) : Int) = (i : Int) + 1 := by omega
      rw [e1]; exact he'
    · have hb' : b < s.heap.objs.size := by
        have e' : b = e ∨ b = it := by simpa using hb
        rcases e' with z | z
        · rw [z]; exact hel
        · rw [z]; exact hil
      rw [upd_ne (Nat.ne_of_lt hb')]
      exact (hf b hb).1
  done := by
    intro X hP' hw hK hc i pins s σ H E I hf st hg
    subst hP' hw hK
    obtain ⟨hg', hG⟩ := hg
    subst hg'
    obtain ⟨⟨old, he⟩, hs⟩ := st
    obtain ⟨Pi, Src, Dr, hsrc, hP⟩ := D X pins σ H s rfl I hG X.A.in1 (I.ok.hd hc)
    obtain ⟨f0, f1, f2, f3, f4, f5⟩ := hf it (by simp)
    exact wpAny_pyNext_enum_endD Dr he ⟨hs, hsrc⟩ fun h' eb => ⟨rfl, I.turned (t' := s.toks) (fun b o hb q => eb b o hb q) f0 f1 f3 f4 f5⟩
  self := fun A i s Q E st h => let ⟨⟨_, he⟩, _⟩ := st; wpAny_pyIter_enum he h
/-- enumerate(t), t a tuple -/
def iEnumT (K : PySem.W.Frag) (ta : TA) : TI := fun σ H R => ta σ H fun vs H1 => ∃ a xs, vs = [.ref a] ∧ SqT K H1 a xs ∧ R (Itg xs.length (fun i => xs[i]?) (fun H => SqT K H a xs)) H1
theorem pi_enumT {X : Cx} {e : Expr} {ta : TA} {p pos tpos : Pos} {elts : List Expr} {kk : Nat} (hg : Gl X "enumerate") (hm : X.mg "enumerate" = none) (ha : PA X [e] ta) (hs : starEach [e] X.env = [(false, eval e X.env)] := by rfl) :
    PI X (.Tuple elts kk tpos) (.Call (.Name "enumerate" p) [e] [] pos) (iEnumT X.K ta) := by
  refine ⟨fun pins s σ H R I h => ?_⟩
  refine Call_ (ld_blt I hg hm boot_enumerate (PyProof.Rows.callWith_type1 (thn (ha.run pos pins s σ H _ I h) fun us s1 ⟨vs, H1, I1, r1, q1⟩ => ?_) hs rfl))
  obtain ⟨a, xs, ex, hq, q⟩ := q1
  subst ex
  obtain ⟨u, rfl, r⟩ := vals1 r1
  cases r
  obtain ⟨its, rv, ht, hz⟩ := I1.tuple hq
  obtain ⟨ot, hot, hct, nt, hdt⟩ := id ht
  have hT : ∀ {h : Heap}, h.get? a = some ot → h.IsTuple a its.toArray := fun e => ⟨ot, e, hct, nt, hdt⟩
  have hlt : a < s1.heap.objs.size := Heap.lt_size hot
  refine enum1_begins (begins_tuple a its.toArray) (hT hot) fun h' he hit hsz hk => wpAny_pyIter_enum he ?_
  have I2 : Inv X pins σ H1 { s1 with heap := h' } := I1.kept (t' := s1.toks) hk
  have hne : a ≠ s1.heap.objs.size := Nat.ne_of_lt hlt
  refine ⟨s1.heap.objs.size + 1, [s1.heap.objs.size + 1, s1.heap.objs.size], _, _, H1, rfl, I2,
    turn_enumG (S := fun i h => h.IsTupleIter s1.heap.objs.size a i) (fp := [s1.heap.objs.size, a]) (fun X' pins' σ' H' s' hK' I' hG A hA => ?_) (Nat.succ_ne_self _) (fun hm => ?_) (fun i h st => ?_) (fun i h h' st k => st.at k),
    ⟨⟨.none, he⟩, ⟨_, hit, rfl, rfl⟩⟩, fun b hb => ?_, q⟩
  · rw [← hK'] at hG
    obtain ⟨its', rv', ht', _⟩ := I'.tuple hG
    have el : its'.length = xs.length := rv'.length.symm
    obtain ⟨o2, ho2, hc2, n2, hd2⟩ := ht'
    refine ⟨fun i v => its'.toArray[i]? = some v, fun h => h.IsTuple a its'.toArray, ?_, ⟨o2, ho2, hc2, n2, hd2⟩, fun i v hi hv => ?_⟩
    · have D := Draws.tuple (prog := X.prog) (w := X.w) hA s1.heap.objs.size a hne its'.toArray
      have e1 : its'.toArray.size = xs.length := by simp [el]
      rw [e1] at D
      exact D
    · have hv' : its'[i]? = some v := by simpa using hv
      have hx : i < xs.length := hi
      obtain ⟨u, hu, ru⟩ := rv'.get (List.getElem?_eq_getElem hx)
      rw [hv'] at hu
      cases hu
      exact ⟨_, List.getElem?_eq_getElem hx, ru⟩
  · rcases List.mem_cons.mp hm with z | z
    · exact Nat.succ_ne_self _ z
    · have z' := List.mem_singleton.mp z
      rw [← z'] at hlt
      exact absurd hlt (Nat.not_lt.mpr (Nat.le_succ _))
  · obtain ⟨o, ho, hc, hd⟩ := st
    exact ⟨o, ho, fun v z => by rw [hd] at z; cases z⟩
  · have e' : b = s1.heap.objs.size + 1 ∨ b = s1.heap.objs.size := by simpa using hb
    have hle : s1.heap.objs.size ≤ b := by
      rcases e' with z | z
      · rw [z]; exact Nat.le_add_right _ _
      · rw [z]; exact Nat.le_refl _
    exact I1.fpOk hle (I1.hok.fresh hle)
/-- enumerate(z), z a text -/
def iEnumS (ta : TA) : TI := fun σ H R => ta σ H fun vs H1 => ∃ z : Str, vs = [.str z] ∧ R (Itg z.cps.size (fun i => z.cps[i]?.map fun c => .str ⟨#[c]⟩) (fun _ => True)) H1
theorem pi_enumS {X : Cx} {e : Expr} {ta : TA} {p pos tpos : Pos} {elts : List Expr} {kk : Nat} (hg : Gl X "enumerate") (hm : X.mg "enumerate" = none) (ha : PA X [e] ta) (hs : starEach [e] X.env = [(false, eval e X.env)] := by rfl) :
    PI X (.Tuple elts kk tpos) (.Call (.Name "enumerate" p) [e] [] pos) (iEnumS ta) := by
  refine ⟨fun pins s σ H R I h => ?_⟩
  refine Call_ (ld_blt I hg hm boot_enumerate (PyProof.Rows.callWith_type1 (thn (ha.run pos pins s σ H _ I h) fun us s1 ⟨vs, H1, I1, r1, q1⟩ => ?_) hs rfl))
  obtain ⟨z, ex, q⟩ := q1
  subst ex
  obtain ⟨u, rfl, t, rfl⟩ := vals1 r1
  refine enum1_begins (begins_text z t) trivial fun h' he hit hsz hk => wpAny_pyIter_enum he ?_
  have I2 : Inv X pins σ H1 { s1 with heap := h' } := I1.kept (t' := s1.toks) hk
  refine ⟨s1.heap.objs.size + 1, [s1.heap.objs.size + 1, s1.heap.objs.size], _, _, H1, rfl, I2,
    turn_enumG (S := fun i h => h.IsStrIter s1.heap.objs.size (strIterType z) z t i) (fp := [s1.heap.objs.size]) (fun X' pins' σ' H' s' hK' I' hG A hA => ?_) (Nat.succ_ne_self _) (by simp) (fun i h st => ?_) (fun i h h' st k => ?_),
    ⟨⟨.none, he⟩, ⟨_, hit, rfl, rfl⟩⟩, fun b hb => ?_, q⟩
  · refine ⟨fun i v => ∃ (c : Nat) (u : Tok), z.cps[i]? = some c ∧ v = .str ⟨#[c]⟩ u, fun _ => True, ?_, trivial, fun i v hi hv => ?_⟩
    · have D := Draws.text (prog := X.prog) (w := X.w) hA s1.heap.objs.size z t
      exact ⟨fun i h st => D.live i h st.1, fun i h h' st k => ⟨D.frame i h h' st.1 k, trivial⟩, fun i s Q E hi st hQ => D.item i s Q E hi st.1 fun x h' tk a b c => hQ x h' tk a ⟨b, trivial⟩ c, fun s Q E st hE => D.done s Q E st.1 hE⟩
    · obtain ⟨c, u, e1, rfl⟩ := hv
      exact ⟨.str ⟨#[c]⟩, by rw [e1]; rfl, u, rfl⟩
  · obtain ⟨o, ho, hc, hd⟩ := st
    exact ⟨o, ho, fun v z => by rw [hd] at z; cases z⟩
  · obtain ⟨o, ho, hc, hd⟩ := st
    exact ⟨o, k o ho, hc, hd⟩
  · have e' : b = s1.heap.objs.size + 1 ∨ b = s1.heap.objs.size := by simpa using hb
    have hle : s1.heap.objs.size ≤ b := by
      rcases e' with z | z
      · rw [z]; exact Nat.le_add_right _ _
      · rw [z]; exact Nat.le_refl _
    exact I1.fpOk hle (I1.hok.fresh hle)
end L2.K14
set_option Elab.async false
set_option linter.all false
set_option maxRecDepth 100000
set_option maxHeartbeats 4000000
/-! loops and comprehensions over any walk -/
namespace L2.K14
open PySem PySem.Spec PyProof.Rows
section
variable {J : It} {n : Nat} {G : Hp → Prop} {Y : Nat → Hp → V → Hp → Prop}
/-- the loop of a comprehension (outer, inner): Pv by the turn and the heap -/
theorem walk_it (wk : Walk J n G Y) {body : (Hp → Prop) → V → Hp → Prop} {Hs : Hp} {Qd : Hp → Prop} (Pv : Nat → Hp → Prop) (h0 : Pv 0 Hs) (hG : ∀ i H, i ≤ n → Pv i H → G H)
    (hs : ∀ i x H H', i < n → Pv i H → Y i H x H' → body (Pv (i + 1)) x H') (hd : ∀ H, Pv n H → Qd H) :
    ∃ W : Nat → Nat → Hp → Prop, (∃ m, W 0 m Hs) ∧ ∀ i m H, W i m H → (J.stop i H ∧ Qd H) ∨ (J.go i H ∧ ∃ Nx : Hp → Prop, (∀ H', Nx H' → ∃ m', m' < m ∧ W (i + 1) m' H') ∧ ∀ x H', J.yld i H x H' → body Nx x H') := by
  refine ⟨fun i m H => m = n - i ∧ i ≤ n ∧ Pv i H, ⟨n, by simp, Nat.zero_le _, h0⟩, fun i m H hw => ?_⟩
  obtain ⟨e, hi, p⟩ := hw
  have q := hG i H hi p
  by_cases hlt : i < n
  · exact .inr ⟨wk.goes i H hlt q, Pv (i + 1), fun H' p' => ⟨n - (i + 1), by omega, rfl, hlt, p'⟩, fun x H' y => hs i x H H' hlt p (wk.yields i H x H' hlt q y)⟩
  · have e2 : i = n := by omega
    subst e2
    exact .inl ⟨wk.stops H q, hd H p⟩
/-- what hangs on the tuples alone -/
def Stb (R : Hp → Prop) : Prop := ∀ H H' : Hp, (∀ b xs, H b = some (.tup xs) → H' b = some (.tup xs)) → R H → R H'
theorem Kp.upd_new {H1 H : Hp} {D : Addr} {acc acc' : List V} (k : Kp [] H1 H) (h : H1 D = none) (hD : H D = some (.lst acc)) : Kp [] H1 (upd H D (.lst acc')) := by
  refine Kp.drop (p := D) ?_ h
  exact (k.more (by simp)).trans (Kp.put hD (fun xs z => by cases z) (by simp))
/-- a comprehension whose items are made of tuples: R by the turn, the list so far, the heap -/
theorem lc_pure (wk : Walk J n G Y) {g : TG} {tt : TT} {te : TE} {vs : List Nat} {σ : L2.St} {H1 : Hp} {D : Addr} {Qd : Hp → Prop} (R : Nat → List V → Hp → Prop) (hD : H1 D = none) (hR : ∀ i acc, Stb (R i acc)) (r0 : R 0 [] H1)
    (hG : ∀ H, Kp [] H1 H → G H) (hY : ∀ i H x H', Y i H x H' → Kp [] H H') (hl : ∀ i acc H, i < n → R i acc H → acc.length ≤ 100000)
    (hs : ∀ i x H H' acc, i < n → Kp [] H1 H → R i acc H → Y i H x H' → ∀ (N : V → Hp → Prop) (S : Hp → Prop), (∀ y H4, Kp [] H' H4 → R (i + 1) (acc ++ [y]) H4 → N y H4) → (∀ H3, Kp [] H' H3 → R (i + 1) acc H3 → S H3) →
      g x (wipe σ vs) H' fun σ2 H2 => wipe σ2 vs = wipe σ vs ∧ tt σ2 H2 fun b H3 => if b = true then te σ2 H3 N else S H3)
    (hd : ∀ H acc, Kp [] H1 H → H D = some (.lst acc) → R n acc H → Qd H) :
    ∃ W : Nat → Nat → Hp → Prop, (∃ m, W 0 m (upd H1 D (.lst []))) ∧ ∀ i m H, W i m H →
      (J.stop i H ∧ Qd H) ∨ (J.go i H ∧ ∃ Nx : Hp → Prop, (∀ H', Nx H' → ∃ m', m' < m ∧ W (i + 1) m' H') ∧ ∀ x H', J.yld i H x H' → g x (wipe σ vs) H' fun σ2 H2 => wipe σ2 vs = wipe σ vs ∧ tt σ2 H2 fun b H3 =>
        if b = true then te σ2 H3 fun y H4 => ∃ acc, H4 D = some (.lst acc) ∧ acc.length < sizeLine ∧ Nx (upd H4 D (.lst (acc ++ [y]))) else Nx H3) := by
  refine walk_it wk (fun i H => Kp [] H1 H ∧ ∃ acc, H D = some (.lst acc) ∧ R i acc H) ⟨Kp.new hD, [], upd_same, hR _ _ _ _ (fun b xs e => by rw [upd_ne (ne_of_none e hD)]; exact e) r0⟩ (fun i H _ p => hG H p.1) (fun i x H H' hi p y => ?_) (fun H p => ?_)
  · obtain ⟨k, acc, e, r⟩ := p
    have kY := hY i H x H' y
    have ltup : ∀ H4 : Hp, H4 D = some (.lst acc) → ∀ (u : HO), ∀ b xs, H4 b = some (.tup xs) → upd H4 D u b = some (.tup xs) := fun H4 e4 u b xs eb => by
      rw [upd_ne (fun z => by rw [z, e4] at eb; cases eb)]
      exact eb
    refine hs i x H H' acc hi k r y (fun y H4 => ∃ acc, H4 D = some (.lst acc) ∧ acc.length < sizeLine ∧ (Kp [] H1 (upd H4 D (.lst (acc ++ [y]))) ∧ ∃ acc', (upd H4 D (.lst (acc ++ [y]))) D = some (.lst acc') ∧ R (i + 1) acc' (upd H4 D (.lst (acc ++ [y])))))
      (fun H3 => Kp [] H1 H3 ∧ ∃ acc, H3 D = some (.lst acc) ∧ R (i + 1) acc H3) (fun y H4 k4 r4 => ?_) (fun H3 k3 r3 => ?_)
    · have e4 : H4 D = some (.lst acc) := (kY.trans k4).keep D _ e (by simp)
      refine ⟨acc, e4, Nat.lt_of_le_of_lt (hl i acc H hi r) (by decide), ((k.trans kY).trans k4).upd_new hD e4, _, upd_same, hR _ _ _ _ (ltup H4 e4 _) r4⟩
    · exact ⟨(k.trans kY).trans k3, acc, (kY.trans k3).keep D _ e (by simp), r3⟩
  · obtain ⟨k, acc, e, r⟩ := p
    exact hd H acc k e r
end
section
variable {K : PySem.W.Frag} {a : Addr} {xs ys : List V} {i : Nat} {x : V} {H H' H1 : Hp}
theorem YAt.kp : ∀ (i : Nat) (H : Hp) (x : V) (H' : Hp), YAt xs i H x H' → Kp [] H H' := fun i H x H' y => by rw [y.1]; exact Kp.refl H
theorem YFn.kp {f : Nat → V} : ∀ (i : Nat) (H : Hp) (x : V) (H' : Hp), YFn f i H x H' → Kp [] H H' := fun i H x H' y => by rw [y.1]; exact Kp.refl H
theorem YPair.kp {p q : Nat → Option V} : ∀ (i : Nat) (H : Hp) (x : V) (H' : Hp), YPair p q i H x H' → Kp [] H H' := fun i H x H' y => by
  obtain ⟨T, u, v, _, n, e, _⟩ := y
  rw [e]
  exact Kp.new n
theorem Kp.seqT (k : Kp [] H H') (h : SqT K H a xs) : SqT K H' a xs := by
  rcases h with (h | ⟨o, h⟩) | h
  · exact .inl (.inl (k.same _ _ h))
  · exact .inl (.inr ⟨o, k.same _ _ h⟩)
  · exact .inr h
theorem Kp.seqL (k : Kp [] H H') (h : SqL K H a xs) : SqL K H' a xs := k.same.seq h
theorem stb_tds (ds : List PyData) (vs : List V) : Stb fun H => TDs H vs ds := fun H H' k h => ⟨h.1, fun i x d e1 e2 => (h.2 i x d e1 e2).mono k⟩
theorem stb_pure (p : Prop) : Stb fun _ => p := fun _ _ _ h => h
end
end L2.K14
set_option Elab.async false
set_option linter.all false
set_option maxRecDepth 100000
set_option maxHeartbeats 4000000
/-! comprehensions of two clauses -/
namespace L2.K14
open PySem PySem.Spec PyProof.Rows
/-- what the inner loop of a comprehension has to show, told without the new list: from acc to any list that R tells of -/
structure Inn (H1 : Hp) (D : Addr) (g1 : TG) (tt1 : TT) (te : TE) (vs1 : List Nat) (R : List V → Hp → Prop) (acc : List V) (σ2 : L2.St) (J1 : It) (H4 : Hp) (n1 : Nat) (G1 : Hp → Prop) (Y1 : Nat → Hp → V → Hp → Prop) (R1 : Nat → List V → Hp → Prop) : Prop where
  wk : Walk J1 n1 G1 Y1
  st : ∀ j acc, Stb (R1 j acc)
  r0 : R1 0 acc H4
  g : ∀ H, Kp [] H1 H → Kp [D] H4 H → G1 H
  y : ∀ j H x H', Y1 j H x H' → Kp [] H H'
  l : ∀ j acc H, j < n1 → R1 j acc H → acc.length ≤ 100000
  s : ∀ j x H H' acc, j < n1 → Kp [] H1 H → Kp [D] H4 H → R1 j acc H → Y1 j H x H' → ∀ (N : V → Hp → Prop) (S : Hp → Prop), (∀ y H4, Kp [] H' H4 → R1 (j + 1) (acc ++ [y]) H4 → N y H4) → (∀ H3, Kp [] H' H3 → R1 (j + 1) acc H3 → S H3) →
      g1 x (wipe σ2 vs1) H' fun σ3 H2 => wipe σ3 vs1 = wipe σ2 vs1 ∧ tt1 σ3 H2 fun b H3 => if b = true then te σ3 H3 N else S H3
  d : ∀ acc H, Kp [] H1 H → R1 n1 acc H → R acc H
section
variable {J : It} {n : Nat} {G : Hp → Prop} {Y : Nat → Hp → V → Hp → Prop}
theorem lc2_pure (wk : Walk J n G Y) {g g1 : TG} {tt tt1 : TT} {wi1 : TI} {te : TE} {vs vs1 : List Nat} {σ : L2.St} {H1 : Hp} {D : Addr} {Qd : Hp → Prop} (R : Nat → List V → Hp → Prop) (hD : H1 D = none) (hR : ∀ i acc, Stb (R i acc)) (r0 : R 0 [] H1)
    (hG : ∀ H, Kp [] H1 H → G H) (hY : ∀ i H x H', Y i H x H' → Kp [] H H')
    (hs : ∀ i x H H' acc, i < n → Kp [] H1 H → H D = some (.lst acc) → R i acc H → Y i H x H' → ∀ (S : Hp → Prop) (B : L2.St → It → Hp → Prop), (∀ H3, Kp [] H' H3 → R (i + 1) acc H3 → S H3) →
      (∀ σ2 J1 H4 n1 G1 Y1 R1, Kp [] H' H4 → Inn H1 D g1 tt1 te vs1 (R (i + 1)) acc σ2 J1 H4 n1 G1 Y1 R1 → B σ2 J1 H4) →
      g x (wipe σ vs) H' fun σ2 H2 => wipe σ2 vs = wipe σ vs ∧ tt σ2 H2 fun b H3 => if b = true then wi1 σ2 H3 (B σ2) else S H3)
    (hd : ∀ H acc, Kp [] H1 H → H D = some (.lst acc) → R n acc H → Qd H) :
    ∃ W : Nat → Nat → Hp → Prop, (∃ m, W 0 m (upd H1 D (.lst []))) ∧ ∀ i m H, W i m H →
      (J.stop i H ∧ Qd H) ∨ (J.go i H ∧ ∃ Nx : Hp → Prop, (∀ H', Nx H' → ∃ m', m' < m ∧ W (i + 1) m' H') ∧ ∀ x H', J.yld i H x H' → g x (wipe σ vs) H' fun σ2 H2 => wipe σ2 vs = wipe σ vs ∧ tt σ2 H2 fun b H3 =>
        if b = true then wi1 σ2 H3 fun J1 H4 => ∃ W1 : Nat → Nat → Hp → Prop, (∃ m, W1 0 m H4) ∧ ∀ j k H, W1 j k H →
          (J1.stop j H ∧ Nx H) ∨ (J1.go j H ∧ ∃ Nx1 : Hp → Prop, (∀ H', Nx1 H' → ∃ k', k' < k ∧ W1 (j + 1) k' H') ∧ ∀ x H', J1.yld j H x H' → g1 x (wipe σ2 vs1) H' fun σ3 H5 => wipe σ3 vs1 = wipe σ2 vs1 ∧ tt1 σ3 H5 fun b H6 =>
            if b = true then te σ3 H6 fun y H7 => ∃ acc, H7 D = some (.lst acc) ∧ acc.length < sizeLine ∧ Nx1 (upd H7 D (.lst (acc ++ [y]))) else Nx1 H6)
        else Nx H3) := by
  have ltup : ∀ (H4 : Hp) (acc : List V), H4 D = some (.lst acc) → ∀ (u : HO), ∀ b xs, H4 b = some (.tup xs) → upd H4 D u b = some (.tup xs) := fun H4 acc e4 u b xs eb => by
    rw [upd_ne (fun z => by rw [z, e4] at eb; cases eb)]
    exact eb
  refine walk_it wk (fun i H => Kp [] H1 H ∧ ∃ acc, H D = some (.lst acc) ∧ R i acc H) ⟨Kp.new hD, [], upd_same, hR _ _ _ _ (fun b xs e => by rw [upd_ne (ne_of_none e hD)]; exact e) r0⟩ (fun i H _ p => hG H p.1) (fun i x H H' hi p y => ?_) (fun H p => ?_)
  · obtain ⟨k, acc, e, r⟩ := p
    have kY := hY i H x H' y
    refine hs i x H H' acc hi k e r y _ _ (fun H3 k3 r3 => ⟨(k.trans kY).trans k3, acc, (kY.trans k3).keep D _ e (by simp), r3⟩) (fun σ2 J1 H4 n1 G1 Y1 R1 k4 I => ?_)
    have k14 := (k.trans kY).trans k4
    have e4 : H4 D = some (.lst acc) := (kY.trans k4).keep D _ e (by simp)
    refine walk_it I.wk (fun j H => Kp [] H1 H ∧ Kp [D] H4 H ∧ ∃ acc, H D = some (.lst acc) ∧ R1 j acc H) ⟨k14, Kp.refl _, acc, e4, I.r0⟩ (fun j H _ p => I.g H p.1 p.2.1) (fun j x1 H5 H6 hj p y1 => ?_) (fun H5 p => ?_)
    · obtain ⟨k5, m5, acc5, e5, r5⟩ := p
      have k6 := I.y j H5 x1 H6 y1
      refine I.s j x1 H5 H6 acc5 hj k5 m5 r5 y1 _ _ (fun y H7 k7 r7 => ?_) (fun H7 k7 r7 => ?_)
      · have e7 : H7 D = some (.lst acc5) := (k6.trans k7).keep D _ e5 (by simp)
        exact ⟨acc5, e7, Nat.lt_of_le_of_lt (I.l j acc5 H5 hj r5) (by decide), ((k5.trans k6).trans k7).upd_new hD e7, (m5.trans ((k6.trans k7).more (by simp))).trans (Kp.put e7 (fun xs z => by cases z) (by simp)), _, upd_same, I.st _ _ _ _ (ltup H7 acc5 e7 _) r7⟩
      · exact ⟨(k5.trans k6).trans k7, m5.trans ((k6.trans k7).more (by simp)), acc5, (k6.trans k7).keep D _ e5 (by simp), r7⟩
    · obtain ⟨k5, m5, acc5, e5, r5⟩ := p
      exact ⟨k5, acc5, e5, I.d acc5 H5 k5 r5⟩
  · obtain ⟨k, acc, e, r⟩ := p
    exact hd H acc k e r
end
end L2.K14
set_option Elab.async false
set_option linter.all false
set_option maxRecDepth 100000
set_option maxHeartbeats 4000000
/-! The rules that lay new objects, told without the heap's own term. -/
namespace L2.K14
open PySem PySem.Spec PyProof.Rows
/-- for any new object o -/
def Nw (H : Hp) (o : HO) (Q : VK) : Prop := ∀ (p : Addr) (H' : Hp), Kp [] H H' → H p = none → H' p = some o → Q (.ref p) H'
theorem Nw.at {H : Hp} {o : HO} {Q : VK} (q : Nw H o Q) : ∀ p, H p = none → Q (.ref p) (upd H p o) := fun p n => q p _ (Kp.new n) n upd_same
section
variable {X : Cx} {e : Expr} {es : List Expr} {t : TA} {te te' : TE} {pos : Pos}
theorem PE.imp (h : PE X e te) (i : ∀ σ H Q, te' σ H Q → te σ H Q) : PE X e te' := ⟨fun pins s σ H Q I q => h.run pins s σ H Q I (i σ H Q q)⟩
def monoA (t : TA) : TA := fun σ H Q => ∃ Q0 : List V → Hp → Prop, t σ H Q0 ∧ ∀ xs H1, Q0 xs H1 → Q xs H1
theorem PA.mono (h : PA X es t) : PA X es (monoA t) := ⟨fun pos pins s σ H Q I q => by
  obtain ⟨Q0, q, i⟩ := q
  exact thn (h.run pos pins s σ H Q0 I q) fun us s' z => by
    obtain ⟨vs, H', I', r, q⟩ := z
    exact ⟨vs, H', I', r, i _ _ q⟩⟩
def tTupK (t : TA) : TE := fun σ H Q => t σ H fun xs H1 => xs.length ≤ sizeLine ∧ Nw H1 (.tup xs) Q
def tLstK (t : TA) : TE := fun σ H Q => t σ H fun xs H1 => xs.length ≤ sizeLine ∧ Nw H1 (.lst xs) Q
theorem pe_tupK {x1} (h : PA X es t) : PE X (.Tuple es x1 pos) (tTupK t) := PE.imp (pe_tup (PA.mono h)) fun σ H Q q => ⟨_, q, fun xs H1 z => ⟨z.1, z.2.at⟩⟩
theorem pe_lstK (h : PA X es t) : PE X (.List es pos) (tLstK t) := PE.imp (pe_lst (PA.mono h)) fun σ H Q q => ⟨_, q, fun xs H1 z => ⟨z.1, z.2.at⟩⟩
theorem OpR.imp {f : Value → Value → Sem Value} {r r' : R2} (h : OpR X f r) (i : ∀ x y H Q, r' x y H Q → r x y H Q) : OpR X f r' := fun pins s σ H x y v u Q I rx ry q => h pins s σ H x y v u Q I rx ry (i _ _ _ _ q)
theorem CallR.imp {f : Value} {r r' : List V → Hp → VK → Prop} (h : CallR X f r) (i : ∀ xs H Q, r' xs H Q → r xs H Q) : CallR X f r' := fun pins s σ H xs us Q I r q => h pins s σ H xs us Q I r (i _ _ _ q)
theorem SlR.imp {r r' : V → Option Int → Option Int → Hp → VK → Prop} (h : SlR X r) (i : ∀ x lo hi H Q, r' x lo hi H Q → r x lo hi H Q) : SlR X r' :=
  fun pins s σ H x v vl vu lo hi sl Q I r a b c q => h pins s σ H x v vl vu lo hi sl Q I r a b c (i _ _ _ _ _ q)
/-- xs + ys, lists -/
def rCatK : R2 := fun x y H Q => ∃ l b xs zs, x = .ref l ∧ y = .ref b ∧ H l = some (.lst xs) ∧ H b = some (.lst zs) ∧ xs.length + zs.length ≤ sizeLine ∧ Nw H (.lst (xs ++ zs)) Q
theorem op_catK : OpR X (binaryOp .Add) rCatK := OpR.imp op_cat fun x y H Q q => by
  obtain ⟨l, b, xs, zs, a, c, d, e, f, q⟩ := q
  exact ⟨l, b, xs, zs, a, c, d, e, f, q.at⟩
/-- [x] * k -/
def rRepK : R2 := fun x y H Q => ∃ l k v, x = .ref l ∧ y = .int k ∧ H l = some (.lst [v]) ∧ 0 ≤ k ∧ k ≤ 1000 ∧ Nw H (.lst (List.replicate k.toNat v)) Q
theorem op_repK : OpR X (binaryOp .Mult) rRepK := OpR.imp op_rep fun x y H Q q => by
  obtain ⟨l, k, v, a, b, c, d, e, q⟩ := q
  refine ⟨l, k, [v], a, b, c, by omega, by omega, ?_, ?_⟩
  · rw [sizeLine_eq]
    show 1 * k.toNat ≤ _
    omega
  · have e1 : (List.replicate k.toNat [v]).flatten = List.replicate k.toNat v := by
      generalize k.toNat = n
      induction n with
      | zero => rfl
      | succ n ih => rw [List.replicate_succ, List.flatten_cons, ih]; rfl
    rw [e1]
    exact q.at
/-- t + u, tuples, neither empty -/
def rCatT (K : PySem.W.Frag) : R2 := fun x y H Q => ∃ a b xs ys, x = .ref a ∧ y = .ref b ∧ SqT K H a xs ∧ SqT K H b ys ∧ xs.length + ys.length ≤ sizeLine ∧ xs ≠ [] ∧ ys ≠ [] ∧ Nw H (.tup (xs ++ ys)) Q
theorem op_catT' : OpR X (binaryOp .Add) (rCatT X.K) := OpR.imp op_catA fun x y H Q q => by
  obtain ⟨a, b, xs, ys, h1, h2, h3, h4, h5, h6, h7, q⟩ := q
  exact ⟨a, b, xs, ys, h1, h2, h3, h4, h5, fun z => absurd z h6, fun _ z => absurd z h7, fun _ _ => q.at⟩
/-- a slice of a list -/
def rSlLK (K : PySem.W.Frag) : V → Option Int → Option Int → Hp → VK → Prop := fun x lo hi H Q => ∃ a xs, x = .ref a ∧ SqL K H a xs ∧ Nw H (.lst (cutV xs lo hi)) Q
theorem sl_listK : SlR X (rSlLK X.K) := SlR.imp sl_list fun x lo hi H Q q => by
  obtain ⟨a, xs, h1, h2, q⟩ := q
  exact ⟨a, xs, h1, h2, q.at⟩
/-- a slice of a tuple: the same one, where it is the whole -/
def rSlTK (K : PySem.W.Frag) : V → Option Int → Option Int → Hp → VK → Prop := fun x lo hi H Q => ∃ a xs, x = .ref a ∧ H a = some (.tup xs) ∧ ∀ p H', Kp [] H H' → H' p = some (.tup (cutV xs lo hi)) → Q (.ref p) H'
theorem cut_whole {xs : List V} {lo hi : Option Int} (h : HT.sIx xs.length 0 lo = 0 ∧ HT.sIx xs.length xs.length hi = xs.length) : cutV xs lo hi = xs := by
  unfold cutV
  rw [h.1, h.2]
  simp
theorem sl_tupK : SlR X (rSlTK X.K) := SlR.imp sl_tupA fun x lo hi H Q q => by
  obtain ⟨a, xs, h1, h2, q⟩ := q
  exact ⟨a, xs, h1, SqT.of h2, fun z => q a H (Kp.refl H) (by rw [cut_whole z]; exact h2), fun _ p n => q p _ (Kp.new n) upd_same⟩
/-- list(xs), tuple(xs) -/
def rListK (K : PySem.W.Frag) : List V → Hp → VK → Prop := fun xs H Q => ∃ p ys, xs = [.ref p] ∧ (SqL K H p ys ∨ SqT K H p ys) ∧ Nw H (.lst ys) Q
theorem call_listK : CallR X (.type "list") (rListK X.K) := CallR.imp call_list_of fun xs H Q q => by
  obtain ⟨p, ys, a, b, q⟩ := q
  exact ⟨p, ys, a, b, q.at⟩
def rTupleK (K : PySem.W.Frag) : List V → Hp → VK → Prop := fun xs H Q => ∃ p ys, xs = [.ref p] ∧ SqL K H p ys ∧ Nw H (.tup ys) Q
theorem call_tupleK : CallR X (.type "tuple") (rTupleK X.K) := CallR.imp call_tuple_of fun xs H Q q => by
  obtain ⟨p, ys, a, b, q⟩ := q
  exact ⟨p, ys, a, .inl ⟨b, q.at⟩⟩
/-- xs[::-1] -/
def tRevK (K : PySem.W.Frag) (te : TE) : TE := fun σ H Q => te σ H fun x H1 => ∃ a xs, x = .ref a ∧ SqL K H1 a xs ∧ Nw H1 (.lst xs.reverse) Q
def monoE (t : TE) : TE := fun σ H Q => ∃ Q0 : VK, t σ H Q0 ∧ ∀ x H1, Q0 x H1 → Q x H1
theorem PE.mono (h : PE X e te) : PE X e (monoE te) := ⟨fun pins s σ H Q I q => by
  obtain ⟨Q0, q, i⟩ := q
  exact thn (h.run pins s σ H Q0 I q) fun us s' z => by
    obtain ⟨v, H', I', r, q⟩ := z
    exact ⟨v, H', I', r, i _ _ q⟩⟩
theorem pe_revK {k : Nat} {p1 p2 p3 pos : Pos} (he : PE X e te) : PE X (.Subscript e (.Slice none none (some (.UnaryOp .USub (.Constant (.int 1) k p1) p2)) p3) pos) (tRevK X.K te) :=
  PE.imp (pe_revL (PE.mono he)) fun σ H Q q => ⟨_, q, fun x H1 z => by
    obtain ⟨a, xs, h1, h2, q⟩ := z
    exact ⟨a, xs, h1, h2, q.at⟩⟩
/-- xs[i], for xs[i] += e, 0 ≤ i -/
def rGetL (K : PySem.W.Frag) : V → V → Hp → VK → Prop := fun o i H Q => ∃ p xs k v, o = .ref p ∧ i = .int (k : Nat) ∧ SqL K H p xs ∧ xs[k]? = some v ∧ Q v H
theorem get_list : PGet X (rGetL X.K) := by
  intro pins s σ H o i ov iv Q I ro ri h
  obtain ⟨p, xs, k, v, rfl, rfl, hs, ha, q⟩ := h
  cases ro
  obtain ⟨t, rfl⟩ := ri
  obtain ⟨its, r, pl, hz⟩ := I.list hs
  obtain ⟨u, hu, ru⟩ := r.get ha
  have hk : k < xs.length := (List.getElem?_eq_some_iff.mp ha).1
  have hn := line63
  exact wpAny_mono (wpAny_getItem_list (Q := fun r s' => r = u ∧ s' = s) pl.isList (by omega) (by omega) (by simpa using hu) ⟨rfl, rfl⟩) (fun r s' z => by
    obtain ⟨rfl, rfl⟩ := z
    exact ⟨v, H, I, ru, q⟩) fun _ _ z => z
end
end L2.K14
set_option Elab.async false
set_option linter.all false
set_option maxRecDepth 100000
set_option maxHeartbeats 4000000
/-! words: whole numbers, bytes, memories; areas -/
namespace L2.K14
open PySem PySem.Spec PyProof.Rows
abbrev Fd (K : PySem.W.Frag) (x qual : Str) (st : Stmt) (f : Addr) (fd : FuncData) : Prop := FunD K x qual (defArgs st) (defBody st) (defScope st) [] [] f fd
theorem TDs.inv {H : Hp} {xs : List V} {d : PyData} {ds : List PyData} (h : TDs H xs (d :: ds)) : ∃ v vs, xs = v :: vs ∧ TD H v d ∧ TDs H vs ds := by
  cases xs with
  | nil => exact absurd h.1 (by simp)
  | cons v vs => exact ⟨v, vs, rfl, h.2 0 v d rfl rfl, by simpa using h.1, fun i x e h1 h2 => h.2 (i + 1) x e (by simpa using h1) (by simpa using h2)⟩
theorem TDs.inv0 {H : Hp} {xs : List V} (h : TDs H xs []) : xs = [] := List.eq_nil_of_length_eq_zero h.1
theorem TD.inv_int {H : Hp} {v : V} {i : Int} (h : TD H v (.int i)) : v = .int i := by cases h; rfl
theorem TD.inv_str {H : Hp} {v : V} {i : Str} (h : TD H v (.str i)) : v = .str i := by cases h; rfl
theorem TD.area {H : Hp} {v : V} {a : Ar} (h : TD H v a.d) : ∃ p, v = .ref p ∧ H p = some (.tup [.int a.start, .int a.count, .int a.rows, .int a.pitch]) := by
  obtain ⟨p, xs, rfl, hp, h⟩ := h.inv
  obtain ⟨x0, r, rfl, h0, h⟩ := h.inv
  obtain ⟨x1, r, rfl, h1, h⟩ := h.inv
  obtain ⟨x2, r, rfl, h2, h⟩ := h.inv
  obtain ⟨x3, r, rfl, h3, h⟩ := h.inv
  obtain rfl := h.inv0
  obtain rfl := h0.inv_int
  obtain rfl := h1.inv_int
  obtain rfl := h2.inv_int
  obtain rfl := h3.inv_int
  exact ⟨p, rfl, hp⟩
theorem TDs.vals_int {H : Hp} : ∀ {ns : List Nat} {xs : List V}, TDs H xs (ns.map dN) → xs = ns.map fun n => V.int (n : Nat)
  | [], xs, h => h.inv0
  | n :: ns, xs, h => by
    obtain ⟨v, vs, rfl, h1, h2⟩ := h.inv
    rw [h1.inv_int, TDs.vals_int h2]
    rfl
theorem TD.mem {H : Hp} {v : V} {m : List Nat} (h : TD H v (memD m)) : ∃ p, v = .ref p ∧ H p = some (.tup (m.map fun n => V.int (n : Nat))) := by
  obtain ⟨p, xs, rfl, hp, h⟩ := h.inv
  rw [h.vals_int] at hp
  exact ⟨p, rfl, hp⟩
theorem isi_ok {K : PySem.W.Frag} {H : Hp} {x : V} {T t : String} {b : Bool} {Q : VK} (hT : TyX K H x (.type t)) (hk : kitB t T = some b) (q : Q (.bl b) H) : rIsi K [x, .ty T] H Q :=
  ⟨_, _, _, _, b, rfl, .ty T, hT, kit_ty hk, q⟩
/-- a new list -/
def NewL (H : Hp) (xs : List V) (Q : VK) : Prop := ∀ (H' : Hp) (p : Addr), Kp [] H H' → H p = none → H' p = some (.lst xs) → Q (.ref p) H'
section
variable {P : Program} {w : World} {K : PySem.W.Frag} {mg : Str → Option Value} {base : Heap} {f : Addr} {fd : FuncData}
/-! ### is_whole -/
abbrev N_is_whole : List Str := ["thing", "least", "most"]
theorem sc_is_whole : FnScope N_is_whole ["thing", "least", "most"] (defScope s_is_whole) := ⟨rfl, rfl, rfl, by decide +kernel, rfl, by decide +kernel, by decide +kernel⟩
def sp_is_whole : Sp := fun vs H Q _ => ∃ i a b : Int, vs = [.int i, .int a, .int b] ∧ a ≤ i ∧ i ≤ b ∧ Q (.bl true) H
theorem ok_is_whole {kws : List (Str × V)} (T : Txt K mg) (F : FunD K "is_whole" "is_whole" (defArgs s_is_whole) (defBody s_is_whole) (defScope s_is_whole) [] kws f fd) : FnOk P w K mg base CX0 1 f fd ["thing", "least", "most"] sp_is_whole := by
  refine FunD.ok F sc_is_whole (fun vs H Q E h => ?_) (fun cdv A outer s H vs Q E hr h => ?_)
  · obtain ⟨i, a, b, rfl, _⟩ := h
    rfl
  · obtain ⟨i, a, b, rfl, h1, h2, q⟩ := h
    refine ⟨_, PSs.nox (pss_one (ps_ret (pe_and (pe_callB call_isi (by rfl) T.b_isinstance (by decide +kernel) (pa_cons (pv 0) (pa_cons (pe_bltn (v := .ty "int") (u := .type "int") (by rfl) T.b_int (by decide +kernel) rfl) pa_nil))) (pe_and (pe_not (pe_callB call_isi (by rfl) T.b_isinstance (by decide +kernel) (pa_cons (pv 0) (pa_cons (pe_bltn (v := .ty "bool") (u := .type "bool") (by rfl) T.b_bool (by decide +kernel) rfl) pa_nil)))) (pe_one (pe_chain op_le op_le (pv 1) (pv 0) (pv 2))))))), ?_⟩
    refine ⟨_, rfl, _, _, _, _, true, rfl, .ty _, .base (.int i), kit_ty (by decide +kernel), _, rfl, iteT ?_⟩
    refine ⟨_, rfl, _, _, _, _, false, rfl, .ty _, .base (.int i), kit_ty (by decide +kernel), _, rfl, _, rfl, iteT ?_⟩
    refine ⟨_, rfl, _, rfl, _, _, rfl, rfl, _, rfl, ?_⟩
    rw [decide_eq_true h1]
    refine iteT ⟨_, rfl, _, _, rfl, rfl, ?_⟩
    show Q (.bl (decide (i ≤ b))) H
    rw [decide_eq_true h2]
    exact q
/-- is_whole, called with most = .., or with least = .., most = .. -/
def CalW (P : Program) (w : World) (K : PySem.W.Frag) (mg : Str → Option Value) (base : Heap) : Prop :=
  ∃ f fd, FnOk P w K mg base CX0 1 f fd ["thing", "least", "most"] sp_is_whole ∧ mg "is_whole" = some (.ref f) ∧ PySem.W.keepIn K (.ref f) = true ∧
    (∃ g, KBn K fd ["thing", "least", "most"] 1 ["most"] g (fun vs zs => vs ++ ([V.int 0] ++ zs))) ∧ (∃ g, KBn K fd ["thing", "least", "most"] 1 ["least", "most"] g (fun vs zs => vs ++ ([] ++ zs)))
theorem calW (T : Txt K mg) (F : FunD K "is_whole" "is_whole" (defArgs s_is_whole) (defBody s_is_whole) (defScope s_is_whole) [] [("least", V.int 0), ("most", V.int 1023)] f fd) (m : mg "is_whole" = some (.ref f)) : CalW P w K mg base := by
  refine ⟨f, fd, ok_is_whole T F, m, F.kp, ?_, ?_⟩
  · obtain ⟨mv, b⟩ := FunD.kbinds0 (ps := ["thing", "least", "most"]) F 1 ["most"] [("least", V.int 0)] (fun us mv ws => us ++ (mv ++ ws)) (by decide) (by simp) (fun a b c => a.append (b.append c))
      (fun D doc pm an cdv ct us mv ws h1 h2 h3 => match us, mv, ws, h1, h2, h3 with | [u], [v], [x], _, _, _ => ⟨_, _, _, _, _, _, rfl, rfl, rfl⟩)
    exact ⟨_, b⟩
  · obtain ⟨mv, b⟩ := FunD.kbinds0 (ps := ["thing", "least", "most"]) F 1 ["least", "most"] [] (fun us mv ws => us ++ (mv ++ ws)) (by decide) (by simp) (fun a b c => a.append (b.append c))
      (fun D doc pm an cdv ct us mv ws h1 h2 h3 => match us, mv, ws, h1, h2, h3 with | [u], [], [x, y], _, _, _ => rfl)
    exact ⟨_, b⟩
end
section
variable {X : Cx} {e : Expr} {es : List Expr} {kws : List Keyword} {t tk : TA} {n : Nat} {p pos : Pos}
theorem pwM (D : CalW X.prog X.w X.K X.mg X.base) (hr : Room n X.A) (ha : PA X (e :: es) t) (hkw : PK X kws tk) (hk : 1 ≤ n := by decide) (hg : Gl X "is_whole" := by rfl)
    (hall : (backToKw pos (keywordEach kws X.env)).all (·.1.isSome) = true := by rfl) (hks : (backToKw pos (keywordEach kws X.env)).filterMap (·.1) = [("most" : Str)] := by rfl)
    (he : starEach (e :: es) X.env = (false, eval e X.env) :: starEach es X.env := by rfl)
    (hpl : ((backTo pos (starEach (e :: es) X.env)).any (·.1) || (backToKw pos (keywordEach kws X.env)).any (·.1.isNone)) = false := by rfl) :
    PE X (.Call (.Name "is_whole" p) (e :: es) kws pos) (tCallN 1 1 sp_is_whole (fun vs zs => vs ++ ([V.int 0] ++ zs)) E0 t tk) := by
  obtain ⟨f, fd, F, m, kp, ⟨g, b⟩, _⟩ := D
  exact pe_callN F (hr.mono hk) hg m kp b pass0 ha hkw hall hks (by decide) he hpl
theorem pwLM (D : CalW X.prog X.w X.K X.mg X.base) (hr : Room n X.A) (ha : PA X (e :: es) t) (hkw : PK X kws tk) (hk : 1 ≤ n := by decide) (hg : Gl X "is_whole" := by rfl)
    (hall : (backToKw pos (keywordEach kws X.env)).all (·.1.isSome) = true := by rfl) (hks : (backToKw pos (keywordEach kws X.env)).filterMap (·.1) = [("least" : Str), "most"] := by rfl)
    (he : starEach (e :: es) X.env = (false, eval e X.env) :: starEach es X.env := by rfl)
    (hpl : ((backTo pos (starEach (e :: es) X.env)).any (·.1) || (backToKw pos (keywordEach kws X.env)).any (·.1.isNone)) = false := by rfl) :
    PE X (.Call (.Name "is_whole" p) (e :: es) kws pos) (tCallN 1 2 sp_is_whole (fun vs zs => vs ++ ([] ++ zs)) E0 t tk) := by
  obtain ⟨f, fd, F, m, kp, _, ⟨g, b⟩⟩ := D
  exact pe_callN F (hr.mono hk) hg m kp b pass0 ha hkw hall hks (by decide) he hpl
end
section
variable {P : Program} {w : World} {K : PySem.W.Frag} {mg : Str → Option Value} {base : Heap} {f : Addr} {fd : FuncData}
/-! ### is_byte, is_flag -/
abbrev N_is_byte : List Str := ["thing"]
theorem sc_is_byte : FnScope N_is_byte ["thing"] (defScope s_is_byte) := ⟨rfl, rfl, rfl, by decide +kernel, rfl, by decide +kernel, by decide +kernel⟩
def sp_is_byte : Sp := fun vs H Q _ => ∃ i : Int, vs = [.int i] ∧ 0 ≤ i ∧ i ≤ 255 ∧ Q (.bl true) H
theorem ok_is_byte (T : Txt K mg) (F : Fd K "is_byte" "is_byte" s_is_byte f fd) (W : CalW P w K mg base) : FnOk P w K mg base CX0 2 f fd ["thing"] sp_is_byte := by
  refine FunD.ok F sc_is_byte (fun vs H Q E h => ?_) (fun cdv A outer s H vs Q E hr h => ?_)
  · obtain ⟨i, rfl, _⟩ := h
    rfl
  · obtain ⟨i, rfl, h1, h2, q⟩ := h
    refine ⟨_, PSs.nox (pss_one (ps_ret (pwM W hr (pa_cons (pv 0) pa_nil) (pk_cons (pk T.c_GREATEST_BYTE) pk_nil)))), ?_⟩
    exact ⟨_, rfl, rfl, rfl, i, 0, 255, rfl, h1, h2, q⟩
abbrev N_is_flag : List Str := ["thing"]
theorem sc_is_flag : FnScope N_is_flag ["thing"] (defScope s_is_flag) := ⟨rfl, rfl, rfl, by decide +kernel, rfl, by decide +kernel, by decide +kernel⟩
def sp_is_flag : Sp := fun vs H Q _ => ∃ i : Int, vs = [.int i] ∧ 0 ≤ i ∧ i ≤ 7 ∧ Q (.bl true) H
theorem ok_is_flag (T : Txt K mg) (F : Fd K "is_flag" "is_flag" s_is_flag f fd) (W : CalW P w K mg base) : FnOk P w K mg base CX0 2 f fd ["thing"] sp_is_flag := by
  refine FunD.ok F sc_is_flag (fun vs H Q E h => ?_) (fun cdv A outer s H vs Q E hr h => ?_)
  · obtain ⟨i, rfl, _⟩ := h
    rfl
  · obtain ⟨i, rfl, h1, h2, q⟩ := h
    refine ⟨_, PSs.nox (pss_one (ps_ret (pwM W hr (pa_cons (pv 0) pa_nil) (pk_cons (pe_op op_sub (pk T.c_FLAGS) pe_int) pk_nil)))), ?_⟩
    exact ⟨_, rfl, _, _, rfl, rfl, rfl, rfl, i, 0, 7, rfl, h1, h2, q⟩
end
end L2.K14
set_option Elab.async false
set_option linter.all false
set_option maxRecDepth 100000
set_option maxHeartbeats 4000000
/-! memories, areas -/
namespace L2.K14
open PySem PySem.Spec PyProof.Rows
section
variable {A B c : Prop} [Decidable c]
theorem iteDT (h : c) (a : A) : if decide c = true then A else B := by
  rw [decide_eq_true h]
  exact iteT a
theorem iteDF (h : ¬ c) (b : B) : if decide c = true then A else B := by
  rw [decide_eq_false h]
  exact iteF b
theorem iteNT (h : ¬ c) (a : A) : if (!decide c) = true then A else B := by
  rw [decide_eq_false h]
  exact iteT a
theorem iteBT {b : Bool} (h : b = true) (a : A) : if b = true then A else B := by
  rw [if_pos h]
  exact a
theorem iteBF {b : Bool} (h : b = false) (a : B) : if b = true then A else B := by
  rw [h]
  exact iteF a
end
theorem NewL.mk {H H1 : Hp} {xs : List V} {Q : VK} (q : NewL H xs Q) (k : Kp [] H H1) : Nw H1 (.lst xs) Q := fun p H' k' n e => q H' p (k.trans k') (k.free n) e
theorem sz (n : Nat) (h : n ≤ 100000 := by decide) : n ≤ sizeLine := Nat.le_trans h (by decide)
theorem atN {xs : List V} {n : Nat} {i : Int} {v : V} (e : i = (n : Int)) (h : xs[n]? = some v) : atI xs i = some v := by
  rw [e]
  exact atI_nat h
section
variable {P : Program} {w : World} {K : PySem.W.Frag} {mg : Str → Option Value} {base : Heap} {f : Addr} {fd : FuncData}
/-! ### is_memory -/
abbrev N_is_memory : List Str := ["thing", "one"]
theorem sc_is_memory : FnScope N_is_memory ["thing"] (defScope s_is_memory) := ⟨rfl, rfl, rfl, by decide +kernel, rfl, by decide +kernel, by decide +kernel⟩
def sp_is_memory : Sp := fun vs H Q _ => ∃ v m, vs = [v] ∧ TD H v (memD m) ∧ 1 ≤ m.length ∧ m.length ≤ 40 ∧ (∀ b ∈ m, b < 256) ∧ ∀ H', Kp [] H H' → Q (.bl true) H'
theorem ok_is_memory (T : Txt K mg) (F : Fd K "is_memory" "is_memory" s_is_memory f fd) (D_is_byte : Cal P w K mg base 2 "is_byte" ["thing"] sp_is_byte) : FnOk P w K mg base CX0 3 f fd ["thing"] sp_is_memory := by
  refine FunD.ok F sc_is_memory (fun vs H Q E h => ?_) (fun cdv A outer s H vs Q E hr h => ?_)
  · obtain ⟨v, m, rfl, _⟩ := h
    rfl
  · obtain ⟨v, m, rfl, hv, h1, h40, hb, q⟩ := h
    obtain ⟨p, rfl, hp⟩ := hv.mem
    refine ⟨_, PSs.nox (pss_cons (ps_if (PW.pt (pw_or (pt_not (pt_val (pe_callB call_isi (by rfl) T.b_isinstance (by decide +kernel) (pa_cons (pv 0) (pa_cons (pe_bltn (v := .ty "tuple") (u := .type "tuple") (by rfl) T.b_tuple (by decide +kernel) rfl) pa_nil))))) (pw_or1 (pt_not (pt_chain op_le op_le pe_int (pe_callB call_len_seq (by rfl) T.b_len PySem.boot_len (pa_cons (pv 0) pa_nil)) (pk T.c_MOST_CELLS)))))) (pss_one (ps_ret pe_bl)) pss_nil)
      (pss_one (ps_ret (pe_callB (cr_all rfl) (by rfl) T.b_all (by decide +kernel) (pa_cons (pe_lc (own := [("one", 1)]) (g := (gName 1)) (tt := tYes) rfl sc_is_memory.nd (pi_tup (pv 0)) (blkOk_by (N := N_is_memory) (sc := defScope s_is_memory) (by decide +kernel)) (fun _ _ _ _ _ => (pg_name (i := 1) sc_is_memory.nd rfl (Or.inl rfl))) (fun _ _ _ _ _ => pts_nil) (fun _ _ _ _ _ => (pc D_is_byte hr (pa_cons (pv 1) pa_nil)))) pa_nil))))), ?_⟩
    have hl : ((m.map fun n => V.int (n : Nat)).length : Int) = (m.length : Int) := by simp
    refine ⟨_, rfl, _, _, _, _, true, rfl, .ty _, .base (.tup hp), kit_ty (by decide +kernel), true, rfl, iteF ?_⟩
    refine ⟨_, rfl, p, _, rfl, .inr (SqT.of hp), _, _, rfl, rfl, _, rfl, iteDT (by rw [hl]; omega) ?_⟩
    refine ⟨_, _, rfl, rfl, _, rfl, ?_⟩
    rw [decide_eq_true (show ((m.map fun n => V.int (n : Nat)).length : Int) ≤ 1024 by rw [hl]; omega)]
    refine iteF ?_
    refine ⟨_, rfl, p, rfl, ⟨_, SqT.of hp⟩, fun D hD => ?_⟩
    refine lc_pure walk_tup (fun i acc _ => acc = List.replicate i (V.bl true)) hD (fun i acc => stb_pure _) rfl (fun H' k => k.seqT (SqT.of hp)) YAt.kp (fun i acc H' hi r => by
      subst r
      simp at hi ⊢
      omega) (fun i x H1 H2 acc hi k r y N S hN hS => ?_) (fun H' acc k e r => ?_)
    · obtain ⟨rfl, hx⟩ := y
      rw [List.getElem?_map] at hx
      obtain ⟨b, hb1, rfl⟩ := Option.map_eq_some_iff.mp hx
      have := hb b (List.mem_of_getElem? hb1)
      refine ⟨rfl, _, rfl, b, rfl, by omega, by omega, hN _ _ (Kp.refl _) ?_⟩
      rw [r, List.replicate_succ']
    · refine ⟨D, List.replicate m.length true, rfl, SqL.of (by rw [e, r]; simp), ?_⟩
      rw [show (List.replicate m.length true).all id = true by simp]
      exact q _ k
/-! ### own_size, area_wrong -/
abbrev N_own_size : List Str := ["area", "start", "count", "rows", "pitch"]
theorem sc_own_size : FnScope N_own_size ["area"] (defScope s_own_size) := ⟨rfl, rfl, rfl, by decide +kernel, rfl, by decide +kernel, by decide +kernel⟩
def sp_own_size : Sp := fun vs H Q _ => ∃ v a, vs = [v] ∧ TD H v (Ar.d a) ∧ a.count ≤ 1000 ∧ Q (.int (a.size : Nat)) H
theorem ok_own_size (T : Txt K mg) (F : Fd K "own_size" "own_size" s_own_size f fd) : FnOk P w K mg base CX0 1 f fd ["area"] sp_own_size := by
  refine FunD.ok F sc_own_size (fun vs H Q E h => ?_) (fun cdv A outer s H vs Q E hr h => ?_)
  · obtain ⟨v, a, rfl, _⟩ := h
    rfl
  · obtain ⟨v, a, rfl, hv, hc, q⟩ := h
    obtain ⟨p, rfl, hp⟩ := hv.area
    refine ⟨_, PSs.nox (pss_cons (ps_asg (pv 0) (pg_tup rfl (pgs_cons (pg_name (i := 1) sc_own_size.nd rfl (Or.inl rfl)) (pgs_cons (pg_name (i := 2) sc_own_size.nd rfl (Or.inl rfl)) (pgs_cons (pg_name (i := 3) sc_own_size.nd rfl (Or.inl rfl)) (pgs_cons (pg_name (i := 4) sc_own_size.nd rfl (Or.inl rfl)) pgs_nil))))))
      (pss_one (ps_ret (pe_op op_mul (pv 2) (pv 3))))), ?_⟩
    refine ⟨_, rfl, p, _, rfl, SqT.of hp, rfl, _, _, rfl, _, _, rfl, _, _, rfl, _, _, rfl, rfl, ?_⟩
    exact ⟨_, rfl, _, rfl, _, _, rfl, rfl, .inl ⟨by omega, by omega⟩, q⟩
abbrev N_area_wrong : List Str := ["thing", "bounds", "number", "least", "most", "start", "count", "rows", "pitch", "is_beyond"]
theorem sc_area_wrong : FnScope N_area_wrong ["thing"] (defScope s_area_wrong) := ⟨rfl, rfl, rfl, by decide +kernel, rfl, by decide +kernel, by decide +kernel⟩
def sp_area_wrong : Sp := fun vs H Q _ => ∃ v a top, vs = [v] ∧ TD H v (Ar.d a) ∧ a.Ok top ∧ top ≤ 40 ∧ NewL H [] Q
theorem ok_area_wrong (T : Txt K mg) (F : Fd K "area_wrong" "area_wrong" s_area_wrong f fd) (W : CalW P w K mg base) : FnOk P w K mg base CX0 2 f fd ["thing"] sp_area_wrong := by
  refine FunD.ok F sc_area_wrong (fun vs H Q E h => ?_) (fun cdv A outer s H vs Q E hr h => ?_)
  · obtain ⟨v, a, top, rfl, _⟩ := h
    rfl
  · obtain ⟨v, a, top, rfl, hv, ha, ht, q⟩ := h
    obtain ⟨p, rfl, hp⟩ := hv.area
    obtain ⟨c1, r1, cp, one, sz8, span, p40⟩ := ha
    refine ⟨_, PSs.nox (pss_cons (ps_if (PW.pt (pw_or (pt_not (pt_val (pe_callB call_isi (by rfl) T.b_isinstance (by decide +kernel) (pa_cons (pv 0) (pa_cons (pe_bltn (v := .ty "tuple") (u := .type "tuple") (by rfl) T.b_tuple (by decide +kernel) rfl) pa_nil))))) (pw_or1 (pt_cmpR op_ne (pe_callB call_len_seq (by rfl) T.b_len PySem.boot_len (pa_cons (pv 0) pa_nil)) pe_int (nomark _))))) (pss_one (ps_ret (pe_lstK (pa_cons pe_non pa_nil)))) pss_nil)
      (pss_cons (ps_set (i := 1) sc_area_wrong.nd rfl (Or.inl rfl) (pe_tupK (pa_cons (pe_tupK (pa_cons pe_int (pa_cons (pk T.c_GREATEST_CELL) pa_nil))) (pa_cons (pe_tupK (pa_cons pe_int (pa_cons (pk T.c_MOST_AREA) pa_nil))) (pa_cons (pe_tupK (pa_cons pe_int (pa_cons (pk T.c_MOST_AREA) pa_nil))) (pa_cons (pe_tupK (pa_cons pe_int (pa_cons (pk T.c_GREATEST_CELL) pa_nil))) pa_nil))))))
      (pss_cons (ps_for PassesOwn.never rfl (pi_enumT (by rfl) T.b_enumerate (pa_cons (pv 1) pa_nil)) (pg_tup rfl (pgs_cons (pg_name (i := 2) sc_area_wrong.nd rfl (Or.inl rfl)) (pgs_cons (pg_tup rfl (pgs_cons (pg_name (i := 3) sc_area_wrong.nd rfl (Or.inl rfl)) (pgs_cons (pg_name (i := 4) sc_area_wrong.nd rfl (Or.inl rfl)) pgs_nil))) pgs_nil))) (pss_one (ps_if (pt_not (pt_val (pwLM W hr (pa_cons (pe_ix ix_tup (pv 0) (pv 2) (fun _ _ => rfl)) pa_nil) (pk_cons (pv 3) (pk_cons (pv 4) pk_nil))))) (pss_one (ps_ret (pe_lstK (pa_cons (pv 2) pa_nil)))) pss_nil)))
      (pss_cons (ps_asg (pv 0) (pg_tup rfl (pgs_cons (pg_name (i := 5) sc_area_wrong.nd rfl (Or.inl rfl)) (pgs_cons (pg_name (i := 6) sc_area_wrong.nd rfl (Or.inl rfl)) (pgs_cons (pg_name (i := 7) sc_area_wrong.nd rfl (Or.inl rfl)) (pgs_cons (pg_name (i := 8) sc_area_wrong.nd rfl (Or.inl rfl)) pgs_nil))))))
      (pss_cons (ps_if (PW.pt (pw_or (pt_cmpR op_lt (pv 8) (pv 6) (nomark _)) (pw_or1 (PW.pt (pw_and (pt_cmpR op_eq (pv 7) pe_int (nomark _)) (pw_and1 (pt_cmpR op_ne (pv 8) (pv 6) (nomark _)))))))) (pss_one (ps_ret (pe_lstK (pa_cons pe_int pa_nil)))) pss_nil)
      (pss_cons (ps_set (i := 9) sc_area_wrong.nd rfl (Or.inl rfl) (pe_cmpR op_gt (pe_op op_add (pe_op op_add (pv 5) (pe_op op_mul (pe_op op_sub (pv 7) pe_int) (pv 8))) (pv 6)) (pk T.c_MOST_CELLS) (nomark _)))
      (pss_one (ps_ret (pe_ifExp (PW.pt (pw_or (pt_val (pv 9)) (pw_or1 (pt_cmpR op_gt (pe_op op_mul (pv 7) (pv 6)) (pk T.c_MOST_AREA) (nomark _))))) (pe_lstK (pa_cons (pk T.c_END) pa_nil)) (pe_lstK pa_nil)))))))))), ?_⟩
    refine ⟨_, rfl, _, _, _, _, true, rfl, .ty _, .base (.tup hp), kit_ty (by decide +kernel), true, rfl, iteF ?_⟩
    refine ⟨_, rfl, p, _, rfl, .inr (SqT.of hp), rfl, _, rfl, iteNS rfl ?_⟩
    -- bounds
    refine ⟨sz 2, fun p0 H0 k0 n0 e0 => ⟨sz 2, fun p1 H1 k1 n1 e1 => ⟨sz 2, fun p2 H2 k2 n2 e2 => ⟨sz 2, fun p3 H3 k3 n3 e3 => ⟨sz 4, fun B H4 k4 n4 e4 => ?_⟩⟩⟩⟩⟩
    have k : Kp [] H H4 := (((k0.trans k1).trans k2).trans k3).trans k4
    have hp4 := k.same _ _ hp
    have f0 := (((k1.trans k2).trans k3).trans k4).same _ _ e0
    have f1 := ((k2.trans k3).trans k4).same _ _ e1
    have f2 := (k3.trans k4).same _ _ e2
    have f3 := k4.same _ _ e3
    have rr : a.rows * a.count ≥ a.rows := Nat.le_mul_of_pos_right _ c1
    have rc : a.rows * a.count ≥ a.count := Nat.le_mul_of_pos_left _ r1
    have hb : ∀ (i : Nat) y, ([.ref p0, .ref p1, .ref p2, .ref p3] : List V)[i]? = some y → ∃ (r : Addr) (lo hi x : Int), y = .ref r ∧ H4 r = some (.tup [.int lo, .int hi]) ∧
        ([.int a.start, .int a.count, .int a.rows, .int a.pitch] : List V)[i]? = some (.int x) ∧ lo ≤ x ∧ x ≤ hi := fun i y e => by
      match i, e with
      | 0, e => cases e; exact ⟨p0, 0, 1023, _, rfl, f0, rfl, by omega, by omega⟩
      | 1, e => cases e; exact ⟨p1, 1, 256, _, rfl, f1, rfl, by omega, by omega⟩
      | 2, e => cases e; exact ⟨p2, 1, 256, _, rfl, f2, rfl, by omega, by omega⟩
      | 3, e => cases e; exact ⟨p3, 1, 1023, _, rfl, f3, rfl, by omega, by omega⟩
      | i + 4, e => simp at e
    refine ⟨_, rfl, B, _, rfl, SqT.of e4, for_it walk_itg (fun i σ H' => Kp [] H4 H' ∧ ∃ v2 v3 v4, σ = [some (.ref p), some (.ref B), v2, v3, v4, none, none, none, none, none])
      ⟨Kp.refl _, none, none, none, rfl⟩ (fun i σ H' _ h => h.1.seqT (SqT.of e4)) (fun i x σ H5 H6 hi h y => ?_) (fun σ H5 h => ?_)⟩
    · obtain ⟨k5, v2, v3, v4, rfl⟩ := h
      obtain ⟨U, x0, y0, rfl, nU, rfl, ex, ey⟩ := y
      cases ex
      obtain ⟨r, lo, hi', x, rfl, hr', hx, l1, l2⟩ := hb i y0 ey
      have k6 : Kp [] H5 (upd H5 U (.tup [.int (i : Nat), .ref r])) := Kp.new nU
      refine ⟨U, _, rfl, SqT.of upd_same, rfl, _, _, rfl, _, _, rfl, ?_⟩
      refine ⟨r, _, rfl, SqT.of ((k5.trans k6).same _ _ hr'), rfl, _, _, rfl, _, _, rfl, rfl, rfl, ?_⟩
      refine ⟨_, rfl, _, rfl, p, _, _, _, rfl, rfl, SqT.of ((k5.trans k6).same _ _ hp4), atN rfl hx, _, rfl, _, rfl, rfl, rfl, x, lo, hi', rfl, l1, l2, _, rfl, iteF ?_⟩
      exact ⟨k5.trans k6, _, _, _, rfl⟩
    · obtain ⟨k5, v2, v3, v4, rfl⟩ := h
      refine ⟨_, rfl, p, _, rfl, SqT.of (k5.same _ _ hp4), rfl, _, _, rfl, _, _, rfl, _, _, rfl, _, _, rfl, rfl, ?_⟩
      refine ⟨_, rfl, _, rfl, _, _, rfl, rfl, _, rfl, iteDF (by omega) ?_⟩
      refine ⟨_, rfl, rfl, _, rfl, ?_⟩
      have fin : (tSeq (tAsg (tOp (rI0 fun i j => V.bl (decide (j < i))) (tOp (rI0 fun i j => V.int (i + j)) (tOp (rI0 fun i j => V.int (i + j)) (tVar 5) (tOp (rI CMul fun i j => V.int (i * j)) (tOp (rI0 fun i j => V.int (i - j)) (tVar 7) (tC (V.int 1))) (tVar 8))) (tVar 6)) (tC (V.int 1024))) (gName 9))
          (tRet (tIf (tOr (tB (tVar 9)) (tTest (tOp (rI0 fun i j => V.bl (decide (j < i))) (tOp (rI CMul fun i j => V.int (i * j)) (tVar 7) (tVar 6)) (tC (V.int 256))))) (tLstK (tCons (tC (V.str "end")) tNil)) (tLstK tNil)))) { nx := fun _ H' => Q .non H', rt := Q }
          [some (.ref p), some (.ref B), v2, v3, v4, some (.int a.start), some (.int a.count), some (.int a.rows), some (.int a.pitch), none] H5 := by
        have hsp : (a.rows - 1) * a.pitch ≤ 40 := by omega
        have hm : ((a.rows : Int) - 1) * (a.pitch : Int) = (((a.rows - 1) * a.pitch : Nat) : Int) := by
          rw [Int.natCast_mul, Int.natCast_sub r1]
          rfl
        have hm2 : (a.rows : Int) * (a.count : Int) = ((a.rows * a.count : Nat) : Int) := by rw [Int.natCast_mul]
        refine ⟨_, rfl, _, rfl, _, _, rfl, rfl, _, rfl, _, _, rfl, rfl, .inl ⟨by omega, by omega⟩, _, _, rfl, rfl, _, rfl, _, _, rfl, rfl, _, _, rfl, rfl, ?_⟩
        refine ⟨_, rfl, _, rfl, iteDF (by rw [hm]; omega) ?_⟩
        refine ⟨_, rfl, _, rfl, _, _, rfl, rfl, .inl ⟨by omega, by omega⟩, _, _, rfl, rfl, _, rfl, iteDF (by show ¬ (256 : Int) < (a.rows : Int) * (a.count : Int); rw [hm2]; omega) ?_⟩
        exact ⟨sz 0, q.mk (k.trans k5)⟩
      by_cases h1 : a.rows = 1
      · refine iteDT (by rw [h1]; rfl) ⟨_, rfl, _, rfl, rfl, _, rfl, iteNS (by rw [one h1]) fin⟩
      · exact iteDF (fun z => h1 (by have := V.int.inj z; omega)) fin
end
end L2.K14
set_option Elab.async false
set_option linter.all false
set_option maxRecDepth 100000
set_option maxHeartbeats 4000000
/-! steps, lists, deeds, programs: nothing wrong -/
namespace L2.K14
open PySem PySem.Spec PyProof.Rows
theorem Ar.Ok.mono {a : Ar} {t u : Nat} (h : a.Ok t) (l : t ≤ u) : a.Ok u := ⟨h.c1, h.r1, h.cp, h.one, h.sz, Nat.le_trans h.span l, h.p40⟩
def Stp.Ok (top : Nat) : Stp → Prop
  | .copy a b k => a.Ok top ∧ b.Ok top ∧ a.size = b.size ∧ k < a.size
  | .fill a x k => a.Ok top ∧ x < 256 ∧ k < a.size
  | .add a c => a.Ok top ∧ c < top
  | .note f => f < 8
  | .wait f n => f < 8 ∧ 1 ≤ n ∧ n ≤ 99
  | .fence => True
theorem Stp.Ok.mono {s : Stp} {t u : Nat} (h : s.Ok t) (l : t ≤ u) : s.Ok u := by
  cases s with
  | copy a b k => exact ⟨h.1.mono l, h.2.1.mono l, h.2.2⟩
  | fill a x k => exact ⟨h.1.mono l, h.2⟩
  | add a c => exact ⟨h.1.mono l, Nat.lt_of_lt_of_le h.2 l⟩
  | note f => exact h
  | wait f n => exact h
  | fence => exact h
def Ded.Ok (top : Nat) : Ded → Prop
  | .post h l => h ≤ 1 ∧ 1 ≤ l.length ∧ l.length ≤ 4 ∧ ∀ s ∈ l, s.Ok top ∧ ∀ f, s = .note f → f / 4 = h
  | .poke c b => c < top ∧ b < 256
  | .peek c => c < top
  | .join h => h ≤ 1
  | .see f n => f < 8 ∧ 1 ≤ n ∧ n ≤ 99
structure SheetOk (top : Nat) (p : List Ded) : Prop where
  l1 : 1 ≤ p.length
  l6 : p.length ≤ 6
  ok : ∀ d ∈ p, d.Ok top
/-! ### their shape -/
def Shp (n : Nat) (d : PyData) : Prop := d.canLay0 = true ∧ d.depth ≤ n
theorem Shp.shaped {n : Nat} {d : PyData} (h : Shp n d) (hn : n ≤ 64 := by decide) : SeqAt.shaped d = true := by
  unfold SeqAt.shaped
  rw [h.1, decide_eq_true (Nat.le_trans h.2 hn)]
  rfl
theorem shp_all {n : Nat} : ∀ {ds : List PyData}, (∀ d ∈ ds, Shp n d) → PyData.canLayAll0 ds = true ∧ PyData.depthAll ds ≤ n
  | [], _ => ⟨by simp [PyData.canLayAll0], by simp [PyData.depthAll]⟩
  | d :: ds, h => by
    obtain ⟨a, b⟩ := h d (List.mem_cons_self ..)
    obtain ⟨e, f⟩ := shp_all (ds := ds) fun x hx => h x (List.mem_cons_of_mem _ hx)
    simp only [PyData.canLayAll0, PyData.depthAll]
    exact ⟨by rw [a, e]; rfl, by omega⟩
theorem Shp.tuple {n : Nat} {ds : List PyData} (h : ∀ d ∈ ds, Shp n d) : Shp (n + 1) (.tuple ds) := by
  obtain ⟨a, b⟩ := shp_all h
  unfold Shp
  simp only [PyData.canLay0, PyData.depth]
  exact ⟨a, by omega⟩
theorem Shp.list {n : Nat} {ds : List PyData} (h : ∀ d ∈ ds, Shp n d) : Shp (n + 1) (.list ds) := by
  obtain ⟨a, b⟩ := shp_all h
  unfold Shp
  simp only [PyData.canLay0, PyData.depth]
  exact ⟨a, by omega⟩
theorem Shp.int {n : Nat} (i : Int) : Shp (n + 1) (.int i) := by
  unfold Shp
  simp [PyData.canLay0, PyData.depth]
theorem Shp.non {n : Nat} : Shp (n + 1) .none := by
  unfold Shp
  simp [PyData.canLay0, PyData.depth]
theorem Shp.str {n : Nat} (x : Str) (h : PyData.strOk x = true) : Shp (n + 1) (.str x) := by
  unfold Shp
  simp [PyData.canLay0, PyData.depth, h]
theorem Shp.up {n m : Nat} {d : PyData} (h : Shp n d) (l : n ≤ m) : Shp m d := ⟨h.1, Nat.le_trans h.2 l⟩
theorem shp_area (a : Ar) : Shp 3 a.d := .tuple fun d hd => by
  simp at hd
  rcases hd with rfl | rfl | rfl | rfl <;> exact .int _
theorem shp_step (s : Stp) : Shp 5 s.d := by
  cases s <;> refine .tuple fun d hd => ?_ <;> simp at hd
  · rcases hd with rfl | rfl | rfl | rfl
    · exact .str _ (by decide +kernel)
    · exact (shp_area _).up (by decide)
    · exact (shp_area _).up (by decide)
    · exact .int _
  · rcases hd with rfl | rfl | rfl | rfl
    · exact .str _ (by decide +kernel)
    · exact (shp_area _).up (by decide)
    · exact .int _
    · exact .int _
  · rcases hd with rfl | rfl | rfl
    · exact .str _ (by decide +kernel)
    · exact (shp_area _).up (by decide)
    · exact .int _
  · rcases hd with rfl | rfl
    · exact .str _ (by decide +kernel)
    · exact .int _
  · rcases hd with rfl | rfl | rfl
    · exact .str _ (by decide +kernel)
    · exact .int _
    · exact .int _
  · subst hd
    exact .str _ (by decide +kernel)
theorem shp_steps (l : List Stp) : Shp 6 (.tuple (l.map Stp.d)) := .tuple fun d hd => by
  obtain ⟨s, _, rfl⟩ := List.mem_map.mp hd
  exact shp_step s
theorem shp_deed (d : Ded) : Shp 8 d.d := by
  cases d <;> refine .tuple fun d hd => ?_ <;> simp at hd
  · rcases hd with rfl | rfl | rfl
    · exact .str _ (by decide +kernel)
    · exact .int _
    · exact (shp_steps _).up (by decide)
  · rcases hd with rfl | rfl | rfl
    · exact .str _ (by decide +kernel)
    · exact .int _
    · exact .int _
  · rcases hd with rfl | rfl
    · exact .str _ (by decide +kernel)
    · exact .int _
  · rcases hd with rfl | rfl
    · exact .str _ (by decide +kernel)
    · exact .int _
  · rcases hd with rfl | rfl | rfl
    · exact .str _ (by decide +kernel)
    · exact .int _
    · exact .int _
theorem shp_sheet (p : List Ded) : Shp 9 (sheetD p) := .tuple fun d hd => by
  obtain ⟨s, _, rfl⟩ := List.mem_map.mp hd
  exact shp_deed s
theorem shp_mem (m : List Nat) : Shp 2 (memD m) := .tuple fun d hd => by
  obtain ⟨s, _, rfl⟩ := List.mem_map.mp hd
  exact .int _
theorem dp_nil {K : PySem.W.Frag} {H : Hp} {p : Addr} (h : H p = some (.lst [])) : Dp K H (.ref p) (.list []) := .lst (SqL.of h) .nil
theorem shp_nil : SeqAt.shaped (.list []) = true := by decide +kernel
/-! ### what can stand for a kind -/
inductive ThingOk (al : Prop) : Nat → PyData → Prop
  | A {a : Ar} : a.Ok 40 → ThingOk al 65 a.d
  | B {b : Nat} : b < 256 → ThingOk al 66 (dN b)
  | C {c : Nat} : c < 1024 → ThingOk al 67 (dN c)
  | F {f : Nat} : f < 8 → ThingOk al 70 (dN f)
  | H {h : Nat} : h ≤ 1 → ThingOk al 72 (dN h)
  | N {n : Nat} : 1 ≤ n → n ≤ 99 → ThingOk al 78 (dN n)
  | S {n : Nat} : ThingOk al 83 (dN n)
  | L {l : List Stp} : al → 1 ≤ l.length → l.length ≤ 4 → (∀ s ∈ l, s.Ok 40) → ThingOk al 76 (.tuple (l.map Stp.d))
def sp_list_wrong (al : Prop) : Sp := fun vs H Q _ => al ∧ ∃ (v : V) (l : List Stp), vs = [v] ∧ TD H v (.tuple (l.map Stp.d)) ∧ 1 ≤ l.length ∧ l.length ≤ 4 ∧ (∀ s ∈ l, s.Ok 40) ∧ NewL H [] Q
def sp_is_thing (al : Prop) : Sp := fun vs H Q _ => ∃ v c d, vs = [v, .str ⟨#[c]⟩] ∧ TD H v d ∧ ThingOk al c d ∧ ∀ H', Kp [] H H' → Q (.bl true) H'
section
variable {P : Program} {w : World} {K : PySem.W.Frag} {mg : Str → Option Value} {base : Heap} {f : Addr} {fd : FuncData}
abbrev N_is_thing : List Str := ["thing", "kind"]
theorem sc_is_thing : FnScope N_is_thing ["thing", "kind"] (defScope s_is_thing) := ⟨rfl, rfl, rfl, by decide +kernel, rfl, by decide +kernel, by decide +kernel⟩
theorem ok_is_thing {al : Prop} {n k : Nat} (hn : 2 ≤ n) (hk : k ≤ n) (T : Txt K mg) (F : Fd K "is_thing" "is_thing" s_is_thing f fd) (W : CalW P w K mg base) (D_is_byte : Cal P w K mg base 2 "is_byte" ["thing"] sp_is_byte)
    (D_is_flag : Cal P w K mg base 2 "is_flag" ["thing"] sp_is_flag) (D_area_wrong : Cal P w K mg base 2 "area_wrong" ["thing"] sp_area_wrong) (D_list_wrong : Cal P w K mg base k "list_wrong" ["thing"] (sp_list_wrong al)) :
    FnOk P w K mg base CX0 (n + 1) f fd ["thing", "kind"] (sp_is_thing al) := by
  refine FunD.ok F sc_is_thing (fun vs H Q E h => ?_) (fun cdv A outer s H vs Q E hr h => ?_)
  · obtain ⟨v, c, d, rfl, _⟩ := h
    rfl
  · obtain ⟨v, c, d, rfl, hv, ht, q⟩ := h
    refine ⟨_, PSs.nox (pss_cons (ps_if (pt_cmpR op_eq (pv 1) pe_str (nomark _)) (pss_one (ps_ret (pe_cmpR (op_eqD hr.units) (pc D_area_wrong hr (pa_cons (pv 0) pa_nil) (by omega)) (pe_lstK pa_nil) (nomark _)))) pss_nil)
      (pss_cons (ps_if (pt_cmpR op_eq (pv 1) pe_str (nomark _)) (pss_one (ps_ret (pc D_is_byte hr (pa_cons (pv 0) pa_nil) (by omega)))) pss_nil)
      (pss_cons (ps_if (pt_cmpR op_eq (pv 1) pe_str (nomark _)) (pss_one (ps_ret (pwM W hr (pa_cons (pv 0) pa_nil) (pk_cons (pk T.c_GREATEST_CELL) pk_nil) (by omega)))) pss_nil)
      (pss_cons (ps_if (pt_cmpR op_eq (pv 1) pe_str (nomark _)) (pss_one (ps_ret (pc D_is_flag hr (pa_cons (pv 0) pa_nil) (by omega)))) pss_nil)
      (pss_cons (ps_if (pt_cmpR op_eq (pv 1) pe_str (nomark _)) (pss_one (ps_ret (pwM W hr (pa_cons (pv 0) pa_nil) (pk_cons pe_int pk_nil) (by omega)))) pss_nil)
      (pss_cons (ps_if (pt_cmpR op_eq (pv 1) pe_str (nomark _)) (pss_one (ps_ret (pwLM W hr (pa_cons (pv 0) pa_nil) (pk_cons pe_int (pk_cons (pk T.c_MOST_NOTED) pk_nil)) (by omega)))) pss_nil)
      (pss_one (ps_ret (pe_or (pe_cmpR op_eq (pv 1) pe_str (nomark _)) (pe_one (pe_cmpR (op_eqD hr.units) (pc D_list_wrong hr (pa_cons (pv 0) pa_nil) (by omega)) (pe_lstK pa_nil) (nomark _)))))))))))), ?_⟩
    have fin : ∀ (p p2 : Addr) (H1 H2 : Hp), Kp [] H H1 → H1 p = some (.lst []) → Kp [] H1 H2 → H2 p2 = some (.lst []) → rEqD K (.ref p) (.ref p2) H2 Q := fun p p2 H1 H2 k1 e1 k2 e2 =>
      ⟨_, _, dp_nil (k2.same _ _ e1), dp_nil e2, shp_nil, shp_nil, by rw [show PyData.eqv (.list []) (.list []) = true by decide +kernel]; exact q _ (k1.trans k2)⟩
    cases ht with
    | A ha => exact ⟨_, rfl, rfl, _, rfl, iteBT (by decide +kernel) ⟨_, rfl, _, _, 40, rfl, hv, ha, Nat.le_refl _, fun H1 p k1 n1 e1 => ⟨sz 0, fun p2 H2 k2 n2 e2 => fin p p2 H1 H2 k1 e1 k2 e2⟩⟩⟩
    | B hb =>
      obtain rfl := hv.inv_int
      exact ⟨_, rfl, rfl, _, rfl, iteBF (by decide +kernel) ⟨_, rfl, rfl, _, rfl, iteBT (by decide +kernel) ⟨_, rfl, _, rfl, by omega, by omega, q _ (Kp.refl _)⟩⟩⟩
    | C hb =>
      obtain rfl := hv.inv_int
      exact ⟨_, rfl, rfl, _, rfl, iteBF (by decide +kernel) ⟨_, rfl, rfl, _, rfl, iteBF (by decide +kernel) ⟨_, rfl, rfl, _, rfl, iteBT (by decide +kernel) ⟨_, rfl, rfl, rfl, _, _, _, rfl, by omega, by omega, q _ (Kp.refl _)⟩⟩⟩⟩
    | F hb =>
      obtain rfl := hv.inv_int
      exact ⟨_, rfl, rfl, _, rfl, iteBF (by decide +kernel) ⟨_, rfl, rfl, _, rfl, iteBF (by decide +kernel) ⟨_, rfl, rfl, _, rfl, iteBF (by decide +kernel) ⟨_, rfl, rfl, _, rfl, iteBT (by decide +kernel) ⟨_, rfl, _, rfl, by omega, by omega, q _ (Kp.refl _)⟩⟩⟩⟩⟩
    | H hb =>
      obtain rfl := hv.inv_int
      exact ⟨_, rfl, rfl, _, rfl, iteBF (by decide +kernel) ⟨_, rfl, rfl, _, rfl, iteBF (by decide +kernel) ⟨_, rfl, rfl, _, rfl, iteBF (by decide +kernel) ⟨_, rfl, rfl, _, rfl, iteBF (by decide +kernel) ⟨_, rfl, rfl, _, rfl, iteBT (by decide +kernel) ⟨_, rfl, rfl, rfl, _, _, _, rfl, by omega, by omega, q _ (Kp.refl _)⟩⟩⟩⟩⟩⟩
    | N h1 h2 =>
      obtain rfl := hv.inv_int
      exact ⟨_, rfl, rfl, _, rfl, iteBF (by decide +kernel) ⟨_, rfl, rfl, _, rfl, iteBF (by decide +kernel) ⟨_, rfl, rfl, _, rfl, iteBF (by decide +kernel) ⟨_, rfl, rfl, _, rfl, iteBF (by decide +kernel) ⟨_, rfl, rfl, _, rfl, iteBF (by decide +kernel) ⟨_, rfl, rfl, _, rfl, iteBT (by decide +kernel) ⟨_, rfl, rfl, rfl, _, _, _, rfl, by omega, by omega, q _ (Kp.refl _)⟩⟩⟩⟩⟩⟩⟩
    | S => exact ⟨_, rfl, rfl, _, rfl, iteBF (by decide +kernel) ⟨_, rfl, rfl, _, rfl, iteBF (by decide +kernel) ⟨_, rfl, rfl, _, rfl, iteBF (by decide +kernel) ⟨_, rfl, rfl, _, rfl, iteBF (by decide +kernel) ⟨_, rfl, rfl, _, rfl, iteBF (by decide +kernel) ⟨_, rfl, rfl, _, rfl, iteBF (by decide +kernel) ⟨_, rfl, rfl, _, rfl, iteBT (by decide +kernel) (q _ (Kp.refl _))⟩⟩⟩⟩⟩⟩⟩
    | L a h1 h2 hl => exact ⟨_, rfl, rfl, _, rfl, iteBF (by decide +kernel) ⟨_, rfl, rfl, _, rfl, iteBF (by decide +kernel) ⟨_, rfl, rfl, _, rfl, iteBF (by decide +kernel) ⟨_, rfl, rfl, _, rfl, iteBF (by decide +kernel) ⟨_, rfl, rfl, _, rfl, iteBF (by decide +kernel) ⟨_, rfl, rfl, _, rfl, iteBF (by decide +kernel) ⟨_, rfl, rfl, _, rfl, iteBF (by decide +kernel) ⟨_, rfl, a, _, _, rfl, hv, h1, h2, hl, fun H1 p k1 n1 e1 => ⟨sz 0, fun p2 H2 k2 n2 e2 => fin p p2 H1 H2 k1 e1 k2 e2⟩⟩⟩⟩⟩⟩⟩⟩⟩
abbrev N_things_wrong : List Str := ["thing", "kinds", "number", "kind"]
theorem sc_things_wrong : FnScope N_things_wrong ["thing", "kinds"] (defScope s_things_wrong) := ⟨rfl, rfl, rfl, by decide +kernel, rfl, by decide +kernel, by decide +kernel⟩
def sp_things_wrong (al : Prop) : Sp := fun vs H Q _ => ∃ v z w ds, vs = [v, .str z] ∧ TD H v (.tuple (w :: ds)) ∧ z.cps.size = ds.length ∧ z.cps.size ≤ 8 ∧ (∀ (i : Nat) c d, z.cps[i]? = some c → ds[i]? = some d → ThingOk al c d) ∧ NewL H [] Q
theorem ok_things_wrong {al : Prop} {n : Nat} (T : Txt K mg) (F : Fd K "things_wrong" "things_wrong" s_things_wrong f fd) (D_is_thing : Cal P w K mg base n "is_thing" ["thing", "kind"] (sp_is_thing al)) :
    FnOk P w K mg base CX0 (n + 1) f fd ["thing", "kinds"] (sp_things_wrong al) := by
  refine FunD.ok F sc_things_wrong (fun vs H Q E h => ?_) (fun cdv A outer s H vs Q E hr h => ?_)
  · obtain ⟨v, z, _, d, rfl, _⟩ := h
    rfl
  · obtain ⟨v, z, w0, ds, rfl, hv, hz, h8, ht, q⟩ := h
    obtain ⟨a, xs, rfl, ha, hx⟩ := hv.inv
    refine ⟨_, PSs.nox (pss_one (ps_ret (pe_slice sl_listK (pe_lc (own := [("number", 2), ("kind", 3)]) (g := (gTup K 2 (gCons (gName 2) (gCons (gName 3) gNil)))) (tt := (tNot (tB (tCall (sp_is_thing al) [] E0 (tCons (tOp (rIxT K) (tVar 0) (tOp (rI0 fun i j => V.int (i + j)) (tVar 2) (tC (.int 1)))) (tCons (tVar 3) tNil)))))) rfl sc_things_wrong.nd (pi_enumS (by rfl) T.b_enumerate (pa_cons (pv 1) pa_nil)) (blkOk_by (N := N_things_wrong) (sc := defScope s_things_wrong) (by decide +kernel)) (fun _ _ _ _ _ => (pg_tup rfl (pgs_cons (pg_name (i := 2) sc_things_wrong.nd rfl (Or.inl rfl)) (pgs_cons (pg_name (i := 3) sc_things_wrong.nd rfl (Or.inl rfl)) pgs_nil)))) (fun _ _ _ _ _ => (pts_one (pt_not (pt_val (pc D_is_thing hr (pa_cons (pe_ix ix_tup (pv 0) (pe_op op_add (pv 2) pe_int) (fun _ _ => rfl)) (pa_cons (pv 3) pa_nil)) (by omega)))))) (fun _ _ _ _ _ => (pe_op op_add (pv 2) pe_int))) po_none (po_some pe_int)))), ?_⟩
    refine ⟨_, rfl, z, rfl, fun D hD => ?_⟩
    refine lc_pure walk_itg (fun i acc _ => acc = []) hD (fun i acc => stb_pure _) rfl (fun H' k => trivial) YPair.kp (fun i acc H' hi r => by rw [r]; exact Nat.zero_le _) (fun i x H1 H2 acc hi k r y N S hN hS => ?_) (fun H' acc k e r => ?_)
    · obtain ⟨U, x0, y0, rfl, nU, rfl, ex, ey⟩ := y
      cases ex
      obtain ⟨c, hc, rfl⟩ := Option.map_eq_some_iff.mp ey
      have hi' : i < ds.length := by rw [← hz]; exact hi
      have hd : ds[i]? = some ds[i] := List.getElem?_eq_getElem hi'
      obtain ⟨u, hu, td⟩ := hx.at (i := i + 1) (d := ds[i]) (by simpa using hd)
      have k6 : Kp [] H1 (upd H1 U (.tup [.int (i : Nat), .str ⟨#[c]⟩])) := Kp.new nU
      have ha1 := (k.trans k6).same _ _ ha
      refine ⟨U, _, rfl, SqT.of upd_same, rfl, _, _, rfl, _, _, rfl, rfl, rfl, ?_⟩
      refine ⟨_, rfl, _, rfl, _, _, rfl, rfl, a, xs, _, u, rfl, rfl, SqT.of ha1, atN (n := i + 1) (by omega) hu, _, rfl, u, c, _, rfl, td.kp (k.trans k6), ht i c _ hc hd, fun H' k' => ⟨_, rfl, iteF (hS H' k' r)⟩⟩
    · refine ⟨_, rfl, D, _, rfl, SqL.of e, ?_⟩
      subst r
      exact q.mk k
end
end L2.K14
set_option Elab.async false
set_option linter.all false
set_option maxRecDepth 100000
set_option maxHeartbeats 4000000
/-! forms, steps, lists, deeds, programs: nothing wrong -/
namespace L2.K14
open PySem PySem.Spec PyProof.Rows
/-! ### the dicts of forms -/
def dwK (x : String) (k : List Nat) : Key × V := (.inr (Str.ofString x), .str ⟨k.toArray⟩)
def stepForms : List (Key × V) := [dwK "copy" [65, 65, 83], dwK "fill" [65, 66, 83], dwK "add" [65, 67], dwK "note" [70], dwK "wait" [70, 78], dwK "fence" []]
def deedForms : List (Key × V) := [dwK "post" [72, 76], dwK "poke" [67, 66], dwK "peek" [67], dwK "join" [72], dwK "see" [70, 78]]
/-- x is a dict of the module, of these items -/
def KForm (P : Program) (w : World) (K : PySem.W.Frag) (mg : Str → Option Value) (x : Str) (kvs : List (Key × V)) : Prop :=
  ∃ d : Addr, GC mg x (.ref d) ∧ ∀ h : Heap, K.In h → ∀ H : Hp, ObjOk P w H h d (.dK kvs)
def rDictK (P : Program) (w : World) (K : PySem.W.Frag) : List V → Hp → VK → Prop := fun xs H Q => ∃ (a : Addr) (kvs : List (Key × V)), xs = [.ref a] ∧ (∀ h : Heap, K.In h → ∀ H : Hp, ObjOk P w H h a (.dK kvs)) ∧ Nw H (.dK kvs) Q
theorem call_dictK {X : Cx} : CallR X (.type "dict") (rDictK X.prog X.w X.K) := by
  intro pins s σ H xs us Q I r q
  obtain ⟨a, kvs, ex, hd, q⟩ := q
  subst ex
  obtain ⟨u, eu, rx⟩ := vals1 r
  subst eu
  cases rx
  obtain ⟨z, lo, vs, rel, dd⟩ := hd s.heap I.kIn H
  refine kt_call_dict lo dd (by rw [← rel.length]; exact z) fun h' d' hs => ?_
  have hm : (s.heap.objs.size == sysModules) = false := beq_eq_false_iff_ne.mpr (Nat.ne_of_gt I.big)
  exact ⟨.ref s.heap.objs.size, upd H s.heap.objs.size (.dK kvs), I.laid (t' := s.toks) (fun b u e => (hs.2 b (Nat.ne_of_lt (Heap.lt_size e))).trans (Heap.get?_push_of_some _ e)) (Nat.le_refl _)
    (show ObjOk X.prog X.w _ _ _ (.dK kvs) from ⟨z, hm, vs, rel, d'⟩), rfl, q.at _ (I.hok.fresh (Nat.le_refl _))⟩
/-! ### words and kinds -/
def Stp.w : Stp → String
  | .copy _ _ _ => "copy" | .fill _ _ _ => "fill" | .add _ _ => "add" | .note _ => "note" | .wait _ _ => "wait" | .fence => "fence"
def Stp.ks : Stp → List Nat
  | .copy _ _ _ => [65, 65, 83] | .fill _ _ _ => [65, 66, 83] | .add _ _ => [65, 67] | .note _ => [70] | .wait _ _ => [70, 78] | .fence => []
def Stp.ds : Stp → List PyData
  | .copy a b k => [a.d, b.d, dN k] | .fill a x k => [a.d, dN x, dN k] | .add a c => [a.d, dN c] | .note f => [dN f] | .wait f n => [dN f, dN n] | .fence => []
theorem Stp.d_eq (s : Stp) : s.d = .tuple (.str (Str.ofString s.w) :: s.ds) := by cases s <;> rfl
theorem Stp.ks_len (s : Stp) : s.ks.length = s.ds.length := by cases s <;> rfl
theorem Stp.ds_len (s : Stp) : s.ds.length ≤ 10 := by cases s <;> simp [Stp.ds]
theorem Stp.form : ∀ s : Stp, valV stepForms (.inr (Str.ofString s.w)) = some (.str ⟨s.ks.toArray⟩)
  | .copy _ _ _ => (by decide +kernel : valV stepForms (.inr (Str.ofString "copy")) = some (.str ⟨([65, 65, 83] : List Nat).toArray⟩))
  | .fill _ _ _ => (by decide +kernel : valV stepForms (.inr (Str.ofString "fill")) = some (.str ⟨([65, 66, 83] : List Nat).toArray⟩))
  | .add _ _ => (by decide +kernel : valV stepForms (.inr (Str.ofString "add")) = some (.str ⟨([65, 67] : List Nat).toArray⟩))
  | .note _ => (by decide +kernel : valV stepForms (.inr (Str.ofString "note")) = some (.str ⟨([70] : List Nat).toArray⟩))
  | .wait _ _ => (by decide +kernel : valV stepForms (.inr (Str.ofString "wait")) = some (.str ⟨([70, 78] : List Nat).toArray⟩))
  | .fence  => (by decide +kernel : valV stepForms (.inr (Str.ofString "fence")) = some (.str ⟨([] : List Nat).toArray⟩))
theorem Stp.things {s : Stp} (h : s.Ok 40) : ∀ (i : Nat) c d, s.ks[i]? = some c → s.ds[i]? = some d → ThingOk False c d := by
  intro i c d h1 h2
  cases s with
  | copy a b k =>
    match i with
    | 0 => cases h1; cases h2; exact .A h.1
    | 1 => cases h1; cases h2; exact .A h.2.1
    | 2 => cases h1; cases h2; exact .S
    | i + 3 => cases h1
  | fill a x k =>
    match i with
    | 0 => cases h1; cases h2; exact .A h.1
    | 1 => cases h1; cases h2; exact .B h.2.1
    | 2 => cases h1; cases h2; exact .S
    | i + 3 => cases h1
  | add a x =>
    match i with
    | 0 => cases h1; cases h2; exact .A h.1
    | 1 => cases h1; cases h2; exact .C (Nat.lt_trans h.2 (by decide))
    | i + 2 => cases h1
  | note f =>
    match i with
    | 0 => cases h1; cases h2; exact .F h
    | i + 1 => cases h1
  | wait f n =>
    match i with
    | 0 => cases h1; cases h2; exact .F h.1
    | 1 => cases h1; cases h2; exact .N h.2.1 h.2.2
    | i + 2 => cases h1
  | fence => cases h1
def Ded.w : Ded → String
  | .post _ _ => "post" | .poke _ _ => "poke" | .peek _ => "peek" | .join _ => "join" | .see _ _ => "see"
def Ded.ks : Ded → List Nat
  | .post _ _ => [72, 76] | .poke _ _ => [67, 66] | .peek _ => [67] | .join _ => [72] | .see _ _ => [70, 78]
def Ded.ds : Ded → List PyData
  | .post h l => [dN h, .tuple (l.map Stp.d)] | .poke c b => [dN c, dN b] | .peek c => [dN c] | .join h => [dN h] | .see f n => [dN f, dN n]
theorem Ded.d_eq (s : Ded) : s.d = .tuple (.str (Str.ofString s.w) :: s.ds) := by cases s <;> rfl
theorem Ded.ks_len (s : Ded) : s.ks.length = s.ds.length := by cases s <;> rfl
theorem Ded.ds_len (s : Ded) : s.ds.length ≤ 10 := by cases s <;> simp [Ded.ds]
theorem Ded.form : ∀ s : Ded, valV deedForms (.inr (Str.ofString s.w)) = some (.str ⟨s.ks.toArray⟩)
  | .post _ _ => (by decide +kernel : valV deedForms (.inr (Str.ofString "post")) = some (.str ⟨([72, 76] : List Nat).toArray⟩))
  | .poke _ _ => (by decide +kernel : valV deedForms (.inr (Str.ofString "poke")) = some (.str ⟨([67, 66] : List Nat).toArray⟩))
  | .peek _ => (by decide +kernel : valV deedForms (.inr (Str.ofString "peek")) = some (.str ⟨([67] : List Nat).toArray⟩))
  | .join _ => (by decide +kernel : valV deedForms (.inr (Str.ofString "join")) = some (.str ⟨([72] : List Nat).toArray⟩))
  | .see _ _ => (by decide +kernel : valV deedForms (.inr (Str.ofString "see")) = some (.str ⟨([70, 78] : List Nat).toArray⟩))
theorem Ded.things {s : Ded} (h : s.Ok 40) : ∀ (i : Nat) c d, s.ks[i]? = some c → s.ds[i]? = some d → ThingOk True c d := by
  intro i c d h1 h2
  cases s with
  | post a l =>
    match i with
    | 0 => cases h1; cases h2; exact .H h.1
    | 1 => cases h1; cases h2; exact .L trivial h.2.1 h.2.2.1 fun s hs => (h.2.2.2 s hs).1
    | i + 2 => cases h1
  | poke c b =>
    match i with
    | 0 => cases h1; cases h2; exact .C (Nat.lt_trans h.1 (by decide))
    | 1 => cases h1; cases h2; exact .B h.2
    | i + 2 => cases h1
  | peek c =>
    match i with
    | 0 => cases h1; cases h2; exact .C (Nat.lt_trans h (by decide))
    | i + 1 => cases h1
  | join f =>
    match i with
    | 0 => cases h1; cases h2; exact .H h
    | i + 1 => cases h1
  | see f n =>
    match i with
    | 0 => cases h1; cases h2; exact .F h.1
    | 1 => cases h1; cases h2; exact .N h.2.1 h.2.2
    | i + 2 => cases h1
section
variable {P : Program} {w : World} {K : PySem.W.Frag} {mg : Str → Option Value} {base : Heap} {f : Addr} {fd : FuncData}
abbrev N_form_of : List Str := ["thing", "forms", "kinds"]
theorem sc_form_of : FnScope N_form_of ["thing", "forms"] (defScope s_form_of) := ⟨rfl, rfl, rfl, by decide +kernel, rfl, by decide +kernel, by decide +kernel⟩
def sp_form_of : Sp := fun vs H Q _ => ∃ v d z x ds kvs, vs = [v, .ref d] ∧ TD H v (.tuple (.str x :: ds)) ∧ SeqAt.shaped (.tuple (.str x :: ds)) = true ∧ H d = some (.dK kvs) ∧ valV kvs (.inr x) = some (.str z) ∧ z.cps.size = ds.length ∧ ds.length ≤ 10 ∧ NewL H [.str z] Q
theorem ok_form_of (T : Txt K mg) (F : Fd K "form_of" "form_of" s_form_of f fd) : FnOk P w K mg base CX0 1 f fd ["thing", "forms"] sp_form_of := by
  refine FunD.ok F sc_form_of (fun vs H Q E h => ?_) (fun cdv A outer s H vs Q E hr h => ?_)
  · obtain ⟨v, d, z, x, ds, kvs, rfl, _⟩ := h
    rfl
  · obtain ⟨v, d, z, x, ds, kvs, rfl, hv, hs, hd, hk, hz, h10, q⟩ := h
    obtain ⟨a, xs, rfl, ha, hx⟩ := hv.inv
    obtain ⟨u, us, rfl, hu, hx'⟩ := hx.inv
    obtain rfl := hu.inv_str
    refine ⟨_, PSs.nox (pss_cons (ps_if (PW.pt (pw_or (pt_not (pt_val (pe_callB call_isi (by rfl) T.b_isinstance (by decide +kernel) (pa_cons (pv 0) (pa_cons (pe_bltn (v := .ty "tuple") (u := .type "tuple") (by rfl) T.b_tuple (by decide +kernel) rfl) pa_nil))))) (pw_or (pt_cmpR (op_eqD hr.units) (pv 0) (pe_tupK pa_nil) (nomark _)) (pw_or (pt_not (pt_val (pe_callB call_isi (by rfl) T.b_isinstance (by decide +kernel) (pa_cons (pe_ix ix_tup (pv 0) pe_int (fun _ _ => rfl)) (pa_cons (pe_bltn (v := .ty "str") (u := .type "str") (by rfl) T.b_str (by decide +kernel) rfl) pa_nil))))) (pw_or1 (pt_cmp (pc_dnotin (hu_of hr) (pe_ix ix_tup (pv 0) pe_int (fun _ _ => rfl)) (pv 1)))))))) (pss_one (ps_ret (pe_lstK pa_nil))) pss_nil)
      (pss_cons (ps_set (i := 2) sc_form_of.nd rfl (Or.inl rfl) (pe_dget (hu_of hr) (pv 1) (pe_ix ix_tup (pv 0) pe_int (fun _ _ => rfl)) (fun _ _ => rfl)))
      (pss_one (ps_ret (pe_ifExp (pt_cmpR op_eq (pe_callB call_len_seq (by rfl) T.b_len PySem.boot_len (pa_cons (pv 0) pa_nil)) (pe_op op_add (pe_callB call_len_str (by rfl) T.b_len PySem.boot_len (pa_cons (pv 2) pa_nil)) pe_int) (nomark _)) (pe_lstK (pa_cons (pv 2) pa_nil)) (pe_lstK pa_nil)))))), ?_⟩
    refine ⟨_, rfl, _, _, _, _, true, rfl, .ty _, .base (.tup ha), kit_ty (by decide +kernel), true, rfl, iteF ?_⟩
    refine ⟨_, rfl, sz 0, fun p H1 k1 n1 e1 => ?_⟩
    refine ⟨_, _, (hv.kp k1).dp _ _, .tup (SqT.of e1) .nil, hs, by decide +kernel, _, rfl, ?_⟩
    refine iteBF (by simp [PyData.eqv, PyData.eqvAll]) ?_
    have ha1 := k1.same _ _ ha
    have hd1 : DGet H1 d (.str x) (some (.str z)) := by
      rw [← hk]
      exact DGet.k (k := .inr x) (k1.same _ _ hd)
    refine ⟨_, rfl, a, _, 0, .str x, rfl, rfl, SqT.of ha1, atN (n := 0) rfl rfl, _, _, _, _, true, rfl, .ty _, .base (.str x), kit_ty (by decide +kernel), true, rfl, iteF ?_⟩
    refine ⟨_, rfl, a, _, 0, .str x, rfl, rfl, SqT.of ha1, atN (n := 0) rfl rfl, _, rfl, d, _, rfl, hd1, _, rfl, iteF ?_⟩
    have hzl : z.length = ds.length := hz
    have hul : us.length = ds.length := hx'.1
    refine ⟨_, rfl, _, rfl, a, _, 0, .str x, rfl, rfl, SqT.of ha1, atN (n := 0) rfl rfl, d, _, rfl, hd1, ?_⟩
    refine ⟨_, rfl, a, _, rfl, .inr (SqT.of ha1), _, rfl, z, rfl, sz _ (by omega), _, _, rfl, rfl, rfl, _, rfl, iteDT ?_ ?_⟩
    · have e : (((V.str x :: us).length : Nat) : Int) = (z.length : Int) + 1 := by
        simp only [List.length_cons]
        omega
      rw [e]
    · exact ⟨_, rfl, sz 1, q.mk k1⟩
abbrev cpfl : List V := [.str (Str.ofString "copy"), .str (Str.ofString "fill")]
theorem nin_note : (!inV (.str (Str.ofString "note")) cpfl) = true := by decide +kernel
theorem nin_wait : (!inV (.str (Str.ofString "wait")) cpfl) = true := by decide +kernel
theorem nin_fence : (!inV (.str (Str.ofString "fence")) cpfl) = true := by decide +kernel
theorem nin_add : (!inV (.str (Str.ofString "add")) cpfl) = true := by decide +kernel
theorem nin_copy : (!inV (.str (Str.ofString "copy")) cpfl) = false := by decide +kernel
theorem nin_fill : (!inV (.str (Str.ofString "fill")) cpfl) = false := by decide +kernel
theorem eq_cc : decide (V.str (Str.ofString "copy") = V.str (Str.ofString "copy")) = true := by decide +kernel
theorem eq_fc : decide (V.str (Str.ofString "fill") = V.str (Str.ofString "copy")) = false := by decide +kernel
abbrev N_step_wrong : List Str := ["thing", "kinds", "wrong"]
theorem sc_step_wrong : FnScope N_step_wrong ["thing"] (defScope s_step_wrong) := ⟨rfl, rfl, rfl, by decide +kernel, rfl, by decide +kernel, by decide +kernel⟩
def sp_step_wrong : Sp := fun vs H Q _ => ∃ (v : V) (t : Stp), vs = [v] ∧ TD H v t.d ∧ t.Ok 40 ∧ NewL H [] Q
theorem ok_step_wrong (T : Txt K mg) (F : Fd K "step_wrong" "step_wrong" s_step_wrong f fd) (SF : KForm P w K mg "STEP_FORMS" stepForms) (W : CalW P w K mg base) (D_own_size : Cal P w K mg base 1 "own_size" ["area"] sp_own_size)
    (D_form_of : Cal P w K mg base 1 "form_of" ["thing", "forms"] sp_form_of) (D_things_wrong : Cal P w K mg base 4 "things_wrong" ["thing", "kinds"] (sp_things_wrong False)) :
    FnOk P w K mg base CX0 5 f fd ["thing"] sp_step_wrong := by
  refine FunD.ok F sc_step_wrong (fun vs H Q E h => ?_) (fun cdv A outer s H vs Q E hr h => ?_)
  · obtain ⟨v, t, rfl, _⟩ := h
    rfl
  · obtain ⟨v, t, rfl, hv, ht, q⟩ := h
    obtain ⟨d, gS, kS⟩ := SF
    refine ⟨_, PSs.nox (pss_cons (ps_for PassesOwn.never rfl (pi_list (pc D_form_of hr (pa_cons (pv 0) (pa_cons (pe_callTy call_dictK (by rfl) T.b_dict (by decide +kernel) (pa_cons (pk gS) pa_nil)) pa_nil)))) (pg_name (i := 1) sc_step_wrong.nd rfl (Or.inl rfl)) (pss_cons (ps_set (i := 2) sc_step_wrong.nd rfl (Or.inl rfl) (pc D_things_wrong hr (pa_cons (pv 0) (pa_cons (pv 1) pa_nil))))
      (pss_cons (ps_if (PW.pt (pw_or (pt_cmpR (op_neD hr.units) (pv 2) (pe_lstK pa_nil) (nomark _)) (pw_or1 (pt_cmpR op_notIn_seq (pe_ix ix_tup (pv 0) pe_int (fun _ _ => rfl)) (pe_tupK (pa_cons (pk T.c_COPY_steps) (pa_cons (pk T.c_FILL_steps) pa_nil))) (by rfl))))) (pss_one (ps_ret (pv 2))) pss_nil)
      (pss_cons (ps_if (PW.pt (pw_and (pt_cmpR op_eq (pe_ix ix_tup (pv 0) pe_int (fun _ _ => rfl)) (pk T.c_COPY_steps) (nomark _)) (pw_and1 (pt_cmpR op_ne (pc D_own_size hr (pa_cons (pe_ix ix_tup (pv 0) pe_int (fun _ _ => rfl)) pa_nil)) (pc D_own_size hr (pa_cons (pe_ix ix_tup (pv 0) pe_int (fun _ _ => rfl)) pa_nil)) (nomark _))))) (pss_one (ps_ret (pe_lstK (pa_cons (pk T.c_SIZE) pa_nil)))) pss_nil)
      (pss_one (ps_ret (pe_ifExp (pt_val (pwM W hr (pa_cons (pe_ix ix_tup (pv 0) pe_int (fun _ _ => rfl)) pa_nil) (pk_cons (pe_op op_sub (pc D_own_size hr (pa_cons (pe_ix ix_tup (pv 0) pe_int (fun _ _ => rfl)) pa_nil)) pe_int) pk_nil))) (pe_lstK pa_nil) (pe_lstK (pa_cons (pk T.c_SKIP) pa_nil)))))))))
      (pss_one (ps_ret (pe_lstK (pa_cons pe_non pa_nil))))), ?_⟩
    refine ⟨_, rfl, d, _, rfl, kS, fun D H1 k1 n1 e1 => ?_⟩
    refine ⟨v, D, ⟨t.ks.toArray⟩, _, t.ds, stepForms, rfl, by rw [← t.d_eq]; exact hv.kp k1, by rw [← t.d_eq]; exact (shp_step t).shaped, e1, t.form, t.ks_len, t.ds_len, fun H2 L k2 n2 e2 => ?_⟩
    refine ⟨L, rfl, ⟨_, SqL.of e2⟩, for_it walk_list (fun i σ H' => i = 0 ∧ Kp [] H2 H' ∧ σ = start N_step_wrong [v]) ⟨rfl, Kp.refl _, rfl⟩ (fun i σ H' _ h => h.2.1.seqL (SqL.of e2)) (fun i x σ H3 H4 hi h y => ?_) (fun σ H3 h => absurd h.1 (by simp))⟩
    obtain ⟨rfl, k3, rfl⟩ := h
    obtain ⟨rfl, hx⟩ := y
    cases hx
    have kA := (k1.trans k2).trans k3
    refine ⟨_, rfl, _, rfl, v, ⟨t.ks.toArray⟩, _, t.ds, rfl, by rw [← t.d_eq]; exact hv.kp kA, t.ks_len, by rw [show (⟨t.ks.toArray⟩ : Str).cps.size = t.ds.length from t.ks_len]; cases t <;> simp [Stp.ds], by simpa using t.things ht, fun H5 p k5 n5 e5 => ?_⟩
    have hv5 := hv.kp (kA.trans k5)
    refine ⟨_, rfl, sz 0, fun p2 H6 k6 n6 e6 => ⟨_, _, dp_nil (k6.same _ _ e5), dp_nil e6, shp_nil, shp_nil, _, rfl, iteBF (by decide +kernel) ?_⟩⟩
    have hv6 := hv5.kp k6
    rw [t.d_eq] at hv6
    obtain ⟨a, xs, rfl, ha, hx⟩ := hv6.inv
    obtain ⟨u, us, rfl, hu, hy⟩ := hx.inv
    obtain rfl := hu.inv_str
    clear hx
    refine ⟨_, rfl, a, _, 0, _, rfl, rfl, SqT.of ha, atN (n := 0) rfl rfl, sz 2, fun p3 H7 k7 n7 e7 => ⟨p3, _, rfl, .inr (SqT.of e7), rfl, rfl, _, rfl, ?_⟩⟩
    have k67 := k6.trans k7
    have kq := (kA.trans k5).trans k67
    have np : H p = none := kA.free n5
    have ha7 := k7.same _ _ ha
    have last : ∀ Q', Q' = Q → tRet (tVar 2) { nx := fun _ _ => False, rt := Q' } [some (.ref a), some (.str ⟨t.ks.toArray⟩), some (.ref p)] H7 := fun Q' z => by
      rw [z]
      exact ⟨_, rfl, q _ p kq np (k67.same _ _ e5)⟩
    cases t with
    | note f => exact iteBT nin_note (last Q rfl)
    | wait f n => exact iteBT nin_wait (last Q rfl)
    | fence => exact iteBT nin_fence (last Q rfl)
    | add a c => exact iteBT nin_add (last Q rfl)
    | copy b c k =>
      refine iteBF nin_copy ?_
      obtain ⟨vb, us, rfl, hb, hy⟩ := hy.inv
      obtain ⟨vc, us, rfl, hc, hy⟩ := hy.inv
      obtain ⟨vk, us, rfl, hk, hy⟩ := hy.inv
      obtain rfl := hk.inv_int
      obtain ⟨ob, oc, sz', lk⟩ := ht
      have cb : b.count ≤ 1000 := by have := ob.cp; have := ob.p40; omega
      have cc : c.count ≤ 1000 := by have := oc.cp; have := oc.p40; omega
      have kb : b.count * b.rows ≤ 8 := by rw [Nat.mul_comm]; exact ob.sz
      refine ⟨_, rfl, a, _, 0, _, rfl, rfl, SqT.of ha7, atN (n := 0) rfl rfl, rfl, _, rfl, iteBT eq_cc ?_⟩
      refine ⟨_, rfl, a, _, 1, _, rfl, rfl, SqT.of ha7, atN (n := 1) rfl rfl, _, b, rfl, hb.kp k7, cb, _, rfl, a, _, 2, _, rfl, rfl, SqT.of ha7, atN (n := 2) rfl rfl, _, c, rfl, hc.kp k7, cc, rfl, _, rfl, iteNS (by rw [sz']) ?_⟩
      exact ⟨_, rfl, a, _, 3, _, rfl, rfl, SqT.of ha7, atN (n := 3) rfl rfl, _, rfl, a, _, 1, _, rfl, rfl, SqT.of ha7, atN (n := 1) rfl rfl, _, b, rfl, hb.kp k7, cb, _, _, rfl, rfl, rfl, rfl, _, _, _, rfl, by omega, by omega, _, rfl, iteT ⟨sz 0, q.mk kq⟩⟩
    | fill b x k =>
      refine iteBF nin_fill ?_
      obtain ⟨vb, us, rfl, hb, hy⟩ := hy.inv
      obtain ⟨vc, us, rfl, hc, hy⟩ := hy.inv
      obtain ⟨vk, us, rfl, hk, hy⟩ := hy.inv
      obtain rfl := hk.inv_int
      obtain ⟨ob, oc, lk⟩ := ht
      have cb : b.count ≤ 1000 := by have := ob.cp; have := ob.p40; omega
      refine ⟨_, rfl, a, _, 0, _, rfl, rfl, SqT.of ha7, atN (n := 0) rfl rfl, rfl, _, rfl, iteBF eq_fc ?_⟩
      refine iteF ?_
      exact ⟨_, rfl, a, _, 3, _, rfl, rfl, SqT.of ha7, atN (n := 3) rfl rfl, _, rfl, a, _, 1, _, rfl, rfl, SqT.of ha7, atN (n := 1) rfl rfl, _, b, rfl, hb.kp k7, cb, _, _, rfl, rfl, rfl, rfl, _, _, _, rfl, by omega, by omega, _, rfl, iteT ⟨sz 0, q.mk kq⟩⟩
abbrev N_list_wrong : List Str := ["thing", "number", "step"]
theorem sc_list_wrong : FnScope N_list_wrong ["thing"] (defScope s_list_wrong) := ⟨rfl, rfl, rfl, by decide +kernel, rfl, by decide +kernel, by decide +kernel⟩
theorem ok_list_wrong (T : Txt K mg) (F : Fd K "list_wrong" "list_wrong" s_list_wrong f fd) (D_step_wrong : Cal P w K mg base 5 "step_wrong" ["thing"] sp_step_wrong) :
    FnOk P w K mg base CX0 6 f fd ["thing"] (sp_list_wrong True) := by
  refine FunD.ok F sc_list_wrong (fun vs H Q E h => ?_) (fun cdv A outer s H vs Q E hr h => ?_)
  · obtain ⟨_, v, t, rfl, _⟩ := h
    rfl
  · obtain ⟨_, v, l, rfl, hv, h1, h4, hl, q⟩ := h
    obtain ⟨p, xs, rfl, hp, hx⟩ := hv.inv
    have hlen : xs.length = l.length := by rw [hx.1, List.length_map]
    refine ⟨_, PSs.nox (pss_cons (ps_if (PW.pt (pw_or (pt_not (pt_val (pe_callB call_isi (by rfl) T.b_isinstance (by decide +kernel) (pa_cons (pv 0) (pa_cons (pe_bltn (v := .ty "tuple") (u := .type "tuple") (by rfl) T.b_tuple (by decide +kernel) rfl) pa_nil))))) (pw_or1 (pt_not (pt_chain op_le op_le pe_int (pe_callB call_len_seq (by rfl) T.b_len PySem.boot_len (pa_cons (pv 0) pa_nil)) (pk T.c_MOST_STEPS)))))) (pss_one (ps_ret (pe_lstK (pa_cons pe_non pa_nil)))) pss_nil)
      (pss_one (ps_ret (pe_slice sl_listK (pe_lc (own := [("number", 1), ("step", 2)]) (g := (gTup K 2 (gCons (gName 1) (gCons (gName 2) gNil)))) (tt := (tTest (tOp (rNeD K) (tCall sp_step_wrong [] E0 (tCons (tVar 2) tNil)) (tLstK tNil)))) rfl sc_list_wrong.nd (pi_enumT (by rfl) T.b_enumerate (pa_cons (pv 0) pa_nil)) (blkOk_by (N := N_list_wrong) (sc := defScope s_list_wrong) (by decide +kernel)) (fun _ _ _ _ _ => (pg_tup rfl (pgs_cons (pg_name (i := 1) sc_list_wrong.nd rfl (Or.inl rfl)) (pgs_cons (pg_name (i := 2) sc_list_wrong.nd rfl (Or.inl rfl)) pgs_nil)))) (fun _ _ _ _ _ => (pts_one (pt_cmpR (op_neD hr.units) (pc D_step_wrong hr (pa_cons (pv 2) pa_nil)) (pe_lstK pa_nil) (nomark _)))) (fun _ _ _ _ _ => (pv 1))) po_none (po_some pe_int))))), ?_⟩
    refine ⟨_, rfl, _, _, _, _, true, rfl, .ty _, .base (.tup hp), kit_ty (by decide +kernel), true, rfl, iteF ?_⟩
    refine ⟨_, rfl, p, _, rfl, .inr (SqT.of hp), _, _, rfl, rfl, _, rfl, iteDT (by omega) ?_⟩
    refine ⟨_, _, rfl, rfl, _, rfl, ?_⟩
    rw [decide_eq_true (show ((xs.length : Nat) : Int) ≤ 64 by omega)]
    refine iteF ?_
    refine ⟨_, rfl, p, _, rfl, SqT.of hp, fun D hD => ?_⟩
    refine lc_pure walk_itg (fun i acc _ => acc = []) hD (fun i acc => stb_pure _) rfl (fun H' k => k.seqT (SqT.of hp)) YPair.kp (fun i acc H' hi r => by rw [r]; exact Nat.zero_le _) (fun i x H1 H2 acc hi k r y N S hN hS => ?_) (fun H' acc k e r => ?_)
    · obtain ⟨U, x0, y0, rfl, nU, rfl, ex, ey⟩ := y
      cases ex
      obtain ⟨d, hd, td⟩ := hx.at' ey
      rw [List.getElem?_map] at hd
      obtain ⟨t, ht, rfl⟩ := Option.map_eq_some_iff.mp hd
      have k6 : Kp [] H1 (upd H1 U (.tup [.int (i : Nat), y0])) := Kp.new nU
      refine ⟨U, _, rfl, SqT.of upd_same, rfl, _, _, rfl, _, _, rfl, rfl, rfl, ?_⟩
      refine ⟨_, rfl, y0, t, rfl, td.kp (k.trans k6), hl t (List.mem_of_getElem? ht), fun H5 p5 k5 n5 e5 => ⟨sz 0, fun p7 H7 k7 n7 e7 => ⟨_, _, dp_nil (k7.same _ _ e5), dp_nil e7, shp_nil, shp_nil, _, rfl, iteBF (by decide +kernel) (hS H7 (k5.trans k7) r)⟩⟩⟩
    · refine ⟨_, rfl, D, _, rfl, SqL.of e, ?_⟩
      subst r
      exact q.mk k
abbrev N_is_deed : List Str := ["thing", "kinds"]
theorem sc_is_deed : FnScope N_is_deed ["thing"] (defScope s_is_deed) := ⟨rfl, rfl, rfl, by decide +kernel, rfl, by decide +kernel, by decide +kernel⟩
def sp_is_deed : Sp := fun vs H Q _ => ∃ (v : V) (t : Ded), vs = [v] ∧ TD H v t.d ∧ t.Ok 40 ∧ ∀ H', Kp [] H H' → Q (.bl true) H'
theorem ok_is_deed (T : Txt K mg) (F : Fd K "is_deed" "is_deed" s_is_deed f fd) (SF : KForm P w K mg "DEED_FORMS" deedForms)
    (D_form_of : Cal P w K mg base 1 "form_of" ["thing", "forms"] sp_form_of) (D_things_wrong : Cal P w K mg base 8 "things_wrong" ["thing", "kinds"] (sp_things_wrong True)) :
    FnOk P w K mg base CX0 9 f fd ["thing"] sp_is_deed := by
  refine FunD.ok F sc_is_deed (fun vs H Q E h => ?_) (fun cdv A outer s H vs Q E hr h => ?_)
  · obtain ⟨v, t, rfl, _⟩ := h
    rfl
  · obtain ⟨v, t, rfl, hv, ht, q⟩ := h
    obtain ⟨d, gS, kS⟩ := SF
    refine ⟨_, PSs.nox (pss_one (ps_ret (pe_callB (cr_any rfl) (by rfl) T.b_any (by decide +kernel) (pa_cons (pe_lc (own := [("kinds", 1)]) (g := (gName 1)) (tt := tYes) (te := (tOp (rEqD K) (tCall (sp_things_wrong True) [] E0 (tCons (tVar 0) (tCons (tVar 1) tNil))) (tLstK tNil))) rfl sc_is_deed.nd (pi_list (pc D_form_of hr (pa_cons (pv 0) (pa_cons (pe_callTy call_dictK (by rfl) T.b_dict (by decide +kernel) (pa_cons (pk gS) pa_nil)) pa_nil)))) (blkOk_by (N := N_is_deed) (sc := defScope s_is_deed) (by decide +kernel)) (fun _ _ _ _ _ => (pg_name (i := 1) sc_is_deed.nd rfl (Or.inl rfl))) (fun _ _ _ _ _ => pts_nil) (fun _ _ _ _ _ => (pe_cmpR (op_eqD hr.units) (pc D_things_wrong hr (pa_cons (pv 0) (pa_cons (pv 1) pa_nil))) (pe_lstK pa_nil) (nomark _)))) pa_nil)))), ?_⟩
    refine ⟨_, rfl, d, _, rfl, kS, fun D H1 k1 n1 e1 => ?_⟩
    refine ⟨v, D, ⟨t.ks.toArray⟩, _, t.ds, deedForms, rfl, by rw [← t.d_eq]; exact hv.kp k1, by rw [← t.d_eq]; exact (shp_deed t).shaped, e1, t.form, t.ks_len, t.ds_len, fun H2 L k2 n2 e2 => ?_⟩
    refine ⟨L, rfl, ⟨_, SqL.of e2⟩, fun D hD => ?_⟩
    refine lc_pure walk_list (fun i acc _ => acc = List.replicate i (.bl true)) hD (fun i acc => stb_pure _) rfl (fun H' k => k.seqL (SqL.of e2)) YAt.kp (fun i acc H' hi r => by rw [r]; simp at hi ⊢; omega) (fun i x H3 H4 acc hi k r y N S hN hS => ?_) (fun H' acc k e r => ?_)
    · obtain ⟨rfl, hx⟩ := y
      have i0 : i = 0 := by simpa using hi
      subst i0
      cases hx
      have kA := (k1.trans k2).trans k
      refine ⟨rfl, _, rfl, _, rfl, v, ⟨t.ks.toArray⟩, _, t.ds, rfl, by rw [← t.d_eq]; exact hv.kp kA, t.ks_len, by rw [show (⟨t.ks.toArray⟩ : Str).cps.size = t.ds.length from t.ks_len]; cases t <;> simp [Ded.ds], by simpa using t.things ht, fun H5 p k5 n5 e5 => ?_⟩
      exact ⟨sz 0, fun p7 H7 k7 n7 e7 => ⟨_, _, dp_nil (k7.same _ _ e5), dp_nil e7, shp_nil, shp_nil, hN _ _ (k5.trans k7) (by rw [r]; decide +kernel)⟩⟩
    · subst r
      refine ⟨D, [true], rfl, SqL.of e, q _ ((k1.trans k2).trans k)⟩
end
end L2.K14
set_option Elab.async false
set_option linter.all false
set_option maxRecDepth 100000
set_option maxHeartbeats 4000000
/-! programs: nothing wrong -/
namespace L2.K14
open PySem PySem.Spec PyProof.Rows
theorem cut_to (xs : List V) (k : Nat) : cutV xs none (some (k : Int)) = xs.take k := by
  unfold cutV
  rw [HT.sIx_none, HT.sIx_nat, List.drop_zero, Nat.sub_zero]
  by_cases h : k ≤ xs.length
  · rw [Nat.min_eq_left h]
  · rw [Nat.min_eq_right (by omega), List.take_of_length_le (Nat.le_refl _), List.take_of_length_le (by omega)]
theorem cut_from (xs : List V) (k : Nat) : cutV xs (some (k : Int)) none = xs.drop k := by
  unfold cutV
  rw [HT.sIx_none, HT.sIx_nat]
  by_cases h : k ≤ xs.length
  · rw [Nat.min_eq_left h, List.take_of_length_le (by simp)]
  · rw [Nat.min_eq_right (by omega), Nat.sub_self, List.take_zero, List.drop_eq_nil_of_le (by omega)]
theorem cut_mid (xs : List V) (a b : Nat) : cutV xs (some (a : Int)) (some (b : Int)) = (xs.drop a).take (b - a) := by
  unfold cutV
  rw [HT.sIx_nat, HT.sIx_nat]
  by_cases h : a ≤ xs.length
  · rw [Nat.min_eq_left h]
    by_cases h2 : b ≤ xs.length
    · rw [Nat.min_eq_left h2]
    · rw [Nat.min_eq_right (by omega), List.take_of_length_le (by simp), List.take_of_length_le (by simp; omega)]
  · rw [Nat.min_eq_right (by omega : xs.length ≤ a), List.drop_eq_nil_of_le (Nat.le_refl _), List.drop_eq_nil_of_le (by omega), List.take_nil, List.take_nil]
theorem TDs.take {H : Hp} {xs : List V} {ds : List PyData} (h : TDs H xs ds) (k : Nat) : TDs H (xs.take k) (ds.take k) := ⟨by simp [h.1], fun i x d h1 h2 => by
  by_cases hi : i < k
  · rw [List.getElem?_take_of_lt hi] at h1 h2
    exact h.2 i x d h1 h2
  · rw [List.getElem?_eq_none (by simp; omega)] at h1
    cases h1⟩
theorem TDs.drop {H : Hp} {xs : List V} {ds : List PyData} (h : TDs H xs ds) (k : Nat) : TDs H (xs.drop k) (ds.drop k) := ⟨by simp [h.1], fun i x d h1 h2 => by
  rw [List.getElem?_drop] at h1 h2
  exact h.2 _ x d h1 h2⟩
theorem TD.stp {H : Hp} {v : V} {t : Stp} (h : TD H v t.d) : ∃ b us, v = .ref b ∧ H b = some (.tup (.str (Str.ofString t.w) :: us)) ∧ TDs H us t.ds := by
  rw [t.d_eq] at h
  obtain ⟨b, us, rfl, hb, hu⟩ := h.inv
  obtain ⟨u0, us, rfl, h0, hy⟩ := hu.inv
  obtain rfl := h0.inv_str
  exact ⟨b, us, rfl, hb, hy⟩
theorem TD.ded {H : Hp} {v : V} {t : Ded} (h : TD H v t.d) : ∃ b us, v = .ref b ∧ H b = some (.tup (.str (Str.ofString t.w) :: us)) ∧ TDs H us t.ds := by
  rw [t.d_eq] at h
  obtain ⟨b, us, rfl, hb, hu⟩ := h.inv
  obtain ⟨u0, us, rfl, h0, hy⟩ := hu.inv
  obtain rfl := h0.inv_str
  exact ⟨b, us, rfl, hb, hy⟩
theorem TDs.nth {H : Hp} {xs : List V} {α : Type} {g : α → PyData} {l : List α} (h : TDs H xs (l.map g)) {i : Nat} {x : V} (e : xs[i]? = some x) : ∃ t, l[i]? = some t ∧ TD H x (g t) := by
  obtain ⟨d, hd, td⟩ := h.at' e
  rw [List.getElem?_map] at hd
  obtain ⟨t, ht, rfl⟩ := Option.map_eq_some_iff.mp hd
  exact ⟨t, ht, td⟩
abbrev vi (n : Nat) : V := .int (n : Int)
theorem walk_rg {n : Nat} : Walk (Itr 0 n) n (fun _ => True) (YFn vi) := walk_range.mono (fun _ h => h) fun i H x H' _ _ y => ⟨y.1, y.2.trans (by show V.int (0 + (i : Int)) = V.int (i : Int); rw [Int.zero_add])⟩
def nums (ns : List Nat) : List V := ns.map vi
theorem flat_nums (ns : List Nat) : (nums ns).all flatV = true := by
  unfold nums
  rw [List.all_map]
  exact List.all_eq_true.mpr fun x _ => rfl
theorem inV_nums (ns : List Nat) (n : Nat) : inV (vi n) (nums ns) = decide (n ∈ ns) := by
  unfold inV nums
  rw [List.any_map]
  rw [Bool.eq_iff_iff, List.any_eq_true, decide_eq_true_iff]
  constructor
  · rintro ⟨x, hx, e⟩
    have e' : ((x : Int) == (n : Int)) = true := e
    have : x = n := by have := of_decide_eq_true e'; omega
    exact this ▸ hx
  · intro h
    exact ⟨n, h, by show ((n : Int) == (n : Int)) = true; simp⟩
/-! ### flags_noted -/
def Ded.two : Ded → PyData
  | .post h _ => dN h | .poke c _ => dN c | .peek c => dN c | .join h => dN h | .see f _ => dN f
def Ded.isPost (h : Nat) : Ded → Bool
  | .post h' _ => decide (h' = h) | _ => false
theorem Ded.two_eq (d : Ded) : (PyData.str (Str.ofString d.w) :: d.ds).take 2 = [.str (Str.ofString d.w), d.two] := by cases d <;> rfl
theorem ofs_post : (Str.ofString "post" == Str.ofString "post") = true := by decide +kernel
theorem ofs_poke : (Str.ofString "poke" == Str.ofString "post") = false := by decide +kernel
theorem ofs_peek : (Str.ofString "peek" == Str.ofString "post") = false := by decide +kernel
theorem ofs_join : (Str.ofString "join" == Str.ofString "post") = false := by decide +kernel
theorem ofs_see : (Str.ofString "see" == Str.ofString "post") = false := by decide +kernel
theorem Ded.eqv_two (d : Ded) (h : Nat) : PyData.eqv (.tuple [.str (Str.ofString d.w), d.two]) (.tuple [.str (Str.ofString "post"), .int (h : Nat)]) = d.isPost h := by
  cases d with
  | post h' l =>
    simp only [Ded.w, Ded.two, Ded.isPost, PyData.eqv, PyData.eqvAll, ofs_post]
    by_cases e : h' = h
    · rw [e]; simp
    · have : ¬ ((h' : Int) = (h : Int)) := by omega
      simp [e, this]
  | poke c b => simp only [Ded.w, Ded.two, Ded.isPost, PyData.eqv, PyData.eqvAll, ofs_poke, Bool.false_and]
  | peek c => simp only [Ded.w, Ded.two, Ded.isPost, PyData.eqv, PyData.eqvAll, ofs_peek, Bool.false_and]
  | join c => simp only [Ded.w, Ded.two, Ded.isPost, PyData.eqv, PyData.eqvAll, ofs_join, Bool.false_and]
  | see c b => simp only [Ded.w, Ded.two, Ded.isPost, PyData.eqv, PyData.eqvAll, ofs_see, Bool.false_and]
theorem Ded.w_ok : ∀ d : Ded, PyData.strOk (Str.ofString d.w) = true
  | .post _ _ => (by decide +kernel : PyData.strOk (Str.ofString "post") = true)
  | .poke _ _ => (by decide +kernel : PyData.strOk (Str.ofString "poke") = true)
  | .peek _ => (by decide +kernel : PyData.strOk (Str.ofString "peek") = true)
  | .join _ => (by decide +kernel : PyData.strOk (Str.ofString "join") = true)
  | .see _ _ => (by decide +kernel : PyData.strOk (Str.ofString "see") = true)
theorem Ded.shp_two (d : Ded) : SeqAt.shaped (.tuple [.str (Str.ofString d.w), d.two]) = true := by
  have := (shp_deed d)
  refine Shp.shaped (n := 2) (.tuple fun x hx => ?_)
  simp at hx
  rcases hx with rfl | rfl
  · exact .str _ d.w_ok
  · cases d <;> exact .int _
theorem shp_ph (h : Nat) : SeqAt.shaped (.tuple [.str (Str.ofString "post"), .int (h : Nat)]) = true := by
  refine Shp.shaped (n := 2) (.tuple fun x hx => ?_)
  simp at hx
  rcases hx with rfl | rfl
  · exact .str _ (by decide +kernel)
  · exact .int _
theorem Ded.isPost_iff {d : Ded} {h : Nat} (e : d.isPost h = true) : ∃ l, d = .post h l := by
  cases d with
  | post h' l => exact ⟨l, by rw [of_decide_eq_true e]⟩
  | _ => cases e
theorem eqs_note (s : Stp) : decide (V.str (Str.ofString s.w) = V.str (Str.ofString "note")) = true → ∃ f, s = .note f := by
  cases s with
  | note f => exact fun _ => ⟨f, rfl⟩
  | copy => exact fun h => absurd h (show ¬ decide (V.str (Str.ofString "copy") = V.str (Str.ofString "note")) = true by decide +kernel)
  | fill => exact fun h => absurd h (show ¬ decide (V.str (Str.ofString "fill") = V.str (Str.ofString "note")) = true by decide +kernel)
  | add => exact fun h => absurd h (show ¬ decide (V.str (Str.ofString "add") = V.str (Str.ofString "note")) = true by decide +kernel)
  | wait => exact fun h => absurd h (show ¬ decide (V.str (Str.ofString "wait") = V.str (Str.ofString "note")) = true by decide +kernel)
  | fence => exact fun h => absurd h (show ¬ decide (V.str (Str.ofString "fence") = V.str (Str.ofString "note")) = true by decide +kernel)
/-- a list of tuples of steps: their notes are those of one helper -/
def Posted (h : Nat) (H : Hp) (acc : List V) : Prop := ∀ x ∈ acc, ∃ l : List Stp, TD H x (.tuple (l.map Stp.d)) ∧ l.length ≤ 4 ∧ ∀ s ∈ l, ∀ f, s = .note f → f / 4 = h
theorem stb_posted (h : Nat) (acc : List V) : Stb fun H => Posted h H acc := fun H H' k p x hx => by
  obtain ⟨l, a, b⟩ := p x hx
  exact ⟨l, a.mono k, b⟩
section
variable {P : Program} {w : World} {K : PySem.W.Frag} {mg : Str → Option Value} {base : Heap} {f : Addr} {fd : FuncData}
abbrev N_flags_noted : List Str := ["program", "helper", "posted", "deed", "steps", "step"]
theorem sc_flags_noted : FnScope N_flags_noted ["program", "helper"] (defScope s_flags_noted) := ⟨rfl, rfl, rfl, by decide +kernel, rfl, by decide +kernel, by decide +kernel⟩
def sp_flags_noted : Sp := fun vs H Q _ => ∃ (v : V) (h : Nat) (p : List Ded), vs = [v, .int (h : Nat)] ∧ TD H v (sheetD p) ∧ SheetOk 40 p ∧ ∀ ns : List Nat, (∀ n ∈ ns, n / 4 = h) → NewL H (nums ns) Q
theorem ok_flags_noted (T : Txt K mg) (F : Fd K "flags_noted" "flags_noted" s_flags_noted f fd) : FnOk P w K mg base CX0 1 f fd ["program", "helper"] sp_flags_noted := by
  refine FunD.ok F sc_flags_noted (fun vs H Q E h => ?_) (fun cdv A outer s H vs Q E hr h => ?_)
  · obtain ⟨v, h, p, rfl, _⟩ := h
    rfl
  · obtain ⟨v, h, ps, rfl, hv, ok, q⟩ := h
    obtain ⟨a, xs, rfl, ha, hx⟩ := hv.inv
    have hlen : xs.length = ps.length := by rw [hx.1, List.length_map]
    refine ⟨_, PSs.nox (pss_cons (ps_setLc (i := 2) (own := [("deed", 3)]) (g := (gName 3)) (tt := (tTest (tOp (rEqD K) (tSl (rSlTK K) (tVar 3) tNoPart (tPart (tC (.int 2)))) (tTupK (tCons (tC (.str "post")) (tCons (tVar 1) tNil)))))) (te := (tOp (rIxT K) (tVar 3) (tC (.int 2)))) rfl sc_flags_noted.nd rfl rfl (sw_true rfl rfl rfl (by decide +kernel)) (pi_tup (pv 0)) (blkOk_by (N := N_flags_noted) (sc := defScope s_flags_noted) (by decide +kernel)) (fun _ _ _ _ _ => (pg_name (i := 3) sc_flags_noted.nd rfl (Or.inl rfl))) (fun _ _ _ _ _ => (pts_one (pt_cmpR (op_eqD hr.units) (pe_slice sl_tupK (pv 3) po_none (po_some pe_int)) (pe_tupK (pa_cons (pk T.c_POST_steps) (pa_cons (pv 1) pa_nil))) (nomark _)))) (fun _ _ _ _ _ => (pe_ix ix_tup (pv 3) pe_int (fun _ _ => rfl))))
      (pss_one (ps_ret (pe_lc2 (own := [("steps", 4), ("step", 5)]) (vs1 := [5]) (g := (gName 4)) (tt := tYes) (wi1 := (iTup K (tVar 4))) (g1 := (gName 5)) (tt1 := (tTest (tOp rEq (tOp (rIxT K) (tVar 5) (tC (.int 0))) (tC (.str "note"))))) (te := (tOp (rIxT K) (tVar 5) (tC (.int 1)))) rfl sc_flags_noted.nd (pi_list (pv 2)) (blkOk_by (N := N_flags_noted) (sc := defScope s_flags_noted) (by decide +kernel)) (by decide) (fun _ _ _ _ _ => (pg_name (i := 4) sc_flags_noted.nd rfl (Or.inl rfl))) (fun _ _ _ _ _ => pts_nil) (fun _ _ _ _ _ => (pi_tup (pv 4))) (fun _ _ _ _ _ => (pg_name (i := 5) sc_flags_noted.nd rfl (Or.inl rfl))) (fun _ _ _ _ _ => (pts_one (pt_cmpR op_eq (pe_ix ix_tup (pv 5) pe_int (fun _ _ => rfl)) (pk T.c_NOTE_steps) (nomark _)))) (fun _ _ _ _ _ => (pe_ix ix_tup (pv 5) pe_int (fun _ _ => rfl))))))), ?_⟩
    refine ⟨_, rfl, a, rfl, ⟨_, SqT.of ha⟩, fun D hD => ?_⟩
    refine lc_pure walk_tup (fun i acc H => Posted h H acc ∧ acc.length ≤ i) hD (fun i acc H H' k r => ⟨stb_posted h acc H H' k r.1, r.2⟩) ⟨fun x hx => (by cases hx), Nat.le_refl _⟩ (fun H' k => k.seqT (SqT.of ha)) YAt.kp (fun i acc H' hi r => by have := ok.l6; omega) (fun i x H1 H2 acc hi k r y N S hN hS => ?_) (fun H' acc k e r => ?_)
    · obtain ⟨rfl, hxi⟩ := y
      obtain ⟨d, hd, td⟩ := hx.at' hxi
      rw [List.getElem?_map] at hd
      obtain ⟨t, ht, rfl⟩ := Option.map_eq_some_iff.mp hd
      have td1 := td.kp k
      rw [t.d_eq] at td1
      obtain ⟨b, ys, rfl, hb, hy⟩ := td1.inv
      refine ⟨rfl, _, rfl, _, rfl, b, ys, rfl, hb, fun p2 H3 k3 e3 => ?_⟩
      have hcut : cutV ys none (some 2) = ys.take 2 := cut_to ys 2
      rw [hcut] at e3
      have dp1 : TD H3 (.ref p2) (.tuple [.str (Str.ofString t.w), t.two]) := by
        rw [← t.two_eq]
        exact TDs.tup e3 ((hy.kp k3).take 2)
      refine ⟨_, rfl, sz 2, fun p4 H4 k4 n4 e4 => ⟨_, _, (dp1.kp k4).dp _ _, (TDs.tup e4 (.cons (.str _) (.cons (.int _) .nil))).dp _ _, t.shp_two, shp_ph h, _, rfl, ?_⟩⟩
      rw [t.eqv_two]
      have k34 := k3.trans k4
      have r4 := stb_posted h acc _ _ k34.tups r.1
      cases hp : t.isPost h with
      | false => exact iteF (hS H4 k34 ⟨r4, by omega⟩)
      | true =>
        obtain ⟨l, rfl⟩ := Ded.isPost_iff hp
        obtain ⟨_, ys, rfl, _, hy⟩ := hy.inv
        obtain ⟨_, ys, rfl, _, hy⟩ := hy.inv
        obtain ⟨vl, ys, rfl, hl, hy⟩ := hy.inv
        have tok := ok.ok _ (List.mem_of_getElem? ht)
        refine iteT ⟨_, rfl, b, _, 2, vl, rfl, rfl, SqT.of (k34.same _ _ hb), atN (n := 2) rfl rfl, hN _ _ k34 ⟨fun x hx => ?_, by simp; exact r.2⟩⟩
        rcases List.mem_append.mp hx with hx | hx
        · exact r4 x hx
        · rw [List.mem_singleton.mp hx]
          exact ⟨l, hl.kp k34, tok.2.2.1, fun s hs f e => (tok.2.2.2 s hs).2 f e⟩
    · -- the notes
      have hl := r.2
      rw [hlen] at hl
      have a6 : acc.length ≤ 6 := Nat.le_trans hl ok.l6
      refine ⟨_, rfl, D, rfl, ⟨_, SqL.of e⟩, fun D2 hD2 => ?_⟩
      refine lc2_pure walk_list (fun i acc2 _ => acc2.length ≤ 100 * i ∧ ∃ ns, acc2 = nums ns ∧ ∀ n ∈ ns, n / 4 = h) hD2 (fun i acc => stb_pure _) ⟨Nat.zero_le _, [], rfl, fun n hn => (by cases hn)⟩ (fun H3 k3 => k3.seqL (SqL.of e)) YAt.kp
        (fun i x H3 H4 acc2 hi k3 e3 r3 y S B hS hB => ?_) (fun H3 acc2 k3 e3 r3 => ?_)
      · obtain ⟨rfl, hxi⟩ := y
        obtain ⟨l, tl, l4, hl2⟩ := stb_posted h acc _ _ k3.tups r.1 x (List.mem_of_getElem? hxi)
        obtain ⟨c, zs, rfl, hc, hz⟩ := tl.inv
        have zl : zs.length = l.length := by rw [hz.1, List.length_map]
        refine ⟨rfl, _, rfl, c, rfl, ⟨_, SqT.of hc⟩, hB _ _ _ _ _ _ (fun j acc3 _ => acc3.length ≤ 100 * i + j ∧ ∃ ns, acc3 = nums ns ∧ ∀ n ∈ ns, n / 4 = h) (Kp.refl _)
          ⟨walk_tup (xs := zs), fun j acc => stb_pure _, r3, fun H k m => ?_, YAt.kp, fun j acc H hj r => by omega, fun j x H5 H6 acc5 hj k5 m5 r5 y N S hN hS => ?_, fun acc H k r => ?_⟩⟩
        · exact SqT.of (m.tups _ _ hc)
        · obtain ⟨rfl, hxj⟩ := y
          obtain ⟨t, ht, td⟩ := hz.nth hxj
          obtain ⟨b, us, rfl, hb, hu⟩ := (td.kp m5).stp
          refine ⟨rfl, _, rfl, b, _, 0, _, rfl, rfl, SqT.of hb, atN (n := 0) rfl rfl, rfl, _, rfl, ?_⟩
          cases hq : decide (V.str (Str.ofString t.w) = V.str (Str.ofString "note")) with
          | false => exact iteF (hS _ (Kp.refl _) ⟨by omega, r5.2⟩)
          | true =>
            obtain ⟨g, rfl⟩ := eqs_note t hq
            obtain ⟨u1, us, rfl, h1, hu⟩ := hu.inv
            obtain rfl := h1.inv_int
            obtain ⟨r51, ns, rfl, hns⟩ := r5
            refine iteT ⟨_, rfl, b, _, 1, _, rfl, rfl, SqT.of hb, atN (n := 1) rfl rfl, hN _ _ (Kp.refl _) ⟨by simp; omega, ns ++ [g], by simp [nums], fun n hn => ?_⟩⟩
            rcases List.mem_append.mp hn with hn | hn
            · exact hns n hn
            · rw [List.mem_singleton.mp hn]
              exact hl2 _ (List.mem_of_getElem? ht) g rfl
        · exact ⟨by omega, r.2⟩
      · obtain ⟨_, ns, rfl, hns⟩ := r3
        exact q ns hns _ _ (k.trans k3) (k.free hD2) e3
/-! ### program_wrong, need_program -/
abbrev N_program_wrong : List Str := ["thing", "number", "deed", "one", "other", "flag"]
theorem sc_program_wrong : FnScope N_program_wrong ["thing"] (defScope s_program_wrong) := ⟨rfl, rfl, rfl, by decide +kernel, rfl, by decide +kernel, by decide +kernel⟩
def sp_program_wrong : Sp := fun vs H Q _ => ∃ (v : V) (p : List Ded), vs = [v] ∧ TD H v (sheetD p) ∧ SheetOk 40 p ∧ NewL H [] Q
theorem ok_program_wrong (T : Txt K mg) (F : Fd K "program_wrong" "program_wrong" s_program_wrong f fd) (D_is_deed : Cal P w K mg base 9 "is_deed" ["thing"] sp_is_deed) (D_flags_noted : Cal P w K mg base 1 "flags_noted" ["program", "helper"] sp_flags_noted) :
    FnOk P w K mg base CX0 10 f fd ["thing"] sp_program_wrong := by
  refine FunD.ok F sc_program_wrong (fun vs H Q E h => ?_) (fun cdv A outer s H vs Q E hr h => ?_)
  · obtain ⟨v, p, rfl, _⟩ := h
    rfl
  · obtain ⟨v, p, rfl, hv, ok, q⟩ := h
    obtain ⟨a, xs, rfl, ha, hx⟩ := hv.inv
    have hlen : xs.length = p.length := by rw [hx.1, List.length_map]
    have l1 := ok.l1
    have l6 := ok.l6
    refine ⟨_, PSs.nox (pss_cons (ps_if (PW.pt (pw_or (pt_not (pt_val (pe_callB call_isi (by rfl) T.b_isinstance (by decide +kernel) (pa_cons (pv 0) (pa_cons (pe_bltn (v := .ty "tuple") (u := .type "tuple") (by rfl) T.b_tuple (by decide +kernel) rfl) pa_nil))))) (pw_or1 (pt_not (pt_chain op_le op_le pe_int (pe_callB call_len_seq (by rfl) T.b_len PySem.boot_len (pa_cons (pv 0) pa_nil)) (pk T.c_MOST_DEEDS)))))) (pss_one (ps_ret (pe_lstK (pa_cons pe_non pa_nil)))) pss_nil)
      (pss_cons (ps_for PassesOwn.never rfl (pi_enumT (by rfl) T.b_enumerate (pa_cons (pv 0) pa_nil)) (pg_tup rfl (pgs_cons (pg_name (i := 1) sc_program_wrong.nd rfl (Or.inl rfl)) (pgs_cons (pg_name (i := 2) sc_program_wrong.nd rfl (Or.inl rfl)) pgs_nil))) (pss_one (ps_if (pt_not (pt_val (pc D_is_deed hr (pa_cons (pv 2) pa_nil)))) (pss_one (ps_ret (pe_lstK (pa_cons (pv 1) pa_nil)))) pss_nil)))
      (pss_cons (ps_asg (pe_tupK (pa_cons (pc D_flags_noted hr (pa_cons (pv 0) (pa_cons pe_int pa_nil))) (pa_cons (pc D_flags_noted hr (pa_cons (pv 0) (pa_cons pe_int pa_nil))) pa_nil))) (pg_tup rfl (pgs_cons (pg_name (i := 3) sc_program_wrong.nd rfl (Or.inr rfl)) (pgs_cons (pg_name (i := 4) sc_program_wrong.nd rfl (Or.inr rfl)) pgs_nil))))
      (pss_one (ps_ret (pe_slice sl_listK (pe_lc (own := [("flag", 5)]) (g := (gName 5)) (tt := (tAnd (tTest (tOp (rIn K false) (tVar 5) (tVar 3))) (tTest (tOp (rIn K false) (tVar 5) (tVar 4))))) rfl sc_program_wrong.nd (pi_range1 (by rfl) T.b_range (pa_cons (pk T.c_FLAGS) pa_nil)) (blkOk_by (N := N_program_wrong) (sc := defScope s_program_wrong) (by decide +kernel)) (fun _ _ _ _ _ => (pg_name (i := 5) sc_program_wrong.nd rfl (Or.inl rfl))) (fun _ _ _ _ _ => (pts_one (PW.pt (pw_and (pt_cmpR op_in_seq (pv 5) (pv 3) (by rfl)) (pw_and1 (pt_cmpR op_in_seq (pv 5) (pv 4) (by rfl))))))) (fun _ _ _ _ _ => (pe_tupK (pa_cons (pk T.c_FLAG) (pa_cons (pv 5) pa_nil))))) po_none (po_some pe_int))))))), ?_⟩
    refine ⟨_, rfl, _, _, _, _, true, rfl, .ty _, .base (.tup ha), kit_ty (by decide +kernel), true, rfl, iteF ?_⟩
    refine ⟨_, rfl, a, _, rfl, .inr (SqT.of ha), _, _, rfl, rfl, _, rfl, iteDT (by omega) ?_⟩
    refine ⟨_, _, rfl, rfl, _, rfl, ?_⟩
    rw [decide_eq_true (show ((xs.length : Nat) : Int) ≤ 24 by omega)]
    refine iteF ?_
    refine ⟨_, rfl, a, _, rfl, SqT.of ha, for_it walk_itg (fun i σ H' => Kp [] H H' ∧ ∃ v1 v2, σ = [some (.ref a), v1, v2, none, none, none]) ⟨Kp.refl _, none, none, rfl⟩ (fun i σ H' _ h => h.1.seqT (SqT.of ha)) (fun i x σ H1 H2 hi h y => ?_) (fun σ H1 h => ?_)⟩
    · obtain ⟨k, v1, v2, rfl⟩ := h
      obtain ⟨U, x0, y0, rfl, nU, rfl, ex, ey⟩ := y
      cases ex
      obtain ⟨t, ht, td⟩ := hx.nth ey
      have k6 : Kp [] H1 (upd H1 U (.tup [.int (i : Nat), y0])) := Kp.new nU
      refine ⟨U, _, rfl, SqT.of upd_same, rfl, _, _, rfl, _, _, rfl, rfl, ?_⟩
      exact ⟨_, rfl, y0, t, rfl, td.kp (k.trans k6), ok.ok t (List.mem_of_getElem? ht), fun H3 k3 => ⟨_, rfl, iteF ⟨(k.trans k6).trans k3, _, _, rfl⟩⟩⟩
    · obtain ⟨k, v1, v2, rfl⟩ := h
      have hv1 := hv.kp k
      refine ⟨_, rfl, _, 0, p, rfl, hv1, ok, fun ns hns H2 p2 k2 n2 e2 => ?_⟩
      refine ⟨_, rfl, _, 1, p, rfl, hv1.kp k2, ok, fun ms hms H3 p3 k3 n3 e3 => ?_⟩
      refine ⟨sz 2, fun p4 H4 k4 n4 e4 => ?_⟩
      refine ⟨p4, _, rfl, SqT.of e4, rfl, _, _, rfl, _, _, rfl, rfl, ?_⟩
      have k14 := (k2.trans k3).trans k4
      have f2 := (k3.trans k4).same _ _ e2
      have f3 := k4.same _ _ e3
      refine ⟨8, rfl, by decide, by decide, fun D hD => ?_⟩
      refine lc_pure walk_rg (fun i acc _ => acc = []) hD (fun i acc => stb_pure _) rfl (fun H' k => trivial) YFn.kp (fun i acc H' hi r => by rw [r]; exact Nat.zero_le _) (fun i x H5 H6 acc hi k5 r y N S hN hS => ?_) (fun H5 acc k5 e5 r => ?_)
      · obtain ⟨rfl, rfl⟩ := y
        refine ⟨rfl, _, rfl, _, rfl, p2, nums ns, rfl, .inl (SqL.of (k5.same _ _ f2)), rfl, flat_nums ns, _, rfl, ?_⟩
        show if inV (vi i) (nums ns) = true then _ else _
        rw [inV_nums]
        by_cases h1 : i ∈ ns
        · refine iteDT h1 ⟨_, rfl, _, rfl, p3, nums ms, rfl, .inl (SqL.of (k5.same _ _ f3)), rfl, flat_nums ms, _, rfl, ?_⟩
          show if inV (vi i) (nums ms) = true then _ else _
          rw [inV_nums]
          refine iteDF (fun h2 => ?_) (hS _ (Kp.refl _) r)
          have := hns i h1
          have := hms i h2
          omega
        · refine iteDF h1 ?_
          exact iteF (hS _ (Kp.refl _) r)
      · refine ⟨_, rfl, D, _, rfl, SqL.of e5, ?_⟩
        subst r
        exact q.mk ((k.trans k14).trans k5)
abbrev N_need_program : List Str := ["thing", "place"]
theorem sc_need_program : FnScope N_need_program ["thing"] (defScope s_need_program) := ⟨rfl, rfl, rfl, by decide +kernel, rfl, by decide +kernel, by decide +kernel⟩
def sp_need_program : Sp := fun vs H Q _ => ∃ (v : V) (p : List Ded), vs = [v] ∧ TD H v (sheetD p) ∧ SheetOk 40 p ∧ ∀ H', Kp [] H H' → Q .non H'
theorem ok_need_program (T : Txt K mg) (F : Fd K "need_program" "need_program" s_need_program f fd) (D_program_wrong : Cal P w K mg base 10 "program_wrong" ["thing"] sp_program_wrong) :
    FnOk P w K mg base CX0 11 f fd ["thing"] sp_need_program := by
  refine FunD.ok F sc_need_program (fun vs H Q E h => ?_) (fun cdv A outer s H vs Q E hr h => ?_)
  · obtain ⟨v, p, rfl, _⟩ := h
    rfl
  · obtain ⟨v, p, rfl, hv, ok, q⟩ := h
    refine ⟨_, PSs.nox (pss_one (ps_for PassesOwn.never rfl (pi_list (pc D_program_wrong hr (pa_cons (pv 0) pa_nil))) (pg_name (i := 1) sc_need_program.nd rfl (Or.inl rfl)) (pss_one ps_never))), ?_⟩
    refine ⟨_, rfl, v, p, rfl, hv, ok, fun H1 L k1 n1 e1 => ?_⟩
    exact ⟨L, rfl, ⟨_, SqL.of e1⟩, for_it walk_list (fun i σ H' => H' = H1) rfl (fun i σ H' _ h => by rw [h]; exact SqL.of e1) (fun i x σ H3 H4 hi h y => absurd hi (by simp)) (fun σ H3 h => by rw [h]; exact q _ k1)⟩
end
end L2.K14
set_option Elab.async false
set_option linter.all false
set_option maxRecDepth 100000
set_option maxHeartbeats 4000000
/-! the cells that steps touch; a memory and a program -/
namespace L2.K14
open PySem PySem.Spec PyProof.Rows
def Ar.row (a : Ar) (r : Nat) : List Nat := (List.range a.count).map fun i => a.start + a.pitch * r + i
theorem Ar.cells_eq (a : Ar) : a.cells = (List.range a.rows).flatMap a.row := rfl
theorem Ar.row_len (a : Ar) (r : Nat) : (a.row r).length = a.count := by simp [Ar.row]
theorem fm_len {α : Type} {f : α → List Nat} {c : Nat} : ∀ l : List α, (∀ x ∈ l, (f x).length = c) → (l.flatMap f).length = l.length * c
  | [], _ => by simp
  | x :: l, h => by
    rw [List.flatMap_cons, List.length_append, fm_len l fun y hy => h y (List.mem_cons_of_mem _ hy), h x (List.mem_cons_self ..), List.length_cons, Nat.succ_mul, Nat.add_comm]
theorem Ar.cells_len (a : Ar) : a.cells.length = a.size := by
  rw [Ar.cells_eq, fm_len _ fun r _ => a.row_len r, List.length_range, Ar.size, Nat.mul_comm]
theorem Ar.cells_lt {a : Ar} {top : Nat} (h : a.Ok top) {c : Nat} (hc : c ∈ a.cells) : c < top := by
  rw [Ar.cells_eq, List.mem_flatMap] at hc
  obtain ⟨r, hr, hc⟩ := hc
  unfold Ar.row at hc
  obtain ⟨i, hi, rfl⟩ := List.mem_map.mp hc
  have hr := List.mem_range.mp hr
  have hi := List.mem_range.mp hi
  have hs := h.span
  have hm : a.pitch * r ≤ (a.rows - 1) * a.pitch := by
    rw [Nat.mul_comm]
    exact Nat.mul_le_mul_right _ (by omega)
  omega
theorem Ar.Ok.size8 {a : Ar} {top : Nat} (h : a.Ok top) : a.size ≤ 8 := by
  have := h.sz
  unfold Ar.size
  rw [Nat.mul_comm]
  exact this
theorem Ar.Ok.pos {a : Ar} {top : Nat} (h : a.Ok top) : 1 ≤ a.size := Nat.mul_le_mul h.c1 h.r1
theorem Ar.Ok.count8 {a : Ar} {top : Nat} (h : a.Ok top) : a.count ≤ 8 := by
  have := h.sz
  have := Nat.le_mul_of_pos_left a.count h.r1
  omega
theorem Ar.Ok.rows8 {a : Ar} {top : Nat} (h : a.Ok top) : a.rows ≤ 8 := by
  have := h.sz
  have := Nat.le_mul_of_pos_right a.rows h.c1
  omega
def Stp.cells : Stp → List Nat
  | .copy a b k => a.cells.drop k ++ b.cells.drop k
  | .fill a _ k => a.cells.drop k
  | .add a c => a.cells ++ [c]
  | _ => []
def Ded.cells : Ded → List Nat
  | .post _ l => l.flatMap Stp.cells
  | .poke c _ => [c]
  | .peek c => [c]
  | _ => []
theorem Stp.cells_len {s : Stp} {top : Nat} (h : s.Ok top) : s.cells.length ≤ 16 := by
  cases s with
  | copy a b k =>
    have := h.1.size8
    have := h.2.1.size8
    have := a.cells_len
    have := b.cells_len
    simp [Stp.cells]
    omega
  | fill a x k =>
    have := h.1.size8
    have := a.cells_len
    simp [Stp.cells]
    omega
  | add a c =>
    have := h.1.size8
    have := a.cells_len
    simp [Stp.cells]
    omega
  | _ => simp [Stp.cells]
theorem Stp.cells_lt {s : Stp} {top : Nat} (h : s.Ok top) : ∀ c ∈ s.cells, c < top := by
  intro c hc
  cases s with
  | copy a b k =>
    rcases List.mem_append.mp hc with hc | hc
    · exact Ar.cells_lt h.1 (List.mem_of_mem_drop hc)
    · exact Ar.cells_lt h.2.1 (List.mem_of_mem_drop hc)
  | fill a x k => exact Ar.cells_lt h.1 (List.mem_of_mem_drop hc)
  | add a x =>
    rcases List.mem_append.mp hc with hc | hc
    · exact Ar.cells_lt h.1 hc
    · rw [List.mem_singleton.mp hc]
      exact h.2
  | _ => cases hc
theorem Ded.cells_lt {d : Ded} {top : Nat} (h : d.Ok top) : ∀ c ∈ d.cells, c < top := by
  intro c hc
  cases d with
  | post a l =>
    obtain ⟨s, hs, hc⟩ := List.mem_flatMap.mp hc
    exact Stp.cells_lt (h.2.2.2 s hs).1 c hc
  | poke a b =>
    rw [List.mem_singleton.mp hc]
    exact h.1
  | peek a =>
    rw [List.mem_singleton.mp hc]
    exact h
  | _ => cases hc
theorem nums_app (a b : List Nat) : nums (a ++ b) = nums a ++ nums b := List.map_append
theorem nums_len (a : List Nat) : (nums a).length = a.length := List.length_map ..
theorem nums_drop (a : List Nat) (k : Nat) : nums (a.drop k) = (nums a).drop k := (List.map_drop ..)
theorem nums_get {a : List Nat} {i : Nat} {x : V} (h : (nums a)[i]? = some x) : ∃ n, a[i]? = some n ∧ x = vi n := by
  unfold nums at h
  rw [List.getElem?_map] at h
  obtain ⟨n, hn, e⟩ := Option.map_eq_some_iff.mp h
  exact ⟨n, hn, e.symm⟩
theorem take_snoc {α : Type} {l : List α} {i : Nat} {x : α} (h : l[i]? = some x) : l.take (i + 1) = l.take i ++ [x] := by
  rw [List.take_add_one, h]
  rfl
section
variable {P : Program} {w : World} {K : PySem.W.Frag} {mg : Str → Option Value} {base : Heap} {f : Addr} {fd : FuncData}
abbrev N_area_cells : List Str := ["area", "start", "count", "rows", "pitch", "row", "at"]
theorem sc_area_cells : FnScope N_area_cells ["area"] (defScope s_area_cells) := ⟨rfl, rfl, rfl, by decide +kernel, rfl, by decide +kernel, by decide +kernel⟩
def sp_area_cells : Sp := fun vs H Q _ => ∃ (v : V) (a : Ar), vs = [v] ∧ TD H v a.d ∧ a.rows ≤ 8 ∧ a.count ≤ 8 ∧ NewL H (nums a.cells) Q
theorem ok_area_cells (T : Txt K mg) (F : Fd K "area_cells" "area_cells" s_area_cells f fd) : FnOk P w K mg base CX0 1 f fd ["area"] sp_area_cells := by
  refine FunD.ok F sc_area_cells (fun vs H Q E h => ?_) (fun cdv A outer s H vs Q E hr h => ?_)
  · obtain ⟨v, a, rfl, _⟩ := h
    rfl
  · obtain ⟨v, a, rfl, hv, r8, c8, q⟩ := h
    obtain ⟨p, rfl, hp⟩ := hv.area
    refine ⟨_, PSs.nox (pss_cons (ps_asg (pv 0) (pg_tup rfl (pgs_cons (pg_name (i := 1) sc_area_cells.nd rfl (Or.inr rfl)) (pgs_cons (pg_name (i := 2) sc_area_cells.nd rfl (Or.inr rfl)) (pgs_cons (pg_name (i := 3) sc_area_cells.nd rfl (Or.inl rfl)) (pgs_cons (pg_name (i := 4) sc_area_cells.nd rfl (Or.inr rfl)) pgs_nil))))))
      (pss_one (ps_ret (pe_lc2 (own := [("row", 5), ("at", 6)]) (vs1 := [6]) (g := (gName 5)) (tt := tYes) (wi1 := _) (g1 := (gName 6)) (tt1 := tYes) rfl sc_area_cells.nd (pi_range1 (by rfl) T.b_range (pa_cons (pv 3) pa_nil)) (blkOk_by (N := N_area_cells) (sc := defScope s_area_cells) (by decide +kernel)) (by decide) (fun _ _ _ _ _ => (pg_name (i := 5) sc_area_cells.nd rfl (Or.inl rfl))) (fun _ _ _ _ _ => pts_nil) (fun _ _ _ _ _ => (pi_range1 (by rfl) T.b_range (pa_cons (pv 2) pa_nil))) (fun _ _ _ _ _ => (pg_name (i := 6) sc_area_cells.nd rfl (Or.inl rfl))) (fun _ _ _ _ _ => pts_nil) (fun _ _ _ _ _ => (pe_op op_add (pe_op op_add (pv 1) (pe_op op_mul (pv 4) (pv 5))) (pv 6))))))), ?_⟩
    refine ⟨_, rfl, p, _, rfl, SqT.of hp, rfl, _, _, rfl, _, _, rfl, _, _, rfl, _, _, rfl, rfl, ?_⟩
    refine ⟨_, rfl, _, rfl, by omega, by omega, fun D hD => ?_⟩
    refine lc2_pure walk_rg (fun i acc _ => acc = nums ((List.range i).flatMap a.row)) hD (fun i acc => stb_pure _) rfl (fun H3 k3 => trivial) YFn.kp (fun i x H3 H4 acc2 hi k3 e3 r3 y S B hS hB => ?_) (fun H3 acc2 k3 e3 r3 => ?_)
    · obtain ⟨rfl, rfl⟩ := y
      refine ⟨rfl, _, rfl, _, rfl, by omega, by omega, hB _ _ _ _ _ _ (fun j acc _ => acc = nums ((List.range i).flatMap a.row ++ (a.row i).take j)) (Kp.refl _)
          ⟨walk_rg, fun j acc => stb_pure _, by rw [r3]; simp, fun H k m => trivial, YFn.kp, fun j acc H hj r => ?_, fun j x H5 H6 acc5 hj k5 m5 r5 y N S hN hS => ?_, fun acc H k r => ?_⟩⟩
      · rw [r, nums_len, List.length_append, fm_len _ fun r _ => a.row_len r, List.length_range, List.length_take]
        have : i * a.count ≤ 8 * 8 := Nat.mul_le_mul (by simp at hi; omega) c8
        omega
      · obtain ⟨rfl, rfl⟩ := y
        have hj' : j < a.count := by simpa using hj
        have hrow : (a.row i)[j]? = some (a.start + a.pitch * i + j) := by simp [Ar.row, hj']
        have i8 : i < 8 := by simp at hi; omega
        refine ⟨rfl, _, rfl, _, rfl, _, rfl, _, _, rfl, rfl, .inr ⟨by omega, by omega⟩, _, _, rfl, rfl, _, rfl, _, _, rfl, rfl, hN _ _ (Kp.refl _) ?_⟩
        rw [r5, take_snoc hrow, ← List.append_assoc, nums_app _ [_]]
        congr 1
      · rw [r, List.range_succ, List.flatMap_append, List.take_of_length_le (by rw [a.row_len]; simp)]
        simp
    · refine q _ _ k3 hD ?_
      rw [e3, r3]
      simp [Ar.cells_eq]
abbrev N_cells_touched : List Str := ["step", "word", "things"]
theorem sc_cells_touched : FnScope N_cells_touched ["step"] (defScope s_cells_touched) := ⟨rfl, rfl, rfl, by decide +kernel, rfl, by decide +kernel, by decide +kernel⟩
def sp_cells_touched : Sp := fun vs H Q _ => ∃ (v : V) (t : Stp), vs = [v] ∧ TD H v t.d ∧ t.Ok 40 ∧ NewL H (nums t.cells) Q
theorem ok_cells_touched (T : Txt K mg) (F : Fd K "cells_touched" "cells_touched" s_cells_touched f fd) (D_area_cells : Cal P w K mg base 1 "area_cells" ["area"] sp_area_cells) : FnOk P w K mg base CX0 2 f fd ["step"] sp_cells_touched := by
  refine FunD.ok F sc_cells_touched (fun vs H Q E h => ?_) (fun cdv A outer s H vs Q E hr h => ?_)
  · obtain ⟨v, t, rfl, _⟩ := h
    rfl
  · obtain ⟨v, t, rfl, hv, ok, q⟩ := h
    obtain ⟨a, us, rfl, ha, hu⟩ := hv.stp
    have ul : us.length ≤ 1000 := by have := hu.1; have := t.ds_len; omega
    refine ⟨_, PSs.nox (pss_cons (ps_asg (pv 0) (pg_star rfl (pgs_cons (pg_name (i := 1) sc_cells_touched.nd rfl (Or.inl rfl)) (pgs_starred (pg_name (i := 2) sc_cells_touched.nd rfl (Or.inl rfl))))))
      (pss_cons (ps_if (pt_cmpR op_eq (pv 1) (pk T.c_COPY_plain) (nomark _)) (pss_one (ps_ret (pe_op op_catK (pe_slice sl_listK (pc D_area_cells hr (pa_cons (pe_ix ix_list (pv 2) pe_int (fun _ _ => rfl)) pa_nil)) (po_some (pe_ix ix_list (pv 2) pe_int (fun _ _ => rfl))) po_none) (pe_slice sl_listK (pc D_area_cells hr (pa_cons (pe_ix ix_list (pv 2) pe_int (fun _ _ => rfl)) pa_nil)) (po_some (pe_ix ix_list (pv 2) pe_int (fun _ _ => rfl))) po_none)))) pss_nil)
      (pss_cons (ps_if (pt_cmpR op_eq (pv 1) (pk T.c_FILL_plain) (nomark _)) (pss_one (ps_ret (pe_slice sl_listK (pc D_area_cells hr (pa_cons (pe_ix ix_list (pv 2) pe_int (fun _ _ => rfl)) pa_nil)) (po_some (pe_ix ix_list (pv 2) pe_int (fun _ _ => rfl))) po_none))) pss_nil)
      (pss_one (ps_ret (pe_ifExp (pt_cmpR op_eq (pv 1) (pk T.c_ADD_plain) (nomark _)) (pe_op op_catK (pc D_area_cells hr (pa_cons (pe_ix ix_list (pv 2) pe_int (fun _ _ => rfl)) pa_nil)) (pe_lstK (pa_cons (pe_ix ix_list (pv 2) pe_int (fun _ _ => rfl)) pa_nil))) (pe_lstK pa_nil))))))), ?_⟩
    refine ⟨_, rfl, a, _, us, rfl, SqT.of ha, ul, fun p np => ?_⟩
    refine ⟨_, _, rfl, _, _, rfl, rfl, ?_⟩
    have kp : Kp [] H (upd H p (.lst us)) := Kp.new np
    have hp : upd H p (.lst us) p = some (.lst us) := upd_same
    revert hp kp
    generalize upd H p (.lst us) = H1
    intro kp hp
    cases t with
    | note x => exact ⟨_, rfl, rfl, _, rfl, iteBF (show decide (V.str (Str.ofString "note") = V.str (Str.ofString "copy")) = false by decide +kernel) ⟨_, rfl, rfl, _, rfl, iteBF (show decide (V.str (Str.ofString "note") = V.str (Str.ofString "fill")) = false by decide +kernel) ⟨_, rfl, rfl, _, rfl, iteBF (show decide (V.str (Str.ofString "note") = V.str (Str.ofString "add")) = false by decide +kernel) ⟨sz 0, q.mk kp⟩⟩⟩⟩
    | wait x y => exact ⟨_, rfl, rfl, _, rfl, iteBF (show decide (V.str (Str.ofString "wait") = V.str (Str.ofString "copy")) = false by decide +kernel) ⟨_, rfl, rfl, _, rfl, iteBF (show decide (V.str (Str.ofString "wait") = V.str (Str.ofString "fill")) = false by decide +kernel) ⟨_, rfl, rfl, _, rfl, iteBF (show decide (V.str (Str.ofString "wait") = V.str (Str.ofString "add")) = false by decide +kernel) ⟨sz 0, q.mk kp⟩⟩⟩⟩
    | fence => exact ⟨_, rfl, rfl, _, rfl, iteBF (show decide (V.str (Str.ofString "fence") = V.str (Str.ofString "copy")) = false by decide +kernel) ⟨_, rfl, rfl, _, rfl, iteBF (show decide (V.str (Str.ofString "fence") = V.str (Str.ofString "fill")) = false by decide +kernel) ⟨_, rfl, rfl, _, rfl, iteBF (show decide (V.str (Str.ofString "fence") = V.str (Str.ofString "add")) = false by decide +kernel) ⟨sz 0, q.mk kp⟩⟩⟩⟩
    | add b c =>
      obtain ⟨vb, us, rfl, hb, hu⟩ := hu.inv
      obtain ⟨vc, us, rfl, hc, hu⟩ := hu.inv
      obtain rfl := hc.inv_int
      have s8 := ok.1.size8
      refine ⟨_, rfl, rfl, _, rfl, iteBF (show decide (V.str (Str.ofString "add") = V.str (Str.ofString "copy")) = false by decide +kernel) ⟨_, rfl, rfl, _, rfl, iteBF (show decide (V.str (Str.ofString "add") = V.str (Str.ofString "fill")) = false by decide +kernel) ⟨_, rfl, rfl, _, rfl, iteBT (show decide (V.str (Str.ofString "add") = V.str (Str.ofString "add")) = true by decide +kernel) ?_⟩⟩⟩
      refine ⟨_, rfl, p, _, 0, vb, rfl, rfl, SqL.of hp, atN (n := 0) rfl rfl, _, b, rfl, hb.kp kp, ok.1.rows8, ok.1.count8, fun H2 L k2 n2 e2 => ?_⟩
      refine ⟨_, rfl, p, _, 1, _, rfl, rfl, SqL.of (k2.same _ _ hp), atN (n := 1) rfl rfl, sz 1, fun L3 H3 k3 n3 e3 => ?_⟩
      refine ⟨L, L3, _, _, rfl, rfl, k3.same _ _ e2, e3, sz _ (by rw [nums_len, Ar.cells_len]; simp; omega), ?_⟩
      have := q.mk ((kp.trans k2).trans k3)
      rw [show nums (Stp.add b c).cells = nums b.cells ++ [vi c] from nums_app _ _] at this
      exact this
    | fill b x k =>
      obtain ⟨vb, us, rfl, hb, hu⟩ := hu.inv
      obtain ⟨vc, us, rfl, hc, hu⟩ := hu.inv
      obtain ⟨vk, us, rfl, hk, hu⟩ := hu.inv
      obtain rfl := hk.inv_int
      refine ⟨_, rfl, rfl, _, rfl, iteBF (show decide (V.str (Str.ofString "fill") = V.str (Str.ofString "copy")) = false by decide +kernel) ⟨_, rfl, rfl, _, rfl, iteBT (show decide (V.str (Str.ofString "fill") = V.str (Str.ofString "fill")) = true by decide +kernel) ?_⟩⟩
      refine ⟨_, rfl, p, _, 0, vb, rfl, rfl, SqL.of hp, atN (n := 0) rfl rfl, _, b, rfl, hb.kp kp, ok.1.rows8, ok.1.count8, fun H2 L k2 n2 e2 => ?_⟩
      refine ⟨_, rfl, p, _, 2, _, rfl, rfl, SqL.of (k2.same _ _ hp), atN (n := 2) rfl rfl, _, rfl, L, _, rfl, SqL.of e2, ?_⟩
      have := q.mk (kp.trans k2)
      rw [cut_from, ← nums_drop]
      exact this
    | copy b c k =>
      obtain ⟨vb, us, rfl, hb, hu⟩ := hu.inv
      obtain ⟨vc, us, rfl, hc, hu⟩ := hu.inv
      obtain ⟨vk, us, rfl, hk, hu⟩ := hu.inv
      obtain rfl := hk.inv_int
      have s8 := ok.1.size8
      have t8 := ok.2.1.size8
      refine ⟨_, rfl, rfl, _, rfl, iteBT (show decide (V.str (Str.ofString "copy") = V.str (Str.ofString "copy")) = true by decide +kernel) ?_⟩
      refine ⟨_, rfl, p, _, 0, vb, rfl, rfl, SqL.of hp, atN (n := 0) rfl rfl, _, b, rfl, hb.kp kp, ok.1.rows8, ok.1.count8, fun H2 L k2 n2 e2 => ?_⟩
      refine ⟨_, rfl, p, _, 2, _, rfl, rfl, SqL.of (k2.same _ _ hp), atN (n := 2) rfl rfl, _, rfl, L, _, rfl, SqL.of e2, fun L3 H3 k3 n3 e3 => ?_⟩
      have k13 := kp.trans (k2.trans k3)
      have hp3 := (k2.trans k3).same _ _ hp
      refine ⟨_, rfl, p, _, 1, vc, rfl, rfl, SqL.of hp3, atN (n := 1) rfl rfl, _, c, rfl, hc.kp k13, ok.2.1.rows8, ok.2.1.count8, fun H4 L4 k4 n4 e4 => ?_⟩
      refine ⟨_, rfl, p, _, 2, _, rfl, rfl, SqL.of (k4.same _ _ hp3), atN (n := 2) rfl rfl, _, rfl, L4, _, rfl, SqL.of e4, fun L5 H5 k5 n5 e5 => ?_⟩
      rw [cut_from, ← nums_drop] at e3 e5
      refine ⟨L3, L5, _, _, rfl, rfl, (k4.trans k5).same _ _ e3, e5, sz _ (by rw [nums_len, nums_len, List.length_drop, List.length_drop, Ar.cells_len, Ar.cells_len]; omega), ?_⟩
      have := q.mk (k13.trans (k4.trans k5))
      rw [show nums (Stp.copy b c k).cells = nums (b.cells.drop k) ++ nums (c.cells.drop k) from nums_app _ _] at this
      exact this
abbrev N_deed_cells : List Str := ["deed", "step", "cell"]
theorem sc_deed_cells : FnScope N_deed_cells ["deed"] (defScope s_deed_cells) := ⟨rfl, rfl, rfl, by decide +kernel, rfl, by decide +kernel, by decide +kernel⟩
def sp_deed_cells : Sp := fun vs H Q _ => ∃ (v : V) (t : Ded), vs = [v] ∧ TD H v t.d ∧ t.Ok 40 ∧ NewL H (nums t.cells) Q
theorem ok_deed_cells (T : Txt K mg) (F : Fd K "deed_cells" "deed_cells" s_deed_cells f fd) (D_cells_touched : Cal P w K mg base 2 "cells_touched" ["step"] sp_cells_touched) : FnOk P w K mg base CX0 3 f fd ["deed"] sp_deed_cells := by
  refine FunD.ok F sc_deed_cells (fun vs H Q E h => ?_) (fun cdv A outer s H vs Q E hr h => ?_)
  · obtain ⟨v, t, rfl, _⟩ := h
    rfl
  · obtain ⟨v, t, rfl, hv, ok, q⟩ := h
    obtain ⟨a, us, rfl, ha, hu⟩ := hv.ded
    refine ⟨_, PSs.nox (pss_cons (ps_if (pt_cmpR op_eq (pe_ix ix_tup (pv 0) pe_int (fun _ _ => rfl)) (pk T.c_POST_plain) (nomark _)) (pss_one (ps_ret (pe_lc2 (own := [("step", 1), ("cell", 2)]) (vs1 := [2]) (g := (gName 1)) (tt := tYes) (wi1 := (iList K (tCall sp_cells_touched [] E0 (tCons (tVar 1) tNil)))) (g1 := (gName 2)) (tt1 := tYes) rfl sc_deed_cells.nd (pi_tup (pe_ix ix_tup (pv 0) pe_int (fun _ _ => rfl))) (blkOk_by (N := N_deed_cells) (sc := defScope s_deed_cells) (by decide +kernel)) (by decide) (fun _ _ _ _ _ => (pg_name (i := 1) sc_deed_cells.nd rfl (Or.inl rfl))) (fun _ _ _ _ _ => pts_nil) (fun _ _ _ _ _ => (pi_list (pc D_cells_touched hr (pa_cons (pv 1) pa_nil)))) (fun _ _ _ _ _ => (pg_name (i := 2) sc_deed_cells.nd rfl (Or.inl rfl))) (fun _ _ _ _ _ => pts_nil) (fun _ _ _ _ _ => (pv 2))))) pss_nil)
      (pss_one (ps_ret (pe_ifExp (pt_cmpR op_in_seq (pe_ix ix_tup (pv 0) pe_int (fun _ _ => rfl)) (pe_tupK (pa_cons (pk T.c_POKE) (pa_cons (pk T.c_PEEK) pa_nil))) (by rfl)) (pe_lstK (pa_cons (pe_ix ix_tup (pv 0) pe_int (fun _ _ => rfl)) pa_nil)) (pe_lstK pa_nil))))), ?_⟩
    refine ⟨_, rfl, a, _, 0, _, rfl, rfl, SqT.of ha, atN (n := 0) rfl rfl, ?_⟩
    cases t with
    | post h l =>
      obtain ⟨vh, us, rfl, hh, hu⟩ := hu.inv
      obtain ⟨vl, us, rfl, hl, hu⟩ := hu.inv
      obtain ⟨b, zs, rfl, hb, hz⟩ := hl.inv
      have zl : zs.length = l.length := by rw [hz.1, List.length_map]
      have l4 := ok.2.2.1
      refine ⟨rfl, _, rfl, iteBT (show decide (V.str (Str.ofString "post") = V.str (Str.ofString "post")) = true by decide +kernel) ?_⟩
      refine ⟨_, rfl, a, _, 2, _, rfl, rfl, SqT.of ha, atN (n := 2) rfl rfl, b, rfl, ⟨_, SqT.of hb⟩, fun D hD => ?_⟩
      refine lc2_pure walk_tup (fun i acc _ => acc.length ≤ 100 * i ∧ acc = nums ((l.take i).flatMap Stp.cells)) hD (fun i acc => stb_pure _) ⟨Nat.zero_le _, rfl⟩ (fun H3 k3 => k3.seqT (SqT.of hb)) YAt.kp (fun i x H3 H4 acc2 hi k3 e3 r3 y S B hS hB => ?_) (fun H3 acc2 k3 e3 r3 => ?_)
      · obtain ⟨rfl, hx⟩ := y
        obtain ⟨t, ht, td⟩ := hz.nth hx
        have tok := (ok.2.2.2 t (List.mem_of_getElem? ht)).1
        have tl := Stp.cells_len tok
        refine ⟨rfl, _, rfl, x, t, rfl, td.kp k3, tok, fun H5 L k5 n5 e5 => ⟨L, rfl, ⟨_, SqL.of e5⟩, ?_⟩⟩
        have nD : L ≠ D := fun z => by rw [z, e3] at n5; cases n5
        exact hB _ _ _ _ _ _ (fun j acc _ => acc.length ≤ 100 * i + j ∧ acc = nums ((l.take i).flatMap Stp.cells ++ t.cells.take j)) k5
          ⟨walk_list, fun j acc => stb_pure _, ⟨r3.1, by rw [r3.2]; simp⟩, fun H k m => SqL.of (m.keep _ _ e5 (by simp [nD])), YAt.kp, fun j acc H hj r => (by rw [nums_len] at hj; omega), fun j x H6 H7 acc5 hj k6 m6 r6 y N S hN hS => (by
            obtain ⟨rfl, hy⟩ := y
            obtain ⟨n, hn, rfl⟩ := nums_get hy
            obtain ⟨r61, r62⟩ := r6
            refine ⟨rfl, _, rfl, hN _ _ (Kp.refl _) ⟨by simp; omega, ?_⟩⟩
            rw [r62, take_snoc hn, ← List.append_assoc, nums_app _ [_]]
            rfl), fun acc H k r => (by
            obtain ⟨r1, r2⟩ := r
            rw [nums_len] at r1 r2
            refine ⟨by omega, ?_⟩
            rw [r2, take_snoc ht, List.flatMap_append, List.take_of_length_le (Nat.le_refl _)]
            simp)⟩
      · refine q _ _ k3 hD ?_
        rw [e3, r3.2, zl, List.take_of_length_le (Nat.le_refl _)]
        rfl
    | poke c x =>
      obtain ⟨vc, us, rfl, hc, hu⟩ := hu.inv
      obtain rfl := hc.inv_int
      refine ⟨rfl, _, rfl, iteBF (show decide (V.str (Str.ofString "poke") = V.str (Str.ofString "post")) = false by decide +kernel) ?_⟩
      refine ⟨_, rfl, a, _, 0, _, rfl, rfl, SqT.of ha, atN (n := 0) rfl rfl, sz 2, fun p2 H2 k2 n2 e2 => ⟨p2, _, rfl, .inr (SqT.of e2), rfl, rfl, _, rfl, iteBT (show inV (.str (Str.ofString "poke")) [.str (Str.ofString "poke"), .str (Str.ofString "peek")] = true by decide +kernel) ?_⟩⟩
      exact ⟨_, rfl, a, _, 1, _, rfl, rfl, SqT.of (k2.same _ _ ha), atN (n := 1) rfl rfl, sz 1, q.mk k2⟩
    | peek c =>
      obtain ⟨vc, us, rfl, hc, hu⟩ := hu.inv
      obtain rfl := hc.inv_int
      refine ⟨rfl, _, rfl, iteBF (show decide (V.str (Str.ofString "peek") = V.str (Str.ofString "post")) = false by decide +kernel) ?_⟩
      refine ⟨_, rfl, a, _, 0, _, rfl, rfl, SqT.of ha, atN (n := 0) rfl rfl, sz 2, fun p2 H2 k2 n2 e2 => ⟨p2, _, rfl, .inr (SqT.of e2), rfl, rfl, _, rfl, iteBT (show inV (.str (Str.ofString "peek")) [.str (Str.ofString "poke"), .str (Str.ofString "peek")] = true by decide +kernel) ?_⟩⟩
      exact ⟨_, rfl, a, _, 1, _, rfl, rfl, SqT.of (k2.same _ _ ha), atN (n := 1) rfl rfl, sz 1, q.mk k2⟩
    | join c =>
      refine ⟨rfl, _, rfl, iteBF (show decide (V.str (Str.ofString "join") = V.str (Str.ofString "post")) = false by decide +kernel) ?_⟩
      exact ⟨_, rfl, a, _, 0, _, rfl, rfl, SqT.of ha, atN (n := 0) rfl rfl, sz 2, fun p2 H2 k2 n2 e2 => ⟨p2, _, rfl, .inr (SqT.of e2), rfl, rfl, _, rfl, iteBF (show inV (.str (Str.ofString "join")) [.str (Str.ofString "poke"), .str (Str.ofString "peek")] = false by decide +kernel) ⟨sz 0, q.mk k2⟩⟩⟩
    | see c n =>
      refine ⟨rfl, _, rfl, iteBF (show decide (V.str (Str.ofString "see") = V.str (Str.ofString "post")) = false by decide +kernel) ?_⟩
      exact ⟨_, rfl, a, _, 0, _, rfl, rfl, SqT.of ha, atN (n := 0) rfl rfl, sz 2, fun p2 H2 k2 n2 e2 => ⟨p2, _, rfl, .inr (SqT.of e2), rfl, rfl, _, rfl, iteBF (show inV (.str (Str.ofString "see")) [.str (Str.ofString "poke"), .str (Str.ofString "peek")] = false by decide +kernel) ⟨sz 0, q.mk k2⟩⟩⟩
end
end L2.K14
set_option Elab.async false
set_option linter.all false
set_option maxRecDepth 100000
set_option maxHeartbeats 4000000
/-! a memory and a program -/
namespace L2.K14
open PySem PySem.Spec PyProof.Rows
theorem Ded.Ok.mono {s : Ded} {t u : Nat} (h : s.Ok t) (l : t ≤ u) : s.Ok u := by
  cases s with
  | post a ls => exact ⟨h.1, h.2.1, h.2.2.1, fun s hs => ⟨(h.2.2.2 s hs).1.mono l, (h.2.2.2 s hs).2⟩⟩
  | poke c b => exact ⟨Nat.lt_of_lt_of_le h.1 l, h.2⟩
  | peek c => exact Nat.lt_of_lt_of_le h l
  | join f => exact h
  | see f n => exact h
theorem SheetOk.mono {p : List Ded} {t u : Nat} (h : SheetOk t p) (l : t ≤ u) : SheetOk u p := ⟨h.l1, h.l6, fun d hd => (h.ok d hd).mono l⟩
/-- a memory of the law's draws -/
structure MemOk (m : List Nat) : Prop where
  l1 : 1 ≤ m.length
  l40 : m.length ≤ 40
  b : ∀ x ∈ m, x < 256
theorem foldl_max_lt {t : Int} : ∀ (l : List Int) (n : Int), n < t → (∀ x ∈ l, x < t) → l.foldl max n < t
  | [], n, h, _ => h
  | x :: l, n, h, g => foldl_max_lt l (max n x) (by have := g x (List.mem_cons_self ..); omega) fun y hy => g y (List.mem_cons_of_mem _ hy)
theorem maxDI_lt {l : List Int} {t : Int} (h0 : 0 < t) (h : ∀ x ∈ l, x < t) : maxDI 0 l < t := by
  cases l with
  | nil => exact h0
  | cons n r => exact foldl_max_lt r n (h n (List.mem_cons_self ..)) fun x hx => h x (List.mem_cons_of_mem _ hx)
theorem nums_map (cs : List Nat) : nums cs = (cs.map fun n : Nat => (n : Int)).map V.int := by
  unfold nums
  rw [List.map_map]
  rfl
section
variable {P : Program} {w : World} {K : PySem.W.Frag} {mg : Str → Option Value} {base : Heap} {f : Addr} {fd : FuncData}
abbrev N_need_memory : List Str := ["memory"]
theorem sc_need_memory : FnScope N_need_memory ["memory"] (defScope s_need_memory) := ⟨rfl, rfl, rfl, by decide +kernel, rfl, by decide +kernel, by decide +kernel⟩
def sp_need_memory : Sp := fun vs H Q _ => ∃ v m, vs = [v] ∧ TD H v (memD m) ∧ MemOk m ∧ ∀ H', Kp [] H H' → Q .non H'
theorem ok_need_memory (T : Txt K mg) (F : Fd K "need_memory" "need_memory" s_need_memory f fd) (D_is_memory : Cal P w K mg base 3 "is_memory" ["thing"] sp_is_memory) : FnOk P w K mg base CX0 4 f fd ["memory"] sp_need_memory := by
  refine FunD.ok F sc_need_memory (fun vs H Q E h => ?_) (fun cdv A outer s H vs Q E hr h => ?_)
  · obtain ⟨v, m, rfl, _⟩ := h
    rfl
  · obtain ⟨v, m, rfl, hv, ok, q⟩ := h
    refine ⟨_, PSs.nox (pss_one (ps_if (pt_not (pt_val (pc D_is_memory hr (pa_cons (pv 0) pa_nil)))) (pss_one ps_never) pss_nil)), ?_⟩
    exact ⟨_, rfl, v, m, rfl, hv, ok.l1, ok.l40, ok.b, fun H1 k1 => ⟨_, rfl, iteF (q H1 k1)⟩⟩
abbrev N_need_inside : List Str := ["memory", "cells"]
theorem sc_need_inside : FnScope N_need_inside ["memory", "cells"] (defScope s_need_inside) := ⟨rfl, rfl, rfl, by decide +kernel, rfl, by decide +kernel, by decide +kernel⟩
def sp_need_inside : Sp := fun vs H Q _ => ∃ v m L cs, vs = [v, .ref L] ∧ TD H v (memD m) ∧ 1 ≤ m.length ∧ H L = some (.lst (nums cs)) ∧ (∀ c ∈ cs, c < m.length) ∧ Q .non H
theorem ok_need_inside (T : Txt K mg) (F : Fd K "need_inside" "need_inside" s_need_inside f fd) : FnOk P w K mg base CX0 1 f fd ["memory", "cells"] sp_need_inside := by
  refine FunD.ok F sc_need_inside (fun vs H Q E h => ?_) (fun cdv A outer s H vs Q E hr h => ?_)
  · obtain ⟨v, m, L, cs, rfl, _⟩ := h
    rfl
  · obtain ⟨v, m, L, cs, rfl, hv, h1, hL, hc, q⟩ := h
    obtain ⟨p, rfl, hp⟩ := hv.mem
    rw [nums_map] at hL
    refine ⟨_, PSs.nox (pss_one (ps_if (pt_cmpR op_ge (pe_callBK (cr_maxDI rfl hr.units) (by rfl) T.b_max (by decide +kernel) (pa_cons (pv 1) pa_nil) (pk_cons pe_int pk_nil)) (pe_callB call_len_seq (by rfl) T.b_len PySem.boot_len (pa_cons (pv 0) pa_nil)) (nomark _)) (pss_one ps_never) pss_nil)), ?_⟩
    refine ⟨_, rfl, L, _, 0, rfl, rfl, SqL.of hL, _, rfl, p, _, rfl, .inr (SqT.of hp), _, _, rfl, rfl, _, rfl, iteDF ?_ q⟩
    have := maxDI_lt (t := (m.length : Int)) (l := cs.map fun n : Nat => (n : Int)) (by omega) (fun x hx => by
      obtain ⟨n, hn, rfl⟩ := List.mem_map.mp hx
      have := hc n hn
      omega)
    rw [List.length_map]
    omega
abbrev N_need_both : List Str := ["memory", "program", "deed", "cell"]
theorem sc_need_both : FnScope N_need_both ["memory", "program"] (defScope s_need_both) := ⟨rfl, rfl, rfl, by decide +kernel, rfl, by decide +kernel, by decide +kernel⟩
def sp_need_both : Sp := fun vs H Q _ => ∃ v u m p, vs = [v, u] ∧ TD H v (memD m) ∧ TD H u (sheetD p) ∧ MemOk m ∧ SheetOk m.length p ∧ ∀ H', Kp [] H H' → Q .non H'
theorem Ded.cells_len {d : Ded} {top : Nat} (h : d.Ok top) : d.cells.length ≤ 64 := by
  cases d with
  | post a l =>
    have : ∀ l : List Stp, (∀ s ∈ l, s.Ok top) → (l.flatMap Stp.cells).length ≤ 16 * l.length := by
      intro l
      induction l with
      | nil => intro _; simp
      | cons s l ih =>
        intro h
        rw [List.flatMap_cons, List.length_append, List.length_cons]
        have := ih fun s hs => h s (List.mem_cons_of_mem _ hs)
        have := Stp.cells_len (h s (List.mem_cons_self ..))
        omega
    have := this l fun s hs => (h.2.2.2 s hs).1
    have := h.2.2.1
    show (l.flatMap Stp.cells).length ≤ 64
    omega
  | _ => simp [Ded.cells]
theorem ok_need_both (T : Txt K mg) (F : Fd K "need_both" "need_both" s_need_both f fd) (D_need_memory : Cal P w K mg base 4 "need_memory" ["memory"] sp_need_memory) (D_need_program : Cal P w K mg base 11 "need_program" ["thing"] sp_need_program)
    (D_need_inside : Cal P w K mg base 1 "need_inside" ["memory", "cells"] sp_need_inside) (D_deed_cells : Cal P w K mg base 3 "deed_cells" ["deed"] sp_deed_cells) : FnOk P w K mg base CX0 12 f fd ["memory", "program"] sp_need_both := by
  refine FunD.ok F sc_need_both (fun vs H Q E h => ?_) (fun cdv A outer s H vs Q E hr h => ?_)
  · obtain ⟨v, u, m, p, rfl, _⟩ := h
    rfl
  · obtain ⟨v, u, m, p, rfl, hv, hu, ok, sok, q⟩ := h
    have sok40 := sok.mono ok.l40
    refine ⟨_, PSs.nox (pss_cons (ps_expr (pc D_need_memory hr (pa_cons (pv 0) pa_nil)))
      (pss_cons (ps_expr (pc D_need_program hr (pa_cons (pv 1) pa_nil)))
      (pss_one (ps_expr (pc D_need_inside hr (pa_cons (pv 0) (pa_cons (pe_lc2 (own := [("deed", 2), ("cell", 3)]) (vs1 := [3]) (g := (gName 2)) (tt := tYes) (wi1 := (iList K (tCall sp_deed_cells [] E0 (tCons (tVar 2) tNil)))) (g1 := (gName 3)) (tt1 := tYes) rfl sc_need_both.nd (pi_tup (pv 1)) (blkOk_by (N := N_need_both) (sc := defScope s_need_both) (by decide +kernel)) (by decide) (fun _ _ _ _ _ => (pg_name (i := 2) sc_need_both.nd rfl (Or.inl rfl))) (fun _ _ _ _ _ => pts_nil) (fun _ _ _ _ _ => (pi_list (pc D_deed_cells hr (pa_cons (pv 2) pa_nil)))) (fun _ _ _ _ _ => (pg_name (i := 3) sc_need_both.nd rfl (Or.inl rfl))) (fun _ _ _ _ _ => pts_nil) (fun _ _ _ _ _ => (pv 3))) pa_nil))))))), ?_⟩
    refine ⟨_, rfl, v, m, rfl, hv, ok, fun H1 k1 => ?_⟩
    refine ⟨_, rfl, u, p, rfl, hu.kp k1, sok40, fun H2 k2 => ?_⟩
    have k02 := k1.trans k2
    obtain ⟨a, xs, rfl, ha, hx⟩ := (hu.kp k02).inv
    have hlen : xs.length = p.length := by rw [hx.1, List.length_map]
    refine ⟨_, rfl, _, rfl, a, rfl, ⟨_, SqT.of ha⟩, fun D hD => ?_⟩
    refine lc2_pure walk_tup (fun i acc _ => acc.length ≤ 100 * i ∧ acc = nums ((p.take i).flatMap Ded.cells)) hD (fun i acc => stb_pure _) ⟨Nat.zero_le _, rfl⟩ (fun H3 k3 => k3.seqT (SqT.of ha)) YAt.kp (fun i x H3 H4 acc2 hi k3 e3 r3 y S B hS hB => ?_) (fun H3 acc2 k3 e3 r3 => ?_)
    · obtain ⟨rfl, hx2⟩ := y
      obtain ⟨t, ht, td⟩ := hx.nth hx2
      have tok := sok40.ok t (List.mem_of_getElem? ht)
      have tl := Ded.cells_len tok
      refine ⟨rfl, _, rfl, x, t, rfl, td.kp k3, tok, fun H5 L k5 n5 e5 => ⟨L, rfl, ⟨_, SqL.of e5⟩, ?_⟩⟩
      have nD : L ≠ D := fun z => by rw [z, e3] at n5; cases n5
      exact hB _ _ _ _ _ _ (fun j acc _ => acc.length ≤ 100 * i + j ∧ acc = nums ((p.take i).flatMap Ded.cells ++ t.cells.take j)) k5
          ⟨walk_list, fun j acc => stb_pure _, ⟨r3.1, by rw [r3.2]; simp⟩, fun H k m => SqL.of (m.keep _ _ e5 (by simp [nD])), YAt.kp, fun j acc H hj r => (by have := sok.l6; rw [nums_len] at hj; omega), fun j x H6 H7 acc5 hj k6 m6 r6 y N S hN hS => (by
            obtain ⟨rfl, hy⟩ := y
            obtain ⟨n, hn, rfl⟩ := nums_get hy
            obtain ⟨r61, r62⟩ := r6
            refine ⟨rfl, _, rfl, hN _ _ (Kp.refl _) ⟨by simp; omega, ?_⟩⟩
            rw [r62, take_snoc hn, ← List.append_assoc, nums_app _ [_]]
            rfl), fun acc H k r => (by
            obtain ⟨r1, r2⟩ := r
            rw [nums_len] at r1 r2
            refine ⟨by omega, ?_⟩
            rw [r2, take_snoc ht, List.flatMap_append, List.take_of_length_le (Nat.le_refl _)]
            simp)⟩
    · rw [hlen, List.take_of_length_le (Nat.le_refl _)] at r3
      refine ⟨v, m, D, _, rfl, hv.kp (k02.trans k3), ok.l1, by rw [e3, r3.2], fun c hc => ?_, q _ (k02.trans k3)⟩
      obtain ⟨d, hd, hc⟩ := List.mem_flatMap.mp hc
      exact Ded.cells_lt (sok.ok d hd) c hc
abbrev N_need_many : List Str := ["many"]
theorem sc_need_many : FnScope N_need_many ["many"] (defScope s_need_many) := ⟨rfl, rfl, rfl, by decide +kernel, rfl, by decide +kernel, by decide +kernel⟩
def sp_need_many : Sp := fun vs H Q _ => ∃ n : Nat, vs = [vi n] ∧ n ≤ 100000 ∧ Q .non H
theorem ok_need_many (T : Txt K mg) (F : Fd K "need_many" "need_many" s_need_many f fd) (W : CalW P w K mg base) : FnOk P w K mg base CX0 2 f fd ["many"] sp_need_many := by
  refine FunD.ok F sc_need_many (fun vs H Q E h => ?_) (fun cdv A outer s H vs Q E hr h => ?_)
  · obtain ⟨n, rfl, _⟩ := h
    rfl
  · obtain ⟨n, rfl, hn, q⟩ := h
    refine ⟨_, PSs.nox (pss_one (ps_if (pt_not (pt_val (pwM W hr (pa_cons (pv 0) pa_nil) (pk_cons (pk T.c_MOST_ROWS) pk_nil)))) (pss_one ps_never) pss_nil)), ?_⟩
    exact ⟨_, rfl, rfl, rfl, _, _, _, rfl, by omega, by omega, _, rfl, iteF q⟩
end
end L2.K14
set_option Elab.async false
set_option linter.all false
set_option maxRecDepth 100000
set_option maxHeartbeats 4000000
/-! zip with strict=True over two lists: what next does -/
namespace PySem.K14Z
open PySem PySem.Spec PyProof.Rows
/-- a zip object, its strict flag st -/
abbrev IsZs (h : Heap) (z TI TO : Addr) (f0 : Value) (f1 st : Bool) : Prop :=
  h.get? z = some { cls := .type "zip", dict := none, data := .fields #[f0, .bool f1, .bool st, .ref TI, .ref TO], slots := #[] }
section
variable {prog : Program} {w : World} {A : Around} {E : Value → Shared → Prop} {s : Shared}
theorem nextOrEnd_item {it l : Addr} {i : Nat} {items} {x : Value} {Q : Option Value → Shared → Prop} (hit : s.heap.IsListIter it l i) (hl : s.heap.IsList l items) (hx : items[i]? = some x)
    (hQ : ∀ h', h'.IsListIter it l (i + 1) → Heap.SameBut it s.heap h' → Q (some x) { s with heap := h' }) : wpAny (model prog w) A (Builtin.SmallTypes.nextOrEnd (.ref it)) Q E s := by
  unfold Builtin.SmallTypes.nextOrEnd
  exact wpAny_bind (wpAny_attempt (wpAny_nextOf_list_item hit hl hx fun h' a b => wpAny_pure (hQ h' a b)))
theorem nextOrEnd_end {it l : Addr} {i : Nat} {items} {Q : Option Value → Shared → Prop} (hh : A.handled = none) (hit : s.heap.IsListIter it l i) (hl : s.heap.IsList l items) (hx : items[i]? = none)
    (hQ : ∀ h', Heap.ExtBut it s.heap h' → Q none { s with heap := h' }) : wpAny (model prog w) A (Builtin.SmallTypes.nextOrEnd (.ref it)) Q E s := by
  unfold Builtin.SmallTypes.nextOrEnd
  refine wpAny_bind (wpAny_attempt (wpAny_nextOf_list_end hh hit hl hx fun h' e a b => ?_))
  obtain ⟨o, ho, hc⟩ := b
  exact wpAny_bind (wpAny_isInstance (T := "StopIteration") (b := true) ⟨o, ho, hc⟩ isSubtype_stop (wpAny_pure (hQ h' a)))
/-- the first pair -/
theorem zs_next_item {z TI TO i1 i2 l1 l2 : Addr} {k1 k2 : Nat} {xs ys : Array Value} {x y a b : Value} {Q : Value → Shared → Prop} (D : ZipApart z TI TO i1 i2 l1 l2)
    (hz : IsZs s.heap z TI TO .none false true) (hTI : IsPair s.heap TI (.ref i1) (.ref i2)) (hTO : IsPair s.heap TO a b)
    (h1 : s.heap.IsListIter i1 l1 k1) (h2 : s.heap.IsListIter i2 l2 k2) (hl1 : s.heap.IsList l1 xs) (hl2 : s.heap.IsList l2 ys) (hx : xs[k1]? = some x) (hy : ys[k2]? = some y)
    (hQ : ∀ h', IsZs h' z TI TO (rawInt s.heap.objs.size) false true → h'.IsListIter i1 l1 (k1 + 1) → h'.IsListIter i2 l2 (k2 + 1) → IsPair h' s.heap.objs.size x y → h'.objs.size = s.heap.objs.size + 1 →
      (∀ c o, c ≠ z → c ≠ TO → c ≠ i1 → c ≠ i2 → s.heap.get? c = some o → h'.get? c = some o) → Q (.ref s.heap.objs.size) { s with heap := h' }) :
    wpAny (model prog w) A (Builtin.«zip.__next__» ⟨[.ref z], []⟩) (fun fin s' => ∃ v, fin = .done (.ret v) ∧ Q v s') E s := by
  show wpAny _ _ (field (.ref z) 2 >>= _) _ _ _
  refine wpAny_bind (wpAny_field hz rfl (x := .bool true) rfl ?_)
  show wpAny _ _ (field (.ref z) 3 >>= _) _ _ _
  refine wpAny_bind (wpAny_field hz rfl (x := .ref TI) rfl ?_)
  refine wpAny_bind (wpAny_seqItems hTI rfl ?_)
  show wpAny _ _ (Builtin.SmallTypes.ownedTupleIsFree (.ref z) >>= _) _ _ _
  refine wpAny_bind ?_
  unfold Builtin.SmallTypes.ownedTupleIsFree
  refine wpAny_bind (wpAny_field hz rfl (x := .none) rfl (wpAny_pure ?_))
  simp only [if_true]
  refine wpAny_bind (wpAny_rule ?_)
  refine wpAny_bind (wpAny_field hz rfl (x := .ref TO) rfl ?_)
  refine wpAny_bind (wpAny_setField_rec hz (by simp) fun g1 hz1 hs1 => ?_)
  replace hz1 : IsZs g1 z TI TO .ellipsis false true := hz1
  refine wpAny_bind ?_
  simp only [List.zipIdx_cons, List.zipIdx_nil, List.forIn_cons, List.forIn_nil]
  refine wpAny_bind (wpAny_bind (wpAny_onRaise ?_))
  show wpAny _ _ (Builtin.SmallTypes.nextOrEnd (.ref i1)) _ _ _
  refine nextOrEnd_item (h1.extBut hs1.extBut D.i1z) (hl1.extBut hs1.extBut D.l1z) hx fun g2 h12 hs2 => ?_
  have hTO2 : IsPair g2 TO a b := hs2.extBut _ _ D.TOi1 (hs1.extBut _ _ D.TOz hTO)
  refine wpAny_bind (wpAny_seqItems hTO2 rfl ?_)
  refine wpAny_bind (wpAny_updateSeq_pair hTO2 fun g3 hTO3 hs3 => ?_)
  replace hTO3 : IsPair g3 TO x b := hTO3
  refine wpAny_bind (wpAny_letGo (wpAny_pure ?_))
  refine wpAny_bind (wpAny_bind (wpAny_onRaise ?_))
  show wpAny _ _ (Builtin.SmallTypes.nextOrEnd (.ref i2)) _ _ _
  refine nextOrEnd_item (((h2.extBut hs1.extBut D.i2z).extBut hs2.extBut D.i12.symm).extBut hs3.extBut D.TOi2.symm)
    (((hl2.extBut hs1.extBut D.l2z).extBut hs2.extBut D.l2i1).extBut hs3.extBut D.l2TO) hy fun g4 h24 hs4 => ?_
  have hTO4 : IsPair g4 TO x b := hs4.extBut _ _ D.TOi2 hTO3
  refine wpAny_bind (wpAny_seqItems hTO4 rfl ?_)
  refine wpAny_bind (wpAny_updateSeq_pair hTO4 fun g5 hTO5 hs5 => ?_)
  replace hTO5 : IsPair g5 TO x y := hTO5
  refine wpAny_bind (wpAny_letGo (wpAny_pure (wpAny_pure ?_)))
  refine wpAny_bind (wpAny_seqItems hTO5 rfl ?_)
  refine wpAny_bind (wpAny_newTuple ?_)
  have hsz : g5.objs.size = s.heap.objs.size := by rw [hs5.1, hs4.1, hs3.1, hs2.1, hs1.1]
  have hz5 : IsZs g5 z TI TO .ellipsis false true := hs5.extBut _ _ D.TOz.symm (hs4.extBut _ _ D.i2z.symm (hs3.extBut _ _ D.TOz.symm (hs2.extBut _ _ D.i1z.symm hz1)))
  have hk5 : ∀ c o, c ≠ z → c ≠ TO → c ≠ i1 → c ≠ i2 → s.heap.get? c = some o → g5.get? c = some o := fun c o c1 c2 c3 c4 e =>
    hs5.extBut _ _ c2 (hs4.extBut _ _ c4 (hs3.extBut _ _ c2 (hs2.extBut _ _ c3 (hs1.extBut _ _ c1 e))))
  have h15 : g5.IsListIter i1 l1 (k1 + 1) := ((h12.extBut hs3.extBut D.TOi1.symm).extBut hs4.extBut D.i12).extBut hs5.extBut D.TOi1.symm
  have h25 : g5.IsListIter i2 l2 (k2 + 1) := h24.extBut hs5.extBut D.TOi2.symm
  have hzlt : z < g5.objs.size := Heap.lt_size hz5
  show wpAny _ _ (Builtin.SmallTypes.ownedTupleHandOut (.ref z) (.ref g5.objs.size) >>= _) _ _ _
  refine wpAny_bind ?_
  unfold Builtin.SmallTypes.ownedTupleHandOut
  have hz6 : IsZs (g5.push { cls := .type "tuple", data := .seq #[x, y] }) z TI TO .ellipsis false true := Heap.get?_push_of_some _ hz5
  refine wpAny_bind (wpAny_setField_rec hz6 (by simp) fun g7 hz7 hs7 => ?_)
  replace hz7 : IsZs g7 z TI TO (rawInt g5.objs.size) false true := hz7
  refine wpAny_setField_rec hz7 (by simp) fun g8 hz8 hs8 => ?_
  replace hz8 : IsZs g8 z TI TO (rawInt g5.objs.size) false true := hz8
  have up : ∀ c o, c ≠ z → g5.get? c = some o → g8.get? c = some o := fun c o c1 e => hs8.extBut _ _ c1 (hs7.extBut _ _ c1 (Heap.get?_push_of_some _ e))
  have hT8 : IsPair g8 g5.objs.size x y := hs8.extBut _ _ (Nat.ne_of_gt hzlt) (hs7.extBut _ _ (Nat.ne_of_gt hzlt) (Heap.get?_push_size _ rfl))
  have hzz : g8.objs.size = g5.objs.size + 1 := by rw [hs8.1, hs7.1, Heap.size_push]
  rw [hsz] at hz8 hT8 hzz
  refine wpAny_pure ⟨_, rfl, ?_⟩
  show Q (.ref g5.objs.size) _
  rw [hsz]
  exact hQ g8 hz8 (h15.at fun o e => up _ o D.i1z e) (h25.at fun o e => up _ o D.i2z e) hT8 hzz fun c o c1 c2 c3 c4 e => up c o c1 (hk5 c o c1 c2 c3 c4 e)
theorem zs_tupleHeld {z TI TO T : Addr} {f : Bool} {oT : Obj} {Q : Bool → Shared → Prop} (hz : IsZs s.heap z TI TO (rawInt T) f true) (hT : s.heap.get? T = some oT)
    (h : ∀ h', IsZs h' z TI TO (rawInt T) true true → Heap.SameBut z s.heap h' → Q false { s with heap := h' }) : wpAny (model prog w) A (Builtin.SmallTypes.ownedTupleIsFree (.ref z)) Q E s := by
  unfold Builtin.SmallTypes.ownedTupleIsFree
  refine wpAny_bind (wpAny_field hz rfl (x := rawInt T) rfl ?_)
  show wpAny _ _ (loadIfAlive ((T : Int).toNat) >>= _) _ _ _
  rw [Int.toNat_natCast]
  refine wpAny_bind (PySem.W.kdx_alive hT ?_)
  simp only [Option.isNone_some, Bool.false_eq_true, if_false]
  refine wpAny_bind (wpAny_field hz rfl (x := .bool f) rfl ?_)
  cases f with
  | true =>
    rw [if_neg (show ¬ ((Value.bool true != Value.bool true) = true) from Bool.false_ne_true)]
    exact wpAny_pure (h s.heap hz (Heap.SameBut.refl _ _))
  | false =>
    rw [if_pos (show (Value.bool false != Value.bool true) = true from rfl)]
    exact wpAny_bind (wpAny_setField_rec hz (by simp) fun g1 hz1 hs1 => wpAny_pure (h g1 hz1 hs1))
/-- a further pair, the tuple of the one before still there -/
theorem zs_next_held {z TI TO T i1 i2 l1 l2 : Addr} {f : Bool} {oT : Obj} {k1 k2 : Nat} {xs ys : Array Value} {x y : Value} {Q : Value → Shared → Prop} (D : ZipApart z TI TO i1 i2 l1 l2)
    (hz : IsZs s.heap z TI TO (rawInt T) f true) (hT : s.heap.get? T = some oT) (hTI : IsPair s.heap TI (.ref i1) (.ref i2))
    (h1 : s.heap.IsListIter i1 l1 k1) (h2 : s.heap.IsListIter i2 l2 k2) (hl1 : s.heap.IsList l1 xs) (hl2 : s.heap.IsList l2 ys) (hx : xs[k1]? = some x) (hy : ys[k2]? = some y)
    (hQ : ∀ h', IsZs h' z TI TO (rawInt T) true true → h'.IsListIter i1 l1 (k1 + 1) → h'.IsListIter i2 l2 (k2 + 1) → IsPair h' s.heap.objs.size x y → h'.objs.size = s.heap.objs.size + 1 →
      (∀ c o, c ≠ z → c ≠ i1 → c ≠ i2 → s.heap.get? c = some o → h'.get? c = some o) → Q (.ref s.heap.objs.size) { s with heap := h' }) :
    wpAny (model prog w) A (Builtin.«zip.__next__» ⟨[.ref z], []⟩) (fun fin s' => ∃ v, fin = .done (.ret v) ∧ Q v s') E s := by
  show wpAny _ _ (field (.ref z) 2 >>= _) _ _ _
  refine wpAny_bind (wpAny_field hz rfl (x := .bool true) rfl ?_)
  show wpAny _ _ (field (.ref z) 3 >>= _) _ _ _
  refine wpAny_bind (wpAny_field hz rfl (x := .ref TI) rfl ?_)
  refine wpAny_bind (wpAny_seqItems hTI rfl ?_)
  show wpAny _ _ (Builtin.SmallTypes.ownedTupleIsFree (.ref z) >>= _) _ _ _
  refine wpAny_bind (zs_tupleHeld hz hT fun g1 hz1 hs1 => ?_)
  simp only [Bool.false_eq_true, if_false]
  refine wpAny_bind ?_
  rw [← Array.forIn_toList]
  simp only [List.forIn_cons, List.forIn_nil]
  refine wpAny_bind (wpAny_bind (wpAny_holding ?_))
  show wpAny _ _ (Builtin.SmallTypes.nextOrEnd (.ref i1)) _ _ _
  refine nextOrEnd_item (s := { s with heap := g1 }) (h1.extBut hs1.extBut D.i1z) (hl1.extBut hs1.extBut D.l1z) hx fun g2 h12 hs2 => ?_
  refine wpAny_pure ?_
  refine wpAny_bind (wpAny_bind (wpAny_holding ?_))
  show wpAny _ _ (Builtin.SmallTypes.nextOrEnd (.ref i2)) _ _ _
  refine nextOrEnd_item (s := { s with heap := g2 }) ((h2.extBut hs1.extBut D.i2z).extBut hs2.extBut D.i12.symm) ((hl2.extBut hs1.extBut D.l2z).extBut hs2.extBut D.l2i1) hy fun g3 h23 hs3 => ?_
  refine wpAny_pure (wpAny_pure ?_)
  show wpAny _ _ (newTuple [x, y] >>= _) _ _ _
  refine wpAny_bind (wpAny_newTuple ?_)
  have hsz : g3.objs.size = s.heap.objs.size := by rw [hs3.1, hs2.1, hs1.1]
  have hz3 : IsZs g3 z TI TO (rawInt T) true true := hs3.extBut _ _ D.i2z.symm (hs2.extBut _ _ D.i1z.symm hz1)
  have hk : ∀ c o, c ≠ z → c ≠ i1 → c ≠ i2 → s.heap.get? c = some o → g3.get? c = some o := fun c o c1 c2 c3 e => hs3.extBut _ _ c3 (hs2.extBut _ _ c2 (hs1.extBut _ _ c1 e))
  have h13 : g3.IsListIter i1 l1 (k1 + 1) := h12.extBut hs3.extBut D.i12
  refine wpAny_pure ⟨_, rfl, ?_⟩
  show Q (.ref g3.objs.size) _
  have hp : IsPair (g3.push { cls := .type "tuple", data := .seq #[x, y] }) g3.objs.size x y := Heap.get?_push_size _ rfl
  have hz4 : (g3.push { cls := .type "tuple", data := .seq #[x, y] }).objs.size = g3.objs.size + 1 := Heap.size_push ..
  rw [hsz] at hp hz4 ⊢
  exact hQ _ (Heap.get?_push_of_some _ hz3) (h13.at fun o e => Heap.get?_push_of_some _ e) (h23.at fun o e => Heap.get?_push_of_some _ e) hp hz4 fun c o c1 c2 c3 e => Heap.get?_push_of_some _ (hk c o c1 c2 c3 e)
/-- the end of both -/
theorem zs_next_end {z TI TO T i1 i2 l1 l2 : Addr} {f : Bool} {oT : Obj} {k1 k2 : Nat} {xs ys : Array Value} {Q : Fin → Shared → Prop} (hh : A.handled = none) (D : ZipApart z TI TO i1 i2 l1 l2)
    (hz : IsZs s.heap z TI TO (rawInt T) f true) (hT : s.heap.get? T = some oT) (hTI : IsPair s.heap TI (.ref i1) (.ref i2))
    (h1 : s.heap.IsListIter i1 l1 k1) (h2 : s.heap.IsListIter i2 l2 k2) (hl1 : s.heap.IsList l1 xs) (hl2 : s.heap.IsList l2 ys) (hx : xs[k1]? = none) (hy : ys[k2]? = none)
    (hE : ∀ h' e, (∀ c o, c ≠ z → c ≠ i1 → c ≠ i2 → s.heap.get? c = some o → h'.get? c = some o) → (∃ o, h'.get? e = some o ∧ o.cls = .type "StopIteration") → E (.ref e) { s with heap := h' }) :
    wpAny (model prog w) A (Builtin.«zip.__next__» ⟨[.ref z], []⟩) Q E s := by
  show wpAny _ _ (field (.ref z) 2 >>= _) _ _ _
  refine wpAny_bind (wpAny_field hz rfl (x := .bool true) rfl ?_)
  show wpAny _ _ (field (.ref z) 3 >>= _) _ _ _
  refine wpAny_bind (wpAny_field hz rfl (x := .ref TI) rfl ?_)
  refine wpAny_bind (wpAny_seqItems hTI rfl ?_)
  show wpAny _ _ (Builtin.SmallTypes.ownedTupleIsFree (.ref z) >>= _) _ _ _
  refine wpAny_bind (zs_tupleHeld hz hT fun g1 hz1 hs1 => ?_)
  simp only [Bool.false_eq_true, if_false]
  refine wpAny_bind ?_
  rw [← Array.forIn_toList]
  simp only [List.forIn_cons, List.forIn_nil]
  refine wpAny_bind (wpAny_bind (wpAny_holding ?_))
  show wpAny _ _ (Builtin.SmallTypes.nextOrEnd (.ref i1)) _ _ _
  refine nextOrEnd_end (s := { s with heap := g1 }) hh (h1.extBut hs1.extBut D.i1z) (hl1.extBut hs1.extBut D.l1z) hx fun g2 hs2 => ?_
  refine wpAny_bind ?_
  wp_delta
  rw [if_neg (show ¬ (#[] : Array Value).size > 0 by decide)]
  simp only [List.drop_succ_cons, List.drop_zero, List.zipIdx_cons, List.zipIdx_nil, List.forIn_cons, List.forIn_nil]
  refine wpAny_bind (wpAny_bind ?_)
  refine wpAny_bind ?_
  refine nextOrEnd_end (s := { s with heap := g2 }) hh ((h2.extBut hs1.extBut D.i2z).extBut hs2 D.i12.symm) ((hl2.extBut hs1.extBut D.l2z).extBut hs2 D.l2i1) hy fun g3 hs3 => ?_
  simp only [Option.isSome_none, Bool.false_eq_true, if_false]
  refine wpAny_pure (wpAny_pure (wpAny_bind (wpAny_rule ?_)))
  unfold Builtin.SmallTypes.stopIteration
  refine wpAny_bind ?_
  simp only [newExc, newTuple]
  refine wpAny_bind (wpAny_newObj_type ?_ (by size_fits))
  refine wpAny_bind (m := firstArgMember _ _) (wpAny_of_eq (a := Value.none) (by first | rfl | (simp only [firstArgMember]; rfl)) ?_)
  refine wpAny_newObj_type ?_ (by size_fits)
  simp only [raiseNew]
  refine wpAny_bind (wpAny_handled ?_)
  first | rw [show A.in1.handled = none from hh] | rw [hh]
  refine wpAny_bind (wpAny_pure (wpAny_throw ?_))
  refine hE _ _ (fun c o c1 c2 c3 x => Heap.get?_push_of_some _ (Heap.get?_push_of_some _ (hs3 _ _ c3 (hs2 _ _ c2 (hs1.extBut _ _ c1 x))))) ⟨_, Heap.get?_push_size _ rfl, rfl⟩
end
end PySem.K14Z
set_option Elab.async false
set_option linter.all false
set_option maxRecDepth 100000
set_option maxHeartbeats 4000000
/-! list(zip(a, b)), list(zip(a, b, strict=True)): the loop -/
namespace PySem.K14Z
open PySem PySem.Spec PyProof.Rows
structure ZSt (st : Bool) (h : Heap) (z TI TO i1 i2 l1 l2 S : Addr) (xs ys : Array Value) (i : Nat) : Prop where
  out : (i = 0 ∧ IsZs h z TI TO .none false st ∧ ∃ a b, IsPair h TO a b) ∨ ∃ (T : Addr) (f : Bool) (oT : Obj), IsZs h z TI TO (rawInt T) f st ∧ h.get? T = some oT ∧ T ≠ z ∧ T ≠ i1 ∧ T ≠ i2 ∧ T ≠ S
  ti : IsPair h TI (.ref i1) (.ref i2)
  h1 : h.IsListIter i1 l1 i
  h2 : h.IsListIter i2 l2 i
  l1 : h.IsList l1 xs
  l2 : h.IsList l2 ys
theorem ZSt.keep {st : Bool} {h h' : Heap} {z TI TO i1 i2 l1 l2 S : Addr} {xs ys : Array Value} {i : Nat} (x : ZSt st h z TI TO i1 i2 l1 l2 S xs ys i) (hk : ∀ b o, b ≠ S → h.get? b = some o → h'.get? b = some o)
    (n1 : z ≠ S) (n2 : TI ≠ S) (n3 : TO ≠ S) (n4 : i1 ≠ S) (n5 : i2 ≠ S) (n6 : l1 ≠ S) (n7 : l2 ≠ S) : ZSt st h' z TI TO i1 i2 l1 l2 S xs ys i := by
  obtain ⟨o, t, a, b, c, d⟩ := x
  refine ⟨?_, hk _ _ n2 t, a.at fun o e => hk _ o n4 e, b.at fun o e => hk _ o n5 e, c.at fun o e => hk _ o n6 e, d.at fun o e => hk _ o n7 e⟩
  rcases o with ⟨e, q, u, v, p⟩ | ⟨T, f, oT, q, hT, t1, t2, t3, t4⟩
  · exact .inl ⟨e, hk _ _ n1 q, u, v, hk _ _ n3 p⟩
  · exact .inr ⟨T, f, oT, hk _ _ n1 q, hk _ _ t4 hT, t1, t2, t3, t4⟩
section
variable {prog : Program} {w : World} {A : Around} {E : Value → Shared → Prop} {s : Shared} {st : Bool} {z TI TO i1 i2 l1 l2 S : Addr} {xs ys : Array Value} {i : Nat}
theorem zn_item {x y : Value} {Q : Option Value → Shared → Prop} (D : ZipApart z TI TO i1 i2 l1 l2) (hst : ZSt st s.heap z TI TO i1 i2 l1 l2 S xs ys i) (hS : S < s.heap.objs.size) (hx : xs[i]? = some x) (hy : ys[i]? = some y)
    (hQ : ∀ h', ZSt st h' z TI TO i1 i2 l1 l2 S xs ys (i + 1) → IsPair h' s.heap.objs.size x y → h'.objs.size = s.heap.objs.size + 1 →
      (∀ c o, c ≠ z → c ≠ TO → c ≠ i1 → c ≠ i2 → s.heap.get? c = some o → h'.get? c = some o) → Q (some (.ref s.heap.objs.size)) { s with heap := h' }) :
    wpAny (model prog w) A (pyNext (.ref z)) Q E s := by
  have hT : s.TypeIs (.ref z) "zip" := by
    rcases hst.out with ⟨_, q, _⟩ | ⟨_, _, _, q, _⟩
    · exact ⟨_, q, rfl⟩
    · exact ⟨_, q, rfl⟩
  have lz : z < s.heap.objs.size := by obtain ⟨o, e, _⟩ := hT; exact Heap.lt_size e
  have li1 : i1 < s.heap.objs.size := by obtain ⟨o, e, _⟩ := hst.h1; exact Heap.lt_size e
  have li2 : i2 < s.heap.objs.size := by obtain ⟨o, e, _⟩ := hst.h2; exact Heap.lt_size e
  obtain ⟨o, t, a, b, c, d⟩ := hst
  rcases o with ⟨e, q, u, v, p⟩ | ⟨T, f, oT, q, hT', t1, t2, t3, t4⟩
  · have fin : ∀ h', IsZs h' z TI TO (rawInt s.heap.objs.size) false st → h'.IsListIter i1 l1 (i + 1) → h'.IsListIter i2 l2 (i + 1) → IsPair h' s.heap.objs.size x y → h'.objs.size = s.heap.objs.size + 1 →
        (∀ c o, c ≠ z → c ≠ TO → c ≠ i1 → c ≠ i2 → s.heap.get? c = some o → h'.get? c = some o) → Q (some (.ref s.heap.objs.size)) { s with heap := h' } := fun h' a1 a3 a4 a5 a6 a7 =>
      hQ h' ⟨.inr ⟨_, false, _, a1, a5, Nat.ne_of_gt lz, Nat.ne_of_gt li1, Nat.ne_of_gt li2, Nat.ne_of_gt hS⟩, a7 _ _ D.TIz D.TITO D.TIi1 D.TIi2 t, a3, a4, c.at fun o e => a7 _ o D.l1z D.l1TO D.l1i1 D.l1i2 e, d.at fun o e => a7 _ o D.l2z D.l2TO D.l2i1 D.l2i2 e⟩ a5 a6 a7
    cases st with
    | false => exact wpAny_pyNext_zip_item D q t p a b c d hx hy fun h' a1 _ a3 a4 a5 a6 a7 => fin h' a1 a3 a4 a5 a6 a7
    | true =>
      unfold pyNext
      exact wpAny_bind (wpAny_attempt (wpAny_callSpecial?_slot (name := Str.ofString "__next__") hT F.slot_zip_next
        (wpAny_call_entry F.slot_zip_next hT F.entry_zip_next (zs_next_item D q t p a b c d hx hy fun h' a1 a3 a4 a5 a6 a7 => wpAny_pure (fin h' a1 a3 a4 a5 a6 a7)) (F.args_zip_next_1 _))))
  · have fin : ∀ h', IsZs h' z TI TO (rawInt T) true st → h'.IsListIter i1 l1 (i + 1) → h'.IsListIter i2 l2 (i + 1) → IsPair h' s.heap.objs.size x y → h'.objs.size = s.heap.objs.size + 1 →
        (∀ c o, c ≠ z → c ≠ i1 → c ≠ i2 → s.heap.get? c = some o → h'.get? c = some o) → Q (some (.ref s.heap.objs.size)) { s with heap := h' } := fun h' a1 a3 a4 a5 a6 a7 =>
      hQ h' ⟨.inr ⟨T, true, oT, a1, a7 _ _ t1 t2 t3 hT', t1, t2, t3, t4⟩, a7 _ _ D.TIz D.TIi1 D.TIi2 t, a3, a4, c.at fun o e => a7 _ o D.l1z D.l1i1 D.l1i2 e, d.at fun o e => a7 _ o D.l2z D.l2i1 D.l2i2 e⟩ a5 a6 fun c o c1 _ c3 c4 e => a7 c o c1 c3 c4 e
    cases st with
    | false => exact wpAny_pyNext_zip_item_held D q hT' t a b c d hx hy fun h' a1 a3 a4 a5 a6 a7 => fin h' a1 a3 a4 a5 a6 a7
    | true =>
      unfold pyNext
      exact wpAny_bind (wpAny_attempt (wpAny_callSpecial?_slot (name := Str.ofString "__next__") hT F.slot_zip_next
        (wpAny_call_entry F.slot_zip_next hT F.entry_zip_next (zs_next_held D q hT' t a b c d hx hy fun h' a1 a3 a4 a5 a6 a7 => wpAny_pure (fin h' a1 a3 a4 a5 a6 a7)) (F.args_zip_next_1 _))))
theorem zn_end {Q : Option Value → Shared → Prop} (hh : A.handled = none) (D : ZipApart z TI TO i1 i2 l1 l2) (hst : ZSt st s.heap z TI TO i1 i2 l1 l2 S xs ys i) (h0 : i ≠ 0) (hx : xs[i]? = none) (hy : ys[i]? = none)
    (hQ : ∀ h', (∀ c o, c ≠ z → c ≠ i1 → c ≠ i2 → s.heap.get? c = some o → h'.get? c = some o) → Q none { s with heap := h' }) :
    wpAny (model prog w) A (pyNext (.ref z)) Q E s := by
  obtain ⟨o, t, a, b, c, d⟩ := hst
  rcases o with ⟨e, _⟩ | ⟨T, f, oT, q, hT', t1, t2, t3, t4⟩
  · exact absurd e h0
  · have hT : s.TypeIs (.ref z) "zip" := ⟨_, q, rfl⟩
    cases st with
    | false => exact wpAny_pyNext_zip_end_held hh D q hT' t a b c d (.inl hx) hQ
    | true =>
      unfold pyNext
      refine wpAny_bind (wpAny_attempt (wpAny_callSpecial?_slot (name := Str.ofString "__next__") hT F.slot_zip_next
        (wpAny_call_entry F.slot_zip_next hT F.entry_zip_next (zs_next_end hh D q hT' t a b c d hx hy fun h' e hk he => ?_) (F.args_zip_next_1 _))))
      obtain ⟨o, ho, hc⟩ := he
      refine wpAny_bind (wpAny_isInstance (T := "StopIteration") (b := true) ⟨o, ho, hc⟩ isSubtype_stop ?_)
      exact wpAny_pure (hQ _ hk)
end
end PySem.K14Z
set_option Elab.async false
set_option linter.all false
set_option maxRecDepth 100000
set_option maxHeartbeats 4000000
/-! list(z), z a zip of two lists that are alike long -/
namespace PySem.K14Z
open PySem PySem.Calls PyProof.Rows PyProof.V PySem.Spec
structure ZG (xs ys : Array Value) (lo : Addr) (h : Heap) (as : List Addr) : Prop where
  rise : as.Pairwise (· < ·)
  above : ∀ a ∈ as, lo < a
  pairs : ∀ (j : Nat) (a : Addr), as[j]? = some a → ∃ x y, xs[j]? = some x ∧ ys[j]? = some y ∧ IsPair h a x y
theorem ZG.there {xs ys : Array Value} {lo : Addr} {h : Heap} {as : List Addr} (g : ZG xs ys lo h as) {a : Addr} (ha : a ∈ as) : a < h.objs.size := by
  obtain ⟨j, hj⟩ := List.mem_iff_getElem?.mp ha
  obtain ⟨_, _, _, _, e⟩ := g.pairs j a hj
  exact Heap.lt_size e
/-- all of a zip lies ahead of S -/
structure ZLow (z TI TO i1 i2 l1 l2 S : Addr) : Prop where
  z : z < S
  TI : TI < S
  TO : TO < S
  i1 : i1 < S
  i2 : i2 < S
  l1 : l1 < S
  l2 : l2 < S
abbrev isL (h : Heap) (S : Addr) (acc : Array Value) (c : Nat) : Prop := h.get? S = some { cls := .type "list", dict := none, data := .seq acc c, slots := #[] }
section
variable {prog : Program} {w : World} {A : Around} {s : Shared} {R : Result → Shared → Prop} {st : Bool} {z TI TO i1 i2 l1 l2 S : Addr} {xs ys : Array Value}
theorem zl_loop (hh : A.handled = none) (D : ZipApart z TI TO i1 i2 l1 l2) (L : ZLow z TI TO i1 i2 l1 l2 S) (hn : xs.size ≤ sizeLine) (he : ys.size = xs.size) (h1 : 1 ≤ xs.size) (res : Value) {g1 : Heap}
    (hR : ∀ h' tk acc c as, (∀ b o, b ≠ S → b ≠ z → b ≠ TO → b ≠ i1 → b ≠ i2 → g1.get? b = some o → h'.get? b = some o) → isL h' S acc c → as.length = xs.size → ZG xs ys S h' as →
      acc.toList = as.map Value.ref → R (.ok (.ret res)) { s with heap := h', toks := tk }) :
    ∀ (k i : Nat) (h : Heap) (tk c : Nat) (acc : Array Value) (as : List Addr), xs.size - i = k → i ≤ xs.size → ZSt st h z TI TO i1 i2 l1 l2 S xs ys i → (∀ b o, b ≠ S → b ≠ z → b ≠ TO → b ≠ i1 → b ≠ i2 → g1.get? b = some o → h.get? b = some o) →
      isL h S acc c → acc.toList = as.map Value.ref → as.length = i → ZG xs ys S h as →
      codeAny (model prog w) A (.builtin "list.extend.loop" ⟨[.ref S, .ref z, res], []⟩) R { s with heap := h, toks := tk } := by
  have nz := Nat.ne_of_lt L.z
  have nTI := Nat.ne_of_lt L.TI
  have nTO := Nat.ne_of_lt L.TO
  have n1 := Nat.ne_of_lt L.i1
  have n2 := Nat.ne_of_lt L.i2
  have m1 := Nat.ne_of_lt L.l1
  have m2 := Nat.ne_of_lt L.l2
  intro k
  induction k with
  | zero =>
    intro i h tk c acc as hk hi hst hkeep hS hacc hal hG
    have hin : i = xs.size := by omega
    refine codeAny_builtin PySem.F.entry_extend_loop ?_
    rw [Around.under_plainId PySem.F.plain_extend_loop _]
    show wpAny _ A.in1 (pyNext (.ref z) >>= _) _ _ _
    refine wpAny_bind (zn_end (s := { s with heap := h, toks := tk }) (A := A.in1) hh D hst (by omega) (Array.getElem?_eq_none (by omega)) (Array.getElem?_eq_none (by omega)) fun h' he => ?_)
    refine wpAny_pure (hR h' tk acc c as (fun b o b1 b2 b3 b4 b5 e => he b o b2 b4 b5 (hkeep b o b1 b2 b3 b4 b5 e)) (he S _ nz.symm n1.symm n2.symm hS) (by omega) ⟨hG.rise, hG.above, fun j a hj => ?_⟩ hacc)
    obtain ⟨x, y, e1, e2, e3⟩ := hG.pairs j a hj
    have ab := hG.above a (List.mem_of_getElem? hj)
    exact ⟨x, y, e1, e2, he a _ (Nat.ne_of_gt (Nat.lt_trans L.z ab)) (Nat.ne_of_gt (Nat.lt_trans L.i1 ab)) (Nat.ne_of_gt (Nat.lt_trans L.i2 ab)) e3⟩
  | succ k ih =>
    intro i h tk c acc as hk hi hst hkeep hS hacc hal hG
    have hlt : i < xs.size := by omega
    have hx : xs[i]? = some xs[i] := Array.getElem?_eq_getElem hlt
    have hy : ys[i]? = some (ys[i]'(by omega)) := Array.getElem?_eq_getElem (by omega)
    have hsz : acc.size = i := by rw [← Array.length_toList, hacc, List.length_map, hal]
    refine codeAny_builtin PySem.F.entry_extend_loop ?_
    rw [Around.under_plainId PySem.F.plain_extend_loop _]
    show wpAny _ A.in1 (pyNext (.ref z) >>= _) _ _ _
    refine wpAny_bind (zn_item (s := { s with heap := h, toks := tk }) D hst (Heap.lt_size hS) hx hy fun h' hst' ht hz hkp => ?_)
    dsimp only at ht hz hkp ⊢
    have hS' := hkp S _ nz.symm nTO.symm n1.symm n2.symm hS
    have up : ∀ b o, b ≠ S → h'.get? b = some o → (h'.update S (Obj.mapSeq (·.push (Value.ref h.objs.size)))).get? b = some o := fun b o hb e => (Heap.get?_update_other _ _ (Ne.symm hb)).trans e
    have hSl : S < h.objs.size := Heap.lt_size hS
    show wpAny _ A.in1 (updateSeq S (·.push (Value.ref h.objs.size)) >>= _) _ _ _
    refine wpAny_bind ?_
    refine wpAny_updateSeq hS' rfl (wpAny_pure ⟨plainId_quiet PySem.F.plain_extend_loop _, ih (i + 1) _ tk _ (acc.push (Value.ref h.objs.size)) (as ++ [h.objs.size]) (by omega) hlt (hst'.keep up nz nTI nTO n1 n2 m1 m2)
      (fun b o b1 b2 b3 b4 b5 e => up b o b1 (hkp b o b2 b3 b4 b5 (hkeep b o b1 b2 b3 b4 b5 e))) (Heap.get?_update_self _ hS' rfl) (by rw [Array.toList_push, hacc, List.map_append]; rfl) (by rw [List.length_append, hal]; rfl) ⟨?_, ?_, ?_⟩⟩) (by rw [hsz]; omega) (by show (acc.push (Value.ref h.objs.size)).size ≤ sizeLine + 1; rw [Array.size_push, hsz]; omega)
    · refine List.pairwise_append.mpr ⟨hG.rise, List.pairwise_singleton _ _, fun a ha b hb => ?_⟩
      rw [List.mem_singleton.mp hb]
      exact hG.there ha
    · intro a ha
      rcases List.mem_append.mp ha with ha | ha
      · exact hG.above a ha
      · rw [List.mem_singleton.mp ha]; exact hSl
    · intro j b hj
      rcases Nat.lt_trichotomy j as.length with q1 | q1 | q1
      · rw [List.getElem?_append_left q1] at hj
        obtain ⟨x, y, e1, e2, e3⟩ := hG.pairs j b hj
        have ab := hG.above b (List.mem_of_getElem? hj)
        exact ⟨x, y, e1, e2, up b _ (Nat.ne_of_gt ab) (hkp b _ (Nat.ne_of_gt (Nat.lt_trans L.z ab)) (Nat.ne_of_gt (Nat.lt_trans L.TO ab)) (Nat.ne_of_gt (Nat.lt_trans L.i1 ab)) (Nat.ne_of_gt (Nat.lt_trans L.i2 ab)) e3)⟩
      · subst q1
        have hb : h.objs.size = b := by simpa using hj
        subst hb
        exact ⟨_, _, by rw [hal]; exact hx, by rw [hal]; exact hy, up _ _ (Nat.ne_of_gt hSl) ht⟩
      · have hnone : (as ++ [h.objs.size])[j]? = none := List.getElem?_eq_none (by rw [List.length_append, List.length_singleton]; omega)
        rw [hnone] at hj; cases hj
end
theorem zip_no_len : typeLookup (.type "zip") "__len__" = pure none := am_miss_of_fast (by decide +kernel)
theorem zip_no_hint : typeLookup (.type "zip") "__length_hint__" = pure none := am_miss_of_fast (by decide +kernel)
section
variable {prog : Program} {w : World} {A : Around} {E : Value → Shared → Prop} {s : Shared} {st : Bool} {z TI TO i1 i2 l1 l2 S : Addr} {xs ys : Array Value}
theorem zl_hint (hT : s.TypeIs (.ref z) "zip") {Q : Bool → Shared → Prop} (h : Q true s) : wpAny (model prog w) A (Builtin.List.listLengthHint (.ref z)) Q E s := by
  unfold Builtin.List.listLengthHint
  refine wpAny_bind (wpAny_specialOf hT zip_no_len ?_)
  refine wpAny_ite_split (fun hab => absurd hab (by decide +kernel)) (fun _ => ?_)
  refine wpAny_ite_split (fun hab => absurd hab (by decide +kernel)) (fun _ => ?_)
  refine wpAny_bind (wpAny_specialOf hT zip_no_hint ?_)
  exact wpAny_pure h
theorem zs_pyIter {f0 : Value} {f1 : Bool} {Q : Value → Shared → Prop} (hz : IsZs s.heap z TI TO f0 f1 st) (h : Q (.ref z) s) : wpAny (model prog w) A (pyIter (.ref z)) Q E s := by
  have hT : s.TypeIs (.ref z) "zip" := ⟨_, hz, rfl⟩
  refine wpAny_pyIter_slot hT F.slot_zip_iter (wpAny_call_entry F.slot_zip_iter hT F.entry_zip_iter ?_ (F.args_zip_iter_1 _))
  show wpAny _ _ (ret (.ref z)) _ _ s
  exact wpAny_pure ⟨_, rfl, "zip", _, hT, F.slot_zip_next.lookup, h⟩
theorem ZSt.typeIs {i : Nat} (h : ZSt st s.heap z TI TO i1 i2 l1 l2 S xs ys i) : s.TypeIs (.ref z) "zip" := by
  rcases h.out with ⟨_, q, _⟩ | ⟨_, _, _, q, _⟩
  · exact ⟨_, q, rfl⟩
  · exact ⟨_, q, rfl⟩
theorem ZSt.iter {i : Nat} {Q : Value → Shared → Prop} (h : ZSt st s.heap z TI TO i1 i2 l1 l2 S xs ys i) (q : Q (.ref z) s) : wpAny (model prog w) A (pyIter (.ref z)) Q E s := by
  rcases h.out with ⟨_, e, _⟩ | ⟨_, _, _, e, _⟩
  · exact zs_pyIter e q
  · exact zs_pyIter e q
theorem zl_extend {R : Result → Shared → Prop} (hh : A.handled = none) (D : ZipApart z TI TO i1 i2 l1 l2) (L : ZLow z TI TO i1 i2 l1 l2 S) (hn : xs.size ≤ sizeLine) (he : ys.size = xs.size) (h1 : 1 ≤ xs.size) (res : Value) (c₀ : Nat)
    (hst : ZSt st s.heap z TI TO i1 i2 l1 l2 S xs ys 0) (hS : isL s.heap S #[] c₀)
    (hR : ∀ h' tk acc c as, (∀ b o, b ≠ S → b ≠ z → b ≠ TO → b ≠ i1 → b ≠ i2 → s.heap.get? b = some o → h'.get? b = some o) → isL h' S acc c → as.length = xs.size → ZG xs ys S h' as →
      acc.toList = as.map Value.ref → R (.ok (.ret res)) { s with heap := h', toks := tk }) :
    wpAny (model prog w) A.in1 (Builtin.List.listExtendWith (.ref S) (.ref z) res)
      (fun fin s' => match fin with | .done f => R (.ok f) s' | .again c' => c'.quiet = true ∧ codeAny (model prog w) A c' R s') (fun e s' => R (.error e) s') s := by
  have key : ∀ (h : Heap) (c₁ tk : Nat), (∀ b o, b ≠ S → s.heap.get? b = some o → h.get? b = some o) →
      isL h S #[] c₁ → codeAny (model prog w) A (.builtin "list.extend.loop" ⟨[.ref S, .ref z, res], []⟩) R { s with heap := h, toks := tk } := by
    intro h c₁ tk hk hS₁
    exact zl_loop (st := st) (s := s) (g1 := s.heap) hh D L hn he h1 res hR xs.size 0 h tk c₁ #[] [] (Nat.sub_zero _) (Nat.zero_le _)
      (hst.keep hk (Nat.ne_of_lt L.z) (Nat.ne_of_lt L.TI) (Nat.ne_of_lt L.TO) (Nat.ne_of_lt L.i1) (Nat.ne_of_lt L.i2) (Nat.ne_of_lt L.l1) (Nat.ne_of_lt L.l2)) (fun b o hb _ _ _ _ e => hk b o hb e) hS₁ rfl rfl
      ⟨List.Pairwise.nil, (fun _ ha => nomatch ha), (fun j a hj => by simp at hj)⟩
  have nz := Nat.ne_of_lt L.z
  unfold Builtin.List.listExtendWith
  refine wpAny_bind (wpAny_typeOf (T := "zip") hst.typeIs ?_)
  have h1' : Builtin.List.listSameRef (.ref S) (.ref z) = false := by simp [Builtin.List.listSameRef, nz.symm]
  have h2 : (Value.type "zip" == Value.type "list") = false := by decide
  have h3 : (Value.type "zip" == Value.type "tuple") = false := by decide
  simp only [h1', h2, h3, Bool.or_false, Bool.false_eq_true, if_false]
  refine wpAny_bind (hst.iter ?_)
  refine wpAny_bind (wpAny_holding (zl_hint hst.typeIs ?_))
  refine wpAny_ite_split (fun _ => ?_) (fun _ => wpAny_pure ⟨plainId_quiet PySem.F.plain_extend_loop _, key _ c₀ _ (fun b o _ e => e) hS⟩)
  refine wpAny_bind (wpAny_rule ?_)
  refine wpAny_bind ?_
  show wpAny _ _ (updateSeq S (·.push .none) >>= fun _ => updateSeq S (·.pop)) _ _ _
  refine wpAny_bind (wpAny_updateSeq hS rfl ?_)
  have hS₂ := Heap.get?_update_self (Obj.mapSeq (·.push Value.none)) hS rfl
  refine wpAny_updateSeq (hz := by seq_fits) hS₂ rfl ?_
  have hS₃ := Heap.get?_update_self (Obj.mapSeq (·.pop)) hS₂ rfl
  refine wpAny_pure ⟨plainId_quiet PySem.F.plain_extend_loop _, key _ _ _ (fun b o hb e => ?_) hS₃⟩
  exact (Heap.get?_update_other _ _ (Ne.symm hb)).trans ((Heap.get?_update_other _ _ (Ne.symm hb)).trans e)
theorem zl_init {R : Result → Shared → Prop} (hh : A.handled = none) (D : ZipApart z TI TO i1 i2 l1 l2) (L : ZLow z TI TO i1 i2 l1 l2 S) (hn : xs.size ≤ sizeLine) (he : ys.size = xs.size) (h1 : 1 ≤ xs.size)
    (hst : ZSt st s.heap z TI TO i1 i2 l1 l2 S xs ys 0) (hS : s.heap.get? S = some { cls := .type "list", data := .seq #[] })
    (hR : ∀ h' tk acc c as, (∀ b o, b ≠ S → b ≠ z → b ≠ TO → b ≠ i1 → b ≠ i2 → s.heap.get? b = some o → h'.get? b = some o) → isL h' S acc c → as.length = xs.size → ZG xs ys S h' as →
      acc.toList = as.map Value.ref → R (.ok (.ret .none)) { s with heap := h', toks := tk }) :
    wpAny (model prog w) A.in1 (Builtin.«list.__init__» ⟨[.ref S, .ref z], []⟩)
      (fun fin s' => match fin with | .done f => R (.ok f) s' | .again c' => c'.quiet = true ∧ codeAny (model prog w) A c' R s') (fun e s' => R (.error e) s') s := by
  show wpAny _ _ (do let old ← Builtin.List.listItems (.ref S); Builtin.List.listUpdate (.ref S) (fun _ => #[]); letGo old.toList.reverse; Builtin.List.listExtendWith (.ref S) (.ref z) .none) _ _ s
  refine wpAny_bind ?_
  unfold Builtin.List.listItems
  refine wpAny_bind (wpAny_seqItems hS rfl (wpAny_pure ?_))
  show wpAny _ _ (updateSeq S (fun _ => #[]) >>= fun _ => letGo (#[] : Array Value).toList.reverse >>= fun _ => Builtin.List.listExtendWith (.ref S) (.ref z) .none) _ _ s
  refine wpAny_bind (wpAny_updateSeq hS rfl ?_)
  have hS₂ := Heap.get?_update_self (Obj.mapSeq (fun _ => (#[] : Array Value))) hS rfl
  have oth : ∀ b o, b ≠ S → s.heap.get? b = some o → (s.heap.update S (Obj.mapSeq (fun _ => (#[] : Array Value)))).get? b = some o :=
    fun b o hb e => (Heap.get?_update_other _ _ (Ne.symm hb)).trans e
  refine wpAny_bind (wpAny_letGo ?_)
  refine zl_extend (st := st) hh D L hn he h1 .none _ (hst.keep oth (Nat.ne_of_lt L.z) (Nat.ne_of_lt L.TI) (Nat.ne_of_lt L.TO) (Nat.ne_of_lt L.i1) (Nat.ne_of_lt L.i2) (Nat.ne_of_lt L.l1) (Nat.ne_of_lt L.l2)) hS₂ (fun h' tk acc c as hk hS' hl hG hacc => ?_)
  exact hR h' tk acc c as (fun b o hb b2 b3 b4 b5 e => hk b o hb b2 b3 b4 b5 (oth b o hb e)) hS' hl hG hacc
/-- list(z) -/
theorem zl_call {Q : Value → Shared → Prop} (hh : A.handled = none) (D : ZipApart z TI TO i1 i2 l1 l2) (L : ZLow z TI TO i1 i2 l1 l2 s.heap.objs.size) (hn : xs.size ≤ sizeLine) (he : ys.size = xs.size) (h1 : 1 ≤ xs.size)
    (hz : IsZs s.heap z TI TO .none false st) (hTO : ∃ a b, IsPair s.heap TO a b) (hTI : IsPair s.heap TI (.ref i1) (.ref i2)) (a1 : s.heap.IsListIter i1 l1 0) (a2 : s.heap.IsListIter i2 l2 0) (b1 : s.heap.IsList l1 xs) (b2 : s.heap.IsList l2 ys)
    (hQ : ∀ h' tk acc c as, (∀ b o, b ≠ z → b ≠ TO → b ≠ i1 → b ≠ i2 → s.heap.get? b = some o → h'.get? b = some o) → isL h' s.heap.objs.size acc c → as.length = xs.size → ZG xs ys s.heap.objs.size h' as →
      acc.toList = as.map Value.ref → Q (.ref s.heap.objs.size) { s with heap := h', toks := tk }) :
    wpAny (model prog w) A (call (.type "list") [.ref z]) Q E s := by
  refine callType_codes (Q₁ := fun obj s₁ => obj = .ref s.heap.objs.size ∧ s₁ = { s with heap := s.heap.push { cls := .type "list", data := .seq #[] } }) PySem.F.called_list (PySem.F.typeCall_list_1 _) PySem.F.entry_list_init
    (code_list_new _ ⟨rfl, rfl⟩) fun obj s₁ h₁ => ?_
  obtain ⟨rfl, rfl⟩ := h₁
  have hS : (s.heap.push { cls := .type "list", data := .seq #[] }).get? s.heap.objs.size = some { cls := .type "list", data := .seq #[] } := Heap.get?_push_size _ rfl
  have up : ∀ b o, s.heap.get? b = some o → (s.heap.push { cls := .type "list", data := .seq #[] }).get? b = some o := fun b o e => Heap.get?_push_of_some _ e
  obtain ⟨u, v, hTO⟩ := hTO
  refine ⟨⟨_, hS, rfl⟩, PySem.F.args_list_init_2 _ _, zl_init (st := st) (A := A.in1) hh D L hn he h1 ⟨.inl ⟨rfl, up _ _ hz, u, v, up _ _ hTO⟩, up _ _ hTI, a1.at fun o e => up _ o e, a2.at fun o e => up _ o e, b1.at fun o e => up _ o e, b2.at fun o e => up _ o e⟩ hS (fun h' tk acc c as hk hS' hl hG hacc => ?_)⟩
  exact ⟨rfl, hQ h' tk acc c as (fun b o c2 c3 c4 c5 e => hk b o (Nat.ne_of_lt (Heap.lt_size e)) c2 c3 c4 c5 (up b o e)) hS' hl hG hacc⟩
end
/-! ### zip(a, b, strict=True) -/
namespace F
theorem typeCall_zip_s (a b c : Value) : checkTypeCall "zip" ⟨[a, b], [(Str.ofString "strict", c)]⟩ = pure () := by kernel_rfl
theorem newCall_zip_s (a b c : Value) : checkBuiltinCall "zip.__new__" ⟨[.type "zip", a, b], [(Str.ofString "strict", c)]⟩ = pure () := by kernel_rfl
theorem args_object_init_s (obj a b c : Value) : argsOk "object.__init__" ⟨[obj, a, b], [(Str.ofString "strict", c)]⟩ := by unfold argsOk; kernel_rfl
end F
abbrev zH5 (h : Heap) (l1 l2 : Addr) : Heap := (zipH4 h l1 l2).push { cls := .type "zip", data := .fields #[.none, .bool false, .bool true, .ref (zipH2 h l1 l2).objs.size, .ref (zipH3 h l1 l2).objs.size] }
theorem meets_zip_s (l1 l2 : Addr) (xs ys : Array Value) :
    Meets (Builtin.«zip.__new__» ⟨[.type "zip", .ref l1, .ref l2], [(Str.ofString "strict", .bool true)]⟩) (fun _ R s => s.heap.IsList l1 xs ∧ s.heap.IsList l2 ys ∧
      R (.ok (.ret (.ref (zipH4 s.heap l1 l2).objs.size))) { s with heap := zH5 s.heap l1 l2 }) :=
  .of_wp fun prog w A R s h => by
    obtain ⟨hp, g, d, tk, os⟩ := s; obtain ⟨hl1, hl2, h⟩ := h
    have hsub := sub_zip
    have hL1 : Heap.IsList (Shared.heap ⟨hp, g, d, tk, os⟩) l1 xs := hl1
    have hL2 : Heap.IsList (Shared.heap ⟨hp.push { cls := .type "list_iterator", data := .fields #[.ref l1, .int 0 0] }, g, d, tk, os⟩) l2 ys := Heap.IsList.push hl2 _
    have e2 : (Str.ofString "strict" != ("strict" : Str)) = false := by decide +kernel
    wp_walk using wpAny_pyIter_list hL1, wpAny_pyIter_list hL2
    exact ⟨_, rfl, h⟩
end PySem.K14Z
set_option Elab.async false
set_option linter.all false
set_option maxRecDepth 100000
set_option maxHeartbeats 4000000
/-! list(zip(a, b)), list(zip(a, b, strict=True)) in the layer -/
namespace PySem.K14Z
open PySem PySem.Calls PyProof.Rows PyProof.V PySem.Spec
section
variable {prog : Program} {w : World} {A : Around} {E : Value → Shared → Prop} {s : Shared}
theorem call_zip_s {l1 l2 : Addr} {xs ys : Array Value} {Q : Value → Shared → Prop} (hl1 : s.heap.IsList l1 xs) (hl2 : s.heap.IsList l2 ys)
    (h : ∀ h', IsZs h' (s.heap.objs.size + 4) (s.heap.objs.size + 2) (s.heap.objs.size + 3) .none false true → IsPair h' (s.heap.objs.size + 2) (.ref s.heap.objs.size) (.ref (s.heap.objs.size + 1)) →
      IsPair h' (s.heap.objs.size + 3) .none .none → h'.IsListIter s.heap.objs.size l1 0 → h'.IsListIter (s.heap.objs.size + 1) l2 0 → h'.objs.size = s.heap.objs.size + 5 →
      (∀ c o, s.heap.get? c = some o → h'.get? c = some o) → Q (.ref (s.heap.objs.size + 4)) { s with heap := h' }) :
    wpAny (model prog w) A (call (.type "zip") [.ref l1, .ref l2] [(Str.ofString "strict", .bool true)]) Q E s := by
  refine callType_newKw PySem.F.called_zip (by decide) (F.typeCall_zip_s _ _ _) (F.newCall_zip_s _ _ _) (fun obj => F.args_object_init_s obj _ _ _) PySem.F.entry_zip_new
    (meets_zip_s l1 l2 xs ys) ⟨hl1, hl2, ?_⟩
  have z1 : (zipH1 s.heap l1).objs.size = s.heap.objs.size + 1 := Heap.size_push ..
  have z2 : (zipH2 s.heap l1 l2).objs.size = s.heap.objs.size + 2 := by rw [Heap.size_push, z1]
  have z3 : (zipH3 s.heap l1 l2).objs.size = s.heap.objs.size + 3 := by rw [Heap.size_push, z2]
  have z4 : (zipH4 s.heap l1 l2).objs.size = s.heap.objs.size + 4 := by rw [Heap.size_push, z3]
  have z5 : (zH5 s.heap l1 l2).objs.size = s.heap.objs.size + 5 := by rw [Heap.size_push, z4]
  have g5 : (zH5 s.heap l1 l2).get? (zipH4 s.heap l1 l2).objs.size = some _ := Heap.get?_push_size _ rfl
  have g4 : (zH5 s.heap l1 l2).get? (zipH3 s.heap l1 l2).objs.size = some _ := Heap.get?_push_of_some _ (Heap.get?_push_size _ rfl)
  have g3 : (zH5 s.heap l1 l2).get? (zipH2 s.heap l1 l2).objs.size = some _ := Heap.get?_push_of_some _ (Heap.get?_push_of_some _ (Heap.get?_push_size _ rfl))
  have g2 : (zH5 s.heap l1 l2).get? (zipH1 s.heap l1).objs.size = some _ := Heap.get?_push_of_some _ (Heap.get?_push_of_some _ (Heap.get?_push_of_some _ (Heap.get?_push_size _ rfl)))
  have g1 : (zH5 s.heap l1 l2).get? s.heap.objs.size = some _ := Heap.get?_push_of_some _ (Heap.get?_push_of_some _ (Heap.get?_push_of_some _ (Heap.get?_push_of_some _ (Heap.get?_push_size _ rfl))))
  show _ ∧ _
  rw [z2, z3, z4] at g5
  rw [z1, z2] at g3
  rw [z3] at g4
  rw [z1] at g2
  rw [z4]
  exact ⟨⟨_, g5, rfl⟩, h _ g5 g3 g4 ⟨_, g1, rfl, rfl⟩ ⟨_, g2, rfl, rfl⟩ z5 fun c o x =>
    Heap.get?_push_of_some _ (Heap.get?_push_of_some _ (Heap.get?_push_of_some _ (Heap.get?_push_of_some _ (Heap.get?_push_of_some _ x))))⟩
theorem ltk (n a b : Nat) (h : a < b) : n + a < n + b := by omega
theorem zlow (n l1 l2 : Nat) (h1 : l1 < n) (h2 : l2 < n) : ZLow (n + 4) (n + 2) (n + 3) n (n + 1) l1 l2 (n + 5) :=
  ⟨ltk n 4 5 (by decide), ltk n 2 5 (by decide), ltk n 3 5 (by decide), ltk n 0 5 (by decide), ltk n 1 5 (by decide), Nat.lt_of_lt_of_le h1 (Nat.le_add_right _ _), Nat.lt_of_lt_of_le h2 (Nat.le_add_right _ _)⟩
/-- zip, then list -/
theorem zl_both {st : Bool} {l1 l2 : Addr} {xs ys : Array Value} {h5 : Heap} {Q : Value → Shared → Prop} (hh : A.handled = none) (hn : xs.size ≤ sizeLine) (he : ys.size = xs.size) (h1 : 1 ≤ xs.size)
    (la : s.heap.IsList l1 xs) (lb : s.heap.IsList l2 ys)
    (hz : IsZs h5 (s.heap.objs.size + 4) (s.heap.objs.size + 2) (s.heap.objs.size + 3) .none false st) (hTI : IsPair h5 (s.heap.objs.size + 2) (.ref s.heap.objs.size) (.ref (s.heap.objs.size + 1)))
    (hTO : IsPair h5 (s.heap.objs.size + 3) .none .none) (a1 : h5.IsListIter s.heap.objs.size l1 0) (a2 : h5.IsListIter (s.heap.objs.size + 1) l2 0) (hsz : h5.objs.size = s.heap.objs.size + 5)
    (hk : ∀ c o, s.heap.get? c = some o → h5.get? c = some o)
    (hQ : ∀ h' tk acc c as, (∀ b o, s.heap.get? b = some o → h'.get? b = some o) → isL h' (s.heap.objs.size + 5) acc c → as.length = xs.size → ZG xs ys (s.heap.objs.size + 5) h' as →
      acc.toList = as.map Value.ref → Q (.ref (s.heap.objs.size + 5)) { s with heap := h', toks := tk }) :
    wpAny (model prog w) A (call (.type "list") [.ref (s.heap.objs.size + 4)]) Q E { s with heap := h5 } := by
  have l1l : l1 < s.heap.objs.size := by obtain ⟨o, e, _⟩ := la; exact Heap.lt_size e
  have l2l : l2 < s.heap.objs.size := by obtain ⟨o, e, _⟩ := lb; exact Heap.lt_size e
  have low := zlow s.heap.objs.size l1 l2 l1l l2l
  refine zl_call (s := { s with heap := h5 }) (st := st) hh (PySem.W.ktu_apart s.heap.objs.size l1 l2 l1l l2l) (by show ZLow _ _ _ _ _ _ _ h5.objs.size; rw [hsz]; exact low) hn he h1 hz ⟨_, _, hTO⟩ hTI a1 a2 (la.at fun o e => hk _ o e) (lb.at fun o e => hk _ o e) (fun h' tk acc c as k e1 e2 e3 e4 => ?_)
  dsimp only at k e1 e3 ⊢
  rw [hsz] at e1 e3 ⊢
  refine hQ h' tk acc c as (fun b o e => k b o ?_ ?_ ?_ ?_ (hk b o e)) e1 e2 e3 e4
  · exact Nat.ne_of_lt (Nat.lt_of_lt_of_le (Heap.lt_size e) (Nat.le_add_right _ _))
  · exact Nat.ne_of_lt (Nat.lt_of_lt_of_le (Heap.lt_size e) (Nat.le_add_right _ _))
  · exact Nat.ne_of_lt (Heap.lt_size e)
  · exact Nat.ne_of_lt (Nat.lt_of_lt_of_le (Heap.lt_size e) (Nat.le_add_right _ _))
end
end PySem.K14Z
namespace L2.K14
open PySem PySem.Spec PyProof.Rows PySem.K14Z
/-- the tuples tracked at their addresses -/
def putP : Hp → List Addr → List (V × V) → Hp
  | H, a :: as, p :: ps => putP (upd H a (.tup [p.1, p.2])) as ps
  | H, _, _ => H
theorem putP_off {b : Addr} : ∀ (as : List Addr) (ps : List (V × V)) (H : Hp), b ∉ as → putP H as ps b = H b
  | [], _, _, _ => rfl
  | _ :: _, [], _, _ => rfl
  | a :: as, p :: ps, H, h => by
    show putP (upd H a (.tup [p.1, p.2])) as ps b = H b
    rw [putP_off as ps _ (fun z => h (List.mem_cons_of_mem _ z)), upd_ne (fun z => h (by rw [z]; exact List.mem_cons_self))]
theorem putP_at : ∀ (as : List Addr) (ps : List (V × V)) (H : Hp), as.length = ps.length → as.Nodup → ∀ (j : Nat) (t : Addr), as[j]? = some t → ∃ p, ps[j]? = some p ∧ putP H as ps t = some (.tup [p.1, p.2])
  | [], _, _, _, _, j, t, h => by simp at h
  | _ :: _, [], _, h, _, _, _, _ => by cases h
  | a :: as, p :: ps, H, h, hn, j, t, e => by
    have hn' := List.nodup_cons.mp hn
    cases j with
    | zero =>
      cases e
      exact ⟨p, rfl, by show putP (upd H a (.tup [p.1, p.2])) as ps a = _; rw [putP_off as ps _ hn'.1, upd_same]⟩
    | succ j =>
      obtain ⟨q, e1, e2⟩ := putP_at as ps (upd H a (.tup [p.1, p.2])) (Nat.succ.inj h) hn'.2 j t e
      exact ⟨q, e1, e2⟩
section
variable {X : Cx} {pins : List (Addr × Obj)} {σ : L2.St} {H : Hp} {s : Shared}
theorem zip_laid {h' : Heap} {tk : Nat} {xs ys : List V} {us vs : List Value} {acc : Array Value} {c : Nat} {as : List Addr} {S : Addr} (I : Inv X pins σ H s) (hz : xs.length ≤ sizeLine) (rx : Vals xs us) (ry : Vals ys vs) (le : s.heap.objs.size ≤ S)
    (hk : ∀ b o, s.heap.get? b = some o → h'.get? b = some o) (hS : isL h' S acc c) (hl : as.length = us.length) (hv : vs.length = us.length) (hG : ZG us.toArray vs.toArray S h' as) (hacc : acc.toList = as.map Value.ref) :
    ∃ H' : Hp, Kp [] H H' ∧ H S = none ∧ H' S = some (.lst (as.map V.ref)) ∧ as.length = xs.length ∧ (∀ (j : Nat) (t : Addr), as[j]? = some t → ∃ x y, xs[j]? = some x ∧ ys[j]? = some y ∧ H' t = some (.tup [x, y])) ∧ Inv X pins σ H' { s with heap := h', toks := tk } := by
  have lx : xs.length = us.length := rx.length
  have ly : ys.length = vs.length := ry.length
  have hSn : S ∉ as := fun z => Nat.lt_irrefl _ (hG.above _ z)
  have nd : as.Nodup := List.Pairwise.imp (fun {a b} (h : a < b) => Nat.ne_of_lt h) hG.rise
  have new : ∀ t ∈ as, H t = none := fun t ht => I.hok.fresh (Nat.le_trans le (Nat.le_of_lt (hG.above t ht)))
  have newS : H S = none := I.hok.fresh le
  have zl : (xs.zip ys).length = as.length := by rw [List.length_zip]; omega
  have atP := putP_at as (xs.zip ys) (upd H S (.lst (as.map V.ref))) zl.symm nd
  have off : ∀ b, b ∉ as → b ≠ S → putP (upd H S (.lst (as.map V.ref))) as (xs.zip ys) b = H b := fun b h1 h2 => by rw [putP_off as _ _ h1, upd_ne h2]
  have low : ∀ b o, s.heap.get? b = some o → b ∉ as ∧ b ≠ S := fun b o e => ⟨fun z => absurd (Heap.lt_size e) (Nat.not_lt.mpr (Nat.le_trans le (Nat.le_of_lt (hG.above b z)))), Nat.ne_of_lt (Nat.lt_of_lt_of_le (Heap.lt_size e) le)⟩
  have kp : ∀ b u, H b = some u → (putP (upd H S (.lst (as.map V.ref))) as (xs.zip ys)) b = some u := fun b u e => by
    rw [off b (fun z => by rw [new b z] at e; cases e) (fun z => by rw [z, newS] at e; cases e)]
    exact e
  have eS : putP (upd H S (.lst (as.map V.ref))) as (xs.zip ys) S = some (.lst (as.map V.ref)) := by rw [putP_off as _ _ hSn, upd_same]
  have zipAt : ∀ {j : Nat} {p : V × V}, (xs.zip ys)[j]? = some p → xs[j]? = some p.1 ∧ ys[j]? = some p.2 := fun {j p} e => by
    rw [List.getElem?_zip_eq_some] at e
    exact e
  refine ⟨putP (upd H S (.lst (as.map V.ref))) as (xs.zip ys), Kp.of fun b u e => kp b u e, newS, eS, by omega, fun j t ht => ?_, ?_⟩
  · obtain ⟨p, e1, e2⟩ := atP j t ht
    obtain ⟨f1, f2⟩ := zipAt e1
    exact ⟨p.1, p.2, f1, f2, e2⟩
  refine I.call' (ch := []) rfl ⟨fun b o q _ _ _ => hk b o q, fun b o q _ _ _ => ⟨o.slots, hk b o q⟩, fun b o q n _ => ?_, fun b o q _ => ⟨o, hk b o q⟩, fun b xs q => kp b _ q, fun b o u q => kp b _ q, fun b ps q => ⟨#[], by rw [kp b _ q]; simp⟩⟩ (fun b u q => ?_) I.bare fun b z => by simp at z
  · obtain ⟨z1, z2⟩ := low b o q
    rw [off b z1 z2]
    exact n
  · by_cases hb : b ∈ as
    · obtain ⟨j, hj⟩ := List.mem_iff_getElem?.mp hb
      obtain ⟨p, e1, e2⟩ := atP j b hj
      obtain ⟨f1, f2⟩ := zipAt e1
      rw [e2] at q
      cases q
      obtain ⟨x, y, g1, g2, g3⟩ := hG.pairs j b hj
      obtain ⟨x', gx, r1⟩ := rx.get f1
      obtain ⟨y', gy, r2⟩ := ry.get f2
      have ex : x = x' := by
        have : us[j]? = some x := by simpa using g1
        rw [gx] at this
        cases this
        rfl
      have ey : y = y' := by
        have : vs[j]? = some y := by simpa using g2
        rw [gy] at this
        cases this
        rfl
      subst ex
      subst ey
      exact ⟨by show 2 ≤ sizeLine; decide, [x, y], .cons r1 (.cons r2 .nil), ⟨_, g3, rfl, _, rfl⟩⟩
    · by_cases hb2 : b = S
      · rw [hb2] at q ⊢
        rw [eS] at q
        cases q
        refine ⟨by rw [List.length_map]; omega, acc.toList, c, by rw [hacc]; exact LiI.vals_refs as, ?_⟩
        rw [Array.toArray_toList]
        exact hS
      · rw [off b hb hb2] at q
        exact (I.hok b u q).stay (fun d v _ y => hk d v y) (fun d y => kp d _ y) fun d xs y => kp d _ y
theorem callWith_tyKw {M : Model} {A : Around} {E : Value → Shared → Prop} {env : Env} {pos : Pos} {T : String} {e : Expr} {rest : List Expr} {kws : List Keyword} {Q : Value → Shared → Prop} {s : Shared}
    (h : wpAny M A (spliced (backTo pos (starEach (e :: rest) env))) (fun vs s₁ => wpAny M A (evalAll ((backToKw pos (keywordEach kws env)).map (·.2)))
      (fun kvs s₂ => wpAny M A (call (.type T) vs (((backToKw pos (keywordEach kws env)).filterMap (·.1)).zip kvs)) Q E s₂) E s₁) E s)
    (he : backTo pos (starEach (e :: rest) env) = (false, eval e env) :: backTo pos (starEach rest env) := by rfl)
    (hplain : (backTo pos (starEach (e :: rest) env)).any (·.1) = false := by rfl)
    (hall : (backToKw pos (keywordEach kws env)).all (·.1.isSome) = true := by rfl)
    (hkw : (backToKw pos (keywordEach kws env)).any (·.1.isNone) = false := by rfl) :
    wpAny M A (callWith pos (.type T) [] (backTo pos (starEach (e :: rest) env)) (backToKw pos (keywordEach kws env))) Q E s := by
  unfold callWith
  have h2 : wpAny M A (evalArgs (.type T) true (backTo pos (starEach (e :: rest) env)) (backToKw pos (keywordEach kws env))) (fun a s₁ => wpAny M A (call (.type T) a.pos a.kw) Q E s₁) E s := by
    rw [he] at h ⊢
    exact evalArgs_kwB hall h
  refine wpAny_bind (wpAny_holding (wpAny_mono h2 (fun a s₁ h₁ => wpAny_bind (wpAny_standAt ?_)) fun _ _ x => x))
  simp only [hplain, hkw, Bool.or_false]
  refine wpAny_bind (wpAny_pure ?_)
  exact wpAny_bind (wpAny_mono h₁ (fun r s₂ hr => wpAny_bind (wpAny_holding (wpAny_point (wpAny_pure hr)))) fun _ _ x => x)
end
/-- list(zip(a, b)), lists alike long, not empty -/
def tZl (K : PySem.W.Frag) (ta : TA) : TE := fun σ H Q => ta σ H fun vs H1 => ∃ a b xs ys, vs = [V.ref a, .ref b] ∧ SqL K H1 a xs ∧ SqL K H1 b ys ∧ ys.length = xs.length ∧ 1 ≤ xs.length ∧
  ∀ (H' : Hp) (p : Addr) (ts : List Addr), Kp [] H1 H' → H1 p = none → H' p = some (.lst (ts.map V.ref)) → ts.length = xs.length → (∀ (j : Nat) (t : Addr), ts[j]? = some t → ∃ x y, xs[j]? = some x ∧ ys[j]? = some y ∧ H' t = some (.tup [x, y])) → Q (.ref p) H'
section
variable {X : Cx} {e1 e2 : Expr} {ta : TA} {p p2 p3 zpos kpos pos : Pos}
theorem pe_listZip (hc : X.calm = true) (ha : PA X [e1, e2] ta) (hgl : Gl X "list") (hml : X.mg "list" = none) (hgz : Gl X "zip") (hmz : X.mg "zip" = none) (hvl : bootBuiltins "list" = some (.type "list"))
    (hs : starEach [.Call (.Name "zip" p2) [e1, e2] [] zpos] X.env = (false, eval (.Call (.Name "zip" p2) [e1, e2] [] zpos) X.env) :: starEach [] X.env := by rfl)
    (hs2 : starEach [e1, e2] X.env = (false, eval e1 X.env) :: starEach [e2] X.env := by rfl) (hpl2 : (backTo zpos (starEach [e2] X.env)).any (·.1) = false := by rfl) :
    PE X (.Call (.Name "list" p) [.Call (.Name "zip" p2) [e1, e2] [] zpos] [] pos) (tZl X.K ta) := by
  refine ⟨fun pins s σ H Q I hq => ?_⟩
  refine wpAny_Call_Name_kw (ld_blt I hgl hml hvl ?_)
  refine PyProof.Rows.callWith_type1 ?_ hs rfl
  rw [hs]
  show wpAny _ _ (spliced ((false, eval (.Call (.Name "zip" p2) [e1, e2] [] zpos) X.env) :: backTo pos (starEach [] X.env))) _ _ s
  refine Calls.spliced_cons ?_
  refine Call_ (ld_blt I hgz hmz PyProof.Rows.boot_zip (PyProof.Rows.callWith_type1 (thn (ha.run zpos pins s σ H _ I hq) fun us s1 ⟨vs, H1, I1, r1, q1⟩ => ?_) hs2 hpl2))
  obtain ⟨a, b, xs, ys, ex, hqx, hqy, hl, h1, q⟩ := q1
  subst ex
  obtain ⟨u, u', rfl, ru, ru'⟩ := vals2 r1
  cases ru
  cases ru'
  obtain ⟨its, rv, pa, za⟩ := I1.list hqx
  obtain ⟨its2, rv2, pb, zb⟩ := I1.list hqy
  have lx := rv.length
  have ly := rv2.length
  refine call_zip_2 pa.isList pb.isList fun h5 hz hTI hTO a1 a2 hsz hk => ?_
  refine Calls.spliced_nil ?_
  refine zl_both (st := false) (I1.ok.hd hc) (by simp; omega) (by simp; omega) (by simp; omega) pa.isList pb.isList hz hTI hTO a1 a2 hsz hk fun h' tk acc c as k e1 e2 e3 e4 => ?_
  obtain ⟨H', k1, k2, k3, k4, k5, J⟩ := zip_laid (tk := tk) I1 (by omega) rv rv2 (Nat.le_add_right _ 5) k e1 (by simpa using e2) (by omega) e3 e4
  exact ⟨.ref _, H', J, rfl, q H' _ as k1 k2 k3 k4 k5⟩
theorem pe_listZipS (hc : X.calm = true) (ha : PA X [e1, e2] ta) (hgl : Gl X "list") (hml : X.mg "list" = none) (hgz : Gl X "zip") (hmz : X.mg "zip" = none) (hvl : bootBuiltins "list" = some (.type "list")) {k : Nat} {cpos : Pos}
    (hs : starEach [.Call (.Name "zip" p2) [e1, e2] [⟨some "strict", .Constant (.bool true) k cpos, kpos⟩] zpos] X.env = (false, eval (.Call (.Name "zip" p2) [e1, e2] [⟨some "strict", .Constant (.bool true) k cpos, kpos⟩] zpos) X.env) :: starEach [] X.env := by rfl)
    (hs2 : backTo zpos (starEach [e1, e2] X.env) = (false, eval e1 X.env) :: backTo zpos (starEach [e2] X.env) := by rfl) (hpl2 : (backTo zpos (starEach [e1, e2] X.env)).any (·.1) = false := by rfl) :
    PE X (.Call (.Name "list" p) [.Call (.Name "zip" p2) [e1, e2] [⟨some "strict", .Constant (.bool true) k cpos, kpos⟩] zpos] [] pos) (tZl X.K ta) := by
  refine ⟨fun pins s σ H Q I hq => ?_⟩
  refine wpAny_Call_Name_kw (ld_blt I hgl hml hvl ?_)
  refine PyProof.Rows.callWith_type1 ?_ hs rfl
  rw [hs]
  show wpAny _ _ (spliced ((false, eval (.Call (.Name "zip" p2) [e1, e2] [⟨some "strict", .Constant (.bool true) k cpos, kpos⟩] zpos) X.env) :: backTo pos (starEach [] X.env))) _ _ s
  refine Calls.spliced_cons ?_
  refine wpAny_Call_Name_kw (ld_blt I hgz hmz PyProof.Rows.boot_zip ?_)
  have hk : PK X [⟨some "strict", .Constant (.bool true) k cpos, kpos⟩] (tCons (tC (.bl true)) tNil) := pk_cons pe_bl pk_nil
  refine callWith_tyKw (thn (ha.run zpos pins s σ H _ I hq) fun us s0 ⟨vs, H0, I0, r0, q0⟩ => thn (hk.run zpos pins s0 σ H0 (fun zs Hz => zs = [.bl true] ∧ Hz = H0) I0 ⟨rfl, rfl⟩) fun ws s1 ⟨zs, H1, I1, r1, ez, eH⟩ => ?_) hs2 hpl2
  subst ez
  subst eH
  obtain ⟨wz, rfl, rwz⟩ := vals1 r1
  cases rwz
  obtain ⟨a, b, xs, ys, ex, hqx, hqy, hl, h1, q⟩ := q0
  subst ex
  obtain ⟨u, u', rfl, ru, ru'⟩ := vals2 r0
  cases ru
  cases ru'
  obtain ⟨its, rv, pa, za⟩ := I1.list hqx
  obtain ⟨its2, rv2, pb, zb⟩ := I1.list hqy
  have lx := rv.length
  have ly := rv2.length
  refine call_zip_s pa.isList pb.isList fun h5 hz hTI hTO a1 a2 hsz hk => ?_
  refine Calls.spliced_nil ?_
  refine zl_both (st := true) (I1.ok.hd hc) (by simp; omega) (by simp; omega) (by simp; omega) pa.isList pb.isList hz hTI hTO a1 a2 hsz hk fun h' tk acc c as k e1 e2 e3 e4 => ?_
  obtain ⟨H', k1, k2, k3, k4, k5, J⟩ := zip_laid (tk := tk) I1 (by omega) rv rv2 (Nat.le_add_right _ 5) k e1 (by simpa using e2) (by omega) e3 e4
  exact ⟨.ref _, H', J, rfl, q H' _ as k1 k2 k3 k4 k5⟩
end
end L2.K14
set_option Elab.async false
set_option linter.all false
set_option maxRecDepth 100000
set_option maxHeartbeats 4000000
set_option pp.maxSteps 600
/-! a step is done -/
namespace L2.K14
open PySem PySem.Spec PyProof.Rows
structure Rw where
  part : Nat
  wr : Bool
  cell : Nat
  byte : Nat
def wayS : Bool → Str
  | false => Str.ofString "r"
  | true => Str.ofString "w"
def Rw.d (r : Rw) : PyData := .tuple [dN r.part, .str (wayS r.wr), dN r.cell, dN r.byte]
def cpN (l : List (Nat × Nat)) (m : List Nat) : Nat → List Nat × List Rw
  | 0 => (m, [])
  | i + 1 => match l[i]? with
    | some p => ((cpN l m i).1.set p.2 ((cpN l m i).1.getD p.1 0), (cpN l m i).2 ++ [⟨i, false, p.1, (cpN l m i).1.getD p.1 0⟩, ⟨i, true, p.2, (cpN l m i).1.getD p.1 0⟩])
    | none => cpN l m i
def flN (l : List Nat) (x : Nat) (m : List Nat) : Nat → List Nat × List Rw
  | 0 => (m, [])
  | i + 1 => match l[i]? with
    | some t => ((flN l x m i).1.set t x, (flN l x m i).2 ++ [⟨i, true, t, x⟩])
    | none => flN l x m i
def adN (l : List Nat) (m : List Nat) : Nat → List Rw
  | 0 => []
  | i + 1 => match l[i]? with
    | some t => adN l m i ++ [⟨i, false, t, m.getD t 0⟩]
    | none => adN l m i
def adS (l : List Nat) (m : List Nat) : Nat := (l.map fun x => m.getD x 0).sum % 256
def Stp.run : Stp → List Nat → List Nat × List Rw
  | .copy a b k, m => cpN ((a.cells.zip b.cells).drop k) m ((a.cells.zip b.cells).drop k).length
  | .fill a x k, m => flN (a.cells.drop k) x m (a.cells.drop k).length
  | .add a c, m => (m.set c (adS a.cells m), adN a.cells m a.cells.length ++ [⟨a.cells.length, true, c, adS a.cells m⟩])
  | _, m => (m, [])
theorem cpN_len (l : List (Nat × Nat)) (m : List Nat) : ∀ i, (cpN l m i).1.length = m.length
  | 0 => rfl
  | i + 1 => by
    unfold cpN
    cases l[i]? with
    | none => exact cpN_len l m i
    | some p => simp [cpN_len l m i]
theorem flN_len (l : List Nat) (x : Nat) (m : List Nat) : ∀ i, (flN l x m i).1.length = m.length
  | 0 => rfl
  | i + 1 => by
    unfold flN
    cases l[i]? with
    | none => exact flN_len l x m i
    | some p => simp [flN_len l x m i]
theorem Stp.run_len (s : Stp) (m : List Nat) : (s.run m).1.length = m.length := by
  cases s with
  | copy a b k => exact cpN_len _ _ _
  | fill a x k => exact flN_len _ _ _ _
  | add a c => simp [Stp.run]
  | _ => rfl
theorem cpN_rows (l : List (Nat × Nat)) (m : List Nat) : ∀ i, (cpN l m i).2.length ≤ 2 * i
  | 0 => Nat.le_refl _
  | i + 1 => by
    have := cpN_rows l m i
    unfold cpN
    cases l[i]? with
    | none => show (cpN l m i).2.length ≤ _; omega
    | some p => simp; omega
theorem flN_rows (l : List Nat) (x : Nat) (m : List Nat) : ∀ i, (flN l x m i).2.length ≤ i
  | 0 => Nat.le_refl _
  | i + 1 => by
    have := flN_rows l x m i
    unfold flN
    cases l[i]? with
    | none => show (flN l x m i).2.length ≤ _; omega
    | some p => simp; omega
theorem adN_rows (l : List Nat) (m : List Nat) : ∀ i, (adN l m i).length ≤ i
  | 0 => Nat.le_refl _
  | i + 1 => by
    have := adN_rows l m i
    unfold adN
    cases l[i]? with
    | none => show (adN l m i).length ≤ _; omega
    | some p => simp; omega
theorem cpN_succ {l : List (Nat × Nat)} {m : List Nat} {i : Nat} {p : Nat × Nat} (h : l[i]? = some p) : cpN l m (i + 1) = ((cpN l m i).1.set p.2 ((cpN l m i).1.getD p.1 0), (cpN l m i).2 ++ [⟨i, false, p.1, (cpN l m i).1.getD p.1 0⟩, ⟨i, true, p.2, (cpN l m i).1.getD p.1 0⟩]) := by
  conv => lhs; unfold cpN
  rw [h]
theorem flN_succ {l : List Nat} {x : Nat} {m : List Nat} {i : Nat} {t : Nat} (h : l[i]? = some t) : flN l x m (i + 1) = ((flN l x m i).1.set t x, (flN l x m i).2 ++ [⟨i, true, t, x⟩]) := by
  conv => lhs; unfold flN
  rw [h]
theorem adN_succ {l m : List Nat} {i : Nat} {t : Nat} (h : l[i]? = some t) : adN l m (i + 1) = adN l m i ++ [⟨i, false, t, m.getD t 0⟩] := by
  conv => lhs; unfold adN
  rw [h]
theorem adN_len {l m : List Nat} : ∀ n, n ≤ l.length → (adN l m n).length = n
  | 0, _ => rfl
  | n + 1, h => by
    rw [adN_succ (List.getElem?_eq_getElem (by omega : n < l.length)), List.length_append, adN_len n (by omega)]
    rfl
theorem adN_at {l m : List Nat} {i t : Nat} (e : l[i]? = some t) : ∀ n, n ≤ l.length → i < n → (adN l m n)[i]? = some ⟨i, false, t, m.getD t 0⟩
  | 0, _, h => absurd h (Nat.not_lt_zero _)
  | n + 1, h, hi => by
    rw [adN_succ (List.getElem?_eq_getElem (by omega : n < l.length))]
    by_cases q : i < n
    · rw [List.getElem?_append_left (by rw [adN_len n (by omega)]; exact q)]
      exact adN_at e n (by omega) q
    · have : i = n := by omega
      subst this
      rw [List.getElem?_append_right (by rw [adN_len i (by omega)]; exact Nat.le_refl _), adN_len i (by omega), Nat.sub_self]
      rw [List.getElem?_eq_getElem (by omega)] at e
      cases e
      rfl
theorem sum_cast : ∀ l : List Nat, (l.map fun n : Nat => (n : Int)).sum = ((l.sum : Nat) : Int)
  | [] => rfl
  | a :: l => by
    rw [List.map_cons, List.sum_cons, List.sum_cons, sum_cast l]
    omega
theorem adS_int (l m : List Nat) : ((l.map fun x => m.getD x 0).map fun n : Nat => (n : Int)).sum % 256 = ((adS l m : Nat) : Int) := by
  rw [sum_cast]
  unfold adS
  omega
theorem nums_at {m : List Nat} {s : Nat} (h : s < m.length) : (nums m)[s]? = some (vi (m.getD s 0)) := by
  unfold nums
  rw [List.getElem?_map, List.getElem?_eq_getElem h, List.getD_eq_getElem?_getD, List.getElem?_eq_getElem h]
  rfl
theorem nums_at_set {m : List Nat} {j x : Nat} (h : j < m.length) : (nums (m.set j x))[j]? = some (vi x) := by
  rw [nums_at (by rw [List.length_set]; exact h), List.getD_eq_getElem?_getD, List.getElem?_set_self h]
  rfl
theorem nums_set (m : List Nat) (j x : Nat) : (nums m).set j (vi x) = nums (m.set j x) := (List.map_set ..).symm
theorem enum_inv {xs : List V} {i : Nat} {H H' : Hp} {x : V} (y : YPair (fun i => some (.int (i : Nat))) (fun i => xs[i]?) i H x H') : ∃ (U : Addr) (y0 : V), x = .ref U ∧ H U = none ∧ Kp [] H H' ∧ H' U = some (.tup [vi i, y0]) ∧ xs[i]? = some y0 := by
  obtain ⟨U, x0, y0, rfl, nU, rfl, ex, ey⟩ := y
  cases ex
  exact ⟨U, y0, rfl, nU, Kp.new nU, upd_same, ey⟩
theorem refs_get {ts : List Addr} {i : Nat} {y : V} (h : (ts.map V.ref)[i]? = some y) : ∃ t, ts[i]? = some t ∧ y = .ref t := by
  rw [List.getElem?_map] at h
  obtain ⟨n, hn, e⟩ := Option.map_eq_some_iff.mp h
  exact ⟨n, hn, e.symm⟩
theorem ixN_of {n j : Nat} (hj : j < n) : ixN n (j : Int) = some j := by
  unfold ixN
  rw [if_pos (by omega), if_pos (by omega)]
  simp
theorem useV {F : V → Hp → Prop} {u v : V} {H : Hp} (e : u = v) (h : F v H) : F u H := by
  rw [e]
  exact h
theorem zip_drop_at {xs ys : List Nat} {k i : Nat} {s t : Nat} (h1 : xs[k + i]? = some s) (h2 : ys[k + i]? = some t) : ((xs.zip ys).drop k)[i]? = some (s, t) := by
  rw [List.getElem?_drop, List.getElem?_zip_eq_some]
  exact ⟨h1, h2⟩
theorem Rw.td {H : Hp} {a : Addr} {p c b : Nat} {w : Bool} (h : H a = some (.tup [vi p, .str (wayS w), vi c, vi b])) : TD H (.ref a) (Rw.d ⟨p, w, c, b⟩) :=
  TDs.tup h (.cons (.int _) (.cons (.str _) (.cons (.int _) (.cons (.int _) .nil))))
section
variable {P : Program} {w : World} {K : PySem.W.Frag} {mg : Str → Option Value} {base : Heap} {f : Addr} {fd : FuncData}
abbrev N_do_step : List Str := ["memory", "step", "word", "things", "rows", "pairs", "part", "source", "target", "row"]
theorem sc_do_step : FnScope N_do_step ["memory", "step"] (defScope s_do_step) := ⟨rfl, rfl, rfl, by decide +kernel, rfl, by decide +kernel, by decide +kernel⟩
def sp_do_step : Sp := fun vs H Q _ => ∃ (M : Addr) (v : V) (t : Stp) (m : List Nat), vs = [.ref M, v] ∧ H M = some (.lst (nums m)) ∧ TD H v t.d ∧ t.Ok m.length ∧ m.length ≤ 40 ∧
  ∀ (H' : Hp) (L : Addr) (rvs : List V), Kp [M] H H' → H L = none → H' M = some (.lst (nums (t.run m).1)) → H' L = some (.lst rvs) → TDs H' rvs ((t.run m).2.map Rw.d) → Q (.ref L) H'
theorem ok_do_step (T : Txt K mg) (F : Fd K "do_step" "do_step" s_do_step f fd) (D_area_cells : Cal P w K mg base 1 "area_cells" ["area"] sp_area_cells) : FnOk P w K mg base CX0 2 f fd ["memory", "step"] sp_do_step := by
  refine FunD.ok F sc_do_step (fun vs H Q E h => ?_) (fun cdv A outer s H vs Q E hr h => ?_)
  · obtain ⟨M, v, t, m, rfl, _⟩ := h
    rfl
  · obtain ⟨M, v, t, m, rfl, hM, hv, ok, m40, q⟩ := h
    obtain ⟨a, us, rfl, ha, hu⟩ := hv.stp
    have ul : us.length ≤ 1000 := by have := hu.1; have := t.ds_len; omega
    refine ⟨_, PSs.nox (pss_cons (ps_asg (pv 1) (pg_star rfl (pgs_cons (pg_name (i := 2) sc_do_step.nd rfl (Or.inl rfl)) (pgs_starred (pg_name (i := 3) sc_do_step.nd rfl (Or.inl rfl))))))
      (pss_cons (ps_set (i := 4) sc_do_step.nd rfl (Or.inl rfl) (pe_lstK pa_nil))
      (pss_cons (ps_if (pt_cmpR op_eq (pv 2) (pk T.c_COPY_plain) (nomark _)) (pss_cons (ps_set (i := 5) sc_do_step.nd rfl (Or.inl rfl) (pe_slice sl_listK (pe_listZipS rfl (pa_cons (pc D_area_cells hr (pa_cons (pe_ix ix_list (pv 3) pe_int (fun _ _ => rfl)) pa_nil)) (pa_cons (pc D_area_cells hr (pa_cons (pe_ix ix_list (pv 3) pe_int (fun _ _ => rfl)) pa_nil)) pa_nil)) (by rfl) T.b_list (by rfl) T.b_zip (by decide +kernel)) (po_some (pe_ix ix_list (pv 3) pe_int (fun _ _ => rfl))) po_none))
      (pss_one (ps_for PassesOwn.never rfl (pi_enum (by rfl) T.b_enumerate (pa_cons (pv 5) pa_nil)) (pg_tup rfl (pgs_cons (pg_name (i := 6) sc_do_step.nd rfl (Or.inl rfl)) (pgs_cons (pg_tup rfl (pgs_cons (pg_name (i := 7) sc_do_step.nd rfl (Or.inl rfl)) (pgs_cons (pg_name (i := 8) sc_do_step.nd rfl (Or.inl rfl)) pgs_nil))) pgs_nil))) (pss_cons (ps_asg (pe_ix ix_list (pv 0) (pv 7) (fun _ _ => rfl)) (pg_sub (pv 0) (pv 8) set_list))
      (pss_one (ps_expr (pe_bm PySem.F.plainAttrs_list PySem.F.slot_list_extend PySem.F.type_list_extend mt_extend (pv 4) (pa_cons (pe_lstK (pa_cons (pe_tupK (pa_cons (pv 6) (pa_cons (pk T.c_READ) (pa_cons (pv 7) (pa_cons (pe_ix ix_list (pv 0) (pv 8) (fun _ _ => rfl)) pa_nil))))) (pa_cons (pe_tupK (pa_cons (pv 6) (pa_cons (pk T.c_WRITE) (pa_cons (pv 8) (pa_cons (pe_ix ix_list (pv 0) (pv 8) (fun _ _ => rfl)) pa_nil))))) pa_nil))) pa_nil)))))))) pss_nil)
      (pss_cons (ps_if (pt_cmpR op_eq (pv 2) (pk T.c_FILL_plain) (nomark _)) (pss_one (ps_for PassesOwn.never rfl (pi_enum (by rfl) T.b_enumerate (pa_cons (pe_slice sl_listK (pc D_area_cells hr (pa_cons (pe_ix ix_list (pv 3) pe_int (fun _ _ => rfl)) pa_nil)) (po_some (pe_ix ix_list (pv 3) pe_int (fun _ _ => rfl))) po_none) pa_nil)) (pg_tup rfl (pgs_cons (pg_name (i := 6) sc_do_step.nd rfl (Or.inl rfl)) (pgs_cons (pg_name (i := 8) sc_do_step.nd rfl (Or.inl rfl)) pgs_nil))) (pss_cons (ps_asg (pe_ix ix_list (pv 3) pe_int (fun _ _ => rfl)) (pg_sub (pv 0) (pv 8) set_list))
      (pss_one (ps_expr (pe_bm PySem.F.plainAttrs_list PySem.F.slot_list_append PySem.F.type_list_append mt_append (pv 4) (pa_cons (pe_tupK (pa_cons (pv 6) (pa_cons (pk T.c_WRITE) (pa_cons (pv 8) (pa_cons (pe_ix ix_list (pv 3) pe_int (fun _ _ => rfl)) pa_nil))))) pa_nil))))))) pss_nil)
      (pss_cons (ps_if (pt_cmpR op_eq (pv 2) (pk T.c_ADD_plain) (nomark _)) (pss_cons (ps_setLc (i := 4) (own := [("part", 6), ("source", 7)]) (g := (gTup K 2 (gCons (gName 6) (gCons (gName 7) gNil)))) (tt := tYes) (te := (tTupK (tCons (tVar 6) (tCons (tC (.str "r")) (tCons (tVar 7) (tCons (tOp (rIxL K) (tVar 0) (tVar 7)) tNil)))))) rfl sc_do_step.nd rfl rfl (sw_true rfl rfl rfl (by decide +kernel)) (pi_enum (by rfl) T.b_enumerate (pa_cons (pc D_area_cells hr (pa_cons (pe_ix ix_list (pv 3) pe_int (fun _ _ => rfl)) pa_nil)) pa_nil)) (blkOk_by (N := N_do_step) (sc := defScope s_do_step) (by decide +kernel)) (fun _ _ _ _ _ => (pg_tup rfl (pgs_cons (pg_name (i := 6) sc_do_step.nd rfl (Or.inl rfl)) (pgs_cons (pg_name (i := 7) sc_do_step.nd rfl (Or.inl rfl)) pgs_nil)))) (fun _ _ _ _ _ => pts_nil) (fun _ _ _ _ _ => (pe_tupK (pa_cons (pv 6) (pa_cons (pk T.c_READ) (pa_cons (pv 7) (pa_cons (pe_ix ix_list (pv 0) (pv 7) (fun _ _ => rfl)) pa_nil)))))))
      (pss_cons (ps_asg (pe_op op_mod (pe_callB (cr_sum rfl) (by rfl) T.b_sum (by decide +kernel) (pa_cons (pe_lc (own := [("row", 9)]) (g := (gName 9)) (tt := tYes) (te := (tOp (rIxT K) (tVar 9) (tC (.int 3)))) rfl sc_do_step.nd (pi_list (pv 4)) (blkOk_by (N := N_do_step) (sc := defScope s_do_step) (by decide +kernel)) (fun _ _ _ _ _ => (pg_name (i := 9) sc_do_step.nd rfl (Or.inl rfl))) (fun _ _ _ _ _ => pts_nil) (fun _ _ _ _ _ => (pe_ix ix_tup (pv 9) pe_int (fun _ _ => rfl)))) pa_nil)) (pk T.c_BYTES)) (pg_sub (pv 0) (pe_ix ix_list (pv 3) pe_int (fun _ _ => rfl)) set_list))
      (pss_one (ps_expr (pe_bm PySem.F.plainAttrs_list PySem.F.slot_list_append PySem.F.type_list_append mt_append (pv 4) (pa_cons (pe_tupK (pa_cons (pe_callB call_len_seq (by rfl) T.b_len PySem.boot_len (pa_cons (pv 4) pa_nil)) (pa_cons (pk T.c_WRITE) (pa_cons (pe_ix ix_list (pv 3) pe_int (fun _ _ => rfl)) (pa_cons (pe_ix ix_list (pv 0) (pe_ix ix_list (pv 3) pe_int (fun _ _ => rfl)) (fun _ _ => rfl)) pa_nil))))) pa_nil)))))) pss_nil)
      (pss_one (ps_ret (pv 4)))))))), ?_⟩
    refine ⟨_, rfl, a, _, us, rfl, SqT.of ha, ul, fun p np => ?_⟩
    refine ⟨_, _, rfl, _, _, rfl, rfl, ?_⟩
    have kp : Kp [] H (upd H p (.lst us)) := Kp.new np
    have hp : upd H p (.lst us) p = some (.lst us) := upd_same
    revert hp kp
    generalize upd H p (.lst us) = H1
    intro kp hp
    refine ⟨sz 0, fun L H2 k2 n2 e2 => ?_⟩
    have k02 := kp.trans k2
    have hp2 := k2.same _ _ hp
    have hM2 := k02.same _ _ hM
    have nL : H L = none := kp.free n2
    have nML : M ≠ L := fun z => by rw [z, nL] at hM; cases hM
    cases t with
    | note x => exact ⟨_, rfl, rfl, _, rfl, iteBF (show decide (V.str (Str.ofString "note") = V.str (Str.ofString "copy")) = false by decide +kernel) ⟨_, rfl, rfl, _, rfl, iteBF (show decide (V.str (Str.ofString "note") = V.str (Str.ofString "fill")) = false by decide +kernel) ⟨_, rfl, rfl, _, rfl, iteBF (show decide (V.str (Str.ofString "note") = V.str (Str.ofString "add")) = false by decide +kernel) ⟨_, rfl, q _ L [] (k02.more (by simp)) nL hM2 e2 TDs.nil⟩⟩⟩⟩
    | wait x y => exact ⟨_, rfl, rfl, _, rfl, iteBF (show decide (V.str (Str.ofString "wait") = V.str (Str.ofString "copy")) = false by decide +kernel) ⟨_, rfl, rfl, _, rfl, iteBF (show decide (V.str (Str.ofString "wait") = V.str (Str.ofString "fill")) = false by decide +kernel) ⟨_, rfl, rfl, _, rfl, iteBF (show decide (V.str (Str.ofString "wait") = V.str (Str.ofString "add")) = false by decide +kernel) ⟨_, rfl, q _ L [] (k02.more (by simp)) nL hM2 e2 TDs.nil⟩⟩⟩⟩
    | fence => exact ⟨_, rfl, rfl, _, rfl, iteBF (show decide (V.str (Str.ofString "fence") = V.str (Str.ofString "copy")) = false by decide +kernel) ⟨_, rfl, rfl, _, rfl, iteBF (show decide (V.str (Str.ofString "fence") = V.str (Str.ofString "fill")) = false by decide +kernel) ⟨_, rfl, rfl, _, rfl, iteBF (show decide (V.str (Str.ofString "fence") = V.str (Str.ofString "add")) = false by decide +kernel) ⟨_, rfl, q _ L [] (k02.more (by simp)) nL hM2 e2 TDs.nil⟩⟩⟩⟩
    | copy b c k =>
      obtain ⟨vb, us, rfl, hb, hu⟩ := hu.inv
      obtain ⟨vc, us, rfl, hc, hu⟩ := hu.inv
      obtain ⟨vk, us, rfl, hk, hu⟩ := hu.inv
      obtain rfl := hk.inv_int
      refine ⟨_, rfl, rfl, _, rfl, iteBT (show decide (V.str (Str.ofString "copy") = V.str (Str.ofString "copy")) = true by decide +kernel) ?_⟩
      refine ⟨_, rfl, p, _, 0, vb, rfl, rfl, SqL.of hp2, atN (n := 0) rfl rfl, _, b, rfl, hb.kp k02, ok.1.rows8, ok.1.count8, fun H3 L3 k3 n3 e3 => ?_⟩
      have hp3 := k3.same _ _ hp2
      refine ⟨_, rfl, p, _, 1, vc, rfl, rfl, SqL.of hp3, atN (n := 1) rfl rfl, _, c, rfl, hc.kp (k02.trans k3), ok.2.1.rows8, ok.2.1.count8, fun H4 L4 k4 n4 e4 => ?_⟩
      have e3' := k4.same _ _ e3
      refine ⟨L3, L4, _, _, rfl, SqL.of e3', SqL.of e4, ?_, ?_, fun H5 L5 ts k5 n5 e5 tl tz => ?_⟩
      · rw [nums_len, nums_len, Ar.cells_len, Ar.cells_len]
        exact ok.2.2.1.symm
      · rw [nums_len, Ar.cells_len]
        exact ok.1.pos
      have hp5 := (k4.trans k5).same _ _ hp3
      refine ⟨_, rfl, p, _, 2, _, rfl, rfl, SqL.of hp5, atN (n := 2) rfl rfl, _, rfl, L5, _, rfl, SqL.of e5, fun L6 H6 k6 n6 e6 => ?_⟩
      have hM6 := ((k3.trans k4).trans (k5.trans k6)).same _ _ hM2
      have f2 := ((k3.trans k4).trans (k5.trans k6)).same _ _ e2
      have k06 := k02.trans ((k3.trans k4).trans (k5.trans k6))
      rw [cut_from, ← List.map_drop] at e6
      have tl' : ts.length = b.cells.length := by rw [tl, nums_len]
      have cl : c.cells.length = b.cells.length := by rw [Ar.cells_len, Ar.cells_len]; exact ok.2.2.1.symm
      have b8 := ok.1.size8
      rw [← Ar.cells_len] at b8
      have ll : ((b.cells.zip c.cells).drop k).length = (ts.drop k).length := by rw [List.length_drop, List.length_zip, List.length_drop]; omega
      have hrun : (Stp.copy b c k).run m = cpN ((b.cells.zip c.cells).drop k) m (ts.drop k).length := by
        show cpN _ m _ = _
        rw [ll]
      rw [hrun] at q
      generalize hl : (b.cells.zip c.cells).drop k = l at q ll
      refine ⟨_, rfl, L6, _, rfl, SqL.of e6, for_it (walk_enum (xs := (ts.drop k).map V.ref)) (fun i σ H' => Kp [M, L] H6 H' ∧ H' M = some (.lst (nums (cpN l m i).1)) ∧ (∃ rvs, H' L = some (.lst rvs) ∧ TDs H' rvs ((cpN l m i).2.map Rw.d)) ∧
        ∃ v6 v7 v8, σ = [some (.ref M), some (.ref a), some (.str (Str.ofString "copy")), some (.ref p), some (.ref L), some (.ref L6), v6, v7, v8, none]) ⟨Kp.refl _, hM6, ⟨[], f2, TDs.nil⟩, none, none, none, rfl⟩ (fun i σ H' _ h => ?_) (fun i x σ H7 H8 hi h y => ?_) (fun σ H7 h => ?_)⟩
      · refine SqL.of (h.1.keep _ _ e6 ?_)
        have z1 : L6 ≠ M := fun z => by rw [z, (k5.trans (Kp.refl _)).same _ _ ((k3.trans k4).same _ _ hM2)] at n6; cases n6
        have z2 : L6 ≠ L := fun z => by rw [z, (k5.trans (Kp.refl _)).same _ _ ((k3.trans k4).same _ _ e2)] at n6; cases n6
        simp [z1, z2]
      · obtain ⟨k7, hM7, ⟨rvs, hL7, hr7⟩, v6, v7, v8, rfl⟩ := h
        obtain ⟨U, y0, rfl, nU, k8, eU, ey⟩ := enum_inv y
        obtain ⟨t0, et, rfl⟩ := refs_get ey
        rw [List.getElem?_drop] at et
        obtain ⟨x, y, g1, g2, g3⟩ := tz (k + i) _ et
        obtain ⟨sn, hs, rfl⟩ := nums_get g1
        obtain ⟨tn, ht, rfl⟩ := nums_get g2
        have hli : l[i]? = some (sn, tn) := by rw [← hl]; exact zip_drop_at hs ht
        have ls := Ar.cells_lt ok.1 (List.mem_of_getElem? hs)
        have lt := Ar.cells_lt ok.2.1 (List.mem_of_getElem? ht)
        have g8 := k8.tups _ _ (k7.tups _ _ (k6.tups _ _ g3))
        have hM8 := k8.same _ _ hM7
        have ml := cpN_len l m i
        refine ⟨U, _, rfl, SqT.of eU, rfl, _, _, rfl, _, _, rfl, _, _, rfl, SqT.of g8, rfl, _, _, rfl, _, _, rfl, rfl, rfl, ?_⟩
        refine ⟨_, rfl, _, rfl, M, _, _, _, rfl, rfl, SqL.of hM8, atN rfl (nums_at (by omega)), ?_⟩
        refine ⟨_, rfl, _, rfl, M, _, _, tn, rfl, rfl, hM8, ixN_of (by rw [nums_len]; omega), ?_⟩
        rw [nums_set]
        have hL8 := k8.same _ _ hL7
        have kS : Kp [M, L] H8 (upd H8 M (.lst (nums ((cpN l m i).1.set tn ((cpN l m i).1.getD sn 0))))) := Kp.put hM8 (by simp) (by simp)
        have hM9 : upd H8 M (.lst (nums ((cpN l m i).1.set tn ((cpN l m i).1.getD sn 0)))) M = some (.lst (nums ((cpN l m i).1.set tn ((cpN l m i).1.getD sn 0)))) := upd_same
        have hL9 : upd H8 M (.lst (nums ((cpN l m i).1.set tn ((cpN l m i).1.getD sn 0)))) L = some (.lst rvs) := by rw [upd_ne nML.symm]; exact hL8
        have hr9 := (hr7.kp k8).kp kS
        revert kS hM9 hL9 hr9
        generalize upd H8 M (.lst (nums ((cpN l m i).1.set tn ((cpN l m i).1.getD sn 0)))) = H9
        intro kS hM9 hL9 hr9
        have rd : (nums ((cpN l m i).1.set tn ((cpN l m i).1.getD sn 0)))[tn]? = some (vi ((cpN l m i).1.getD sn 0)) := nums_at_set (by omega)
        refine ⟨_, rfl, .inl ⟨rfl, _, SqL.of hL9⟩, ?_⟩
        refine ⟨_, rfl, _, rfl, _, rfl, _, rfl, M, _, _, _, rfl, rfl, SqL.of hM9, atN rfl rd, sz 4, fun t1 G1 q1 m1 u1 => ?_⟩
        refine ⟨_, rfl, _, rfl, _, rfl, _, rfl, M, _, _, _, rfl, rfl, SqL.of (q1.same _ _ hM9), atN rfl rd, sz 4, fun t2 G2 q2 m2 u2 => ?_⟩
        refine ⟨sz 2, fun t3 G3 q3 m3 u3 => ?_⟩
        have q13 := (q1.trans q2).trans q3
        have hL12 := q13.same _ _ hL9
        have rl := cpN_rows l m i
        have hi2 : i < 8 := by rw [List.length_map, List.length_drop] at hi; omega
        have rvl := hr9.1
        rw [List.length_map] at rvl
        refine ⟨L, t3, rvs, _, rfl, rfl, hL12, u3, sz _ (by simp; omega), ?_⟩
        have kX : Kp [M, L] G3 (upd G3 L (.lst (rvs ++ [.ref t1, .ref t2]))) := Kp.put hL12 (by simp) (by simp)
        refine ⟨((k7.trans (k8.more (by simp))).trans kS).trans ((q13.more (by simp)).trans kX), ?_, ⟨_, upd_same, ?_⟩, _, _, _, rfl⟩
        · rw [upd_ne nML, cpN_succ hli]
          exact q13.same _ _ hM9
        · rw [cpN_succ hli, List.map_append]
          refine ((hr9.kp q13).append (.cons ?_ (.cons ?_ .nil))).kp kX
          · exact Rw.td (w := false) ((q2.trans q3).same _ _ u1)
          · exact Rw.td (w := true) (q3.same _ _ u2)
      · obtain ⟨k7, hM7, ⟨rvs, hL7, hr7⟩, v6, v7, v8, rfl⟩ := h
        rw [List.length_map] at hM7 hr7
        refine ⟨_, rfl, rfl, _, rfl, iteBF (show decide (V.str (Str.ofString "copy") = V.str (Str.ofString "fill")) = false by decide +kernel) ⟨_, rfl, rfl, _, rfl, iteBF (show decide (V.str (Str.ofString "copy") = V.str (Str.ofString "add")) = false by decide +kernel) ⟨_, rfl, ?_⟩⟩⟩
        have kA : Kp [M, L] H H7 := (k06.more (by simp)).trans k7
        exact q _ L rvs (Kp.drop (kA.more (by simp)) nL) nL hM7 hL7 hr7
    | fill b x k =>
      obtain ⟨vb, us, rfl, hb, hu⟩ := hu.inv
      obtain ⟨vc, us, rfl, hc, hu⟩ := hu.inv
      obtain ⟨vk, us, rfl, hk, hu⟩ := hu.inv
      obtain rfl := hc.inv_int
      obtain rfl := hk.inv_int
      refine ⟨_, rfl, rfl, _, rfl, iteBF (show decide (V.str (Str.ofString "fill") = V.str (Str.ofString "copy")) = false by decide +kernel) ⟨_, rfl, rfl, _, rfl, iteBT (show decide (V.str (Str.ofString "fill") = V.str (Str.ofString "fill")) = true by decide +kernel) ?_⟩⟩
      refine ⟨_, rfl, p, _, 0, vb, rfl, rfl, SqL.of hp2, atN (n := 0) rfl rfl, _, b, rfl, hb.kp k02, ok.1.rows8, ok.1.count8, fun H3 L3 k3 n3 e3 => ?_⟩
      have hp3 := k3.same _ _ hp2
      refine ⟨_, rfl, p, _, 2, _, rfl, rfl, SqL.of hp3, atN (n := 2) rfl rfl, _, rfl, L3, _, rfl, SqL.of e3, fun L6 H6 k6 n6 e6 => ?_⟩
      rw [cut_from, ← nums_drop] at e6
      have hM6 := (k3.trans k6).same _ _ hM2
      have f2 := (k3.trans k6).same _ _ e2
      have k06 := k02.trans (k3.trans k6)
      have hp6 := (k3.trans k6).same _ _ hp2
      have b8 := ok.1.size8
      rw [← Ar.cells_len] at b8
      have l8 : (b.cells.drop k).length ≤ 8 := by rw [List.length_drop]; omega
      have hlt : ∀ t ∈ b.cells.drop k, t < m.length := fun t ht => Ar.cells_lt ok.1 (List.mem_of_mem_drop ht)
      have hrun : (Stp.fill b x k).run m = flN (b.cells.drop k) x m (b.cells.drop k).length := rfl
      rw [hrun] at q
      generalize b.cells.drop k = l at q e6 l8 hlt
      have nML' : p ≠ M := fun z => by rw [z] at np; rw [np] at hM; cases hM
      have nLp : p ≠ L := fun z => by rw [z, n2] at hp; cases hp
      refine ⟨L6, _, rfl, SqL.of e6, for_it (walk_enum (xs := nums l)) (fun i σ H' => Kp [M, L] H6 H' ∧ H' M = some (.lst (nums (flN l x m i).1)) ∧ (∃ rvs, H' L = some (.lst rvs) ∧ TDs H' rvs ((flN l x m i).2.map Rw.d)) ∧
        ∃ v6 v8, σ = [some (.ref M), some (.ref a), some (.str (Str.ofString "fill")), some (.ref p), some (.ref L), none, v6, none, v8, none]) ⟨Kp.refl _, hM6, ⟨[], f2, TDs.nil⟩, none, none, rfl⟩ (fun i σ H' _ h => ?_) (fun i z σ H7 H8 hi h y => ?_) (fun σ H7 h => ?_)⟩
      · refine SqL.of (h.1.keep _ _ e6 ?_)
        have z1 : L6 ≠ M := fun z => by rw [z, k3.same _ _ hM2] at n6; cases n6
        have z2 : L6 ≠ L := fun z => by rw [z, k3.same _ _ e2] at n6; cases n6
        simp [z1, z2]
      · obtain ⟨k7, hM7, ⟨rvs, hL7, hr7⟩, v6, v8, rfl⟩ := h
        obtain ⟨U, y0, rfl, nU, k8, eU, ey⟩ := enum_inv y
        obtain ⟨tn, hli, rfl⟩ := nums_get ey
        have lt := hlt tn (List.mem_of_getElem? hli)
        have hM8 := k8.same _ _ hM7
        have hL8 := k8.same _ _ hL7
        have hp8 := k8.same _ _ (k7.keep _ _ hp6 (by simp [nML', nLp]))
        have ml := flN_len l x m i
        refine ⟨U, _, rfl, SqT.of eU, rfl, _, _, rfl, _, _, rfl, rfl, ?_⟩
        refine ⟨_, rfl, p, _, 1, _, rfl, rfl, SqL.of hp8, atN (n := 1) rfl rfl, ?_⟩
        refine ⟨_, rfl, _, rfl, M, _, _, tn, rfl, rfl, hM8, ixN_of (by rw [nums_len]; omega), ?_⟩
        rw [nums_set]
        have kS : Kp [M, L] H8 (upd H8 M (.lst (nums ((flN l x m i).1.set tn x)))) := Kp.put hM8 (by simp) (by simp)
        have hM9 : upd H8 M (.lst (nums ((flN l x m i).1.set tn x))) M = some (.lst (nums ((flN l x m i).1.set tn x))) := upd_same
        have hL9 : upd H8 M (.lst (nums ((flN l x m i).1.set tn x))) L = some (.lst rvs) := by rw [upd_ne nML.symm]; exact hL8
        have hp9 := (upd_ne (H := H8) (o := .lst (nums ((flN l x m i).1.set tn x))) nML').trans hp8
        have hr9 := (hr7.kp k8).kp kS
        revert kS hM9 hL9 hr9 hp9
        generalize upd H8 M (.lst (nums ((flN l x m i).1.set tn x))) = H9
        intro kS hM9 hL9 hp9 hr9
        refine ⟨_, rfl, .inl ⟨rfl, _, SqL.of hL9⟩, ?_⟩
        refine ⟨_, rfl, _, rfl, _, rfl, p, _, 1, _, rfl, rfl, SqL.of hp9, atN (n := 1) rfl rfl, sz 4, fun t1 G1 q1 m1 u1 => ?_⟩
        have hL12 := q1.same _ _ hL9
        have rl := flN_rows l x m i
        have hi2 : i < 8 := by rw [nums_len] at hi; omega
        have rvl := hr9.1
        rw [List.length_map] at rvl
        refine ⟨L, rvs, _, rfl, rfl, hL12, Nat.lt_of_le_of_lt (show rvs.length ≤ 1000 by omega) (by decide), ?_⟩
        have kX : Kp [M, L] G1 (upd G1 L (.lst (rvs ++ [.ref t1]))) := Kp.put hL12 (by simp) (by simp)
        refine ⟨((k7.trans (k8.more (by simp))).trans kS).trans ((q1.more (by simp)).trans kX), ?_, ⟨_, upd_same, ?_⟩, _, _, rfl⟩
        · rw [upd_ne nML, flN_succ hli]
          exact q1.same _ _ hM9
        · rw [flN_succ hli, List.map_append]
          exact TDs.kp kX (TDs.append (hr9.kp q1) (TDs.cons (Rw.td (w := true) u1) TDs.nil))
      · obtain ⟨k7, hM7, ⟨rvs, hL7, hr7⟩, v6, v8, rfl⟩ := h
        rw [nums_len] at hM7 hr7
        refine ⟨_, rfl, rfl, _, rfl, iteBF (show decide (V.str (Str.ofString "fill") = V.str (Str.ofString "add")) = false by decide +kernel) ⟨_, rfl, ?_⟩⟩
        have kA : Kp [M, L] H H7 := (k06.more (by simp)).trans k7
        exact q _ L rvs (Kp.drop (kA.more (by simp)) nL) nL hM7 hL7 hr7
    | add b c =>
      obtain ⟨vb, us, rfl, hb, hu⟩ := hu.inv
      obtain ⟨vc, us, rfl, hc, hu⟩ := hu.inv
      obtain rfl := hc.inv_int
      refine ⟨_, rfl, rfl, _, rfl, iteBF (show decide (V.str (Str.ofString "add") = V.str (Str.ofString "copy")) = false by decide +kernel) ⟨_, rfl, rfl, _, rfl, iteBF (show decide (V.str (Str.ofString "add") = V.str (Str.ofString "fill")) = false by decide +kernel) ⟨_, rfl, rfl, _, rfl, iteBT (show decide (V.str (Str.ofString "add") = V.str (Str.ofString "add")) = true by decide +kernel) ?_⟩⟩⟩
      refine ⟨_, rfl, p, _, 0, vb, rfl, rfl, SqL.of hp2, atN (n := 0) rfl rfl, _, b, rfl, hb.kp k02, ok.1.rows8, ok.1.count8, fun H3 L3 k3 n3 e3 => ?_⟩
      have b8 := ok.1.size8
      rw [← Ar.cells_len] at b8
      have hlt : ∀ t ∈ b.cells, t < m.length := fun t ht => Ar.cells_lt ok.1 ht
      have hM3 := k3.same _ _ hM2
      refine ⟨L3, _, rfl, SqL.of e3, fun D hD => ?_⟩
      refine lc_pure (walk_enum (xs := nums b.cells)) (fun i acc H => TDs H acc ((adN b.cells m i).map Rw.d)) hD (fun i acc => stb_tds _ _) TDs.nil (fun H' k => k.seqL (SqL.of e3)) YPair.kp (fun i acc H' hi r => ?_) (fun i x H4 H5 acc hi k4 r y N S hN hS => ?_) (fun H4 acc k4 e4 r4 => ?_)
      · have := r.1
        have := adN_rows b.cells m i
        rw [List.length_map] at *
        rw [nums_len] at hi
        omega
      · obtain ⟨U, y0, rfl, nU, k5, eU, ey⟩ := enum_inv y
        obtain ⟨tn, hli, rfl⟩ := nums_get ey
        have lt := hlt tn (List.mem_of_getElem? hli)
        have hM5 := (k4.trans k5).same _ _ hM3
        refine ⟨U, _, rfl, SqT.of eU, rfl, _, _, rfl, _, _, rfl, rfl, rfl, ?_⟩
        refine ⟨_, rfl, _, rfl, _, rfl, _, rfl, M, _, _, _, rfl, rfl, SqL.of hM5, atN rfl (nums_at lt), sz 4, fun t1 G1 q1 m1 u1 => hN _ _ q1 ?_⟩
        rw [adN_succ hli, List.map_append]
        exact (r.kp (k5.trans q1)).append (.cons (Rw.td (w := false) u1) .nil)
      · rw [nums_len] at r4
        have nDM : D ≠ M := fun z => by rw [z, hM3] at hD; cases hD
        have hM4 := k4.same _ _ hM3
        have rl : acc.length = b.cells.length := by rw [r4.1, List.length_map, adN_len _ (Nat.le_refl _)]
        refine ⟨_, rfl, D, rfl, ⟨_, SqL.of e4⟩, fun D2 hD2 => ?_⟩
        refine lc_pure (walk_list (xs := acc)) (fun i acc2 _ => acc2 = nums ((b.cells.map fun x => m.getD x 0).take i)) hD2 (fun i acc => stb_pure _) rfl (fun H' k => k.seqL (SqL.of e4)) YAt.kp (fun i acc2 H' hi r => ?_) (fun i x H5 H6 acc2 hi k5 r y N S hN hS => ?_) (fun H5 acc2 k5 e5 r5 => ?_)
        · rw [r, nums_len, List.length_take]
          omega
        · obtain ⟨rfl, hx⟩ := y
          have hi' : i < b.cells.length := by omega
          have hli : b.cells[i]? = some b.cells[i] := List.getElem?_eq_getElem hi'
          obtain ⟨rw0, hrw, td⟩ := r4.nth hx
          rw [adN_at hli _ (Nat.le_refl _) hi'] at hrw
          cases hrw
          obtain ⟨u, zs, rfl, hu1, hz⟩ := (td.kp k5).inv
          obtain ⟨z0, zs, rfl, h0, hz⟩ := hz.inv
          obtain ⟨z1, zs, rfl, h1, hz⟩ := hz.inv
          obtain ⟨z2, zs, rfl, h2, hz⟩ := hz.inv
          obtain ⟨z3, zs, rfl, h3, hz⟩ := hz.inv
          obtain rfl := h3.inv_int
          refine ⟨rfl, _, rfl, u, _, 3, _, rfl, rfl, SqT.of hu1, atN (n := 3) rfl rfl, hN _ _ (Kp.refl _) ?_⟩
          rw [r, take_snoc (x := m.getD b.cells[i] 0) (by rw [List.getElem?_map, hli]; rfl), nums_app]
          rfl
        · rw [rl, List.take_of_length_le (by rw [List.length_map]; exact Nat.le_refl _)] at r5
          have kD : Kp [] H2 H5 := (k3.trans k4).trans k5
          have hM5 := k5.same _ _ hM4
          have hp5 := kD.same _ _ hp2
          have hD5 := k5.same _ _ e4
          have npM : p ≠ M := fun z => by rw [z] at np; rw [np] at hM; cases hM
          rw [r5, nums_map] at e5
          refine ⟨D2, _, rfl, SqL.of e5, _, _, rfl, rfl, by show (0 : Int) < 256; decide, ?_⟩
          refine ⟨_, rfl, _, rfl, p, _, 1, _, rfl, rfl, SqL.of hp5, atN (n := 1) rfl rfl, M, _, _, c, rfl, rfl, hM5, ixN_of (by rw [nums_len]; exact ok.2), ?_⟩
          have hset : (nums m).set c (V.int (((b.cells.map fun x => m.getD x 0).map fun n : Nat => (n : Int)).sum % 256)) = nums (m.set c (adS b.cells m)) := by
            rw [adS_int]
            exact nums_set ..
          rw [hset]
          have kS : Kp [M] H5 (upd H5 M (.lst (nums (m.set c (adS b.cells m))))) := Kp.put hM5 (by simp) (by simp)
          have hM9 : upd H5 M (.lst (nums (m.set c (adS b.cells m)))) M = some (.lst (nums (m.set c (adS b.cells m)))) := upd_same
          have hp9 := (upd_ne (H := H5) (o := .lst (nums (m.set c (adS b.cells m)))) npM).trans hp5
          have hD9 := (upd_ne (H := H5) (o := .lst (nums (m.set c (adS b.cells m)))) nDM).trans hD5
          have hr9 := (r4.kp k5).kp kS
          revert kS hM9 hp9 hD9 hr9
          generalize upd H5 M (.lst (nums (m.set c (adS b.cells m)))) = H9
          intro kS hM9 hp9 hD9 hr9
          have rd : (nums (m.set c (adS b.cells m)))[c]? = some (vi (adS b.cells m)) := nums_at_set ok.2
          refine ⟨_, rfl, .inl ⟨rfl, _, SqL.of hD9⟩, ?_⟩
          refine ⟨_, rfl, D, _, rfl, .inl (SqL.of hD9), _, rfl, p, _, 1, _, rfl, rfl, SqL.of hp9, atN (n := 1) rfl rfl, ?_⟩
          refine ⟨_, rfl, _, rfl, p, _, 1, _, rfl, rfl, SqL.of hp9, atN (n := 1) rfl rfl, M, _, _, _, rfl, rfl, SqL.of hM9, atN rfl rd, sz 4, fun t1 G1 q1 m1 u1 => ?_⟩
          have hD10 := q1.same _ _ hD9
          refine ⟨D, acc, _, rfl, rfl, hD10, Nat.lt_of_le_of_lt (show acc.length ≤ 1000 by omega) (by decide), ?_⟩
          have kX : Kp [D] G1 (upd G1 D (.lst (acc ++ [.ref t1]))) := Kp.put hD10 (by simp) (by simp)
          have nD : H D = none := (k02.trans k3).free hD
          rw [rl] at u1
          refine ⟨_, rfl, q _ D _ (Kp.drop (p := D) ?_ nD) nD ?_ upd_same ?_⟩
          · exact (((k02.trans kD).more (by simp)).trans (kS.more (by simp))).trans ((q1.more (by simp)).trans (kX.more (by simp)))
          · rw [upd_ne nDM.symm]
            exact q1.same _ _ hM9
          · show TDs _ _ ((adN b.cells m b.cells.length ++ [(⟨b.cells.length, true, c, adS b.cells m⟩ : Rw)]).map Rw.d)
            rw [List.map_append]
            exact TDs.kp kX (TDs.append (hr9.kp q1) (TDs.cons (Rw.td (w := true) u1) TDs.nil))
end
end L2.K14
set_option Elab.async false
set_option linter.all false
set_option maxRecDepth 100000
set_option maxHeartbeats 4000000
set_option pp.maxSteps 600
/-! a Course: deeds are done -/
namespace L2.K14
open PySem PySem.Spec PyProof.Rows
/-! ### classes -/
def CalC (P : Program) (w : World) (K : PySem.W.Frag) (mg : Str → Option Value) (base : Heap) (C : Addr) (k : Nat) (x : Str) (ps : List Str) (sp : Sp) : Prop :=
  ∃ f fd, FnOk P w K mg base CX0 k f fd ps sp ∧ Mk K C f ∧ mg x = some (.ref C) ∧ Binds K fd ps []
section
variable {X : Cx} {o e : Expr} {es : List Expr} {t : TA} {ta : TE}
theorem pm {C : Addr} {k n : Nat} {m : Str} {ps : List Str} {sp : Sp} {apos pos : Pos} {pl : Sem Bool} (he : PE X o ta) (c : Cls X.K C) (D : Met X.prog X.w X.K X.mg X.base C k m ps sp) (hr : Room n X.A) (ha : PA X (e :: es) t) (hk : k ≤ n := by decide)
    (hst : starEach (e :: es) X.env = (false, eval e X.env) :: starEach es X.env := by rfl) (hpl : (backTo pos (starEach es X.env)).any (·.1) = false := by rfl)
    (ht : eval (.Call (.Attribute o m apos) (e :: es) [] pos) X.env = (do
      let ov ← eval o X.env
      standAt apos.atName
      let (f, first) ← holding [ov] (getMethod ov m pl)
      callWith pos f first (backTo pos (starEach (e :: es) X.env)) (backToKw pos (keywordEach [] X.env))) := by rfl) :
    PE X (.Call (.Attribute o m apos) (e :: es) [] pos) (tMeth C m sp [] E0 ta t) := by
  obtain ⟨f, fd, F, hm, b⟩ := D
  exact pe_meth he c hm F (hr.mono hk) b .nil pass0 ha hst hpl ht
theorem pm0 {C : Addr} {k n : Nat} {m : Str} {ps : List Str} {sp : Sp} {apos pos : Pos} {pl : Sem Bool} (he : PE X o ta) (c : Cls X.K C) (D : Met X.prog X.w X.K X.mg X.base C k m ps sp) (hr : Room n X.A) (hk : k ≤ n := by decide)
    (ht : eval (.Call (.Attribute o m apos) [] [] pos) X.env = (do
      let ov ← eval o X.env
      standAt apos.atName
      let (f, first) ← holding [ov] (getMethod ov m pl)
      callWith pos f first (backTo pos (starEach [] X.env)) (backToKw pos (keywordEach [] X.env))) := by rfl) :
    PE X (.Call (.Attribute o m apos) [] [] pos) (tMeth C m sp [] E0 ta tNil) := by
  obtain ⟨f, fd, F, hm, b⟩ := D
  exact pe_meth0 he c hm F (hr.mono hk) b .nil pass0 ht
theorem pmk {C : Addr} {k n : Nat} {x : Str} {ps : List Str} {sp : Sp} {p pos : Pos} (D : CalC X.prog X.w X.K X.mg X.base C k x ps sp) (hr : Room n X.A) (ha : PA X (e :: es) t) (hk : k + 1 ≤ n := by decide) (hg : Gl X x := by rfl) (hdb : (x == ("__debug__" : Str)) = false := by decide)
    (he : starEach (e :: es) X.env = (false, eval e X.env) :: starEach es X.env := by rfl) (hpl : (backTo pos (starEach es X.env)).any (·.1) = false := by rfl) :
    PE X (.Call (.Name x p) (e :: es) [] pos) (tMake C sp [] E0 t) := by
  obtain ⟨f, fd, F, M, m, b⟩ := D
  exact pe_make M F (hr.mono hk) hg m b .nil pass0 ha hdb he hpl
end
/-! ### what a run is -/
structure Spot where
  place : Nat
  num : Option Nat
def Spot.d (s : Spot) : PyData := .tuple [dN s.place, match s.num with | none => .none | some k => dN k]
def stuckD : Option Spot → PyData
  | none => .none
  | some s => s.d
structure Row where
  spot : Spot
  rw : Rw
def Row.d (r : Row) : PyData := .tuple [r.spot.d, dN r.rw.part, .str (wayS r.rw.wr), dN r.rw.cell, dN r.rw.byte]
structure Run where
  mem : List Nat
  flags : List Nat
  rows : List Row
  peeks : List Nat
  stuck : Option Spot
def Run.tell (r : Run) (s : Spot) (rs : List Rw) : Run := { r with rows := r.rows ++ rs.map (Row.mk s) }
def Run.pass (r : Run) (s : Spot) (f n : Nat) : Run := if r.flags.getD f 0 < n then { r with stuck := some s } else r
def Run.step (r : Run) (s : Spot) (t : Stp) : Run :=
  let r1 := ({ r with mem := (t.run r.mem).1 } : Run).tell s (t.run r.mem).2
  match t with
  | .note f => { r1 with flags := r1.flags.set f (r1.flags.getD f 0 + 1) }
  | .wait f n => r1.pass s f n
  | _ => r1
def stepsN (l : List Stp) (place : Nat) (r : Run) : Nat → Run
  | 0 => r
  | i + 1 => match l[i]?, (stepsN l place r i).stuck with
    | some t, none => (stepsN l place r i).step ⟨place, some i⟩ t
    | _, _ => stepsN l place r i
def Run.deed (r : Run) (place : Nat) : Ded → Run
  | .post _ l => stepsN l place r l.length
  | .poke c b => ({ r with mem := r.mem.set c b } : Run).tell ⟨place, none⟩ [⟨0, true, c, b⟩]
  | .peek c => ({ r with peeks := r.peeks ++ [r.mem.getD c 0] } : Run).tell ⟨place, none⟩ [⟨0, false, c, r.mem.getD c 0⟩]
  | .join _ => r
  | .see f n => r.pass ⟨place, none⟩ f n
def deedsN (p : List Ded) (r : Run) : Nat → Run
  | 0 => r
  | i + 1 => match p[i]?, (deedsN p r i).stuck with
    | some t, none => (deedsN p r i).deed i t
    | _, _ => deedsN p r i
def run0 (m : List Nat) : Run := ⟨m, List.replicate 8 0, [], [], none⟩
def runAll (m : List Nat) (p : List Ded) : Run := deedsN p (run0 m) p.length
/-- what stays true amid a run: n rows at most -/
structure RunOk (len n : Nat) (r : Run) : Prop where
  mem : r.mem.length = len
  flags : r.flags.length = 8
  rows : r.rows.length ≤ n
  peeks : r.peeks.length ≤ n
theorem Stp.run_rows {t : Stp} {top : Nat} (h : t.Ok top) (m : List Nat) : (t.run m).2.length ≤ 17 := by
  cases t with
  | copy a b k =>
    have := cpN_rows ((a.cells.zip b.cells).drop k) m ((a.cells.zip b.cells).drop k).length
    have := h.1.size8
    rw [← Ar.cells_len] at this
    have e : ((a.cells.zip b.cells).drop k).length ≤ 8 := by rw [List.length_drop, List.length_zip]; omega
    show (cpN _ m _).2.length ≤ 17
    omega
  | fill a x k =>
    have := flN_rows (a.cells.drop k) x m (a.cells.drop k).length
    have := h.1.size8
    rw [← Ar.cells_len] at this
    have e : (a.cells.drop k).length ≤ 8 := by rw [List.length_drop]; omega
    show (flN _ x m _).2.length ≤ 17
    omega
  | add a c =>
    have := adN_rows a.cells m a.cells.length
    have := h.1.size8
    rw [← Ar.cells_len] at this
    show (adN _ m _ ++ [_]).length ≤ 17
    rw [List.length_append, List.length_singleton]
    omega
  | _ => exact Nat.zero_le _
theorem RunOk.mono {len n k : Nat} {r : Run} (h : RunOk len n r) (l : n ≤ k) : RunOk len k r := ⟨h.mem, h.flags, Nat.le_trans h.rows l, Nat.le_trans h.peeks l⟩
theorem RunOk.pass {len n : Nat} {r : Run} (h : RunOk len n r) (s : Spot) (f k : Nat) : RunOk len n (r.pass s f k) := by
  unfold Run.pass
  split
  · exact ⟨h.mem, h.flags, h.rows, h.peeks⟩
  · exact h
theorem RunOk.step {len n top : Nat} {r : Run} (h : RunOk len n r) (s : Spot) {t : Stp} (ht : t.Ok top) : RunOk len (n + 17) (r.step s t) := by
  have hr := Stp.run_rows ht r.mem
  have h1 : RunOk len (n + 17) (({ r with mem := (t.run r.mem).1 } : Run).tell s (t.run r.mem).2) := by
    refine ⟨?_, h.flags, ?_, Nat.le_trans h.peeks (Nat.le_add_right _ _)⟩
    · show (t.run r.mem).1.length = len
      rw [Stp.run_len, h.mem]
    · show (r.rows ++ (t.run r.mem).2.map (Row.mk s)).length ≤ n + 17
      rw [List.length_append, List.length_map]
      have := h.rows
      omega
  cases t with
  | note f => exact ⟨h1.mem, by show (List.set _ _ _).length = 8; rw [List.length_set]; exact h1.flags, h1.rows, h1.peeks⟩
  | wait f k => exact h1.pass s f k
  | _ => exact h1
theorem stepsN_succ {l : List Stp} {place i : Nat} {r : Run} {t : Stp} (h : l[i]? = some t) : stepsN l place r (i + 1) = if (stepsN l place r i).stuck.isNone then (stepsN l place r i).step ⟨place, some i⟩ t else stepsN l place r i := by
  conv => lhs; unfold stepsN
  rw [h]
  cases (stepsN l place r i).stuck <;> rfl
theorem deedsN_succ {l : List Ded} {i : Nat} {r : Run} {t : Ded} (h : l[i]? = some t) : deedsN l r (i + 1) = if (deedsN l r i).stuck.isNone then (deedsN l r i).deed i t else deedsN l r i := by
  conv => lhs; unfold deedsN
  rw [h]
  cases (deedsN l r i).stuck <;> rfl
theorem RunOk.stepsN {len n top place : Nat} {r : Run} {l : List Stp} (h : RunOk len n r) (hl : ∀ t ∈ l, t.Ok top) : ∀ i, i ≤ l.length → RunOk len (n + 17 * i) (stepsN l place r i)
  | 0, _ => h
  | i + 1, hi => by
    have ih := RunOk.stepsN (place := place) h hl i (by omega)
    have e : l[i]? = some l[i] := List.getElem?_eq_getElem (by omega)
    rw [stepsN_succ e]
    split
    · exact (ih.step _ (hl _ (List.mem_of_getElem? e))).mono (by omega)
    · exact ih.mono (by omega)
theorem RunOk.deed {len n top place : Nat} {r : Run} {t : Ded} (h : RunOk len n r) (ht : t.Ok top) : RunOk len (n + 68) (r.deed place t) := by
  cases t with
  | post a l =>
    have := h.stepsN (place := place) (l := l) (top := top) (fun t h' => (ht.2.2.2 t h').1) l.length (Nat.le_refl _)
    exact this.mono (by have := ht.2.2.1; omega)
  | poke c b => exact ⟨by show (List.set _ _ _).length = len; rw [List.length_set]; exact h.mem, h.flags, by show (r.rows ++ [_]).length ≤ _; rw [List.length_append, List.length_singleton]; have := h.rows; omega, Nat.le_trans h.peeks (Nat.le_add_right _ _)⟩
  | peek c => exact ⟨h.mem, h.flags, by show (r.rows ++ [_]).length ≤ _; rw [List.length_append, List.length_singleton]; have := h.rows; omega, by show (r.peeks ++ [_]).length ≤ _; rw [List.length_append, List.length_singleton]; have := h.peeks; omega⟩
  | join c => exact h.mono (by omega)
  | see f k => exact (h.pass _ f k).mono (by omega)
theorem RunOk.deedsN {len n top : Nat} {r : Run} {l : List Ded} (h : RunOk len n r) (hl : ∀ t ∈ l, t.Ok top) : ∀ i, i ≤ l.length → RunOk len (n + 68 * i) (deedsN l r i)
  | 0, _ => h
  | i + 1, hi => by
    have ih := RunOk.deedsN h hl i (by omega)
    have e : l[i]? = some l[i] := List.getElem?_eq_getElem (by omega)
    rw [deedsN_succ e]
    split
    · exact (ih.deed (hl _ (List.mem_of_getElem? e))).mono (by omega)
    · exact ih.mono (by omega)
theorem run0_ok (m : List Nat) : RunOk m.length 0 (run0 m) := ⟨rfl, by simp [run0], Nat.le_refl _, Nat.le_refl _⟩
/-! ### where a Course lies -/
structure CoA where
  a : Addr
  dx : Addr
  M : Addr
  F : Addr
  R : Addr
  P : Addr
def CoA.own (A : CoA) : List Addr := [A.a, A.M, A.F, A.R, A.P]
abbrev coFs (A : CoA) (sv : V) : List (Str × V) := [("course_memory", .ref A.M), ("course_flags", .ref A.F), ("course_rows", .ref A.R), ("course_peeks", .ref A.P), ("course_stuck", sv)]
structure CoAt (C : Addr) (H : Hp) (A : CoA) (r : Run) : Prop where
  nd : A.own.Nodup
  ins : ∃ sv, H A.a = some (.ins C A.dx (coFs A sv)) ∧ TD H sv (stuckD r.stuck)
  mem : H A.M = some (.lst (nums r.mem))
  flg : H A.F = some (.lst (nums r.flags))
  row : ∃ rvs, H A.R = some (.lst rvs) ∧ TDs H rvs (r.rows.map Row.d)
  pks : H A.P = some (.lst (nums r.peeks))
theorem CoAt.kp {C : Addr} {H H' : Hp} {A : CoA} {r : Run} {N : List Addr} (h : CoAt C H A r) (k : Kp N H H') (hN : ∀ b ∈ A.own, b ∉ N) : CoAt C H' A r := by
  obtain ⟨nd, ⟨sv, i1, i2⟩, m, f, ⟨rvs, r1, r2⟩, p⟩ := h
  exact ⟨nd, ⟨sv, k.keep _ _ i1 (hN _ (by simp [CoA.own])), i2.kp k⟩, k.keep _ _ m (hN _ (by simp [CoA.own])), k.keep _ _ f (hN _ (by simp [CoA.own])), ⟨rvs, k.keep _ _ r1 (hN _ (by simp [CoA.own])), r2.kp k⟩, k.keep _ _ p (hN _ (by simp [CoA.own]))⟩
theorem CoAt.kp0 {C : Addr} {H H' : Hp} {A : CoA} {r : Run} (h : CoAt C H A r) (k : Kp [] H H') : CoAt C H' A r := h.kp k fun _ _ => by simp
theorem CoA.nds {A : CoA} (h : A.own.Nodup) : A.a ≠ A.M ∧ A.a ≠ A.F ∧ A.a ≠ A.R ∧ A.a ≠ A.P ∧ A.M ≠ A.F ∧ A.M ≠ A.R ∧ A.M ≠ A.P ∧ A.F ≠ A.R ∧ A.F ≠ A.P ∧ A.R ≠ A.P := by
  unfold CoA.own at h
  simp only [List.nodup_cons, List.mem_cons, List.mem_nil_iff, not_or, or_false] at h
  obtain ⟨⟨a1, a2, a3, a4⟩, ⟨b1, b2, b3⟩, ⟨c1, c2⟩, d1, _⟩ := h
  exact ⟨a1, a2, a3, a4, b1, b2, b3, c1, c2, d1⟩
section
variable {C : Addr} {H : Hp} {A : CoA} {r : Run}
theorem CoAt.updM (h : CoAt C H A r) {vs : List V} (m' : List Nat) (hv : vs = nums m' := by rfl) : CoAt C (upd H A.M (.lst vs)) A { r with mem := m' } ∧ Kp A.own H (upd H A.M (.lst vs)) := by
  subst hv
  obtain ⟨nd, ⟨sv, i1, i2⟩, m, f, ⟨rvs, r1, r2⟩, p⟩ := h
  obtain ⟨a1, a2, a3, a4, b1, b2, b3, c1, c2, d1⟩ := CoA.nds nd
  have k : Kp A.own H (upd H A.M (.lst (nums m'))) := Kp.put m (by simp) (by simp [CoA.own])
  exact ⟨⟨nd, ⟨sv, by rw [upd_ne a1]; exact i1, i2.kp k⟩, upd_same, by rw [upd_ne b1.symm]; exact f, ⟨rvs, by rw [upd_ne b2.symm]; exact r1, r2.kp k⟩, by rw [upd_ne b3.symm]; exact p⟩, k⟩
theorem CoAt.updF (h : CoAt C H A r) {vs : List V} (m' : List Nat) (hv : vs = nums m' := by rfl) : CoAt C (upd H A.F (.lst vs)) A { r with flags := m' } ∧ Kp A.own H (upd H A.F (.lst vs)) := by
  subst hv
  obtain ⟨nd, ⟨sv, i1, i2⟩, m, f, ⟨rvs, r1, r2⟩, p⟩ := h
  obtain ⟨a1, a2, a3, a4, b1, b2, b3, c1, c2, d1⟩ := CoA.nds nd
  have k : Kp A.own H (upd H A.F (.lst (nums m'))) := Kp.put f (by simp) (by simp [CoA.own])
  exact ⟨⟨nd, ⟨sv, by rw [upd_ne a2]; exact i1, i2.kp k⟩, by rw [upd_ne b1]; exact m, upd_same, ⟨rvs, by rw [upd_ne c1.symm]; exact r1, r2.kp k⟩, by rw [upd_ne c2.symm]; exact p⟩, k⟩
theorem CoAt.updP (h : CoAt C H A r) {vs : List V} (m' : List Nat) (hv : vs = nums m' := by rfl) : CoAt C (upd H A.P (.lst vs)) A { r with peeks := m' } ∧ Kp A.own H (upd H A.P (.lst vs)) := by
  subst hv
  obtain ⟨nd, ⟨sv, i1, i2⟩, m, f, ⟨rvs, r1, r2⟩, p⟩ := h
  obtain ⟨a1, a2, a3, a4, b1, b2, b3, c1, c2, d1⟩ := CoA.nds nd
  have k : Kp A.own H (upd H A.P (.lst (nums m'))) := Kp.put p (by simp) (by simp [CoA.own])
  exact ⟨⟨nd, ⟨sv, by rw [upd_ne a4]; exact i1, i2.kp k⟩, by rw [upd_ne b3]; exact m, by rw [upd_ne c2]; exact f, ⟨rvs, by rw [upd_ne d1]; exact r1, r2.kp k⟩, upd_same⟩, k⟩
theorem CoAt.updR (h : CoAt C H A r) {rvs : List V} {rows' : List Row} (hr : TDs H rvs (rows'.map Row.d)) : CoAt C (upd H A.R (.lst rvs)) A { r with rows := rows' } ∧ Kp A.own H (upd H A.R (.lst rvs)) := by
  obtain ⟨nd, ⟨sv, i1, i2⟩, m, f, ⟨rvs0, r1, r2⟩, p⟩ := h
  obtain ⟨a1, a2, a3, a4, b1, b2, b3, c1, c2, d1⟩ := CoA.nds nd
  have k : Kp A.own H (upd H A.R (.lst rvs)) := Kp.put r1 (by simp) (by simp [CoA.own])
  exact ⟨⟨nd, ⟨sv, by rw [upd_ne a3]; exact i1, i2.kp k⟩, by rw [upd_ne b2]; exact m, by rw [upd_ne c1]; exact f, ⟨rvs, upd_same, hr.kp k⟩, by rw [upd_ne d1.symm]; exact p⟩, k⟩
theorem CoAt.updS (h : CoAt C H A r) {sv : V} {st : Option Spot} (hs : TD H sv (stuckD st)) : CoAt C (upd H A.a (.ins C A.dx (coFs A sv))) A { r with stuck := st } ∧ Kp A.own H (upd H A.a (.ins C A.dx (coFs A sv))) := by
  obtain ⟨nd, ⟨sv0, i1, i2⟩, m, f, ⟨rvs, r1, r2⟩, p⟩ := h
  obtain ⟨a1, a2, a3, a4, b1, b2, b3, c1, c2, d1⟩ := CoA.nds nd
  have k : Kp A.own H (upd H A.a (.ins C A.dx (coFs A sv))) := Kp.put i1 (by simp) (by simp [CoA.own])
  exact ⟨⟨nd, ⟨sv, upd_same, hs.kp k⟩, by rw [upd_ne a1.symm]; exact m, by rw [upd_ne a2.symm]; exact f, ⟨rvs, by rw [upd_ne a3.symm]; exact r1, r2.kp k⟩, by rw [upd_ne a4.symm]; exact p⟩, k⟩
end
/-- the class Course -/
structure CoC (K : PySem.W.Frag) (C : Addr) : Prop where
  cls : Cls K C
  n_memory : NoAttr K C "course_memory"
  n_flags : NoAttr K C "course_flags"
  n_rows : NoAttr K C "course_rows"
  n_peeks : NoAttr K C "course_peeks"
  n_stuck : NoAttr K C "course_stuck"
end L2.K14
set_option Elab.async false
set_option linter.all false
set_option maxRecDepth 100000
set_option maxHeartbeats 4000000
set_option pp.maxSteps 600
/-! a Course: its methods -/
namespace L2.K14
open PySem PySem.Spec PyProof.Rows
theorem putF_new {f : Str} {v : V} : ∀ {fs : List (Str × V)}, (∀ g ∈ fs.map (·.1), g ≠ f) → putF f v fs = fs ++ [(f, v)]
  | [], _ => rfl
  | (g, x) :: r, h => by
    unfold putF
    rw [if_neg (h g (by simp)), putF_new fun g' hg => h g' (by simp only [List.map_cons, List.mem_cons]; exact .inr hg)]
    rfl
theorem ini {H : Hp} {a C dx : Addr} {fs : List (Str × V)} (e : H a = some (.ins C dx fs)) (f : Str) (v : V) (ns : List Str) (hn : fs.map (·.1) = ns := by rfl) (h : ∀ g ∈ ns, g ≠ f := by decide +kernel) :
    ∃ H' : Hp, upd H a (.ins C dx (putF f v fs)) = H' ∧ Kp [a] H H' ∧ H' a = some (.ins C dx (fs ++ [(f, v)])) ∧ ∀ b, b ≠ a → H' b = H b :=
  ⟨_, rfl, Kp.put e (by simp) (by simp), by rw [putF_new (by rw [hn]; exact h)]; exact upd_same, fun b hb => upd_ne hb⟩
theorem putF_stuck (A : CoA) (sv sv' : V) : putF "course_stuck" sv' (coFs A sv) = coFs A sv' := by
  unfold coFs
  simp only [putF]
  rw [if_neg (by decide +kernel), if_neg (by decide +kernel), if_neg (by decide +kernel), if_neg (by decide +kernel), if_pos trivial]
theorem Kp.neIns {H : Hp} {a p C dx : Addr} {fs : List (Str × V)} (h : H a = some (.ins C dx fs)) (n : H p = none) : p ≠ a := fun z => by rw [z, h] at n; cases n
theorem nums8 : (List.replicate (8 : Int).toNat (V.int 0)) = nums (List.replicate 8 0) := by decide
section
variable {P : Program} {w : World} {K : PySem.W.Frag} {mg : Str → Option Value} {base : Heap} {f : Addr} {fd : FuncData} {C : Addr}
abbrev N_Course_init : List Str := ["self", "memory"]
theorem sc_Course_init : FnScope N_Course_init ["self", "memory"] (defScope s_Course_init) := ⟨rfl, rfl, rfl, by decide +kernel, rfl, by decide +kernel, by decide +kernel⟩
def sp_Course_init (C : Addr) : Sp := fun vs H Q _ => ∃ (a dx : Addr) (v : V) (m : List Nat), vs = [.ref a, v] ∧ H a = some (.ins C dx []) ∧ TD H v (memD m) ∧ m.length ≤ 40 ∧
  ∀ (H' : Hp) (A : CoA), A.a = a → A.dx = dx → Kp [a] H H' → CoAt C H' A (run0 m) → H A.M = none → H A.F = none → H A.R = none → H A.P = none → Q .non H'
theorem ok_Course_init (T : Txt K mg) (cCourse : CoC K C) (F : Fd K "__init__" "Course.__init__" s_Course_init f fd) : FnOk P w K mg base CX0 1 f fd ["self", "memory"] (sp_Course_init C) := by
  refine FunD.ok F sc_Course_init (fun vs H Q E h => ?_) (fun cdv A outer s H vs Q E hr h => ?_)
  · obtain ⟨a, dx, v, m, rfl, _⟩ := h
    rfl
  · obtain ⟨a, dx, v, m, rfl, ha, hv, m40, q⟩ := h
    obtain ⟨p, rfl, hp⟩ := hv.mem
    refine ⟨_, PSs.nox (pss_cons (ps_fld (pv 0) (pe_callTy call_listK (by rfl) T.b_list (by decide +kernel) (pa_cons (pv 1) pa_nil)) rfl)
      (pss_cons (ps_fld (pv 0) (pe_op op_repK (pe_lstK (pa_cons pe_int pa_nil)) (pk T.c_FLAGS)) rfl)
      (pss_cons (ps_fld (pv 0) (pe_lstK pa_nil) rfl)
      (pss_cons (ps_fld (pv 0) (pe_lstK pa_nil) rfl)
      (pss_one (ps_fld (pv 0) pe_non rfl)))))), ?_⟩
    refine ⟨_, rfl, p, _, rfl, .inr (SqT.of hp), fun M H1 k1 n1 e1 => ?_⟩
    have a1 := k1.same _ _ ha
    refine ⟨_, rfl, a, C, dx, [], rfl, a1, cCourse.cls, cCourse.n_memory, by decide, ?_⟩
    obtain ⟨H2, r2, k2, a2, o2⟩ := ini a1 "course_memory" (.ref M) []
    rw [r2]
    refine ⟨sz 1, fun p0 H3 k3 n3 e3 => ⟨p0, 8, _, rfl, rfl, e3, by decide, by decide, fun F H4 k4 n4 e4 => ?_⟩⟩
    have a4 := (k3.trans k4).same _ _ a2
    refine ⟨_, rfl, a, C, dx, _, rfl, a4, cCourse.cls, cCourse.n_flags, by simp, ?_⟩
    obtain ⟨H5, r5, k5, a5, o5⟩ := ini a4 "course_flags" (.ref F) ["course_memory"]
    rw [r5]
    refine ⟨sz 0, fun R H6 k6 n6 e6 => ?_⟩
    have a6 := k6.same _ _ a5
    refine ⟨_, rfl, a, C, dx, _, rfl, a6, cCourse.cls, cCourse.n_rows, by simp, ?_⟩
    obtain ⟨H7, r7, k7, a7, o7⟩ := ini a6 "course_rows" (.ref R) ["course_memory", "course_flags"]
    rw [r7]
    refine ⟨sz 0, fun U H8 k8 n8 e8 => ?_⟩
    have a8 := k8.same _ _ a7
    refine ⟨_, rfl, a, C, dx, _, rfl, a8, cCourse.cls, cCourse.n_peeks, by simp, ?_⟩
    obtain ⟨H9, r9, k9, a9, o9⟩ := ini a8 "course_peeks" (.ref U) ["course_memory", "course_flags", "course_rows"]
    rw [r9]
    refine ⟨_, rfl, a, C, dx, _, rfl, a9, cCourse.cls, cCourse.n_stuck, by simp, ?_⟩
    obtain ⟨HA, rA, kA, aA, oA⟩ := ini a9 "course_stuck" .non ["course_memory", "course_flags", "course_rows", "course_peeks"]
    rw [rA]
    have zM := Kp.neIns ha n1
    have zF := Kp.neIns (k3.same _ _ a2) n4
    have zR := Kp.neIns a5 n6
    have zU := Kp.neIns a7 n8
    have eM3 : H3 M = some (.lst (nums m)) := k3.same _ _ ((o2 M zM).trans e1)
    have eM5 : H5 M = some (.lst (nums m)) := (o5 M zM).trans (k4.same _ _ eM3)
    have eM7 : H7 M = some (.lst (nums m)) := (o7 M zM).trans (k6.same _ _ eM5)
    have eM9 : H9 M = some (.lst (nums m)) := (o9 M zM).trans (k8.same _ _ eM7)
    have eMA : HA M = some (.lst (nums m)) := (oA M zM).trans eM9
    rw [nums8] at e4
    have eF5 := (o5 F zF).trans e4
    have eF7 := (o7 F zF).trans (k6.same _ _ eF5)
    have eF9 := (o9 F zF).trans (k8.same _ _ eF7)
    have eFA := (oA F zF).trans eF9
    have eR7 := (o7 R zR).trans e6
    have eR9 := (o9 R zR).trans (k8.same _ _ eR7)
    have eRA := (oA R zR).trans eR9
    have eU9 := (o9 U zU).trans e8
    have eUA := (oA U zU).trans eU9
    have nMF : M ≠ F := fun z => by rw [← z, eM3] at n4; cases n4
    have nMR : M ≠ R := fun z => by rw [← z, eM5] at n6; cases n6
    have nMU : M ≠ U := fun z => by rw [← z, eM7] at n8; cases n8
    have nFR : F ≠ R := fun z => by rw [← z, eF5] at n6; cases n6
    have nFU : F ≠ U := fun z => by rw [← z, eF7] at n8; cases n8
    have nRU : R ≠ U := fun z => by rw [← z, eR7] at n8; cases n8
    have q2 : Kp [a] H H2 := (k1.more (by simp)).trans k2
    have q3 := q2.trans (k3.more (by simp))
    have q5 := (q3.trans (k4.more (by simp))).trans k5
    have q7 := (q5.trans (k6.more (by simp))).trans k7
    have q9 := (q7.trans (k8.more (by simp))).trans k9
    have fr : ∀ {G : Hp} {b : Addr}, Kp [a] H G → b ≠ a → G b = none → H b = none := fun {G b} k hb n => by
      cases z : H b with
      | none => rfl
      | some o => exact absurd (k.keep b o z (by simp [hb])) (by rw [n]; simp)
    refine q HA ⟨a, dx, M, F, R, U⟩ rfl rfl (q9.trans kA) ⟨?_, ⟨.non, aA, .non⟩, eMA, eFA, ⟨[], eRA, TDs.nil⟩, eUA⟩ n1 (fr q3 zF n4) (fr q5 zR n6) (fr q7 zU n8)
    simp only [CoA.own, List.nodup_cons, List.mem_cons, List.mem_nil_iff, not_or, or_false, List.nodup_nil, and_true, not_false_eq_true]
    exact ⟨⟨zM.symm, zF.symm, zR.symm, zU.symm⟩, ⟨nMF, nMR, nMU⟩, ⟨nFR, nFU⟩, nRU⟩
abbrev N_Course_tell : List Str := ["self", "spot", "rows", "row"]
theorem sc_Course_tell : FnScope N_Course_tell ["self", "spot", "rows"] (defScope s_Course_tell) := ⟨rfl, rfl, rfl, by decide +kernel, rfl, by decide +kernel, by decide +kernel⟩
def sp_tell (C : Addr) : Sp := fun vs H Q _ => ∃ (A : CoA) (r : Run) (s : Spot) (sv : V) (L : Addr) (rvs : List V) (rs : List Rw), vs = [.ref A.a, sv, .ref L] ∧ CoAt C H A r ∧ TD H sv s.d ∧ H L = some (.lst rvs) ∧ TDs H rvs (rs.map Rw.d) ∧
  r.rows.length ≤ 1000 ∧ rs.length ≤ 1000 ∧ ∀ H', Kp A.own H H' → CoAt C H' A (r.tell s rs) → Q .non H'
theorem ok_Course_tell (T : Txt K mg) (cCourse : CoC K C) (F : Fd K "tell" "Course.tell" s_Course_tell f fd) : FnOk P w K mg base CX0 1 f fd ["self", "spot", "rows"] (sp_tell C) := by
  refine FunD.ok F sc_Course_tell (fun vs H Q E h => ?_) (fun cdv AA outer s H vs Q E hr h => ?_)
  · obtain ⟨A, r, s, sv, L, rvs, rs, rfl, _⟩ := h
    rfl
  · obtain ⟨A, r, sp, sv, L, rvs, rs, rfl, co, hs, hL, hrs, l1, l2, q⟩ := h
    obtain ⟨stv, ia, _⟩ := co.ins
    obtain ⟨orv, eR, hR⟩ := co.row
    have rl : rvs.length = rs.length := by rw [hrs.1, List.length_map]
    have ol : orv.length = r.rows.length := by rw [hR.1, List.length_map]
    refine ⟨_, PSs.nox (pss_one (ps_expr (pe_bm PySem.F.plainAttrs_list PySem.F.slot_list_extend PySem.F.type_list_extend mt_extend (pe_fld (pv 0) rfl) (pa_cons (pe_lc (own := [("row", 3)]) (g := (gName 3)) (tt := tYes) (te := (tOp (rCatT K) (tTupK (tCons (tVar 1) tNil)) (tVar 3))) rfl sc_Course_tell.nd (pi_list (pv 2)) (blkOk_by (N := N_Course_tell) (sc := defScope s_Course_tell) (by decide +kernel)) (fun _ _ _ _ _ => (pg_name (i := 3) sc_Course_tell.nd rfl (Or.inl rfl))) (fun _ _ _ _ _ => pts_nil) (fun _ _ _ _ _ => (pe_op op_catT' (pe_tupK (pa_cons (pv 1) pa_nil)) (pv 3)))) pa_nil)))), ?_⟩
    refine ⟨_, rfl, _, C, _, _, _, rfl, ia, cCourse.cls, cCourse.n_rows, rfl, .inl ⟨rfl, _, SqL.of eR⟩, ?_⟩
    refine ⟨_, rfl, L, rfl, ⟨_, SqL.of hL⟩, fun D hD => ?_⟩
    refine lc_pure (walk_list (xs := rvs)) (fun i acc H => acc.length = i ∧ TDs H acc ((rs.take i).map fun x => Row.d ⟨sp, x⟩)) hD (fun i acc H H' k h => ⟨h.1, stb_tds _ _ _ _ k h.2⟩) ⟨rfl, TDs.nil⟩ (fun H' k => k.seqL (SqL.of hL)) YAt.kp (fun i acc H' hi x => by omega) (fun i x H1 H2 acc hi k x0 y N S hN hS => ?_) (fun H1 acc k e x0 => ?_)
    · obtain ⟨rfl, hx⟩ := y
      obtain ⟨rw0, hrw, td⟩ := hrs.nth hx
      obtain ⟨u, zs, rfl, hu, hz⟩ := (td.kp k).inv
      refine ⟨rfl, _, rfl, sz 1, fun t1 G1 k1 n1 e1 => ⟨_, rfl, t1, u, _, zs, rfl, rfl, SqT.of e1, SqT.of (k1.same _ _ hu), sz _ ?_, by simp, ?_, fun t2 G2 k2 n2 e2 => hN _ _ (k1.trans k2) ⟨by simp; exact x0.1, ?_⟩⟩⟩
      · have := hz.1
        simp at this ⊢
        omega
      · intro z
        rw [z] at hz
        exact absurd hz.1 (by simp)
      · rw [take_snoc hrw, List.map_append]
        exact TDs.append (x0.2.kp (k1.trans k2)) (TDs.cons (TDs.tup e2 (TDs.append (TDs.cons (hs.kp ((k.trans k1).trans k2)) TDs.nil) (hz.kp (k1.trans k2)))) TDs.nil)
    · obtain ⟨x1, x2⟩ := x0
      rw [rl, List.take_of_length_le (Nat.le_refl _)] at x2
      have co1 := co.kp0 k
      have eR1 := k.same _ _ eR
      refine ⟨A.R, D, orv, acc, rfl, rfl, eR1, e, sz _ (by omega), ?_⟩
      have hnew : TDs H1 (orv ++ acc) ((r.rows ++ rs.map (Row.mk sp)).map Row.d) := by
        rw [List.map_append, List.map_map]
        exact TDs.append (hR.kp k) x2
      obtain ⟨co2, k2⟩ := co1.updR hnew
      exact q _ ((k.more (by simp)).trans k2) co2
abbrev N_Course_pass_by : List Str := ["self", "spot", "flag", "least"]
theorem sc_Course_pass_by : FnScope N_Course_pass_by ["self", "spot", "flag", "least"] (defScope s_Course_pass_by) := ⟨rfl, rfl, rfl, by decide +kernel, rfl, by decide +kernel, by decide +kernel⟩
def sp_pass_by (C : Addr) : Sp := fun vs H Q _ => ∃ (A : CoA) (r : Run) (s : Spot) (sv : V) (g n : Nat), vs = [.ref A.a, sv, vi g, vi n] ∧ CoAt C H A r ∧ TD H sv s.d ∧ g < r.flags.length ∧
  ∀ H', Kp A.own H H' → CoAt C H' A (r.pass s g n) → Q .non H'
theorem ok_Course_pass_by (T : Txt K mg) (cCourse : CoC K C) (F : Fd K "pass_by" "Course.pass_by" s_Course_pass_by f fd) : FnOk P w K mg base CX0 1 f fd ["self", "spot", "flag", "least"] (sp_pass_by C) := by
  refine FunD.ok F sc_Course_pass_by (fun vs H Q E h => ?_) (fun cdv AA outer s H vs Q E hr h => ?_)
  · obtain ⟨A, r, s, sv, g, n, rfl, _⟩ := h
    rfl
  · obtain ⟨A, r, sp, sv, g, n, rfl, co, hs, hg, q⟩ := h
    obtain ⟨stv, ia, _⟩ := co.ins
    refine ⟨_, PSs.nox (pss_one (ps_if (pt_cmpR op_lt (pe_ix ix_list (pe_fld (pv 0) rfl) (pv 2) (fun _ _ => rfl)) (pv 3) (nomark _)) (pss_one (ps_fld (pv 0) (pv 1) rfl)) pss_nil)), ?_⟩
    refine ⟨_, rfl, _, C, _, _, _, rfl, ia, cCourse.cls, cCourse.n_flags, rfl, _, rfl, A.F, _, _, _, rfl, rfl, SqL.of co.flg, atN rfl (nums_at hg), _, rfl, _, _, rfl, rfl, _, rfl, ?_⟩
    by_cases h : r.flags.getD g 0 < n
    · refine iteDT (by omega) ⟨_, rfl, _, rfl, _, C, _, _, rfl, ia, cCourse.cls, cCourse.n_stuck, by simp, ?_⟩
      rw [putF_stuck]
      obtain ⟨co2, k2⟩ := co.updS (sv := sv) (st := some sp) hs
      refine q _ k2 ?_
      unfold Run.pass
      rw [if_pos h]
      exact co2
    · refine iteDF (by omega) (q _ (Kp.refl _) ?_)
      unfold Run.pass
      rw [if_neg h]
      exact co
end
end L2.K14
set_option Elab.async false
set_option linter.all false
set_option maxRecDepth 100000
set_option maxHeartbeats 4000000
set_option pp.maxSteps 600
/-! a Course: deeds -/
namespace L2.K14
open PySem PySem.Spec PyProof.Rows
theorem CoAt.kpM {C : Addr} {H H' : Hp} {A : CoA} {r : Run} {m' : List Nat} (h : CoAt C H A r) (k : Kp [A.M] H H') (e : H' A.M = some (.lst (nums m'))) : CoAt C H' A { r with mem := m' } := by
  obtain ⟨nd, ⟨sv, i1, i2⟩, m, f, ⟨rvs, r1, r2⟩, p⟩ := h
  obtain ⟨a1, a2, a3, a4, b1, b2, b3, c1, c2, d1⟩ := CoA.nds nd
  exact ⟨nd, ⟨sv, k.keep _ _ i1 (by simp [a1]), i2.kp k⟩, e, k.keep _ _ f (by simp [b1.symm]), ⟨rvs, k.keep _ _ r1 (by simp [b2.symm]), r2.kp k⟩, k.keep _ _ p (by simp [b3.symm])⟩
theorem CoA.M_own (A : CoA) : A.M ∈ A.own := by simp [CoA.own]
theorem Kp.one {A : CoA} {H H' : Hp} (k : Kp [A.M] H H') : Kp A.own H H' := k.more fun b hb => by rw [List.mem_singleton.mp hb]; exact A.M_own
theorem stuck_non {H : Hp} {sv : V} {st : Option Spot} (h : TD H sv (stuckD st)) : decide (sv = .non) = st.isNone := by
  cases st with
  | none =>
    cases h
    rfl
  | some s =>
    obtain ⟨a, xs, rfl, _⟩ := TD.inv (ds := [dN s.place, match s.num with | none => .none | some k => dN k]) h
    rfl
theorem spot_num {H : Hp} {a : Addr} {p k : Nat} (h : H a = some (.tup [vi p, vi k])) : TD H (.ref a) (Spot.d ⟨p, some k⟩) := TDs.tup h (TDs.cons (.int _) (TDs.cons (.int _) TDs.nil))
theorem spot_none {H : Hp} {a : Addr} {p : Nat} (h : H a = some (.tup [vi p, .non])) : TD H (.ref a) (Spot.d ⟨p, none⟩) := TDs.tup h (TDs.cons (.int _) (TDs.cons .non TDs.nil))
section
variable {P : Program} {w : World} {K : PySem.W.Frag} {mg : Str → Option Value} {base : Heap} {f : Addr} {fd : FuncData} {C : Addr}
abbrev N_Course_do_posted : List Str := ["self", "place", "steps", "number", "step", "spot"]
theorem sc_Course_do_posted : FnScope N_Course_do_posted ["self", "place", "steps"] (defScope s_Course_do_posted) := ⟨rfl, rfl, rfl, by decide +kernel, rfl, by decide +kernel, by decide +kernel⟩
def sp_do_posted (C : Addr) : Sp := fun vs H Q _ => ∃ (A : CoA) (r : Run) (place : Nat) (v : V) (l : List Stp) (n : Nat), vs = [.ref A.a, vi place, v] ∧ CoAt C H A r ∧ TD H v (.tuple (l.map Stp.d)) ∧ l.length ≤ 4 ∧ RunOk r.mem.length n r ∧ r.mem.length ≤ 40 ∧ n ≤ 900 ∧
  (∀ t ∈ l, t.Ok r.mem.length) ∧ ∀ H', Kp A.own H H' → CoAt C H' A (stepsN l place r l.length) → Q .non H'
theorem ok_Course_do_posted (T : Txt K mg) (cCourse : CoC K C) (F : Fd K "do_posted" "Course.do_posted" s_Course_do_posted f fd) (D_do_step : Cal P w K mg base 2 "do_step" ["memory", "step"] sp_do_step)
    (M_Course_tell : Met P w K mg base C 1 "tell" ["self", "spot", "rows"] (sp_tell C)) (M_Course_pass_by : Met P w K mg base C 1 "pass_by" ["self", "spot", "flag", "least"] (sp_pass_by C)) :
    FnOk P w K mg base CX0 3 f fd ["self", "place", "steps"] (sp_do_posted C) := by
  refine FunD.ok F sc_Course_do_posted (fun vs H Q E h => ?_) (fun cdv AA outer s H vs Q E hr h => ?_)
  · obtain ⟨A, r, pl, v, l, n, rfl, _⟩ := h
    rfl
  · obtain ⟨A, r, pl, v, l, n, rfl, co, hv, l4, rok, m40, n900, hl, q⟩ := h
    obtain ⟨p, xs, rfl, hp, hx⟩ := hv.inv
    have xl : xs.length = l.length := by rw [hx.1, List.length_map]
    refine ⟨_, PSs.nox (pss_one (ps_for PassesOwn.never rfl (pi_enumT (by rfl) T.b_enumerate (pa_cons (pv 2) pa_nil)) (pg_tup rfl (pgs_cons (pg_name (i := 3) sc_Course_do_posted.nd rfl (Or.inl rfl)) (pgs_cons (pg_name (i := 4) sc_Course_do_posted.nd rfl (Or.inl rfl)) pgs_nil))) (pss_one (ps_if (pt_cmpR op_isN (pe_fld (pv 0) rfl) pe_non (nomark _)) (pss_cons (ps_set (i := 5) sc_Course_do_posted.nd rfl (Or.inl rfl) (pe_tupK (pa_cons (pv 1) (pa_cons (pv 3) pa_nil))))
      (pss_cons (ps_expr (pm (pv 0) cCourse.cls M_Course_tell hr (pa_cons (pv 5) (pa_cons (pc D_do_step hr (pa_cons (pe_fld (pv 0) rfl) (pa_cons (pv 4) pa_nil))) pa_nil))))
      (pss_cons (ps_if (pt_cmpR op_eq (pe_ix ix_tup (pv 4) pe_int (fun _ _ => rfl)) (pk T.c_NOTE_plain) (nomark _)) (pss_one (ps_augS (pe_fld (pv 0) rfl) (pe_ix ix_tup (pv 4) pe_int (fun _ _ => rfl)) get_list pe_int ip_add set_list)) pss_nil)
      (pss_one (ps_if (pt_cmpR op_eq (pe_ix ix_tup (pv 4) pe_int (fun _ _ => rfl)) (pk T.c_WAIT_plain) (nomark _)) (pss_one (ps_expr (pm (pv 0) cCourse.cls M_Course_pass_by hr (pa_cons (pv 5) (pa_cons (pe_ix ix_tup (pv 4) pe_int (fun _ _ => rfl)) (pa_cons (pe_ix ix_tup (pv 4) pe_int (fun _ _ => rfl)) pa_nil)))))) pss_nil))))) pss_nil)))), ?_⟩
    refine ⟨_, rfl, p, _, rfl, SqT.of hp, for_it (walk_itg (n := xs.length)) (fun i σ H' => Kp A.own H H' ∧ CoAt C H' A (stepsN l pl r i) ∧ ∃ v3 v4 v5, σ = [some (.ref A.a), some (vi pl), some (.ref p), v3, v4, v5]) ⟨Kp.refl _, co, none, none, none, rfl⟩ (fun i σ H' _ h => SqT.of (h.1.tups _ _ hp)) (fun i x σ H1 H2 hi h y => ?_) (fun σ H1 h => ?_)⟩
    · obtain ⟨k1, co1, v3, v4, v5, rfl⟩ := h
      obtain ⟨U, y0, rfl, nU, k2, eU, ey⟩ := enum_inv y
      obtain ⟨t, ht, td⟩ := hx.nth ey
      have tok := hl t (List.mem_of_getElem? ht)
      have rok1 := rok.stepsN (place := pl) hl i (by omega)
      have k12 : Kp A.own H H2 := k1.trans (k2.more (by simp))
      have co2 := co1.kp0 k2
      rw [stepsN_succ ht]
      generalize stepsN l pl r i = r1 at co1 co2 rok1
      obtain ⟨sv, ia, hsv⟩ := co2.ins
      refine ⟨U, _, rfl, SqT.of eU, rfl, _, _, rfl, _, _, rfl, rfl, ?_⟩
      refine ⟨_, rfl, _, C, _, _, _, rfl, ia, cCourse.cls, cCourse.n_stuck, rfl, rfl, _, rfl, ?_⟩
      rw [stuck_non hsv]
      cases hst : r1.stuck.isNone with
      | false => exact iteF ⟨k12, co2, _, _, _, rfl⟩
      | true =>
        refine iteT ⟨_, rfl, _, rfl, sz 2, fun S H3 k3 n3 e3 => ?_⟩
        have co3 := co2.kp0 k3
        have ia3 := k3.same _ _ ia
        have tspot : TD H3 (.ref S) (Spot.d ⟨pl, some i⟩) := spot_num e3
        have len1 := rok1.mem
        have k3A : Kp A.own H H3 := k12.trans (k3.more (by simp))
        refine ⟨_, rfl, A.a, _, _, rfl, ia3, rfl, _, rfl, _, rfl, _, C, _, _, _, rfl, ia3, cCourse.cls, cCourse.n_memory, rfl, _, rfl, A.M, y0, t, r1.mem, rfl, co3.mem, td.kp k3A, by rw [len1]; exact tok, by rw [len1]; exact m40, fun H4 L rvs k4 n4 e4 eL tL => ?_⟩
        have co4 := co3.kpM k4 e4
        have rr := Stp.run_rows tok r1.mem
        have rrw := rok1.rows
        have i4 : i < 4 := by omega
        refine ⟨A, _, ⟨pl, some i⟩, .ref S, L, rvs, (t.run r1.mem).2, rfl, co4, tspot.kp k4, eL, tL, by show r1.rows.length ≤ 1000; omega, by omega, fun H5 k5 co5 => ?_⟩
        have k5A : Kp A.own H H5 := (k3A.trans k4.one).trans k5
        have td5 := (td.kp k5A)
        have tspot5 := (tspot.kp k4).kp k5
        obtain ⟨b, us, rfl, hb, hu⟩ := td5.stp
        refine ⟨_, rfl, b, _, 0, _, rfl, rfl, SqT.of hb, atN (n := 0) rfl rfl, ?_⟩
        cases t with
        | copy c d k => exact ⟨rfl, _, rfl, iteBF (show decide (V.str (Str.ofString "copy") = V.str (Str.ofString "note")) = false by decide +kernel) ⟨_, rfl, b, _, 0, _, rfl, rfl, SqT.of hb, atN (n := 0) rfl rfl, rfl, _, rfl, iteBF (show decide (V.str (Str.ofString "copy") = V.str (Str.ofString "wait")) = false by decide +kernel) ⟨k5A, co5, _, _, _, rfl⟩⟩⟩
        | fill c x k => exact ⟨rfl, _, rfl, iteBF (show decide (V.str (Str.ofString "fill") = V.str (Str.ofString "note")) = false by decide +kernel) ⟨_, rfl, b, _, 0, _, rfl, rfl, SqT.of hb, atN (n := 0) rfl rfl, rfl, _, rfl, iteBF (show decide (V.str (Str.ofString "fill") = V.str (Str.ofString "wait")) = false by decide +kernel) ⟨k5A, co5, _, _, _, rfl⟩⟩⟩
        | add c x => exact ⟨rfl, _, rfl, iteBF (show decide (V.str (Str.ofString "add") = V.str (Str.ofString "note")) = false by decide +kernel) ⟨_, rfl, b, _, 0, _, rfl, rfl, SqT.of hb, atN (n := 0) rfl rfl, rfl, _, rfl, iteBF (show decide (V.str (Str.ofString "add") = V.str (Str.ofString "wait")) = false by decide +kernel) ⟨k5A, co5, _, _, _, rfl⟩⟩⟩
        | fence => exact ⟨rfl, _, rfl, iteBF (show decide (V.str (Str.ofString "fence") = V.str (Str.ofString "note")) = false by decide +kernel) ⟨_, rfl, b, _, 0, _, rfl, rfl, SqT.of hb, atN (n := 0) rfl rfl, rfl, _, rfl, iteBF (show decide (V.str (Str.ofString "fence") = V.str (Str.ofString "wait")) = false by decide +kernel) ⟨k5A, co5, _, _, _, rfl⟩⟩⟩
        | wait g k =>
          obtain ⟨u1, us, rfl, h1, hu⟩ := hu.inv
          obtain ⟨u2, us, rfl, h2, hu⟩ := hu.inv
          obtain rfl := h1.inv_int
          obtain rfl := h2.inv_int
          obtain ⟨sv5, ia5, _⟩ := co5.ins
          refine ⟨rfl, _, rfl, iteBF (show decide (V.str (Str.ofString "wait") = V.str (Str.ofString "note")) = false by decide +kernel) ⟨_, rfl, b, _, 0, _, rfl, rfl, SqT.of hb, atN (n := 0) rfl rfl, rfl, _, rfl, iteBT (show decide (V.str (Str.ofString "wait") = V.str (Str.ofString "wait")) = true by decide +kernel) ?_⟩⟩
          refine ⟨_, rfl, A.a, _, _, rfl, ia5, rfl, _, rfl, _, rfl, b, _, 1, _, rfl, rfl, SqT.of hb, atN (n := 1) rfl rfl, _, rfl, b, _, 2, _, rfl, rfl, SqT.of hb, atN (n := 2) rfl rfl, A, _, ⟨pl, some i⟩, .ref S, g, k, rfl, co5, tspot5, ?_, fun H6 k6 co6 => ⟨k5A.trans k6, co6, _, _, _, rfl⟩⟩
          show g < r1.flags.length
          rw [rok1.flags]
          exact tok.1
        | note g =>
          obtain ⟨u1, us, rfl, h1, hu⟩ := hu.inv
          obtain rfl := h1.inv_int
          obtain ⟨sv5, ia5, _⟩ := co5.ins
          have gl : g < r1.flags.length := by rw [rok1.flags]; exact tok
          refine ⟨rfl, _, rfl, iteBT (show decide (V.str (Str.ofString "note") = V.str (Str.ofString "note")) = true by decide +kernel) ?_⟩
          refine ⟨_, rfl, _, C, _, _, _, rfl, ia5, cCourse.cls, cCourse.n_flags, rfl, _, rfl, b, _, 1, _, rfl, rfl, SqT.of hb, atN (n := 1) rfl rfl, A.F, _, g, _, rfl, rfl, SqL.of co5.flg, nums_at gl, _, _, rfl, rfl, A.F, _, _, g, rfl, rfl, co5.flg, ixN_of (by rw [nums_len]; exact gl), ?_⟩
          have hset : (nums r1.flags).set g (V.int ((r1.flags.getD g 0 : Nat) + 1)) = nums (r1.flags.set g (r1.flags.getD g 0 + 1)) := nums_set ..
          obtain ⟨co6, k6⟩ := co5.updF (r1.flags.set g (r1.flags.getD g 0 + 1)) hset
          have hb6 := k6.tups _ _ hb
          exact ⟨_, rfl, b, _, 0, _, rfl, rfl, SqT.of hb6, atN (n := 0) rfl rfl, rfl, _, rfl, iteBF (show decide (V.str (Str.ofString "note") = V.str (Str.ofString "wait")) = false by decide +kernel) ⟨k5A.trans k6, co6, _, _, _, rfl⟩⟩
    · obtain ⟨k1, co1, v3, v4, v5, rfl⟩ := h
      rw [xl] at co1
      exact q _ k1 co1
abbrev N_Course_do_deed : List Str := ["self", "place", "deed", "word", "things", "spot", "byte"]
theorem sc_Course_do_deed : FnScope N_Course_do_deed ["self", "place", "deed"] (defScope s_Course_do_deed) := ⟨rfl, rfl, rfl, by decide +kernel, rfl, by decide +kernel, by decide +kernel⟩
def sp_do_deed (C : Addr) : Sp := fun vs H Q _ => ∃ (A : CoA) (r : Run) (place : Nat) (v : V) (t : Ded) (n : Nat), vs = [.ref A.a, vi place, v] ∧ CoAt C H A r ∧ TD H v t.d ∧ RunOk r.mem.length n r ∧ r.mem.length ≤ 40 ∧ n ≤ 900 ∧
  t.Ok r.mem.length ∧ ∀ H', Kp A.own H H' → CoAt C H' A (r.deed place t) → Q .non H'
theorem ok_Course_do_deed (T : Txt K mg) (cCourse : CoC K C) (F : Fd K "do_deed" "Course.do_deed" s_Course_do_deed f fd) (M_Course_do_posted : Met P w K mg base C 3 "do_posted" ["self", "place", "steps"] (sp_do_posted C))
    (M_Course_tell : Met P w K mg base C 1 "tell" ["self", "spot", "rows"] (sp_tell C)) (M_Course_pass_by : Met P w K mg base C 1 "pass_by" ["self", "spot", "flag", "least"] (sp_pass_by C)) :
    FnOk P w K mg base CX0 4 f fd ["self", "place", "deed"] (sp_do_deed C) := by
  refine FunD.ok F sc_Course_do_deed (fun vs H Q E h => ?_) (fun cdv AA outer s H vs Q E hr h => ?_)
  · obtain ⟨A, r, pl, v, l, n, rfl, _⟩ := h
    rfl
  · obtain ⟨A, r, pl, v, t, n, rfl, co, hv, rok, m40, n900, tok, q⟩ := h
    obtain ⟨a, us, rfl, ha, hu⟩ := hv.ded
    have ul : us.length ≤ 1000 := by have := hu.1; have := t.ds_len; omega
    refine ⟨_, PSs.nox (pss_cons (ps_asg (pv 2) (pg_star rfl (pgs_cons (pg_name (i := 3) sc_Course_do_deed.nd rfl (Or.inl rfl)) (pgs_starred (pg_name (i := 4) sc_Course_do_deed.nd rfl (Or.inl rfl))))))
      (pss_cons (ps_set (i := 5) sc_Course_do_deed.nd rfl (Or.inl rfl) (pe_tupK (pa_cons (pv 1) (pa_cons pe_non pa_nil))))
      (pss_cons (ps_if (pt_cmpR op_eq (pv 3) (pk T.c_POST_plain) (nomark _)) (pss_one (ps_expr (pm (pv 0) cCourse.cls M_Course_do_posted hr (pa_cons (pv 1) (pa_cons (pe_ix ix_list (pv 4) pe_int (fun _ _ => rfl)) pa_nil))))) pss_nil)
      (pss_cons (ps_if (pt_cmpR op_eq (pv 3) (pk T.c_POKE) (nomark _)) (pss_cons (ps_asg (pe_ix ix_list (pv 4) pe_int (fun _ _ => rfl)) (pg_sub (pe_fld (pv 0) rfl) (pe_ix ix_list (pv 4) pe_int (fun _ _ => rfl)) set_list))
      (pss_one (ps_expr (pm (pv 0) cCourse.cls M_Course_tell hr (pa_cons (pv 5) (pa_cons (pe_lstK (pa_cons (pe_tupK (pa_cons pe_int (pa_cons (pk T.c_WRITE) (pa_cons (pe_ix ix_list (pv 4) pe_int (fun _ _ => rfl)) (pa_cons (pe_ix ix_list (pv 4) pe_int (fun _ _ => rfl)) pa_nil))))) pa_nil)) pa_nil)))))) pss_nil)
      (pss_cons (ps_if (pt_cmpR op_eq (pv 3) (pk T.c_PEEK) (nomark _)) (pss_cons (ps_set (i := 6) sc_Course_do_deed.nd rfl (Or.inl rfl) (pe_ix ix_list (pe_fld (pv 0) rfl) (pe_ix ix_list (pv 4) pe_int (fun _ _ => rfl)) (fun _ _ => rfl)))
      (pss_cons (ps_expr (pe_bm PySem.F.plainAttrs_list PySem.F.slot_list_append PySem.F.type_list_append mt_append (pe_fld (pv 0) rfl) (pa_cons (pv 6) pa_nil)))
      (pss_one (ps_expr (pm (pv 0) cCourse.cls M_Course_tell hr (pa_cons (pv 5) (pa_cons (pe_lstK (pa_cons (pe_tupK (pa_cons pe_int (pa_cons (pk T.c_READ) (pa_cons (pe_ix ix_list (pv 4) pe_int (fun _ _ => rfl)) (pa_cons (pv 6) pa_nil))))) pa_nil)) pa_nil))))))) pss_nil)
      (pss_one (ps_if (pt_cmpR op_eq (pv 3) (pk T.c_SEE) (nomark _)) (pss_one (ps_expr (pm (pv 0) cCourse.cls M_Course_pass_by hr (pa_cons (pv 5) (pa_cons (pe_ix ix_list (pv 4) pe_int (fun _ _ => rfl)) (pa_cons (pe_ix ix_list (pv 4) pe_int (fun _ _ => rfl)) pa_nil)))))) pss_nil))))))), ?_⟩
    refine ⟨_, rfl, a, _, us, rfl, SqT.of ha, ul, fun p np => ?_⟩
    refine ⟨_, _, rfl, _, _, rfl, rfl, ?_⟩
    have kp : Kp [] H (upd H p (.lst us)) := Kp.new np
    have hp : upd H p (.lst us) p = some (.lst us) := upd_same
    revert hp kp
    generalize upd H p (.lst us) = H1
    intro kp hp
    refine ⟨_, rfl, sz 2, fun S H2 k2 n2 e2 => ?_⟩
    have k02 := kp.trans k2
    have hp2 := k2.same _ _ hp
    have co2 := co.kp0 k02
    have ts : TD H2 (.ref S) (Spot.d ⟨pl, none⟩) := spot_none e2
    have kA : Kp A.own H H2 := k02.more (by simp)
    obtain ⟨sv, ia, _⟩ := co2.ins
    have npo : p ∉ A.own := fun z => by
      have e1 : ∀ b ∈ A.own, ∃ o, H b = some o := fun b hb => by
        obtain ⟨sv0, i0, _⟩ := co.ins
        obtain ⟨rv0, r0, _⟩ := co.row
        simp only [CoA.own, List.mem_cons, List.mem_nil_iff, or_false] at hb
        rcases hb with rfl | rfl | rfl | rfl | rfl
        · exact ⟨_, i0⟩
        · exact ⟨_, co.mem⟩
        · exact ⟨_, co.flg⟩
        · exact ⟨_, r0⟩
        · exact ⟨_, co.pks⟩
      obtain ⟨o, ho⟩ := e1 p z
      rw [np] at ho
      cases ho
    cases t with
    | join c => exact ⟨_, rfl, rfl, _, rfl, iteBF (show decide (V.str (Str.ofString "join") = V.str (Str.ofString "post")) = false by decide +kernel) ⟨_, rfl, rfl, _, rfl, iteBF (show decide (V.str (Str.ofString "join") = V.str (Str.ofString "poke")) = false by decide +kernel) ⟨_, rfl, rfl, _, rfl, iteBF (show decide (V.str (Str.ofString "join") = V.str (Str.ofString "peek")) = false by decide +kernel) ⟨_, rfl, rfl, _, rfl, iteBF (show decide (V.str (Str.ofString "join") = V.str (Str.ofString "see")) = false by decide +kernel) (q _ kA co2)⟩⟩⟩⟩
    | see g k =>
      obtain ⟨u1, us, rfl, h1, hu⟩ := hu.inv
      obtain ⟨u2, us, rfl, h2, hu⟩ := hu.inv
      obtain rfl := h1.inv_int
      obtain rfl := h2.inv_int
      refine ⟨_, rfl, rfl, _, rfl, iteBF (show decide (V.str (Str.ofString "see") = V.str (Str.ofString "post")) = false by decide +kernel) ⟨_, rfl, rfl, _, rfl, iteBF (show decide (V.str (Str.ofString "see") = V.str (Str.ofString "poke")) = false by decide +kernel) ⟨_, rfl, rfl, _, rfl, iteBF (show decide (V.str (Str.ofString "see") = V.str (Str.ofString "peek")) = false by decide +kernel) ⟨_, rfl, rfl, _, rfl, iteBT (show decide (V.str (Str.ofString "see") = V.str (Str.ofString "see")) = true by decide +kernel) ?_⟩⟩⟩⟩
      refine ⟨_, rfl, A.a, _, _, rfl, ia, rfl, _, rfl, _, rfl, p, _, 0, _, rfl, rfl, SqL.of hp2, atN (n := 0) rfl rfl, _, rfl, p, _, 1, _, rfl, rfl, SqL.of hp2, atN (n := 1) rfl rfl, A, r, ⟨pl, none⟩, .ref S, g, k, rfl, co2, ts, ?_, fun H6 k6 co6 => q _ (kA.trans k6) co6⟩
      rw [rok.flags]
      exact tok.1
    | peek c =>
      obtain ⟨u1, us, rfl, h1, hu⟩ := hu.inv
      obtain rfl := h1.inv_int
      refine ⟨_, rfl, rfl, _, rfl, iteBF (show decide (V.str (Str.ofString "peek") = V.str (Str.ofString "post")) = false by decide +kernel) ⟨_, rfl, rfl, _, rfl, iteBF (show decide (V.str (Str.ofString "peek") = V.str (Str.ofString "poke")) = false by decide +kernel) ⟨_, rfl, rfl, _, rfl, iteBT (show decide (V.str (Str.ofString "peek") = V.str (Str.ofString "peek")) = true by decide +kernel) ?_⟩⟩⟩
      refine ⟨_, rfl, _, C, _, _, _, rfl, ia, cCourse.cls, cCourse.n_memory, rfl, _, rfl, p, _, 0, _, rfl, rfl, SqL.of hp2, atN (n := 0) rfl rfl, A.M, _, _, _, rfl, rfl, SqL.of co2.mem, atN rfl (nums_at tok), ?_⟩
      refine ⟨_, rfl, _, C, _, _, _, rfl, ia, cCourse.cls, cCourse.n_peeks, rfl, .inl ⟨rfl, _, SqL.of co2.pks⟩, _, rfl, A.P, _, _, rfl, rfl, co2.pks, ?_, ?_⟩
      · rw [nums_len]
        exact Nat.lt_of_le_of_lt (Nat.le_trans rok.peeks n900) (by decide)
      have hpk : nums r.peeks ++ [V.int (r.mem.getD c 0 : Nat)] = nums (r.peeks ++ [r.mem.getD c 0]) := (nums_app r.peeks [r.mem.getD c 0]).symm
      obtain ⟨co3, k3⟩ := co2.updP (r.peeks ++ [r.mem.getD c 0]) hpk
      have hp3 := k3.keep _ _ hp2 npo
      have ts3 := ts.kp k3
      obtain ⟨sv3, ia3, _⟩ := co3.ins
      refine ⟨_, rfl, A.a, _, _, rfl, ia3, rfl, _, rfl, _, rfl, p, _, 0, _, rfl, rfl, SqL.of hp3, atN (n := 0) rfl rfl, _, rfl, sz 4, fun t1 G1 k4 n4 e4 => ⟨sz 1, fun L G2 k5 n5 e5 => ?_⟩⟩
      have k45 := k4.trans k5
      refine ⟨A, _, ⟨pl, none⟩, .ref S, L, _, [⟨0, false, c, r.mem.getD c 0⟩], rfl, co3.kp0 k45, ts3.kp k45, e5, TDs.cons (Rw.td (w := false) (k5.same _ _ e4)) TDs.nil, Nat.le_trans rok.rows (by omega), by simp, fun H6 k6 co6 => ?_⟩
      refine ⟨_, rfl, rfl, _, rfl, iteBF (show decide (V.str (Str.ofString "peek") = V.str (Str.ofString "see")) = false by decide +kernel) (q _ (((kA.trans k3).trans (k45.more (by simp))).trans k6) co6)⟩
    | poke c x =>
      obtain ⟨u1, us, rfl, h1, hu⟩ := hu.inv
      obtain ⟨u2, us, rfl, h2, hu⟩ := hu.inv
      obtain rfl := h1.inv_int
      obtain rfl := h2.inv_int
      refine ⟨_, rfl, rfl, _, rfl, iteBF (show decide (V.str (Str.ofString "poke") = V.str (Str.ofString "post")) = false by decide +kernel) ⟨_, rfl, rfl, _, rfl, iteBT (show decide (V.str (Str.ofString "poke") = V.str (Str.ofString "poke")) = true by decide +kernel) ?_⟩⟩
      refine ⟨_, rfl, p, _, 1, _, rfl, rfl, SqL.of hp2, atN (n := 1) rfl rfl, ?_⟩
      refine ⟨_, rfl, _, C, _, _, _, rfl, ia, cCourse.cls, cCourse.n_memory, rfl, _, rfl, p, _, 0, _, rfl, rfl, SqL.of hp2, atN (n := 0) rfl rfl, A.M, _, _, c, rfl, rfl, co2.mem, ixN_of (by rw [nums_len]; exact tok.1), ?_⟩
      obtain ⟨co3, k3⟩ := co2.updM (r.mem.set c x) (nums_set r.mem c x)
      have hp3 := k3.keep _ _ hp2 npo
      have ts3 := ts.kp k3
      obtain ⟨sv3, ia3, _⟩ := co3.ins
      refine ⟨_, rfl, A.a, _, _, rfl, ia3, rfl, _, rfl, _, rfl, p, _, 0, _, rfl, rfl, SqL.of hp3, atN (n := 0) rfl rfl, _, rfl, p, _, 1, _, rfl, rfl, SqL.of hp3, atN (n := 1) rfl rfl, sz 4, fun t1 G1 k4 n4 e4 => ⟨sz 1, fun L G2 k5 n5 e5 => ?_⟩⟩
      have k45 := k4.trans k5
      refine ⟨A, _, ⟨pl, none⟩, .ref S, L, _, [⟨0, true, c, x⟩], rfl, co3.kp0 k45, ts3.kp k45, e5, TDs.cons (Rw.td (w := true) (k5.same _ _ e4)) TDs.nil, Nat.le_trans rok.rows (by omega), by simp, fun H6 k6 co6 => ?_⟩
      exact ⟨_, rfl, rfl, _, rfl, iteBF (show decide (V.str (Str.ofString "poke") = V.str (Str.ofString "peek")) = false by decide +kernel) ⟨_, rfl, rfl, _, rfl, iteBF (show decide (V.str (Str.ofString "poke") = V.str (Str.ofString "see")) = false by decide +kernel) (q _ (((kA.trans k3).trans (k45.more (by simp))).trans k6) co6)⟩⟩
    | post hh l =>
      obtain ⟨u1, us, rfl, h1, hu⟩ := hu.inv
      obtain ⟨u2, us, rfl, h2, hu⟩ := hu.inv
      refine ⟨_, rfl, rfl, _, rfl, iteBT (show decide (V.str (Str.ofString "post") = V.str (Str.ofString "post")) = true by decide +kernel) ?_⟩
      refine ⟨_, rfl, A.a, _, _, rfl, ia, rfl, _, rfl, _, rfl, p, _, 1, _, rfl, rfl, SqL.of hp2, atN (n := 1) rfl rfl, A, r, pl, u2, l, n, rfl, co2, h2.kp k02, tok.2.2.1, rok, m40, n900, fun t ht => (tok.2.2.2 t ht).1, fun H6 k6 co6 => ?_⟩
      exact ⟨_, rfl, rfl, _, rfl, iteBF (show decide (V.str (Str.ofString "post") = V.str (Str.ofString "poke")) = false by decide +kernel) ⟨_, rfl, rfl, _, rfl, iteBF (show decide (V.str (Str.ofString "post") = V.str (Str.ofString "peek")) = false by decide +kernel) ⟨_, rfl, rfl, _, rfl, iteBF (show decide (V.str (Str.ofString "post") = V.str (Str.ofString "see")) = false by decide +kernel) (q _ (kA.trans k6) co6)⟩⟩⟩
abbrev N_Course_do_all : List Str := ["self", "program", "place", "deed"]
theorem sc_Course_do_all : FnScope N_Course_do_all ["self", "program"] (defScope s_Course_do_all) := ⟨rfl, rfl, rfl, by decide +kernel, rfl, by decide +kernel, by decide +kernel⟩
def sp_do_all (C : Addr) : Sp := fun vs H Q _ => ∃ (A : CoA) (v : V) (m : List Nat) (p : List Ded), vs = [.ref A.a, v] ∧ CoAt C H A (run0 m) ∧ TD H v (sheetD p) ∧ SheetOk m.length p ∧ m.length ≤ 40 ∧
  ∀ H', Kp A.own H H' → CoAt C H' A (runAll m p) → Q .non H'
theorem ok_Course_do_all (T : Txt K mg) (cCourse : CoC K C) (F : Fd K "do_all" "Course.do_all" s_Course_do_all f fd) (M_Course_do_deed : Met P w K mg base C 4 "do_deed" ["self", "place", "deed"] (sp_do_deed C)) :
    FnOk P w K mg base CX0 5 f fd ["self", "program"] (sp_do_all C) := by
  refine FunD.ok F sc_Course_do_all (fun vs H Q E h => ?_) (fun cdv AA outer s H vs Q E hr h => ?_)
  · obtain ⟨A, v, m, p, rfl, _⟩ := h
    rfl
  · obtain ⟨A, v, m, ps, rfl, co, hv, sok, m40, q⟩ := h
    obtain ⟨p, xs, rfl, hp, hx⟩ := hv.inv
    have xl : xs.length = ps.length := by rw [hx.1, List.length_map]
    have rok := run0_ok m
    refine ⟨_, PSs.nox (pss_one (ps_for PassesOwn.never rfl (pi_enumT (by rfl) T.b_enumerate (pa_cons (pv 1) pa_nil)) (pg_tup rfl (pgs_cons (pg_name (i := 2) sc_Course_do_all.nd rfl (Or.inl rfl)) (pgs_cons (pg_name (i := 3) sc_Course_do_all.nd rfl (Or.inl rfl)) pgs_nil))) (pss_one (ps_if (pt_cmpR op_isN (pe_fld (pv 0) rfl) pe_non (nomark _)) (pss_one (ps_expr (pm (pv 0) cCourse.cls M_Course_do_deed hr (pa_cons (pv 2) (pa_cons (pv 3) pa_nil))))) pss_nil)))), ?_⟩
    refine ⟨_, rfl, p, _, rfl, SqT.of hp, for_it (walk_itg (n := xs.length)) (fun i σ H' => Kp A.own H H' ∧ CoAt C H' A (deedsN ps (run0 m) i) ∧ ∃ v2 v3, σ = [some (.ref A.a), some (.ref p), v2, v3]) ⟨Kp.refl _, co, none, none, rfl⟩ (fun i σ H' _ h => SqT.of (h.1.tups _ _ hp)) (fun i x σ H1 H2 hi h y => ?_) (fun σ H1 h => ?_)⟩
    · obtain ⟨k1, co1, v2, v3, rfl⟩ := h
      obtain ⟨U, y0, rfl, nU, k2, eU, ey⟩ := enum_inv y
      obtain ⟨t, ht, td⟩ := hx.nth ey
      have tok := sok.ok t (List.mem_of_getElem? ht)
      have rok1 := rok.deedsN (l := ps) sok.ok i (by omega)
      have k12 : Kp A.own H H2 := k1.trans (k2.more (by simp))
      have co2 := co1.kp0 k2
      rw [deedsN_succ ht]
      generalize deedsN ps (run0 m) i = r1 at co1 co2 rok1
      obtain ⟨sv, ia, hsv⟩ := co2.ins
      refine ⟨U, _, rfl, SqT.of eU, rfl, _, _, rfl, _, _, rfl, rfl, ?_⟩
      refine ⟨_, rfl, _, C, _, _, _, rfl, ia, cCourse.cls, cCourse.n_stuck, rfl, rfl, _, rfl, ?_⟩
      rw [stuck_non hsv]
      cases hst : r1.stuck.isNone with
      | false => exact iteF ⟨k12, co2, _, _, rfl⟩
      | true =>
        have i6 := sok.l6
        have ml := rok1.mem
        refine iteT ⟨_, rfl, A.a, _, _, rfl, ia, rfl, _, rfl, _, rfl, A, r1, i, y0, t, 68 * i, rfl, co2, td.kp k12, ⟨rfl, rok1.flags, Nat.le_trans rok1.rows (by omega), Nat.le_trans rok1.peeks (by omega)⟩, by omega, by omega, by rw [ml]; exact tok, fun H5 k5 co5 => ⟨k12.trans k5, co5, _, _, rfl⟩⟩
    · obtain ⟨k1, co1, v2, v3, rfl⟩ := h
      rw [xl] at co1
      exact q _ k1 co1
abbrev N_course_of : List Str := ["memory", "program", "found"]
theorem sc_course_of : FnScope N_course_of ["memory", "program"] (defScope s_course_of) := ⟨rfl, rfl, rfl, by decide +kernel, rfl, by decide +kernel, by decide +kernel⟩
def sp_course_of (C : Addr) : Sp := fun vs H Q _ => ∃ (v u : V) (m : List Nat) (p : List Ded), vs = [v, u] ∧ TD H v (memD m) ∧ TD H u (sheetD p) ∧ m.length ≤ 40 ∧ SheetOk m.length p ∧
  ∀ (H' : Hp) (A : CoA), Kp [] H H' → (∀ b ∈ A.own, H b = none) → CoAt C H' A (runAll m p) → Q (.ref A.a) H'
theorem ok_course_of (T : Txt K mg) (cCourse : CoC K C) (F : Fd K "course_of" "course_of" s_course_of f fd) (MkCourse : CalC P w K mg base C 1 "Course" ["self", "memory"] (sp_Course_init C)) (M_Course_do_all : Met P w K mg base C 5 "do_all" ["self", "program"] (sp_do_all C)) :
    FnOk P w K mg base CX0 6 f fd ["memory", "program"] (sp_course_of C) := by
  refine FunD.ok F sc_course_of (fun vs H Q E h => ?_) (fun cdv AA outer s H vs Q E hr h => ?_)
  · obtain ⟨v, u, m, p, rfl, _⟩ := h
    rfl
  · obtain ⟨v, u, m, p, rfl, hv, hu, m40, sok, q⟩ := h
    refine ⟨_, PSs.nox (pss_cons (ps_set (i := 2) sc_course_of.nd rfl (Or.inl rfl) (pmk MkCourse hr (pa_cons (pv 0) pa_nil)))
      (pss_cons (ps_expr (pm (pv 2) cCourse.cls M_Course_do_all hr (pa_cons (pv 1) pa_nil)))
      (pss_one (ps_ret (pv 2))))), ?_⟩
    refine ⟨_, rfl, fun x dx nx ndx ne => ?_⟩
    have k1 : Kp [] H (upd (upd H dx (.own x)) x (.ins C dx [])) := (Kp.new ndx).trans (Kp.new (by rw [upd_ne ne.symm]; exact nx))
    have e1 : upd (upd H dx (.own x)) x (.ins C dx []) x = some (.ins C dx []) := upd_same
    revert k1 e1
    generalize upd (upd H dx (.own x)) x (.ins C dx []) = H1
    intro k1 e1
    refine ⟨x, dx, v, m, rfl, e1, hv.kp k1, m40, fun H2 A a1 a2 k2 co2 f1 f2 f3 f4 => ⟨rfl, ?_⟩⟩
    have own : ∀ b ∈ A.own, H b = none := fun b hb => by
      simp only [CoA.own, List.mem_cons, List.mem_nil_iff, or_false] at hb
      rcases hb with rfl | rfl | rfl | rfl | rfl
      · rw [a1]; exact nx
      · exact k1.free f1
      · exact k1.free f2
      · exact k1.free f3
      · exact k1.free f4
    subst a1
    have kH2 : Kp [] H H2 := Kp.drop ((k1.more (by simp)).trans k2) nx
    obtain ⟨sv, ia, _⟩ := co2.ins
    refine ⟨_, rfl, A.a, _, _, rfl, ia, rfl, _, rfl, A, u, m, p, rfl, co2, hu.kp kH2, sok, m40, fun H3 k3 co3 => ?_⟩
    have kH3 : Kp [] H H3 := ⟨fun b o e hm => k3.keep b o (kH2.keep b o e hm) (fun hb => by rw [own b hb] at e; cases e), fun b xs e => k3.tups b xs (kH2.tups b xs e)⟩
    exact ⟨_, rfl, q H3 A kH3 own co3⟩
end
end L2.K14
set_option Elab.async false
set_option linter.all false
set_option maxRecDepth 100000
set_option maxHeartbeats 4000000
set_option pp.maxSteps 600
/-! rows that are told one by one; a Plain -/
namespace L2.K14
open PySem PySem.Spec PyProof.Rows
def putRw (bs : List Nat) (r : Rw) : List Nat := bs.set r.cell r.byte
def putRow (bs : List Nat) (r : Row) : List Nat := putRw bs r.rw
def bytesAt (m : List Nat) (rows : List Row) (k : Nat) : List Nat := (rows.take k).foldl putRow m
def elder (m : List Nat) (rows : List Row) (i : Nat) : Option Nat := (rows[i]?).bind fun r => if r.rw.wr then some ((bytesAt m rows i).getD r.rw.cell 0) else none
def oV : Option Nat → V
  | none => .non
  | some n => vi n
def eldersV (m : List Nat) (rows : List Row) (k : Nat) : List V := (List.range k).map fun i => oV (elder m rows i)
theorem bytesAt_len (m : List Nat) (rows : List Row) (k : Nat) : (bytesAt m rows k).length = m.length := by
  unfold bytesAt
  have : ∀ (l : List Row) (b : List Nat), (l.foldl putRow b).length = b.length := by
    intro l
    induction l with
    | nil => intro b; rfl
    | cons r l ih => intro b; rw [List.foldl_cons, ih]; simp [putRow, putRw]
  exact this _ _
theorem bytesAt_succ {m : List Nat} {rows : List Row} {k : Nat} {r : Row} (h : rows[k]? = some r) : bytesAt m rows (k + 1) = (bytesAt m rows k).set r.rw.cell r.rw.byte := by
  unfold bytesAt
  rw [take_snoc h, List.foldl_append]
  rfl
theorem eldersV_succ (m : List Nat) (rows : List Row) (k : Nat) : eldersV m rows (k + 1) = eldersV m rows k ++ [oV (elder m rows k)] := by
  unfold eldersV
  rw [List.range_succ, List.map_append]
  rfl
theorem eldersV_len (m : List Nat) (rows : List Row) (k : Nat) : (eldersV m rows k).length = k := by simp [eldersV]
theorem elder_of {m : List Nat} {rows : List Row} {k : Nat} {r : Row} (h : rows[k]? = some r) : elder m rows k = if r.rw.wr then some ((bytesAt m rows k).getD r.rw.cell 0) else none := by
  unfold elder
  rw [h]
  rfl
/-- bytes and rows that fit a memory -/
structure RwsOk (m : List Nat) (rs : List Rw) (m' : List Nat) : Prop where
  mem : m' = rs.foldl putRw m
  rd : ∀ i r, rs[i]? = some r → r.wr = false → ((rs.take i).foldl putRw m).getD r.cell 0 = r.byte
  ok : ∀ r ∈ rs, r.cell < m.length ∧ r.byte < 256
theorem RwsOk.nil (m : List Nat) : RwsOk m [] m := ⟨rfl, fun i r h => by simp at h, fun r h => by cases h⟩
theorem RwsOk.snoc {m m' : List Nat} {rs : List Rw} {r : Rw} (h : RwsOk m rs m') (hr : r.wr = false → m'.getD r.cell 0 = r.byte) (hc : r.cell < m.length) (hb : r.byte < 256) : RwsOk m (rs ++ [r]) (m'.set r.cell r.byte) := by
  refine ⟨by rw [List.foldl_append, ← h.mem]; rfl, fun i x hi hx => ?_, fun x hx => ?_⟩
  · by_cases q : i < rs.length
    · rw [List.getElem?_append_left q] at hi
      rw [List.take_append_of_le_length (by omega)]
      exact h.rd i x hi hx
    · rw [List.getElem?_append_right (by omega)] at hi
      have : i - rs.length = 0 := by
        rcases Nat.eq_zero_or_pos (i - rs.length) with z | z
        · exact z
        · rw [List.getElem?_eq_none (by simp; omega)] at hi
          cases hi
      rw [this] at hi
      cases hi
      rw [List.take_append_of_le_length (by omega), List.take_of_length_le (by omega), ← h.mem]
      exact hr hx
  · rcases List.mem_append.mp hx with hx | hx
    · exact h.ok x hx
    · rw [List.mem_singleton.mp hx]
      exact ⟨hc, hb⟩
theorem RwsOk.to {m a b : List Nat} {rs : List Rw} (h : RwsOk m rs a) (e : a = b) : RwsOk m rs b := e ▸ h
theorem set_getD {m : List Nat} {c : Nat} : m.set c (m.getD c 0) = m := by
  apply List.ext_getElem?
  intro i
  rw [List.getElem?_set]
  split
  · rename_i e
    subst e
    split
    · rename_i hl
      rw [List.getD_eq_getElem?_getD, List.getElem?_eq_getElem hl]
      rfl
    · rename_i hl
      rw [List.getElem?_eq_none (by omega)]
  · rfl
theorem getD_lt {m : List Nat} (h : ∀ x ∈ m, x < 256) (c : Nat) : m.getD c 0 < 256 := by
  rw [List.getD_eq_getElem?_getD]
  cases e : m[c]? with
  | none => decide
  | some x => exact h x (List.mem_of_getElem? e)
theorem foldl_bytes {rs : List Rw} : ∀ {m : List Nat}, (∀ x ∈ m, x < 256) → (∀ r ∈ rs, r.byte < 256) → ∀ x ∈ rs.foldl putRw m, x < 256 := by
  induction rs with
  | nil => exact fun h _ => h
  | cons r rs ih =>
    intro m h g
    rw [List.foldl_cons]
    refine ih (fun x hx => ?_) fun y hy => g y (List.mem_cons_of_mem _ hy)
    rcases List.mem_or_eq_of_mem_set hx with hx | rfl
    · exact h x hx
    · exact g r (List.mem_cons_self ..)
theorem RwsOk.bytes {m m' : List Nat} {rs : List Rw} (h : RwsOk m rs m') (hm : ∀ x ∈ m, x < 256) : ∀ x ∈ m', x < 256 := by
  rw [h.mem]
  exact foldl_bytes hm fun r hr => (h.ok r hr).2
theorem cpN_ok {l : List (Nat × Nat)} {m : List Nat} (hm : ∀ x ∈ m, x < 256) (hl : ∀ p ∈ l, p.1 < m.length ∧ p.2 < m.length) : ∀ i, i ≤ l.length → RwsOk m (cpN l m i).2 (cpN l m i).1
  | 0, _ => RwsOk.nil m
  | i + 1, h => by
    have ih := cpN_ok hm hl i (by omega)
    have e : l[i]? = some l[i] := List.getElem?_eq_getElem (by omega)
    have hp := hl _ (List.mem_of_getElem? e)
    have hb := getD_lt (ih.bytes hm) l[i].1
    rw [cpN_succ e]
    have s1 := ih.snoc (r := ⟨i, false, l[i].1, (cpN l m i).1.getD l[i].1 0⟩) (fun _ => rfl) hp.1 hb
    have e1 : (cpN l m i).1.set l[i].1 ((cpN l m i).1.getD l[i].1 0) = (cpN l m i).1 := set_getD
    have s2 := s1.snoc (r := ⟨i, true, l[i].2, (cpN l m i).1.getD l[i].1 0⟩) (fun z => by cases z) hp.2 hb
    rw [List.append_assoc] at s2
    have e2 : ((cpN l m i).1.set l[i].1 ((cpN l m i).1.getD l[i].1 0)).set l[i].2 ((cpN l m i).1.getD l[i].1 0) = (cpN l m i).1.set l[i].2 ((cpN l m i).1.getD l[i].1 0) := by rw [e1]
    exact s2.to e2
theorem flN_ok {l : List Nat} {x : Nat} {m : List Nat} (hx : x < 256) (hl : ∀ p ∈ l, p < m.length) : ∀ i, i ≤ l.length → RwsOk m (flN l x m i).2 (flN l x m i).1
  | 0, _ => RwsOk.nil m
  | i + 1, h => by
    have ih := flN_ok (l := l) (x := x) hx hl i (by omega)
    have e : l[i]? = some l[i] := List.getElem?_eq_getElem (by omega)
    rw [flN_succ e]
    exact ih.snoc (r := ⟨i, true, l[i], x⟩) (fun z => by cases z) (hl _ (List.mem_of_getElem? e)) hx
theorem adN_ok {l : List Nat} {m : List Nat} (hm : ∀ x ∈ m, x < 256) (hl : ∀ p ∈ l, p < m.length) : ∀ i, i ≤ l.length → RwsOk m (adN l m i) m
  | 0, _ => RwsOk.nil m
  | i + 1, h => by
    have ih := adN_ok hm hl i (by omega)
    have e : l[i]? = some l[i] := List.getElem?_eq_getElem (by omega)
    rw [adN_succ e]
    have s1 := ih.snoc (r := ⟨i, false, l[i], m.getD l[i] 0⟩) (fun _ => rfl) (hl _ (List.mem_of_getElem? e)) (getD_lt hm _)
    exact s1.to set_getD
theorem Stp.run_ok {t : Stp} {m : List Nat} (ht : t.Ok m.length) (hm : ∀ x ∈ m, x < 256) : RwsOk m (t.run m).2 (t.run m).1 := by
  cases t with
  | copy a b k =>
    refine cpN_ok hm (fun p hp => ?_) _ (Nat.le_refl _)
    have hp := List.mem_of_mem_drop hp
    exact ⟨Ar.cells_lt ht.1 (List.of_mem_zip hp).1, Ar.cells_lt ht.2.1 (List.of_mem_zip hp).2⟩
  | fill a x k => exact flN_ok ht.2.1 (fun p hp => Ar.cells_lt ht.1 (List.mem_of_mem_drop hp)) _ (Nat.le_refl _)
  | add a c =>
    exact (adN_ok hm (fun p hp => Ar.cells_lt ht.1 hp) _ (Nat.le_refl _)).snoc (r := ⟨a.cells.length, true, c, adS a.cells m⟩) (fun z => by cases z) ht.2 (Nat.mod_lt _ (by decide))
  | _ => exact RwsOk.nil m
/-- a run's rows tell its bytes -/
def Good (m : List Nat) (r : Run) : Prop := RwsOk m (r.rows.map Row.rw) r.mem
theorem RwsOk.trans {m m1 m2 : List Nat} {rs ts : List Rw} (h : RwsOk m rs m1) (hl : m1.length = m.length) (g : RwsOk m1 ts m2) : RwsOk m (rs ++ ts) m2 := by
  refine ⟨by rw [List.foldl_append, ← h.mem]; exact g.mem, fun i x hi hx => ?_, fun x hx => ?_⟩
  · by_cases q : i < rs.length
    · rw [List.getElem?_append_left q] at hi
      rw [List.take_append_of_le_length (by omega)]
      exact h.rd i x hi hx
    · rw [List.getElem?_append_right (by omega)] at hi
      have := g.rd _ x hi hx
      rw [List.take_append, List.take_of_length_le (by omega), List.foldl_append, ← h.mem]
      exact this
  · rcases List.mem_append.mp hx with hx | hx
    · exact h.ok x hx
    · rw [← hl]
      exact g.ok x hx
theorem Good.tell {m : List Nat} {r : Run} (h : Good m r) (hl : r.mem.length = m.length) {m2 : List Nat} {rs : List Rw} (s : Spot) (g : RwsOk r.mem rs m2) : Good m (({ r with mem := m2 } : Run).tell s rs) := by
  unfold Good Run.tell
  show RwsOk m ((r.rows ++ rs.map (Row.mk s)).map Row.rw) m2
  rw [List.map_append, List.map_map]
  have : rs.map (Row.rw ∘ Row.mk s) = rs := by
    rw [show (Row.rw ∘ Row.mk s) = id from rfl, List.map_id]
  rw [this]
  exact RwsOk.trans h hl g
theorem Good.pass {m : List Nat} {r : Run} (h : Good m r) (s : Spot) (f n : Nat) : Good m (r.pass s f n) := by
  unfold Run.pass
  split
  · exact h
  · exact h
theorem Good.step {m : List Nat} {r : Run} (h : Good m r) (hl : r.mem.length = m.length) (hb : ∀ x ∈ m, x < 256) (s : Spot) {t : Stp} (ht : t.Ok m.length) : Good m (r.step s t) := by
  have h1 := h.tell hl s (Stp.run_ok (t := t) (m := r.mem) (by rw [hl]; exact ht) (RwsOk.bytes h hb))
  cases t with
  | note f => exact h1
  | wait f n => exact h1.pass s f n
  | _ => exact h1
theorem Good.stepsN {m : List Nat} {r : Run} {n place : Nat} (h : Good m r) (hr : RunOk m.length n r) (hb : ∀ x ∈ m, x < 256) {l : List Stp} (hl : ∀ t ∈ l, t.Ok m.length) : ∀ i, i ≤ l.length → Good m (stepsN l place r i)
  | 0, _ => h
  | i + 1, hi => by
    have ih := Good.stepsN (place := place) h hr hb hl i (by omega)
    have e : l[i]? = some l[i] := List.getElem?_eq_getElem (by omega)
    rw [stepsN_succ e]
    split
    · exact ih.step (hr.stepsN hl i (by omega)).mem hb _ (hl _ (List.mem_of_getElem? e))
    · exact ih
theorem Good.deed {m : List Nat} {r : Run} {n place : Nat} (h : Good m r) (hr : RunOk m.length n r) (hb : ∀ x ∈ m, x < 256) {t : Ded} (ht : t.Ok m.length) : Good m (r.deed place t) := by
  cases t with
  | post a l => exact h.stepsN hr hb (fun t ht' => (ht.2.2.2 t ht').1) _ (Nat.le_refl _)
  | poke c b => exact h.tell hr.mem ⟨place, none⟩ ((RwsOk.nil r.mem).snoc (r := ⟨0, true, c, b⟩) (fun z => by cases z) (by rw [hr.mem]; exact ht.1) ht.2)
  | peek c =>
    have g := (RwsOk.nil r.mem).snoc (r := ⟨0, false, c, r.mem.getD c 0⟩) (fun _ => rfl) (by rw [hr.mem]; exact ht) (getD_lt (RwsOk.bytes h hb) _)
    exact Good.tell (r := { r with peeks := r.peeks ++ [r.mem.getD c 0] }) h hr.mem ⟨place, none⟩ (g.to set_getD)
  | join c => exact h
  | see f k => exact h.pass _ f k
theorem Good.deedsN {m : List Nat} {r : Run} {n : Nat} (h : Good m r) (hr : RunOk m.length n r) (hb : ∀ x ∈ m, x < 256) {l : List Ded} (hl : ∀ t ∈ l, t.Ok m.length) : ∀ i, i ≤ l.length → Good m (deedsN l r i)
  | 0, _ => h
  | i + 1, hi => by
    have ih := Good.deedsN h hr hb hl i (by omega)
    have e : l[i]? = some l[i] := List.getElem?_eq_getElem (by omega)
    rw [deedsN_succ e]
    split
    · exact ih.deed (hr.deedsN hl i (by omega)) hb (hl _ (List.mem_of_getElem? e))
    · exact ih
def rowsOf (m : List Nat) (p : List Ded) : List Row := (runAll m p).rows
theorem rows_good {m : List Nat} {p : List Ded} (hm : MemOk m) (hp : SheetOk m.length p) : Good m (runAll m p) := Good.deedsN (show Good m (run0 m) from RwsOk.nil m) (run0_ok m) hm.b hp.ok _ (Nat.le_refl _)
theorem rows_len {m : List Nat} {p : List Ded} (hp : SheetOk m.length p) : (rowsOf m p).length ≤ 408 := by
  have := ((run0_ok m).deedsN hp.ok p.length (Nat.le_refl _)).rows
  have := hp.l6
  unfold rowsOf runAll
  omega
theorem rows_cell {m : List Nat} {p : List Ded} (hm : MemOk m) (hp : SheetOk m.length p) {r : Row} (h : r ∈ rowsOf m p) : r.rw.cell < m.length ∧ r.rw.byte < 256 := (rows_good hm hp).ok r.rw (List.mem_map.mpr ⟨r, h, rfl⟩)
theorem foldl_rw (rows : List Row) : ∀ m : List Nat, rows.foldl putRow m = (rows.map Row.rw).foldl putRw m := by
  induction rows with
  | nil => intro m; rfl
  | cons r l ih => intro m; rw [List.foldl_cons, List.map_cons, List.foldl_cons, ih]; rfl
theorem rows_rd {m : List Nat} {p : List Ded} (hm : MemOk m) (hp : SheetOk m.length p) {i : Nat} {r : Row} (h : (rowsOf m p)[i]? = some r) (hw : r.rw.wr = false) : (bytesAt m (rowsOf m p) i).getD r.rw.cell 0 = r.rw.byte := by
  have := (rows_good hm hp).rd i r.rw (by rw [List.getElem?_map]; unfold rowsOf at h; rw [h]; rfl) hw
  rw [← List.map_take, ← foldl_rw] at this
  exact this
theorem bytesAt_b {m : List Nat} {p : List Ded} (hm : MemOk m) (hp : SheetOk m.length p) (k : Nat) : ∀ x ∈ bytesAt m (rowsOf m p) k, x < 256 := by
  unfold bytesAt
  rw [foldl_rw]
  refine foldl_bytes hm.b fun r hr => ?_
  obtain ⟨x, hx, rfl⟩ := List.mem_map.mp hr
  exact (rows_cell hm hp (List.mem_of_mem_take hx)).2
/-- taken back: the bytes of one row fewer -/
theorem bytes_back {m : List Nat} {p : List Ded} (hm : MemOk m) (hp : SheetOk m.length p) {k : Nat} {r : Row} (h : (rowsOf m p)[k]? = some r) :
    (match elder m (rowsOf m p) k with | some e => (bytesAt m (rowsOf m p) (k + 1)).set r.rw.cell e | none => bytesAt m (rowsOf m p) (k + 1)) = bytesAt m (rowsOf m p) k := by
  rw [elder_of h, bytesAt_succ h]
  cases hw : r.rw.wr with
  | true =>
    show ((bytesAt m (rowsOf m p) k).set r.rw.cell r.rw.byte).set r.rw.cell _ = _
    rw [List.set_set]
    exact set_getD
  | false =>
    show (bytesAt m (rowsOf m p) k).set r.rw.cell r.rw.byte = _
    rw [← rows_rd hm hp h hw]
    exact set_getD
/-- the bytes that peeks told -/
def peekOf (r : Row) : Bool := r.spot.num.isNone && !r.rw.wr
def peeksOf (rows : List Row) : List Nat := (rows.filter peekOf).map fun r => r.rw.byte
end L2.K14
set_option Elab.async false
set_option linter.all false
set_option maxRecDepth 100000
set_option maxHeartbeats 4000000
set_option pp.maxSteps 600
/-! a Plain: its methods -/
namespace L2.K14
open PySem PySem.Spec PyProof.Rows
/-- the class Plain -/
structure PlC (K : PySem.W.Frag) (C : Addr) : Prop where
  cls : Cls K C
  n_asked : NoAttr K C "plain_asked"
  n_rows : NoAttr K C "plain_rows"
  n_bytes : NoAttr K C "plain_bytes"
  n_elders : NoAttr K C "plain_elders"
structure PlA where
  a : Addr
  dx : Addr
  T : Addr
  R : Addr
  B : Addr
  E : Addr
def PlA.own (A : PlA) : List Addr := [A.a, A.R, A.B, A.E]
abbrev plFs (A : PlA) : List (Str × V) := [("plain_asked", .ref A.T), ("plain_rows", .ref A.R), ("plain_bytes", .ref A.B), ("plain_elders", .ref A.E)]
structure PlAt (C : Addr) (H : Hp) (A : PlA) (m : List Nat) (p : List Ded) (k : Nat) : Prop where
  mok : MemOk m
  sok : SheetOk m.length p
  nd : A.own.Nodup
  ins : H A.a = some (.ins C A.dx (plFs A))
  asked : TD H (.ref A.T) (.tuple [memD m, sheetD p])
  row : ∃ rvs, H A.R = some (.lst rvs) ∧ TDs H rvs ((rowsOf m p).map Row.d)
  byt : H A.B = some (.lst (nums (bytesAt m (rowsOf m p) k)))
  eld : H A.E = some (.lst (eldersV m (rowsOf m p) k))
  kle : k ≤ (rowsOf m p).length
theorem PlAt.kp {C : Addr} {H H' : Hp} {A : PlA} {m : List Nat} {p : List Ded} {k : Nat} {N : List Addr} (h : PlAt C H A m p k) (q : Kp N H H') (hN : ∀ b ∈ A.own, b ∉ N) : PlAt C H' A m p k := by
  obtain ⟨mok, sok, nd, ins, asked, ⟨rvs, r1, r2⟩, byt, eld, kle⟩ := h
  exact ⟨mok, sok, nd, q.keep _ _ ins (hN _ (by simp [PlA.own])), asked.kp q, ⟨rvs, q.keep _ _ r1 (hN _ (by simp [PlA.own])), r2.kp q⟩, q.keep _ _ byt (hN _ (by simp [PlA.own])), q.keep _ _ eld (hN _ (by simp [PlA.own])), kle⟩
theorem PlAt.kp0 {C : Addr} {H H' : Hp} {A : PlA} {m : List Nat} {p : List Ded} {k : Nat} (h : PlAt C H A m p k) (q : Kp [] H H') : PlAt C H' A m p k := h.kp q fun _ _ => by simp
theorem PlA.nds {A : PlA} (h : A.own.Nodup) : A.a ≠ A.R ∧ A.a ≠ A.B ∧ A.a ≠ A.E ∧ A.R ≠ A.B ∧ A.R ≠ A.E ∧ A.B ≠ A.E := by
  unfold PlA.own at h
  simp only [List.nodup_cons, List.mem_cons, List.mem_nil_iff, not_or, or_false] at h
  obtain ⟨⟨a1, a2, a3⟩, ⟨b1, b2⟩, c1, _⟩ := h
  exact ⟨a1, a2, a3, b1, b2, c1⟩
/-- bytes and elders are written, at other numbers of rows -/
theorem PlAt.put {C : Addr} {H H' : Hp} {A : PlA} {m : List Nat} {p : List Ded} {k j : Nat} (h : PlAt C H A m p k) (q : Kp [A.B, A.E] H H') (hB : H' A.B = some (.lst (nums (bytesAt m (rowsOf m p) j)))) (hE : H' A.E = some (.lst (eldersV m (rowsOf m p) j))) (hj : j ≤ (rowsOf m p).length) :
    PlAt C H' A m p j := by
  obtain ⟨mok, sok, nd, ins, asked, ⟨rvs, r1, r2⟩, byt, eld, kle⟩ := h
  obtain ⟨a1, a2, a3, b1, b2, c1⟩ := PlA.nds nd
  exact ⟨mok, sok, nd, q.keep _ _ ins (by simp [a2, a3]), asked.kp q, ⟨rvs, q.keep _ _ r1 (by simp [b1, b2]), r2.kp q⟩, hB, hE, hj⟩
theorem Kp.two {A : PlA} {H H' : Hp} (q : Kp [A.B, A.E] H H') : Kp A.own H H' := q.more fun b hb => by
  simp only [List.mem_cons, List.mem_nil_iff, or_false] at hb
  rcases hb with rfl | rfl <;> simp [PlA.own]
section
variable {P : Program} {w : World} {K : PySem.W.Frag} {mg : Str → Option Value} {base : Heap} {f : Addr} {fd : FuncData} {C CC : Addr}
abbrev N_Plain_init : List Str := ["self", "memory", "program"]
theorem sc_Plain_init : FnScope N_Plain_init ["self", "memory", "program"] (defScope s_Plain_init) := ⟨rfl, rfl, rfl, by decide +kernel, rfl, by decide +kernel, by decide +kernel⟩
def sp_Plain_init (C : Addr) : Sp := fun vs H Q _ => ∃ (a dx : Addr) (v u : V) (m : List Nat) (p : List Ded), vs = [.ref a, v, u] ∧ H a = some (.ins C dx []) ∧ TD H v (memD m) ∧ TD H u (sheetD p) ∧ MemOk m ∧ SheetOk m.length p ∧
  ∀ (H' : Hp) (A : PlA), A.a = a → A.dx = dx → Kp [a] H H' → PlAt C H' A m p 0 → H A.R = none → H A.B = none → H A.E = none → Q .non H'
theorem ok_Plain_init (T : Txt K mg) (cPlain : PlC K C) (cCourse : CoC K CC) (F : Fd K "__init__" "Plain.__init__" s_Plain_init f fd) (D_need_both : Cal P w K mg base 12 "need_both" ["memory", "program"] sp_need_both) (D_course_of : Cal P w K mg base 6 "course_of" ["memory", "program"] (sp_course_of CC)) :
    FnOk P w K mg base CX0 13 f fd ["self", "memory", "program"] (sp_Plain_init C) := by
  refine FunD.ok F sc_Plain_init (fun vs H Q E h => ?_) (fun cdv AA outer s H vs Q E hr h => ?_)
  · obtain ⟨a, dx, v, u, m, p, rfl, _⟩ := h
    rfl
  · obtain ⟨a, dx, v, u, m, p, rfl, ha, hv, hu, mok, sok, q⟩ := h
    refine ⟨_, PSs.nox (pss_cons (ps_expr (pc D_need_both hr (pa_cons (pv 1) (pa_cons (pv 2) pa_nil))))
      (pss_cons (ps_fld (pv 0) (pe_tupK (pa_cons (pv 1) (pa_cons (pv 2) pa_nil))) rfl)
      (pss_cons (ps_fld (pv 0) (pe_fld (pc D_course_of hr (pa_cons (pv 1) (pa_cons (pv 2) pa_nil))) rfl) rfl)
      (pss_cons (ps_fld (pv 0) (pe_callTy call_listK (by rfl) T.b_list (by decide +kernel) (pa_cons (pv 1) pa_nil)) rfl)
      (pss_one (ps_fld (pv 0) (pe_lstK pa_nil) rfl)))))), ?_⟩
    refine ⟨_, rfl, _, rfl, v, u, m, p, rfl, hv, hu, mok, sok, fun H1 k1 => ?_⟩
    have a1 := k1.same _ _ ha
    refine ⟨_, rfl, _, rfl, sz 2, fun U H2 k2 n2 e2 => ?_⟩
    have a2 := k2.same _ _ a1
    have k12 := k1.trans k2
    have tU : TD H2 (.ref U) (.tuple [memD m, sheetD p]) := TDs.tup e2 (TDs.cons (hv.kp k12) (TDs.cons (hu.kp k12) TDs.nil))
    refine ⟨_, rfl, a, C, dx, [], rfl, a2, cPlain.cls, cPlain.n_asked, by simp, ?_⟩
    obtain ⟨H3, r3, k3, a3, o3⟩ := ini a2 "plain_asked" (.ref U) []
    rw [r3]
    have k13 : Kp [a] H H3 := (k12.more (by simp)).trans k3
    refine ⟨_, rfl, _, rfl, v, u, m, p, rfl, hv.kp k13, hu.kp k13, mok.l40, sok, fun H4 Co k4 f4 co4 => ?_⟩
    obtain ⟨sv, ia, _⟩ := co4.ins
    obtain ⟨rvs, eR, tR⟩ := co4.row
    have a4 := k4.same _ _ a3
    refine ⟨Co.a, CC, _, _, .ref Co.R, rfl, ia, cCourse.cls, cCourse.n_rows, rfl, ?_⟩
    refine ⟨_, rfl, a, C, dx, _, rfl, a4, cPlain.cls, cPlain.n_rows, by simp, ?_⟩
    obtain ⟨H5, r5, k5, a5, o5⟩ := ini a4 "plain_rows" (.ref Co.R) ["plain_asked"]
    rw [r5]
    have k15 : Kp [a] H H5 := (k13.trans (k4.more (by simp))).trans k5
    obtain ⟨pm, rfl, hm5⟩ := (hv.kp k15).mem
    refine ⟨_, rfl, pm, _, rfl, .inr (SqT.of hm5), fun B H6 k6 n6 e6 => ?_⟩
    have a6 := k6.same _ _ a5
    refine ⟨_, rfl, a, C, dx, _, rfl, a6, cPlain.cls, cPlain.n_bytes, by simp, ?_⟩
    obtain ⟨H7, r7, k7, a7, o7⟩ := ini a6 "plain_bytes" (.ref B) ["plain_asked", "plain_rows"]
    rw [r7]
    refine ⟨sz 0, fun L H8 k8 n8 e8 => ?_⟩
    have a8 := k8.same _ _ a7
    refine ⟨_, rfl, a, C, dx, _, rfl, a8, cPlain.cls, cPlain.n_elders, by simp, ?_⟩
    obtain ⟨H9, r9, k9, a9, o9⟩ := ini a8 "plain_elders" (.ref L) ["plain_asked", "plain_rows", "plain_bytes"]
    rw [r9]
    have zR : Co.R ≠ a := Kp.neIns a3 (f4 _ (by simp [CoA.own]))
    have zB := Kp.neIns a5 n6
    have zL := Kp.neIns a7 n8
    have eR5 := (o5 _ zR).trans eR
    have eR7 := (o7 _ zR).trans (k6.same _ _ eR5)
    have eR9 := (o9 _ zR).trans (k8.same _ _ eR7)
    have eB7 := (o7 _ zB).trans e6
    have eB9 := (o9 _ zB).trans (k8.same _ _ eB7)
    have eL9 := (o9 _ zL).trans e8
    have nRB : Co.R ≠ B := fun z => by rw [← z, eR5] at n6; cases n6
    have nRL : Co.R ≠ L := fun z => by rw [← z, eR7] at n8; cases n8
    have nBL : B ≠ L := fun z => by rw [← z, eB7] at n8; cases n8
    have k17 := (k15.trans (k6.more (by simp))).trans k7
    have k59 : Kp [a] H5 H9 := ((k6.more (by simp)).trans k7).trans ((k8.more (by simp)).trans k9)
    have k19 := (k17.trans (k8.more (by simp))).trans k9
    have fr : ∀ {G : Hp} {b : Addr}, Kp [a] H G → b ≠ a → G b = none → H b = none := fun {G b} k hb n => by
      cases z : H b with
      | none => rfl
      | some o => exact absurd (k.keep b o z (by simp [hb])) (by rw [n]; simp)
    refine q H9 ⟨a, dx, U, Co.R, B, L⟩ rfl rfl k19 ⟨mok, sok, ?_, a9, ?_, ⟨rvs, eR9, ?_⟩, ?_, ?_, Nat.zero_le _⟩ (fr k13 zR (f4 _ (by simp [CoA.own]))) (fr k15 zB n6) (fr k17 zL n8)
    · simp only [PlA.own, List.nodup_cons, List.mem_cons, List.mem_nil_iff, not_or, or_false, List.nodup_nil, and_true, not_false_eq_true]
      exact ⟨⟨zR.symm, zB.symm, zL.symm⟩, ⟨nRB, nRL⟩, nBL⟩
    · exact (((tU.kp k3).kp k4).kp k5).kp k59
    · exact (tR.kp k5).kp k59
    · exact eB9
    · exact eL9
end
end L2.K14
set_option Elab.async false
set_option linter.all false
set_option maxRecDepth 100000
set_option maxHeartbeats 4000000
set_option pp.maxSteps 600
/-! a Plain: goes and backs, what it tells -/
namespace L2.K14
open PySem PySem.Spec PyProof.Rows
theorem way_w (b : Bool) : decide (V.str (wayS b) = V.str (Str.ofString "w")) = b := by
  cases b <;> decide +kernel
theorem way_r (b : Bool) : decide (V.str (wayS b) = V.str (Str.ofString "r")) = !b := by
  cases b <;> decide +kernel
theorem TD.row {H : Hp} {v : V} {r : Row} (h : TD H v r.d) : ∃ u s, v = .ref u ∧ H u = some (.tup [s, vi r.rw.part, .str (wayS r.rw.wr), vi r.rw.cell, vi r.rw.byte]) ∧ TD H s r.spot.d := by
  obtain ⟨u, xs, rfl, hu, h⟩ := TD.inv (ds := [r.spot.d, dN r.rw.part, .str (wayS r.rw.wr), dN r.rw.cell, dN r.rw.byte]) h
  obtain ⟨x0, xs, rfl, h0, h⟩ := h.inv
  obtain ⟨x1, xs, rfl, h1, h⟩ := h.inv
  obtain ⟨x2, xs, rfl, h2, h⟩ := h.inv
  obtain ⟨x3, xs, rfl, h3, h⟩ := h.inv
  obtain ⟨x4, xs, rfl, h4, h⟩ := h.inv
  obtain rfl := h.inv0
  obtain rfl := h1.inv_int
  obtain rfl := h2.inv_str
  obtain rfl := h3.inv_int
  obtain rfl := h4.inv_int
  exact ⟨u, x0, rfl, hu, h0⟩
theorem PlAt.told {C : Addr} {H : Hp} {A : PlA} {m : List Nat} {p : List Ded} {j : Nat} {r : Row} (pl : PlAt C H A m p j) (hr : (rowsOf m p)[j]? = some r) {ev : V} (hev : ev = oV (elder m (rowsOf m p) j)) :
    (upd H A.E (.lst (eldersV m (rowsOf m p) j ++ [ev]))) A.a = some (.ins C A.dx (plFs A)) ∧ (upd H A.E (.lst (eldersV m (rowsOf m p) j ++ [ev]))) A.B = some (.lst (nums (bytesAt m (rowsOf m p) j))) ∧
    Kp [A.B, A.E] H (upd (upd H A.E (.lst (eldersV m (rowsOf m p) j ++ [ev]))) A.B (.lst ((nums (bytesAt m (rowsOf m p) j)).set r.rw.cell (vi r.rw.byte)))) ∧
    PlAt C (upd (upd H A.E (.lst (eldersV m (rowsOf m p) j ++ [ev]))) A.B (.lst ((nums (bytesAt m (rowsOf m p) j)).set r.rw.cell (vi r.rw.byte)))) A m p (j + 1) := by
  obtain ⟨a1, a2, a3, b1, b2, c1⟩ := PlA.nds pl.nd
  have e1 : (upd H A.E (.lst (eldersV m (rowsOf m p) j ++ [ev]))) A.a = some (.ins C A.dx (plFs A)) := by rw [upd_ne a3]; exact pl.ins
  have e2 : (upd H A.E (.lst (eldersV m (rowsOf m p) j ++ [ev]))) A.B = some (.lst (nums (bytesAt m (rowsOf m p) j))) := by rw [upd_ne c1]; exact pl.byt
  have k1 : Kp [A.B, A.E] H (upd H A.E (.lst (eldersV m (rowsOf m p) j ++ [ev]))) := Kp.put pl.eld (by simp) (by simp)
  have k2 := k1.trans (Kp.put (u := .lst ((nums (bytesAt m (rowsOf m p) j)).set r.rw.cell (vi r.rw.byte))) e2 (by simp) (by simp : A.B ∈ [A.B, A.E]))
  refine ⟨e1, e2, k2, pl.put k2 ?_ ?_ (List.getElem?_eq_some_iff.mp hr).1⟩
  · rw [upd_same, nums_set, bytesAt_succ hr]
  · rw [upd_ne c1.symm, upd_same, eldersV_succ, hev]
/-- the next rows -/
def nextOf (rows : List Row) (k n : Nat) : List Row := (rows.drop k).take n
section
variable {P : Program} {w : World} {K : PySem.W.Frag} {mg : Str → Option Value} {base : Heap} {f : Addr} {fd : FuncData} {C CC : Addr}
abbrev N_Plain_gone_on : List Str := ["self", "many", "first", "found", "spot", "part", "way", "cell", "byte"]
theorem sc_Plain_gone_on : FnScope N_Plain_gone_on ["self", "many"] (defScope s_Plain_gone_on) := ⟨rfl, rfl, rfl, by decide +kernel, rfl, by decide +kernel, by decide +kernel⟩
def sp_go (C : Addr) : Sp := fun vs H Q _ => ∃ (A : PlA) (m : List Nat) (p : List Ded) (k n : Nat), vs = [.ref A.a, vi n] ∧ PlAt C H A m p k ∧ n ≤ 100000 ∧
  ∀ (H' : Hp) (L : Addr) (xs : List V), Kp A.own H H' → H L = none → H' L = some (.lst xs) → TDs H' xs ((nextOf (rowsOf m p) k n).map Row.d) → PlAt C H' A m p (min (k + n) (rowsOf m p).length) → Q (.ref L) H'
theorem ok_Plain_gone_on (T : Txt K mg) (cPlain : PlC K C) (F : Fd K "gone_on" "Plain.gone_on" s_Plain_gone_on f fd) : FnOk P w K mg base CX0 1 f fd ["self", "many"] (sp_go C) := by
  refine FunD.ok F sc_Plain_gone_on (fun vs H Q E h => ?_) (fun cdv AA outer s H vs Q E hr h => ?_)
  · obtain ⟨A, m, p, k, n, rfl, _⟩ := h
    rfl
  · obtain ⟨A, m, p, k, n, rfl, pl, hn, q⟩ := h
    obtain ⟨mok, sok, nd, ins, asked, ⟨rvs, eR, tR⟩, byt, eld, kle⟩ := id pl
    obtain ⟨a1, a2, a3, b1, b2, c1⟩ := PlA.nds nd
    have rl : rvs.length = (rowsOf m p).length := by rw [tR.1, List.length_map]
    have rl4 := rows_len sok
    refine ⟨_, PSs.nox (pss_cons (ps_set (i := 2) sc_Plain_gone_on.nd rfl (Or.inl rfl) (pe_callB call_len_seq (by rfl) T.b_len PySem.boot_len (pa_cons (pe_fld (pv 0) rfl) pa_nil)))
      (pss_cons (ps_set (i := 3) sc_Plain_gone_on.nd rfl (Or.inl rfl) (pe_slice sl_listK (pe_fld (pv 0) rfl) (po_some (pv 2)) (po_some (pe_op op_add (pv 2) (pv 1)))))
      (pss_cons (ps_for PassesOwn.never rfl (pi_list (pv 3)) (pg_tup rfl (pgs_cons (pg_name (i := 4) sc_Plain_gone_on.nd rfl (Or.inl rfl)) (pgs_cons (pg_name (i := 5) sc_Plain_gone_on.nd rfl (Or.inl rfl)) (pgs_cons (pg_name (i := 6) sc_Plain_gone_on.nd rfl (Or.inl rfl)) (pgs_cons (pg_name (i := 7) sc_Plain_gone_on.nd rfl (Or.inl rfl)) (pgs_cons (pg_name (i := 8) sc_Plain_gone_on.nd rfl (Or.inl rfl)) pgs_nil)))))) (pss_cons (ps_expr (pe_bm PySem.F.plainAttrs_list PySem.F.slot_list_append PySem.F.type_list_append mt_append (pe_fld (pv 0) rfl) (pa_cons (pe_ifExp (pt_cmpR op_eq (pv 6) (pk T.c_WRITE) (nomark _)) (pe_ix ix_list (pe_fld (pv 0) rfl) (pv 7) (fun _ _ => rfl)) pe_non) pa_nil)))
      (pss_one (ps_asg (pv 8) (pg_sub (pe_fld (pv 0) rfl) (pv 7) set_list)))))
      (pss_one (ps_ret (pv 3)))))), ?_⟩
    refine ⟨_, rfl, _, C, _, _, _, rfl, ins, cPlain.cls, cPlain.n_elders, rfl, A.E, _, rfl, .inl (SqL.of eld), ?_⟩
    rw [eldersV_len]
    refine ⟨_, rfl, _, C, _, _, _, rfl, ins, cPlain.cls, cPlain.n_rows, rfl, _, rfl, _, rfl, _, rfl, _, rfl, _, _, rfl, rfl, _, rfl, A.R, _, rfl, SqL.of eR, fun L H1 k1 n1 e1 => ?_⟩
    have ecut : cutV rvs (some (k : Int)) (some ((k : Int) + (n : Int))) = (rvs.drop k).take n := by
      have := cut_mid rvs k (k + n)
      rw [show ((k + n : Nat) : Int) = (k : Int) + (n : Int) by omega] at this
      rw [this]
      congr 1
      omega
    rw [ecut] at e1
    have tF : TDs H1 ((rvs.drop k).take n) ((nextOf (rowsOf m p) k n).map Row.d) := by
      have := ((tR.kp k1).drop k).take n
      rw [← List.map_drop, ← List.map_take] at this
      exact this
    have fl : ((rvs.drop k).take n).length = (nextOf (rowsOf m p) k n).length := by rw [tF.1, List.length_map]
    have nl : (nextOf (rowsOf m p) k n).length = min n ((rowsOf m p).length - k) := by unfold nextOf; rw [List.length_take, List.length_drop]
    have hnx : ∀ (i : Nat) (r : Row), (nextOf (rowsOf m p) k n)[i]? = some r → (rowsOf m p)[k + i]? = some r := fun i r e => by
      have hi : i < n := by
        have := (List.getElem?_eq_some_iff.mp e).1
        rw [nl] at this
        omega
      unfold nextOf at e
      rw [List.getElem?_take_of_lt hi, List.getElem?_drop] at e
      exact e
    generalize nextOf (rowsOf m p) k n = found at q tF fl nl hnx
    generalize (rvs.drop k).take n = fv at e1 tF fl
    have pl1 := pl.kp0 k1
    have nLE : ∀ b ∈ A.own, L ≠ b := fun b hb z => by
      simp only [PlA.own, List.mem_cons, List.mem_nil_iff, or_false] at hb
      rw [z] at n1
      rcases hb with rfl | rfl | rfl | rfl
      · rw [ins] at n1; cases n1
      · rw [eR] at n1; cases n1
      · rw [byt] at n1; cases n1
      · rw [eld] at n1; cases n1
    refine ⟨_, rfl, L, rfl, ⟨_, SqL.of e1⟩, for_it (walk_list (xs := fv)) (fun i σ H' => Kp [A.B, A.E] H1 H' ∧ PlAt C H' A m p (k + i) ∧ ∃ v4 v5 v6 v7 v8, σ = [some (.ref A.a), some (vi n), some (vi k), some (.ref L), v4, v5, v6, v7, v8]) ⟨Kp.refl _, pl1, none, none, none, none, none, rfl⟩ (fun i σ H' _ h => SqL.of (h.1.keep _ _ e1 (by simp [nLE A.B (by simp [PlA.own]), nLE A.E (by simp [PlA.own])]))) (fun i x σ H2 H3 hi h y => ?_) (fun σ H2 h => ?_)⟩
    · obtain ⟨k2, pl2, v4, v5, v6, v7, v8, rfl⟩ := h
      obtain ⟨rfl, hx⟩ := y
      obtain ⟨r, hr, td⟩ := tF.nth hx
      have hrow := hnx i r hr
      obtain ⟨u, sp, rfl, hu, _⟩ := (td.kp k2).row
      obtain ⟨cl, cb⟩ := rows_cell mok sok (List.mem_of_getElem? hrow)
      have bl := bytesAt_len m (rowsOf m p) (k + i)
      have he := elder_of (m := m) hrow
      refine ⟨u, _, rfl, SqT.of hu, rfl, _, _, rfl, _, _, rfl, _, _, rfl, _, _, rfl, _, _, rfl, rfl, ?_⟩
      refine ⟨_, rfl, _, C, _, _, _, rfl, pl2.ins, cPlain.cls, cPlain.n_elders, rfl, .inl ⟨rfl, _, SqL.of pl2.eld⟩, _, rfl, rfl, _, rfl, ?_⟩
      rw [way_w]
      have el : (eldersV m (rowsOf m p) (k + i)).length < sizeLine := by
        rw [eldersV_len]
        exact Nat.lt_of_le_of_lt (show k + i ≤ 1000 by rw [fl, nl] at hi; omega) (by decide)
      cases hw : r.rw.wr with
      | true =>
        rw [hw] at he
        obtain ⟨e1a, e2a, k3a, pl3⟩ := pl2.told hrow (ev := vi ((bytesAt m (rowsOf m p) (k + i)).getD r.rw.cell 0)) (by rw [he]; rfl)
        exact iteT ⟨_, rfl, _, C, _, _, _, rfl, pl2.ins, cPlain.cls, cPlain.n_bytes, rfl, _, rfl, A.B, _, _, _, rfl, rfl, SqL.of pl2.byt, atN rfl (nums_at (by omega)), A.E, _, _, rfl, rfl, pl2.eld, el, _, rfl, _, rfl, _, C, _, _, _, rfl, e1a, cPlain.cls, cPlain.n_bytes, rfl, _, rfl, A.B, _, _, r.rw.cell, rfl, rfl, e2a, ixN_of (by rw [nums_len]; omega), k2.trans k3a, pl3, _, _, _, _, _, rfl⟩
      | false =>
        rw [hw] at he
        obtain ⟨e1a, e2a, k3a, pl3⟩ := pl2.told hrow (ev := .non) (by rw [he]; rfl)
        exact iteF ⟨A.E, _, _, rfl, rfl, pl2.eld, el, _, rfl, _, rfl, _, C, _, _, _, rfl, e1a, cPlain.cls, cPlain.n_bytes, rfl, _, rfl, A.B, _, _, r.rw.cell, rfl, rfl, e2a, ixN_of (by rw [nums_len]; omega), k2.trans k3a, pl3, _, _, _, _, _, rfl⟩
    · obtain ⟨k2, pl2, v4, v5, v6, v7, v8, rfl⟩ := h
      have ej : k + fv.length = min (k + n) (rowsOf m p).length := by rw [fl, nl]; omega
      rw [ej] at pl2
      exact ⟨_, rfl, q H2 L fv ((k1.more (by simp)).trans k2.two) n1 (k2.keep _ _ e1 (by simp [nLE A.B (by simp [PlA.own]), nLE A.E (by simp [PlA.own])])) (tF.kp k2) pl2⟩
abbrev N_Plain_go : List Str := ["self", "many"]
theorem sc_Plain_go : FnScope N_Plain_go ["self", "many"] (defScope s_Plain_go) := ⟨rfl, rfl, rfl, by decide +kernel, rfl, by decide +kernel, by decide +kernel⟩
theorem ok_Plain_go {dvs : List V} (T : Txt K mg) (cPlain : PlC K C) (F : FunD K "go" "Plain.go" (defArgs s_Plain_go) (defBody s_Plain_go) (defScope s_Plain_go) dvs [] f fd) (D_need_many : Cal P w K mg base 2 "need_many" ["many"] sp_need_many)
    (M_Plain_gone_on : Met P w K mg base C 1 "gone_on" ["self", "many"] (sp_go C)) : FnOk P w K mg base CX0 3 f fd ["self", "many"] (sp_go C) := by
  refine FunD.ok F sc_Plain_go (fun vs H Q E h => ?_) (fun cdv AA outer s H vs Q E hr h => ?_)
  · obtain ⟨A, m, p, k, n, rfl, _⟩ := h
    rfl
  · obtain ⟨A, m, p, k, n, rfl, pl, hn, q⟩ := h
    refine ⟨_, PSs.nox (pss_cons (ps_expr (pc D_need_many hr (pa_cons (pv 1) pa_nil)))
      (pss_one (ps_ret (pm (pv 0) cPlain.cls M_Plain_gone_on hr (pa_cons (pv 1) pa_nil))))), ?_⟩
    exact ⟨_, rfl, n, rfl, hn, _, rfl, A.a, _, _, rfl, pl.ins, rfl, _, rfl, A, m, p, k, n, rfl, pl, hn, q⟩
abbrev N_Plain_gone : List Str := ["self"]
theorem sc_Plain_gone : FnScope N_Plain_gone ["self"] (defScope s_Plain_gone) := ⟨rfl, rfl, rfl, by decide +kernel, rfl, by decide +kernel, by decide +kernel⟩
def sp_gone (C : Addr) : Sp := fun vs H Q _ => ∃ (A : PlA) (m : List Nat) (p : List Ded) (k : Nat), vs = [.ref A.a] ∧ PlAt C H A m p k ∧ Q (vi k) H
theorem ok_Plain_gone (T : Txt K mg) (cPlain : PlC K C) (F : Fd K "gone" "Plain.gone" s_Plain_gone f fd) : FnOk P w K mg base CX0 1 f fd ["self"] (sp_gone C) := by
  refine FunD.ok F sc_Plain_gone (fun vs H Q E h => ?_) (fun cdv AA outer s H vs Q E hr h => ?_)
  · obtain ⟨A, m, p, k, rfl, _⟩ := h
    rfl
  · obtain ⟨A, m, p, k, rfl, pl, q⟩ := h
    refine ⟨_, PSs.nox (pss_one (ps_ret (pe_callB call_len_seq (by rfl) T.b_len PySem.boot_len (pa_cons (pe_fld (pv 0) rfl) pa_nil)))), ?_⟩
    refine ⟨_, rfl, _, C, _, _, _, rfl, pl.ins, cPlain.cls, cPlain.n_elders, rfl, A.E, _, rfl, .inl (SqL.of pl.eld), ?_⟩
    rw [eldersV_len]
    exact q
abbrev N_Plain_is_over : List Str := ["self"]
theorem sc_Plain_is_over : FnScope N_Plain_is_over ["self"] (defScope s_Plain_is_over) := ⟨rfl, rfl, rfl, by decide +kernel, rfl, by decide +kernel, by decide +kernel⟩
def sp_is_over (C : Addr) : Sp := fun vs H Q _ => ∃ (A : PlA) (m : List Nat) (p : List Ded) (k : Nat), vs = [.ref A.a] ∧ PlAt C H A m p k ∧ Q (.bl (decide (k = (rowsOf m p).length))) H
theorem ok_Plain_is_over (T : Txt K mg) (cPlain : PlC K C) (F : Fd K "is_over" "Plain.is_over" s_Plain_is_over f fd) : FnOk P w K mg base CX0 1 f fd ["self"] (sp_is_over C) := by
  refine FunD.ok F sc_Plain_is_over (fun vs H Q E h => ?_) (fun cdv AA outer s H vs Q E hr h => ?_)
  · obtain ⟨A, m, p, k, rfl, _⟩ := h
    rfl
  · obtain ⟨A, m, p, k, rfl, pl, q⟩ := h
    obtain ⟨rvs, eR, tR⟩ := pl.row
    have rl : rvs.length = (rowsOf m p).length := by rw [tR.1, List.length_map]
    refine ⟨_, PSs.nox (pss_one (ps_ret (pe_cmpR op_eq (pe_callB call_len_seq (by rfl) T.b_len PySem.boot_len (pa_cons (pe_fld (pv 0) rfl) pa_nil)) (pe_callB call_len_seq (by rfl) T.b_len PySem.boot_len (pa_cons (pe_fld (pv 0) rfl) pa_nil)) (nomark _)))), ?_⟩
    refine ⟨_, rfl, _, C, _, _, _, rfl, pl.ins, cPlain.cls, cPlain.n_elders, rfl, A.E, _, rfl, .inl (SqL.of pl.eld), ?_⟩
    rw [eldersV_len]
    refine ⟨_, rfl, _, C, _, _, _, rfl, pl.ins, cPlain.cls, cPlain.n_rows, rfl, A.R, _, rfl, .inl (SqL.of eR), rfl, ?_⟩
    rw [rl]
    have : decide (V.int (k : Nat) = V.int ((rowsOf m p).length : Nat)) = decide (k = (rowsOf m p).length) := by
      rw [decide_eq_decide]
      constructor
      · intro h
        have := V.int.inj h
        omega
      · intro h
        rw [h]
    show Q (.bl (decide (V.int (k : Nat) = V.int ((rowsOf m p).length : Nat)))) H
    rw [this]
    exact q
abbrev N_Plain_memory : List Str := ["self"]
theorem sc_Plain_memory : FnScope N_Plain_memory ["self"] (defScope s_Plain_memory) := ⟨rfl, rfl, rfl, by decide +kernel, rfl, by decide +kernel, by decide +kernel⟩
def sp_memory (C : Addr) : Sp := fun vs H Q _ => ∃ (A : PlA) (m : List Nat) (p : List Ded) (k : Nat), vs = [.ref A.a] ∧ PlAt C H A m p k ∧ ∀ H' v, Kp [] H H' → TD H' v (memD (bytesAt m (rowsOf m p) k)) → Q v H'
theorem tds_nums {H : Hp} (ns : List Nat) : TDs H (nums ns) (ns.map dN) := by
  have := TDs.ints (H := H) (ns.map fun n : Nat => (n : Int))
  rw [List.map_map, List.map_map] at this
  exact this
theorem ok_Plain_memory (T : Txt K mg) (cPlain : PlC K C) (F : Fd K "memory" "Plain.memory" s_Plain_memory f fd) : FnOk P w K mg base CX0 1 f fd ["self"] (sp_memory C) := by
  refine FunD.ok F sc_Plain_memory (fun vs H Q E h => ?_) (fun cdv AA outer s H vs Q E hr h => ?_)
  · obtain ⟨A, m, p, k, rfl, _⟩ := h
    rfl
  · obtain ⟨A, m, p, k, rfl, pl, q⟩ := h
    refine ⟨_, PSs.nox (pss_one (ps_ret (pe_callTy call_tupleK (by rfl) T.b_tuple (by decide +kernel) (pa_cons (pe_fld (pv 0) rfl) pa_nil)))), ?_⟩
    exact ⟨_, rfl, _, C, _, _, _, rfl, pl.ins, cPlain.cls, cPlain.n_bytes, rfl, A.B, _, rfl, SqL.of pl.byt, fun T1 H1 k1 n1 e1 => q _ _ k1 (TDs.tup e1 (tds_nums _))⟩
abbrev N_Plain_len : List Str := ["self"]
theorem sc_Plain_len : FnScope N_Plain_len ["self"] (defScope s_Plain_len) := ⟨rfl, rfl, rfl, by decide +kernel, rfl, by decide +kernel, by decide +kernel⟩
def sp_plen (C : Addr) : Sp := fun vs H Q _ => ∃ (A : PlA) (m : List Nat) (p : List Ded) (k : Nat), vs = [.ref A.a] ∧ PlAt C H A m p k ∧ Q (vi (rowsOf m p).length) H
theorem ok_Plain_len (T : Txt K mg) (cPlain : PlC K C) (F : Fd K "__len__" "Plain.__len__" s_Plain_len f fd) : FnOk P w K mg base CX0 1 f fd ["self"] (sp_plen C) := by
  refine FunD.ok F sc_Plain_len (fun vs H Q E h => ?_) (fun cdv AA outer s H vs Q E hr h => ?_)
  · obtain ⟨A, m, p, k, rfl, _⟩ := h
    rfl
  · obtain ⟨A, m, p, k, rfl, pl, q⟩ := h
    obtain ⟨rvs, eR, tR⟩ := pl.row
    have rl : rvs.length = (rowsOf m p).length := by rw [tR.1, List.length_map]
    refine ⟨_, PSs.nox (pss_one (ps_ret (pe_callB call_len_seq (by rfl) T.b_len PySem.boot_len (pa_cons (pe_fld (pv 0) rfl) pa_nil)))), ?_⟩
    refine ⟨_, rfl, _, C, _, _, _, rfl, pl.ins, cPlain.cls, cPlain.n_rows, rfl, A.R, _, rfl, .inl (SqL.of eR), ?_⟩
    rw [rl]
    exact q
end
end L2.K14
set_option Elab.async false
set_option linter.all false
set_option maxRecDepth 100000
set_option maxHeartbeats 4000000
set_option pp.maxSteps 600
/-! a Plain: backs, peeks, twins, ==, repr -/
namespace L2.K14
open PySem PySem.Spec PyProof.Rows
def backR (rows : List Row) (k c : Nat) : List Row := ((rows.take k).drop c).reverse
theorem backR_all (rows : List Row) (k : Nat) : backR rows k k = [] := by
  unfold backR
  rw [List.drop_eq_nil_of_le (by rw [List.length_take]; omega)]
  rfl
theorem backR_step {rows : List Row} {k c : Nat} {r : Row} (hc : c < k) (h : rows[c]? = some r) : backR rows k c = backR rows k (c + 1) ++ [r] := by
  unfold backR
  have e : (rows.take k)[c]? = some r := by rw [List.getElem?_take_of_lt hc]; exact h
  have hl : c < (rows.take k).length := (List.getElem?_eq_some_iff.mp e).1
  have hg : (rows.take k)[c] = r := (List.getElem?_eq_some_iff.mp e).2
  rw [List.drop_eq_getElem_cons hl, List.reverse_cons, hg]
theorem backR_len {rows : List Row} {k c : Nat} (hk : k ≤ rows.length) : (backR rows k c).length = k - c := by
  unfold backR
  rw [List.length_reverse, List.length_drop, List.length_take]
  omega
def isNonR : R2 := fun x y H Q => y = .non ∧ Q (.bl (decide (x = .non))) H
def oD : Option Nat → PyData
  | none => .none
  | some n => dN n
theorem elders_dp {K : PySem.W.Frag} {H : Hp} (m : List Nat) (rows : List Row) : ∀ l : List Nat, DpAll K H (l.map fun i => oV (elder m rows i)) (l.map fun i => oD (elder m rows i))
  | [] => .nil
  | i :: l => .cons (by
    show Dp K H (oV (elder m rows i)) (oD (elder m rows i))
    cases elder m rows i with
    | none => exact .non
    | some n => exact .int _) (elders_dp m rows l)
theorem elders_shp (m : List Nat) (rows : List Row) (l : List Nat) : SeqAt.shaped (.list (l.map fun i => oD (elder m rows i))) = true := by
  refine Shp.shaped (n := 2) (.list fun d hd => ?_)
  obtain ⟨i, _, rfl⟩ := List.mem_map.mp hd
  cases elder m rows i with
  | none => exact .non
  | some n => exact .int _
theorem eldersV_last (m : List Nat) (rows : List Row) (c : Nat) : (eldersV m rows (c + 1))[(eldersV m rows (c + 1)).length - 1]? = some (oV (elder m rows c)) ∧ (eldersV m rows (c + 1)).dropLast = eldersV m rows c := by
  rw [eldersV_len, eldersV_succ]
  constructor
  · rw [List.getElem?_append_right (by rw [eldersV_len]; omega), eldersV_len]
    simp
  · simp
section
variable {P : Program} {w : World} {K : PySem.W.Frag} {mg : Str → Option Value} {base : Heap} {f : Addr} {fd : FuncData} {C CC : Addr}
abbrev N_Plain_back : List Str := ["self", "many", "found", "elder", "row"]
theorem sc_Plain_back : FnScope N_Plain_back ["self", "many"] (defScope s_Plain_back) := ⟨rfl, rfl, rfl, by decide +kernel, rfl, by decide +kernel, by decide +kernel⟩
def sp_back (C : Addr) : Sp := fun vs H Q _ => ∃ (A : PlA) (m : List Nat) (p : List Ded) (k n : Nat), vs = [.ref A.a, vi n] ∧ PlAt C H A m p k ∧ n ≤ 100000 ∧
  ∀ (H' : Hp) (L : Addr) (xs : List V), Kp A.own H H' → H L = none → H' L = some (.lst xs) → TDs H' xs ((backR (rowsOf m p) k (k - n)).map Row.d) → PlAt C H' A m p (k - n) → Q (.ref L) H'
theorem ok_Plain_back {dvs : List V} (T : Txt K mg) (cPlain : PlC K C) (F : FunD K "back" "Plain.back" (defArgs s_Plain_back) (defBody s_Plain_back) (defScope s_Plain_back) dvs [] f fd) (D_need_many : Cal P w K mg base 2 "need_many" ["many"] sp_need_many) :
    FnOk P w K mg base CX0 3 f fd ["self", "many"] (sp_back C) := by
  refine FunD.ok F sc_Plain_back (fun vs H Q E h => ?_) (fun cdv AA outer s H vs Q E hr h => ?_)
  · obtain ⟨A, m, p, k, n, rfl, _⟩ := h
    rfl
  · obtain ⟨A, m, p, k, n, rfl, pl, hn, q⟩ := h
    obtain ⟨a1, a2, a3, b1, b2, c1⟩ := PlA.nds pl.nd
    have rl4 := rows_len pl.sok
    have kle := pl.kle
    refine ⟨_, PSs.nox (pss_cons (ps_expr (pc D_need_many hr (pa_cons (pv 1) pa_nil)))
      (pss_cons (ps_set (i := 2) sc_Plain_back.nd rfl (Or.inl rfl) (pe_lstK pa_nil))
      (pss_cons (ps_while PassesOwn.never (PW.pt (pw_and (pt_cmpR op_lt (pe_callB call_len_seq (by rfl) T.b_len PySem.boot_len (pa_cons (pv 2) pa_nil)) (pv 1) (nomark _)) (pw_and1 (pt_cmpR (op_neD hr.units) (pe_fld (pv 0) rfl) (pe_lstK pa_nil) (nomark _))))) (pss_cons (ps_set (i := 3) sc_Plain_back.nd rfl (Or.inl rfl) (pe_bm0 PySem.F.plainAttrs_list PySem.F.slot_list_pop PySem.F.type_list_pop mt_pop (pe_fld (pv 0) rfl)))
      (pss_cons (ps_set (i := 4) sc_Plain_back.nd rfl (Or.inl rfl) (pe_ix ix_list (pe_fld (pv 0) rfl) (pe_callB call_len_seq (by rfl) T.b_len PySem.boot_len (pa_cons (pe_fld (pv 0) rfl) pa_nil)) (fun _ _ => rfl)))
      (pss_cons (ps_if (pt_cmpR op_notN (pv 3) pe_non (nomark _)) (pss_one (ps_asg (pv 3) (pg_sub (pe_fld (pv 0) rfl) (pe_ix ix_tup (pv 4) pe_int (fun _ _ => rfl)) set_list))) pss_nil)
      (pss_one (ps_expr (pe_bm PySem.F.plainAttrs_list PySem.F.slot_list_append PySem.F.type_list_append mt_append (pv 2) (pa_cons (pv 4) pa_nil))))))))
      (pss_one (ps_ret (pv 2)))))), ?_⟩
    refine ⟨_, rfl, n, rfl, hn, sz 0, fun L H1 k1 n1 e1 => ?_⟩
    have pl1 := pl.kp0 k1
    have nLE : ∀ b ∈ A.own, L ≠ b := fun b hb z => by
      obtain ⟨rvs, eR, _⟩ := pl.row
      simp only [PlA.own, List.mem_cons, List.mem_nil_iff, or_false] at hb
      rw [z] at n1
      rcases hb with rfl | rfl | rfl | rfl
      · rw [pl.ins] at n1; cases n1
      · rw [eR] at n1; cases n1
      · rw [pl.byt] at n1; cases n1
      · rw [pl.eld] at n1; cases n1
    have nLB := nLE A.B (by simp [PlA.own])
    have nLA := nLE A.E (by simp [PlA.own])
    have nLa := nLE A.a (by simp [PlA.own])
    have nLR := nLE A.R (by simp [PlA.own])
    refine ⟨fun c σ H' => c ≤ k ∧ k - c ≤ n ∧ Kp [A.B, A.E, L] H1 H' ∧ PlAt C H' A m p c ∧ (∃ xs, H' L = some (.lst xs) ∧ TDs H' xs ((backR (rowsOf m p) k c).map Row.d)) ∧ ∃ v3 v4, σ = [some (.ref A.a), some (vi n), some (.ref L), v3, v4],
      ⟨k, Nat.le_refl _, by omega, Kp.refl _, pl1, ⟨[], e1, by rw [backR_all]; exact TDs.nil⟩, none, none, rfl⟩, fun c σ H2 h => ?_⟩
    obtain ⟨ck, cn, k2, pl2, ⟨xs, eL, tL⟩, v3, v4, rfl⟩ := h
    have xl : xs.length = k - c := by rw [tL.1, List.length_map, backR_len kle]
    refine ⟨_, rfl, L, _, rfl, .inl (SqL.of eL), _, rfl, _, _, rfl, rfl, _, rfl, ?_⟩
    rw [xl]
    have fin : ∀ H3, Kp [] H2 H3 → c = k - n → Q (.ref L) H3 := fun H3 k3 e => by
      subst e
      have kA : Kp (L :: A.own) H H3 := ((k1.more (by simp)).trans (k2.more (by simp [PlA.own]))).trans (k3.more (by simp))
      exact q H3 L xs (Kp.drop kA n1) n1 (k3.same _ _ eL) (tL.kp k3) (pl2.kp0 k3)
    by_cases h1 : ((k - c : Nat) : Int) < (n : Int)
    · refine iteDT h1 ⟨_, rfl, _, C, _, _, _, rfl, pl2.ins, cPlain.cls, cPlain.n_elders, rfl, sz 0, fun p3 H3 k3 n3 e3 => ?_⟩
      refine ⟨_, _, .lst (SqL.of (k3.same _ _ pl2.eld)) (elders_dp m _ (List.range c)), dp_nil e3, elders_shp m _ _, shp_nil, _, rfl, ?_⟩
      cases c with
      | zero =>
        exact iteBF (show (!PyData.eqv (.list []) (.list [])) = false by decide +kernel) ⟨_, rfl, fin H3 k3 (by omega)⟩
      | succ c =>
        have hne : (!PyData.eqv (.list ((List.range (c + 1)).map fun i => oD (elder m (rowsOf m p) i))) (.list [])) = true := by
          rw [List.range_succ_eq_map]
          simp [PyData.eqv, PyData.eqvAll]
        refine iteBT hne ?_
        have kleR := pl2.kle
        obtain ⟨rvs, eR, tR⟩ := pl2.row
        have hc : (rowsOf m p)[c]? = some (rowsOf m p)[c] := List.getElem?_eq_getElem (by omega)
        generalize (rowsOf m p)[c] = r at hc
        obtain ⟨cl, cb⟩ := rows_cell pl2.mok pl2.sok (List.mem_of_getElem? hc)
        obtain ⟨rv, hrv, td⟩ := tR.at (i := c) (d := r.d) (by rw [List.getElem?_map, hc]; rfl)
        have bl := bytesAt_len m (rowsOf m p) (c + 1)
        have hbk := bytes_back pl2.mok pl2.sok hc
        obtain ⟨el1, el2⟩ := eldersV_last m (rowsOf m p) c
        have eld3 := k3.same _ _ pl2.eld
        have ins3 := k3.same _ _ pl2.ins
        have byt3 := k3.same _ _ pl2.byt
        have eR3 := k3.same _ _ eR
        have eL3 := k3.same _ _ eL
        obtain ⟨u, sp, rfl, hu, _⟩ := (td.kp k3).row
        refine ⟨fun σ' H' => ∃ c', c' < c + 1 ∧ c' ≤ k ∧ k - c' ≤ n ∧ Kp [A.B, A.E, L] H1 H' ∧ PlAt C H' A m p c' ∧ (∃ xs, H' L = some (.lst xs) ∧ TDs H' xs ((backR (rowsOf m p) k c').map Row.d)) ∧ ∃ v3 v4, σ' = [some (.ref A.a), some (vi n), some (.ref L), v3, v4], fun σ' H' h => ?_, ?_⟩
        · obtain ⟨c', z, r⟩ := h
          exact ⟨c', z, r⟩
        refine ⟨_, rfl, _, C, _, _, _, rfl, ins3, cPlain.cls, cPlain.n_elders, rfl, .inl ⟨rfl, _, SqL.of eld3⟩, A.E, _, _, rfl, rfl, eld3, el1, ?_⟩
        rw [el2]
        have kE : Kp [A.B, A.E, L] H3 (upd H3 A.E (.lst (eldersV m (rowsOf m p) c))) := Kp.put eld3 (by simp) (by simp)
        have i4 := (upd_ne (H := H3) (o := .lst (eldersV m (rowsOf m p) c)) a3).trans ins3
        have r4 := (upd_ne (H := H3) (o := .lst (eldersV m (rowsOf m p) c)) b2).trans eR3
        have b4 := (upd_ne (H := H3) (o := .lst (eldersV m (rowsOf m p) c)) c1).trans byt3
        have l4 := (upd_ne (H := H3) (o := .lst (eldersV m (rowsOf m p) c)) nLA).trans eL3
        have e4 : upd H3 A.E (.lst (eldersV m (rowsOf m p) c)) A.E = some (.lst (eldersV m (rowsOf m p) c)) := upd_same
        have u4 := kE.tups _ _ hu
        revert kE i4 r4 b4 l4 e4 u4
        generalize upd H3 A.E (.lst (eldersV m (rowsOf m p) c)) = H4
        intro kE i4 r4 b4 l4 e4 u4
        refine ⟨_, rfl, _, C, _, _, _, rfl, i4, cPlain.cls, cPlain.n_rows, rfl, _, rfl, _, C, _, _, _, rfl, i4, cPlain.cls, cPlain.n_elders, rfl, A.E, _, rfl, .inl (SqL.of e4), ?_⟩
        rw [eldersV_len]
        refine ⟨A.R, _, _, _, rfl, rfl, SqL.of r4, atN rfl hrv, ?_⟩
        have k14 : Kp [A.B, A.E, L] H1 H4 := (k2.trans (k3.more (by simp))).trans kE
        have ll : xs.length < sizeLine := Nat.lt_of_le_of_lt (show xs.length ≤ 1000 by omega) (by decide)
        have last : ∀ H5, Kp [A.B, A.E, L] H4 H5 → PlAt C H5 A m p c → H5 L = some (.lst xs) → Kp [A.B, A.E, L] H1 (upd H5 L (.lst (xs ++ [.ref u]))) ∧ PlAt C (upd H5 L (.lst (xs ++ [.ref u]))) A m p c ∧
            (∃ xs', upd H5 L (.lst (xs ++ [.ref u])) L = some (.lst xs') ∧ TDs (upd H5 L (.lst (xs ++ [.ref u]))) xs' ((backR (rowsOf m p) k c).map Row.d)) := fun H5 k5 pl5 l5 => by
          have kL : Kp [L] H5 (upd H5 L (.lst (xs ++ [.ref u]))) := Kp.put l5 (by simp) (by simp)
          refine ⟨(k14.trans k5).trans (kL.more (by simp)), pl5.kp kL (fun b hb => by simp [(nLE b hb).symm]), _, upd_same, ?_⟩
          have kT : Kp [A.B, A.E, L] H2 (upd H5 L (.lst (xs ++ [.ref u]))) := (((k3.more (by simp)).trans kE).trans k5).trans (kL.more (by simp))
          rw [backR_step (by omega) hc, List.map_append]
          exact TDs.append (tL.kp kT) (TDs.cons (td.kp kT) TDs.nil)
        have kBE : Kp [A.B, A.E] H2 H4 → True := fun _ => trivial
        refine ⟨_, rfl, rfl, _, rfl, ?_⟩
        have pl4 : ∀ H5 bs, H5 A.B = some (.lst bs) → bs = nums (bytesAt m (rowsOf m p) c) → (H5 = H4 ∨ H5 = upd H4 A.B (.lst bs)) → PlAt C H5 A m p c := fun H5 bs hB hb h5 => by
          subst hb
          have hk : Kp [A.B, A.E, L] H2 H5 := by
            rcases h5 with rfl | rfl
            · exact (k3.more (by simp)).trans kE
            · exact ((k3.more (by simp)).trans kE).trans (Kp.put b4 (by simp) (by simp))
          have hE : H5 A.E = some (.lst (eldersV m (rowsOf m p) c)) := by
            rcases h5 with rfl | rfl
            · exact e4
            · rw [upd_ne c1.symm]; exact e4
          have hI : H5 A.a = some (.ins C A.dx (plFs A)) := by
            rcases h5 with rfl | rfl
            · exact i4
            · rw [upd_ne a2]; exact i4
          have hR : H5 A.R = some (.lst rvs) := by
            rcases h5 with rfl | rfl
            · exact r4
            · rw [upd_ne b1]; exact r4
          exact ⟨pl2.mok, pl2.sok, pl2.nd, hI, pl2.asked.kp hk, ⟨rvs, hR, tR.kp hk⟩, hB, hE, by omega⟩
        cases he : elder m (rowsOf m p) c with
        | some e =>
          rw [he] at hbk
          refine iteBT rfl ?_
          refine ⟨_, rfl, _, rfl, _, C, _, _, _, rfl, i4, cPlain.cls, cPlain.n_bytes, rfl, _, rfl, u, _, 3, _, rfl, rfl, SqT.of u4, atN (n := 3) rfl rfl, A.B, _, _, r.rw.cell, rfl, rfl, b4, ixN_of (by rw [nums_len]; omega), ?_⟩
          have hset : (nums (bytesAt m (rowsOf m p) (c + 1))).set r.rw.cell (vi e) = nums (bytesAt m (rowsOf m p) c) := by rw [nums_set]; exact congrArg nums hbk
          have l5 := (upd_ne (H := H4) (o := .lst ((nums (bytesAt m (rowsOf m p) (c + 1))).set r.rw.cell (vi e))) nLB).trans l4
          obtain ⟨z1, z2, z3⟩ := last _ (Kp.put b4 (by simp) (by simp)) (pl4 _ _ upd_same hset (.inr rfl)) l5
          exact ⟨_, rfl, .inl ⟨rfl, _, SqL.of l5⟩, _, rfl, L, _, _, rfl, rfl, l5, ll, c, Nat.lt_succ_self c, by omega, by omega, z1, z2, z3, _, _, rfl⟩
        | none =>
          rw [he] at hbk
          refine iteBF rfl ?_
          obtain ⟨z1, z2, z3⟩ := last H4 (Kp.refl _) (pl4 H4 _ b4 (congrArg nums hbk) (.inl rfl)) l4
          exact ⟨_, rfl, .inl ⟨rfl, _, SqL.of l4⟩, _, rfl, L, _, _, rfl, rfl, l4, ll, c, Nat.lt_succ_self c, by omega, by omega, z1, z2, z3, _, _, rfl⟩
    · refine iteDF h1 ?_
      exact ⟨_, rfl, fin H2 (Kp.refl _) (by omega)⟩
abbrev N_Plain_peeks : List Str := ["self", "rows", "spot", "part", "way", "cell", "byte"]
theorem sc_Plain_peeks : FnScope N_Plain_peeks ["self"] (defScope s_Plain_peeks) := ⟨rfl, rfl, rfl, by decide +kernel, rfl, by decide +kernel, by decide +kernel⟩
def sp_peeks (C : Addr) : Sp := fun vs H Q _ => ∃ (A : PlA) (m : List Nat) (p : List Ded) (k : Nat), vs = [.ref A.a] ∧ PlAt C H A m p k ∧ ∀ H' v, Kp [] H H' → TD H' v (memD (peeksOf ((rowsOf m p).take k))) → Q v H'
theorem peeksOf_snoc (l : List Row) (r : Row) : peeksOf (l ++ [r]) = peeksOf l ++ (if peekOf r = true then [r.rw.byte] else []) := by
  unfold peeksOf
  rw [List.filter_append, List.map_append]
  cases h : peekOf r with
  | true => simp [List.filter, h]
  | false => simp [List.filter, h]
theorem TD.spot {H : Hp} {v : V} {s : Spot} (h : TD H v s.d) : ∃ u z, v = .ref u ∧ H u = some (.tup [vi s.place, z]) ∧ decide (z = .non) = s.num.isNone := by
  obtain ⟨u, xs, rfl, hu, h⟩ := TD.inv (ds := [dN s.place, match s.num with | none => .none | some k => dN k]) h
  obtain ⟨x0, xs, rfl, h0, h⟩ := h.inv
  obtain ⟨x1, xs, rfl, h1, h⟩ := h.inv
  obtain rfl := h.inv0
  obtain rfl := h0.inv_int
  refine ⟨u, x1, rfl, hu, ?_⟩
  cases e : s.num with
  | none =>
    rw [e] at h1
    cases h1
    rfl
  | some k =>
    rw [e] at h1
    obtain rfl := TD.inv_int h1
    rfl
theorem ok_Plain_peeks (T : Txt K mg) (cPlain : PlC K C) (F : Fd K "peeks" "Plain.peeks" s_Plain_peeks f fd) : FnOk P w K mg base CX0 1 f fd ["self"] (sp_peeks C) := by
  refine FunD.ok F sc_Plain_peeks (fun vs H Q E h => ?_) (fun cdv AA outer s H vs Q E hr h => ?_)
  · obtain ⟨A, m, p, k, rfl, _⟩ := h
    rfl
  · obtain ⟨A, m, p, k, rfl, pl, q⟩ := h
    obtain ⟨rvs, eR, tR⟩ := pl.row
    have rl4 := rows_len pl.sok
    have kle := pl.kle
    refine ⟨_, PSs.nox (pss_cons (ps_set (i := 1) sc_Plain_peeks.nd rfl (Or.inl rfl) (pe_slice sl_listK (pe_fld (pv 0) rfl) po_none (po_some (pe_callB call_len_seq (by rfl) T.b_len PySem.boot_len (pa_cons (pe_fld (pv 0) rfl) pa_nil)))))
      (pss_one (ps_ret (pe_callTy call_tupleK (by rfl) T.b_tuple (by decide +kernel) (pa_cons (pe_lc (own := [("spot", 2), ("part", 3), ("way", 4), ("cell", 5), ("byte", 6)]) (g := (gTup K 5 (gCons (gName 2) (gCons (gName 3) (gCons (gName 4) (gCons (gName 5) (gCons (gName 6) gNil))))))) (tt := (tAnd (tTest (tOp isNonR (tOp (rIxT K) (tVar 2) (tC (.int 1))) (tC .non))) (tTest (tOp rEq (tVar 4) (tC (.str "r")))))) rfl sc_Plain_peeks.nd (pi_list (pv 1)) (blkOk_by (N := N_Plain_peeks) (sc := defScope s_Plain_peeks) (by decide +kernel)) (fun _ _ _ _ _ => (pg_tup rfl (pgs_cons (pg_name (i := 2) sc_Plain_peeks.nd rfl (Or.inl rfl)) (pgs_cons (pg_name (i := 3) sc_Plain_peeks.nd rfl (Or.inl rfl)) (pgs_cons (pg_name (i := 4) sc_Plain_peeks.nd rfl (Or.inl rfl)) (pgs_cons (pg_name (i := 5) sc_Plain_peeks.nd rfl (Or.inl rfl)) (pgs_cons (pg_name (i := 6) sc_Plain_peeks.nd rfl (Or.inl rfl)) pgs_nil))))))) (fun _ _ _ _ _ => (pts_one (PW.pt (pw_and (pt_cmpR op_isN (pe_ix ix_tup (pv 2) pe_int (fun _ _ => rfl)) pe_non (nomark _)) (pw_and1 (pt_cmpR op_eq (pv 4) (pk T.c_READ) (nomark _))))))) (fun _ _ _ _ _ => (pv 6))) pa_nil))))), ?_⟩
    refine ⟨_, rfl, _, C, _, _, _, rfl, pl.ins, cPlain.cls, cPlain.n_rows, rfl, _, rfl, _, C, _, _, _, rfl, pl.ins, cPlain.cls, cPlain.n_elders, rfl, A.E, _, rfl, .inl (SqL.of pl.eld), ?_⟩
    rw [eldersV_len]
    refine ⟨_, rfl, A.R, _, rfl, SqL.of eR, fun L H1 k1 n1 e1 => ?_⟩
    rw [cut_to] at e1
    have tF : TDs H1 (rvs.take k) (((rowsOf m p).take k).map Row.d) := by
      have := (tR.kp k1).take k
      rw [← List.map_take] at this
      exact this
    have fl : (rvs.take k).length = k := by rw [tF.1, List.length_map, List.length_take]; omega
    generalize rvs.take k = fv at e1 tF fl
    have kl : ((rowsOf m p).take k).length = k := by rw [List.length_take]; omega
    generalize (rowsOf m p).take k = rows at q tF kl
    refine ⟨_, rfl, L, rfl, ⟨_, SqL.of e1⟩, fun D hD => ?_⟩
    refine lc_pure (walk_list (xs := fv)) (fun i acc _ => acc.length ≤ i ∧ acc = nums (peeksOf (rows.take i))) hD (fun i acc => stb_pure _) ⟨Nat.zero_le _, rfl⟩ (fun H' k => SqL.of (k.same _ _ e1)) YAt.kp (fun i acc H' hi x => by omega) (fun i x H2 H3 acc hi k2 x0 y N S hN hS => ?_) (fun H2 acc k2 e2 x0 => ?_)
    · obtain ⟨rfl, hx⟩ := y
      obtain ⟨r, hr, td⟩ := tF.nth hx
      obtain ⟨u, sp, rfl, hu, hsp⟩ := (td.kp k2).row
      obtain ⟨us, z, rfl, hus, hz⟩ := hsp.spot
      obtain ⟨x1, x2⟩ := x0
      have hstep := peeksOf_snoc (rows.take i) r
      rw [← take_snoc hr] at hstep
      refine ⟨u, _, rfl, SqT.of hu, rfl, _, _, rfl, _, _, rfl, _, _, rfl, _, _, rfl, _, _, rfl, rfl, rfl, ?_⟩
      refine ⟨_, rfl, us, _, 1, z, rfl, rfl, SqT.of hus, atN (n := 1) rfl rfl, rfl, _, rfl, ?_⟩
      rw [hz]
      cases h1 : r.spot.num.isNone with
      | false =>
        have hp : peekOf r = false := by unfold peekOf; rw [h1]; rfl
        rw [hp] at hstep
        exact iteF (hS _ (Kp.refl _) ⟨by omega, by rw [x2, hstep]; simp⟩)
      | true =>
        refine iteT ⟨_, rfl, rfl, _, rfl, ?_⟩
        rw [way_r]
        cases h2 : r.rw.wr with
        | true =>
          have hp : peekOf r = false := by unfold peekOf; rw [h1, h2]; rfl
          rw [hp] at hstep
          exact iteF (hS _ (Kp.refl _) ⟨by omega, by rw [x2, hstep]; simp⟩)
        | false =>
          have hp : peekOf r = true := by unfold peekOf; rw [h1, h2]; rfl
          rw [hp] at hstep
          refine iteT ⟨_, rfl, hN _ _ (Kp.refl _) ⟨by simp; exact x1, ?_⟩⟩
          rw [x2, hstep, if_pos rfl, nums_app]
          rfl
    · obtain ⟨x1, x2⟩ := x0
      rw [fl, List.take_of_length_le (by omega)] at x2
      exact ⟨D, _, rfl, SqL.of e2, fun T1 H3 k3 n3 e3 => q _ _ ((k1.trans k2).trans k3) (TDs.tup e3 (by rw [x2]; exact tds_nums _))⟩
abbrev N_Plain_plain_twin : List Str := ["self", "memory", "program", "found"]
theorem sc_Plain_plain_twin : FnScope N_Plain_plain_twin ["self"] (defScope s_Plain_plain_twin) := ⟨rfl, rfl, rfl, by decide +kernel, rfl, by decide +kernel, by decide +kernel⟩
def sp_twin (C : Addr) : Sp := fun vs H Q _ => ∃ (A : PlA) (m : List Nat) (p : List Ded) (k : Nat), vs = [.ref A.a] ∧ PlAt C H A m p k ∧ ∀ (H' : Hp) (B : PlA), Kp [] H H' → (∀ b ∈ B.own, H b = none) → PlAt C H' B m p k → Q (.ref B.a) H'
/-- what Plain(memory, program) gives -/
theorem plain_made {C : Addr} {H : Hp} {m : List Nat} {p : List Ded} {Q : VK} {v u : V} (hv : TD H v (memD m)) (hu : TD H u (sheetD p)) (mok : MemOk m) (sok : SheetOk m.length p)
    (q : ∀ (H' : Hp) (B : PlA), Kp [] H H' → (∀ b ∈ B.own, H b = none) → PlAt C H' B m p 0 → Q (.ref B.a) H') :
    ∀ x dx, H x = none → H dx = none → dx ≠ x → sp_Plain_init C [.ref x, v, u] (upd (upd H dx (.own x)) x (.ins C dx [])) (fun z H2 => z = .non ∧ Q (.ref x) H2) E0 := by
  intro x dx nx ndx ne
  have k1 : Kp [] H (upd (upd H dx (.own x)) x (.ins C dx [])) := (Kp.new ndx).trans (Kp.new (by rw [upd_ne ne.symm]; exact nx))
  have e1 : upd (upd H dx (.own x)) x (.ins C dx []) x = some (.ins C dx []) := upd_same
  revert k1 e1
  generalize upd (upd H dx (.own x)) x (.ins C dx []) = H1
  intro k1 e1
  refine ⟨x, dx, v, u, m, p, rfl, e1, hv.kp k1, hu.kp k1, mok, sok, fun H2 A a1 a2 k2 pl2 f1 f2 f3 => ⟨rfl, ?_⟩⟩
  have own : ∀ b ∈ A.own, H b = none := fun b hb => by
    simp only [PlA.own, List.mem_cons, List.mem_nil_iff, or_false] at hb
    rcases hb with rfl | rfl | rfl | rfl
    · rw [a1]; exact nx
    · exact k1.free f1
    · exact k1.free f2
    · exact k1.free f3
  subst a1
  exact q H2 A (Kp.drop ((k1.more (by simp)).trans k2) nx) own pl2
/-- Plain(memory, program) -/
def tPlain (C : Addr) (t : TA) : TE := fun σ H Q => t σ H fun vs H1 => ∃ v u m p, vs = [v, u] ∧ TD H1 v (memD m) ∧ TD H1 u (sheetD p) ∧ MemOk m ∧ SheetOk m.length p ∧
  ∀ (H' : Hp) (B : PlA), Kp [] H1 H' → (∀ b ∈ B.own, H1 b = none) → PlAt C H' B m p 0 → Q (.ref B.a) H'
theorem pplain {X : Cx} {e : Expr} {es : List Expr} {t : TA} {C : Addr} {n : Nat} {p pos : Pos} (D : CalC X.prog X.w X.K X.mg X.base C 13 "Plain" ["self", "memory", "program"] (sp_Plain_init C)) (hr : Room n X.A) (ha : PA X (e :: es) t) (hk : 14 ≤ n := by decide) (hg : Gl X "Plain" := by rfl)
    (he : starEach (e :: es) X.env = (false, eval e X.env) :: starEach es X.env := by rfl) (hpl : (backTo pos (starEach es X.env)).any (·.1) = false := by rfl) :
    PE X (.Call (.Name "Plain" p) (e :: es) [] pos) (tPlain C t) :=
  PE.imp (pmk D hr (PA.mono ha) hk hg (by decide) he hpl) fun σ H Q q => ⟨_, q, fun vs H1 z => by
    obtain ⟨v, u, m, p, rfl, hv, hu, mok, sok, q⟩ := z
    exact plain_made hv hu mok sok q⟩
theorem Kp.dropAll {N : List Addr} {H H' : Hp} (k : Kp N H H') (h : ∀ b ∈ N, H b = none) : Kp [] H H' := ⟨fun b o e _ => k.keep b o e (fun hb => by rw [h b hb] at e; cases e), k.tups⟩
theorem ok_Plain_twin (T : Txt K mg) (cPlain : PlC K C) (F : Fd K "plain_twin" "Plain.plain_twin" s_Plain_plain_twin f fd) (MkPlain : CalC P w K mg base C 13 "Plain" ["self", "memory", "program"] (sp_Plain_init C))
    (M_Plain_gone_on : Met P w K mg base C 1 "gone_on" ["self", "many"] (sp_go C)) : FnOk P w K mg base CX0 15 f fd ["self"] (sp_twin C) := by
  refine FunD.ok F sc_Plain_plain_twin (fun vs H Q E h => ?_) (fun cdv AA outer s H vs Q E hr h => ?_)
  · obtain ⟨A, m, p, k, rfl, _⟩ := h
    rfl
  · obtain ⟨A, m, p, k, rfl, pl, q⟩ := h
    obtain ⟨xs, hT, hx⟩ : ∃ xs, H A.T = some (.tup xs) ∧ TDs H xs [memD m, sheetD p] := by
      obtain ⟨a, xs, e, h1, h2⟩ := pl.asked.inv
      cases e
      exact ⟨xs, h1, h2⟩
    obtain ⟨v, xs, rfl, hv, hx⟩ := hx.inv
    obtain ⟨u, xs, rfl, hu, hx⟩ := hx.inv
    obtain rfl := hx.inv0
    have rl4 := rows_len pl.sok
    have kle := pl.kle
    refine ⟨_, PSs.nox (pss_cons (ps_asg (pe_fld (pv 0) rfl) (pg_tup rfl (pgs_cons (pg_name (i := 1) sc_Plain_plain_twin.nd rfl (Or.inl rfl)) (pgs_cons (pg_name (i := 2) sc_Plain_plain_twin.nd rfl (Or.inl rfl)) pgs_nil))))
      (pss_cons (ps_set (i := 3) sc_Plain_plain_twin.nd rfl (Or.inl rfl) (pplain MkPlain hr (pa_cons (pv 1) (pa_cons (pv 2) pa_nil))))
      (pss_cons (ps_expr (pm (pv 3) cPlain.cls M_Plain_gone_on hr (pa_cons (pe_callB call_len_seq (by rfl) T.b_len PySem.boot_len (pa_cons (pe_fld (pv 0) rfl) pa_nil)) pa_nil)))
      (pss_one (ps_ret (pv 3)))))), ?_⟩
    refine ⟨_, rfl, _, C, _, _, _, rfl, pl.ins, cPlain.cls, cPlain.n_asked, rfl, A.T, _, rfl, SqT.of hT, rfl, _, _, rfl, _, _, rfl, rfl, ?_⟩
    refine ⟨_, rfl, _, rfl, v, u, m, p, rfl, hv, hu, pl.mok, pl.sok, fun H1 B k1 f1 pl1 => ?_⟩
    refine ⟨_, rfl, B.a, _, _, rfl, pl1.ins, rfl, _, rfl, _, C, _, _, _, rfl, k1.same _ _ pl.ins, cPlain.cls, cPlain.n_elders, rfl, A.E, _, rfl, .inl (SqL.of (k1.same _ _ pl.eld)), ?_⟩
    rw [eldersV_len]
    refine ⟨B, m, p, 0, k, rfl, pl1, by omega, fun H2 L xs k2 n2 e2 t2 pl2 => ?_⟩
    rw [Nat.zero_add, Nat.min_eq_left kle] at pl2
    exact ⟨_, rfl, q H2 B (Kp.dropAll ((k1.more (by simp)).trans k2) f1) f1 pl2⟩
end
end L2.K14
set_option Elab.async false
set_option linter.all false
set_option maxRecDepth 100000
set_option maxHeartbeats 4000000
set_option pp.maxSteps 600
/-! a Plain: ==, repr -/
namespace L2.K14
open PySem PySem.Spec PyProof.Rows
/-- what isinstance asks of the class -/
structure PlI (K : PySem.W.Frag) (mg : Str → Option Value) (C : Addr) : Prop where
  ha : PySem.W.findIn K (.ref C) "__class__" = some (some (.builtin "object.__class__"))
  hn : PySem.W.specialIn K (.builtin "object.__class__") "__get__" = some (some (.builtin "getset_descriptor.__get__"))
  htk : PySem.W.takesIn K (.builtin "object.__class__") = some true
  hm : PySem.W.mroIn K C (.type "object") = some true
  k_own : PySem.W.kitOne K (.ref C) (.ref C) = some true
  k_int : PySem.W.kitOne K (.type "int") (.ref C) = some false
  k_tup : PySem.W.kitOne K (.type "tuple") (.ref C) = some false
  k_str : PySem.W.kitOne K (.type "str") (.ref C) = some false
  glob : mg "Plain" = some (.ref C)
def shownS (k : Nat) : Str := ((Str.empty ++ Str.ofString "Plain(") ++ Str.ofString (toString (k : Int))) ++ Str.ofString ")"
theorem shown_len : ∀ k : Nat, k < 500 → ((Str.empty ++ Str.ofString "Plain(") ++ Str.ofString (toString (k : Int))).length ≤ 1000 ∧ (shownS k).length ≤ 1000 := by decide +kernel
section
variable {P : Program} {w : World} {K : PySem.W.Frag} {mg : Str → Option Value} {base : Heap} {f : Addr} {fd : FuncData} {C CC : Addr}
abbrev N_Plain_eq : List Str := ["self", "other"]
theorem sc_Plain_eq : FnScope N_Plain_eq ["self", "other"] (defScope s_Plain_eq) := ⟨rfl, rfl, rfl, by decide +kernel, rfl, by decide +kernel, by decide +kernel⟩
def sp_eq (C : Addr) : Sp := fun vs H Q _ => ∃ (A : PlA) (m : List Nat) (p : List Ded) (k : Nat) (y : V), vs = [.ref A.a, y] ∧ PlAt C H A m p k ∧
  ((∃ (B : PlA) (m2 : List Nat) (p2 : List Ded) (k2 : Nat), y = .ref B.a ∧ PlAt C H B m2 p2 k2 ∧ Q (.bl (PyData.eqv (.tuple [memD m, sheetD p]) (.tuple [memD m2, sheetD p2]) && decide (k = k2))) H) ∨
    (((∃ i, y = .int i) ∨ (∃ z, y = .str z) ∨ ∃ a xs, y = .ref a ∧ H a = some (.tup xs)) ∧ Q (.bl false) H))
theorem ok_Plain_eq (T : Txt K mg) (cPlain : PlC K C) (iPlain : PlI K mg C) (F : Fd K "__eq__" "Plain.__eq__" s_Plain_eq f fd) : FnOk P w K mg base CX0 1 f fd ["self", "other"] (sp_eq C) := by
  refine FunD.ok F sc_Plain_eq (fun vs H Q E h => ?_) (fun cdv AA outer s H vs Q E hr h => ?_)
  · obtain ⟨A, m, p, k, y, rfl, _⟩ := h
    rfl
  · obtain ⟨A, m, p, k, y, rfl, pl, h⟩ := h
    have mg_Plain := iPlain.glob
    refine ⟨_, PSs.nox (pss_cons (ps_if (pt_not (pt_val (pe_callB call_isi (by rfl) T.b_isinstance (by decide +kernel) (pa_cons (pv 1) (pa_cons (pe_glob (v := .ref C) (by rfl) mg_Plain rfl) pa_nil))))) (pss_one (ps_ret pe_bl)) pss_nil)
      (pss_one (ps_ret (pe_and (pe_cmpR (op_eqD hr.units) (pe_fld (pv 0) rfl) (pe_fld (pv 1) rfl) (nomark _)) (pe_one (pe_cmpR op_eq (pe_callB call_len_seq (by rfl) T.b_len PySem.boot_len (pa_cons (pe_fld (pv 0) rfl) pa_nil)) (pe_callB call_len_seq (by rfl) T.b_len PySem.boot_len (pa_cons (pe_fld (pv 1) rfl) pa_nil)) (nomark _))))))), ?_⟩
    rcases h with ⟨B, m2, p2, k2, rfl, pl2, q⟩ | ⟨hy, q⟩
    · refine ⟨_, rfl, _, _, _, _, true, rfl, .own C, .base (.ins pl2.ins cPlain.cls iPlain.ha iPlain.hn iPlain.htk iPlain.hm), iPlain.k_own, true, rfl, iteF ?_⟩
      refine ⟨_, rfl, _, C, _, _, _, rfl, pl.ins, cPlain.cls, cPlain.n_asked, rfl, _, rfl, _, C, _, _, _, rfl, pl2.ins, cPlain.cls, cPlain.n_asked, rfl, ?_⟩
      refine ⟨_, _, pl.asked.dp _ _, pl2.asked.dp _ _, ?_, ?_, _, rfl, ?_⟩
      · exact Shp.shaped (n := 10) (.tuple fun d hd => by
          simp only [List.mem_cons, List.mem_nil_iff, or_false] at hd
          rcases hd with rfl | rfl
          · exact (shp_mem m).up (by decide)
          · exact shp_sheet p)
      · exact Shp.shaped (n := 10) (.tuple fun d hd => by
          simp only [List.mem_cons, List.mem_nil_iff, or_false] at hd
          rcases hd with rfl | rfl
          · exact (shp_mem m2).up (by decide)
          · exact shp_sheet p2)
      cases he : PyData.eqv (.tuple [memD m, sheetD p]) (.tuple [memD m2, sheetD p2]) with
      | false =>
        rw [he] at q
        exact iteF q
      | true =>
        rw [he] at q
        refine iteT ⟨_, rfl, _, C, _, _, _, rfl, pl.ins, cPlain.cls, cPlain.n_elders, rfl, A.E, _, rfl, .inl (SqL.of pl.eld), ?_⟩
        rw [eldersV_len]
        refine ⟨_, rfl, _, C, _, _, _, rfl, pl2.ins, cPlain.cls, cPlain.n_elders, rfl, B.E, _, rfl, .inl (SqL.of pl2.eld), rfl, ?_⟩
        rw [eldersV_len]
        have e : decide (V.int (k : Nat) = V.int (k2 : Nat)) = decide (k = k2) := by
          rw [decide_eq_decide]
          exact ⟨fun h => by have := V.int.inj h; omega, fun h => by rw [h]⟩
        show Q (.bl (decide (V.int (k : Nat) = V.int (k2 : Nat)))) H
        rw [e]
        exact q
    · rcases hy with ⟨i, rfl⟩ | ⟨z, rfl⟩ | ⟨a, xs, rfl, ha⟩
      · exact ⟨_, rfl, _, _, _, _, false, rfl, .own C, .base (.int i), iPlain.k_int, false, rfl, iteT q⟩
      · exact ⟨_, rfl, _, _, _, _, false, rfl, .own C, .base (.str z), iPlain.k_str, false, rfl, iteT q⟩
      · exact ⟨_, rfl, _, _, _, _, false, rfl, .own C, .base (.tup ha), iPlain.k_tup, false, rfl, iteT q⟩
abbrev N_Plain_repr : List Str := ["self"]
theorem sc_Plain_repr : FnScope N_Plain_repr ["self"] (defScope s_Plain_repr) := ⟨rfl, rfl, rfl, by decide +kernel, rfl, by decide +kernel, by decide +kernel⟩
def sp_repr (C : Addr) : Sp := fun vs H Q _ => ∃ (A : PlA) (m : List Nat) (p : List Ded) (k : Nat), vs = [.ref A.a] ∧ PlAt C H A m p k ∧ Q (.str (shownS k)) H
theorem ok_Plain_repr (T : Txt K mg) (cPlain : PlC K C) (F : Fd K "__repr__" "Plain.__repr__" s_Plain_repr f fd) : FnOk P w K mg base CX0 1 f fd ["self"] (sp_repr C) := by
  refine FunD.ok F sc_Plain_repr (fun vs H Q E h => ?_) (fun cdv AA outer s H vs Q E hr h => ?_)
  · obtain ⟨A, m, p, k, rfl, _⟩ := h
    rfl
  · obtain ⟨A, m, p, k, rfl, pl, q⟩ := h
    refine ⟨_, PSs.nox (pss_one (ps_ret (pe_joined (PJ.cons pe_str (PJ.cons (pe_fmt (pe_callB call_len_seq (by rfl) T.b_len PySem.boot_len (pa_cons (pe_fld (pv 0) rfl) pa_nil))) (PJ.cons pe_str PJ.nil)))))), ?_⟩
    have rl4 := rows_len pl.sok
    have kle := pl.kle
    obtain ⟨l1, l2⟩ := shown_len k (by omega)
    refine ⟨Str.ofString "Plain(", rfl, by decide +kernel, ?_⟩
    refine ⟨_, rfl, _, C, _, _, _, rfl, pl.ins, cPlain.cls, cPlain.n_elders, rfl, A.E, _, rfl, .inl (SqL.of pl.eld), ?_⟩
    rw [eldersV_len]
    refine .inr ⟨k, rfl, ?_, Str.ofString (toString (k : Int)), rfl, sz _ (Nat.le_trans l1 (by decide)), Str.ofString ")", rfl, sz _ (Nat.le_trans l2 (by decide)), q⟩
    rw [Int.natAbs_natCast]
    by_cases h0 : k = 0
    · rw [h0]; decide
    · exact Nat.lt_of_lt_of_le ((Nat.log2_lt h0).mpr (show k < 2 ^ 9 by omega)) (by decide)
end
end L2.K14
set_option Elab.async false
set_option linter.all false
set_option maxRecDepth 100000
set_option maxHeartbeats 4000000
set_option pp.maxSteps 600
/-! the law's draws -/
namespace L2.K14
open PySem PySem.Spec PyProof.Rows
abbrev kx (x : String) : Key := .inr (Str.ofString x)
abbrev stKvs (L o b a : Int) : List (Key × V) := [(kx "left", .int L), (kx "own", .int o), (kx "behind", .int b), (kx "at", .int a)]
theorem ne_left_own : ¬ kx "left" = kx "own" := by decide +kernel
theorem ne_left_behind : ¬ kx "left" = kx "behind" := by decide +kernel
theorem ne_left_at : ¬ kx "left" = kx "at" := by decide +kernel
theorem ne_own_left : ¬ kx "own" = kx "left" := by decide +kernel
theorem ne_own_behind : ¬ kx "own" = kx "behind" := by decide +kernel
theorem ne_own_at : ¬ kx "own" = kx "at" := by decide +kernel
theorem ne_behind_left : ¬ kx "behind" = kx "left" := by decide +kernel
theorem ne_behind_own : ¬ kx "behind" = kx "own" := by decide +kernel
theorem ne_behind_at : ¬ kx "behind" = kx "at" := by decide +kernel
theorem ne_at_left : ¬ kx "at" = kx "left" := by decide +kernel
theorem ne_at_own : ¬ kx "at" = kx "own" := by decide +kernel
theorem ne_at_behind : ¬ kx "at" = kx "behind" := by decide +kernel
theorem st_left {H : Hp} {d : Addr} {L o b a : Int} (h : H d = some (.dK (stKvs L o b a))) : DGet H d (.str (Str.ofString "left")) (some (.int L)) := by
  have e : valV (stKvs L o b a) (kx "left") = some (.int L) := valV_pos rfl
  rw [← e]
  exact DGet.k (k := kx "left") h
theorem st_own {H : Hp} {d : Addr} {L o b a : Int} (h : H d = some (.dK (stKvs L o b a))) : DGet H d (.str (Str.ofString "own")) (some (.int o)) := by
  have e : valV (stKvs L o b a) (kx "own") = some (.int o) := (valV_neg ne_left_own).trans (valV_pos rfl)
  rw [← e]
  exact DGet.k (k := kx "own") h
theorem st_behind {H : Hp} {d : Addr} {L o b a : Int} (h : H d = some (.dK (stKvs L o b a))) : DGet H d (.str (Str.ofString "behind")) (some (.int b)) := by
  have e : valV (stKvs L o b a) (kx "behind") = some (.int b) := (valV_neg ne_left_behind).trans ((valV_neg ne_own_behind).trans (valV_pos rfl))
  rw [← e]
  exact DGet.k (k := kx "behind") h
theorem st_at {H : Hp} {d : Addr} {L o b a : Int} (h : H d = some (.dK (stKvs L o b a))) : DGet H d (.str (Str.ofString "at")) (some (.int a)) := by
  have e : valV (stKvs L o b a) (kx "at") = some (.int a) := (valV_neg ne_left_at).trans ((valV_neg ne_own_at).trans ((valV_neg ne_behind_at).trans (valV_pos rfl)))
  rw [← e]
  exact DGet.k (k := kx "at") h
theorem put_left {L o b a x : Int} : putK (stKvs L o b a) (kx "left") (.int x) = stKvs x o b a := by
  have hown : ¬ Str.ofString "own" = Str.ofString "left" := by decide +kernel
  have hbehind : ¬ Str.ofString "behind" = Str.ofString "left" := by decide +kernel
  have hat : ¬ Str.ofString "at" = Str.ofString "left" := by decide +kernel
  simp [putK, stKvs, hown, hbehind, hat]
theorem dput_left {H : Hp} {d : Addr} {L o b a x : Int} (h : H d = some (.dK (stKvs L o b a))) : DPut H d (.str (Str.ofString "left")) (.int x) (upd H d (.dK (stKvs x o b a))) := by
  rw [← put_left (L := L) (o := o) (b := b) (a := a)]
  exact DPut.k (k := kx "left") h (by show 4 < sizeLine; decide)
theorem put_at {L o b a x : Int} : putK (stKvs L o b a) (kx "at") (.int x) = stKvs L o b x := by
  have hleft : ¬ Str.ofString "left" = Str.ofString "at" := by decide +kernel
  have hown : ¬ Str.ofString "own" = Str.ofString "at" := by decide +kernel
  have hbehind : ¬ Str.ofString "behind" = Str.ofString "at" := by decide +kernel
  simp [putK, stKvs, hleft, hown, hbehind]
theorem dput_at {H : Hp} {d : Addr} {L o b a x : Int} (h : H d = some (.dK (stKvs L o b a))) : DPut H d (.str (Str.ofString "at")) (.int x) (upd H d (.dK (stKvs L o b x))) := by
  rw [← put_at (L := L) (o := o) (b := b) (a := a)]
  exact DPut.k (k := kx "at") h (by show 4 < sizeLine; decide)
/-- a state of draws: at most N of them -/
def StAt (H : Hp) (d : Addr) (N : Nat) : Prop := ∃ L o b a : Int, H d = some (.dK (stKvs L o b a)) ∧ 0 ≤ L ∧ 0 ≤ a ∧ a ≤ N
theorem StAt.kp {H H' : Hp} {d : Addr} {N : Nat} {M : List Addr} (h : StAt H d N) (k : Kp M H H') (hd : d ∉ M) : StAt H' d N := by
  obtain ⟨L, o, b, a, e, r⟩ := h
  exact ⟨L, o, b, a, k.keep _ _ e hd, r⟩
theorem StAt.kp0 {H H' : Hp} {d : Addr} {N : Nat} (h : StAt H d N) (k : Kp [] H H') : StAt H' d N := h.kp k (by simp)
theorem StAt.up {H : Hp} {d : Addr} {N M : Nat} (h : StAt H d N) (l : N ≤ M) : StAt H d M := by
  obtain ⟨L, o, b, a, e, l1, l2, l3⟩ := h
  exact ⟨L, o, b, a, e, l1, l2, by omega⟩
theorem toNat_use {Q : V → Prop} {c : Nat} (q : ∀ n : Nat, n < c → Q (vi n)) {x : Int} (h0 : 0 ≤ x) (h1 : x < c) : Q (.int x) := by
  obtain ⟨n, rfl⟩ := Int.eq_ofNat_of_zero_le h0
  exact q n (by omega)
theorem pick3 (k : Nat) : ∃ v : Int, atI [V.int 2147483629, .int 2147483587, .int 2147483579] ((k : Int) % 3) = some (.int v) ∧ 0 < v ∧ v < 2147483630 := by
  have h : k % 3 = 0 ∨ k % 3 = 1 ∨ k % 3 = 2 := by omega
  rcases h with h | h | h
  · exact ⟨_, atN (n := 0) (by omega) rfl, by decide, by decide⟩
  · exact ⟨_, atN (n := 1) (by omega) rfl, by decide, by decide⟩
  · exact ⟨_, atN (n := 2) (by omega) rfl, by decide, by decide⟩
section
variable {P : Program} {w : World} {K : PySem.W.Frag} {mg : Str → Option Value} {base : Heap} {f : Addr} {fd : FuncData}
abbrev N__law_mixed : List Str := ["_law_drawn", "_law_k", "_law_number"]
theorem sc__law_mixed : FnScope N__law_mixed ["_law_drawn", "_law_k"] (defScope s__law_mixed) := ⟨rfl, rfl, rfl, by decide +kernel, rfl, by decide +kernel, by decide +kernel⟩
def sp_mixed : Sp := fun vs H Q _ => ∃ (o : Int) (k : Nat), vs = [.int o, vi k] ∧ k ≤ 1000000 ∧ ∀ n : Nat, n < 2147483629 → ∀ H', Kp [] H H' → Q (vi n) H'
theorem ok_mixed (T : Txt K mg) (F : Fd K "_law_mixed" "_law_mixed" s__law_mixed f fd) : FnOk P w K mg base CX0 1 f fd ["_law_drawn", "_law_k"] sp_mixed := by
  refine FunD.ok F sc__law_mixed (fun vs H Q E h => ?_) (fun cdv A outer s H vs Q E hr h => ?_)
  · obtain ⟨o, k, rfl, _⟩ := h
    rfl
  · obtain ⟨o, k, rfl, hk, q⟩ := h
    refine ⟨_, PSs.nox (pss_cons (ps_set (i := 2) sc__law_mixed.nd rfl (Or.inl rfl) (pe_op op_add (pe_op op_add (pe_op op_mod (pv 0) (pe_ix ix_list (pe_lstK (pa_cons pe_int (pa_cons pe_int (pa_cons pe_int pa_nil)))) (pe_op op_mod (pv 1) pe_int) (fun _ _ => rfl))) (pe_op op_mul pe_int (pv 1))) pe_int))
      (pss_one (ps_ret (pe_op op_mod (pe_op op_mul (pe_op op_mod (pe_op op_pow (pv 2) pe_int) pe_int) (pe_op op_add pe_int (pe_op op_mul pe_int (pv 1)))) pe_int)))), ?_⟩
    obtain ⟨v, hv, v0, v1⟩ := pick3 k
    refine ⟨_, rfl, sz 3, fun p H1 k1 n1 e1 => ?_⟩
    refine ⟨_, rfl, _, _, rfl, rfl, by show (0 : Int) < 3; decide, p, _, _, _, rfl, rfl, SqL.of e1, hv, _, _, rfl, rfl, v0, _, rfl, _, _, rfl, rfl, .inl ⟨by decide, by decide⟩, _, _, rfl, rfl, _, _, rfl, rfl, ?_⟩
    have m0 := Int.emod_nonneg o (by omega : v ≠ 0)
    have m1 := Int.emod_lt_of_pos o v0
    refine ⟨_, rfl, _, _, rfl, rfl, ⟨by decide, by decide, ?_⟩, _, _, rfl, rfl, by show (0 : Int) < 2147483647; decide, _, rfl, _, _, rfl, rfl, .inl ⟨by decide, by decide⟩, _, _, rfl, rfl, _, _, rfl, rfl, .inl ⟨?_, ?_⟩, _, _, rfl, rfl, by show (0 : Int) < 2147483629; decide, ?_⟩
    · show (o % v + 104729 * (k : Int) + 17).natAbs < 2 ^ 64
      omega
    · have := Int.emod_nonneg ((o % v + 104729 * (k : Int) + 17) ^ (3 : Int).toNat) (by decide : (2147483647 : Int) ≠ 0)
      show -(2 ^ 64) < (o % v + 104729 * (k : Int) + 17) ^ (3 : Int).toNat % 2147483647
      omega
    · have := Int.emod_lt_of_pos ((o % v + 104729 * (k : Int) + 17) ^ (3 : Int).toNat) (by decide : (0 : Int) < 2147483647)
      show (o % v + 104729 * (k : Int) + 17) ^ (3 : Int).toNat % 2147483647 < 2 ^ 64
      omega
    · exact toNat_use (Q := fun x => Q x H1) (fun n hn => q n hn H1 k1) (Int.emod_nonneg _ (by decide)) (Int.emod_lt_of_pos _ (by decide))
abbrev N__law_take : List Str := ["_law_state", "_law_count", "_law_found", "_law_number"]
theorem sc__law_take : FnScope N__law_take ["_law_state", "_law_count"] (defScope s__law_take) := ⟨rfl, rfl, rfl, by decide +kernel, rfl, by decide +kernel, by decide +kernel⟩
def sp_take : Sp := fun vs H Q _ => ∃ (d : Addr) (c N : Nat), vs = [.ref d, vi c] ∧ StAt H d N ∧ 1 ≤ c ∧ c ≤ 1000000 ∧ N ≤ 900000 ∧ ∀ n : Nat, n < c → ∀ H', Kp [d] H H' → StAt H' d (N + 1) → Q (vi n) H'
theorem ok_take (T : Txt K mg) (F : Fd K "_law_take" "_law_take" s__law_take f fd) (D__law_mixed : Cal P w K mg base 1 "_law_mixed" ["_law_drawn", "_law_k"] sp_mixed) : FnOk P w K mg base CX0 2 f fd ["_law_state", "_law_count"] sp_take := by
  refine FunD.ok F sc__law_take (fun vs H Q E h => ?_) (fun cdv AA outer s H vs Q E hr h => ?_)
  · obtain ⟨d, c, N, rfl, _⟩ := h
    rfl
  · obtain ⟨d, c, N, rfl, ⟨L, o, b, a, hd, hL, ha0, haN⟩, h1, hc, hN, q⟩ := h
    refine ⟨_, PSs.nox (pss_cons (ps_if (pt_cmpR op_gt (pe_dget (hu_of hr) (pv 0) pe_str (fun _ _ => rfl)) pe_int (nomark _)) (pss_cons (ps_set (i := 2) sc__law_take.nd rfl (Or.inl rfl) (pe_op op_mod (pe_dget (hu_of hr) (pv 0) pe_str (fun _ _ => rfl)) (pv 1)))
      (pss_cons (ps_dput (hu_of hr) (pv 0) pe_str (pe_op op_fdiv (pe_dget (hu_of hr) (pv 0) pe_str (fun _ _ => rfl)) (pv 1)) rfl)
      (pss_one (ps_ret (pv 2))))) pss_nil)
      (pss_cons (ps_dput (hu_of hr) (pv 0) pe_str (pe_op op_add (pe_dget (hu_of hr) (pv 0) pe_str (fun _ _ => rfl)) pe_int) rfl)
      (pss_cons (ps_set (i := 3) sc__law_take.nd rfl (Or.inl rfl) (pe_op op_add (pe_op op_mul (pc D__law_mixed hr (pa_cons (pe_dget (hu_of hr) (pv 0) pe_str (fun _ _ => rfl)) (pa_cons (pe_dget (hu_of hr) (pv 0) pe_str (fun _ _ => rfl)) pa_nil))) pe_int) (pc D__law_mixed hr (pa_cons (pe_dget (hu_of hr) (pv 0) pe_str (fun _ _ => rfl)) (pa_cons (pe_op op_add (pe_dget (hu_of hr) (pv 0) pe_str (fun _ _ => rfl)) pe_int) pa_nil)))))
      (pss_one (ps_ret (pe_op op_mod (pe_op op_fdiv (pv 3) pe_int) (pv 1))))))), ?_⟩
    by_cases h0 : 0 < L
    · refine ⟨_, rfl, d, _, rfl, st_left hd, _, _, rfl, rfl, _, rfl, iteDT h0 ?_⟩
      have kS : ∀ x : Int, Kp [d] H (upd H d (.dK (stKvs x o b a))) := fun x => Kp.put hd (by simp) (by simp)
      refine ⟨_, rfl, d, _, rfl, st_left hd, _, rfl, _, _, rfl, rfl, (by omega : (0 : Int) < c), ?_⟩
      refine ⟨_, rfl, d, _, rfl, st_left hd, _, rfl, _, _, rfl, rfl, ⟨(by omega : (0 : Int) < c), (by omega : (c : Int) < 1073741824)⟩, _, rfl, d, _, rfl, dput_left hd, _, rfl, ?_⟩
      refine toNat_use (Q := fun x => Q x (upd H d (.dK (stKvs (L / (c : Int)) o b a)))) (fun n hn => q n hn _ (kS _) ⟨_, _, _, _, upd_same, ?_, ha0, by omega⟩) (Int.emod_nonneg _ (by omega)) (Int.emod_lt_of_pos _ (by omega))
      exact Int.ediv_nonneg hL (by omega)
    · refine ⟨_, rfl, d, _, rfl, st_left hd, _, _, rfl, rfl, _, rfl, iteDF h0 ?_⟩
      refine ⟨_, rfl, d, _, rfl, st_at hd, _, _, rfl, rfl, _, rfl, d, _, rfl, dput_at hd, ?_⟩
      have kS : Kp [d] H (upd H d (.dK (stKvs L o b (a + 1)))) := Kp.put hd (by simp) (by simp)
      have eS : upd H d (.dK (stKvs L o b (a + 1))) d = some (.dK (stKvs L o b (a + 1))) := upd_same
      obtain ⟨an, rfl⟩ := Int.eq_ofNat_of_zero_le ha0
      refine ⟨_, rfl, d, _, rfl, st_own eS, _, rfl, d, _, rfl, st_at eS, o, an + 1, rfl, by omega, fun n1 l1 H1 k1 => ?_⟩
      have e1 := k1.same _ _ eS
      refine ⟨_, _, rfl, rfl, .inr ⟨by decide, by decide⟩, _, rfl, d, _, rfl, st_behind e1, _, rfl, d, _, rfl, st_at e1, _, _, rfl, rfl, b, an + 1 + 9001, rfl, by omega, fun n2 l2 H2 k2 => ?_⟩
      have e2 := k2.same _ _ e1
      refine ⟨_, _, rfl, rfl, _, rfl, _, _, rfl, rfl, ⟨by decide, by decide⟩, _, rfl, _, _, rfl, rfl, (by omega : (0 : Int) < c), ?_⟩
      exact toNat_use (Q := fun x => Q x H2) (fun n hn => q n hn H2 (kS.trans ((k1.trans k2).more (by simp))) ⟨_, _, _, _, e2, hL, by omega, by omega⟩) (Int.emod_nonneg _ (by omega)) (Int.emod_lt_of_pos _ (by omega))
abbrev N__law_of : List Str := ["_law_state", "_law_some"]
theorem sc__law_of : FnScope N__law_of ["_law_state", "_law_some"] (defScope s__law_of) := ⟨rfl, rfl, rfl, by decide +kernel, rfl, by decide +kernel, by decide +kernel⟩
def sp_of : Sp := fun vs H Q _ => ∃ (d L : Addr) (xs : List V) (N : Nat), vs = [.ref d, .ref L] ∧ StAt H d N ∧ H L = some (.lst xs) ∧ 1 ≤ xs.length ∧ xs.length ≤ 1000 ∧ N ≤ 900000 ∧ ∀ (i : Nat) x, xs[i]? = some x → ∀ H', Kp [d] H H' → StAt H' d (N + 1) → Q x H'
theorem ok_of (T : Txt K mg) (F : Fd K "_law_of" "_law_of" s__law_of f fd) (D__law_take : Cal P w K mg base 2 "_law_take" ["_law_state", "_law_count"] sp_take) : FnOk P w K mg base CX0 3 f fd ["_law_state", "_law_some"] sp_of := by
  refine FunD.ok F sc__law_of (fun vs H Q E h => ?_) (fun cdv AA outer s H vs Q E hr h => ?_)
  · obtain ⟨d, L, xs, N, rfl, _⟩ := h
    rfl
  · obtain ⟨d, L, xs, N, rfl, hd, hL, l1, l2, hN, q⟩ := h
    have nd : L ≠ d := fun z => by obtain ⟨_, _, _, _, e, _⟩ := hd; rw [z, e] at hL; cases hL
    refine ⟨_, PSs.nox (pss_one (ps_ret (pe_ix ix_list (pv 1) (pc D__law_take hr (pa_cons (pv 0) (pa_cons (pe_callB call_len_seq (by rfl) T.b_len PySem.boot_len (pa_cons (pv 1) pa_nil)) pa_nil))) (fun _ _ => rfl)))), ?_⟩
    refine ⟨_, rfl, _, rfl, _, rfl, L, _, rfl, .inl (SqL.of hL), d, xs.length, N, rfl, hd, l1, by omega, hN, fun n hn H1 k1 st1 => ?_⟩
    exact ⟨L, xs, _, xs[n], rfl, rfl, SqL.of (k1.keep _ _ hL (by simp [nd])), atN rfl (List.getElem?_eq_getElem hn), q n _ (List.getElem?_eq_getElem hn) H1 k1 st1⟩
abbrev N__law_byte : List Str := ["_law_state"]
theorem sc__law_byte : FnScope N__law_byte ["_law_state"] (defScope s__law_byte) := ⟨rfl, rfl, rfl, by decide +kernel, rfl, by decide +kernel, by decide +kernel⟩
def sp_byte : Sp := fun vs H Q _ => ∃ (d : Addr) (N : Nat), vs = [.ref d] ∧ StAt H d N ∧ N ≤ 800000 ∧ ∀ n : Nat, n < 256 → ∀ H', Kp [d] H H' → StAt H' d (N + 2) → Q (vi n) H'
theorem ok_byte (T : Txt K mg) (F : Fd K "_law_byte" "_law_byte" s__law_byte f fd) (D__law_take : Cal P w K mg base 2 "_law_take" ["_law_state", "_law_count"] sp_take) (D__law_of : Cal P w K mg base 3 "_law_of" ["_law_state", "_law_some"] sp_of) : FnOk P w K mg base CX0 4 f fd ["_law_state"] sp_byte := by
  refine FunD.ok F sc__law_byte (fun vs H Q E h => ?_) (fun cdv AA outer s H vs Q E hr h => ?_)
  · obtain ⟨d, N, rfl, _⟩ := h
    rfl
  · obtain ⟨d, N, rfl, hd, hN, q⟩ := h
    refine ⟨_, PSs.nox (pss_one (ps_ret (pc D__law_of hr (pa_cons (pv 0) (pa_cons (pe_lstK (pa_cons pe_int (pa_cons pe_int (pa_cons pe_int (pa_cons pe_int (pa_cons (pc D__law_take hr (pa_cons (pv 0) (pa_cons pe_int pa_nil))) pa_nil)))))) pa_nil))))), ?_⟩
    refine ⟨_, rfl, _, rfl, d, 256, N, rfl, hd, by decide, by decide, by omega, fun n hn H1 k1 st1 => ⟨sz 5, fun L H2 k2 n2 e2 => ?_⟩⟩
    refine ⟨d, L, _, N + 1, rfl, st1.kp0 k2, e2, by simp, by simp, by omega, fun i x hx H3 k3 st3 => ?_⟩
    have kA : Kp [d] H H3 := (k1.trans (k2.more (by simp))).trans k3
    match i, hx with
    | 0, hx => cases hx; exact q 0 (by decide) H3 kA st3
    | 1, hx => cases hx; exact q 1 (by decide) H3 kA st3
    | 2, hx => cases hx; exact q 255 (by decide) H3 kA st3
    | 3, hx => cases hx; exact q 128 (by decide) H3 kA st3
    | 4, hx => cases hx; exact q n hn H3 kA st3
    | i + 5, hx => cases hx
end
end L2.K14
set_option Elab.async false
set_option linter.all false
set_option maxRecDepth 100000
set_option maxHeartbeats 4000000
set_option pp.maxSteps 600
/-! the law's draws: areas, steps, sheets, stores -/
namespace L2.K14
open PySem PySem.Spec PyProof.Rows
theorem Kp.any {M : List Addr} {H H' : Hp} (k : Kp [] H H') : Kp M H H' := k.more fun b hb => by cases hb
section
variable {J : It} {n : Nat} {G : Hp → Prop} {Y : Nat → Hp → V → Hp → Prop}
/-- a comprehension while what stands at M changes -/
theorem lc_st (wk : Walk J n G Y) (M : List Addr) {g : TG} {tt : TT} {te : TE} {vs : List Nat} {σ : L2.St} {H1 : Hp} {D : Addr} {Qd : Hp → Prop} (R : Nat → List V → Hp → Prop) (hD : H1 D = none) (hM : D ∉ M) (hR : ∀ i acc H H', Kp [D] H H' → R i acc H → R i acc H') (r0 : R 0 [] H1)
    (hG : ∀ H, Kp M H1 H → G H) (hY : ∀ i H x H', Y i H x H' → Kp [] H H') (hl : ∀ i acc H, i < n → R i acc H → acc.length ≤ 100000)
    (hs : ∀ i x H H' acc, i < n → Kp M H1 H → R i acc H → Y i H x H' → ∀ (N : V → Hp → Prop) (S : Hp → Prop), (∀ y H4, Kp M H' H4 → R (i + 1) (acc ++ [y]) H4 → N y H4) → (∀ H3, Kp M H' H3 → R (i + 1) acc H3 → S H3) →
      g x (wipe σ vs) H' fun σ2 H2 => wipe σ2 vs = wipe σ vs ∧ tt σ2 H2 fun b H3 => if b = true then te σ2 H3 N else S H3)
    (hd : ∀ H acc, Kp M H1 H → H D = some (.lst acc) → R n acc H → Qd H) :
    ∃ W : Nat → Nat → Hp → Prop, (∃ m, W 0 m (upd H1 D (.lst []))) ∧ ∀ i m H, W i m H →
      (J.stop i H ∧ Qd H) ∨ (J.go i H ∧ ∃ Nx : Hp → Prop, (∀ H', Nx H' → ∃ m', m' < m ∧ W (i + 1) m' H') ∧ ∀ x H', J.yld i H x H' → g x (wipe σ vs) H' fun σ2 H2 => wipe σ2 vs = wipe σ vs ∧ tt σ2 H2 fun b H3 =>
        if b = true then te σ2 H3 fun y H4 => ∃ acc, H4 D = some (.lst acc) ∧ acc.length < sizeLine ∧ Nx (upd H4 D (.lst (acc ++ [y]))) else Nx H3) := by
  refine walk_it wk (fun i H => Kp M H1 H ∧ ∃ acc, H D = some (.lst acc) ∧ R i acc H) ⟨(Kp.new hD).any, [], upd_same, hR _ _ _ _ (Kp.new hD).any r0⟩ (fun i H _ p => hG H p.1) (fun i x H H' hi p y => ?_) (fun H p => ?_)
  · obtain ⟨k, acc, e, r⟩ := p
    have kY : Kp M H H' := (hY i H x H' y).any
    refine hs i x H H' acc hi k r y (fun y H4 => ∃ acc, H4 D = some (.lst acc) ∧ acc.length < sizeLine ∧ (Kp M H1 (upd H4 D (.lst (acc ++ [y]))) ∧ ∃ acc', (upd H4 D (.lst (acc ++ [y]))) D = some (.lst acc') ∧ R (i + 1) acc' (upd H4 D (.lst (acc ++ [y])))))
      (fun H3 => Kp M H1 H3 ∧ ∃ acc, H3 D = some (.lst acc) ∧ R (i + 1) acc H3) (fun y H4 k4 r4 => ?_) (fun H3 k3 r3 => ?_)
    · have e4 : H4 D = some (.lst acc) := (kY.trans k4).keep D _ e hM
      have kD : Kp [D] H4 (upd H4 D (.lst (acc ++ [y]))) := Kp.put e4 (by simp) (by simp)
      refine ⟨acc, e4, Nat.lt_of_le_of_lt (hl i acc H hi r) (by decide), ?_, _, upd_same, hR _ _ _ _ kD r4⟩
      have kk := ((k.trans kY).trans k4).more (M' := D :: M) (fun b hb => by simp [hb])
      exact Kp.drop (kk.trans (kD.more (by simp))) hD
    · exact ⟨(k.trans kY).trans k3, acc, (kY.trans k3).keep D _ e hM, r3⟩
  · obtain ⟨k, acc, e, r⟩ := p
    exact hd H acc k e r
end
section
variable {P : Program} {w : World} {K : PySem.W.Frag} {mg : Str → Option Value} {base : Heap} {f : Addr} {fd : FuncData}
abbrev N__law_area : List Str := ["_law_state", "_law_top", "_law_size", "_law_rows", "_law_pitch", "_law_span", "_law_k"]
theorem sc__law_area : FnScope N__law_area ["_law_state", "_law_top", "_law_size"] (defScope s__law_area) := ⟨rfl, rfl, rfl, by decide +kernel, rfl, by decide +kernel, by decide +kernel⟩
def sp_area : Sp := fun vs H Q _ => ∃ (d : Addr) (top size N : Nat), vs = [.ref d, vi top, vi size] ∧ StAt H d N ∧ 1 ≤ size ∧ size ≤ 8 ∧ size ≤ top ∧ top ≤ 40 ∧ N ≤ 800000 ∧
  ∀ a : Ar, a.Ok top → a.size = size → ∀ H' v, Kp [d] H H' → TD H' v a.d → StAt H' d (N + 3) → Q v H'
theorem ok_area (T : Txt K mg) (F : Fd K "_law_area" "_law_area" s__law_area f fd) (D__law_take : Cal P w K mg base 2 "_law_take" ["_law_state", "_law_count"] sp_take) (D__law_of : Cal P w K mg base 3 "_law_of" ["_law_state", "_law_some"] sp_of) :
    FnOk P w K mg base CX0 4 f fd ["_law_state", "_law_top", "_law_size"] sp_area := by
  refine FunD.ok F sc__law_area (fun vs H Q E h => ?_) (fun cdv AA outer s H vs Q E hr h => ?_)
  · obtain ⟨d, top, size, N, rfl, _⟩ := h
    rfl
  · obtain ⟨d, top, size, N, rfl, hd, s1, s8, st, t40, hN, q⟩ := h
    refine ⟨_, PSs.nox (pss_cons (ps_set (i := 3) sc__law_area.nd rfl (Or.inl rfl) (pc D__law_of hr (pa_cons (pv 0) (pa_cons (pe_op op_catK (pe_lstK (pa_cons pe_int pa_nil)) (pe_lc (own := [("_law_k", 6)]) (g := (gName 6)) (tt := _) rfl sc__law_area.nd (pi_tup (pe_tupK (pa_cons pe_int (pa_cons pe_int (pa_cons pe_int (pa_cons pe_int pa_nil)))))) (blkOk_by (N := N__law_area) (sc := defScope s__law_area) (by decide +kernel)) (fun _ _ _ _ _ => (pg_name (i := 6) sc__law_area.nd rfl (Or.inl rfl))) (fun _ _ _ _ _ => (pts_one (pt_cmpR op_eq (pe_op op_mod (pv 2) (pv 6)) pe_int (nomark _)))) (fun _ _ _ _ _ => (pv 6)))) pa_nil))))
      (pss_cons (ps_set (i := 4) sc__law_area.nd rfl (Or.inl rfl) (pe_op op_add (pe_op op_fdiv (pv 2) (pv 3)) (pe_ix ix_list (pe_lstK (pa_cons pe_int (pa_cons (pc D__law_take hr (pa_cons (pv 0) (pa_cons pe_int pa_nil))) pa_nil))) (pe_callTy call_int1 (by rfl) T.b_int (by decide +kernel) (pa_cons (pe_cmpR op_gt (pv 3) pe_int (nomark _)) pa_nil)) (fun _ _ => rfl))))
      (pss_cons (ps_set (i := 5) sc__law_area.nd rfl (Or.inl rfl) (pe_op op_add (pe_op op_mul (pv 4) (pe_op op_sub (pv 3) pe_int)) (pe_op op_fdiv (pv 2) (pv 3))))
      (pss_cons (ps_if (pt_cmpR op_gt (pv 5) (pv 1) (nomark _)) (pss_one (ps_ret (pe_tupK (pa_cons (pc D__law_take hr (pa_cons (pv 0) (pa_cons (pe_op op_add (pe_op op_sub (pv 1) (pv 2)) pe_int) pa_nil))) (pa_cons (pv 2) (pa_cons pe_int (pa_cons (pv 2) pa_nil))))))) pss_nil)
      (pss_one (ps_ret (pe_tupK (pa_cons (pc D__law_take hr (pa_cons (pv 0) (pa_cons (pe_op op_add (pe_op op_sub (pv 1) (pv 5)) pe_int) pa_nil))) (pa_cons (pe_op op_fdiv (pv 2) (pv 3)) (pa_cons (pv 3) (pa_cons (pv 4) pa_nil))))))))))), ?_⟩
    refine ⟨_, rfl, sz 1, fun L1 H1 k1 n1 e1 => ⟨sz 4, fun T1 H2 k2 n2 e2 => ⟨T1, rfl, ⟨_, SqT.of e2⟩, fun D hD => ?_⟩⟩⟩
    refine lc_pure (walk_tup (xs := [V.int 1, .int 2, .int 3, .int 4])) (fun i acc _ => acc.length ≤ i ∧ ∀ x ∈ acc, ∃ k : Nat, x = vi k ∧ 1 ≤ k ∧ k ≤ 4 ∧ size % k = 0) hD (fun i acc => stb_pure _) ⟨Nat.zero_le _, fun x hx => by cases hx⟩ (fun H' k => k.seqT (SqT.of e2)) YAt.kp (fun i acc H' hi x => by simp at hi; omega) (fun i x H3 H4 acc hi k3 x0 y N S hN hS => ?_) (fun H3 acc k3 e3 x0 => ?_)
    · obtain ⟨rfl, hx⟩ := y
      obtain ⟨kk, rfl, kk1, kk4⟩ : ∃ k : Nat, x = vi k ∧ 1 ≤ k ∧ k ≤ 4 := by
        match i, hx with
        | 0, hx => cases hx; exact ⟨1, rfl, by decide, by decide⟩
        | 1, hx => cases hx; exact ⟨2, rfl, by decide, by decide⟩
        | 2, hx => cases hx; exact ⟨3, rfl, by decide, by decide⟩
        | 3, hx => cases hx; exact ⟨4, rfl, by decide, by decide⟩
        | i + 4, hx => cases hx
      refine ⟨rfl, _, rfl, _, rfl, _, _, rfl, rfl, (by omega : (0 : Int) < kk), rfl, _, rfl, ?_⟩
      by_cases hm : size % kk = 0
      · refine iteDT ?_ ⟨_, rfl, hN _ _ (Kp.refl _) ⟨by simp; exact x0.1, fun x hx => ?_⟩⟩
        · show V.int ((size : Int) % (kk : Int)) = V.int 0
          rw [← Int.natCast_emod, hm]
          rfl
        · rcases List.mem_append.mp hx with hx | hx
          · exact x0.2 x hx
          · rw [List.mem_singleton.mp hx]
            exact ⟨kk, rfl, kk1, kk4, hm⟩
      · refine iteDF (fun z => hm ?_) (hS _ (Kp.refl _) ⟨by omega, x0.2⟩)
        have := V.int.inj z
        rw [← Int.natCast_emod] at this
        omega
    · have k13 : Kp [] H H3 := (k1.trans k2).trans k3
      refine ⟨L1, D, _, _, rfl, rfl, (k2.trans k3).same _ _ e1, e3, sz _ (by have := x0.1; simp at this ⊢; omega), fun L2 H4 k4 n4 e4 => ?_⟩
      have k14 := k13.trans k4
      refine ⟨d, L2, _, N, rfl, hd.kp0 k14, e4, by simp, by have := x0.1; simp at this ⊢; omega, by omega, fun i x hx H5 k5 st5 => ?_⟩
      obtain ⟨rows, rfl, r1, r4, rm⟩ : ∃ k : Nat, x = vi k ∧ 1 ≤ k ∧ k ≤ 4 ∧ size % k = 0 := by
        have hx := List.mem_of_getElem? hx
        rcases List.mem_append.mp hx with hx | hx
        · rw [List.mem_singleton.mp hx]
          exact ⟨1, rfl, by decide, by decide, Nat.mod_one _⟩
        · exact x0.2 x hx
      have k15 : Kp [d] H H5 := k14.any.trans k5
      have sd : size / rows * rows = size := Nat.div_mul_cancel (Nat.dvd_of_mod_eq_zero rm)
      have c1 : 1 ≤ size / rows := by
        rcases Nat.eq_zero_or_pos (size / rows) with z | z
        · rw [z] at sd; omega
        · exact z
      have c8 : size / rows ≤ size := Nat.div_le_self _ _
      have i1 : (size : Int) / (rows : Int) = ((size / rows : Nat) : Int) := (Int.natCast_ediv ..).symm
      refine ⟨_, rfl, _, rfl, _, _, rfl, rfl, ⟨(by omega : (0 : Int) < rows), (by omega : (rows : Int) < 1073741824)⟩, ?_⟩
      refine ⟨_, rfl, d, 4, N + 1, rfl, st5, by decide, by decide, by omega, fun e he H6 k6 st6 => ⟨sz 2, fun L3 H7 k7 n7 e7 => ?_⟩⟩
      have k17 : Kp [d] H H7 := (k15.trans k6).trans k7.any
      have st7 := st6.kp0 k7
      obtain ⟨pe, hpe, hp1, hp3⟩ : ∃ e' : Nat, atI [V.int 0, vi e] (if decide ((1 : Int) < (rows : Int)) then 1 else 0) = some (vi e') ∧ (rows = 1 → e' = 0) ∧ e' ≤ 3 := by
        by_cases h1 : rows = 1
        · refine ⟨0, ?_, fun _ => rfl, by omega⟩
          rw [h1]
          exact atN (n := 0) (by decide) rfl
        · refine ⟨e, ?_, fun z => absurd z h1, by omega⟩
          rw [decide_eq_true (by omega : (1 : Int) < (rows : Int))]
          exact atN (n := 1) (by decide) rfl
      refine ⟨_, rfl, _, _, rfl, rfl, .inr ⟨_, rfl, L3, _, _, _, rfl, rfl, SqL.of e7, hpe, _, _, rfl, rfl, ?_⟩⟩
      refine ⟨_, rfl, _, rfl, _, _, rfl, rfl, _, _, rfl, rfl, .inr ⟨by omega, by omega⟩, _, rfl, _, rfl, _, _, rfl, rfl, ⟨(by omega : (0 : Int) < rows), (by omega : (rows : Int) < 1073741824)⟩, _, _, rfl, rfl, ?_⟩
      refine ⟨_, rfl, _, rfl, _, _, rfl, rfl, _, rfl, ?_⟩
      have i2 : ((size : Int) / (rows : Int) + (pe : Int)) * ((rows : Int) - 1) + (size : Int) / (rows : Int) = (((size / rows + pe) * (rows - 1) + size / rows : Nat) : Int) := by
        rw [i1, Int.natCast_add, Int.natCast_mul, Int.natCast_sub r1, Int.natCast_add]
        rfl
      by_cases hsp : top < (size / rows + pe) * (rows - 1) + size / rows
      · refine iteDT ?_ ?_
        · show (top : Int) < ((size : Int) / (rows : Int) + (pe : Int)) * ((rows : Int) - 1) + (size : Int) / (rows : Int)
          rw [i2]
          omega
        · refine ⟨_, rfl, _, rfl, _, rfl, _, _, rfl, rfl, _, _, rfl, rfl, d, top - size + 1, N + 2, ?_, st7, by omega, by omega, by omega, fun e2 he2 H8 k8 st8 => ⟨_, rfl, _, rfl, sz 4, fun T9 H9 k9 n9 e9 => ?_⟩⟩
          · have : ((top : Int) - (size : Int) + 1) = ((top - size + 1 : Nat) : Int) := by omega
            show [V.ref d, V.int ((top : Int) - (size : Int) + 1)] = _
            rw [this]
          · refine q ⟨e2, size, 1, size⟩ ⟨s1, Nat.le_refl _, Nat.le_refl _, fun _ => rfl, by show 1 * size ≤ 8; omega, by show e2 + (1 - 1) * size + size ≤ top; omega, by show size ≤ 40; omega⟩ (Nat.mul_one size) H9 _ ((k17.trans k8).trans k9.any) ?_ (st8.kp0 k9)
            exact TDs.tup e9 (TDs.cons (.int _) (TDs.cons (.int _) (TDs.cons (.int _) (TDs.cons (.int _) TDs.nil))))
      · refine iteDF ?_ ?_
        · show ¬ (top : Int) < ((size : Int) / (rows : Int) + (pe : Int)) * ((rows : Int) - 1) + (size : Int) / (rows : Int)
          rw [i2]
          omega
        · refine ⟨_, rfl, _, rfl, _, rfl, _, _, rfl, rfl, _, _, rfl, rfl, d, top - ((size / rows + pe) * (rows - 1) + size / rows) + 1, N + 2, ?_, st7, by omega, by omega, by omega, fun e2 he2 H8 k8 st8 => ?_⟩
          · have : ((top : Int) - (((size / rows + pe) * (rows - 1) + size / rows : Nat) : Int) + 1) = ((top - ((size / rows + pe) * (rows - 1) + size / rows) + 1 : Nat) : Int) := by omega
            show [V.ref d, V.int ((top : Int) - (((size : Int) / (rows : Int) + (pe : Int)) * ((rows : Int) - 1) + (size : Int) / (rows : Int)) + 1)] = _
            rw [i2, this]
          · refine ⟨_, rfl, _, rfl, _, _, rfl, rfl, ⟨(by omega : (0 : Int) < rows), (by omega : (rows : Int) < 1073741824)⟩, _, rfl, _, rfl, sz 4, fun T9 H9 k9 n9 e9 => ?_⟩
            refine q ⟨e2, size / rows, rows, size / rows + pe⟩ ⟨c1, r1, Nat.le_add_right _ _, fun z => by rw [hp1 z]; rfl, ?_, ?_, ?_⟩ sd H9 _ ((k17.trans k8).trans k9.any) ?_ (st8.kp0 k9)
            · show rows * (size / rows) ≤ 8
              rw [Nat.mul_comm, sd]
              exact s8
            · show e2 + (rows - 1) * (size / rows + pe) + size / rows ≤ top
              rw [Nat.mul_comm]
              omega
            · show size / rows + pe ≤ 40
              omega
            · have e9' : H9 T9 = some (.tup [vi e2, vi (size / rows), vi rows, vi (size / rows + pe)]) := e9.trans (by
                show some (HO.tup [vi e2, V.int ((size : Int) / (rows : Int)), vi rows, V.int ((size : Int) / (rows : Int) + (pe : Int))]) = _
                rw [i1]
                rfl)
              exact TDs.tup e9' (TDs.cons (.int _) (TDs.cons (.int _) (TDs.cons (.int _) (TDs.cons (.int _) TDs.nil))))
theorem pick_skip {sk sz ix : Nat} (h : ix < 3) (hs : sk < sz) : ∃ c : Nat, atI [V.int 0, V.int 0, vi sk] (ix : Int) = some (vi c) ∧ c < sz := by
  have : ix = 0 ∨ ix = 1 ∨ ix = 2 := by omega
  rcases this with rfl | rfl | rfl
  · exact ⟨0, atN (n := 0) rfl rfl, by omega⟩
  · exact ⟨0, atN (n := 1) rfl rfl, by omega⟩
  · exact ⟨sk, atN (n := 2) rfl rfl, hs⟩
abbrev N__law_moving : List Str := ["_law_state", "_law_top", "_law_way", "_law_size", "_law_aim"]
theorem sc__law_moving : FnScope N__law_moving ["_law_state", "_law_top"] (defScope s__law_moving) := ⟨rfl, rfl, rfl, by decide +kernel, rfl, by decide +kernel, by decide +kernel⟩
def sp_moving : Sp := fun vs H Q _ => ∃ (d : Addr) (top N : Nat), vs = [.ref d, vi top] ∧ StAt H d N ∧ 8 ≤ top ∧ top ≤ 40 ∧ N ≤ 700000 ∧
  ∀ t : Stp, t.Ok top → (∀ g, t ≠ .note g) → ∀ H' v, Kp [d] H H' → TD H' v t.d → StAt H' d (N + 14) → Q v H'
theorem ok_moving (T : Txt K mg) (F : Fd K "_law_moving" "_law_moving" s__law_moving f fd) (D__law_take : Cal P w K mg base 2 "_law_take" ["_law_state", "_law_count"] sp_take) (D__law_area : Cal P w K mg base 4 "_law_area" ["_law_state", "_law_top", "_law_size"] sp_area)
    (D__law_byte : Cal P w K mg base 4 "_law_byte" ["_law_state"] sp_byte) : FnOk P w K mg base CX0 5 f fd ["_law_state", "_law_top"] sp_moving := by
  refine FunD.ok F sc__law_moving (fun vs H Q E h => ?_) (fun cdv AA outer s H vs Q E hr h => ?_)
  · obtain ⟨d, top, N, rfl, _⟩ := h
    rfl
  · obtain ⟨d, top, N, rfl, hd, t8, t40, hN, q⟩ := h
    refine ⟨_, PSs.nox (pss_cons (ps_par (i := 2) (j := 3) rfl sc__law_moving.nd rfl rfl (by decide) rfl rfl (pa_cons (pc D__law_take hr (pa_cons (pv 0) (pa_cons pe_int pa_nil))) (pa_cons (pe_op op_add pe_int (pc D__law_take hr (pa_cons (pv 0) (pa_cons (pe_ix ix_list (pe_lstK (pa_cons pe_int (pa_cons (pe_callB (call_min2 rfl) (by rfl) T.b_min (by decide +kernel) (pa_cons pe_int (pa_cons (pv 1) pa_nil))) pa_nil))) (pc D__law_take hr (pa_cons (pv 0) (pa_cons pe_int pa_nil))) (fun _ _ => rfl)) pa_nil)))) pa_nil)) (by rfl))
      (pss_cons (ps_set (i := 4) sc__law_moving.nd rfl (Or.inl rfl) (pc D__law_area hr (pa_cons (pv 0) (pa_cons (pv 1) (pa_cons (pv 3) pa_nil)))))
      (pss_cons (ps_if (pt_cmpR op_lt (pv 2) pe_int (nomark _)) (pss_one (ps_ret (pe_tupK (pa_cons pe_str (pa_cons (pc D__law_area hr (pa_cons (pv 0) (pa_cons (pv 1) (pa_cons (pv 3) pa_nil)))) (pa_cons (pv 4) (pa_cons (pe_ix ix_list (pe_lstK (pa_cons pe_int (pa_cons pe_int (pa_cons (pc D__law_take hr (pa_cons (pv 0) (pa_cons (pv 3) pa_nil))) pa_nil)))) (pc D__law_take hr (pa_cons (pv 0) (pa_cons pe_int pa_nil))) (fun _ _ => rfl)) pa_nil))))))) pss_nil)
      (pss_cons (ps_if (pt_cmpR op_lt (pv 2) pe_int (nomark _)) (pss_one (ps_ret (pe_tupK (pa_cons pe_str (pa_cons (pv 4) (pa_cons (pc D__law_byte hr (pa_cons (pv 0) pa_nil)) (pa_cons (pe_ix ix_list (pe_lstK (pa_cons pe_int (pa_cons pe_int (pa_cons (pc D__law_take hr (pa_cons (pv 0) (pa_cons (pv 3) pa_nil))) pa_nil)))) (pc D__law_take hr (pa_cons (pv 0) (pa_cons pe_int pa_nil))) (fun _ _ => rfl)) pa_nil))))))) pss_nil)
      (pss_one (ps_ret (pe_tupK (pa_cons pe_str (pa_cons (pv 4) (pa_cons (pc D__law_take hr (pa_cons (pv 0) (pa_cons (pv 1) pa_nil))) pa_nil)))))))))), ?_⟩
    refine ⟨_, rfl, d, 6, N, rfl, hd, by decide, by decide, by omega, fun way hway H1 k1 st1 => ?_⟩
    have hmin : (if (top : Int) < 8 then (top : Int) else 8) = 8 := if_neg (by omega)
    refine ⟨_, rfl, _, rfl, 8, top, rfl, sz 2, fun L1 H2 k2 n2 e2 => ?_⟩
    refine ⟨_, rfl, d, 2, N + 1, rfl, st1.kp0 k2, by decide, by decide, by omega, fun ix hix H3 k3 st3 => ?_⟩
    have nd : L1 ≠ d := fun z => by obtain ⟨_, _, _, _, e, _⟩ := st1; rw [z, e] at n2; cases n2
    have k13 : Kp [d] H H3 := (k1.trans k2.any).trans k3
    obtain ⟨lim, hlim, lm1, lm8⟩ : ∃ c : Nat, atI [V.int 4, V.int (if (top : Int) < 8 then (top : Int) else 8)] (ix : Int) = some (vi c) ∧ 1 ≤ c ∧ c ≤ 8 := by
      rw [hmin]
      have : ix = 0 ∨ ix = 1 := by omega
      rcases this with rfl | rfl
      · exact ⟨4, atN (n := 0) rfl rfl, by decide, by decide⟩
      · exact ⟨8, atN (n := 1) rfl rfl, by decide, by decide⟩
    refine ⟨L1, _, _, _, rfl, rfl, SqL.of (k3.keep _ _ e2 (by simp [nd])), hlim, d, lim, N + 2, rfl, st3, lm1, by omega, by omega, fun s0 hs0 H4 k4 st4 => ?_⟩
    have k14 := k13.trans k4
    refine ⟨_, _, rfl, rfl, _, _, rfl, ?_⟩
    have esz : (1 : Int) + (s0 : Int) = ((1 + s0 : Nat) : Int) := by omega
    refine ⟨_, rfl, _, rfl, _, rfl, d, top, 1 + s0, N + 3, by show [V.ref d, vi top, V.int ((1 : Int) + (s0 : Int))] = _; rw [esz], st4, by omega, by omega, by omega, t40, by omega, fun aim aok asz H5 av k5 ta st5 => ?_⟩
    have k15 := k14.trans k5
    have dk : ∀ {G : Hp} {M : Nat} {L : Addr}, StAt G d M → G L = none → L ≠ d := fun h n z => by obtain ⟨_, _, _, _, e, _⟩ := h; rw [z, e] at n; cases n
    refine ⟨_, rfl, _, _, rfl, rfl, _, rfl, ?_⟩
    by_cases h3 : way < 3
    · refine iteDT (by omega : (way : Int) < 3) ?_
      refine ⟨_, rfl, _, rfl, _, rfl, d, top, 1 + s0, N + 6, by show [V.ref d, vi top, V.int ((1 : Int) + (s0 : Int))] = _; rw [esz], st5, by omega, by omega, by omega, t40, by omega, fun b bok bsz H6 bv k6 tb st6 => ?_⟩
      refine ⟨_, rfl, _, rfl, _, rfl, d, 1 + s0, N + 9, by show [V.ref d, V.int ((1 : Int) + (s0 : Int))] = _; rw [esz], st6, by omega, by omega, by omega, fun sk hsk H7 k7 st7 => ⟨sz 3, fun L8 H8 k8 n8 e8 => ?_⟩⟩
      have ndL := dk st7 n8
      refine ⟨_, rfl, d, 3, N + 10, rfl, st7.kp0 k8, by decide, by decide, by omega, fun ix2 h2 H9 k9 st9 => ?_⟩
      have k19 := (((k15.trans k6).trans k7).trans k8.any).trans k9
      obtain ⟨sv, hpick, hsv⟩ := pick_skip h2 hsk
      refine ⟨L8, _, _, _, rfl, rfl, SqL.of (k9.keep _ _ e8 (by simp [ndL])), hpick, sz 4, fun TT HT kT nT eT => ?_⟩
      refine q (.copy b aim sv) ⟨bok, aok, by rw [bsz, asz], by rw [bsz]; exact hsv⟩ (fun g z => by cases z) HT _ (k19.trans kT.any) ?_ ((st9.kp0 kT).up (by omega))
      have kb := ((k7.trans k8.any).trans k9).trans kT.any
      exact TDs.tup eT (TDs.cons (.str _) (TDs.cons (tb.kp kb) (TDs.cons (ta.kp (k6.trans kb)) (TDs.cons (.int _) TDs.nil))))
    · refine iteDF (by omega : ¬ (way : Int) < 3) ?_
      refine ⟨_, rfl, _, _, rfl, rfl, _, rfl, ?_⟩
      by_cases h5 : way < 5
      · refine iteDT (by omega : (way : Int) < 5) ?_
        refine ⟨_, rfl, _, rfl, d, N + 6, rfl, st5, by omega, fun bb hbb H6 k6 st6 => ?_⟩
        refine ⟨_, rfl, _, rfl, d, 1 + s0, N + 8, by show [V.ref d, V.int ((1 : Int) + (s0 : Int))] = _; rw [esz], st6, by omega, by omega, by omega, fun sk hsk H7 k7 st7 => ⟨sz 3, fun L8 H8 k8 n8 e8 => ?_⟩⟩
        have ndL := dk st7 n8
        refine ⟨_, rfl, d, 3, N + 9, rfl, st7.kp0 k8, by decide, by decide, by omega, fun ix2 h2 H9 k9 st9 => ?_⟩
        have k19 := (((k15.trans k6).trans k7).trans k8.any).trans k9
        obtain ⟨sv, hpick, hsv⟩ := pick_skip h2 hsk
        refine ⟨L8, _, _, _, rfl, rfl, SqL.of (k9.keep _ _ e8 (by simp [ndL])), hpick, sz 4, fun TT HT kT nT eT => ?_⟩
        refine q (.fill aim bb sv) ⟨aok, hbb, by rw [asz]; exact hsv⟩ (fun g z => by cases z) HT _ (k19.trans kT.any) ?_ ((st9.kp0 kT).up (by omega))
        have kb := (((k6.trans k7).trans k8.any).trans k9).trans kT.any
        exact TDs.tup eT (TDs.cons (.str _) (TDs.cons (ta.kp kb) (TDs.cons (.int _) (TDs.cons (.int _) TDs.nil))))
      · refine iteDF (by omega : ¬ (way : Int) < 5) ?_
        refine ⟨_, rfl, _, rfl, _, rfl, d, top, N + 6, rfl, st5, by omega, by omega, by omega, fun c hc H6 k6 st6 => ⟨sz 3, fun TT HT kT nT eT => ?_⟩⟩
        refine q (.add aim c) ⟨aok, hc⟩ (fun g z => by cases z) HT _ ((k15.trans k6).trans kT.any) ?_ ((st6.kp0 kT).up (by omega))
        exact TDs.tup eT (TDs.cons (.str _) (TDs.cons (ta.kp (k6.trans kT.any)) (TDs.cons (.int _) TDs.nil)))
abbrev N__law_a_step : List Str := ["_law_state", "_law_top", "_law_hand", "_law_is_calm", "_law_way"]
theorem sc__law_a_step : FnScope N__law_a_step ["_law_state", "_law_top", "_law_hand", "_law_is_calm"] (defScope s__law_a_step) := ⟨rfl, rfl, rfl, by decide +kernel, rfl, by decide +kernel, by decide +kernel⟩
def sp_a_step : Sp := fun vs H Q _ => ∃ (d : Addr) (top hand N : Nat) (calm : Bool), vs = [.ref d, vi top, vi hand, .bl calm] ∧ StAt H d N ∧ 8 ≤ top ∧ top ≤ 40 ∧ hand ≤ 1 ∧ N ≤ 600000 ∧
  ∀ t : Stp, t.Ok top → (∀ g, t = .note g → g / 4 = hand) → ∀ H' v, Kp [d] H H' → TD H' v t.d → StAt H' d (N + 16) → Q v H'
theorem ok_a_step (T : Txt K mg) (F : Fd K "_law_a_step" "_law_a_step" s__law_a_step f fd) (D__law_take : Cal P w K mg base 2 "_law_take" ["_law_state", "_law_count"] sp_take) (D__law_moving : Cal P w K mg base 5 "_law_moving" ["_law_state", "_law_top"] sp_moving) :
    FnOk P w K mg base CX0 6 f fd ["_law_state", "_law_top", "_law_hand", "_law_is_calm"] sp_a_step := by
  refine FunD.ok F sc__law_a_step (fun vs H Q E h => ?_) (fun cdv AA outer s H vs Q E hr h => ?_)
  · obtain ⟨d, top, hand, N, calm, rfl, _⟩ := h
    rfl
  · obtain ⟨d, top, hand, N, calm, rfl, hd, t8, t40, hh, hN, q⟩ := h
    refine ⟨_, PSs.nox (pss_cons (ps_set (i := 4) sc__law_a_step.nd rfl (Or.inl rfl) (pc D__law_take hr (pa_cons (pv 0) (pa_cons pe_int pa_nil))))
      (pss_cons (ps_if (pt_cmpR op_lt (pv 4) pe_int (nomark _)) (pss_one (ps_ret (pc D__law_moving hr (pa_cons (pv 0) (pa_cons (pv 1) pa_nil))))) pss_nil)
      (pss_cons (ps_if (PW.pt (pw_or (pt_cmpR op_eq (pv 4) pe_int (nomark _)) (pw_or1 (PW.pt (pw_and (pt_cmpR op_eq (pv 4) pe_int (nomark _)) (pw_and1 (pt_val (pv 3)))))))) (pss_one (ps_ret (pe_tupK (pa_cons pe_str (pa_cons (pe_op op_add (pe_op op_mul pe_int (pv 2)) (pc D__law_take hr (pa_cons (pv 0) (pa_cons pe_int pa_nil)))) pa_nil))))) pss_nil)
      (pss_cons (ps_if (pt_cmpR op_eq (pv 4) pe_int (nomark _)) (pss_one (ps_ret (pe_tupK (pa_cons pe_str (pa_cons (pe_op op_add (pe_op op_mul pe_int (pc D__law_take hr (pa_cons (pv 0) (pa_cons pe_int pa_nil)))) (pc D__law_take hr (pa_cons (pv 0) (pa_cons pe_int pa_nil)))) (pa_cons (pe_op op_add pe_int (pc D__law_take hr (pa_cons (pv 0) (pa_cons pe_int pa_nil)))) pa_nil)))))) pss_nil)
      (pss_one (ps_ret (pe_tupK (pa_cons pe_str pa_nil)))))))), ?_⟩
    refine ⟨_, rfl, d, 10, N, rfl, hd, by decide, by decide, by omega, fun way hway H1 k1 st1 => ?_⟩
    have eqW : ∀ c : Nat, decide (V.int (way : Nat) = V.int (c : Nat)) = decide (way = c) := fun c => by
      rw [decide_eq_decide]
      exact ⟨fun h => by have := V.int.inj h; omega, fun h => by rw [h]⟩
    refine ⟨_, rfl, _, _, rfl, rfl, _, rfl, ?_⟩
    by_cases h7 : way < 7
    · refine iteDT (by omega : (way : Int) < 7) ?_
      exact ⟨_, rfl, _, rfl, d, top, N + 1, rfl, st1, t8, t40, by omega, fun t tok tn H2 v k2 tt st2 => q t tok (fun g z => absurd z (tn g)) H2 v (k1.trans k2) tt (st2.up (by omega))⟩
    · refine iteDF (by omega : ¬ (way : Int) < 7) ?_
      have note : ∀ e, e < 2 → ∀ (H2 H3 : Hp) (T3 : Addr), Kp [d] H1 H2 → StAt H2 d (N + 2) → Kp [] H2 H3 → H3 T3 = some (.tup [.str (Str.ofString "note"), vi (4 * hand + e)]) → Q (.ref T3) H3 := fun e he H2 H3 T3 k2 st2 k3 e3 =>
        q (.note (4 * hand + e)) (show 4 * hand + e < 8 by omega) (fun g z => by cases z; omega) H3 _ ((k1.trans k2).trans k3.any) (TDs.tup e3 (TDs.cons (.str _) (TDs.cons (.int _) TDs.nil))) ((st2.kp0 k3).up (by omega))
      have hw : way = 7 ∨ way = 8 ∨ way = 9 := by omega
      clear eqW hway h7
      rcases hw with rfl | rfl | rfl
      · exact ⟨_, rfl, rfl, _, rfl, iteDT rfl (iteT ⟨_, rfl, _, _, rfl, rfl, .inl ⟨by decide, by decide⟩, _, rfl, d, 2, N + 1, rfl, st1, by decide, by decide, by omega, fun e he H2 k2 st2 => ⟨_, _, rfl, rfl, sz 2, fun T3 H3 k3 n3 e3 => note e he H2 H3 T3 k2 st2 k3 e3⟩⟩)⟩
      · refine ⟨_, rfl, rfl, _, rfl, iteDF (by decide) ⟨_, rfl, rfl, _, rfl, iteDT rfl ⟨_, rfl, _, rfl, ?_⟩⟩⟩
        cases calm with
        | true => exact iteT ⟨_, rfl, _, _, rfl, rfl, .inl ⟨by decide, by decide⟩, _, rfl, d, 2, N + 1, rfl, st1, by decide, by decide, by omega, fun e he H2 k2 st2 => ⟨_, _, rfl, rfl, sz 2, fun T3 H3 k3 n3 e3 => note e he H2 H3 T3 k2 st2 k3 e3⟩⟩
        | false =>
          refine iteF ⟨_, rfl, rfl, _, rfl, iteDT rfl ?_⟩
          refine ⟨_, rfl, d, 2, N + 1, rfl, st1, by decide, by decide, by omega, fun e1 h1 H2 k2 st2 => ⟨_, _, rfl, rfl, .inl ⟨by decide, by decide⟩, ?_⟩⟩
          refine ⟨_, rfl, d, 2, N + 2, rfl, st2, by decide, by decide, by omega, fun e2 h2 H3 k3 st3 => ⟨_, _, rfl, rfl, ?_⟩⟩
          refine ⟨_, rfl, d, 2, N + 3, rfl, st3, by decide, by decide, by omega, fun e3 h3 H4 k4 st4 => ⟨_, _, rfl, rfl, sz 3, fun T5 H5 k5 n5 e5 => ?_⟩⟩
          refine q (.wait (4 * e1 + e2) (1 + e3)) ⟨by omega, by omega, by omega⟩ (fun g z => by cases z) H5 _ ((((k1.trans k2).trans k3).trans k4).trans k5.any) ?_ ((st4.kp0 k5).up (by omega))
          have e5' : H5 T5 = some (.tup [.str (Str.ofString "wait"), vi (4 * e1 + e2), vi (1 + e3)]) := e5
          exact TDs.tup e5' (TDs.cons (.str _) (TDs.cons (.int _) (TDs.cons (.int _) TDs.nil)))
      · refine ⟨_, rfl, rfl, _, rfl, iteDF (by decide) ⟨_, rfl, rfl, _, rfl, iteDF (by decide) ?_⟩⟩
        refine iteF ⟨_, rfl, rfl, _, rfl, iteDF (by decide) ?_⟩
        exact ⟨sz 1, fun T2 H2 k2 n2 e2 => q .fence trivial (fun g z => by cases z) H2 _ (k1.trans k2.any) (TDs.tup e2 (TDs.cons (.str _) TDs.nil)) ((st1.kp0 k2).up (by omega))⟩
abbrev N__law_line : List Str := ["_law_state", "_law_top", "_law_hand", "_law_is_calm", "_law_few", "_law_k"]
theorem sc__law_line : FnScope N__law_line ["_law_state", "_law_top", "_law_hand", "_law_is_calm", "_law_few"] (defScope s__law_line) := ⟨rfl, rfl, rfl, by decide +kernel, rfl, by decide +kernel, by decide +kernel⟩
def sp_line : Sp := fun vs H Q _ => ∃ (d : Addr) (top hand N : Nat) (calm : Bool), vs = [.ref d, vi top, vi hand, .bl calm, vi 4] ∧ StAt H d N ∧ 8 ≤ top ∧ top ≤ 40 ∧ hand ≤ 1 ∧ N ≤ 500000 ∧
  ∀ l : List Stp, 1 ≤ l.length → l.length ≤ 4 → (∀ t ∈ l, t.Ok top ∧ ∀ g, t = .note g → g / 4 = hand) → ∀ H' v, Kp [d] H H' → TD H' v (.tuple (l.map Stp.d)) → StAt H' d (N + 65) → Q v H'
theorem ok_line (T : Txt K mg) (F : Fd K "_law_line" "_law_line" s__law_line f fd) (D__law_take : Cal P w K mg base 2 "_law_take" ["_law_state", "_law_count"] sp_take) (D__law_a_step : Cal P w K mg base 6 "_law_a_step" ["_law_state", "_law_top", "_law_hand", "_law_is_calm"] sp_a_step) :
    FnOk P w K mg base CX0 7 f fd ["_law_state", "_law_top", "_law_hand", "_law_is_calm", "_law_few"] sp_line := by
  refine FunD.ok F sc__law_line (fun vs H Q E h => ?_) (fun cdv AA outer s H vs Q E hr h => ?_)
  · obtain ⟨d, top, hand, N, calm, rfl, _⟩ := h
    rfl
  · obtain ⟨d, top, hand, N, calm, rfl, hd, t8, t40, hh, hN, q⟩ := h
    refine ⟨_, PSs.nox (pss_one (ps_ret (pe_callTy call_tupleK (by rfl) T.b_tuple (by decide +kernel) (pa_cons (pe_lc (own := [("_law_k", 5)]) (g := (gName 5)) (tt := tYes) rfl sc__law_line.nd (pi_range1 (by rfl) T.b_range (pa_cons (pe_op op_add pe_int (pc D__law_take hr (pa_cons (pv 0) (pa_cons (pv 4) pa_nil)))) pa_nil)) (blkOk_by (N := N__law_line) (sc := defScope s__law_line) (by decide +kernel)) (fun _ _ _ _ _ => (pg_name (i := 5) sc__law_line.nd rfl (Or.inl rfl))) (fun _ _ _ _ _ => pts_nil) (fun _ _ _ _ _ => (pc D__law_a_step hr (pa_cons (pv 0) (pa_cons (pv 1) (pa_cons (pv 2) (pa_cons (pv 3) pa_nil))))))) pa_nil)))), ?_⟩
    refine ⟨_, rfl, _, rfl, d, 4, N, rfl, hd, by decide, by decide, by omega, fun n hn H1 k1 st1 => ⟨_, _, rfl, rfl, _, rfl, (by omega : -(2 ^ 62) ≤ (1 : Int) + (n : Int)), (by omega : (1 : Int) + (n : Int) < 2 ^ 62), fun D hD => ?_⟩⟩
    have hnn : ((1 : Int) + (n : Int)).toNat = n + 1 := by omega
    have nd : D ≠ d := fun z => by obtain ⟨_, _, _, _, e, _⟩ := st1; rw [z, e] at hD; cases hD
    refine lc_st (walk_rg (n := ((1 : Int) + (n : Int)).toNat)) [d] (fun i acc H => ∃ l : List Stp, l.length = i ∧ TDs H acc (l.map Stp.d) ∧ (∀ t ∈ l, t.Ok top ∧ ∀ g, t = .note g → g / 4 = hand) ∧ StAt H d (N + 1 + 16 * i)) hD (by simp [nd]) (fun i acc H H' k h => ?_) ⟨[], rfl, TDs.nil, fun t h => (by cases h), st1⟩ (fun H k => trivial) YFn.kp (fun i acc H hi h => ?_) (fun i x H2 H3 acc hi k2 h y NN S hN' hS => ?_) (fun H2 acc k2 e2 h => ?_)
    · obtain ⟨l, a, b, c, e⟩ := h
      exact ⟨l, a, b.kp k, c, e.kp k (by simp [nd.symm])⟩
    · obtain ⟨l, a, b, _⟩ := h
      have := b.1
      rw [List.length_map] at this
      omega
    · obtain ⟨rfl, rfl⟩ := y
      obtain ⟨l, a, b, c, e⟩ := h
      refine ⟨rfl, _, rfl, _, rfl, _, rfl, _, rfl, d, top, hand, N + 1 + 16 * i, calm, rfl, e, t8, t40, hh, by omega, fun t tok tn H4 v k4 tt st4 => hN' v H4 k4 ⟨l ++ [t], by simp [a], ?_, fun x hx => ?_, st4.up (by omega)⟩⟩
      · rw [List.map_append]
        exact TDs.append (b.kp k4) (TDs.cons tt TDs.nil)
      · rcases List.mem_append.mp hx with hx | hx
        · exact c x hx
        · rw [List.mem_singleton.mp hx]
          exact ⟨tok, tn⟩
    · obtain ⟨l, a, b, c, e⟩ := h
      rw [hnn] at a e
      exact ⟨D, _, rfl, SqL.of e2, fun T3 H3 k3 n3 e3 => q l (by omega) (by omega) c H3 _ ((k1.trans k2).trans k3.any) (TDs.tup e3 (b.kp k3)) ((e.kp0 k3).up (by omega))⟩
end
end L2.K14
set_option Elab.async false
set_option linter.all false
set_option maxRecDepth 100000
set_option maxHeartbeats 4000000
set_option pp.maxSteps 600
/-! the law's draws: sheets, stores, states -/
namespace L2.K14
open PySem PySem.Spec PyProof.Rows
section
variable {P : Program} {w : World} {K : PySem.W.Frag} {mg : Str → Option Value} {base : Heap} {f : Addr} {fd : FuncData}
abbrev N__law_sheet : List Str := ["_law_state", "_law_top", "_law_few", "_law_found", "_law_is_calm", "_law_k", "_law_way", "_law_hand"]
theorem sc__law_sheet : FnScope N__law_sheet ["_law_state", "_law_top", "_law_few"] (defScope s__law_sheet) := ⟨rfl, rfl, rfl, by decide +kernel, rfl, by decide +kernel, by decide +kernel⟩
def sp_sheet : Sp := fun vs H Q _ => ∃ (d : Addr) (top N : Nat), vs = [.ref d, vi top, vi 5] ∧ StAt H d N ∧ 8 ≤ top ∧ top ≤ 40 ∧ N ≤ 400000 ∧
  ∀ p : List Ded, SheetOk top p → p.length ≤ 5 → ∀ H' v, Kp [d] H H' → TD H' v (sheetD p) → StAt H' d (N + 400) → Q v H'
theorem ok_sheet (T : Txt K mg) (F : Fd K "_law_sheet" "_law_sheet" s__law_sheet f fd) (D__law_take : Cal P w K mg base 2 "_law_take" ["_law_state", "_law_count"] sp_take) (D__law_byte : Cal P w K mg base 4 "_law_byte" ["_law_state"] sp_byte)
    (D__law_line : Cal P w K mg base 7 "_law_line" ["_law_state", "_law_top", "_law_hand", "_law_is_calm", "_law_few"] sp_line) : FnOk P w K mg base CX0 8 f fd ["_law_state", "_law_top", "_law_few"] sp_sheet := by
  refine FunD.ok F sc__law_sheet (fun vs H Q E h => ?_) (fun cdv AA outer s H vs Q E hr h => ?_)
  · obtain ⟨d, top, N, rfl, _⟩ := h
    rfl
  · obtain ⟨d, top, N, rfl, hd, t8, t40, hN, q⟩ := h
    refine ⟨_, PSs.nox (pss_cons (ps_par (i := 3) (j := 4) rfl sc__law_sheet.nd rfl rfl (by decide) rfl rfl (pa_cons (pe_lstK pa_nil) (pa_cons (pe_cmpR op_gt (pc D__law_take hr (pa_cons (pv 0) (pa_cons pe_int pa_nil))) pe_int (nomark _)) pa_nil)) (by rfl))
      (pss_cons (ps_for PassesOwn.never rfl (pi_range1 (by rfl) T.b_range (pa_cons (pe_op op_add pe_int (pc D__law_take hr (pa_cons (pv 0) (pa_cons (pv 2) pa_nil)))) pa_nil)) (pg_name (i := 5) sc__law_sheet.nd rfl (Or.inl rfl)) (pss_cons (ps_par (i := 6) (j := 7) rfl sc__law_sheet.nd rfl rfl (by decide) rfl rfl (pa_cons (pc D__law_take hr (pa_cons (pv 0) (pa_cons pe_int pa_nil))) (pa_cons (pc D__law_take hr (pa_cons (pv 0) (pa_cons pe_int pa_nil))) pa_nil)) (by rfl))
      (pss_one (ps_if (pt_cmpR op_lt (pv 6) pe_int (nomark _)) (pss_one (ps_expr (pe_bm PySem.F.plainAttrs_list PySem.F.slot_list_append PySem.F.type_list_append mt_append (pv 3) (pa_cons (pe_tupK (pa_cons pe_str (pa_cons (pv 7) (pa_cons (pc D__law_line hr (pa_cons (pv 0) (pa_cons (pv 1) (pa_cons (pv 7) (pa_cons (pv 4) (pa_cons pe_int pa_nil)))))) pa_nil)))) pa_nil)))) (pss_one (ps_if (pt_cmpR op_eq (pv 6) pe_int (nomark _)) (pss_one (ps_expr (pe_bm PySem.F.plainAttrs_list PySem.F.slot_list_append PySem.F.type_list_append mt_append (pv 3) (pa_cons (pe_tupK (pa_cons pe_str (pa_cons (pc D__law_take hr (pa_cons (pv 0) (pa_cons (pv 1) pa_nil))) (pa_cons (pc D__law_byte hr (pa_cons (pv 0) pa_nil)) pa_nil)))) pa_nil)))) (pss_one (ps_if (PW.pt (pw_or (pt_cmpR op_eq (pv 6) pe_int (nomark _)) (pw_or1 (PW.pt (pw_and (pt_cmpR op_eq (pv 6) pe_int (nomark _)) (pw_and1 (pt_val (pv 4)))))))) (pss_one (ps_expr (pe_bm PySem.F.plainAttrs_list PySem.F.slot_list_append PySem.F.type_list_append mt_append (pv 3) (pa_cons (pe_tupK (pa_cons pe_str (pa_cons (pc D__law_take hr (pa_cons (pv 0) (pa_cons (pv 1) pa_nil))) pa_nil))) pa_nil)))) (pss_one (ps_if (pt_cmpR op_eq (pv 6) pe_int (nomark _)) (pss_one (ps_expr (pe_bm PySem.F.plainAttrs_list PySem.F.slot_list_append PySem.F.type_list_append mt_append (pv 3) (pa_cons (pe_tupK (pa_cons pe_str (pa_cons (pv 7) pa_nil))) pa_nil)))) (pss_one (ps_expr (pe_bm PySem.F.plainAttrs_list PySem.F.slot_list_append PySem.F.type_list_append mt_append (pv 3) (pa_cons (pe_tupK (pa_cons pe_str (pa_cons (pe_op op_add (pe_op op_mul pe_int (pv 7)) (pc D__law_take hr (pa_cons (pv 0) (pa_cons pe_int pa_nil)))) (pa_cons (pe_op op_add pe_int (pc D__law_take hr (pa_cons (pv 0) (pa_cons pe_int pa_nil)))) pa_nil)))) pa_nil))))))))))))))
      (pss_one (ps_ret (pe_callTy call_tupleK (by rfl) T.b_tuple (by decide +kernel) (pa_cons (pv 3) pa_nil)))))), ?_⟩
    refine ⟨sz 0, fun F H1 k1 n1 e1 => ?_⟩
    refine ⟨_, rfl, d, 3, N, rfl, hd.kp0 k1, by decide, by decide, by omega, fun c0 hc0 H2 k2 st2 => ⟨_, _, rfl, rfl, ?_⟩⟩
    have nF : F ≠ d := fun z => by obtain ⟨_, _, _, _, e, _⟩ := hd; rw [z, e] at n1; cases n1
    have eF2 := k2.keep _ _ e1 (by simp [nF])
    have k12 : Kp [d] H H2 := k1.any.trans k2
    refine ⟨_, _, rfl, _, rfl, _, rfl, d, 5, N + 1, rfl, st2, by decide, by decide, by omega, fun n hn H3 k3 st3 => ⟨_, _, rfl, rfl, _, rfl, (by omega : -(2 ^ 62) ≤ (1 : Int) + (n : Int)), (by omega : (1 : Int) + (n : Int) < 2 ^ 62), ?_⟩⟩
    have hnn : ((1 : Int) + (n : Int)).toNat = n + 1 := by omega
    have eF3 := k3.keep _ _ eF2 (by simp [nF])
    have k13 : Kp [d] H H3 := k12.trans k3
    generalize hcalm : decide ((0 : Int) < (c0 : Int)) = calm
    refine for_it (walk_rg (n := ((1 : Int) + (n : Int)).toNat)) (fun i σ H' => (Kp [d, F] H3 H' ∧ StAt H' d (N + 2 + 75 * i) ∧ ∃ (p : List Ded) (fv : List V), p.length = i ∧ (∀ t ∈ p, t.Ok top) ∧ H' F = some (.lst fv) ∧ TDs H' fv (p.map Ded.d)) ∧
      ∃ v5 v6 v7, σ = [some (.ref d), some (vi top), some (vi 5), some (.ref F), some (.bl calm), v5, v6, v7]) ⟨⟨Kp.refl _, st3, [], [], rfl, fun t h => (by cases h), eF3, TDs.nil⟩, none, none, none, by rw [← hcalm]; rfl⟩ (fun i σ H' _ h => trivial) (fun i x σ H4 H5 hi h y => ?_) (fun σ H4 h => ?_)
    · obtain ⟨⟨k4, st4, p, fv, pl, pok, eF4, tF⟩, v5, v6, v7, rfl⟩ := h
      obtain ⟨rfl, rfl⟩ := y
      have fl : fv.length = i := by rw [tF.1, List.length_map, pl]
      have i5 : i < 5 := by omega
      refine ⟨_, rfl, d, 8, N + 2 + 75 * i, rfl, st4, by decide, by decide, by omega, fun way hway H6 k6 st6 => ?_⟩
      refine ⟨_, rfl, d, 2, N + 2 + 75 * i + 1, rfl, st6, by decide, by decide, by omega, fun hand hhand H7 k7 st7 => ⟨_, _, rfl, ?_⟩⟩
      have eF7 := (k6.trans k7).keep _ _ eF4 (by simp [nF])
      have fin : ∀ (H8 H9 : Hp) (T8 : Addr) (t : Ded) (M : Nat), Kp [d] H7 H8 → StAt H8 d M → M ≤ N + 2 + 75 * (i + 1) → Kp [] H8 H9 → TD H9 (.ref T8) t.d → t.Ok top → H9 F = some (.lst fv) ∧
          (Kp [d, F] H3 (upd H9 F (.lst (fv ++ [.ref T8]))) ∧ StAt (upd H9 F (.lst (fv ++ [.ref T8]))) d (N + 2 + 75 * (i + 1)) ∧ ∃ (p : List Ded) (fw : List V), p.length = i + 1 ∧ (∀ t ∈ p, t.Ok top) ∧ upd H9 F (.lst (fv ++ [.ref T8])) F = some (.lst fw) ∧ TDs (upd H9 F (.lst (fv ++ [.ref T8]))) fw (p.map Ded.d)) := fun H8 H9 T8 t M k8 st8 hM k9 tt tok => by
        have eF9 := k9.same _ _ (k8.keep _ _ eF7 (by simp [nF]))
        have kF : Kp [F] H9 (upd H9 F (.lst (fv ++ [.ref T8]))) := Kp.put eF9 (by simp) (by simp)
        have kk : Kp [d] H5 H9 := ((k6.trans k7).trans k8).trans k9.any
        refine ⟨eF9, (k4.trans (kk.more (by simp))).trans (kF.more (by simp)), ((st8.kp0 k9).kp kF (by simp [nF.symm])).up hM, p ++ [t], _, by simp [pl], fun x hx => ?_, upd_same, ?_⟩
        · rcases List.mem_append.mp hx with hx | hx
          · exact pok x hx
          · rw [List.mem_singleton.mp hx]
            exact tok
        · rw [List.map_append]
          exact TDs.append ((tF.kp kk).kp kF) (TDs.cons (tt.kp kF) TDs.nil)
      have ll : fv.length < sizeLine := Nat.lt_of_le_of_lt (show fv.length ≤ 1000 by omega) (by decide)
      have see : ∀ (Q' : Prop), (∀ (H9 : Hp) (T9 : Addr), H9 F = some (.lst fv) → (Kp [d, F] H3 (upd H9 F (.lst (fv ++ [.ref T9]))) ∧ StAt (upd H9 F (.lst (fv ++ [.ref T9]))) d (N + 2 + 75 * (i + 1)) ∧ ∃ (p : List Ded) (fw : List V), p.length = i + 1 ∧ (∀ t ∈ p, t.Ok top) ∧ upd H9 F (.lst (fv ++ [.ref T9])) F = some (.lst fw) ∧ TDs (upd H9 F (.lst (fv ++ [.ref T9]))) fw (p.map Ded.d)) → Q') → Q' ∨ True := fun _ _ => .inr trivial
      refine ⟨_, rfl, _, _, rfl, rfl, _, rfl, ?_⟩
      by_cases h4 : way < 4
      · refine iteDT (by omega : (way : Int) < 4) ?_
        refine ⟨_, rfl, .inl ⟨rfl, _, SqL.of eF7⟩, _, rfl, _, rfl, _, rfl, _, rfl, _, rfl, d, top, hand, N + 2 + 75 * i + 2, calm, rfl, st7, t8, t40, by omega, by omega, fun l l1 l4 lok H8 v k8 tl st8 => ⟨sz 3, fun T9 H9 k9 n9 e9 => ?_⟩⟩
        obtain ⟨f1, f2⟩ := fin H8 H9 T9 (.post hand l) _ k8 st8 (by omega) k9 (TDs.tup e9 (TDs.cons (.str _) (TDs.cons (.int _) (TDs.cons (tl.kp k9) TDs.nil)))) ⟨by omega, l1, l4, lok⟩
        exact ⟨F, fv, _, rfl, rfl, f1, ll, f2, _, _, _, rfl⟩
      · refine iteDF (by omega : ¬ (way : Int) < 4) ?_
        have hw : way = 4 ∨ way = 5 ∨ way = 6 ∨ way = 7 := by omega
        have peek : ∀ e, e < top → ∀ (H8 H9 : Hp) (T9 : Addr), Kp [d] H7 H8 → StAt H8 d (N + 2 + 75 * i + 2 + 1) → Kp [] H8 H9 → H9 T9 = some (.tup [.str (Str.ofString "peek"), vi e]) → _ := fun e he H8 H9 T9 k8 st8 k9 e9 =>
          fin H8 H9 T9 (.peek e) _ k8 st8 (by omega) k9 (TDs.tup e9 (TDs.cons (.str _) (TDs.cons (.int _) TDs.nil))) he
        clear hway h4
        rcases hw with rfl | rfl | rfl | rfl
        · refine ⟨_, rfl, rfl, _, rfl, iteDT rfl ?_⟩
          refine ⟨_, rfl, .inl ⟨rfl, _, SqL.of eF7⟩, _, rfl, _, rfl, d, top, N + 2 + 75 * i + 2, rfl, st7, by omega, by omega, by omega, fun c hc H8 k8 st8 => ?_⟩
          refine ⟨_, rfl, d, N + 2 + 75 * i + 3, rfl, st8, by omega, fun b hb H8b k8b st8b => ⟨sz 3, fun T9 H9 k9 n9 e9 => ?_⟩⟩
          obtain ⟨f1, f2⟩ := fin H8b H9 T9 (.poke c b) _ (k8.trans k8b) st8b (by omega) k9 (TDs.tup e9 (TDs.cons (.str _) (TDs.cons (.int _) (TDs.cons (.int _) TDs.nil)))) ⟨hc, hb⟩
          exact ⟨F, fv, _, rfl, rfl, f1, ll, f2, _, _, _, rfl⟩
        · refine ⟨_, rfl, rfl, _, rfl, iteDF (by decide) ⟨_, rfl, rfl, _, rfl, iteDT rfl (iteT ?_)⟩⟩
          refine ⟨_, rfl, .inl ⟨rfl, _, SqL.of eF7⟩, _, rfl, _, rfl, d, top, N + 2 + 75 * i + 2, rfl, st7, by omega, by omega, by omega, fun c hc H8 k8 st8 => ⟨sz 2, fun T9 H9 k9 n9 e9 => ?_⟩⟩
          obtain ⟨f1, f2⟩ := peek c hc H8 H9 T9 k8 st8 k9 e9
          exact ⟨F, fv, _, rfl, rfl, f1, ll, f2, _, _, _, rfl⟩
        · refine ⟨_, rfl, rfl, _, rfl, iteDF (by decide) ⟨_, rfl, rfl, _, rfl, iteDF (by decide) ⟨_, rfl, rfl, _, rfl, iteDF (by decide) (iteF ⟨_, rfl, rfl, _, rfl, iteDT rfl ?_⟩)⟩⟩⟩
          refine ⟨_, rfl, .inl ⟨rfl, _, SqL.of eF7⟩, _, rfl, sz 2, fun T9 H9 k9 n9 e9 => ?_⟩
          obtain ⟨f1, f2⟩ := fin H7 H9 T9 (.join hand) _ (Kp.refl _) st7 (by omega) k9 (TDs.tup e9 (TDs.cons (.str _) (TDs.cons (.int _) TDs.nil))) (show hand ≤ 1 by omega)
          exact ⟨F, fv, _, rfl, rfl, f1, ll, f2, _, _, _, rfl⟩
        · refine ⟨_, rfl, rfl, _, rfl, iteDF (by decide) ⟨_, rfl, rfl, _, rfl, iteDF (by decide) ⟨_, rfl, rfl, _, rfl, iteDT rfl ⟨_, rfl, _, rfl, ?_⟩⟩⟩⟩
          cases calm with
          | true =>
            refine iteT ?_
            refine ⟨_, rfl, .inl ⟨rfl, _, SqL.of eF7⟩, _, rfl, _, rfl, d, top, N + 2 + 75 * i + 2, rfl, st7, by omega, by omega, by omega, fun c hc H8 k8 st8 => ⟨sz 2, fun T9 H9 k9 n9 e9 => ?_⟩⟩
            obtain ⟨f1, f2⟩ := peek c hc H8 H9 T9 k8 st8 k9 e9
            exact ⟨F, fv, _, rfl, rfl, f1, ll, f2, _, _, _, rfl⟩
          | false =>
            refine iteF ⟨_, rfl, rfl, _, rfl, iteDF (by decide) ?_⟩
            refine ⟨_, rfl, .inl ⟨rfl, _, SqL.of eF7⟩, _, rfl, _, _, rfl, rfl, .inl ⟨by decide, by decide⟩, _, rfl, d, 2, N + 2 + 75 * i + 2, rfl, st7, by decide, by decide, by omega, fun g hg H8 k8 st8 => ⟨_, _, rfl, rfl, ?_⟩⟩
            refine ⟨_, rfl, d, 2, N + 2 + 75 * i + 3, rfl, st8, by decide, by decide, by omega, fun b hb H8b k8b st8b => ⟨_, _, rfl, rfl, sz 3, fun T9 H9 k9 n9 e9 => ?_⟩⟩
            have e9' : H9 T9 = some (.tup [.str (Str.ofString "see"), vi (4 * hand + g), vi (1 + b)]) := e9
            obtain ⟨f1, f2⟩ := fin H8b H9 T9 (.see (4 * hand + g) (1 + b)) _ (k8.trans k8b) st8b (by omega) k9 (TDs.tup e9' (TDs.cons (.str _) (TDs.cons (.int _) (TDs.cons (.int _) TDs.nil)))) ⟨by omega, by omega, by omega⟩
            exact ⟨F, fv, _, rfl, rfl, f1, ll, f2, _, _, _, rfl⟩
    · obtain ⟨⟨k4, st4, p, fv, pl, pok, eF4, tF⟩, v5, v6, v7, rfl⟩ := h
      rw [hnn] at pl st4
      refine ⟨_, rfl, F, _, rfl, SqL.of eF4, fun T5 H5 k5 n5 e5 => ?_⟩
      have kA : Kp (F :: [d]) H H5 := ((k13.more (by simp)).trans (k4.more (by simp))).trans k5.any
      exact q p ⟨by omega, by omega, pok⟩ (by omega) H5 _ (Kp.drop kA n1) (TDs.tup e5 (tF.kp k5)) ((st4.kp0 k5).up (by omega))
abbrev N__law_store : List Str := ["_law_state", "_law_top", "_law_base", "_law_by", "_law_k"]
theorem sc__law_store : FnScope N__law_store ["_law_state"] (defScope s__law_store) := ⟨rfl, rfl, rfl, by decide +kernel, rfl, by decide +kernel, by decide +kernel⟩
def sp_store : Sp := fun vs H Q _ => ∃ (d : Addr) (N : Nat), vs = [.ref d] ∧ StAt H d N ∧ N ≤ 400000 ∧
  ∀ m : List Nat, MemOk m → 8 ≤ m.length → ∀ H' v, Kp [d] H H' → TD H' v (memD m) → StAt H' d (N + 4) → Q v H'
theorem ok_store (T : Txt K mg) (F : Fd K "_law_store" "_law_store" s__law_store f fd) (D__law_take : Cal P w K mg base 2 "_law_take" ["_law_state", "_law_count"] sp_take) (D__law_of : Cal P w K mg base 3 "_law_of" ["_law_state", "_law_some"] sp_of) :
    FnOk P w K mg base CX0 4 f fd ["_law_state"] sp_store := by
  refine FunD.ok F sc__law_store (fun vs H Q E h => ?_) (fun cdv AA outer s H vs Q E hr h => ?_)
  · obtain ⟨d, N, rfl, _⟩ := h
    rfl
  · obtain ⟨d, N, rfl, hd, hN, q⟩ := h
    refine ⟨_, PSs.nox (pss_cons (ps_set (i := 1) sc__law_store.nd rfl (Or.inl rfl) (pc D__law_of hr (pa_cons (pv 0) (pa_cons (pe_lstK (pa_cons pe_int (pa_cons pe_int (pa_cons pe_int (pa_cons pe_int (pa_cons (pe_op op_add pe_int (pc D__law_take hr (pa_cons (pv 0) (pa_cons pe_int pa_nil)))) pa_nil)))))) pa_nil))))
      (pss_cons (ps_asg (pe_tupK (pa_cons (pc D__law_take hr (pa_cons (pv 0) (pa_cons pe_int pa_nil))) (pa_cons (pc D__law_of hr (pa_cons (pv 0) (pa_cons (pe_lstK (pa_cons pe_int (pa_cons pe_int (pa_cons pe_int (pa_cons pe_int pa_nil))))) pa_nil))) pa_nil))) (pg_tup rfl (pgs_cons (pg_name (i := 2) sc__law_store.nd rfl (Or.inr rfl)) (pgs_cons (pg_name (i := 3) sc__law_store.nd rfl (Or.inr rfl)) pgs_nil))))
      (pss_one (ps_ret (pe_callTy call_tupleK (by rfl) T.b_tuple (by decide +kernel) (pa_cons (pe_lc (own := [("_law_k", 4)]) (g := (gName 4)) (tt := tYes) rfl sc__law_store.nd (pi_range1 (by rfl) T.b_range (pa_cons (pv 1) pa_nil)) (blkOk_by (N := N__law_store) (sc := defScope s__law_store) (by decide +kernel)) (fun _ _ _ _ _ => (pg_name (i := 4) sc__law_store.nd rfl (Or.inl rfl))) (fun _ _ _ _ _ => pts_nil) (fun _ _ _ _ _ => (pe_op op_mod (pe_op op_add (pe_op op_add (pv 2) (pe_op op_mul (pv 3) (pv 4))) (pe_op op_fdiv (pe_op op_mul (pv 4) (pv 4)) pe_int)) pe_int))) pa_nil)))))), ?_⟩
    refine ⟨_, rfl, _, rfl, d, 33, N, rfl, hd, by decide, by decide, by omega, fun e he H1 k1 st1 => ⟨_, _, rfl, rfl, sz 5, fun L2 H2 k2 n2 e2 => ?_⟩⟩
    refine ⟨d, L2, _, N + 1, rfl, st1.kp0 k2, e2, by simp, by simp, by omega, fun i x hx H3 k3 st3 => ?_⟩
    obtain ⟨top, rfl, t8, t40⟩ : ∃ t : Nat, x = vi t ∧ 8 ≤ t ∧ t ≤ 40 := by
      match i, hx with
      | 0, hx => cases hx; exact ⟨8, rfl, by decide, by decide⟩
      | 1, hx => cases hx; exact ⟨9, rfl, by decide, by decide⟩
      | 2, hx => cases hx; exact ⟨16, rfl, by decide, by decide⟩
      | 3, hx => cases hx; exact ⟨40, rfl, by decide, by decide⟩
      | 4, hx => cases hx; exact ⟨8 + e, rfl, by omega, by omega⟩
      | i + 5, hx => cases hx
    have k13 : Kp [d] H H3 := (k1.trans k2.any).trans k3
    refine ⟨_, rfl, d, 256, N + 2, rfl, st3, by decide, by decide, by omega, fun bs hbs H4 k4 st4 => ?_⟩
    refine ⟨_, rfl, sz 4, fun L5 H5 k5 n5 e5 => ⟨d, L5, _, N + 3, rfl, st4.kp0 k5, e5, by simp, by simp, by omega, fun i2 x2 hx2 H6 k6 st6 => ?_⟩⟩
    obtain ⟨by', rfl, b85⟩ : ∃ t : Nat, x2 = vi t ∧ t ≤ 85 := by
      match i2, hx2 with
      | 0, hx2 => cases hx2; exact ⟨0, rfl, by decide⟩
      | 1, hx2 => cases hx2; exact ⟨1, rfl, by decide⟩
      | 2, hx2 => cases hx2; exact ⟨7, rfl, by decide⟩
      | 3, hx2 => cases hx2; exact ⟨85, rfl, by decide⟩
      | i + 4, hx2 => cases hx2
    have k16 : Kp [d] H H6 := ((k13.trans k4).trans k5.any).trans k6
    refine ⟨sz 2, fun T7 H7 k7 n7 e7 => ?_⟩
    refine ⟨T7, _, rfl, SqT.of e7, rfl, _, _, rfl, _, _, rfl, rfl, ?_⟩
    refine ⟨_, rfl, _, rfl, by omega, by omega, fun D hD => ?_⟩
    refine lc_pure (walk_rg (n := (top : Int).toNat)) (fun i acc _ => ∃ m : List Nat, m.length = i ∧ acc = nums m ∧ ∀ x ∈ m, x < 256) hD (fun i acc => stb_pure _) ⟨[], rfl, rfl, fun x h => (by cases h)⟩ (fun H' k => trivial) YFn.kp (fun i acc H' hi h => ?_) (fun i x H8 H9 acc hi k8 h y NN S hN' hS => ?_) (fun H8 acc k8 e8 h => ?_)
    · obtain ⟨m, a, b, _⟩ := h
      rw [b, nums_len]
      omega
    · obtain ⟨rfl, rfl⟩ := y
      obtain ⟨m, a, b, c⟩ := h
      have i40 : i < 40 := by omega
      refine ⟨rfl, _, rfl, _, rfl, _, rfl, _, _, rfl, rfl, .inl ⟨by omega, by omega⟩, _, _, rfl, rfl, _, rfl, _, rfl, _, _, rfl, rfl, .inl ⟨by omega, by omega⟩, _, _, rfl, rfl, ⟨(by decide : (0 : Int) < 3), (by decide : (3 : Int) < 1073741824)⟩, _, _, rfl, rfl, _, _, rfl, rfl, (by decide : (0 : Int) < 256), ?_⟩
      have ev : ((bs : Int) + (by' : Int) * (i : Int) + (i : Int) * (i : Int) / 3) % 256 = (((bs + by' * i + i * i / 3) % 256 : Nat) : Int) := by
        rw [Int.natCast_emod, Int.natCast_add, Int.natCast_add, Int.natCast_mul, Int.natCast_ediv, Int.natCast_mul]
        rfl
      refine hN' _ _ (Kp.refl _) ⟨m ++ [(bs + by' * i + i * i / 3) % 256], by simp [a], ?_, fun x hx => ?_⟩
      · show acc ++ [V.int (((bs : Int) + (by' : Int) * (i : Int) + (i : Int) * (i : Int) / 3) % 256)] = _
        rw [ev, b, nums_app]
        rfl
      · rcases List.mem_append.mp hx with hx | hx
        · exact c x hx
        · rw [List.mem_singleton.mp hx]
          exact Nat.mod_lt _ (by decide)
    · obtain ⟨m, a, b, c⟩ := h
      have a' : m.length = top := by omega
      refine ⟨D, _, rfl, SqL.of e8, fun T9 H9 k9 n9 e9 => ?_⟩
      have kE := (k7.trans k8).trans k9
      exact q m ⟨by omega, by omega, c⟩ (by omega) H9 _ (k16.trans kE.any) (TDs.tup e9 (by rw [b]; exact tds_nums _)) ((st6.kp0 kE).up (by omega))
abbrev N__law_begun : List Str := ["_law_script", "_law_k", "_law_drawn", "_law_behind"]
theorem sc__law_begun : FnScope N__law_begun ["_law_script", "_law_k"] (defScope s__law_begun) := ⟨rfl, rfl, rfl, by decide +kernel, rfl, by decide +kernel, by decide +kernel⟩
def sp_begun (K : PySem.W.Frag) : Sp := fun vs H Q _ => ∃ (s : Addr) (k : Nat) (ns : List Int), vs = [.ref s, vi k] ∧ SqL K H s (ns.map V.int) ∧ k ≤ 8 ∧ ∀ H' d, Kp [] H H' → H d = none → StAt H' d 1000 → Q (.ref d) H'
theorem merge_st (L o b a : Int) : mergeK [] (stKvs L o b a) = stKvs L o b a := by
  have hleftown : ¬ Str.ofString "left" = Str.ofString "own" := by decide +kernel
  have hleftbehind : ¬ Str.ofString "left" = Str.ofString "behind" := by decide +kernel
  have hleftat : ¬ Str.ofString "left" = Str.ofString "at" := by decide +kernel
  have hownbehind : ¬ Str.ofString "own" = Str.ofString "behind" := by decide +kernel
  have hownat : ¬ Str.ofString "own" = Str.ofString "at" := by decide +kernel
  have hbehindat : ¬ Str.ofString "behind" = Str.ofString "at" := by decide +kernel
  simp [mergeK, putK, stKvs, hleftown, hleftbehind, hleftat, hownbehind, hownat, hbehindat]
theorem two_of (ys : List Int) : ∃ a b : Int, (ys.map V.int ++ [V.int 5, V.int 7]).take 2 = [V.int a, V.int b] := by
  match ys with
  | [] => exact ⟨5, 7, rfl⟩
  | [y] => exact ⟨y, 5, rfl⟩
  | y :: z :: r => exact ⟨y, z, rfl⟩
theorem ok_begun (T : Txt K mg) (F : Fd K "_law_begun" "_law_begun" s__law_begun f fd) : FnOk P w K mg base CX0 1 f fd ["_law_script", "_law_k"] (sp_begun K) := by
  refine FunD.ok F sc__law_begun (fun vs H Q E h => ?_) (fun cdv AA outer s H vs Q E hr h => ?_)
  · obtain ⟨d, N, k, rfl, _⟩ := h
    rfl
  · obtain ⟨sc, k, ns, rfl, hs, hk, q⟩ := h
    refine ⟨_, PSs.nox (pss_cons (ps_asg (pe_slice sl_listK (pe_op op_catK (pe_slice sl_listK (pv 0) (po_some (pv 1)) (po_some (pe_op op_add (pv 1) pe_int))) (pe_lstK (pa_cons pe_int (pa_cons pe_int pa_nil)))) po_none (po_some pe_int)) (pg_lst rfl (pgs_cons (pg_name (i := 2) sc__law_begun.nd rfl (Or.inl rfl)) (pgs_cons (pg_name (i := 3) sc__law_begun.nd rfl (Or.inl rfl)) pgs_nil))))
      (pss_one (ps_ret (pe_disp (pps_cons pe_str (pe_ifExp (pt_cmpR op_ge (pv 2) (pe_op op_pow pe_int pe_int) (nomark _)) (pv 2) pe_int) (pps_cons pe_str (pv 2) (pps_cons pe_str (pv 3) (pps_cons pe_str (pe_op op_mul pe_int (pv 1)) pps_nil)))) (by rfl) (by rfl) (fun z => by cases z) (by decide))))), ?_⟩
    refine ⟨_, rfl, _, rfl, _, rfl, _, rfl, _, _, rfl, rfl, _, rfl, sc, _, rfl, hs, fun L1 H1 k1 n1 e1 => ⟨sz 2, fun L2 H2 k2 n2 e2 => ?_⟩⟩
    have ec : cutV (ns.map V.int) (some (k : Int)) (some ((k : Int) + 2)) = (((ns.drop k).take 2)).map V.int := by
      have := cut_mid (ns.map V.int) k (k + 2)
      rw [show ((k + 2 : Nat) : Int) = (k : Int) + 2 by omega] at this
      rw [this, ← List.map_drop, ← List.map_take]
      congr 2
      omega
    rw [ec] at e1
    have ll : (((ns.drop k).take 2).map V.int).length ≤ 2 := by rw [List.length_map, List.length_take]; omega
    obtain ⟨x, y, hxy⟩ := two_of ((ns.drop k).take 2)
    refine ⟨L1, L2, _, _, rfl, rfl, k2.same _ _ e1, e2, sz _ (by simp at ll ⊢; omega), fun L3 H3 k3 n3 e3 => ⟨_, rfl, L3, _, rfl, SqL.of e3, fun L4 H4 k4 n4 e4 => ?_⟩⟩
    have e4' : H4 L4 = some (.lst [V.int x, V.int y]) := by
      rw [e4]
      congr 2
      exact (cut_to _ 2).trans hxy
    refine ⟨L4, _, rfl, SqL.of e4', rfl, _, _, rfl, _, _, rfl, rfl, fun p np => ?_⟩
    have k14 := ((k1.trans k2).trans k3).trans k4
    have fin : ∀ L : Int, 0 ≤ L → Q (.ref p) (upd (upd H4 p (.dK [])) p (.dK (mergeK [] (stKvs L x y (64 * (k : Int)))))) := fun L hL => by
      rw [merge_st, upd_upd]
      exact q _ p (k14.trans (Kp.new np)) (k14.free np) ⟨L, x, y, 64 * (k : Int), upd_same, hL, by omega, by omega⟩
    have last : ∀ L : Int, 0 ≤ L → tPairs [(tC (V.str (Str.ofString "own")), tVar 2), (tC (V.str (Str.ofString "behind")), tVar 3), (tC (V.str (Str.ofString "at")), tOp (rI CMul fun i j => V.int (i * j)) (tC (V.int 64)) (tVar 1))]
        [some (.ref sc), some (vi k), some (.int x), some (.int y)] (upd H4 p (.dK [])) fun ps H2 => H2 p = some (.dK []) ∧ ∃ kvs : List (Key × V), (V.str (Str.ofString "left"), V.int L) :: ps = kvs.map (fun kv => (kV kv.1, kv.2)) ∧ kvs.length ≤ 15 ∧ Q (.ref p) (upd H2 p (.dK (mergeK [] kvs))) := fun L hL =>
      ⟨_, rfl, _, rfl, _, rfl, _, _, rfl, rfl, .inl ⟨by decide, by decide⟩, upd_same, stKvs L x y (64 * (k : Int)), rfl, (by decide : 4 ≤ 15), fin L hL⟩
    refine ⟨_, rfl, _, _, rfl, rfl, ⟨by decide, by decide, by decide⟩, _, _, rfl, rfl, _, rfl, ?_⟩
    by_cases h : (10 : Int) ^ (18 : Int).toNat ≤ x
    · have h0 : 0 ≤ x := Int.le_trans (by decide) h
      exact iteDT h ⟨_, rfl, last x h0⟩
    · exact iteDF h (last 0 (by decide))
end
end L2.K14
set_option Elab.async false
set_option linter.all false
set_option maxRecDepth 100000
set_option maxHeartbeats 4000000
/-! tuple(d.values()), dict(enumerate(t)) -/
namespace PySem.K14V
open PySem PySem.Calls PyProof.Rows PyProof.V PySem.Spec PySem.W
section
variable {prog : Program} {w : World} {A : Around} {E : Value → Shared → Prop} {s : Shared} {T : String} {r d : Addr} {n : Nat} {P : Nat → Value → Prop} {OK : Heap → Prop}
theorem code_tuple_src {Q₁ : Value → Shared → Prop} (K : KdlSrc prog w T r d n P OK) (hT2 : (Value.type T == Value.type "tuple") = false) (hh : A.handled = none) (hok : OK s.heap) (hn : n ≤ sizeLine)
    (h : ∀ (h' : Heap) (tk : Nat) (acc : Array Value), (∀ b o, s.heap.get? b = some o → h'.get? b = some o) → ItemsOf P acc n → Q₁ (.ref h'.objs.size) { s with heap := h'.push { cls := .type "tuple", data := .seq acc }, toks := tk }) :
    codeAny (model prog w) A (.call (.builtin "tuple.__new__") ⟨[.type "tuple", .ref r], []⟩) (wants Q₁ E) s := by
  refine codeAny_of_tree ?_
  show wpAny _ A.in1 (do checkBuiltinCall "tuple.__new__" ⟨[.type "tuple", .ref r], []⟩; again (.builtin "tuple.__new__" ⟨[.type "tuple", .ref r], []⟩)) _ _ s
  refine wpAny_bind (wpAny_of_eq (F.newCall_tuple_1 _) (wpAny_pure ⟨plainId_quiet F.plain_tuple_new _, codeAny_builtin F.entry_tuple_new ?_⟩))
  rw [Around.under_plainId F.plain_tuple_new _]
  have hsub := sub_tuple_self
  have hinit := init_tuple_lookup
  have hmh := madeHere_tuple
  have hTI : s.TypeIs (.ref r) T := K.type s hok
  have hh1 : A.in1.handled = none := hh
  wp_walk using wpAny_typeOf hTI, kdu_collect (A := A.in1) K hh1 hok hn
  intro h' tk acc hk hacc
  show wpAny _ _ (Builtin.Tuple.tupleExact acc.toList.toArray >>= fun v => ret v) _ _ _
  unfold Builtin.Tuple.tupleExact
  refine wpAny_bind (wpAny_newObj_type ?_ (by show acc.toList.toArray.size ≤ sizeLine; simp only [Array.toArray_toList]; rw [hacc.1]; exact hn))
  refine wpAny_pure ?_
  have e : acc.toList.toArray = acc := by simp
  rw [e]
  exact h h' tk acc hk hacc
theorem call_tuple_src {Q : Value → Shared → Prop} (K : KdlSrc prog w T r d n P OK) (hT2 : (Value.type T == Value.type "tuple") = false) (hh : A.handled = none) (hok : OK s.heap) (hn : n ≤ sizeLine)
    (hQ : ∀ (h' : Heap) (tk : Nat) (acc : Array Value), (∀ b o, s.heap.get? b = some o → h'.get? b = some o) → ItemsOf P acc n → Q (.ref h'.objs.size) { s with heap := h'.push { cls := .type "tuple", data := .seq acc }, toks := tk }) :
    wpAny (model prog w) A (call (.type "tuple") [.ref r]) Q E s := by
  refine callType_codes (Q₁ := fun obj s₁ => s₁.TypeIs obj "tuple" ∧ Q obj s₁) F.called_tuple (F.typeCall_tuple_1 _) F.entry_object_init
    (code_tuple_src (A := A.in1) K hT2 hh hok hn fun h' tk acc hk hacc => ⟨⟨_, Heap.get?_push_size _ rfl, rfl⟩, hQ h' tk acc hk hacc⟩) fun obj s₁ h₁ => ?_
  exact ⟨h₁.1, F.args_object_init_2 obj _, object_init_meets F.called_tuple.init.lookup F.called_tuple.made (by decide) prog w A.in1 _ s₁ ⟨h₁.1, rfl, h₁.2⟩⟩
end
/-! ### enumerate over a tuple, the tuple of the item before still there -/
section
variable {prog : Program} {w : World} {A : Around} {E : Value → Shared → Prop} {s : Shared}
theorem enumT_held {e it l T : Addr} {i : Nat} {items : Array Value} {x old : Value} {f : Bool} {oT : Obj} {Q : Value → Shared → Prop}
    (he : IsEnumHeld s.heap e it i old T f) (hT : s.heap.get? T = some oT) (hTe : T ≠ e) (hTi : T ≠ it) (hit : s.heap.IsTupleIter it l i) (hl : s.heap.IsTuple l items) (hx : items[i]? = some x) (hne : e ≠ it)
    (hQ : ∀ h', IsEnumHeld h' e it ((i : Int) + 1) old T true → h'.IsTupleIter it l (i + 1) →
      h'.get? s.heap.objs.size = some { cls := .type "tuple", data := .seq #[.int i s.toks, x] } → h'.objs.size = s.heap.objs.size + 1 →
      (∀ b o, b ≠ e → b ≠ it → s.heap.get? b = some o → h'.get? b = some o) → Q (.ref s.heap.objs.size) { s with heap := h', toks := s.toks + 1 }) :
    wpAny (model prog w) A (Builtin.«enumerate.__next__» ⟨[.ref e], []⟩) (fun fin s' => ∃ v, fin = .done (.ret v) ∧ Q v s') E s := by
  obtain ⟨hp, g, d, tk, os⟩ := s
  show wpAny _ _ (field (.ref e) 2 >>= _) _ _ _
  refine wpAny_bind (wpAny_field he rfl (x := .ref it) rfl ?_)
  refine wpAny_bind (wpAny_nextOf_tuple_item hit hl hx fun g1 hit1 hs1 => ?_)
  replace hs1 : Heap.SameBut it hp g1 := hs1
  have he1 : IsEnumHeld g1 e it i old T f := (hs1.2 e hne).trans he
  show wpAny _ _ (field (.ref e) 3 >>= _) _ _ ⟨g1, g, d, tk, os⟩
  refine wpAny_bind (wpAny_field he1 rfl (x := rawInt i) rfl ?_)
  show wpAny _ _ (field (.ref e) 4 >>= _) _ _ ⟨g1, g, d, tk, os⟩
  refine wpAny_bind (wpAny_field he1 rfl (x := .none) rfl ?_)
  show wpAny _ _ (mkInt i >>= _) _ _ ⟨g1, g, d, tk, os⟩
  refine wpAny_bind (wpAny_mkInt ?_)
  show wpAny _ _ (setField (.ref e) 3 (rawInt ((i : Int) + 1)) >>= _) _ _ ⟨g1, g, d, tk + 1, os⟩
  refine wpAny_bind (wpAny_setField_rec he1 (by simp) fun g2 he2 hs2 => ?_)
  replace hs2 : Heap.SameBut e g1 g2 := hs2
  replace he2 : IsEnumHeld g2 e it ((i : Int) + 1) old T f := he2
  show wpAny _ _ (setField (.ref e) 4 .none >>= _) _ _ ⟨g2, g, d, tk + 1, os⟩
  refine wpAny_bind (wpAny_setField_rec he2 (by simp) fun g3 he3 hs3 => ?_)
  replace hs3 : Heap.SameBut e g2 g3 := hs3
  replace he3 : IsEnumHeld g3 e it ((i : Int) + 1) old T f := he3
  show wpAny _ _ (newTuple [.int i tk, x] >>= _) _ _ ⟨g3, g, d, tk + 1, os⟩
  refine wpAny_bind (wpAny_newTuple ?_)
  have he4 : IsEnumHeld (g3.push { cls := .type "tuple", data := .seq #[.int i tk, x] }) e it ((i : Int) + 1) old T f := Heap.get?_push_of_some _ he3
  generalize hh4 : g3.push { cls := .type "tuple", data := .seq #[.int i tk, x] } = g4 at he4
  have hsz : g3.objs.size = hp.objs.size := by rw [hs3.1, hs2.1, hs1.1]
  have hel : e < hp.objs.size := Heap.lt_size he
  have ht4 : g4.get? hp.objs.size = some { cls := .type "tuple", data := .seq #[.int i tk, x] } := by rw [← hh4, ← hsz]; exact Heap.get?_push_size _ rfl
  have hz4 : g4.objs.size = hp.objs.size + 1 := by rw [← hh4, Heap.size_push, hsz]
  have hk4 : ∀ b o, b ≠ e → b ≠ it → hp.get? b = some o → g4.get? b = some o := fun b o hbe hbi hb => by
    rw [← hh4]; exact Heap.get?_push_of_some _ (hs3.extBut b o hbe (hs2.extBut b o hbe (hs1.extBut b o hbi hb)))
  have hit4 : g4.IsTupleIter it l (i + 1) := by
    rw [← hh4]; obtain ⟨o, ho, r⟩ := hit1; exact ⟨o, Heap.get?_push_of_some _ (hs3.extBut it o (Ne.symm hne) (hs2.extBut it o (Ne.symm hne) ho)), r⟩
  show wpAny _ _ (Builtin.SmallTypes.ownedTupleIsFree (.ref e) >>= _) _ _ ⟨g4, g, d, tk + 1, os⟩
  rw [hsz]
  clear hh4 he3 hs3 he2 hs2 he1 hs1 hit1 hsz g3 g2 g1
  refine wpAny_bind (wpAny_tupleHeld_enum (s := ⟨g4, g, d, tk + 1, os⟩) he4 (hk4 T oT hTe hTi hT) fun g5 he5 hs5 => ?_)
  replace hs5 : Heap.SameBut e g4 g5 := hs5
  simp only [Bool.false_eq_true, if_false]
  refine wpAny_pure ⟨_, rfl, hQ g5 he5 ?_ (hs5.extBut _ _ (Nat.ne_of_gt hel) ht4) ?_ fun b o hbe hbi hb => hs5.extBut b o hbe (hk4 b o hbe hbi hb)⟩
  · obtain ⟨o, ho, r⟩ := hit4
    exact ⟨o, hs5.extBut it o (Ne.symm hne) ho, r⟩
  · show g5.objs.size = hp.objs.size + 1
    rw [hs5.1, hz4]
theorem next_enumT_held {e it l T : Addr} {i : Nat} {items : Array Value} {x old : Value} {f : Bool} {oT : Obj} {Q : Option Value → Shared → Prop}
    (he : IsEnumHeld s.heap e it i old T f) (hT : s.heap.get? T = some oT) (hTe : T ≠ e) (hTi : T ≠ it) (hit : s.heap.IsTupleIter it l i) (hl : s.heap.IsTuple l items) (hx : items[i]? = some x) (hne : e ≠ it)
    (hQ : ∀ h', IsEnumHeld h' e it ((i : Int) + 1) old T true → h'.IsTupleIter it l (i + 1) →
      h'.get? s.heap.objs.size = some { cls := .type "tuple", data := .seq #[.int i s.toks, x] } → h'.objs.size = s.heap.objs.size + 1 →
      (∀ b o, b ≠ e → b ≠ it → s.heap.get? b = some o → h'.get? b = some o) → Q (some (.ref s.heap.objs.size)) { s with heap := h', toks := s.toks + 1 }) :
    wpAny (model prog w) A (pyNext (.ref e)) Q E s := by
  have hTy : s.TypeIs (.ref e) "enumerate" := ⟨_, he, rfl⟩
  unfold pyNext
  exact wpAny_bind (wpAny_attempt (wpAny_callSpecial?_slot (name := Str.ofString "__next__") hTy F.slot_enumerate_next
    (wpAny_call_entry F.slot_enumerate_next hTy F.entry_enumerate_next
      (enumT_held he hT hTe hTi hit hl hx hne fun h' a1 a2 a3 a4 a5 => wpAny_pure (hQ h' a1 a2 a3 a4 a5)) (F.args_enumerate_next_1 _))))
theorem next_enumT_end {e it l T : Addr} {i : Nat} {items : Array Value} {old : Value} {f : Bool} {Q : Option Value → Shared → Prop} (hh : A.handled = none)
    (he : IsEnumHeld s.heap e it i old T f) (hit : s.heap.IsTupleIter it l i) (hl : s.heap.IsTuple l items) (hx : items[i]? = none)
    (hQ : ∀ h', Heap.ExtBut it s.heap h' → Q none { s with heap := h' }) : wpAny (model prog w) A (pyNext (.ref e)) Q E s := by
  have hTy : s.TypeIs (.ref e) "enumerate" := ⟨_, he, rfl⟩
  unfold pyNext
  refine wpAny_bind (wpAny_attempt (wpAny_callSpecial?_slot (name := Str.ofString "__next__") hTy F.slot_enumerate_next
    (wpAny_call_entry F.slot_enumerate_next hTy F.entry_enumerate_next ?_ (F.args_enumerate_next_1 _))))
  show wpAny _ _ (field (.ref e) 2 >>= _) _ _ _
  refine wpAny_bind (wpAny_field he rfl (x := .ref it) rfl ?_)
  refine wpAny_bind (wpAny_nextOf_tuple_end hh hit hl hx fun h' x he' hx' => ?_)
  obtain ⟨o, ho, hc⟩ := hx'
  refine wpAny_bind (wpAny_isInstance (T := "StopIteration") (b := true) ⟨o, ho, hc⟩ isSubtype_stop ?_)
  exact wpAny_pure (hQ _ he')
end
section
variable {prog : Program} {w : World}
theorem enumT_arg (e it l : Addr) (hei : e ≠ it) (hle : l ≠ e) (hli : l ≠ it) (items : Array Value) (h0 : 0 < items.size) :
    PairArg prog w "enumerate" e [e, it, l] [e, it] items.size (fun i k v => (∃ t, k = .int i t) ∧ items[i]? = some v)
      (fun h => IsEnum h e it 0 .none ∧ h.IsTupleIter it l 0 ∧ h.IsTuple l items) where
  type := fun s ok => let ⟨he, _⟩ := ok; ⟨_, he, rfl⟩
  notDict := by decide
  keep := fun h h' ok hk => by
    obtain ⟨he, ⟨o1, h1, r1⟩, ⟨o2, h2, r2⟩⟩ := ok
    exact ⟨hk _ _ he, ⟨o1, hk _ _ h1, r1⟩, ⟨o2, hk _ _ h2, r2⟩⟩
  there := fun h ok b hb => by
    obtain ⟨he, ⟨o1, h1, _⟩, ⟨o2, h2, _⟩⟩ := ok
    simp only [List.mem_cons, List.not_mem_nil, or_false] at hb
    rcases hb with rfl | rfl | rfl
    all_goals first | exact ⟨_, he⟩ | exact ⟨_, h1⟩ | exact ⟨_, h2⟩
  sub := fun b hb => by simp at hb ⊢; rcases hb with rfl | rfl <;> simp
  noKeys := fun A s Q E hA ok h => let ⟨he, _⟩ := ok; getAttrOr_miss_enumerate he rfl rfl rfl enumerate_no_keys (by decide +kernel) hA h
  iter := fun A s d Q E hA ok hd hdf h => by
    obtain ⟨he, hit, hl⟩ := ok
    simp only [List.mem_cons, List.not_mem_nil, or_false, not_or] at hdf
    obtain ⟨de, dit, dl⟩ := hdf
    refine wpAny_pyIter_enum he (h e [e, it] (fun i h => h.IsTupleIter it l i ∧ h.IsTuple l items ∧ ((i = 0 ∧ IsEnum h e it i .none) ∨ ∃ old T f oT, IsEnumHeld h e it i old T f ∧ h.get? T = some oT ∧ T ≠ e ∧ T ≠ it ∧ T ≠ d)) s.heap s.toks ?_
      ⟨hit, hl, .inl ⟨rfl, he⟩⟩ (fun _ _ e => e) fun b hb => .inl hb)
    exact {
      off := fun hm => by
        simp only [List.mem_cons, List.not_mem_nil, or_false] at hm
        rcases hm with x | x
        · exact de x
        · exact dit x
      frame := fun i g1 g2 st hk => by
        obtain ⟨⟨o1, h1, r1⟩, ⟨o2, h2, r2⟩, he⟩ := st
        refine ⟨⟨o1, hk _ o1 (Ne.symm dit) h1, r1⟩, ⟨o2, hk _ o2 (Ne.symm dl) h2, r2⟩, ?_⟩
        rcases he with ⟨e0, he⟩ | ⟨old, T, f, oT, he, hT, q1, q2, q3⟩
        · exact .inl ⟨e0, hk _ _ (Ne.symm de) he⟩
        · exact .inr ⟨old, T, f, oT, hk _ _ (Ne.symm de) he, hk _ _ q3 hT, q1, q2, q3⟩
      item := fun i s1 Q1 E1 hi st hds hQ => by
        obtain ⟨hit, hl, he⟩ := st
        have ex := Array.getElem?_eq_getElem hi
        have ec : ((i + 1 : Nat) : Int) = (i : Int) + 1 := by omega
        have nit : s1.heap.objs.size ≠ it := let ⟨_, x, _⟩ := hit; Nat.ne_of_gt (Heap.lt_size x)
        have hlk : ∀ {h' : Heap}, (∀ b o, b ≠ e → b ≠ it → s1.heap.get? b = some o → h'.get? b = some o) → h'.IsTuple l items := fun hk => let ⟨o2, h2, r2⟩ := hl; ⟨o2, hk l o2 hle hli h2, r2⟩
        rcases he with ⟨e0, he⟩ | ⟨old, T, f, oT, he, hT, q1, q2, q3⟩
        · subst e0
          have D := Draws.tuple (prog := prog) (w := w) (A := A.in1) hA it l hli items
          refine wpAny_pyNext_enum_itemD D he ⟨hit, hl⟩ hi hei (by simp [hei, Ne.symm hle]) fun x h' tk hp ho hs' hT hsz hk => ?_
          exact hQ s1.heap.objs.size _ _ h' (tk + 1) ⟨⟨_, rfl⟩, hp⟩ (.inl ⟨_, hT, rfl, _, rfl⟩)
            ⟨hs'.1, hlk hk, .inr ⟨x, s1.heap.objs.size, false, _, (by rw [ec]; exact ho), hT, Nat.ne_of_gt (Heap.lt_size he), nit, Nat.ne_of_gt hds⟩⟩
            fun b o hb x => hk b o (fun y => hb (by simp [y])) (fun y => hb (by simp [y])) x
        · refine next_enumT_held he hT q1 q2 hit hl ex hei fun h' ho hit' hT' hsz hk => ?_
          exact hQ s1.heap.objs.size _ _ h' (s1.toks + 1) ⟨⟨_, rfl⟩, ex⟩ (.inl ⟨_, hT', rfl, _, rfl⟩)
            ⟨hit', hlk hk, .inr ⟨old, T, true, oT, (by rw [ec]; exact ho), hk _ _ q1 q2 hT, q1, q2, q3⟩⟩
            fun b o hb x => hk b o (fun y => hb (by simp [y])) (fun y => hb (by simp [y])) x
      done := fun s1 Q1 E1 st hQ => by
        obtain ⟨hit, hl, he⟩ := st
        have hx : items[items.size]? = none := Array.getElem?_eq_none (Nat.le_refl _)
        rcases he with ⟨e0, he⟩ | ⟨old, T, f, oT, he, hT, q1, q2, q3⟩
        · omega
        · exact next_enumT_end hA he hit hl hx fun h' hk => hQ h' s1.toks fun b o hb x => hk b o (fun y => hb (by simp [y])) x }
end
end PySem.K14V

namespace L2.K14
open PySem PySem.Spec PyProof.Rows PySem.K14V
/-- tuple(d.values()) -/
def tTupVals (td : TE) : TE := fun σ H Q => td σ H fun x H1 => ∃ a kvs, x = V.ref a ∧ H1 a = some (.dK kvs) ∧ Nw H1 (.tup (kvs.map (·.2))) Q
section
variable {X : Cx} {o : Expr} {p pos apos mpos : Pos} {td : TE}
theorem kv_vals {kvs : List (Key × V)} {vs : List (Key × Value)} (r : KV kvs vs) : Vals (kvs.map (·.2)) (vs.map (·.2)) := by
  unfold KV at r
  induction r with
  | nil => exact .nil
  | cons h t ih => exact .cons h.2 ih
theorem pe_tupVals (hc : X.calm = true) (hg : Gl X "tuple") (hm : X.mg "tuple" = none) (hv : bootBuiltins "tuple" = some (.type "tuple")) (hd : PE X o td) (hbase : attributeBase o "values" X.env (eval o X.env) = eval o X.env := by rfl) (hline : (apos.endLine == mpos.line) = true := by rfl)
    (hs : starEach [.Call (.Attribute o "values" apos) [] [] mpos] X.env = (false, eval (.Call (.Attribute o "values" apos) [] [] mpos) X.env) :: starEach [] X.env := by rfl) :
    PE X (.Call (.Name "tuple" p) [.Call (.Attribute o "values" apos) [] [] mpos] [] pos) (tTupVals td) := by
  refine ⟨fun pins s σ H Q I hq => ?_⟩
  refine wpAny_Call_Name_kw (ld_blt I hg hm hv ?_)
  refine PyProof.Rows.callWith_type1 ?_ hs rfl
  rw [hs]
  show wpAny _ _ (spliced ((false, eval (.Call (.Attribute o "values" apos) [] [] mpos) X.env) :: backTo pos (starEach [] X.env))) _ _ s
  refine Calls.spliced_cons ?_
  refine wpAny_Call_method (T := "dict") (id := "dict.values") hbase rfl hline PySem.F.plainAttrs_dict PySem.F.slot_dict_values PySem.F.type_dict_values (thn (hd.run pins s σ H _ I hq) fun u s1 ⟨x, H1, I1, rx, d, kvs, ex, hd, q⟩ => ?_)
  subst ex
  obtain rfl : u = Value.ref d := rx
  obtain ⟨hz, hs0, vs, kv, hdo⟩ := (show ObjOk X.prog X.w H1 s1.heap d (.dK kvs) from I1.hok d _ hd)
  obtain ⟨ep, hat⟩ := hdo.dictAt
  have lk : kvs.length = vs.length := Paired.length kv
  have I2 : Inv X pins σ H1 { s1 with heap := s1.heap.push { cls := .type "dict_values", data := .fields #[.ref d] } } := I1.kept (t' := s1.toks) fun b ob q => Heap.get?_push_of_some _ q
  refine ⟨hdo.typeIs, hdo.mapOf.noDict, ?_⟩
  show wpAny _ _ (callWith mpos (.builtin "dict.values") [.ref d] [] []) _ X.xe s1
  refine method_meetsIn PySem.F.slot_dict_values PySem.F.entry_dict_values rfl (PySem.evalArgs_none ⟨rfl, hdo.typeIs, PySem.F.args_dict_values_1 _, _, meets_dict_values (mixKind X.prog X.w) d hs0, ⟨vs, hdo⟩, ?_⟩)
  refine Calls.spliced_nil ?_
  refine call_tuple_src (PySem.W.kdl_values (knd := mixKind X.prog X.w) (kvs := vs) (ep := ep)) (by decide) (I1.ok.hd hc) ⟨⟨_, Heap.get?_push_size _ rfl, rfl, rfl⟩, hat.push _⟩ (by omega) fun h' tk acc hk hacc => ?_
  have hvs : acc.toList = vs.map (·.2) := by
    refine PySem.W.kdl_vals_eq acc.toList (by simpa using hacc.1) fun j v hj => ?_
    exact hacc.2 j v (by simpa using hj)
  have I3 : Inv X pins σ H1 { s1 with heap := h', toks := tk } := I1.kept (t' := tk) fun b ob q => hk b ob (Heap.get?_push_of_some _ q)
  have hp : H1 h'.objs.size = none := I3.hok.fresh (Nat.le_refl _)
  refine ⟨.ref h'.objs.size, upd H1 h'.objs.size (.tup (kvs.map (·.2))), I3.laid (t' := tk) (fun b ob q => Heap.get?_push_of_some _ q) (Nat.le_refl _)
    (show ObjOk X.prog X.w _ _ _ (.tup (kvs.map (·.2))) from ⟨by rw [List.length_map]; exact hz, acc.toList, by rw [hvs]; exact kv_vals kv, ?_⟩), rfl, q.at _ hp⟩
  exact ⟨_, Heap.get?_push_size _ rfl, rfl, 0, by simp⟩
end
/-- dict(enumerate(t)), t a tuple that is not empty -/
def tDictEnum (K : PySem.W.Frag) (ta : TA) : TE := fun σ H Q => ta σ H fun vs H1 => ∃ a xs, vs = [V.ref a] ∧ SqT K H1 a xs ∧ 1 ≤ xs.length ∧ Nw H1 (.dK (mergeK [] ((List.range xs.length).map fun i : Nat => ((.inl (i : Int) : Key), xs.getD i .non)))) Q
section
variable {X : Cx} {e1 : Expr} {ta : TA} {p p2 zpos pos : Pos}
theorem merged_kv : ∀ {more : List (Key × V)} {rs : List (Key × Value)} {kvs : List (Key × V)} {vs : List (Key × Value)}, KV more rs → KV kvs vs → KV (mergeK kvs more) (merged vs rs) := KV.merge
theorem kv_range {xs : List V} {us : List Value} (r : Vals xs us) : ∀ n, n ≤ xs.length → KV ((List.range n).map fun i : Nat => ((.inl (i : Int) : Key), xs.getD i .non)) ((List.range n).map fun i : Nat => ((.inl (i : Int) : Key), us.getD i .none))
  | 0, _ => .nil
  | n + 1, h => by
    have ih := kv_range r n (by omega)
    rw [List.range_succ, List.map_append, List.map_append]
    refine Paired.snoc ih ⟨rfl, ?_⟩
    have hn : n < xs.length := by omega
    obtain ⟨u, hu, ru⟩ := r.get (List.getElem?_eq_getElem hn)
    show RelV (xs.getD n .non) (us.getD n .none)
    rw [List.getD_eq_getElem?_getD, List.getD_eq_getElem?_getD, hu, List.getElem?_eq_getElem hn]
    exact ru
theorem pe_dictEnum (hc : X.calm = true) (ha : PA X [e1] ta) (hgl : Gl X "dict") (hml : X.mg "dict" = none) (hgz : Gl X "enumerate") (hmz : X.mg "enumerate" = none) (hvl : bootBuiltins "dict" = some (.type "dict"))
    (hs : starEach [.Call (.Name "enumerate" p2) [e1] [] zpos] X.env = (false, eval (.Call (.Name "enumerate" p2) [e1] [] zpos) X.env) :: starEach [] X.env := by rfl)
    (hs2 : starEach [e1] X.env = [(false, eval e1 X.env)] := by rfl) :
    PE X (.Call (.Name "dict" p) [.Call (.Name "enumerate" p2) [e1] [] zpos] [] pos) (tDictEnum X.K ta) := by
  refine ⟨fun pins s σ H Q I hq => ?_⟩
  refine wpAny_Call_Name_kw (ld_blt I hgl hml hvl ?_)
  refine PyProof.Rows.callWith_type1 ?_ hs rfl
  rw [hs]
  show wpAny _ _ (spliced ((false, eval (.Call (.Name "enumerate" p2) [e1] [] zpos) X.env) :: backTo pos (starEach [] X.env))) _ _ s
  refine Calls.spliced_cons ?_
  refine Call_ (ld_blt I hgz hmz boot_enumerate (PyProof.Rows.callWith_type1 (thn (ha.run zpos pins s σ H _ I hq) fun us s1 ⟨vs, H1, I1, r1, q1⟩ => ?_) hs2 rfl))
  obtain ⟨a, xs, ex, hx, h1, q⟩ := q1
  subst ex
  obtain ⟨u, rfl, ru⟩ := vals1 r1
  cases ru
  obtain ⟨its, rv, ht, hz⟩ := I1.tuple hx
  obtain ⟨ot, hot, hct, nt, hdt⟩ := id ht
  have hlt : a < s1.heap.objs.size := Heap.lt_size hot
  have lx := rv.length
  refine enum1_begins (begins_tuple a its.toArray) ⟨ot, hot, hct, nt, hdt⟩ fun h' he hit hsz hk => ?_
  refine Calls.spliced_nil ?_
  have I2 : Inv X pins σ H1 { s1 with heap := h' } := I1.kept (t' := s1.toks) hk
  have kvr := kv_range rv xs.length (Nat.le_refl _)
  have P := enumT_arg (prog := X.prog) (w := X.w) (s1.heap.objs.size + 1) s1.heap.objs.size a (Nat.succ_ne_self _) (Nat.ne_of_lt (Nat.lt_succ_of_lt hlt)) (Nat.ne_of_lt hlt) its.toArray (by simp; omega)
  refine PySem.call_dict_pairs (s := { s1 with heap := h' }) (knd := mixKind X.prog X.w) (kvs := (List.range xs.length).map fun i : Nat => ((.inl (i : Int) : Key), its.getD i .none)) P (I1.ok.hd hc) ⟨he, ⟨_, hit, rfl, rfl⟩, ⟨ot, hk _ _ hot, hct, nt, hdt⟩⟩ ⟨by simp [lx], fun i key v hr => ?_⟩ (by simp; omega) fun h2 tk hd hk2 => ?_
  · obtain ⟨⟨t, rfl⟩, hv⟩ := hr
    have hv' : its[i]? = some v := by simpa using hv
    have hi : i < its.length := (List.getElem?_eq_some_iff.mp hv').1
    refine ⟨.inl (i : Int), ?_, kV_is (k := .inl (i : Int)) ⟨t, rfl⟩⟩
    rw [List.getElem?_map, List.getElem?_range (by omega)]
    show some ((.inl (i : Int) : Key), its.getD i .none) = some ((.inl (i : Int) : Key), v)
    rw [List.getD_eq_getElem?_getD, hv']
    rfl
  · have keep : ∀ b ob, s1.heap.get? b = some ob → h2.get? b = some ob := fun b ob e => hk2 b ob (fun hm => by
      have hb := Heap.lt_size e
      simp only [List.mem_cons, List.not_mem_nil, or_false] at hm
      rcases hm with rfl | rfl
      · exact absurd hb (Nat.not_lt.mpr (Nat.le_succ _))
      · exact absurd hb (Nat.lt_irrefl _)) (hk b ob e)
    have hle : s1.heap.objs.size ≤ h'.objs.size := by rw [hsz]; exact Nat.le_add_right _ _
    have hp : H1 h'.objs.size = none := I1.hok.fresh hle
    have hm : (h'.objs.size == sysModules) = false := beq_eq_false_iff_ne.mpr (Nat.ne_of_gt (Nat.lt_of_lt_of_le I1.big hle))
    have hl := length_mergeK ((List.range xs.length).map fun i : Nat => ((.inl (i : Int) : Key), xs.getD i .non)) []
    refine ⟨.ref h'.objs.size, _, I1.laid (t' := tk) keep hle (show ObjOk X.prog X.w _ _ _ (.dK (mergeK [] ((List.range xs.length).map fun i : Nat => ((.inl (i : Int) : Key), xs.getD i .non)))) from ⟨?_, hm, _, KV.merge kvr .nil, hd⟩), rfl, q.at _ hp⟩
    rw [List.length_map, List.length_range] at hl
    simp only [List.length_nil] at hl
    omega
end
end L2.K14
set_option Elab.async false
set_option linter.all false
set_option maxRecDepth 100000
set_option maxHeartbeats 4000000
/-! list(range(a, b)) -/
namespace L2.K14
open PySem PySem.Spec PySem.Calls PyProof.Rows
def rgV (a : Int) (n : Nat) : List V := (List.range n).map fun i : Nat => V.int (a + (i : Nat))
def tListRg (ta : TA) : TE := fun σ H Q => ta σ H fun vs H1 => ∃ (a b : Int) (n : Nat), vs = [.int a, .int b] ∧ b - a = (n : Int) ∧ -1000000 ≤ a ∧ a ≤ 1000000 ∧ n ≤ 1000 ∧ Nw H1 (.lst (rgV a n)) Q
theorem vals_range {acc : Array Value} {a : Int} {n : Nat} (h : ItemsOf (fun (i : Nat) v => ∃ t, v = Value.int (a + i * 1) t) acc n) : Vals (rgV a n) acc.toList := by
  have hl : acc.toList.length = n := by simpa using h.1
  have key : ∀ (k : Nat) (xs : List Value), (∀ j v, xs[j]? = some v → ∃ t, v = Value.int (a + ((k + j : Nat) : Int)) t) → Vals ((List.range' k xs.length).map fun i : Nat => V.int (a + (i : Nat))) xs := by
    intro k xs
    induction xs generalizing k with
    | nil => exact fun _ => .nil
    | cons x xs ih =>
      intro hx
      rw [List.length_cons, List.range'_succ, List.map_cons]
      obtain ⟨t, rfl⟩ := hx 0 _ rfl
      refine .cons ⟨t, rfl⟩ (ih (k + 1) fun j v hv => ?_)
      obtain ⟨t, e⟩ := hx (j + 1) v (by simpa using hv)
      exact ⟨t, by rw [e]; congr 2; omega⟩
  have := key 0 acc.toList fun j v hv => by
    obtain ⟨t, e⟩ := h.2 j v (by simpa using hv)
    exact ⟨t, by rw [e]; simp⟩
  rw [hl, ← List.range_eq_range'] at this
  exact this
section
variable {X : Cx} {e1 e2 : Expr} {ta : TA} {p p2 zpos pos : Pos}
theorem pe_listRg (hc : X.calm = true) (hgl : Gl X "list") (hml : X.mg "list" = none) (hgz : Gl X "range") (hmz : X.mg "range" = none) (ha : PA X [e1, e2] ta) (hvl : bootBuiltins "list" = some (.type "list"))
    (hs : starEach [.Call (.Name "range" p2) [e1, e2] [] zpos] X.env = (false, eval (.Call (.Name "range" p2) [e1, e2] [] zpos) X.env) :: starEach [] X.env := by rfl)
    (hs2 : starEach [e1, e2] X.env = (false, eval e1 X.env) :: starEach [e2] X.env := by rfl) (hpl2 : (backTo zpos (starEach [e2] X.env)).any (·.1) = false := by rfl) :
    PE X (.Call (.Name "list" p) [.Call (.Name "range" p2) [e1, e2] [] zpos] [] pos) (tListRg ta) := by
  refine ⟨fun pins s σ H Q I hq => ?_⟩
  refine wpAny_Call_Name_kw (ld_blt I hgl hml hvl ?_)
  refine PyProof.Rows.callWith_type1 ?_ hs rfl
  rw [hs]
  show wpAny _ _ (spliced ((false, eval (.Call (.Name "range" p2) [e1, e2] [] zpos) X.env) :: backTo pos (starEach [] X.env))) _ _ s
  refine Calls.spliced_cons ?_
  refine Call_ (ld_blt I hgz hmz PyProof.Rows.boot_range (PyProof.Rows.callWith_type1 (thn (ha.run zpos pins s σ H _ I hq) fun us s1 ⟨vs, H1, I1, r1, q1⟩ => ?_) hs2 hpl2))
  obtain ⟨a, b, n, ex, hn, ha1, ha2, hn2, q⟩ := q1
  subst ex
  obtain ⟨u, u', rfl, ru, ru'⟩ := vals2 r1
  obtain ⟨t, rfl⟩ := ru
  obtain ⟨t', rfl⟩ := ru'
  refine call_range_2 ?_
  refine Calls.spliced_nil ?_
  have I2 := I1.kept (h' := s1.heap.push { cls := .type "range", data := .fields #[.int a t, .int b t', .int 1 s1.toks] }) (t' := s1.toks + 1) fun b o e => Heap.get?_push_of_some _ e
  have hr : IsRange (s1.heap.push { cls := .type "range", data := .fields #[.int a t, .int b t', .int 1 s1.toks] }) s1.heap.objs.size a b 1 t t' s1.toks := Heap.get?_push_size _ rfl
  refine call_list_range (n := n) (I1.ok.hd hc) hr (small_one (by omega) (by omega) (by omega) (by omega)) (by rw [rangeSize_nat]; omega) (by omega) fun h' tk acc c hk hS hacc => ?_
  have hv := vals_range hacc
  refine ⟨.ref _, _, I2.laid (t' := tk) hk (Nat.le_refl _) (show ObjOk X.prog X.w _ h' _ (.lst (rgV a n)) from ⟨by rw [sizeLine_eq]; simp [rgV]; omega, acc.toList, c, hv, by simpa using hS⟩), rfl, q.at _ (I2.hok.fresh (Nat.le_refl _))⟩
end
end L2.K14
set_option Elab.async false
set_option linter.all false
set_option maxRecDepth 100000
set_option maxHeartbeats 4000000
set_option pp.maxSteps 600
/-! the law's own run: where it lies -/
namespace L2.K14
open PySem PySem.Spec PyProof.Rows
/-! ### bytes by their places -/
def memK : Nat → List Nat → List (Key × V)
  | _, [] => []
  | i, x :: r => (.inl (i : Int), vi x) :: memK (i + 1) r
theorem memK_cons (i x : Nat) (r : List Nat) : memK i (x :: r) = (.inl (i : Int), vi x) :: memK (i + 1) r := rfl
theorem memK_len : ∀ (m : List Nat) (i : Nat), (memK i m).length = m.length
  | [], _ => rfl
  | x :: r, i => by unfold memK; rw [List.length_cons, List.length_cons, memK_len r]
theorem memK_vals : ∀ (m : List Nat) (i : Nat), (memK i m).map (·.2) = nums m
  | [], _ => rfl
  | x :: r, i => by
    unfold memK
    rw [List.map_cons, memK_vals r]
    rfl
theorem memK_get : ∀ (m : List Nat) (i c : Nat), valV (memK i m) (.inl ((i + c : Nat) : Int)) = m[c]?.map vi
  | [], _, _ => rfl
  | x :: r, i, 0 => valV_pos rfl
  | x :: r, i, c + 1 => by
    unfold memK
    rw [valV_neg (by simp only [Sum.inl.injEq]; omega)]
    have := memK_get r (i + 1) c
    rw [show i + 1 + c = i + (c + 1) by omega] at this
    rw [this]
    rfl
theorem memK_get0 {m : List Nat} {c : Nat} (h : c < m.length) : valV (memK 0 m) (.inl (c : Int)) = some (vi (m.getD c 0)) := by
  have := memK_get m 0 c
  rw [Nat.zero_add] at this
  rw [this, List.getD_eq_getElem?_getD, List.getElem?_eq_getElem h]
  rfl
theorem memK_none : ∀ (m : List Nat) (i j : Nat), j < i ∨ i + m.length ≤ j → valV (memK i m) (.inl (j : Int)) = none
  | [], _, _, _ => rfl
  | x :: r, i, j, h => by
    unfold memK
    rw [List.length_cons] at h
    rw [valV_neg (by simp only [Sum.inl.injEq]; omega)]
    exact memK_none r (i + 1) j (by omega)
theorem memK_map (f : Key × V → Key × V) (j x : Nat) (hf : ∀ kv : Key × V, f kv = if kv.1 = (.inl (j : Int) : Key) then (kv.1, vi x) else kv) : ∀ (m : List Nat) (i c : Nat), i + c = j → (memK i m).map f = memK i (m.set c x)
  | [], _, _, _ => rfl
  | y :: r, i, 0, h => by
    have g : ∀ (r : List Nat) (k : Nat), j < k → (memK k r).map f = memK k r := by
      intro r
      induction r with
      | nil => intro k _; rfl
      | cons z r ih =>
        intro k hk
        rw [memK_cons, List.map_cons, hf, if_neg (by simp only [Sum.inl.injEq]; omega), ih (k + 1) (by omega)]
    rw [memK_cons, List.map_cons, hf, if_pos (by simp only [Sum.inl.injEq]; omega), List.set_cons_zero, memK_cons, g r (i + 1) (by omega)]
  | y :: r, i, c + 1, h => by
    rw [memK_cons, List.map_cons, hf, if_neg (by simp only [Sum.inl.injEq]; omega), List.set_cons_succ, memK_cons, memK_map f j x hf r (i + 1) c (by omega)]
theorem memK_put {m : List Nat} {c : Nat} (x : Nat) (h : c < m.length) : putK (memK 0 m) (.inl (c : Int)) (vi x) = memK 0 (m.set c x) := by
  unfold putK
  rw [valV_any, memK_get0 h, if_pos (by rfl)]
  exact memK_map _ c x (fun kv => rfl) m 0 c (by omega)
theorem memK_snoc : ∀ (m : List Nat) (i x : Nat), memK i (m ++ [x]) = memK i m ++ [(.inl ((i + m.length : Nat) : Int), vi x)]
  | [], _, _ => rfl
  | y :: r, i, x => by
    rw [List.cons_append]
    unfold memK
    rw [memK_snoc r, List.cons_append, List.length_cons, show i + 1 + r.length = i + (r.length + 1) by omega]
theorem memK_merge : ∀ (b a : List Nat), mergeK (memK 0 a) (memK a.length b) = memK 0 (a ++ b)
  | [], a => by rw [List.append_nil]; rfl
  | x :: r, a => by
    have e : putK (memK 0 a) (.inl (a.length : Int)) (vi x) = memK 0 (a ++ [x]) := by
      rw [putK_new _ (memK_none a 0 a.length (.inr (by omega))), memK_snoc, Nat.zero_add]
    have ih := memK_merge r (a ++ [x])
    rw [List.length_append, List.length_singleton, List.append_assoc] at ih
    show mergeK (putK (memK 0 a) (.inl (a.length : Int)) (vi x)) (memK (a.length + 1) r) = _
    rw [e]
    exact ih
theorem memK_at : ∀ (m : List Nat) (i c : Nat), (memK i m)[c]? = m[c]?.map fun x => ((.inl ((i + c : Nat) : Int) : Key), vi x)
  | [], _, _ => rfl
  | x :: r, i, 0 => rfl
  | x :: r, i, c + 1 => by
    unfold memK
    rw [List.getElem?_cons_succ, memK_at r, List.getElem?_cons_succ, show i + 1 + c = i + (c + 1) by omega]
theorem memK_range (m : List Nat) : ((List.range (nums m).length).map fun i : Nat => ((.inl (i : Int) : Key), (nums m).getD i .non)) = memK 0 m := by
  apply List.ext_getElem?
  intro c
  rw [memK_at, List.getElem?_map, nums_len]
  by_cases h : c < m.length
  · rw [List.getElem?_range h, List.getElem?_eq_getElem h]
    show some ((.inl (c : Int) : Key), (nums m).getD c .non) = some ((.inl ((0 + c : Nat) : Int) : Key), vi m[c])
    rw [Nat.zero_add, List.getD_eq_getElem?_getD]
    have : (nums m)[c]? = some (vi m[c]) := by
      unfold nums
      rw [List.getElem?_map, List.getElem?_eq_getElem h]
      rfl
    rw [this]
    rfl
  · rw [List.getElem?_eq_none (by simpa using h), List.getElem?_eq_none (by simpa using h)]
    rfl
theorem memK_dict (m : List Nat) : mergeK [] ((List.range (nums m).length).map fun i : Nat => ((.inl (i : Int) : Key), (nums m).getD i .non)) = memK 0 m := by
  rw [memK_range]
  exact memK_merge m []
/-! ### where the run lies -/
structure LaA where
  m : Addr
  B : Addr
  R : Addr
  P : Addr
  no : List Addr
def LaA.own (A : LaA) : List Addr := [A.m, A.B, A.R, A.P]
abbrev laKvs (A : LaA) (F : Addr) (sv : V) : List (Key × V) := [(kx "bytes", .ref A.B), (kx "flags", .ref F), (kx "rows", .ref A.R), (kx "peeks", .ref A.P), (kx "stuck", sv)]
theorem la_bytes {H : Hp} {A : LaA} {F : Addr} {sv : V} (h : H A.m = some (.dK (laKvs A F sv))) : DGet H A.m (.str (Str.ofString "bytes")) (some (.ref A.B)) := by
  have e : valV (laKvs A F sv) (kx "bytes") = some (.ref A.B) := valV_pos rfl
  rw [← e]
  exact DGet.k (k := kx "bytes") h
theorem la_flags {H : Hp} {A : LaA} {F : Addr} {sv : V} (h : H A.m = some (.dK (laKvs A F sv))) : DGet H A.m (.str (Str.ofString "flags")) (some (.ref F)) := by
  have e : valV (laKvs A F sv) (kx "flags") = some (.ref F) := (valV_neg (by decide +kernel : ¬ kx "bytes" = kx "flags")).trans (valV_pos rfl)
  rw [← e]
  exact DGet.k (k := kx "flags") h
theorem la_rows {H : Hp} {A : LaA} {F : Addr} {sv : V} (h : H A.m = some (.dK (laKvs A F sv))) : DGet H A.m (.str (Str.ofString "rows")) (some (.ref A.R)) := by
  have e : valV (laKvs A F sv) (kx "rows") = some (.ref A.R) := (valV_neg (by decide +kernel : ¬ kx "bytes" = kx "rows")).trans ((valV_neg (by decide +kernel : ¬ kx "flags" = kx "rows")).trans (valV_pos rfl))
  rw [← e]
  exact DGet.k (k := kx "rows") h
theorem la_peeks {H : Hp} {A : LaA} {F : Addr} {sv : V} (h : H A.m = some (.dK (laKvs A F sv))) : DGet H A.m (.str (Str.ofString "peeks")) (some (.ref A.P)) := by
  have e : valV (laKvs A F sv) (kx "peeks") = some (.ref A.P) := (valV_neg (by decide +kernel : ¬ kx "bytes" = kx "peeks")).trans ((valV_neg (by decide +kernel : ¬ kx "flags" = kx "peeks")).trans ((valV_neg (by decide +kernel : ¬ kx "rows" = kx "peeks")).trans (valV_pos rfl)))
  rw [← e]
  exact DGet.k (k := kx "peeks") h
theorem la_stuck {H : Hp} {A : LaA} {F : Addr} {sv : V} (h : H A.m = some (.dK (laKvs A F sv))) : DGet H A.m (.str (Str.ofString "stuck")) (some sv) := by
  have e : valV (laKvs A F sv) (kx "stuck") = some sv := (valV_neg (by decide +kernel : ¬ kx "bytes" = kx "stuck")).trans ((valV_neg (by decide +kernel : ¬ kx "flags" = kx "stuck")).trans ((valV_neg (by decide +kernel : ¬ kx "rows" = kx "stuck")).trans ((valV_neg (by decide +kernel : ¬ kx "peeks" = kx "stuck")).trans (valV_pos rfl))))
  rw [← e]
  exact DGet.k (k := kx "stuck") h
theorem put_stuck {A : LaA} {F : Addr} {sv sv' : V} : putK (laKvs A F sv) (kx "stuck") sv' = laKvs A F sv' := by
  have h1 : ¬ Str.ofString "bytes" = Str.ofString "stuck" := by decide +kernel
  have h2 : ¬ Str.ofString "flags" = Str.ofString "stuck" := by decide +kernel
  have h3 : ¬ Str.ofString "rows" = Str.ofString "stuck" := by decide +kernel
  have h4 : ¬ Str.ofString "peeks" = Str.ofString "stuck" := by decide +kernel
  simp [putK, laKvs, h1, h2, h3, h4]
theorem put_flags {A : LaA} {F F' : Addr} {sv : V} : putK (laKvs A F sv) (kx "flags") (.ref F') = laKvs A F' sv := by
  have h1 : ¬ Str.ofString "bytes" = Str.ofString "flags" := by decide +kernel
  have h2 : ¬ Str.ofString "stuck" = Str.ofString "flags" := by decide +kernel
  have h3 : ¬ Str.ofString "rows" = Str.ofString "flags" := by decide +kernel
  have h4 : ¬ Str.ofString "peeks" = Str.ofString "flags" := by decide +kernel
  simp [putK, laKvs, h1, h2, h3, h4]
theorem dput_stuck {H : Hp} {A : LaA} {F : Addr} {sv sv' : V} (h : H A.m = some (.dK (laKvs A F sv))) : DPut H A.m (.str (Str.ofString "stuck")) sv' (upd H A.m (.dK (laKvs A F sv'))) := by
  rw [← put_stuck (A := A) (F := F) (sv := sv)]
  exact DPut.k (k := kx "stuck") h (by show 5 < sizeLine; decide)
theorem dput_flags {H : Hp} {A : LaA} {F F' : Addr} {sv : V} (h : H A.m = some (.dK (laKvs A F sv))) : DPut H A.m (.str (Str.ofString "flags")) (.ref F') (upd H A.m (.dK (laKvs A F' sv))) := by
  rw [← put_flags (A := A) (F := F) (sv := sv)]
  exact DPut.k (k := kx "flags") h (by show 5 < sizeLine; decide)
structure LAt (H : Hp) (A : LaA) (r : Run) : Prop where
  nd : A.own.Nodup
  top : ∃ F sv, H A.m = some (.dK (laKvs A F sv)) ∧ TD H sv (stuckD r.stuck) ∧ F ∉ A.own ++ A.no ∧ H F = some (.lst (nums r.flags))
  byt : H A.B = some (.dK (memK 0 r.mem))
  row : ∃ rvs, H A.R = some (.lst rvs) ∧ TDs H rvs (r.rows.map Row.d)
  pks : H A.P = some (.lst (nums r.peeks))
section
variable {H H' : Hp} {A : LaA} {r : Run}
theorem LAt.kp0 (h : LAt H A r) (k : Kp [] H H') : LAt H' A r := by
  obtain ⟨nd, ⟨F, sv, t1, t2, t3, t4⟩, b, ⟨rvs, r1, r2⟩, p⟩ := h
  exact ⟨nd, ⟨F, sv, k.same _ _ t1, t2.kp k, t3, k.same _ _ t4⟩, k.same _ _ b, ⟨rvs, k.same _ _ r1, r2.kp k⟩, k.same _ _ p⟩

theorem LAt.kpD {M : List Addr} (h : LAt H A r) (k : Kp M H H') (hM : ∀ b ∈ M, b ∈ A.no ∧ b ∉ A.own) : LAt H' A r := by
  obtain ⟨nd, ⟨F, sv, t1, t2, t3, t4⟩, b, ⟨rvs, r1, r2⟩, p⟩ := h
  have z : ∀ a ∈ A.own, a ∉ M := fun a ha hn => (hM a hn).2 ha
  have zF : F ∉ M := fun hn => t3 (List.mem_append_right _ (hM F hn).1)
  exact ⟨nd, ⟨F, sv, k.keep _ _ t1 (z _ (by simp [LaA.own])), t2.kp k, t3, k.keep _ _ t4 zF⟩, k.keep _ _ b (z _ (by simp [LaA.own])), ⟨rvs, k.keep _ _ r1 (z _ (by simp [LaA.own])), r2.kp k⟩, k.keep _ _ p (z _ (by simp [LaA.own]))⟩
theorem LAt.avoid (h : LAt H A r) {D : Addr} (hD : H D = none) : LAt H { A with no := D :: A.no } r := by
  obtain ⟨nd, ⟨F, sv, t1, t2, t3, t4⟩, b, ⟨rvs, r1, r2⟩, p⟩ := h
  refine ⟨nd, ⟨F, sv, t1, t2, fun z => ?_, t4⟩, b, ⟨rvs, r1, r2⟩, p⟩
  rcases List.mem_append.mp z with z | z
  · exact t3 (List.mem_append_left _ z)
  · rcases List.mem_cons.mp z with rfl | z
    · rw [hD] at t4; cases t4
    · exact t3 (List.mem_append_right _ z)
theorem LAt.forget {D : Addr} (h : LAt H { A with no := D :: A.no } r) : LAt H A r := by
  obtain ⟨nd, ⟨F, sv, t1, t2, t3, t4⟩, b, ⟨rvs, r1, r2⟩, p⟩ := h
  refine ⟨nd, ⟨F, sv, t1, t2, fun z => t3 ?_, t4⟩, b, ⟨rvs, r1, r2⟩, p⟩
  rcases List.mem_append.mp z with z | z
  · exact List.mem_append_left _ z
  · exact List.mem_append_right _ (List.mem_cons_of_mem _ z)
theorem LaA.nds (h : A.own.Nodup) : A.m ≠ A.B ∧ A.m ≠ A.R ∧ A.m ≠ A.P ∧ A.B ≠ A.R ∧ A.B ≠ A.P ∧ A.R ≠ A.P := by
  unfold LaA.own at h
  simp only [List.nodup_cons, List.mem_cons, List.mem_nil_iff, not_or, or_false] at h
  obtain ⟨⟨a1, a2, a3⟩, ⟨b1, b2⟩, c1, _⟩ := h
  exact ⟨a1, a2, a3, b1, b2, c1⟩
theorem LAt.updB (h : LAt H A r) (m' : List Nat) : LAt (upd H A.B (.dK (memK 0 m'))) A { r with mem := m' } ∧ Kp A.own H (upd H A.B (.dK (memK 0 m'))) := by
  obtain ⟨nd, ⟨F, sv, t1, t2, t3, t4⟩, b, ⟨rvs, r1, r2⟩, p⟩ := h
  obtain ⟨a1, a2, a3, b1, b2, c1⟩ := LaA.nds nd
  have k : Kp A.own H (upd H A.B (.dK (memK 0 m'))) := Kp.put b (by simp) (by simp [LaA.own])
  have z : F ≠ A.B := fun z => t3 (by simp [LaA.own, z])
  exact ⟨⟨nd, ⟨F, sv, by rw [upd_ne a1]; exact t1, t2.kp k, t3, by rw [upd_ne z]; exact t4⟩, upd_same, ⟨rvs, by rw [upd_ne b1.symm]; exact r1, r2.kp k⟩, by rw [upd_ne b2.symm]; exact p⟩, k⟩
theorem LAt.updR (h : LAt H A r) {rvs : List V} {rows : List Row} (hr : TDs H rvs (rows.map Row.d)) : LAt (upd H A.R (.lst rvs)) A { r with rows := rows } ∧ Kp A.own H (upd H A.R (.lst rvs)) := by
  obtain ⟨nd, ⟨F, sv, t1, t2, t3, t4⟩, b, ⟨rvs0, r1, r2⟩, p⟩ := h
  obtain ⟨a1, a2, a3, b1, b2, c1⟩ := LaA.nds nd
  have k : Kp A.own H (upd H A.R (.lst rvs)) := Kp.put r1 (by simp) (by simp [LaA.own])
  have z : F ≠ A.R := fun z => t3 (by simp [LaA.own, z])
  exact ⟨⟨nd, ⟨F, sv, by rw [upd_ne a2]; exact t1, t2.kp k, t3, by rw [upd_ne z]; exact t4⟩, by rw [upd_ne b1]; exact b, ⟨rvs, upd_same, hr.kp k⟩, by rw [upd_ne c1.symm]; exact p⟩, k⟩
theorem LAt.updP (h : LAt H A r) {vs : List V} (ps : List Nat) (hv : vs = nums ps) : LAt (upd H A.P (.lst vs)) A { r with peeks := ps } ∧ Kp A.own H (upd H A.P (.lst vs)) := by
  subst hv
  obtain ⟨nd, ⟨F, sv, t1, t2, t3, t4⟩, b, ⟨rvs, r1, r2⟩, p⟩ := h
  obtain ⟨a1, a2, a3, b1, b2, c1⟩ := LaA.nds nd
  have k : Kp A.own H (upd H A.P (.lst (nums ps))) := Kp.put p (by simp) (by simp [LaA.own])
  have z : F ≠ A.P := fun z => t3 (by simp [LaA.own, z])
  exact ⟨⟨nd, ⟨F, sv, by rw [upd_ne a3]; exact t1, t2.kp k, t3, by rw [upd_ne z]; exact t4⟩, by rw [upd_ne b2]; exact b, ⟨rvs, by rw [upd_ne c1]; exact r1, r2.kp k⟩, upd_same⟩, k⟩
theorem LAt.updT (h : LAt H A r) {F' : Addr} {sv' : V} {fl : List Nat} {st : Option Spot} (hs : TD H sv' (stuckD st)) (hF : F' ∉ A.own ++ A.no) (hf : H F' = some (.lst (nums fl))) :
    LAt (upd H A.m (.dK (laKvs A F' sv'))) A { r with flags := fl, stuck := st } ∧ Kp A.own H (upd H A.m (.dK (laKvs A F' sv'))) := by
  obtain ⟨nd, ⟨F, sv, t1, t2, t3, t4⟩, b, ⟨rvs, r1, r2⟩, p⟩ := h
  obtain ⟨a1, a2, a3, b1, b2, c1⟩ := LaA.nds nd
  have k : Kp A.own H (upd H A.m (.dK (laKvs A F' sv'))) := Kp.put t1 (by simp) (by simp [LaA.own])
  have z : F' ≠ A.m := fun z => hF (by simp [LaA.own, z])
  exact ⟨⟨nd, ⟨F', sv', upd_same, hs.kp k, hF, by rw [upd_ne z]; exact hf⟩, by rw [upd_ne a1.symm]; exact b, ⟨rvs, by rw [upd_ne a2.symm]; exact r1, r2.kp k⟩, by rw [upd_ne a3.symm]; exact p⟩, k⟩
theorem byte_get {B : Addr} {m : List Nat} {c : Nat} (h : H B = some (.dK (memK 0 m))) (hc : c < m.length) : DGet H B (vi c) (some (vi (m.getD c 0))) := by
  rw [← memK_get0 hc]
  exact DGet.k (k := .inl (c : Int)) h
theorem byte_put {B : Addr} {m : List Nat} {c : Nat} (x : Nat) (h : H B = some (.dK (memK 0 m))) (hc : c < m.length) (l : m.length ≤ 1000) : DPut H B (vi c) (vi x) (upd H B (.dK (memK 0 (m.set c x)))) := by
  rw [← memK_put x hc]
  exact DPut.k (k := .inl (c : Int)) h (by rw [memK_len, sizeLine_eq]; omega)
end
theorem Row.td {H : Hp} {T : Addr} {sv : V} {s : Spot} {w : Bool} {pt c b : Nat} (h : H T = some (.tup [sv, vi pt, .str (wayS w), vi c, vi b])) (hs : TD H sv s.d) : TD H (.ref T) (Row.d ⟨s, ⟨pt, w, c, b⟩⟩) :=
  TDs.tup h (.cons hs (.cons (.int _) (.cons (.str _) (.cons (.int _) (.cons (.int _) .nil)))))
theorem Run.tell_tell (r : Run) (s : Spot) (a b : List Rw) : (r.tell s a).tell s b = r.tell s (a ++ b) := by
  unfold Run.tell
  rw [List.map_append, ← List.append_assoc]
end L2.K14
set_option Elab.async false
set_option linter.all false
set_option maxRecDepth 100000
set_option maxHeartbeats 4000000
set_option pp.maxSteps 600
/-! the law's own run: reads, writes, cells -/
namespace L2.K14
open PySem PySem.Spec PyProof.Rows
theorem rgV_nums (s n : Nat) : rgV (s : Int) n = nums ((List.range n).map fun i => s + i) := by
  unfold rgV nums
  rw [List.map_map]
  apply List.map_congr_left
  intro i _
  show V.int ((s : Int) + (i : Nat)) = V.int (((s + i : Nat) : Int))
  rw [Int.natCast_add]
theorem merge_la (A : LaA) (F : Addr) (sv : V) : mergeK [] (laKvs A F sv) = laKvs A F sv := by
  have h1 : ¬ Str.ofString "bytes" = Str.ofString "flags" := by decide +kernel
  have h2 : ¬ Str.ofString "bytes" = Str.ofString "rows" := by decide +kernel
  have h3 : ¬ Str.ofString "bytes" = Str.ofString "peeks" := by decide +kernel
  have h4 : ¬ Str.ofString "bytes" = Str.ofString "stuck" := by decide +kernel
  have h5 : ¬ Str.ofString "flags" = Str.ofString "rows" := by decide +kernel
  have h6 : ¬ Str.ofString "flags" = Str.ofString "peeks" := by decide +kernel
  have h7 : ¬ Str.ofString "flags" = Str.ofString "stuck" := by decide +kernel
  have h8 : ¬ Str.ofString "rows" = Str.ofString "peeks" := by decide +kernel
  have h9 : ¬ Str.ofString "rows" = Str.ofString "stuck" := by decide +kernel
  have h0 : ¬ Str.ofString "peeks" = Str.ofString "stuck" := by decide +kernel
  simp [mergeK, putK, laKvs, h1, h2, h3, h4, h5, h6, h7, h8, h9, h0]
section
variable {P : Program} {w : World} {K : PySem.W.Frag} {mg : Str → Option Value} {base : Heap} {f : Addr} {fd : FuncData}
abbrev N__law_cells : List Str := ["_law_area_here", "_law_found", "_law_start"]
theorem sc__law_cells : FnScope N__law_cells ["_law_area_here"] (defScope s__law_cells) := ⟨rfl, rfl, rfl, by decide +kernel, rfl, by decide +kernel, by decide +kernel⟩
def sp_law_cells : Sp := fun vs H Q _ => ∃ (v : V) (a : Ar), vs = [v] ∧ TD H v a.d ∧ a.Ok 40 ∧ NewL H (nums a.cells) Q
theorem ok_law_cells (T : Txt K mg) (F : Fd K "_law_cells" "_law_cells" s__law_cells f fd) : FnOk P w K mg base CX0 1 f fd ["_law_area_here"] sp_law_cells := by
  refine FunD.ok F sc__law_cells (fun vs H Q E h => ?_) (fun cdv A outer s H vs Q E hr h => ?_)
  · obtain ⟨v, a, rfl, _⟩ := h
    rfl
  · obtain ⟨v, a, rfl, hv, aok, q⟩ := h
    have r8 := aok.rows8
    have c8 := aok.count8
    have c1 := aok.c1
    have hsp := aok.span
    have hst : a.start + a.pitch * a.rows ≤ 1000 := by
      have : a.pitch * a.rows ≤ 40 * 8 := Nat.mul_le_mul aok.p40 r8
      omega
    obtain ⟨p, rfl, hp⟩ := hv.area
    refine ⟨_, PSs.nox (pss_cons (ps_par (i := 1) (j := 2) rfl sc__law_cells.nd rfl rfl (by decide) rfl rfl (pa_cons (pe_lstK pa_nil) (pa_cons (pe_ix ix_tup (pv 0) pe_int (fun _ _ => rfl)) pa_nil)) (by rfl))
      (pss_cons (ps_while PassesOwn.never (pt_cmpR op_lt (pe_callB call_len_seq (by rfl) T.b_len PySem.boot_len (pa_cons (pv 1) pa_nil)) (pe_op op_mul (pe_ix ix_tup (pv 0) pe_int (fun _ _ => rfl)) (pe_ix ix_tup (pv 0) pe_int (fun _ _ => rfl))) (nomark _)) (pss_cons (ps_expr (pe_bm PySem.F.plainAttrs_list PySem.F.slot_list_extend PySem.F.type_list_extend mt_extend (pv 1) (pa_cons (pe_listRg rfl (by rfl) T.b_list (by rfl) T.b_range (pa_cons (pv 2) (pa_cons (pe_op op_add (pv 2) (pe_ix ix_tup (pv 0) pe_int (fun _ _ => rfl))) pa_nil)) (by decide +kernel)) pa_nil)))
      (pss_one (ps_set (i := 2) sc__law_cells.nd rfl (Or.inl rfl) (pe_op op_add (pv 2) (pe_ix ix_tup (pv 0) pe_int (fun _ _ => rfl)))))))
      (pss_one (ps_ret (pv 1))))), ?_⟩
    have hp1 : ∀ {H' : Hp}, Kp [] H H' → H' p = some (.tup [vi a.start, vi a.count, vi a.rows, vi a.pitch]) := fun k => k.same _ _ hp
    refine ⟨sz 0, fun D H1 k1 n1 e1 => ⟨_, rfl, p, _, 0, _, rfl, rfl, SqT.of (hp1 k1), atN (n := 0) rfl rfl, _, _, rfl, ?_⟩⟩
    refine ⟨fun m σ H2 => ∃ i, i + m = a.rows ∧ Kp [] H H2 ∧ H D = none ∧ H2 D = some (.lst (nums ((List.range i).flatMap a.row))) ∧ σ = [some (.ref p), some (.ref D), some (vi (a.start + a.pitch * i))], ⟨a.rows, 0, Nat.zero_add _, k1, n1, e1, rfl⟩, fun m σ H2 w => ?_⟩
    obtain ⟨i, hi, k2, n2, e2, rfl⟩ := w
    have hl : (nums ((List.range i).flatMap a.row)).length = i * a.count := by rw [nums_len, fm_len _ fun r _ => a.row_len r, List.length_range]
    refine ⟨_, rfl, D, _, rfl, .inl (SqL.of e2), _, rfl, p, _, 1, _, rfl, rfl, SqT.of (hp1 k2), atN (n := 1) rfl rfl, _, rfl, p, _, 2, _, rfl, rfl, SqT.of (hp1 k2), atN (n := 2) rfl rfl, _, _, rfl, rfl, .inl ⟨by omega, by omega⟩, _, _, rfl, rfl, _, rfl, ?_⟩
    rw [hl]
    cases m with
    | zero =>
      have ei : i = a.rows := by omega
      subst ei
      refine iteDF (by rw [Int.natCast_mul, Int.mul_comm]; omega) ?_
      exact ⟨_, rfl, q _ D k2 n2 e2⟩
    | succ m =>
      have i8 : i < 8 := by omega
      have ic : i * a.count ≤ 8 * 8 := Nat.mul_le_mul (by omega) c8
      have hc : 0 < a.count := c1
      have hpi : a.pitch * i ≤ a.pitch * a.rows := Nat.mul_le_mul_left _ (by omega)
      have hlt : ((i * a.count : Nat) : Int) < (a.count : Int) * (a.rows : Int) := by
        have : i * a.count < a.count * a.rows := by rw [Nat.mul_comm a.count]; exact Nat.mul_lt_mul_of_pos_right (by omega) hc
        rw [← Int.natCast_mul]
        omega
      refine iteDT hlt ⟨_, fun σ' H' z => ⟨m, Nat.lt_succ_self m, i + 1, by omega, z⟩, ?_⟩
      refine ⟨_, rfl, .inl ⟨rfl, _, SqL.of e2⟩, _, rfl, _, rfl, _, rfl, p, _, 1, _, rfl, rfl, SqT.of (hp1 k2), atN (n := 1) rfl rfl, _, _, rfl, rfl, _, _, a.count, rfl, by omega, by omega, by omega, by omega, fun L H3 k3 n3 e3 => ?_⟩
      rw [rgV_nums] at e3
      have e2' := k3.same _ _ e2
      refine ⟨D, L, _, _, rfl, rfl, e2', e3, ?_, ?_⟩
      · rw [hl, nums_len, List.length_map, List.length_range, sizeLine_eq]
        omega
      have hrow : nums ((List.range i).flatMap a.row) ++ nums ((List.range a.count).map fun j => a.start + a.pitch * i + j) = nums ((List.range (i + 1)).flatMap a.row) := by
        rw [← nums_app, List.range_succ, List.flatMap_append]
        simp [Ar.row]
      rw [hrow]
      have k4 : Kp [D] H3 (upd H3 D (.lst (nums ((List.range (i + 1)).flatMap a.row)))) := Kp.put e2' (by simp) (by simp)
      have k24 : Kp [] H (upd H3 D (.lst (nums ((List.range (i + 1)).flatMap a.row)))) := Kp.drop (((k2.trans k3).any).trans k4) n2
      refine ⟨_, rfl, _, rfl, p, _, 3, _, rfl, rfl, SqT.of (hp1 k24), atN (n := 3) rfl rfl, _, _, rfl, rfl, k24, n2, upd_same, ?_⟩
      have hv : V.int (((a.start + a.pitch * i : Nat) : Int) + (a.pitch : Int)) = vi (a.start + a.pitch * (i + 1)) := by
        rw [Nat.mul_succ, ← Nat.add_assoc, ← Int.natCast_add]
      exact congrArg (fun x => [some (V.ref p), some (V.ref D), some x]) hv
abbrev N__law_own : List Str := ["_law_store_here"]
theorem sc__law_own : FnScope N__law_own ["_law_store_here"] (defScope s__law_own) := ⟨rfl, rfl, rfl, by decide +kernel, rfl, by decide +kernel, by decide +kernel⟩
def sp_own : Sp := fun vs H Q _ => ∃ (v : V) (m : List Nat), vs = [v] ∧ TD H v (memD m) ∧ 1 ≤ m.length ∧ m.length ≤ 40 ∧ ∀ H' (A : LaA), Kp [] H H' → (∀ b ∈ A.own, H b = none) → A.no = [] → LAt H' A (run0 m) → Q (.ref A.m) H'
theorem ok_own (T : Txt K mg) (F : Fd K "_law_own" "_law_own" s__law_own f fd) : FnOk P w K mg base CX0 1 f fd ["_law_store_here"] sp_own := by
  refine FunD.ok F sc__law_own (fun vs H Q E h => ?_) (fun cdv AA outer s H vs Q E hr h => ?_)
  · obtain ⟨v, m, rfl, _⟩ := h
    rfl
  · obtain ⟨v, m, rfl, hv, m1, m40, q⟩ := h
    obtain ⟨p, rfl, hp⟩ := hv.mem
    refine ⟨_, PSs.nox (pss_one (ps_ret (pe_disp (pps_cons pe_str (pe_dictEnum rfl (pa_cons (pv 0) pa_nil) (by rfl) T.b_dict (by rfl) T.b_enumerate (by decide +kernel)) (pps_cons pe_str (pe_op op_repK (pe_lstK (pa_cons pe_int pa_nil)) pe_int) (pps_cons pe_str (pe_lstK pa_nil) (pps_cons pe_str (pe_lstK pa_nil) (pps_cons pe_str pe_non pps_nil))))) (by rfl) (by rfl) (fun z => by cases z) (by decide)))), ?_⟩
    refine fun d nd => ⟨_, rfl, p, nums m, rfl, SqT.of ((Kp.new (M := []) nd).same _ _ hp), by rw [nums_len]; exact m1, fun B H1 k1 n1 e1 => ?_⟩
    rw [memK_dict] at e1
    refine ⟨sz 1, fun p0 H2 k2 n2 e2 => ⟨p0, 8, _, rfl, rfl, e2, by decide, by decide, fun F H3 k3 n3 e3 => ?_⟩⟩
    rw [nums8] at e3
    refine ⟨sz 0, fun R H4 k4 n4 e4 => ⟨sz 0, fun U H5 k5 n5 e5 => ?_⟩⟩
    have d0 : upd H d (.dK []) d = some (.dK []) := upd_same
    have d1 := k1.same _ _ d0
    have d3 := (k2.trans k3).same _ _ d1
    have d4 := k4.same _ _ d3
    have d5 := k5.same _ _ d4
    have b3 := (k2.trans k3).same _ _ e1
    have b4 := k4.same _ _ b3
    have b5 := k5.same _ _ b4
    have f4 := k4.same _ _ e3
    have f5 := k5.same _ _ f4
    have r5 := k5.same _ _ e4
    have ne : ∀ {G : Hp} {x y : Addr} {o : HO}, G x = some o → G y = none → x ≠ y := fun e n z => by rw [z, n] at e; cases e
    refine ⟨d5, laKvs ⟨d, B, R, U, []⟩ F .non, rfl, (by decide : 5 ≤ 15), ?_⟩
    rw [merge_la]
    have kd : Kp [d] H5 (upd H5 d (.dK (laKvs ⟨d, B, R, U, []⟩ F .non))) := Kp.put d5 (by simp) (by simp)
    have k05 : Kp [] H H5 := (Kp.new (M := []) nd).trans ((((k1.trans k2).trans k3).trans k4).trans k5)
    have k01 : Kp [] H H1 := (Kp.new (M := []) nd).trans k1
    have zdB := ne d0 n1
    have zdR := ne d3 n4
    have zdU := ne d4 n5
    have zdF := ne ((k2.same _ _ d1)) n3
    have zFB := ne (k2.same _ _ e1) n3
    refine q _ ⟨d, B, R, U, []⟩ (Kp.drop (k05.any.trans kd) nd) (fun b hb => ?_) rfl ⟨?_, ⟨F, .non, upd_same, .non, ?_, ?_⟩, ?_, ⟨[], ?_, TDs.nil⟩, ?_⟩
    · simp only [LaA.own, List.mem_cons, List.mem_nil_iff, or_false] at hb
      rcases hb with rfl | rfl | rfl | rfl
      · exact nd
      · exact (Kp.new (M := []) nd).free n1
      · exact ((k01.trans k2).trans k3).free n4
      · exact (((k01.trans k2).trans k3).trans k4).free n5
    · simp only [LaA.own, List.nodup_cons, List.mem_cons, List.mem_nil_iff, not_or, or_false, List.nodup_nil, and_true, not_false_eq_true]
      exact ⟨⟨zdB, zdR, zdU⟩, ⟨ne b3 n4, ne b4 n5⟩, ne e4 n5⟩
    · show F ∉ [d, B, R, U] ++ []
      simp only [List.append_nil, List.mem_cons, List.mem_nil_iff, not_or, or_false]
      exact ⟨zdF.symm, zFB.symm, ne e3 n4, ne f4 n5⟩
    · rw [upd_ne zdF.symm]; exact f5
    · show upd H5 d _ B = _
      rw [upd_ne zdB.symm]; exact b5
    · show upd H5 d _ R = _
      rw [upd_ne zdR.symm]; exact r5
    · show upd H5 d _ U = _
      rw [upd_ne zdU.symm]; exact e5
abbrev N__law_read : List Str := ["_law_m", "_law_spot", "_law_part", "_law_place"]
theorem sc__law_read : FnScope N__law_read ["_law_m", "_law_spot", "_law_part", "_law_place"] (defScope s__law_read) := ⟨rfl, rfl, rfl, by decide +kernel, rfl, by decide +kernel, by decide +kernel⟩
def sp_read : Sp := fun vs H Q _ => ∃ (A : LaA) (r : Run) (s : Spot) (sv : V) (pt c : Nat), vs = [.ref A.m, sv, vi pt, vi c] ∧ LAt H A r ∧ TD H sv s.d ∧ c < r.mem.length ∧ r.mem.length ≤ 40 ∧ r.rows.length ≤ 10000 ∧
  ∀ H', Kp A.own H H' → LAt H' A (r.tell s [⟨pt, false, c, r.mem.getD c 0⟩]) → Q (vi (r.mem.getD c 0)) H'
theorem ok_read (T : Txt K mg) (F : Fd K "_law_read" "_law_read" s__law_read f fd) : FnOk P w K mg base CX0 1 f fd ["_law_m", "_law_spot", "_law_part", "_law_place"] sp_read := by
  refine FunD.ok F sc__law_read (fun vs H Q E h => ?_) (fun cdv AA outer s H vs Q E hr h => ?_)
  · obtain ⟨A, r, s, sv, pt, c, rfl, _⟩ := h
    rfl
  · obtain ⟨A, r, sp, sv, pt, c, rfl, la, hs, hc, m40, rl, q⟩ := h
    refine ⟨_, PSs.nox (pss_cons (ps_expr (pe_bm PySem.F.plainAttrs_list PySem.F.slot_list_append PySem.F.type_list_append mt_append (pe_dget (hu_of hr) (pv 0) pe_str (fun _ _ => rfl)) (pa_cons (pe_tupK (pa_cons (pv 1) (pa_cons (pv 2) (pa_cons pe_str (pa_cons (pv 3) (pa_cons (pe_dget (hu_of hr) (pe_dget (hu_of hr) (pv 0) pe_str (fun _ _ => rfl)) (pv 3) (fun _ _ => rfl)) pa_nil)))))) pa_nil)))
      (pss_one (ps_ret (pe_dget (hu_of hr) (pe_dget (hu_of hr) (pv 0) pe_str (fun _ _ => rfl)) (pv 3) (fun _ _ => rfl))))), ?_⟩
    obtain ⟨F, sv0, t1, t2, t3, t4⟩ := la.top
    obtain ⟨rvs, r1, r2⟩ := la.row
    have rvl := r2.1
    rw [List.length_map] at rvl
    refine ⟨_, rfl, A.m, _, rfl, la_rows t1, .inl ⟨rfl, _, SqL.of r1⟩, _, rfl, _, rfl, _, rfl, _, rfl, A.m, _, rfl, la_bytes t1, _, rfl, A.B, _, rfl, byte_get la.byt hc, sz 5, fun T1 H1 k1 n1 e1 => ?_⟩
    have la1 := la.kp0 k1
    have hnew : TDs H1 (rvs ++ [.ref T1]) ((r.rows ++ [(⟨sp, ⟨pt, false, c, r.mem.getD c 0⟩⟩ : Row)]).map Row.d) := by
      rw [List.map_append]
      exact TDs.append (r2.kp k1) (TDs.cons (Row.td e1 (hs.kp k1)) TDs.nil)
    obtain ⟨la2, k2⟩ := la1.updR hnew
    refine ⟨A.R, rvs, _, rfl, rfl, k1.same _ _ r1, ?_, ?_⟩
    · rw [sizeLine_eq]
      omega
    obtain ⟨F2, sv2, u1, u2, u3, u4⟩ := la2.top
    exact ⟨_, rfl, A.m, _, rfl, la_bytes u1, _, rfl, A.B, _, rfl, byte_get la2.byt hc, q _ (k1.any.trans k2) la2⟩
abbrev N__law_write : List Str := ["_law_m", "_law_spot", "_law_part", "_law_place", "_law_byte_here"]
theorem sc__law_write : FnScope N__law_write ["_law_m", "_law_spot", "_law_part", "_law_place", "_law_byte_here"] (defScope s__law_write) := ⟨rfl, rfl, rfl, by decide +kernel, rfl, by decide +kernel, by decide +kernel⟩
def sp_write : Sp := fun vs H Q _ => ∃ (A : LaA) (r : Run) (s : Spot) (sv : V) (pt c b : Nat), vs = [.ref A.m, sv, vi pt, vi c, vi b] ∧ LAt H A r ∧ TD H sv s.d ∧ c < r.mem.length ∧ r.mem.length ≤ 40 ∧ r.rows.length ≤ 10000 ∧
  ∀ H', Kp A.own H H' → LAt H' A (({ r with mem := r.mem.set c b } : Run).tell s [⟨pt, true, c, b⟩]) → Q .non H'
theorem ok_write (T : Txt K mg) (F : Fd K "_law_write" "_law_write" s__law_write f fd) : FnOk P w K mg base CX0 1 f fd ["_law_m", "_law_spot", "_law_part", "_law_place", "_law_byte_here"] sp_write := by
  refine FunD.ok F sc__law_write (fun vs H Q E h => ?_) (fun cdv AA outer s H vs Q E hr h => ?_)
  · obtain ⟨A, r, s, sv, pt, c, b, rfl, _⟩ := h
    rfl
  · obtain ⟨A, r, sp, sv, pt, c, b, rfl, la, hs, hc, m40, rl, q⟩ := h
    refine ⟨_, PSs.nox (pss_cons (ps_dput (hu_of hr) (pe_dget (hu_of hr) (pv 0) pe_str (fun _ _ => rfl)) (pv 3) (pv 4) rfl)
      (pss_one (ps_expr (pe_bm PySem.F.plainAttrs_list PySem.F.slot_list_append PySem.F.type_list_append mt_append (pe_dget (hu_of hr) (pv 0) pe_str (fun _ _ => rfl)) (pa_cons (pe_tupK (pa_cons (pv 1) (pa_cons (pv 2) (pa_cons pe_str (pa_cons (pv 3) (pa_cons (pv 4) pa_nil)))))) pa_nil))))), ?_⟩
    obtain ⟨F, sv0, t1, t2, t3, t4⟩ := la.top
    refine ⟨_, rfl, _, rfl, A.m, _, rfl, la_bytes t1, _, rfl, A.B, _, rfl, byte_put b la.byt hc (by omega), ?_⟩
    obtain ⟨la0, k0⟩ := la.updB (r.mem.set c b)
    revert la0 k0
    generalize upd H A.B (.dK (memK 0 (r.mem.set c b))) = H0
    intro la0 k0
    obtain ⟨F, sv0, t1, t2, t3, t4⟩ := la0.top
    obtain ⟨rvs, r1, r2⟩ := la0.row
    have rvl := r2.1
    rw [List.length_map] at rvl
    refine ⟨_, rfl, A.m, _, rfl, la_rows t1, .inl ⟨rfl, _, SqL.of r1⟩, _, rfl, _, rfl, _, rfl, _, rfl, sz 5, fun T1 H1 k1 n1 e1 => ?_⟩
    have la1 := la0.kp0 k1
    have hnew : TDs H1 (rvs ++ [.ref T1]) ((r.rows ++ [(⟨sp, ⟨pt, true, c, b⟩⟩ : Row)]).map Row.d) := by
      rw [List.map_append]
      exact TDs.append (r2.kp k1) (TDs.cons (Row.td e1 ((hs.kp k0).kp k1)) TDs.nil)
    obtain ⟨la2, k2⟩ := la1.updR hnew
    refine ⟨A.R, rvs, _, rfl, rfl, k1.same _ _ r1, ?_, ?_⟩
    · rw [sizeLine_eq]
      have : rvs.length = r.rows.length := rvl
      omega
    exact q _ ((k0.trans k1.any).trans k2) la2
abbrev N__law_passed : List Str := ["_law_m", "_law_spot", "_law_flag", "_law_least"]
theorem sc__law_passed : FnScope N__law_passed ["_law_m", "_law_spot", "_law_flag", "_law_least"] (defScope s__law_passed) := ⟨rfl, rfl, rfl, by decide +kernel, rfl, by decide +kernel, by decide +kernel⟩
def sp_passed : Sp := fun vs H Q _ => ∃ (A : LaA) (r : Run) (s : Spot) (sv : V) (g n : Nat), vs = [.ref A.m, sv, vi g, vi n] ∧ LAt H A r ∧ TD H sv s.d ∧ g < r.flags.length ∧
  ∀ H', Kp A.own H H' → LAt H' A (r.pass s g n) → Q .non H'
theorem ok_passed (T : Txt K mg) (F : Fd K "_law_passed" "_law_passed" s__law_passed f fd) : FnOk P w K mg base CX0 1 f fd ["_law_m", "_law_spot", "_law_flag", "_law_least"] sp_passed := by
  refine FunD.ok F sc__law_passed (fun vs H Q E h => ?_) (fun cdv AA outer s H vs Q E hr h => ?_)
  · obtain ⟨A, r, s, sv, g, n, rfl, _⟩ := h
    rfl
  · obtain ⟨A, r, sp, sv, g, n, rfl, la, hs, hg, q⟩ := h
    refine ⟨_, PSs.nox (pss_one (ps_if (pt_cmpR op_lt (pe_ix ix_list (pe_dget (hu_of hr) (pv 0) pe_str (fun _ _ => rfl)) (pv 2) (fun _ _ => rfl)) (pv 3) (nomark _)) (pss_one (ps_dput (hu_of hr) (pv 0) pe_str (pv 1) rfl)) pss_nil)), ?_⟩
    obtain ⟨F, sv0, t1, t2, t3, t4⟩ := la.top
    refine ⟨_, rfl, A.m, _, rfl, la_flags t1, _, rfl, F, _, _, _, rfl, rfl, SqL.of t4, atN rfl (nums_at hg), _, rfl, _, _, rfl, rfl, _, rfl, ?_⟩
    by_cases h : r.flags.getD g 0 < n
    · refine iteDT (by omega) ⟨_, rfl, _, rfl, A.m, _, rfl, dput_stuck t1, ?_⟩
      obtain ⟨la2, k2⟩ := la.updT (sv' := sv) (st := some sp) hs t3 t4
      refine q _ k2 ?_
      unfold Run.pass
      rw [if_pos h]
      exact la2
    · refine iteDF (by omega) (q _ (Kp.refl _) ?_)
      unfold Run.pass
      rw [if_neg h]
      exact la
end
end L2.K14
set_option Elab.async false
set_option linter.all false
set_option maxRecDepth 100000
set_option maxHeartbeats 4000000
set_option pp.maxSteps 600
/-! the law's own run: a step -/
namespace L2.K14
open PySem PySem.Spec PyProof.Rows
theorem Ar.Ok.up {a : Ar} {m n : Nat} (h : a.Ok m) (l : m ≤ n) : a.Ok n := ⟨h.c1, h.r1, h.cp, h.one, h.sz, Nat.le_trans h.span l, h.p40⟩
/-- a run, its bytes and more rows -/
def Run.to (r : Run) (s : Spot) (p : List Nat × List Rw) : Run := ({ r with mem := p.1 } : Run).tell s p.2
theorem Run.to_rd (r : Run) (s : Spot) (p : List Nat × List Rw) (x : Rw) : (r.to s p).tell s [x] = r.to s (p.1, p.2 ++ [x]) := Run.tell_tell _ s p.2 [x]
theorem Run.to_wr (r : Run) (s : Spot) (p : List Nat × List Rw) (m : List Nat) (x : Rw) : ({ r.to s p with mem := m } : Run).tell s [x] = r.to s (m, p.2 ++ [x]) := Run.tell_tell { r with mem := m } s p.2 [x]
theorem Run.to_nil (r : Run) (s : Spot) : r.to s (r.mem, []) = r := by
  unfold Run.to Run.tell
  rw [List.map_nil, List.append_nil]
theorem Run.to_rows (r : Run) (s : Spot) (p : List Nat × List Rw) : (r.to s p).rows.length = r.rows.length + p.2.length := by
  show (r.rows ++ p.2.map (Row.mk s)).length = _
  rw [List.length_append, List.length_map]
theorem LAt.nin {H : Hp} {A : LaA} {r : Run} (la : LAt H A r) {p : Addr} (n : H p = none) : p ∉ A.own := by
  obtain ⟨nd, ⟨F, sv, t1, _⟩, b, ⟨rvs, r1, _⟩, pk⟩ := la
  intro h
  simp only [LaA.own, List.mem_cons, List.mem_nil_iff, or_false] at h
  rcases h with rfl | rfl | rfl | rfl
  · rw [n] at t1; cases t1
  · rw [n] at b; cases b
  · rw [n] at r1; cases r1
  · rw [n] at pk; cases pk
section
variable {P : Program} {w : World} {K : PySem.W.Frag} {mg : Str → Option Value} {base : Heap} {f : Addr} {fd : FuncData}
abbrev N__law_moved : List Str := ["_law_m", "_law_spot", "_law_one", "_law_pairs", "_law_part", "_law_source", "_law_aim", "_law_told"]
theorem sc__law_moved : FnScope N__law_moved ["_law_m", "_law_spot", "_law_one"] (defScope s__law_moved) := ⟨rfl, rfl, rfl, by decide +kernel, rfl, by decide +kernel, by decide +kernel⟩
def sp_moved : Sp := fun vs H Q _ => ∃ (A : LaA) (r : Run) (s : Spot) (sv v : V) (t : Stp), vs = [.ref A.m, sv, v] ∧ LAt H A r ∧ TD H sv s.d ∧ TD H v t.d ∧ t.Ok r.mem.length ∧ r.mem.length ≤ 40 ∧ r.rows.length ≤ 5000 ∧
  ∀ H', Kp A.own H H' → LAt H' A (r.to s (t.run r.mem)) → Q .non H'
theorem ok_moved (T : Txt K mg) (F : Fd K "_law_moved" "_law_moved" s__law_moved f fd) (D__law_cells : Cal P w K mg base 1 "_law_cells" ["_law_area_here"] sp_law_cells)
    (D__law_read : Cal P w K mg base 1 "_law_read" ["_law_m", "_law_spot", "_law_part", "_law_place"] sp_read) (D__law_write : Cal P w K mg base 1 "_law_write" ["_law_m", "_law_spot", "_law_part", "_law_place", "_law_byte_here"] sp_write) :
    FnOk P w K mg base CX0 2 f fd ["_law_m", "_law_spot", "_law_one"] sp_moved := by
  refine FunD.ok F sc__law_moved (fun vs H Q E h => ?_) (fun cdv AA outer s H vs Q E hr h => ?_)
  · obtain ⟨A, r, s, sv, v, t, rfl, _⟩ := h
    rfl
  · obtain ⟨A, r, sp, sv, v, t, rfl, la, hs, hv, ok, m40, rl, q⟩ := h
    obtain ⟨p, us, rfl, hp, hu⟩ := hv.stp
    refine ⟨_, PSs.nox (pss_cons (ps_if (pt_cmpR op_eq (pe_ix ix_tup (pv 2) pe_int (fun _ _ => rfl)) pe_str (nomark _)) (pss_cons (ps_set (i := 3) sc__law_moved.nd rfl (Or.inl rfl) (pe_slice sl_listK (pe_listZip rfl (pa_cons (pc D__law_cells hr (pa_cons (pe_ix ix_tup (pv 2) pe_int (fun _ _ => rfl)) pa_nil)) (pa_cons (pc D__law_cells hr (pa_cons (pe_ix ix_tup (pv 2) pe_int (fun _ _ => rfl)) pa_nil)) pa_nil)) (by rfl) T.b_list (by rfl) T.b_zip (by decide +kernel)) (po_some (pe_ix ix_tup (pv 2) pe_int (fun _ _ => rfl))) po_none))
      (pss_one (ps_for PassesOwn.never rfl (pi_enum (by rfl) T.b_enumerate (pa_cons (pv 3) pa_nil)) (pg_tup rfl (pgs_cons (pg_name (i := 4) sc__law_moved.nd rfl (Or.inl rfl)) (pgs_cons (pg_tup rfl (pgs_cons (pg_name (i := 5) sc__law_moved.nd rfl (Or.inl rfl)) (pgs_cons (pg_name (i := 6) sc__law_moved.nd rfl (Or.inl rfl)) pgs_nil))) pgs_nil))) (pss_one (ps_expr (pc D__law_write hr (pa_cons (pv 0) (pa_cons (pv 1) (pa_cons (pv 4) (pa_cons (pv 6) (pa_cons (pc D__law_read hr (pa_cons (pv 0) (pa_cons (pv 1) (pa_cons (pv 4) (pa_cons (pv 5) pa_nil))))) pa_nil))))))))))) pss_nil)
      (pss_cons (ps_if (pt_cmpR op_eq (pe_ix ix_tup (pv 2) pe_int (fun _ _ => rfl)) pe_str (nomark _)) (pss_one (ps_for PassesOwn.never rfl (pi_enum (by rfl) T.b_enumerate (pa_cons (pe_slice sl_listK (pc D__law_cells hr (pa_cons (pe_ix ix_tup (pv 2) pe_int (fun _ _ => rfl)) pa_nil)) (po_some (pe_ix ix_tup (pv 2) pe_int (fun _ _ => rfl))) po_none) pa_nil)) (pg_tup rfl (pgs_cons (pg_name (i := 4) sc__law_moved.nd rfl (Or.inl rfl)) (pgs_cons (pg_name (i := 6) sc__law_moved.nd rfl (Or.inl rfl)) pgs_nil))) (pss_one (ps_expr (pc D__law_write hr (pa_cons (pv 0) (pa_cons (pv 1) (pa_cons (pv 4) (pa_cons (pv 6) (pa_cons (pe_ix ix_tup (pv 2) pe_int (fun _ _ => rfl)) pa_nil)))))))))) pss_nil)
      (pss_one (ps_if (pt_cmpR op_eq (pe_ix ix_tup (pv 2) pe_int (fun _ _ => rfl)) pe_str (nomark _)) (pss_cons (ps_setLc (i := 7) (own := [("_law_part", 4), ("_law_source", 5)]) (g := (gTup K 2 (gCons (gName 4) (gCons (gName 5) gNil)))) (tt := tYes) rfl sc__law_moved.nd rfl rfl (sw_true rfl rfl rfl (by decide +kernel)) (pi_enum (by rfl) T.b_enumerate (pa_cons (pc D__law_cells hr (pa_cons (pe_ix ix_tup (pv 2) pe_int (fun _ _ => rfl)) pa_nil)) pa_nil)) (blkOk_by (N := N__law_moved) (sc := defScope s__law_moved) (by decide +kernel)) (fun _ _ _ _ _ => (pg_tup rfl (pgs_cons (pg_name (i := 4) sc__law_moved.nd rfl (Or.inl rfl)) (pgs_cons (pg_name (i := 5) sc__law_moved.nd rfl (Or.inl rfl)) pgs_nil)))) (fun _ _ _ _ _ => pts_nil) (fun _ _ _ _ _ => (pc D__law_read hr (pa_cons (pv 0) (pa_cons (pv 1) (pa_cons (pv 4) (pa_cons (pv 5) pa_nil)))))))
      (pss_one (ps_expr (pc D__law_write hr (pa_cons (pv 0) (pa_cons (pv 1) (pa_cons (pe_callB call_len_seq (by rfl) T.b_len PySem.boot_len (pa_cons (pv 7) pa_nil)) (pa_cons (pe_ix ix_tup (pv 2) pe_int (fun _ _ => rfl)) (pa_cons (pe_op op_mod (pe_callB (cr_sum rfl) (by rfl) T.b_sum (by decide +kernel) (pa_cons (pv 7) pa_nil)) pe_int) pa_nil))))))))) pss_nil)))), ?_⟩
    have ix0 : ∀ {H' : Hp}, Kp A.own H H' → H' p = some (.tup (.str (Str.ofString t.w) :: us)) := fun k => k.tups _ _ hp
    refine ⟨_, rfl, p, _, 0, _, rfl, rfl, SqT.of hp, atN (n := 0) rfl rfl, ?_⟩
    cases t with
    | note x => exact ⟨rfl, _, rfl, iteBF (show decide (V.str (Str.ofString "note") = V.str (Str.ofString "copy")) = false by decide +kernel) ⟨_, rfl, p, _, 0, _, rfl, rfl, SqT.of hp, atN (n := 0) rfl rfl, rfl, _, rfl, iteBF (show decide (V.str (Str.ofString "note") = V.str (Str.ofString "fill")) = false by decide +kernel) ⟨_, rfl, p, _, 0, _, rfl, rfl, SqT.of hp, atN (n := 0) rfl rfl, rfl, _, rfl, iteBF (show decide (V.str (Str.ofString "note") = V.str (Str.ofString "add")) = false by decide +kernel) (q _ (Kp.refl _) (by rw [show (Stp.note x).run r.mem = (r.mem, []) from rfl, Run.to_nil]; exact la))⟩⟩⟩
    | wait x y => exact ⟨rfl, _, rfl, iteBF (show decide (V.str (Str.ofString "wait") = V.str (Str.ofString "copy")) = false by decide +kernel) ⟨_, rfl, p, _, 0, _, rfl, rfl, SqT.of hp, atN (n := 0) rfl rfl, rfl, _, rfl, iteBF (show decide (V.str (Str.ofString "wait") = V.str (Str.ofString "fill")) = false by decide +kernel) ⟨_, rfl, p, _, 0, _, rfl, rfl, SqT.of hp, atN (n := 0) rfl rfl, rfl, _, rfl, iteBF (show decide (V.str (Str.ofString "wait") = V.str (Str.ofString "add")) = false by decide +kernel) (q _ (Kp.refl _) (by rw [show (Stp.wait x y).run r.mem = (r.mem, []) from rfl, Run.to_nil]; exact la))⟩⟩⟩
    | fence => exact ⟨rfl, _, rfl, iteBF (show decide (V.str (Str.ofString "fence") = V.str (Str.ofString "copy")) = false by decide +kernel) ⟨_, rfl, p, _, 0, _, rfl, rfl, SqT.of hp, atN (n := 0) rfl rfl, rfl, _, rfl, iteBF (show decide (V.str (Str.ofString "fence") = V.str (Str.ofString "fill")) = false by decide +kernel) ⟨_, rfl, p, _, 0, _, rfl, rfl, SqT.of hp, atN (n := 0) rfl rfl, rfl, _, rfl, iteBF (show decide (V.str (Str.ofString "fence") = V.str (Str.ofString "add")) = false by decide +kernel) (q _ (Kp.refl _) (by rw [show Stp.fence.run r.mem = (r.mem, []) from rfl, Run.to_nil]; exact la))⟩⟩⟩
    | copy b c k =>
      obtain ⟨vb, us, rfl, hb, hu⟩ := hu.inv
      obtain ⟨vc, us, rfl, hc, hu⟩ := hu.inv
      obtain ⟨vk, us, rfl, hk, hu⟩ := hu.inv
      obtain rfl := hk.inv_int
      refine ⟨rfl, _, rfl, iteBT (show decide (V.str (Str.ofString "copy") = V.str (Str.ofString "copy")) = true by decide +kernel) ?_⟩
      refine ⟨_, rfl, p, _, 1, vb, rfl, rfl, SqT.of hp, atN (n := 1) rfl rfl, _, b, rfl, hb, ok.1.up m40, fun H3 L3 k3 n3 e3 => ?_⟩
      refine ⟨_, rfl, p, _, 2, vc, rfl, rfl, SqT.of (ix0 k3.any), atN (n := 2) rfl rfl, _, c, rfl, hc.kp k3, ok.2.1.up m40, fun H4 L4 k4 n4 e4 => ?_⟩
      have e3' := k4.same _ _ e3
      refine ⟨L3, L4, _, _, rfl, SqL.of e3', SqL.of e4, ?_, ?_, fun H5 L5 ts k5 n5 e5 tl tz => ?_⟩
      · rw [nums_len, nums_len, Ar.cells_len, Ar.cells_len]
        exact ok.2.2.1.symm
      · rw [nums_len, Ar.cells_len]
        exact ok.1.pos
      have k05 : Kp [] H H5 := (k3.trans k4).trans k5
      refine ⟨_, rfl, p, _, 3, _, rfl, rfl, SqT.of (ix0 k05.any), atN (n := 3) rfl rfl, _, rfl, L5, _, rfl, SqL.of e5, fun L6 H6 k6 n6 e6 => ?_⟩
      rw [cut_from, ← List.map_drop] at e6
      have k06 : Kp [] H H6 := k05.trans k6
      have la6 := la.kp0 k06
      have nin6 := (la.kp0 k05).nin n6
      have tl' : ts.length = b.cells.length := by rw [tl, nums_len]
      have cl : c.cells.length = b.cells.length := by rw [Ar.cells_len, Ar.cells_len]; exact ok.2.2.1.symm
      have b8 := ok.1.size8
      rw [← Ar.cells_len] at b8
      have ll : ((b.cells.zip c.cells).drop k).length = (ts.drop k).length := by rw [List.length_drop, List.length_zip, List.length_drop]; omega
      have hrun : (Stp.copy b c k).run r.mem = cpN ((b.cells.zip c.cells).drop k) r.mem (ts.drop k).length := by
        show cpN _ r.mem _ = _
        rw [ll]
      rw [hrun] at q
      generalize hl : (b.cells.zip c.cells).drop k = l at q ll
      refine ⟨_, rfl, L6, _, rfl, SqL.of e6, for_it (walk_enum (xs := (ts.drop k).map V.ref)) (fun i σ H' => Kp A.own H6 H' ∧ LAt H' A (r.to sp (cpN l r.mem i)) ∧
        ∃ v4 v5 v6, σ = [some (.ref A.m), some sv, some (.ref p), some (.ref L6), v4, v5, v6, none]) ⟨Kp.refl _, by show LAt H6 A (r.to sp (r.mem, [])); rw [Run.to_nil]; exact la6, none, none, none, rfl⟩ (fun i σ H' _ h => SqL.of (h.1.keep _ _ e6 nin6)) (fun i x σ H7 H8 hi h y => ?_) (fun σ H7 h => ?_)⟩
      · obtain ⟨k7, la7, v4, v5, v6, rfl⟩ := h
        obtain ⟨U, y0, rfl, nU, k8, eU, ey⟩ := enum_inv y
        obtain ⟨t0, et, rfl⟩ := refs_get ey
        rw [List.getElem?_drop] at et
        obtain ⟨x, y, g1, g2, g3⟩ := tz (k + i) _ et
        obtain ⟨sn, hsn, rfl⟩ := nums_get g1
        obtain ⟨tn, ht, rfl⟩ := nums_get g2
        have hli : l[i]? = some (sn, tn) := by rw [← hl]; exact zip_drop_at hsn ht
        have ls := Ar.cells_lt ok.1 (List.mem_of_getElem? hsn)
        have lt := Ar.cells_lt ok.2.1 (List.mem_of_getElem? ht)
        have g8 := k8.tups _ _ (k7.tups _ _ (k6.tups _ _ g3))
        have la8 := la7.kp0 k8
        have ml := cpN_len l r.mem i
        have rl2 := cpN_rows l r.mem i
        have i8 : i < 8 := by rw [List.length_map, List.length_drop] at hi; omega
        have hs8 := ((hs.kp k06).kp k7).kp k8
        have rr := r.to_rows sp (cpN l r.mem i)
        have mm : (r.to sp (cpN l r.mem i)).mem = (cpN l r.mem i).1 := rfl
        refine ⟨U, _, rfl, SqT.of eU, rfl, _, _, rfl, _, _, rfl, _, _, rfl, SqT.of g8, rfl, _, _, rfl, _, _, rfl, rfl, rfl, ?_⟩
        refine ⟨_, rfl, _, rfl, _, rfl, _, rfl, _, rfl, _, rfl, _, rfl, _, rfl, A, _, sp, sv, i, sn, rfl, la8, hs8, by rw [mm]; omega, by rw [mm]; omega, by omega, fun H9 k9 la9 => ?_⟩
        rw [Run.to_rd, mm] at la9
        have mm2 : (r.to sp ((cpN l r.mem i).1, (cpN l r.mem i).2 ++ [⟨i, false, sn, (cpN l r.mem i).1.getD sn 0⟩])).mem = (cpN l r.mem i).1 := rfl
        have rr2 := r.to_rows sp ((cpN l r.mem i).1, (cpN l r.mem i).2 ++ [⟨i, false, sn, (cpN l r.mem i).1.getD sn 0⟩])
        rw [List.length_append, List.length_singleton] at rr2
        refine ⟨A, _, sp, sv, i, tn, (cpN l r.mem i).1.getD sn 0, rfl, la9, hs8.kp k9, by rw [mm2]; omega, by rw [mm2]; omega, by omega, fun HA kA laA => ⟨((k7.trans k8.any).trans k9).trans kA, ?_, _, _, _, rfl⟩⟩
        rw [Run.to_wr, mm2, List.append_assoc] at laA
        rw [cpN_succ hli]
        exact laA
      · obtain ⟨k7, la7, v4, v5, v6, rfl⟩ := h
        rw [List.length_map] at la7
        have k07 : Kp A.own H H7 := k06.any.trans k7
        exact ⟨_, rfl, p, _, 0, _, rfl, rfl, SqT.of (ix0 k07), atN (n := 0) rfl rfl, rfl, _, rfl, iteBF (show decide (V.str (Str.ofString "copy") = V.str (Str.ofString "fill")) = false by decide +kernel) ⟨_, rfl, p, _, 0, _, rfl, rfl, SqT.of (ix0 k07), atN (n := 0) rfl rfl, rfl, _, rfl, iteBF (show decide (V.str (Str.ofString "copy") = V.str (Str.ofString "add")) = false by decide +kernel) (q _ k07 la7)⟩⟩
    | fill b x k =>
      obtain ⟨vb, us, rfl, hb, hu⟩ := hu.inv
      obtain ⟨vc, us, rfl, hc, hu⟩ := hu.inv
      obtain ⟨vk, us, rfl, hk, hu⟩ := hu.inv
      obtain rfl := hc.inv_int
      obtain rfl := hk.inv_int
      refine ⟨rfl, _, rfl, iteBF (show decide (V.str (Str.ofString "fill") = V.str (Str.ofString "copy")) = false by decide +kernel) ⟨_, rfl, p, _, 0, _, rfl, rfl, SqT.of hp, atN (n := 0) rfl rfl, rfl, _, rfl, iteBT (show decide (V.str (Str.ofString "fill") = V.str (Str.ofString "fill")) = true by decide +kernel) ?_⟩⟩
      refine ⟨_, rfl, p, _, 1, vb, rfl, rfl, SqT.of hp, atN (n := 1) rfl rfl, _, b, rfl, hb, ok.1.up m40, fun H3 L3 k3 n3 e3 => ?_⟩
      refine ⟨_, rfl, p, _, 3, _, rfl, rfl, SqT.of (ix0 k3.any), atN (n := 3) rfl rfl, _, rfl, L3, _, rfl, SqL.of e3, fun L6 H6 k6 n6 e6 => ?_⟩
      rw [cut_from, ← nums_drop] at e6
      have k06 : Kp [] H H6 := k3.trans k6
      have la6 := la.kp0 k06
      have nin6 := (la.kp0 k3).nin n6
      have b8 := ok.1.size8
      rw [← Ar.cells_len] at b8
      have l8 : (b.cells.drop k).length ≤ 8 := by rw [List.length_drop]; omega
      have hlt : ∀ t ∈ b.cells.drop k, t < r.mem.length := fun t ht => Ar.cells_lt ok.1 (List.mem_of_mem_drop ht)
      have hrun : (Stp.fill b x k).run r.mem = flN (b.cells.drop k) x r.mem (b.cells.drop k).length := rfl
      rw [hrun] at q
      generalize b.cells.drop k = l at q e6 l8 hlt
      refine ⟨L6, _, rfl, SqL.of e6, for_it (walk_enum (xs := nums l)) (fun i σ H' => Kp A.own H6 H' ∧ LAt H' A (r.to sp (flN l x r.mem i)) ∧
        ∃ v4 v6, σ = [some (.ref A.m), some sv, some (.ref p), none, v4, none, v6, none]) ⟨Kp.refl _, by show LAt H6 A (r.to sp (r.mem, [])); rw [Run.to_nil]; exact la6, none, none, rfl⟩ (fun i σ H' _ h => SqL.of (h.1.keep _ _ e6 nin6)) (fun i z σ H7 H8 hi h y => ?_) (fun σ H7 h => ?_)⟩
      · obtain ⟨k7, la7, v4, v6, rfl⟩ := h
        obtain ⟨U, y0, rfl, nU, k8, eU, ey⟩ := enum_inv y
        obtain ⟨tn, hli, rfl⟩ := nums_get ey
        have lt := hlt tn (List.mem_of_getElem? hli)
        have la8 := la7.kp0 k8
        have ml := flN_len l x r.mem i
        have rl2 := flN_rows l x r.mem i
        have i8 : i < 8 := by rw [nums_len] at hi; omega
        have hs8 := ((hs.kp k06).kp k7).kp k8
        have rr := r.to_rows sp (flN l x r.mem i)
        have mm : (r.to sp (flN l x r.mem i)).mem = (flN l x r.mem i).1 := rfl
        refine ⟨U, _, rfl, SqT.of eU, rfl, _, _, rfl, _, _, rfl, rfl, ?_⟩
        refine ⟨_, rfl, _, rfl, _, rfl, _, rfl, _, rfl, p, _, 2, _, rfl, rfl, SqT.of (k8.tups _ _ (k7.tups _ _ (ix0 k06.any))), atN (n := 2) rfl rfl, A, _, sp, sv, i, tn, x, rfl, la8, hs8, by rw [mm]; omega, by rw [mm]; omega, by omega, fun HA kA laA => ⟨(k7.trans k8.any).trans kA, ?_, _, _, rfl⟩⟩
        rw [Run.to_wr, mm] at laA
        rw [flN_succ hli]
        exact laA
      · obtain ⟨k7, la7, v4, v6, rfl⟩ := h
        rw [nums_len] at la7
        have k07 : Kp A.own H H7 := k06.any.trans k7
        exact ⟨_, rfl, p, _, 0, _, rfl, rfl, SqT.of (ix0 k07), atN (n := 0) rfl rfl, rfl, _, rfl, iteBF (show decide (V.str (Str.ofString "fill") = V.str (Str.ofString "add")) = false by decide +kernel) (q _ k07 la7)⟩
    | add b c =>
      obtain ⟨vb, us, rfl, hb, hu⟩ := hu.inv
      obtain ⟨vc, us, rfl, hc, hu⟩ := hu.inv
      obtain rfl := hc.inv_int
      refine ⟨rfl, _, rfl, iteBF (show decide (V.str (Str.ofString "add") = V.str (Str.ofString "copy")) = false by decide +kernel) ⟨_, rfl, p, _, 0, _, rfl, rfl, SqT.of hp, atN (n := 0) rfl rfl, rfl, _, rfl, iteBF (show decide (V.str (Str.ofString "add") = V.str (Str.ofString "fill")) = false by decide +kernel) ⟨_, rfl, p, _, 0, _, rfl, rfl, SqT.of hp, atN (n := 0) rfl rfl, rfl, _, rfl, iteBT (show decide (V.str (Str.ofString "add") = V.str (Str.ofString "add")) = true by decide +kernel) ?_⟩⟩⟩
      refine ⟨_, rfl, p, _, 1, vb, rfl, rfl, SqT.of hp, atN (n := 1) rfl rfl, _, b, rfl, hb, ok.1.up m40, fun H3 L3 k3 n3 e3 => ?_⟩
      have b8 := ok.1.size8
      rw [← Ar.cells_len] at b8
      have hlt : ∀ t ∈ b.cells, t < r.mem.length := fun t ht => Ar.cells_lt ok.1 ht
      have la3 := la.kp0 k3
      refine ⟨L3, _, rfl, SqL.of e3, fun D hD => ?_⟩
      have ninD := la3.nin hD
      have nin3 := la.nin n3
      have laD := la3.avoid hD
      refine lc_st (walk_enum (xs := nums b.cells)) A.own (fun i acc H' => acc = nums ((b.cells.map fun x => r.mem.getD x 0).take i) ∧ LAt H' { A with no := D :: A.no } (r.to sp (r.mem, adN b.cells r.mem i))) hD ninD (fun i acc H1 H2 k h => ⟨h.1, ?_⟩) ⟨rfl, by show LAt H3 { A with no := D :: A.no } (r.to sp (r.mem, [])); rw [Run.to_nil]; exact laD⟩ (fun H' k => SqL.of (k.keep _ _ e3 nin3)) YPair.kp (fun i acc H' hi h => ?_) (fun i x H4 H5 acc hi k4 h y N S hN hS => ?_) (fun H4 acc k4 e4 h => ?_)
      · refine h.2.kpD k fun x hx => ?_
        rw [List.mem_singleton.mp hx]
        exact ⟨List.mem_cons_self .., ninD⟩
      · rw [h.1, nums_len, List.length_take]
        rw [nums_len] at hi
        omega
      · obtain ⟨U, y0, rfl, nU, k5, eU, ey⟩ := enum_inv y
        obtain ⟨tn, hli, rfl⟩ := nums_get ey
        have lt := hlt tn (List.mem_of_getElem? hli)
        obtain ⟨h1, h2⟩ := h
        have la5 := h2.kp0 k5
        have hs5 := ((hs.kp k3).kp k4).kp k5
        have i8 : i < 8 := by rw [nums_len] at hi; omega
        have rr := r.to_rows sp (r.mem, adN b.cells r.mem i)
        have rl2 := adN_rows b.cells r.mem i
        refine ⟨U, _, rfl, SqT.of eU, rfl, _, _, rfl, _, _, rfl, rfl, rfl, ?_⟩
        refine ⟨_, rfl, _, rfl, _, rfl, _, rfl, { A with no := D :: A.no }, _, sp, sv, i, tn, rfl, la5, hs5, lt, m40, by rw [rr]; show _ + (adN b.cells r.mem i).length ≤ _; omega, fun H9 k9 la9 => hN _ _ (k9) ⟨?_, ?_⟩⟩
        · rw [h1, take_snoc (x := r.mem.getD tn 0) (by rw [List.getElem?_map, hli]; rfl), nums_app]
          rfl
        · rw [Run.to_rd] at la9
          rw [adN_succ hli]
          exact la9
      · obtain ⟨h1, h2⟩ := h
        replace h2 := h2.forget
        rw [nums_len] at h1 h2
        rw [List.take_of_length_le (by rw [List.length_map]; exact Nat.le_refl _)] at h1
        have hs4 := (hs.kp k3).kp k4
        have k04 : Kp A.own H H4 := k3.any.trans k4
        have al : acc.length = b.cells.length := by rw [h1, nums_len, List.length_map]
        have rr := r.to_rows sp (r.mem, adN b.cells r.mem b.cells.length)
        have rl2 := adN_rows b.cells r.mem b.cells.length
        have e4' := e4
        rw [h1, nums_map] at e4'
        refine ⟨_, rfl, _, rfl, _, rfl, D, _, rfl, .inl (SqL.of e4), _, rfl, p, _, 2, _, rfl, rfl, SqT.of (ix0 k04), atN (n := 2) rfl rfl, _, rfl, D, _, rfl, SqL.of e4', _, _, rfl, rfl, by show (0 : Int) < 256; decide, ?_⟩
        refine ⟨A, _, sp, sv, b.cells.length, c, adS b.cells r.mem, by show [V.ref A.m, sv, V.int (acc.length : Int), vi c, V.int (((b.cells.map fun x => r.mem.getD x 0).map fun n : Nat => (n : Int)).sum % 256)] = _; rw [adS_int, al], h2, hs4, ok.2, m40, by rw [rr]; show _ + (adN b.cells r.mem b.cells.length).length ≤ _; omega, fun H9 k9 la9 => q _ (k04.trans k9) ?_⟩
        rw [Run.to_wr] at la9
        exact la9
end
end L2.K14
set_option Elab.async false
set_option linter.all false
set_option maxRecDepth 100000
set_option maxHeartbeats 4000000
set_option pp.maxSteps 600
/-! the law's own run: a deed -/
namespace L2.K14
open PySem PySem.Spec PyProof.Rows
def Stp.isNote (h : Nat) : Stp → Bool
  | .note h' => decide (h' = h) | _ => false
theorem ofs_copyN : (Str.ofString "copy" == Str.ofString "note") = false := by decide +kernel
theorem ofs_fillN : (Str.ofString "fill" == Str.ofString "note") = false := by decide +kernel
theorem ofs_addN : (Str.ofString "add" == Str.ofString "note") = false := by decide +kernel
theorem ofs_waitN : (Str.ofString "wait" == Str.ofString "note") = false := by decide +kernel
theorem ofs_fenceN : (Str.ofString "fence" == Str.ofString "note") = false := by decide +kernel
theorem ofs_noteN : (Str.ofString "note" == Str.ofString "note") = true := by decide +kernel
theorem Stp.eqv_note (t : Stp) (i : Nat) : PyData.eqv t.d (Stp.note i).d = t.isNote i := by
  cases t with
  | note h' =>
    simp only [Stp.d, Stp.isNote, PyData.eqv, PyData.eqvAll, ofs_noteN]
    by_cases e : h' = i
    · rw [e]; simp
    · have : ¬ ((h' : Int) = (i : Int)) := by omega
      simp [e, this]
  | copy a b k => simp only [Stp.d, Stp.isNote, PyData.eqv, PyData.eqvAll, ofs_copyN, Bool.false_and]
  | fill a b k => simp only [Stp.d, Stp.isNote, PyData.eqv, PyData.eqvAll, ofs_fillN, Bool.false_and]
  | add a b => simp only [Stp.d, Stp.isNote, PyData.eqv, PyData.eqvAll, ofs_addN, Bool.false_and]
  | wait a b => simp only [Stp.d, Stp.isNote, PyData.eqv, PyData.eqvAll, ofs_waitN, Bool.false_and]
  | fence => simp only [Stp.d, Stp.isNote, PyData.eqv, PyData.eqvAll, ofs_fenceN, Bool.false_and]
def Stp.bump (t : Stp) (fl : List Nat) : List Nat := match t with | .note g => fl.set g (fl.getD g 0 + 1) | _ => fl
theorem Stp.bump_len (t : Stp) (fl : List Nat) : (t.bump fl).length = fl.length := by
  cases t <;> simp [Stp.bump]
theorem Stp.bump_at (t : Stp) (fl : List Nat) {i x : Nat} (h : fl[i]? = some x) : (t.bump fl)[i]? = some (x + if t.isNote i then 1 else 0) := by
  have hi := (List.getElem?_eq_some_iff.mp h).1
  cases t with
  | note g =>
    show (fl.set g (fl.getD g 0 + 1))[i]? = some (x + if decide (g = i) = true then 1 else 0)
    rw [List.getElem?_set]
    by_cases e : g = i
    · subst e
      rw [if_pos rfl, if_pos hi, List.getD_eq_getElem?_getD, h]
      simp
    · rw [if_neg e, h]
      simp [e]
  | _ => exact h
/-- a step done, its flag told -/
def Run.mid (r : Run) (s : Spot) (t : Stp) : Run := { r.to s (t.run r.mem) with flags := t.bump r.flags }
theorem Run.step_eq (r : Run) (s : Spot) (t : Stp) : r.step s t = match t with | .wait f n => (r.mid s t).pass s f n | _ => r.mid s t := by
  cases t <;> rfl
section
variable {P : Program} {w : World} {K : PySem.W.Frag} {mg : Str → Option Value} {base : Heap} {f : Addr} {fd : FuncData}
abbrev N__law_did : List Str := ["_law_m", "_law_place", "_law_deed", "_law_k", "_law_one", "_law_flag", "_law_lots"]
theorem sc__law_did : FnScope N__law_did ["_law_m", "_law_place", "_law_deed"] (defScope s__law_did) := ⟨rfl, rfl, rfl, by decide +kernel, rfl, by decide +kernel, by decide +kernel⟩
def sp_did : Sp := fun vs H Q _ => ∃ (A : LaA) (r : Run) (place : Nat) (v : V) (t : Ded) (n : Nat), vs = [.ref A.m, vi place, v] ∧ A.no = [] ∧ LAt H A r ∧ TD H v t.d ∧ t.Ok r.mem.length ∧ RunOk r.mem.length n r ∧ r.mem.length ≤ 40 ∧ n ≤ 900 ∧
  ∀ H', Kp A.own H H' → LAt H' A (r.deed place t) → Q .non H'
theorem ok_did (T : Txt K mg) (F : Fd K "_law_did" "_law_did" s__law_did f fd) (D__law_moved : Cal P w K mg base 2 "_law_moved" ["_law_m", "_law_spot", "_law_one"] sp_moved)
    (D__law_passed : Cal P w K mg base 1 "_law_passed" ["_law_m", "_law_spot", "_law_flag", "_law_least"] sp_passed)
    (D__law_read : Cal P w K mg base 1 "_law_read" ["_law_m", "_law_spot", "_law_part", "_law_place"] sp_read) (D__law_write : Cal P w K mg base 1 "_law_write" ["_law_m", "_law_spot", "_law_part", "_law_place", "_law_byte_here"] sp_write) :
    FnOk P w K mg base CX0 3 f fd ["_law_m", "_law_place", "_law_deed"] sp_did := by
  refine FunD.ok F sc__law_did (fun vs H Q E h => ?_) (fun cdv AA outer s H vs Q E hr h => ?_)
  · obtain ⟨A, r, pl, v, t, n, rfl, _⟩ := h
    rfl
  · obtain ⟨A, r, pl, v, t, n, rfl, no, la, hv, ok, rok, m40, n900, q⟩ := h
    obtain ⟨p, us, rfl, hp, hu⟩ := hv.ded
    refine ⟨_, PSs.nox (pss_cons (ps_if (pt_cmpR op_eq (pe_ix ix_tup (pv 2) pe_int (fun _ _ => rfl)) pe_str (nomark _)) (pss_one (ps_for PassesOwn.never rfl (pi_enumT (by rfl) T.b_enumerate (pa_cons (pe_ix ix_tup (pv 2) pe_int (fun _ _ => rfl)) pa_nil)) (pg_tup rfl (pgs_cons (pg_name (i := 3) sc__law_did.nd rfl (Or.inl rfl)) (pgs_cons (pg_name (i := 4) sc__law_did.nd rfl (Or.inr rfl)) pgs_nil))) (pss_one (ps_if (pt_cmpR op_isN (pe_dget (hu_of hr) (pv 0) pe_str (fun _ _ => rfl)) pe_non (nomark _)) (pss_cons (ps_expr (pc D__law_moved hr (pa_cons (pv 0) (pa_cons (pe_tupK (pa_cons (pv 1) (pa_cons (pv 3) pa_nil))) (pa_cons (pv 4) pa_nil)))))
      (pss_cons (ps_dput (hu_of hr) (pv 0) pe_str (pe_lc (own := [("_law_flag", 5), ("_law_lots", 6)]) (g := (gTup K 2 (gCons (gName 5) (gCons (gName 6) gNil)))) (tt := tYes) (te := (tOp (rI0 fun i j => V.int (i + j)) (tVar 6) (tCB (fun xs H Q => (∃ i, xs = [.int i] ∧ Q (.int i) H) ∨ ∃ k, xs = [.bl k] ∧ Q (.int (if k then 1 else 0)) H) (tCons (tOp (rEqD K) (tVar 4) (tTupK (tCons (tC (.str "note")) (tCons (tVar 5) tNil)))) tNil)))) rfl sc__law_did.nd (pi_enum (by rfl) T.b_enumerate (pa_cons (pe_dget (hu_of hr) (pv 0) pe_str (fun _ _ => rfl)) pa_nil)) (blkOk_by (N := N__law_did) (sc := defScope s__law_did) (by decide +kernel)) (fun _ _ _ _ _ => (pg_tup rfl (pgs_cons (pg_name (i := 5) sc__law_did.nd rfl (Or.inl rfl)) (pgs_cons (pg_name (i := 6) sc__law_did.nd rfl (Or.inl rfl)) pgs_nil)))) (fun _ _ _ _ _ => pts_nil) (fun _ _ _ _ _ => (pe_op op_add (pv 6) (pe_callTy call_int1 (by rfl) T.b_int (by decide +kernel) (pa_cons (pe_cmpR (op_eqD hr.units) (pv 4) (pe_tupK (pa_cons pe_str (pa_cons (pv 5) pa_nil))) (nomark _)) pa_nil))))) rfl)
      (pss_one (ps_if (pt_cmpR op_eq (pe_ix ix_tup (pv 4) pe_int (fun _ _ => rfl)) pe_str (nomark _)) (pss_one (ps_expr (pc D__law_passed hr (pa_cons (pv 0) (pa_cons (pe_tupK (pa_cons (pv 1) (pa_cons (pv 3) pa_nil))) (pa_cons (pe_ix ix_tup (pv 4) pe_int (fun _ _ => rfl)) (pa_cons (pe_ix ix_tup (pv 4) pe_int (fun _ _ => rfl)) pa_nil))))))) pss_nil)))) pss_nil)))) pss_nil)
      (pss_cons (ps_if (pt_cmpR op_eq (pe_ix ix_tup (pv 2) pe_int (fun _ _ => rfl)) pe_str (nomark _)) (pss_one (ps_expr (pc D__law_write hr (pa_cons (pv 0) (pa_cons (pe_tupK (pa_cons (pv 1) (pa_cons pe_non pa_nil))) (pa_cons pe_int (pa_cons (pe_ix ix_tup (pv 2) pe_int (fun _ _ => rfl)) (pa_cons (pe_ix ix_tup (pv 2) pe_int (fun _ _ => rfl)) pa_nil)))))))) pss_nil)
      (pss_cons (ps_if (pt_cmpR op_eq (pe_ix ix_tup (pv 2) pe_int (fun _ _ => rfl)) pe_str (nomark _)) (pss_one (ps_expr (pe_bm PySem.F.plainAttrs_list PySem.F.slot_list_append PySem.F.type_list_append mt_append (pe_dget (hu_of hr) (pv 0) pe_str (fun _ _ => rfl)) (pa_cons (pc D__law_read hr (pa_cons (pv 0) (pa_cons (pe_tupK (pa_cons (pv 1) (pa_cons pe_non pa_nil))) (pa_cons pe_int (pa_cons (pe_ix ix_tup (pv 2) pe_int (fun _ _ => rfl)) pa_nil))))) pa_nil)))) pss_nil)
      (pss_one (ps_if (pt_cmpR op_eq (pe_ix ix_tup (pv 2) pe_int (fun _ _ => rfl)) pe_str (nomark _)) (pss_one (ps_expr (pc D__law_passed hr (pa_cons (pv 0) (pa_cons (pe_tupK (pa_cons (pv 1) (pa_cons pe_non pa_nil))) (pa_cons (pe_ix ix_tup (pv 2) pe_int (fun _ _ => rfl)) (pa_cons (pe_ix ix_tup (pv 2) pe_int (fun _ _ => rfl)) pa_nil))))))) pss_nil))))), ?_⟩
    have ix0 : ∀ {H' : Hp}, Kp A.own H H' → H' p = some (.tup (.str (Str.ofString t.w) :: us)) := fun k => k.tups _ _ hp
    refine ⟨_, rfl, p, _, 0, _, rfl, rfl, SqT.of hp, atN (n := 0) rfl rfl, ?_⟩
    have rlen := rok.rows
    cases t with
    | join c => exact ⟨rfl, _, rfl, iteBF (show decide (V.str (Str.ofString "join") = V.str (Str.ofString "post")) = false by decide +kernel) ⟨_, rfl, p, _, 0, _, rfl, rfl, SqT.of hp, atN (n := 0) rfl rfl, rfl, _, rfl, iteBF (show decide (V.str (Str.ofString "join") = V.str (Str.ofString "poke")) = false by decide +kernel) ⟨_, rfl, p, _, 0, _, rfl, rfl, SqT.of hp, atN (n := 0) rfl rfl, rfl, _, rfl, iteBF (show decide (V.str (Str.ofString "join") = V.str (Str.ofString "peek")) = false by decide +kernel) ⟨_, rfl, p, _, 0, _, rfl, rfl, SqT.of hp, atN (n := 0) rfl rfl, rfl, _, rfl, iteBF (show decide (V.str (Str.ofString "join") = V.str (Str.ofString "see")) = false by decide +kernel) (q _ (Kp.refl _) la)⟩⟩⟩⟩
    | see g k =>
      obtain ⟨u1, us, rfl, h1, hu⟩ := hu.inv
      obtain ⟨u2, us, rfl, h2, hu⟩ := hu.inv
      obtain rfl := h1.inv_int
      obtain rfl := h2.inv_int
      refine ⟨rfl, _, rfl, iteBF (show decide (V.str (Str.ofString "see") = V.str (Str.ofString "post")) = false by decide +kernel) ⟨_, rfl, p, _, 0, _, rfl, rfl, SqT.of hp, atN (n := 0) rfl rfl, rfl, _, rfl, iteBF (show decide (V.str (Str.ofString "see") = V.str (Str.ofString "poke")) = false by decide +kernel) ⟨_, rfl, p, _, 0, _, rfl, rfl, SqT.of hp, atN (n := 0) rfl rfl, rfl, _, rfl, iteBF (show decide (V.str (Str.ofString "see") = V.str (Str.ofString "peek")) = false by decide +kernel) ⟨_, rfl, p, _, 0, _, rfl, rfl, SqT.of hp, atN (n := 0) rfl rfl, rfl, _, rfl, iteBT (show decide (V.str (Str.ofString "see") = V.str (Str.ofString "see")) = true by decide +kernel) ?_⟩⟩⟩⟩
      refine ⟨_, rfl, _, rfl, sz 2, fun S H3 k3 n3 e3 => ?_⟩
      refine ⟨_, rfl, p, _, 1, _, rfl, rfl, SqT.of (ix0 k3.any), atN (n := 1) rfl rfl, _, rfl, p, _, 2, _, rfl, rfl, SqT.of (ix0 k3.any), atN (n := 2) rfl rfl, A, _, ⟨pl, none⟩, .ref S, g, k, rfl, la.kp0 k3, spot_none e3, ?_, fun H6 k6 la6 => q _ (k3.any.trans k6) la6⟩
      rw [rok.flags]
      exact ok.1
    | peek c =>
      obtain ⟨u1, us, rfl, h1, hu⟩ := hu.inv
      obtain rfl := h1.inv_int
      refine ⟨rfl, _, rfl, iteBF (show decide (V.str (Str.ofString "peek") = V.str (Str.ofString "post")) = false by decide +kernel) ⟨_, rfl, p, _, 0, _, rfl, rfl, SqT.of hp, atN (n := 0) rfl rfl, rfl, _, rfl, iteBF (show decide (V.str (Str.ofString "peek") = V.str (Str.ofString "poke")) = false by decide +kernel) ⟨_, rfl, p, _, 0, _, rfl, rfl, SqT.of hp, atN (n := 0) rfl rfl, rfl, _, rfl, iteBT (show decide (V.str (Str.ofString "peek") = V.str (Str.ofString "peek")) = true by decide +kernel) ?_⟩⟩⟩
      obtain ⟨F, sv, t1, t2, t3, t4⟩ := la.top
      refine ⟨_, rfl, A.m, _, rfl, la_peeks t1, .inl ⟨rfl, _, SqL.of la.pks⟩, _, rfl, _, rfl, sz 2, fun S H3 k3 n3 e3 => ?_⟩
      refine ⟨_, rfl, p, _, 1, _, rfl, rfl, SqT.of (ix0 k3.any), atN (n := 1) rfl rfl, A, _, ⟨pl, none⟩, .ref S, 0, c, rfl, la.kp0 k3, spot_none e3, ok, m40, by omega, fun H6 k6 la6 => ?_⟩
      have pl2 : (nums r.peeks).length ≤ 900 := by rw [nums_len]; have := rok.peeks; omega
      refine ⟨A.P, _, _, rfl, rfl, la6.pks, Nat.lt_of_le_of_lt pl2 (by decide), ?_⟩
      have hpk : nums r.peeks ++ [V.int (r.mem.getD c 0 : Nat)] = nums (r.peeks ++ [r.mem.getD c 0]) := (nums_app r.peeks [r.mem.getD c 0]).symm
      obtain ⟨la7, k7⟩ := la6.updP _ hpk
      have k37 : Kp A.own H _ := (k3.any.trans k6).trans k7
      exact ⟨_, rfl, p, _, 0, _, rfl, rfl, SqT.of (ix0 k37), atN (n := 0) rfl rfl, rfl, _, rfl, iteBF (show decide (V.str (Str.ofString "peek") = V.str (Str.ofString "see")) = false by decide +kernel) (q _ k37 la7)⟩
    | poke c b =>
      obtain ⟨u1, us, rfl, h1, hu⟩ := hu.inv
      obtain ⟨u2, us, rfl, h2, hu⟩ := hu.inv
      obtain rfl := h1.inv_int
      obtain rfl := h2.inv_int
      refine ⟨rfl, _, rfl, iteBF (show decide (V.str (Str.ofString "poke") = V.str (Str.ofString "post")) = false by decide +kernel) ⟨_, rfl, p, _, 0, _, rfl, rfl, SqT.of hp, atN (n := 0) rfl rfl, rfl, _, rfl, iteBT (show decide (V.str (Str.ofString "poke") = V.str (Str.ofString "poke")) = true by decide +kernel) ?_⟩⟩
      refine ⟨_, rfl, _, rfl, sz 2, fun S H3 k3 n3 e3 => ?_⟩
      refine ⟨_, rfl, p, _, 1, _, rfl, rfl, SqT.of (ix0 k3.any), atN (n := 1) rfl rfl, _, rfl, p, _, 2, _, rfl, rfl, SqT.of (ix0 k3.any), atN (n := 2) rfl rfl, A, _, ⟨pl, none⟩, .ref S, 0, c, b, rfl, la.kp0 k3, spot_none e3, ok.1, m40, by omega, fun H6 k6 la6 => ?_⟩
      have k36 : Kp A.own H _ := k3.any.trans k6
      exact ⟨_, rfl, p, _, 0, _, rfl, rfl, SqT.of (ix0 k36), atN (n := 0) rfl rfl, rfl, _, rfl, iteBF (show decide (V.str (Str.ofString "poke") = V.str (Str.ofString "peek")) = false by decide +kernel) ⟨_, rfl, p, _, 0, _, rfl, rfl, SqT.of (ix0 k36), atN (n := 0) rfl rfl, rfl, _, rfl, iteBF (show decide (V.str (Str.ofString "poke") = V.str (Str.ofString "see")) = false by decide +kernel) (q _ k36 la6)⟩⟩
    | post g l =>
      obtain ⟨u1, us, rfl, h1, hu⟩ := hu.inv
      obtain ⟨u2, us, rfl, h2, hu⟩ := hu.inv
      obtain rfl := h1.inv_int
      obtain ⟨b2, xs, rfl, hb2, hx⟩ := h2.inv
      have xl : xs.length = l.length := by rw [hx.1, List.length_map]
      have l4 : l.length ≤ 4 := ok.2.2.1
      have hl : ∀ t ∈ l, t.Ok r.mem.length := fun t ht => (ok.2.2.2 t ht).1
      refine ⟨rfl, _, rfl, iteBT (show decide (V.str (Str.ofString "post") = V.str (Str.ofString "post")) = true by decide +kernel) ?_⟩
      refine ⟨_, rfl, p, _, 2, _, rfl, rfl, SqT.of hp, atN (n := 2) rfl rfl, b2, _, rfl, SqT.of hb2, for_it (walk_itg (n := xs.length)) (fun i σ H' => Kp A.own H H' ∧ LAt H' A (stepsN l pl r i) ∧ ∃ v3 v4, σ = [some (.ref A.m), some (vi pl), some (.ref p), v3, v4, none, none]) ⟨Kp.refl _, la, none, none, rfl⟩ (fun i σ H' _ h => SqT.of (h.1.tups _ _ hb2)) (fun i x σ H1 H2 hi h y => ?_) (fun σ H1 h => ?_)⟩
      · obtain ⟨k1, la1, v3, v4, rfl⟩ := h
        obtain ⟨U, y0, rfl, nU, k2, eU, ey⟩ := enum_inv y
        obtain ⟨t, ht, td⟩ := hx.nth ey
        have tok := hl t (List.mem_of_getElem? ht)
        have rok1 := rok.stepsN (place := pl) hl i (by omega)
        have k12 : Kp A.own H H2 := k1.trans k2.any
        have la2 := la1.kp0 k2
        rw [stepsN_succ ht]
        generalize stepsN l pl r i = r1 at la1 la2 rok1
        obtain ⟨F, sv, t1, t2, t3, t4⟩ := la2.top
        refine ⟨U, _, rfl, SqT.of eU, rfl, _, _, rfl, _, _, rfl, rfl, ?_⟩
        refine ⟨_, rfl, A.m, _, rfl, la_stuck t1, rfl, _, rfl, ?_⟩
        rw [stuck_non t2]
        cases hst : r1.stuck.isNone with
        | false => exact iteF ⟨k12, la2, _, _, rfl⟩
        | true =>
          refine iteT ⟨_, rfl, _, rfl, _, rfl, sz 2, fun S H3 k3 n3 e3 => ?_⟩
          have k3A : Kp A.own H H3 := k12.trans k3.any
          have len1 := rok1.mem
          have rows1 := rok1.rows
          refine ⟨_, rfl, A, r1, ⟨pl, some i⟩, .ref S, y0, t, rfl, la2.kp0 k3, spot_num e3, td.kp k3A, by rw [len1]; exact tok, by omega, by omega, fun H4 k4 la4 => ?_⟩
          have k4A := k3A.trans k4
          obtain ⟨F4, sv4, u1, u2, u3, u4⟩ := la4.top
          refine ⟨_, rfl, A.m, _, rfl, la_flags u1, F4, _, rfl, SqL.of u4, fun D hD => ?_⟩
          refine lc_pure (walk_enum (xs := nums (r1.to ⟨pl, some i⟩ (t.run r1.mem)).flags)) (fun j acc _ => acc = nums ((t.bump r1.flags).take j)) hD (fun i acc => stb_pure _) rfl (fun H' k => k.seqL (SqL.of u4)) YPair.kp (fun j acc H' hj h => ?_) (fun j x H5 H6 acc hj k5 h y N Sx hN hS => ?_) (fun H5 acc k5 e5 h => ?_)
          · rw [h, nums_len, List.length_take, t.bump_len, rok1.flags]
            omega
          · obtain ⟨U2, z0, rfl, nU2, k6, eU2, ez⟩ := enum_inv y
            obtain ⟨x0, hx0, rfl⟩ := nums_get ez
            have hx1 : r1.flags[j]? = some x0 := hx0
            refine ⟨U2, _, rfl, SqT.of eU2, rfl, _, _, rfl, _, _, rfl, rfl, rfl, ?_⟩
            refine ⟨_, rfl, _, rfl, _, rfl, sz 2, fun T7 H7 k7 n7 e7 => ?_⟩
            have e7' : H7 T7 = some (.tup [.str (Str.ofString "note"), vi j]) := e7
            have dn : TD H7 (.ref T7) (Stp.note j).d := TDs.tup e7' (TDs.cons (.str _) (TDs.cons (.int _) TDs.nil))
            refine ⟨_, _, ((((td.kp k3A).kp k4).kp k5).kp (k6.trans k7)).dp _ _, dn.dp _ _, (shp_step t).shaped, (shp_step _).shaped, .inr ⟨_, rfl, _, _, rfl, rfl, hN _ _ k7 ?_⟩⟩
            have hb := t.bump_at r1.flags hx1
            rw [h, take_snoc hb, nums_app, t.eqv_note]
            cases t.isNote j <;> rfl
          · rw [nums_len] at h
            rw [List.take_of_length_le (by rw [t.bump_len]; exact Nat.le_refl _)] at h
            have u5 := k5.same _ _ u1
            obtain ⟨la6, k6⟩ := (la4.kp0 k5).updT (F' := D) (sv' := sv4) (fl := t.bump r1.flags) (u2.kp k5) (by rw [no, List.append_nil]; exact la4.nin hD) (by rw [e5, h])
            refine ⟨_, rfl, A.m, _, rfl, dput_flags u5, ?_⟩
            revert la6 k6
            generalize upd H5 A.m (.dK (laKvs A D sv4)) = H6
            intro la6 k6
            have k6A := (k4A.trans k5.any).trans k6
            have tspot6 := (((spot_num e3).kp k4).kp k5).kp k6
            obtain ⟨b, us, rfl, hb, hu⟩ := (td.kp k6A).stp
            refine ⟨_, rfl, b, _, 0, _, rfl, rfl, SqT.of hb, atN (n := 0) rfl rfl, ?_⟩
            cases t with
            | copy c d k => exact ⟨rfl, _, rfl, iteBF (show decide (V.str (Str.ofString "copy") = V.str (Str.ofString "wait")) = false by decide +kernel) ⟨k6A, la6, _, _, rfl⟩⟩
            | fill c x k => exact ⟨rfl, _, rfl, iteBF (show decide (V.str (Str.ofString "fill") = V.str (Str.ofString "wait")) = false by decide +kernel) ⟨k6A, la6, _, _, rfl⟩⟩
            | add c x => exact ⟨rfl, _, rfl, iteBF (show decide (V.str (Str.ofString "add") = V.str (Str.ofString "wait")) = false by decide +kernel) ⟨k6A, la6, _, _, rfl⟩⟩
            | fence => exact ⟨rfl, _, rfl, iteBF (show decide (V.str (Str.ofString "fence") = V.str (Str.ofString "wait")) = false by decide +kernel) ⟨k6A, la6, _, _, rfl⟩⟩
            | note x => exact ⟨rfl, _, rfl, iteBF (show decide (V.str (Str.ofString "note") = V.str (Str.ofString "wait")) = false by decide +kernel) ⟨k6A, la6, _, _, rfl⟩⟩
            | wait g k =>
              obtain ⟨u1, us, rfl, h1, hu⟩ := hu.inv
              obtain ⟨u2, us, rfl, h2, hu⟩ := hu.inv
              obtain rfl := h1.inv_int
              obtain rfl := h2.inv_int
              refine ⟨rfl, _, rfl, iteBT (show decide (V.str (Str.ofString "wait") = V.str (Str.ofString "wait")) = true by decide +kernel) ?_⟩
              refine ⟨_, rfl, _, rfl, _, rfl, sz 2, fun S7 H7 k7 n7 e7 => ?_⟩
              refine ⟨_, rfl, b, _, 1, _, rfl, rfl, SqT.of (k7.same _ _ hb), atN (n := 1) rfl rfl, _, rfl, b, _, 2, _, rfl, rfl, SqT.of (k7.same _ _ hb), atN (n := 2) rfl rfl, A, _, ⟨pl, some i⟩, .ref S7, g, k, rfl, la6.kp0 k7, spot_num e7, ?_, fun H8 k8 la8 => ⟨(k6A.trans k7.any).trans k8, la8, _, _, rfl⟩⟩
              show g < r1.flags.length
              rw [rok1.flags]
              exact tok.1
      · obtain ⟨k1, la1, v3, v4, rfl⟩ := h
        rw [xl] at la1
        exact ⟨_, rfl, p, _, 0, _, rfl, rfl, SqT.of (ix0 k1), atN (n := 0) rfl rfl, rfl, _, rfl, iteBF (show decide (V.str (Str.ofString "post") = V.str (Str.ofString "poke")) = false by decide +kernel) ⟨_, rfl, p, _, 0, _, rfl, rfl, SqT.of (ix0 k1), atN (n := 0) rfl rfl, rfl, _, rfl, iteBF (show decide (V.str (Str.ofString "post") = V.str (Str.ofString "peek")) = false by decide +kernel) ⟨_, rfl, p, _, 0, _, rfl, rfl, SqT.of (ix0 k1), atN (n := 0) rfl rfl, rfl, _, rfl, iteBF (show decide (V.str (Str.ofString "post") = V.str (Str.ofString "see")) = false by decide +kernel) (q _ k1 la1)⟩⟩⟩
end
end L2.K14
set_option Elab.async false
set_option linter.all false
set_option maxRecDepth 100000
set_option maxHeartbeats 4000000
set_option pp.maxSteps 600
/-! the law's own run: whole -/
namespace L2.K14
open PySem PySem.Spec PyProof.Rows
abbrev laKve (A : LaA) (F : Addr) (sv e : V) : List (Key × V) := [(kx "bytes", .ref A.B), (kx "flags", .ref F), (kx "rows", .ref A.R), (kx "peeks", .ref A.P), (kx "stuck", sv), (kx "end", e)]
section
variable {H : Hp} {A : LaA} {F : Addr} {sv e : V}
theorem le_bytes (h : H A.m = some (.dK (laKve A F sv e))) : DGet H A.m (.str (Str.ofString "bytes")) (some (.ref A.B)) := by
  have e : valV (laKve A F sv e) (kx "bytes") = some (.ref A.B) := valV_pos rfl
  rw [← e]
  exact DGet.k (k := kx "bytes") h
theorem le_flags (h : H A.m = some (.dK (laKve A F sv e))) : DGet H A.m (.str (Str.ofString "flags")) (some (.ref F)) := by
  have e : valV (laKve A F sv e) (kx "flags") = some (.ref F) := (valV_neg (by decide +kernel : ¬ kx "bytes" = kx "flags")).trans (valV_pos rfl)
  rw [← e]
  exact DGet.k (k := kx "flags") h
theorem le_rows (h : H A.m = some (.dK (laKve A F sv e))) : DGet H A.m (.str (Str.ofString "rows")) (some (.ref A.R)) := by
  have e : valV (laKve A F sv e) (kx "rows") = some (.ref A.R) := (valV_neg (by decide +kernel : ¬ kx "bytes" = kx "rows")).trans ((valV_neg (by decide +kernel : ¬ kx "flags" = kx "rows")).trans (valV_pos rfl))
  rw [← e]
  exact DGet.k (k := kx "rows") h
theorem le_peeks (h : H A.m = some (.dK (laKve A F sv e))) : DGet H A.m (.str (Str.ofString "peeks")) (some (.ref A.P)) := by
  have e : valV (laKve A F sv e) (kx "peeks") = some (.ref A.P) := (valV_neg (by decide +kernel : ¬ kx "bytes" = kx "peeks")).trans ((valV_neg (by decide +kernel : ¬ kx "flags" = kx "peeks")).trans ((valV_neg (by decide +kernel : ¬ kx "rows" = kx "peeks")).trans (valV_pos rfl)))
  rw [← e]
  exact DGet.k (k := kx "peeks") h
theorem le_stuck (h : H A.m = some (.dK (laKve A F sv e))) : DGet H A.m (.str (Str.ofString "stuck")) (some sv) := by
  have e : valV (laKve A F sv e) (kx "stuck") = some sv := (valV_neg (by decide +kernel : ¬ kx "bytes" = kx "stuck")).trans ((valV_neg (by decide +kernel : ¬ kx "flags" = kx "stuck")).trans ((valV_neg (by decide +kernel : ¬ kx "rows" = kx "stuck")).trans ((valV_neg (by decide +kernel : ¬ kx "peeks" = kx "stuck")).trans (valV_pos rfl))))
  rw [← e]
  exact DGet.k (k := kx "stuck") h
theorem put_end : putK (laKvs A F sv) (kx "end") e = laKve A F sv e := by
  have h0 : ¬ Str.ofString "flags" = Str.ofString "end" := by decide +kernel
  have h1 : ¬ Str.ofString "bytes" = Str.ofString "end" := by decide +kernel
  have h2 : ¬ Str.ofString "stuck" = Str.ofString "end" := by decide +kernel
  have h3 : ¬ Str.ofString "rows" = Str.ofString "end" := by decide +kernel
  have h4 : ¬ Str.ofString "peeks" = Str.ofString "end" := by decide +kernel
  simp [putK, laKvs, h0, h1, h2, h3, h4]
theorem put_end2 {e' : V} : putK (laKve A F sv e') (kx "end") e = laKve A F sv e := by
  have h0 : ¬ Str.ofString "flags" = Str.ofString "end" := by decide +kernel
  have h1 : ¬ Str.ofString "bytes" = Str.ofString "end" := by decide +kernel
  have h2 : ¬ Str.ofString "stuck" = Str.ofString "end" := by decide +kernel
  have h3 : ¬ Str.ofString "rows" = Str.ofString "end" := by decide +kernel
  have h4 : ¬ Str.ofString "peeks" = Str.ofString "end" := by decide +kernel
  simp [putK, laKve, h0, h1, h2, h3, h4]
theorem dput_end (h : H A.m = some (.dK (laKvs A F sv))) : DPut H A.m (.str (Str.ofString "end")) e (upd H A.m (.dK (laKve A F sv e))) := by
  rw [← put_end (A := A) (F := F) (sv := sv)]
  exact DPut.k (k := kx "end") h (by show 5 < sizeLine; decide)
theorem dput_end2 {e' : V} (h : H A.m = some (.dK (laKve A F sv e'))) : DPut H A.m (.str (Str.ofString "end")) e (upd H A.m (.dK (laKve A F sv e))) := by
  rw [← put_end2 (A := A) (F := F) (sv := sv) (e' := e')]
  exact DPut.k (k := kx "end") h (by show 6 < sizeLine; decide)
end
section
variable {P : Program} {w : World} {K : PySem.W.Frag} {mg : Str → Option Value} {base : Heap} {f : Addr} {fd : FuncData}
abbrev N__law_run : List Str := ["_law_store_here", "_law_sheet_here", "_law_m", "_law_place", "_law_deed"]
theorem sc__law_run : FnScope N__law_run ["_law_store_here", "_law_sheet_here"] (defScope s__law_run) := ⟨rfl, rfl, rfl, by decide +kernel, rfl, by decide +kernel, by decide +kernel⟩
def sp_run : Sp := fun vs H Q _ => ∃ (v u : V) (m : List Nat) (p : List Ded), vs = [v, u] ∧ TD H v (memD m) ∧ TD H u (sheetD p) ∧ 1 ≤ m.length ∧ m.length ≤ 40 ∧ SheetOk m.length p ∧
  ∀ H' a R rvs, Kp [] H H' → H R = none → DGet H' a (.str (Str.ofString "rows")) (some (.ref R)) → H' R = some (.lst rvs) → TDs H' rvs ((rowsOf m p).map Row.d) → Q (.ref a) H'
theorem ok_run (T : Txt K mg) (F : Fd K "_law_run" "_law_run" s__law_run f fd) (D__law_own : Cal P w K mg base 1 "_law_own" ["_law_store_here"] sp_own) (D__law_did : Cal P w K mg base 3 "_law_did" ["_law_m", "_law_place", "_law_deed"] sp_did) :
    FnOk P w K mg base CX0 4 f fd ["_law_store_here", "_law_sheet_here"] sp_run := by
  refine FunD.ok F sc__law_run (fun vs H Q E h => ?_) (fun cdv AA outer s H vs Q E hr h => ?_)
  · obtain ⟨v, u, m, p, rfl, _⟩ := h
    rfl
  · obtain ⟨v, u, m, p, rfl, hv, hu, m1, m40, sok, q⟩ := h
    obtain ⟨b, xs, rfl, hb, hx⟩ := hu.inv
    have xl : xs.length = p.length := by rw [hx.1, List.length_map]
    refine ⟨_, PSs.nox (pss_cons (ps_set (i := 2) sc__law_run.nd rfl (Or.inl rfl) (pc D__law_own hr (pa_cons (pv 0) pa_nil)))
      (pss_cons (ps_for PassesOwn.never rfl (pi_enumT (by rfl) T.b_enumerate (pa_cons (pv 1) pa_nil)) (pg_tup rfl (pgs_cons (pg_name (i := 3) sc__law_run.nd rfl (Or.inl rfl)) (pgs_cons (pg_name (i := 4) sc__law_run.nd rfl (Or.inl rfl)) pgs_nil))) (pss_one (ps_if (pt_cmpR op_isN (pe_dget (hu_of hr) (pv 2) pe_str (fun _ _ => rfl)) pe_non (nomark _)) (pss_one (ps_expr (pc D__law_did hr (pa_cons (pv 2) (pa_cons (pv 3) (pa_cons (pv 4) pa_nil)))))) pss_nil)))
      (pss_cons (ps_dput (hu_of hr) (pv 2) pe_str (pe_tupK (pa_cons pe_str (pa_cons (pe_dget (hu_of hr) (pv 2) pe_str (fun _ _ => rfl)) pa_nil))) rfl)
      (pss_cons (ps_if (pt_cmpR op_isN (pe_dget (hu_of hr) (pv 2) pe_str (fun _ _ => rfl)) pe_non (nomark _)) (pss_one (ps_dput (hu_of hr) (pv 2) pe_str (pe_tupK (pa_cons pe_str (pa_cons (pe_tupVals rfl (by rfl) T.b_tuple (by decide +kernel) (pe_dget (hu_of hr) (pv 2) pe_str (fun _ _ => rfl))) (pa_cons (pe_callTy call_tupleK (by rfl) T.b_tuple (by decide +kernel) (pa_cons (pe_dget (hu_of hr) (pv 2) pe_str (fun _ _ => rfl)) pa_nil)) (pa_cons (pe_callTy call_tupleK (by rfl) T.b_tuple (by decide +kernel) (pa_cons (pe_dget (hu_of hr) (pv 2) pe_str (fun _ _ => rfl)) pa_nil)) pa_nil))))) rfl)) pss_nil)
      (pss_one (ps_ret (pv 2))))))), ?_⟩
    have p6 := sok.l6
    refine ⟨_, rfl, v, m, rfl, hv, m1, m40, fun H1 A k1 fr no la => ?_⟩
    refine ⟨_, rfl, b, _, rfl, SqT.of (k1.same _ _ hb), for_it (walk_itg (n := xs.length)) (fun i σ H' => Kp A.own H1 H' ∧ LAt H' A (deedsN p (run0 m) i) ∧ ∃ v3 v4, σ = [some v, some (.ref b), some (.ref A.m), v3, v4]) ⟨Kp.refl _, la, none, none, rfl⟩ (fun i σ H' _ h => SqT.of (h.1.tups _ _ (k1.same _ _ hb))) (fun i x σ H2 H3 hi h y => ?_) (fun σ H2 h => ?_)⟩
    · obtain ⟨k2, la2, v3, v4, rfl⟩ := h
      obtain ⟨U, y0, rfl, nU, k3, eU, ey⟩ := enum_inv y
      obtain ⟨t, ht, td⟩ := hx.nth ey
      have tok := sok.ok t (List.mem_of_getElem? ht)
      have rok := (run0_ok m).deedsN (l := p) (top := m.length) sok.ok i (by omega)
      have la3 := la2.kp0 k3
      rw [deedsN_succ ht]
      generalize deedsN p (run0 m) i = r1 at la2 la3 rok
      obtain ⟨F, sv, t1, t2, t3, t4⟩ := la3.top
      refine ⟨U, _, rfl, SqT.of eU, rfl, _, _, rfl, _, _, rfl, rfl, ?_⟩
      refine ⟨_, rfl, A.m, _, rfl, la_stuck t1, rfl, _, rfl, ?_⟩
      rw [stuck_non t2]
      cases hst : r1.stuck.isNone with
      | false => exact iteF ⟨k2.trans k3.any, la3, _, _, rfl⟩
      | true =>
        have len1 := rok.mem
        refine iteT ⟨_, rfl, _, rfl, _, rfl, A, r1, i, y0, t, _, rfl, no, la3, ((td.kp k1).kp k2).kp k3, by rw [len1]; exact tok, (by rw [len1]; exact rok), by rw [len1]; exact m40, by omega, fun H4 k4 la4 => ⟨(k2.trans k3.any).trans k4, la4, _, _, rfl⟩⟩
    · obtain ⟨k2, la2, v3, v4, rfl⟩ := h
      rw [xl] at la2
      have rok := (run0_ok m).deedsN (l := p) (top := m.length) sok.ok p.length (Nat.le_refl _)
      obtain ⟨F, sv, t1, t2, t3, t4⟩ := la2.top
      obtain ⟨rvs, r1, r2⟩ := la2.row
      obtain ⟨a1, a2, a3, b1, b2, c1⟩ := LaA.nds la2.nd
      have zF : F ≠ A.m := fun z => t3 (by simp [LaA.own, z])
      have mown : ∀ x ∈ [A.m], x ∈ A.own := fun x hx => by rw [List.mem_singleton.mp hx]; simp [LaA.own]
      refine ⟨_, rfl, A.m, _, rfl, la_stuck t1, sz 2, fun T1 H3 k3 n3 e3 => ⟨_, rfl, A.m, _, rfl, dput_end (k3.same _ _ t1), ?_⟩⟩
      have k4 : Kp [A.m] H3 (upd H3 A.m (.dK (laKve A F sv (.ref T1)))) := Kp.put (k3.same _ _ t1) (by simp) (by simp)
      have e4 : upd H3 A.m (.dK (laKve A F sv (.ref T1))) A.m = some (.dK (laKve A F sv (.ref T1))) := upd_same
      revert k4 e4
      generalize upd H3 A.m (.dK (laKve A F sv (.ref T1))) = H4
      intro k4 e4
      have fin : ∀ H' e, Kp [A.m] H4 H' → H' A.m = some (.dK (laKve A F sv e)) → Q (.ref A.m) H' := fun H' e k e' => by
        have k24 : Kp [A.m] H2 H' := (k3.any.trans k4).trans k
        have k0 : Kp A.own H H' := (k1.any.trans k2).trans (k24.more mown)
        exact q H' A.m A.R rvs (Kp.dropAll k0 fr) (fr _ (by simp [LaA.own])) (le_rows e') (k24.keep _ _ r1 (by simp [a2.symm])) (r2.kp k24)
      refine ⟨_, rfl, A.m, _, rfl, le_stuck e4, rfl, _, rfl, ?_⟩
      rw [stuck_non t2]
      cases hst : (deedsN p (run0 m) p.length).stuck.isNone with
      | false => exact iteF ⟨_, rfl, fin H4 _ (Kp.refl _) e4⟩
      | true =>
        have k34 : Kp [A.m] H2 H4 := k3.any.trans k4
        have bB := k34.keep _ _ la2.byt (by simp [a1.symm])
        have bP := k34.keep _ _ la2.pks (by simp [a3.symm])
        have bF := k34.keep _ _ t4 (by simp [zF])
        refine iteT ⟨_, rfl, A.m, _, rfl, le_bytes e4, A.B, _, rfl, bB, fun T5 H5 k5 n5 e5 => ?_⟩
        refine ⟨_, rfl, A.m, _, rfl, le_peeks (k5.same _ _ e4), A.P, _, rfl, SqL.of (k5.same _ _ bP), fun T6 H6 k6 n6 e6 => ?_⟩
        have k56 := k5.trans k6
        refine ⟨_, rfl, A.m, _, rfl, le_flags (k56.same _ _ e4), F, _, rfl, SqL.of (k56.same _ _ bF), fun T7 H7 k7 n7 e7 => ⟨sz 4, fun T8 H8 k8 n8 e8 => ?_⟩⟩
        have k58 := (k56.trans k7).trans k8
        refine ⟨_, rfl, A.m, _, rfl, dput_end2 (k58.same _ _ e4), _, rfl, fin _ _ (k58.any.trans (Kp.put (k58.same _ _ e4) (by simp) (by simp))) upd_same⟩
abbrev N__law_stood : List Str := ["_law_store_here", "_law_rows", "_law_found", "_law_told", "_law_spot", "_law_part", "_law_way", "_law_place", "_law_byte_here"]
theorem sc__law_stood : FnScope N__law_stood ["_law_store_here", "_law_rows"] (defScope s__law_stood) := ⟨rfl, rfl, rfl, by decide +kernel, rfl, by decide +kernel, by decide +kernel⟩
def sp_stood : Sp := fun vs H Q _ => ∃ (v : V) (L : Addr) (rvs : List V) (m : List Nat) (rows : List Row), vs = [v, .ref L] ∧ TD H v (memD m) ∧ m.length ≤ 40 ∧ H L = some (.lst rvs) ∧ TDs H rvs (rows.map Row.d) ∧ rows.length ≤ 1000 ∧ (∀ r ∈ rows, r.rw.cell < m.length) ∧
  ∀ H' u, Kp [] H H' → TD H' u (.tuple [memD (rows.foldl putRow m), memD (peeksOf rows)]) → Q u H'
theorem ok_stood (T : Txt K mg) (F : Fd K "_law_stood" "_law_stood" s__law_stood f fd) : FnOk P w K mg base CX0 1 f fd ["_law_store_here", "_law_rows"] sp_stood := by
  refine FunD.ok F sc__law_stood (fun vs H Q E h => ?_) (fun cdv AA outer s H vs Q E hr h => ?_)
  · obtain ⟨v, L, rvs, m, rows, rfl, _⟩ := h
    rfl
  · obtain ⟨v, L, rvs, m, rows, rfl, hv, m40, hL, hr2, l1000, hc, q⟩ := h
    obtain ⟨p, rfl, hp⟩ := hv.mem
    refine ⟨_, PSs.nox (pss_cons (ps_par (i := 2) (j := 3) rfl sc__law_stood.nd rfl rfl (by decide) rfl rfl (pa_cons (pe_callTy call_listK (by rfl) T.b_list (by decide +kernel) (pa_cons (pv 0) pa_nil)) (pa_cons (pe_lstK pa_nil) pa_nil)) (by rfl))
      (pss_cons (ps_for PassesOwn.never rfl (pi_list (pv 1)) (pg_tup rfl (pgs_cons (pg_name (i := 4) sc__law_stood.nd rfl (Or.inl rfl)) (pgs_cons (pg_name (i := 5) sc__law_stood.nd rfl (Or.inl rfl)) (pgs_cons (pg_name (i := 6) sc__law_stood.nd rfl (Or.inl rfl)) (pgs_cons (pg_name (i := 7) sc__law_stood.nd rfl (Or.inl rfl)) (pgs_cons (pg_name (i := 8) sc__law_stood.nd rfl (Or.inl rfl)) pgs_nil)))))) (pss_cons (ps_asg (pv 8) (pg_sub (pv 2) (pv 7) set_list))
      (pss_one (ps_if (PW.pt (pw_and (pt_cmpR op_isN (pe_ix ix_tup (pv 4) pe_int (fun _ _ => rfl)) pe_non (nomark _)) (pw_and1 (pt_cmpR op_eq (pv 6) pe_str (nomark _))))) (pss_one (ps_expr (pe_bm PySem.F.plainAttrs_list PySem.F.slot_list_append PySem.F.type_list_append mt_append (pv 3) (pa_cons (pv 8) pa_nil)))) pss_nil))))
      (pss_one (ps_ret (pe_tupK (pa_cons (pe_callTy call_tupleK (by rfl) T.b_tuple (by decide +kernel) (pa_cons (pv 2) pa_nil)) (pa_cons (pe_callTy call_tupleK (by rfl) T.b_tuple (by decide +kernel) (pa_cons (pv 3) pa_nil)) pa_nil))))))), ?_⟩
    refine ⟨_, rfl, p, _, rfl, .inr (SqT.of hp), fun D H1 k1 n1 e1 => ⟨sz 0, fun G H2 k2 n2 e2 => ⟨_, _, rfl, ?_⟩⟩⟩
    have eD2 := k2.same _ _ e1
    have nDG : D ≠ G := fun z => by rw [z] at e1; rw [e1] at n2; cases n2
    have nLD : L ≠ D := fun z => by rw [z] at hL; rw [hL] at n1; cases n1
    have nLG : L ≠ G := fun z => by rw [z] at hL; rw [k1.same _ _ hL] at n2; cases n2
    have hL2 := (k1.trans k2).same _ _ hL
    have rvl : rvs.length = rows.length := by rw [hr2.1, List.length_map]
    have fl : ∀ (l : List Row) (b : List Nat), (l.foldl putRow b).length = b.length := by
      intro l
      induction l with
      | nil => intro b; rfl
      | cons r l ih => intro b; rw [List.foldl_cons, ih]; simp [putRow, putRw]
    refine ⟨_, rfl, L, rfl, ⟨_, SqL.of hL2⟩, for_it (walk_list (xs := rvs)) (fun i σ H' => Kp [D, G] H2 H' ∧ H' D = some (.lst (nums ((rows.take i).foldl putRow m))) ∧ H' G = some (.lst (nums (peeksOf (rows.take i)))) ∧ (peeksOf (rows.take i)).length ≤ i ∧
      ∃ v4 v5 v6 v7 v8, σ = [some (.ref p), some (.ref L), some (.ref D), some (.ref G), v4, v5, v6, v7, v8]) ⟨Kp.refl _, eD2, e2, Nat.zero_le _, none, none, none, none, none, rfl⟩ (fun i σ H' _ h => SqL.of (h.1.keep _ _ hL2 (by simp [nLD, nLG]))) (fun i x σ H0 H3 hi h y => ?_) (fun σ H3 h => ?_)⟩
    · obtain ⟨k3, hD3, hG3, pk, v4, v5, v6, v7, v8, rfl⟩ := h
      obtain ⟨rfl, hx⟩ := y
      obtain ⟨r, hrr, td⟩ := hr2.nth hx
      obtain ⟨u, sp, rfl, hu, hsp⟩ := (((td.kp k1).kp k2).kp k3).row
      obtain ⟨us, z, rfl, hus, hz⟩ := hsp.spot
      have hstep := peeksOf_snoc (rows.take i) r
      rw [← take_snoc hrr] at hstep
      have hc1 : r.rw.cell < ((rows.take i).foldl putRow m).length := by rw [fl]; exact hc r (List.mem_of_getElem? hrr)
      refine ⟨u, _, rfl, SqT.of hu, rfl, _, _, rfl, _, _, rfl, _, _, rfl, _, _, rfl, _, _, rfl, rfl, ?_⟩
      refine ⟨_, rfl, _, rfl, _, rfl, D, _, _, r.rw.cell, rfl, rfl, hD3, ixN_of (by rw [nums_len]; exact hc1), ?_⟩
      rw [nums_set]
      have hset : (((rows.take i).foldl putRow m).set r.rw.cell r.rw.byte) = (rows.take (i + 1)).foldl putRow m := by
        rw [take_snoc hrr, List.foldl_append]
        rfl
      rw [hset]
      have k4 : Kp [D, G] H3 (upd H3 D (.lst (nums ((rows.take (i + 1)).foldl putRow m)))) := Kp.put hD3 (by simp) (by simp)
      have hD4 : upd H3 D (.lst (nums ((rows.take (i + 1)).foldl putRow m))) D = some (.lst (nums ((rows.take (i + 1)).foldl putRow m))) := upd_same
      have hG4 : upd H3 D (.lst (nums ((rows.take (i + 1)).foldl putRow m))) G = some (.lst (nums (peeksOf (rows.take i)))) := by rw [upd_ne nDG.symm]; exact hG3
      revert k4 hD4 hG4
      generalize upd H3 D (.lst (nums ((rows.take (i + 1)).foldl putRow m))) = H4
      intro k4 hD4 hG4
      have hus4 := k4.tups _ _ hus
      refine ⟨_, rfl, us, _, 1, z, rfl, rfl, SqT.of hus4, atN (n := 1) rfl rfl, rfl, _, rfl, ?_⟩
      rw [hz]
      have skip : peekOf r = false → Kp [D, G] H2 H4 ∧ H4 D = some (.lst (nums ((rows.take (i + 1)).foldl putRow m))) ∧ H4 G = some (.lst (nums (peeksOf (rows.take (i + 1))))) ∧ (peeksOf (rows.take (i + 1))).length ≤ i + 1 := fun hp => by
        rw [hp] at hstep
        rw [hstep]
        exact ⟨k3.trans k4, hD4, by simpa using hG4, by simp; omega⟩
      cases h1 : r.spot.num.isNone with
      | false =>
        obtain ⟨z1, z2, z3, z4⟩ := skip (by unfold peekOf; rw [h1]; rfl)
        exact iteF ⟨z1, z2, z3, z4, _, _, _, _, _, rfl⟩
      | true =>
        refine iteT ⟨_, rfl, rfl, _, rfl, ?_⟩
        rw [way_r]
        cases h2 : r.rw.wr with
        | true =>
          obtain ⟨z1, z2, z3, z4⟩ := skip (by unfold peekOf; rw [h1, h2]; rfl)
          exact iteF ⟨z1, z2, z3, z4, _, _, _, _, _, rfl⟩
        | false =>
          have hp : peekOf r = true := by unfold peekOf; rw [h1, h2]; rfl
          rw [hp, if_pos rfl] at hstep
          refine iteT ⟨_, rfl, .inl ⟨rfl, _, SqL.of hG4⟩, _, rfl, G, _, _, rfl, rfl, hG4, ?_, ?_⟩
          · rw [nums_len, sizeLine_eq]
            have : i < rows.length := by omega
            omega
          have hG5 : nums (peeksOf (rows.take i)) ++ [vi r.rw.byte] = nums (peeksOf (rows.take (i + 1))) := by
            rw [hstep, nums_app]
            rfl
          rw [hG5]
          exact ⟨(k3.trans k4).trans (Kp.put hG4 (by simp) (by simp)), by rw [upd_ne nDG]; exact hD4, upd_same, by rw [hstep]; simp; exact pk, _, _, _, _, _, rfl⟩
    · obtain ⟨k3, hD3, hG3, pk, v4, v5, v6, v7, v8, rfl⟩ := h
      rw [rvl, List.take_of_length_le (Nat.le_refl _)] at hD3 hG3
      refine ⟨_, rfl, D, _, rfl, SqL.of hD3, fun T4 H4 k4 n4 e4 => ⟨_, rfl, G, _, rfl, SqL.of (k4.same _ _ hG3), fun T5 H5 k5 n5 e5 => ⟨sz 2, fun T6 H6 k6 n6 e6 => ?_⟩⟩⟩
      have k26 : Kp [D, G] H2 H6 := ((k3.trans k4.any).trans k5.any).trans k6.any
      have k16 : Kp (G :: [D]) H1 H6 := (k2.any.trans k26).more (fun b hb => by
        simp only [List.mem_cons, List.mem_nil_iff, or_false] at hb ⊢
        exact hb.symm)
      have k06 : Kp [D] H H6 := k1.any.trans (Kp.drop k16 n2)
      refine q H6 _ (Kp.drop k06 n1) (TDs.tup e6 (TDs.cons (TDs.tup ((k5.trans k6).same _ _ e4) (tds_nums _)) (TDs.cons (TDs.tup (k6.same _ _ e5) (tds_nums _)) TDs.nil)))
end
end L2.K14
set_option Elab.async false
set_option linter.all false
set_option maxRecDepth 100000
set_option maxHeartbeats 4000000
/-! a def that is run while no repr is under way -/
namespace L2.K14
open PySem PySem.Spec PyProof.Rows
structure FnG (P : Program) (w : World) (K : PySem.W.Frag) (mg : Str → Option Value) (base : Heap) (CX : CXT) (k : Nat) (f : Addr) (fd : FuncData) (ps : List Str) (sp : Sp) : Prop where
  len : ∀ vs H Q E, sp vs H Q E → vs.length = ps.length
  run : ∀ (A : Around) (gd : A.guards = some []) (outer : List Env) (s : Shared) (H : Hp) (args : Args) (us : List Value) (vs : List V) (Q : VK) (E : XK), Room k A → Env0 P w K mg base A outer s H → BindsTo s fd args (ps.zip us) → Vals vs us → sp vs H Q E →
    codeAny (model P w) A (.call (.ref f) args) (CR CX outer P w H s Q E) s
section
variable {P : Program} {w : World} {K : PySem.W.Frag} {mg : Str → Option Value} {base : Heap}
theorem FunD.okG {x qual : Str} {params : Arguments} {body : List Stmt} {scope : Scope} {dvs : List V} {kws : List (Str × V)} {f : Addr} {fd : FuncData} {CX : CXT} {N ps : List Str} {k : Nat} {sp : Sp} (F : FunD K x qual params body scope dvs kws f fd) (S : FnScope N ps scope)
    (len : ∀ vs H Q E, sp vs H Q E → vs.length = ps.length)
    (hbody : ∀ (cdv : Value) (A : Around) (gd : A.guards = some []) (outer : List Env) (s : Shared) (H : Hp) (vs : List V) (Q : VK) (E : XK), Room k (A.deeper (envOfC qual scope s.heap.objs.size f cdv)) → sp vs H Q E →
      ∃ t, PSs (cxOf CX P w K mg base N qual scope f cdv A outer s H E) body t ∧ t { nx := fun _ H' => Q .non H', rt := Q } (start N vs) H) : FnG P w K mg base CX (k + 1) f fd ps sp := by
  obtain ⟨oc, od, dV, kV, doc, pm, an, cdv, ct, osl, rfl, lk, hcd, _, _⟩ := F.ex
  refine ⟨len, fun A gd outer s H args us vs Q E hr e0 hb r hsp => ?_⟩
  have kx := e0.mod.kin.keeps fun b o e => (e0.bs b o e).1
  have nl := e0.mod.nolimit.keeps fun b o e => (e0.bs b o e).1
  have hk : ∀ y ∈ ps.zip us, scope.names.lookup y.1 = some .local ∨ (scope.names.lookup y.1 = some .cell ∧ ((cellsFrom (s.heap.objs.size + 1) scope.names []).lookup y.1).isSome = true) := fun y hy =>
    (S.par y.1 (List.of_mem_zip (a := y.1) (b := y.2) hy).1).elim .inl fun q => .inr ⟨q, PySem.W.cellsFrom_some _ _ _ (.inl q)⟩
  refine codeAny_call_function hr.depth (kx _ _ lk) rfl S.co S.gen rfl (PySem.W.codeRec_of kx hcd) (hb _ _ _ _ ?_)
  refine wpAny_newFunctionEnv_cells S.kind hk fun env he s1 x => ?_
  subst he
  refine ⟨nl.keeps x.toInCall.keep, codeAny_func ?_⟩
  obtain ⟨t, ht, hq⟩ := hbody cdv A gd outer s H vs Q E (hr.deeper _) hsp
  have I := inv_start (CX := CX) (cd := cdv) (E := E) S hr.hd e0 (len _ _ _ _ hsp) r x
  refine wpAny_mono (ht.run [] s1 (start N vs) H _ I hq) (fun fl s' hs => ?_) fun e s' hs => hs
  have fin : ∀ {v : V} {u : Value} {σ' : St} {H' : Hp}, RelV v u → Q v H' → Inv (cxOf CX P w K mg base N qual scope f cdv A outer s H E) [] σ' H' s' → CE outer P w H s Q u s' := fun {v u σ' H'} rv q J => ⟨v, H', J.os, J.bare, J.base, J.hok, rv, q⟩
  cases fl with
  | brk => exact hs.elim fun _ z => z.elim fun _ z => z.2.elim
  | cont => exact hs.elim fun _ z => z.elim fun _ z => z.2.elim
  | ret u => exact let ⟨_, _, _, J, rv, q⟩ := hs; fin rv q J
  | next => exact let ⟨_, _, J, q⟩ := hs; fin (v := V.non) (u := Value.none) rfl q J
end
/-- a def that is called by its name, while no repr is under way -/
def CalG (P : Program) (w : World) (K : PySem.W.Frag) (mg : Str → Option Value) (base : Heap) (k : Nat) (x : Str) (ps : List Str) (sp : Sp) : Prop :=
  ∃ f fd, FnG P w K mg base CX0 k f fd ps sp ∧ mg x = some (.ref f) ∧ PySem.W.keepIn K (.ref f) = true ∧ Binds K fd ps []
section
variable {X : Cx} {e : Expr} {es : List Expr} {t : TA}
theorem run_g {f : Addr} {fd : FuncData} {ps : List Str} {sp : Sp} {k : Nat} {ds : List Value} {dvs : List V} {CX : CXT} {E : XK} {pins : List (Addr × Obj)} {σ : St} {H : Hp} {s : Shared} {Q : VK} {us : List Value} {vs : List V} (F : FnG X.prog X.w X.K X.mg X.base CX k f fd ps sp) (gd : X.A.guards = some []) (hr : Room k X.A)
    (hb : Binds X.K fd ps ds) (hd : Vals dvs ds) (hx : Passes CX X E) (I : Inv X pins σ H s) (r : Vals vs us) (h : sp (vs ++ dvs) H Q E) : wpAny (model X.prog X.w) X.A (call (.ref f) us) (EP X pins σ Q) X.xe s := by
  have ra : Vals (vs ++ dvs) (us ++ ds) := r.append hd
  have hl : (us ++ ds).length = ps.length := (ra.length).symm.trans (F.len _ _ _ _ h)
  refine wpAny_call (codeAny_mono (F.run X.A gd X.stack s H ⟨us, []⟩ (us ++ ds) (vs ++ dvs) Q E hr I.env0 (hb s us I.kIn hl) ra h) fun r s' hq => ?_)
  match r, hq with
  | .error e, hq => exact hx pins σ H s e s' I hq
  | .ok (.ret u), hq => exact I.after hq
theorem pcG {k n : Nat} {x : Str} {ps : List Str} {sp : Sp} {p pos : Pos} (D : CalG X.prog X.w X.K X.mg X.base k x ps sp) (gd : X.A.guards = some []) (hr : Room n X.A) (ha : PA X (e :: es) t) (hk : k ≤ n := by decide) (hg : Gl X x := by rfl) (hdb : (x == ("__debug__" : Str)) = false := by decide)
    (he : starEach (e :: es) X.env = (false, eval e X.env) :: starEach es X.env := by rfl) (hpl : (backTo pos (starEach es X.env)).any (·.1) = false := by rfl) : PE X (.Call (.Name x p) (e :: es) [] pos) (tCall sp [] E0 t) := by
  obtain ⟨f, fd, F, hm, kp, b⟩ := D
  refine ⟨fun pins s σ H Q I h => ?_⟩
  refine wpAny_Call_Name_kw (ld_glob I hg hm ?_ hdb)
  refine PySem.W.callWith_K (h₀ := X.base) I.ok.mod.kin kp (thn (ha.run pos pins s σ H _ I h) fun us s1 ⟨vs, H1, I1, r, q⟩ => ⟨I1.kIn, ?_⟩) he hpl
  exact run_g F gd (hr.mono hk) b .nil pass0 I1 r q
end
end L2.K14
set_option Elab.async false
set_option linter.all false
set_option maxRecDepth 100000
set_option maxHeartbeats 4000000
/-! data that a repr tells; own methods by facts -/
namespace L2.K14
open PySem PySem.Spec PyProof.Rows
/-- data of a small weight, whose numbers are short -/
structure Sh (w n : Nat) (d : PyData) : Prop where
  lay : d.canLay0 = true
  dep : d.depth ≤ n
  shw : d.showable = true
  lv : d.leavesShort 13 = true
  wt : d.weight ≤ w
theorem Sh.up {w n w' n' : Nat} {d : PyData} (h : Sh w n d) (a : w ≤ w') (b : n ≤ n') : Sh w' n' d := ⟨h.lay, Nat.le_trans h.dep b, h.shw, h.lv, Nat.le_trans h.wt a⟩
theorem log2_small {k : Nat} (h : k < 1000000) : k.log2 < 20 := by
  by_cases z : k = 0
  · subst z
    decide
  · rw [Nat.log2_lt z]
    have : (2 : Nat) ^ 20 = 1048576 := by decide
    omega
theorem Sh.int {n : Nat} {i : Int} (h : i.natAbs < 1000000) : Sh 20 (n + 1) (.int i) := by
  have hl := log2_small h
  refine ⟨by simp [PyData.canLay0], by simp [PyData.depth], ?_, ?_, ?_⟩
  · simp only [PyData.showable, decide_eq_true_eq]
    omega
  · have := PyData.shown_int_le (i := i) (by omega)
    simpa only [PyData.leavesShort, decide_eq_true_eq] using this
  · simp only [PyData.weight]
    split <;> omega
theorem Sh.nat {n : Nat} {k : Nat} (h : k < 1000000) : Sh 20 (n + 1) (dN k) := .int (by omega)
theorem Sh.bool {n : Nat} (b : Bool) : Sh 0 (n + 1) (.bool b) := ⟨by simp [PyData.canLay0], by simp [PyData.depth], by simp [PyData.showable], by simp [PyData.leavesShort], by simp [PyData.weight]⟩
theorem Sh.non {n : Nat} : Sh 0 (n + 1) .none := ⟨by simp [PyData.canLay0], by simp [PyData.depth], by simp [PyData.showable], by simp [PyData.leavesShort], by simp [PyData.weight]⟩
theorem Sh.str {n w : Nat} {x : Str} (h : PyData.strOk x = true) (hw : x.cps.size ≤ w) : Sh w (n + 1) (.str x) := by
  have hc : (PyData.str x).canLay0 = true := by simpa [PyData.canLay0] using h
  exact ⟨hc, by simp [PyData.depth], by simp [PyData.showable], PyData.leavesShort_of_canLay0 13 _ hc (by simp [PyData.intsShort]), by simpa [PyData.weight] using hw⟩
theorem sh_all {w n : Nat} : ∀ {ds : List PyData}, (∀ d ∈ ds, Sh w n d) → PyData.canLayAll0 ds = true ∧ PyData.depthAll ds ≤ n ∧ PyData.showableAll ds = true ∧ PyData.leavesShortAll 13 ds = true ∧ PyData.weightAll ds ≤ (w + 1) * ds.length
  | [], _ => ⟨by simp [PyData.canLayAll0], by simp [PyData.depthAll], by simp [PyData.showableAll], by simp [PyData.leavesShortAll], by simp [PyData.weightAll]⟩
  | d :: ds, h => by
    obtain ⟨a1, a2, a3, a4, a5⟩ := h d (List.mem_cons_self ..)
    obtain ⟨b1, b2, b3, b4, b5⟩ := sh_all (ds := ds) fun x hx => h x (List.mem_cons_of_mem _ hx)
    refine ⟨by simp only [PyData.canLayAll0, a1, b1, Bool.and_self], by simp only [PyData.depthAll]; omega, by simp only [PyData.showableAll, a3, b3, Bool.and_self], by simp only [PyData.leavesShortAll, a4, b4, Bool.and_self], ?_⟩
    simp only [PyData.weightAll, List.length_cons, Nat.mul_add, Nat.mul_one]
    omega
theorem Sh.tuple {w n : Nat} {ds : List PyData} (h : ∀ d ∈ ds, Sh w n d) {c : Nat} (hc : ds.length ≤ c) : Sh ((w + 1) * c) (n + 1) (.tuple ds) := by
  obtain ⟨a1, a2, a3, a4, a5⟩ := sh_all h
  exact ⟨by simpa [PyData.canLay0] using a1, by simp only [PyData.depth]; omega, by simpa [PyData.showable] using a3, by simpa [PyData.leavesShort] using a4, by simp only [PyData.weight]; exact Nat.le_trans a5 (Nat.mul_le_mul_left _ hc)⟩
theorem Sh.list {w n : Nat} {ds : List PyData} (h : ∀ d ∈ ds, Sh w n d) {c : Nat} (hc : ds.length ≤ c) : Sh ((w + 1) * c) (n + 1) (.list ds) := by
  obtain ⟨a1, a2, a3, a4, a5⟩ := sh_all h
  exact ⟨by simpa [PyData.canLay0] using a1, by simp only [PyData.depth]; omega, by simpa [PyData.showable] using a3, by simpa [PyData.leavesShort] using a4, by simp only [PyData.weight]; exact Nat.le_trans a5 (Nat.mul_le_mul_left _ hc)⟩
theorem Sh.rep {K : PySem.W.Frag} {H : Hp} {a : Addr} {d : PyData} {w n : Nat} {Q : VK} (h : Sh w n d) (hd : Dp K H (.ref a) d) (q : Q (.str d.shown) H) (hw : w ≤ 1000000 := by decide) (hn : n ≤ 60 := by decide) : rReprD K [.ref a] H Q :=
  ⟨a, d, rfl, hd, h.shw, PyData.hasDict_of_canLay d h.lay, PyData.shown_fits (B := 13) (by decide) (by decide) h.lv (Nat.le_trans h.wt (Nat.le_trans hw (by decide))), Nat.le_trans h.dep hn, q⟩
theorem Sh.nod {d : PyData} {w n : Nat} (h : Sh w n d) : d.hasDict = false := PyData.hasDict_of_canLay d h.lay
theorem Sh.fits {d : PyData} {w n : Nat} (h : Sh w n d) (hw : w ≤ 1000000 := by decide) : d.shown.length ≤ sizeLine := PyData.shown_fits (B := 13) (by decide) (by decide) h.lv (Nat.le_trans h.wt (Nat.le_trans hw (by decide)))
theorem Sh.d60 {d : PyData} {w n : Nat} (h : Sh w n d) (hn : n ≤ 60 := by decide) : d.depth ≤ 60 := Nat.le_trans h.dep hn
theorem sh_nums {ns : List Nat} {c : Nat} (h : ∀ x ∈ ns, x < 256) (hc : ns.length ≤ c) : Sh (21 * c) 2 (memD ns) := .tuple (fun d hd => by
  obtain ⟨x, hx, rfl⟩ := List.mem_map.mp hd
  have := h x hx
  exact .nat (by omega)) (by rw [List.length_map]; exact hc)
theorem sh_row {r : Row} (h : r.spot.place < 1000 ∧ (∀ k, r.spot.num = some k → k < 1000) ∧ r.rw.part < 1000 ∧ r.rw.cell < 1000 ∧ r.rw.byte < 256) : Sh 1000 3 r.d := by
  obtain ⟨h1, h2, h3, h4, h5⟩ := h
  have hsp : Sh (21 * 2) 2 r.spot.d := .tuple (fun d hd => by
    simp only [List.mem_cons, List.mem_nil_iff, or_false] at hd
    rcases hd with rfl | rfl
    · exact .nat (by omega)
    · cases e : r.spot.num with
      | none => exact Sh.non.up (by decide) (Nat.le_refl _)
      | some k => exact .nat (by have := h2 k e; omega)) (Nat.le_refl 2)
  refine (Sh.tuple (w := 42) (n := 2) (fun d hd => ?_) (Nat.le_refl 5) : Sh (43 * 5) 3 r.d).up (by decide) (Nat.le_refl _)
  have hd' : d ∈ [r.spot.d, dN r.rw.part, .str (wayS r.rw.wr), dN r.rw.cell, dN r.rw.byte] := hd
  simp only [List.mem_cons, List.mem_nil_iff, or_false] at hd'
  rcases hd' with rfl | rfl | rfl | rfl | rfl
  · exact hsp
  · exact (Sh.nat (by omega)).up (by decide) (Nat.le_refl _)
  · cases r.rw.wr
    · exact (Sh.str (w := 1) (by decide +kernel) (by decide +kernel)).up (by decide) (Nat.le_refl _)
    · exact (Sh.str (w := 1) (by decide +kernel) (by decide +kernel)).up (by decide) (Nat.le_refl _)
  · exact (Sh.nat (by omega)).up (by decide) (Nat.le_refl _)
  · exact (Sh.nat (by omega)).up (by decide) (Nat.le_refl _)
/-- a special method of the class itself -/
def OwM (P : Program) (w : World) (K : PySem.W.Frag) (mg : Str → Option Value) (base : Heap) (C : Addr) (k : Nat) (m : Str) (ps : List Str) (sp : Sp) : Prop :=
  ∃ f fd, FnOk P w K mg base CX0 k f fd ps sp ∧ Own K C m f ∧ Binds K fd ps []
section
variable {X : Cx}
theorem cr_lenO {C : Addr} {k n : Nat} {ps : List Str} {sp : Sp} (D : OwM X.prog X.w X.K X.mg X.base C k "__len__" ps sp) (hr : Room n X.A) (hk : k + 1 ≤ n := by decide) : CallR X (.builtin "len") (rLenO C sp) := by
  obtain ⟨f, fd, F, O, b⟩ := D
  exact call_lenO O F b (hr.mono hk)
theorem cr_reprO {C : Addr} {k n : Nat} {ps : List Str} {sp : Sp} (D : OwM X.prog X.w X.K X.mg X.base C k "__repr__" ps sp) (hr : Room n X.A) (hk : k + 1 ≤ n := by decide) : CallR X (.builtin "repr") (rReprO C sp) := by
  obtain ⟨f, fd, F, O, b⟩ := D
  exact call_reprO O F b (hr.mono hk)
theorem op_eqOw {C : Addr} {k n : Nat} {ps : List Str} {sp : Sp} (D : OwM X.prog X.w X.K X.mg X.base C k "__eq__" ps sp) (hr : Room n X.A) (hk : k ≤ n := by decide) : OpR X (compareOp .Eq) (rEqO X C sp) := by
  obtain ⟨f, fd, F, O, b⟩ := D
  exact op_eqO O F b (hr.mono hk)
theorem op_neOw {C : Addr} {k n : Nat} {ps : List Str} {sp : Sp} (D : OwM X.prog X.w X.K X.mg X.base C k "__eq__" ps sp) (hne : PySem.W.findIn X.K (.ref C) "__ne__" = some (some (.builtin "object.__ne__"))) (hm : PySem.W.mroIn X.K C (.type "object") = some true) (hr : Room n X.A) (hk : k + 1 ≤ n := by decide) :
    OpR X (compareOp .NotEq) (rNeO C sp) := by
  obtain ⟨f, fd, F, O, b⟩ := D
  exact op_neO O hne hm F b (hr.mono hk)
end
end L2.K14
set_option Elab.async false
set_option linter.all false
set_option maxRecDepth 100000
set_option maxHeartbeats 4000000
set_option pp.maxSteps 600
/-! _law_is_so -/
namespace L2.K14
open PySem PySem.Spec PyProof.Rows
theorem shown_eq : ∀ k : Nat, k < 500 → (Str.ofString "Plain(" ++ Str.ofString (toString (k : Int))) ++ Str.ofString ")" = shownS k ∧ PyData.strOk (shownS k) = true ∧ (shownS k).cps.size ≤ 20 ∧ (Str.ofString "Plain(").length + (Str.ofString (toString (k : Int))).length ≤ 1000 ∧ (Str.ofString "Plain(" ++ Str.ofString (toString (k : Int))).length + (Str.ofString ")").length ≤ 1000 := by decide +kernel
theorem peeksOf_len (l : List Row) : (peeksOf l).length ≤ l.length := by
  unfold peeksOf
  rw [List.length_map]
  exact List.length_filter_le ..
theorem peeksOf_b {l : List Row} (h : ∀ r ∈ l, r.rw.byte < 256) : ∀ x ∈ peeksOf l, x < 256 := by
  intro x hx
  unfold peeksOf at hx
  obtain ⟨r, hr, rfl⟩ := List.mem_map.mp hx
  exact h r (List.mem_filter.mp hr).1
/-- what a Plain tells at k rows -/
def tellD (m : List Nat) (p : List Ded) (k : Nat) : PyData := .list [dN k, .bool (decide (k = (rowsOf m p).length)), .str (shownS k), dN (rowsOf m p).length, .tuple [memD (bytesAt m (rowsOf m p) k), memD (peeksOf ((rowsOf m p).take k))]]
theorem tellD_sh {m : List Nat} {p : List Ded} {k : Nat} (mok : MemOk m) (sok : SheetOk m.length p) (kle : k ≤ (rowsOf m p).length) (m40 : m.length ≤ 40) : Sh 200000 5 (tellD m p k) := by
  have rl := rows_len sok
  refine (Sh.list (w := 20000) (n := 4) (fun d hd => ?_) (Nat.le_refl 5) : Sh (20001 * 5) 5 (tellD m p k)).up (by decide) (Nat.le_refl _)
  have hd' : d ∈ [dN k, .bool (decide (k = (rowsOf m p).length)), .str (shownS k), dN (rowsOf m p).length, .tuple [memD (bytesAt m (rowsOf m p) k), memD (peeksOf ((rowsOf m p).take k))]] := hd
  simp only [List.mem_cons, List.mem_nil_iff, or_false] at hd'
  obtain ⟨_, s2, s3, _⟩ := shown_eq k (by omega)
  rcases hd' with rfl | rfl | rfl | rfl | rfl
  · exact (Sh.nat (by omega)).up (by decide) (Nat.le_refl _)
  · exact (Sh.bool _).up (by decide) (Nat.le_refl _)
  · exact (Sh.str s2 s3).up (by decide) (Nat.le_refl _)
  · exact (Sh.nat (by omega)).up (by decide) (Nat.le_refl _)
  · refine (Sh.tuple (ds := [memD (bytesAt m (rowsOf m p) k), memD (peeksOf ((rowsOf m p).take k))]) (w := 21 * 410) (n := 2) (fun d hd => ?_) (Nat.le_refl 2) : Sh ((21 * 410 + 1) * 2) 3 _).up (by decide) (by decide)
    have hd' : d ∈ [memD (bytesAt m (rowsOf m p) k), memD (peeksOf ((rowsOf m p).take k))] := hd
    simp only [List.mem_cons, List.mem_nil_iff, or_false] at hd'
    rcases hd' with rfl | rfl
    · exact sh_nums (bytesAt_b mok sok k) (by rw [bytesAt_len]; omega)
    · refine sh_nums (peeksOf_b fun r hr => (rows_cell mok sok (List.mem_of_mem_take hr)).2) ?_
      have := peeksOf_len ((rowsOf m p).take k)
      rw [List.length_take] at this
      omega
section
variable {P : Program} {w : World} {K : PySem.W.Frag} {mg : Str → Option Value} {base : Heap} {f : Addr} {fd : FuncData} {C : Addr}
abbrev N__law_is_so : List Str := ["_law_one", "_law_store_here", "_law_rows", "_law_few", "_law_found", "_law_shown"]
theorem sc__law_is_so : FnScope N__law_is_so ["_law_one", "_law_store_here", "_law_rows", "_law_few"] (defScope s__law_is_so) := ⟨rfl, rfl, rfl, by decide +kernel, rfl, by decide +kernel, by decide +kernel⟩
def sp_is_so (C : Addr) : Sp := fun vs H Q _ => ∃ (A : PlA) (m : List Nat) (p : List Ded) (k : Nat) (v : V) (L : Addr) (rvs : List V), vs = [.ref A.a, v, .ref L, vi k] ∧ PlAt C H A m p k ∧ m.length ≤ 40 ∧ TD H v (memD m) ∧ H L = some (.lst rvs) ∧ TDs H rvs ((rowsOf m p).map Row.d) ∧
  ∀ H', Kp [] H H' → Q (.bl true) H'
theorem ok_is_so (T : Txt K mg) (cPlain : PlC K C) (F : Fd K "_law_is_so" "_law_is_so" s__law_is_so f fd)
    (M_Plain_gone : Met P w K mg base C 1 "gone" ["self"] (sp_gone C)) (M_Plain_is_over : Met P w K mg base C 1 "is_over" ["self"] (sp_is_over C)) (M_Plain_memory : Met P w K mg base C 1 "memory" ["self"] (sp_memory C)) (M_Plain_peeks : Met P w K mg base C 1 "peeks" ["self"] (sp_peeks C))
    (O_Plain_repr : OwM P w K mg base C 1 "__repr__" ["self"] (sp_repr C)) (O_Plain_len : OwM P w K mg base C 1 "__len__" ["self"] (sp_plen C)) (D__law_stood : Cal P w K mg base 1 "_law_stood" ["_law_store_here", "_law_rows"] sp_stood) :
    FnG P w K mg base CX0 3 f fd ["_law_one", "_law_store_here", "_law_rows", "_law_few"] (sp_is_so C) := by
  refine FunD.okG F sc__law_is_so (fun vs H Q E h => ?_) (fun cdv AA gd outer s H vs Q E hr h => ?_)
  · obtain ⟨A, m, p, k, v, L, rvs, rfl, _⟩ := h
    rfl
  · obtain ⟨A, m, p, k, v, L, rvs, rfl, pl, m40, hv, hL, hr2, q⟩ := h
    have rl := rows_len pl.sok
    have kle := pl.kle
    obtain ⟨s1, s2, s3, s4, s5⟩ := shown_eq k (by omega)
    have rvl : rvs.length = (rowsOf m p).length := by rw [hr2.1, List.length_map]
    refine ⟨_, PSs.nox (pss_cons (ps_set (i := 4) sc__law_is_so.nd rfl (Or.inl rfl) (pe_lstK (pa_cons (pm0 (pv 0) cPlain.cls M_Plain_gone hr) (pa_cons (pm0 (pv 0) cPlain.cls M_Plain_is_over hr) (pa_cons (pe_callB (cr_reprO O_Plain_repr hr) (by rfl) T.b_repr (by decide +kernel) (pa_cons (pv 0) pa_nil)) (pa_cons (pe_callB (cr_lenO O_Plain_len hr) (by rfl) T.b_len PySem.boot_len (pa_cons (pv 0) pa_nil)) (pa_cons (pe_tupK (pa_cons (pm0 (pv 0) cPlain.cls M_Plain_memory hr) (pa_cons (pm0 (pv 0) cPlain.cls M_Plain_peeks hr) pa_nil))) pa_nil)))))))
      (pss_cons (ps_set (i := 5) sc__law_is_so.nd rfl (Or.inl rfl) (pe_op op_add_str (pe_op op_add_str pe_str (pe_callTy call_str_int (by rfl) T.b_str (by decide +kernel) (pa_cons (pv 3) pa_nil))) pe_str))
      (pss_one (ps_ret (pe_cmpR op_eq (pe_callB (call_reprD gd hr.units) (by rfl) T.b_repr (by decide +kernel) (pa_cons (pv 4) pa_nil)) (pe_callB (call_reprD gd hr.units) (by rfl) T.b_repr (by decide +kernel) (pa_cons (pe_lstK (pa_cons (pv 3) (pa_cons (pe_cmpR op_eq (pv 3) (pe_callB call_len_seq (by rfl) T.b_len PySem.boot_len (pa_cons (pv 2) pa_nil)) (nomark _)) (pa_cons (pv 5) (pa_cons (pe_callB call_len_seq (by rfl) T.b_len PySem.boot_len (pa_cons (pv 2) pa_nil)) (pa_cons (pc D__law_stood hr (pa_cons (pv 1) (pa_cons (pe_slice sl_listK (pv 2) po_none (po_some (pv 3))) pa_nil))) pa_nil)))))) pa_nil)) (nomark _)))))), ?_⟩
    refine ⟨_, rfl, A.a, _, _, rfl, pl.ins, rfl, A, m, p, k, rfl, pl, ?_⟩
    refine ⟨_, rfl, A.a, _, _, rfl, pl.ins, rfl, A, m, p, k, rfl, pl, ?_⟩
    refine ⟨_, rfl, A.a, _, _, rfl, pl.ins, A, m, p, k, rfl, pl, _, rfl, ?_⟩
    refine ⟨_, rfl, A.a, _, _, rfl, pl.ins, A, m, p, k, rfl, pl, _, rfl, by omega, ?_⟩
    refine ⟨_, rfl, A.a, _, _, rfl, pl.ins, rfl, A, m, p, k, rfl, pl, fun H1 v1 k1 t1 => ?_⟩
    have pl1 := pl.kp0 k1
    refine ⟨_, rfl, A.a, _, _, rfl, pl1.ins, rfl, A, m, p, k, rfl, pl1, fun H2 v2 k2 t2 => ⟨sz 2, fun T3 H3 k3 n3 e3 => ⟨sz 5, fun L4 H4 k4 n4 e4 => ?_⟩⟩⟩
    have k04 := ((k1.trans k2).trans k3).trans k4
    have hL4 := k04.same _ _ hL
    have tup4 : TD H4 (.ref T3) (.tuple [memD (bytesAt m (rowsOf m p) k), memD (peeksOf ((rowsOf m p).take k))]) := TDs.tup (k4.same _ _ e3) (TDs.cons ((t1.kp k2).kp (k3.trans k4)) (TDs.cons (t2.kp (k3.trans k4)) TDs.nil))
    have dp1 : Dp K H4 (.ref L4) (tellD m p k) := .lst (SqL.of e4) (.cons (.int _) (.cons (.bl _) (.cons (.str _) (.cons (.int _) (.cons (tup4.dp _ _) .nil)))))
    have sh := tellD_sh pl.mok pl.sok kle m40
    refine ⟨_, rfl, _, rfl, Nat.lt_trans (log2_small (by show k < 1000000; omega)) (by decide), _, _, rfl, rfl, ?_, _, _, rfl, rfl, ?_, ?_⟩
    · exact Nat.le_trans s4 (by decide)
    · exact Nat.le_trans s5 (by decide)
    rw [s1]
    refine ⟨_, rfl, _, _, rfl, dp1, sh.shw, sh.nod, sh.fits, sh.d60, ?_⟩
    refine ⟨_, rfl, _, rfl, _, rfl, L, _, rfl, .inl (SqL.of hL4), rfl, _, rfl, _, rfl, L, _, rfl, .inl (SqL.of hL4), ?_⟩
    refine ⟨_, rfl, _, rfl, _, rfl, _, rfl, L, _, rfl, SqL.of hL4, fun L5 H5 k5 n5 e5 => ?_⟩
    rw [cut_to] at e5
    have tF : TDs H5 (rvs.take k) (((rowsOf m p).take k).map Row.d) := by
      have := ((hr2.kp k04).kp k5).take k
      rw [← List.map_take] at this
      exact this
    refine ⟨v, L5, _, m, (rowsOf m p).take k, rfl, (hv.kp k04).kp k5, m40, e5, tF, by rw [List.length_take]; omega, fun r hr => (rows_cell pl.mok pl.sok (List.mem_of_mem_take hr)).1, fun H6 u k6 t6 => ⟨sz 5, fun L7 H7 k7 n7 e7 => ?_⟩⟩
    have hb : decide (V.int (k : Int) = V.int (rvs.length : Int)) = decide (k = (rowsOf m p).length) := by
      rw [rvl]
      by_cases h : k = (rowsOf m p).length
      · rw [decide_eq_true h, decide_eq_true (by rw [h])]
      · rw [decide_eq_false h, decide_eq_false (fun z => h (by injection z with z; omega))]
    have e7' : H7 L7 = some (.lst [vi k, .bl (decide (k = (rowsOf m p).length)), .str (shownS k), vi (rowsOf m p).length, u]) := by
      rw [← hb, ← rvl]
      exact e7
    have dp2 : Dp K H7 (.ref L7) (tellD m p k) := .lst (SqL.of e7') (.cons (.int _) (.cons (.bl _) (.cons (.str _) (.cons (.int _) (.cons ((t6.kp k7).dp _ _) .nil)))))
    refine ⟨_, _, rfl, dp2, sh.shw, sh.nod, sh.fits, sh.d60, rfl, ?_⟩
    have hq := q H7 (((k04.trans k5).trans k6).trans k7)
    show Q (.bl (decide (V.str (tellD m p k).shown = V.str (tellD m p k).shown))) H7
    rw [decide_eq_true rfl]
    exact hq
end
end L2.K14
set_option Elab.async false
set_option linter.all false
set_option maxRecDepth 100000
set_option maxHeartbeats 4000000
/-! methods with a default, called in three ways -/
namespace L2.K14
open PySem PySem.Spec PyProof.Rows
def MetD (P : Program) (w : World) (K : PySem.W.Frag) (mg : Str → Option Value) (base : Heap) (C : Addr) (k : Nat) (m : Str) (ps : List Str) (sp : Sp) (dv : V) (kn : Str) : Prop :=
  ∃ f fd, FnOk P w K mg base CX0 k f fd ps sp ∧ Meth K C m f ∧ Binds K fd ps [] ∧ (∃ ds, Vals [dv] ds ∧ Binds K fd ps ds) ∧ ∃ g, KBn K fd ps 1 [kn] g fun vs zs => vs ++ zs
theorem MetD.met {P : Program} {w : World} {K : PySem.W.Frag} {mg : Str → Option Value} {base : Heap} {C : Addr} {k : Nat} {m : Str} {ps : List Str} {sp : Sp} {dv : V} {kn : Str} (D : MetD P w K mg base C k m ps sp dv kn) : Met P w K mg base C k m ps sp := by
  obtain ⟨f, fd, F, h, b, _⟩ := D
  exact ⟨f, fd, F, h, b⟩
/-- o.m(kn = v) -/
def tMethK (C : Addr) (m : Str) (sp : Sp) (E : XK) (ta tv : TE) : TE := fun σ H Q => ta σ H fun x H1 => ∃ a dx fs, x = .ref a ∧ H1 a = some (.ins C dx fs) ∧ fs.lookup m = none ∧ tv σ H1 fun z H2 => sp [.ref a, z] H2 Q E
section
variable {X : Cx} {o e : Expr} {ta tv : TE} {C : Addr} {k n : Nat} {m : Str} {ps : List Str} {sp : Sp} {dv : V} {kn : Str} {apos pos kpos : Pos} {pl : Sem Bool}
theorem pm0D (he : PE X o ta) (c : Cls X.K C) (D : MetD X.prog X.w X.K X.mg X.base C k m ps sp dv kn) (hr : Room n X.A) (hk : k ≤ n := by decide)
    (ht : eval (.Call (.Attribute o m apos) [] [] pos) X.env = (do
      let ov ← eval o X.env
      standAt apos.atName
      let (f, first) ← holding [ov] (getMethod ov m pl)
      callWith pos f first (backTo pos (starEach [] X.env)) (backToKw pos (keywordEach [] X.env))) := by rfl) :
    PE X (.Call (.Attribute o m apos) [] [] pos) (tMeth C m sp [dv] E0 ta tNil) := by
  obtain ⟨f, fd, F, hm, _, ⟨ds, rd, b⟩, _⟩ := D
  exact pe_meth0 he c hm F (hr.mono hk) b rd pass0 ht
theorem pmKD (he : PE X o ta) (c : Cls X.K C) (D : MetD X.prog X.w X.K X.mg X.base C k m ps sp dv kn) (hr : Room n X.A) (hv : PE X e tv) (hk : k ≤ n := by decide)
    (hall : (backToKw pos (keywordEach [⟨some kn, e, kpos⟩] X.env)).all (·.1.isSome) = true := by rfl) (hks : (backToKw pos (keywordEach [⟨some kn, e, kpos⟩] X.env)).filterMap (·.1) = [kn] := by rfl)
    (hpl : ((backTo pos (starEach [] X.env)).any (·.1) || (backToKw pos (keywordEach [⟨some kn, e, kpos⟩] X.env)).any (·.1.isNone)) = false := by rfl)
    (ht : eval (.Call (.Attribute o m apos) [] [⟨some kn, e, kpos⟩] pos) X.env = (do
      let ov ← eval o X.env
      standAt apos.atName
      let (f, first) ← holding [ov] (getMethod ov m pl)
      callWith pos f first (backTo pos (starEach [] X.env)) (backToKw pos (keywordEach [⟨some kn, e, kpos⟩] X.env))) := by rfl) :
    PE X (.Call (.Attribute o m apos) [] [⟨some kn, e, kpos⟩] pos) (tMethK C m sp E0 ta tv) := by
  obtain ⟨f, fd, F, hm, _, _, g, kb⟩ := D
  refine ⟨fun pins s σ H Q I h => ?_⟩
  refine PySem.W.methodCall_KW (pl := pl) (thn (he.run pins s σ H _ I h) fun u s1 ⟨x, H1, I1, rx, a, dx, fs, ex, ea, l, q⟩ => ?_) ht
  subst ex
  obtain rfl : u = Value.ref a := rx
  refine getmeth_ok I1 ea c hm l ?_
  have pkv : PK X [⟨some kn, e, kpos⟩] (tCons tv tNil) := pk_cons hv pk_nil
  have q1 : (tCons tv tNil) σ H1 (fun zs H2 => match zs with | [z] => sp [.ref a, z] H2 Q E0 | _ => False) := q
  refine PySem.W.callWith_KW0 (first := [.ref a]) (h₀ := X.base) I.ok.mod.kin hm.kp hall (thn (pkv.run pos pins s1 σ H1 _ I1 q1) fun ws s2 ⟨zs, H2, I2, rz, q2⟩ => ⟨I2.kIn, ?_⟩) hpl
  match zs, rz, q2 with
  | [z], rz, q2 =>
    rw [hks]
    have r2 : Vals ([.ref a] ++ [z]) (g [.ref a] ws) := kb.rel (vs := [.ref a]) (us := [.ref a]) (.cons rfl .nil) rz
    refine wpAny_call (codeAny_mono (F.run X.A X.stack s2 H2 ⟨[.ref a], [kn].zip ws⟩ (g [.ref a] ws) ([.ref a] ++ [z]) Q E0 (hr.mono hk) I2.env0 (kb.to s2 [.ref a] ws I2.kIn rfl rz.length.symm) r2 q2) fun r s' hq => ?_)
    match r, hq with
    | .error e, hq => exact pass0 pins σ H2 s2 e s' I2 hq
    | .ok (.ret u), hq => exact I2.after hq
end
end L2.K14
set_option Elab.async false
set_option linter.all false
set_option maxRecDepth 100000
set_option maxHeartbeats 4000000
set_option pp.maxSteps 600
/-! _law_gone_right -/
namespace L2.K14
open PySem PySem.Spec PyProof.Rows
theorem cpN_part (l : List (Nat × Nat)) (m : List Nat) : ∀ i, ∀ x ∈ (cpN l m i).2, x.part < i
  | 0, x, h => by cases h
  | i + 1, x, h => by
    unfold cpN at h
    cases e : l[i]? with
    | none =>
      rw [e] at h
      have := cpN_part l m i x h
      omega
    | some q =>
      rw [e] at h
      rcases List.mem_append.mp h with h | h
      · have := cpN_part l m i x h
        omega
      · simp only [List.mem_cons, List.mem_nil_iff, or_false] at h
        rcases h with rfl | rfl <;> exact Nat.lt_succ_self i
theorem flN_part (l : List Nat) (b : Nat) (m : List Nat) : ∀ i, ∀ x ∈ (flN l b m i).2, x.part < i
  | 0, x, h => by cases h
  | i + 1, x, h => by
    unfold flN at h
    cases e : l[i]? with
    | none =>
      rw [e] at h
      have := flN_part l b m i x h
      omega
    | some q =>
      rw [e] at h
      rcases List.mem_append.mp h with h | h
      · have := flN_part l b m i x h
        omega
      · rw [List.mem_singleton.mp h]
        exact Nat.lt_succ_self i
theorem adN_part (l : List Nat) (m : List Nat) : ∀ i, ∀ x ∈ adN l m i, x.part < i
  | 0, x, h => by cases h
  | i + 1, x, h => by
    unfold adN at h
    cases e : l[i]? with
    | none =>
      rw [e] at h
      have := adN_part l m i x h
      omega
    | some q =>
      rw [e] at h
      rcases List.mem_append.mp h with h | h
      · have := adN_part l m i x h
        omega
      · rw [List.mem_singleton.mp h]
        exact Nat.lt_succ_self i
theorem Stp.run_part {t : Stp} {top : Nat} (h : t.Ok top) (m : List Nat) : ∀ x ∈ (t.run m).2, x.part < 20 := by
  cases t with
  | copy a b k =>
    intro x hx
    have := cpN_part _ _ _ x hx
    have s := h.1.size8
    rw [← Ar.cells_len] at s
    rw [List.length_drop, List.length_zip] at this
    omega
  | fill a b k =>
    intro x hx
    have := flN_part _ _ _ _ x hx
    have s := h.1.size8
    rw [← Ar.cells_len] at s
    rw [List.length_drop] at this
    omega
  | add a c =>
    intro x hx
    have s := h.1.size8
    rw [← Ar.cells_len] at s
    rcases List.mem_append.mp hx with hx | hx
    · have := adN_part _ _ _ x hx
      omega
    · rw [List.mem_singleton.mp hx]
      show a.cells.length < 20
      omega
  | _ => intro x hx; cases hx
def RB (r : Run) : Prop := ∀ row ∈ r.rows, row.spot.place < 10 ∧ (∀ k, row.spot.num = some k → k < 10) ∧ row.rw.part < 20
theorem RB.tell {r : Run} (h : RB r) {s : Spot} (h1 : s.place < 10) (h2 : ∀ k, s.num = some k → k < 10) {rs : List Rw} (h3 : ∀ x ∈ rs, x.part < 20) {mem : List Nat} : RB (({ r with mem := mem } : Run).tell s rs) := by
  intro row hr
  rcases List.mem_append.mp hr with hr | hr
  · exact h row hr
  · obtain ⟨x, hx, rfl⟩ := List.mem_map.mp hr
    exact ⟨h1, h2, h3 x hx⟩
theorem RB.pass {r : Run} (h : RB r) (s : Spot) (f n : Nat) : RB (r.pass s f n) := by
  unfold Run.pass
  split <;> exact h
theorem RB.step {r : Run} (h : RB r) {s : Spot} (h1 : s.place < 10) (h2 : ∀ k, s.num = some k → k < 10) {t : Stp} {top : Nat} (ht : t.Ok top) : RB (r.step s t) := by
  have h3 := h.tell h1 h2 (Stp.run_part ht r.mem) (mem := (t.run r.mem).1)
  cases t with
  | wait f n => exact h3.pass s f n
  | _ => exact h3
theorem RB.stepsN {r : Run} (h : RB r) {l : List Stp} {place top : Nat} (hp : place < 10) (hl : ∀ t ∈ l, t.Ok top) (l4 : l.length ≤ 4) : ∀ i, i ≤ l.length → RB (stepsN l place r i)
  | 0, _ => h
  | i + 1, hi => by
    have ih := RB.stepsN h hp hl l4 i (by omega)
    have e : l[i]? = some l[i] := List.getElem?_eq_getElem (by omega)
    rw [stepsN_succ e]
    split
    · exact ih.step hp (fun k hk => by cases hk; omega) (hl _ (List.mem_of_getElem? e))
    · exact ih
theorem RB.deed {r : Run} (h : RB r) {t : Ded} {place top : Nat} (hp : place < 10) (ht : t.Ok top) : RB (r.deed place t) := by
  cases t with
  | post a l => exact h.stepsN hp (fun t h' => (ht.2.2.2 t h').1) ht.2.2.1 _ (Nat.le_refl _)
  | poke c b => exact h.tell hp (fun k hk => by cases hk) (fun x hx => by rw [List.mem_singleton.mp hx]; exact (by decide : (0 : Nat) < 20))
  | peek c => exact RB.tell (r := { r with peeks := r.peeks ++ [r.mem.getD c 0] }) h hp (fun k hk => by cases hk) (fun x hx => by rw [List.mem_singleton.mp hx]; exact (by decide : (0 : Nat) < 20))
  | join c => exact h
  | see f k => exact h.pass _ f k
theorem RB.deedsN {r : Run} (h : RB r) {l : List Ded} {top : Nat} (hl : ∀ t ∈ l, t.Ok top) (l6 : l.length ≤ 6) : ∀ i, i ≤ l.length → RB (deedsN l r i)
  | 0, _ => h
  | i + 1, hi => by
    have ih := RB.deedsN h hl l6 i (by omega)
    have e : l[i]? = some l[i] := List.getElem?_eq_getElem (by omega)
    rw [deedsN_succ e]
    split
    · exact ih.deed (by omega) (hl _ (List.mem_of_getElem? e))
    · exact ih
theorem rows_sh {m : List Nat} {p : List Ded} (mok : MemOk m) (sok : SheetOk m.length p) (m40 : m.length ≤ 40) : ∀ r ∈ rowsOf m p, Sh 1000 3 r.d := by
  intro r hr
  have hb : RB (runAll m p) := RB.deedsN (show RB (run0 m) from fun row h => by cases h) sok.ok sok.l6 _ (Nat.le_refl _)
  obtain ⟨a, b, c⟩ := hb r hr
  obtain ⟨d, e⟩ := rows_cell mok sok hr
  exact sh_row ⟨by omega, fun k hk => by have := b k hk; omega, by omega, by omega, e⟩
theorem due_sh {m : List Nat} {p : List Ded} (mok : MemOk m) (sok : SheetOk m.length p) (m40 : m.length ≤ 40) {rs : List Row} (h : ∀ r ∈ rs, r ∈ rowsOf m p) (hl : rs.length ≤ 408) : Sh (1001 * 408) 4 (.list (rs.map Row.d)) :=
  .list (fun d hd => by
    obtain ⟨r, hr, rfl⟩ := List.mem_map.mp hd
    exact rows_sh mok sok m40 r (h r hr)) (by rw [List.length_map]; exact hl)
theorem TDs.rev {H : Hp} {xs : List V} {ds : List PyData} (h : TDs H xs ds) : TDs H xs.reverse ds.reverse := ⟨by simp [h.1], fun i x d h1 h2 => by
  have hi : i < xs.length := by have := (List.getElem?_eq_some_iff.mp h1).1; simpa using this
  rw [List.getElem?_reverse hi] at h1
  rw [List.getElem?_reverse (by rw [← h.1]; exact hi), ← h.1] at h2
  exact h.2 _ x d h1 h2⟩
theorem PlAt.nin {C : Addr} {H : Hp} {A : PlA} {m : List Nat} {p : List Ded} {k : Nat} (pl : PlAt C H A m p k) {b : Addr} (n : H b = none) : b ∉ A.own := by
  obtain ⟨rvs, r1, _⟩ := pl.row
  intro h
  simp only [PlA.own, List.mem_cons, List.mem_nil_iff, or_false] at h
  rcases h with rfl | rfl | rfl | rfl
  · rw [pl.ins] at n; cases n
  · rw [r1] at n; cases n
  · rw [pl.byt] at n; cases n
  · rw [pl.eld] at n; cases n
theorem StAt.nin {C : Addr} {H : Hp} {A : PlA} {m : List Nat} {p : List Ded} {k N : Nat} {d : Addr} (st : StAt H d N) (pl : PlAt C H A m p k) : d ∉ A.own := by
  obtain ⟨_, _, _, _, e, _⟩ := st
  obtain ⟨rvs, r1, _⟩ := pl.row
  intro h
  simp only [PlA.own, List.mem_cons, List.mem_nil_iff, or_false] at h
  rcases h with rfl | rfl | rfl | rfl
  · rw [pl.ins] at e; cases e
  · rw [r1] at e; cases e
  · rw [pl.byt] at e; cases e
  · rw [pl.eld] at e; cases e
theorem StAt.some {H : Hp} {d : Addr} {N : Nat} (st : StAt H d N) {b : Addr} (n : H b = none) : b ≠ d := by
  obtain ⟨_, _, _, _, e, _⟩ := st
  intro z
  rw [z, e] at n
  cases n
theorem gr_fin {C : Addr} {H H5 H6 H7 : Hp} {A : PlA} {m : List Nat} {p : List Ded} {k k' N : Nat} {d L6 L7 : Addr} {ys xs : List V} {rs : List Row} (pl : PlAt C H A m p k) (k05 : Kp [d] H H5) (st : StAt H5 d N) (dA : d ∉ A.own) (k6 : Kp [] H5 H6) (n6 : H5 L6 = none)
    (e6 : H6 L6 = some (.lst ys)) (t6 : TDs H6 ys (rs.map Row.d)) (k7 : Kp A.own H6 H7) (n7 : H6 L7 = none) (e7 : H7 L7 = some (.lst xs)) (pl7 : PlAt C H7 A m p k') (zs : List V) :
    H7 L6 = some (.lst ys) ∧ TDs H7 ys (rs.map Row.d) ∧ Kp (d :: A.own) H (upd H7 L7 (.lst zs)) ∧ PlAt C (upd H7 L7 (.lst zs)) A m p k' ∧ StAt (upd H7 L7 (.lst zs)) d N := by
  have pl5 := pl.kp k05 fun b hb z => dA (by rw [← List.mem_singleton.mp z]; exact hb)
  have i6 := pl5.nin n6
  have i7 := (pl5.kp0 k6).nin n7
  have kS : Kp [L7] H7 (upd H7 L7 (.lst zs)) := Kp.put e7 (by simp) (by simp)
  have d7 := (st.kp0 k6).some n7
  have n0 : H L7 = none := by
    cases e : H L7 with
    | none => rfl
    | some o =>
      have := k05.keep _ _ e (by simp [d7])
      rw [k6.free n7] at this
      cases this
  have kk : Kp (L7 :: (d :: A.own)) H (upd H7 L7 (.lst zs)) := (((k05.more (fun b hb => by rw [List.mem_singleton.mp hb]; simp)).trans k6.any).trans (k7.more (fun b hb => by simp [hb]))).trans (kS.more (fun b hb => by rw [List.mem_singleton.mp hb]; simp))
  refine ⟨k7.keep _ _ e6 i6, t6.kp k7, Kp.drop kk n0, pl7.kp kS fun b hb z => i7 (by rw [← List.mem_singleton.mp z]; exact hb), ((st.kp0 k6).kp k7 dA).kp kS (by simp [d7.symm])⟩
theorem sh_len {H : Hp} {xs : List V} {rs : List Row} (h : TDs H xs (rs.map Row.d)) (l : rs.length ≤ 408) : xs.length ≤ 408 := by
  rw [h.1, List.length_map]
  exact l
theorem due_go (rvs : List V) (k n : Nat) : cutV rvs (some (k : Int)) (some ((k : Int) + (n : Int))) = (rvs.drop k).take n := by
  rw [← Int.natCast_add, cut_mid, Nat.add_sub_cancel_left]
theorem later_go (l k n : Nat) : (if (k : Int) + (n : Int) < (l : Int) then (k : Int) + (n : Int) else (l : Int)) = ((min (k + n) l : Nat) : Int) := by
  split <;> omega
theorem later_back (k n : Nat) : (if (k : Int) - (n : Int) > 0 then (k : Int) - (n : Int) else 0) = ((k - n : Nat) : Int) := by
  split <;> omega
theorem due_back (rvs : List V) (k n : Nat) : cutV rvs (some (if (k : Int) - (n : Int) > 0 then (k : Int) - (n : Int) else 0)) (some (k : Int)) = (rvs.take k).drop (k - n) := by
  rw [later_back, cut_mid, List.drop_take]
theorem lots_of {e l : Nat} (he : e < 9) (hl : l ≤ 408) {i : Nat} {x : V} (h : [V.int 0, .int 1, .int 2, .int (1 + (e : Int)), .int (l : Int), .int ((l : Int) + 1), .int 100000, .non][i]? = some x) : x = .non ∨ ∃ n : Nat, x = vi n ∧ n ≤ 100000 := by
  match i, h with
  | 0, h => cases h; exact .inr ⟨0, rfl, by decide⟩
  | 1, h => cases h; exact .inr ⟨1, rfl, by decide⟩
  | 2, h => cases h; exact .inr ⟨2, rfl, by decide⟩
  | 3, h => cases h; exact .inr ⟨1 + e, rfl, by omega⟩
  | 4, h => cases h; exact .inr ⟨l, rfl, by omega⟩
  | 5, h => cases h; exact .inr ⟨l + 1, rfl, by omega⟩
  | 6, h => cases h; exact .inr ⟨100000, rfl, by decide⟩
  | 7, h => cases h; exact .inl rfl
  | i + 8, h => cases h
section
variable {P : Program} {w : World} {K : PySem.W.Frag} {mg : Str → Option Value} {base : Heap} {f : Addr} {fd : FuncData} {C : Addr}
abbrev N__law_gone_right : List Str := ["_law_state", "_law_one", "_law_rows", "_law_few", "_law_lots", "_law_step_by", "_law_is_named", "_law_due", "_law_later", "_law_found", "_law_is_right"]
theorem sc__law_gone_right : FnScope N__law_gone_right ["_law_state", "_law_one", "_law_rows", "_law_few"] (defScope s__law_gone_right) := ⟨rfl, rfl, rfl, by decide +kernel, rfl, by decide +kernel, by decide +kernel⟩
def sp_gone_right (C : Addr) : Sp := fun vs H Q _ => ∃ (A : PlA) (m : List Nat) (p : List Ded) (k : Nat) (d L : Addr) (rvs : List V) (N : Nat), vs = [.ref d, .ref A.a, .ref L, vi k] ∧ PlAt C H A m p k ∧ m.length ≤ 40 ∧ StAt H d N ∧ N ≤ 800000 ∧ L ∉ A.own ∧ H L = some (.lst rvs) ∧ TDs H rvs ((rowsOf m p).map Row.d) ∧
  ∀ H' k', Kp (d :: A.own) H H' → PlAt C H' A m p k' → StAt H' d (N + 4) → Q (vi k') H'
theorem ok_gone_right (T : Txt K mg) (cPlain : PlC K C) (F : Fd K "_law_gone_right" "_law_gone_right" s__law_gone_right f fd) (D__law_take : Cal P w K mg base 2 "_law_take" ["_law_state", "_law_count"] sp_take) (D__law_of : Cal P w K mg base 3 "_law_of" ["_law_state", "_law_some"] sp_of)
    (M_Plain_go : MetD P w K mg base C 3 "go" ["self", "many"] (sp_go C) (.int 1) "many") (M_Plain_back : MetD P w K mg base C 3 "back" ["self", "many"] (sp_back C) (.int 1) "many") :
    FnG P w K mg base CX0 4 f fd ["_law_state", "_law_one", "_law_rows", "_law_few"] (sp_gone_right C) := by
  refine FunD.okG F sc__law_gone_right (fun vs H Q E h => ?_) (fun cdv AA gd outer s H vs Q E hr h => ?_)
  · obtain ⟨A, m, p, k, d, L, rvs, N, rfl, _⟩ := h
    rfl
  · obtain ⟨A, m, p, k, d, L, rvs, N, rfl, pl, m40, st, hN, nL, hL, hr2, q⟩ := h
    have rl := rows_len pl.sok
    have kle := pl.kle
    have rvl : rvs.length = (rowsOf m p).length := by rw [hr2.1, List.length_map]
    refine ⟨_, PSs.nox (pss_cons (ps_set (i := 4) sc__law_gone_right.nd rfl (Or.inl rfl) (pc D__law_of hr (pa_cons (pv 0) (pa_cons (pe_lstK (pa_cons pe_int (pa_cons pe_int (pa_cons pe_int (pa_cons (pe_op op_add pe_int (pc D__law_take hr (pa_cons (pv 0) (pa_cons pe_int pa_nil)))) (pa_cons (pe_callB call_len_seq (by rfl) T.b_len PySem.boot_len (pa_cons (pv 2) pa_nil)) (pa_cons (pe_op op_add (pe_callB call_len_seq (by rfl) T.b_len PySem.boot_len (pa_cons (pv 2) pa_nil)) pe_int) (pa_cons pe_int (pa_cons pe_non pa_nil))))))))) pa_nil))))
      (pss_cons (ps_par (i := 5) (j := 6) rfl sc__law_gone_right.nd rfl rfl (by decide) rfl rfl (pa_cons (pe_ifExp (pt_cmpR op_isN (pv 4) pe_non (nomark _)) pe_int (pv 4)) (pa_cons (pe_cmpR op_eq (pc D__law_take hr (pa_cons (pv 0) (pa_cons pe_int pa_nil))) pe_int (nomark _)) pa_nil)) (by rfl))
      (pss_cons (ps_if (pt_cmpR op_lt (pc D__law_take hr (pa_cons (pv 0) (pa_cons pe_int pa_nil))) pe_int (nomark _)) (pss_cons (ps_par (i := 7) (j := 8) rfl sc__law_gone_right.nd rfl rfl (by decide) rfl rfl (pa_cons (pe_slice sl_listK (pv 2) (po_some (pv 3)) (po_some (pe_op op_add (pv 3) (pv 5)))) (pa_cons (pe_callB (call_min2 rfl) (by rfl) T.b_min (by decide +kernel) (pa_cons (pe_callB call_len_seq (by rfl) T.b_len PySem.boot_len (pa_cons (pv 2) pa_nil)) (pa_cons (pe_op op_add (pv 3) (pv 5)) pa_nil))) pa_nil)) (by rfl))
      (pss_one (ps_set (i := 9) sc__law_gone_right.nd rfl (Or.inl rfl) (pe_ifExp (pt_cmpR op_isN (pv 4) pe_non (nomark _)) (pm0D (pv 1) cPlain.cls M_Plain_go hr) (pe_ifExp (pt_val (pv 6)) (pmKD (pv 1) cPlain.cls M_Plain_go hr (pv 4)) (pm (pv 1) cPlain.cls M_Plain_go.met hr (pa_cons (pv 4) pa_nil))))))) (pss_cons (ps_par (i := 7) (j := 8) rfl sc__law_gone_right.nd rfl rfl (by decide) rfl rfl (pa_cons (pe_revK (pe_slice sl_listK (pv 2) (po_some (pe_callB (call_max2 rfl) (by rfl) T.b_max (by decide +kernel) (pa_cons pe_int (pa_cons (pe_op op_sub (pv 3) (pv 5)) pa_nil)))) (po_some (pv 3)))) (pa_cons (pe_callB (call_max2 rfl) (by rfl) T.b_max (by decide +kernel) (pa_cons pe_int (pa_cons (pe_op op_sub (pv 3) (pv 5)) pa_nil))) pa_nil)) (by rfl))
      (pss_one (ps_set (i := 9) sc__law_gone_right.nd rfl (Or.inl rfl) (pe_ifExp (pt_cmpR op_isN (pv 4) pe_non (nomark _)) (pm0D (pv 1) cPlain.cls M_Plain_back hr) (pe_ifExp (pt_val (pv 6)) (pmKD (pv 1) cPlain.cls M_Plain_back hr (pv 4)) (pm (pv 1) cPlain.cls M_Plain_back.met hr (pa_cons (pv 4) pa_nil))))))))
      (pss_cons (ps_set (i := 10) sc__law_gone_right.nd rfl (Or.inl rfl) (pe_and (pe_callB call_isi (by rfl) T.b_isinstance (by decide +kernel) (pa_cons (pv 9) (pa_cons (pe_bltn (v := .ty "list") (u := .type "list") (by rfl) T.b_list (by decide +kernel) rfl) pa_nil))) (pe_one (pe_cmpR op_eq (pe_callB (call_reprD gd hr.units) (by rfl) T.b_repr (by decide +kernel) (pa_cons (pv 9) pa_nil)) (pe_callB (call_reprD gd hr.units) (by rfl) T.b_repr (by decide +kernel) (pa_cons (pv 7) pa_nil)) (nomark _)))))
      (pss_cons (ps_expr (pe_bm PySem.F.plainAttrs_list PySem.F.slot_list_append PySem.F.type_list_append mt_append (pv 9) (pa_cons pe_str pa_nil)))
      (pss_one (ps_ret (pe_ifExp (pt_val (pv 10)) (pv 8) pe_non)))))))), ?_⟩
    have dA := st.nin pl
    have nLd : L ≠ d := fun z => by obtain ⟨_, _, _, _, e, _⟩ := st; rw [z, e] at hL; cases hL
    have keepL : ∀ {H' : Hp}, Kp [d] H H' → H' L = some (.lst rvs) := fun k => k.keep _ _ hL (by simp [nLd])
    refine ⟨_, rfl, _, rfl, d, 9, N, rfl, st, by decide, by decide, by omega, fun e he H1 k1 st1 => ⟨_, _, rfl, rfl, _, rfl, L, _, rfl, .inl (SqL.of (keepL k1)), _, rfl, L, _, rfl, .inl (SqL.of (keepL k1)), _, _, rfl, rfl, sz 8, fun L2 H2 k2 n2 e2 => ?_⟩⟩
    refine ⟨d, L2, _, N + 1, rfl, st1.kp0 k2, e2, by simp, by simp, by omega, fun i x hx H3 k3 st3 => ?_⟩
    have k03 := (k1.trans k2.any).trans k3
    have hx' := lots_of he (by omega : rvs.length ≤ 408) hx
    clear hx
    rcases hx' with rfl | ⟨n, rfl, hn⟩
    · refine ⟨_, rfl, rfl, _, rfl, iteT ?_⟩
      refine ⟨_, rfl, d, 2, N + 2, rfl, st3, by decide, by decide, by omega, fun nm hnm H4 k4 st4 => ⟨rfl, _, _, rfl, ?_⟩⟩
      refine ⟨_, rfl, d, 5, N + 3, rfl, st4, by decide, by decide, by omega, fun gw hgw H5 k5 st5 => ⟨_, _, rfl, rfl, _, rfl, ?_⟩⟩
      have k05 := (k03.trans k4).trans k5
      have hL5 := keepL k05
      by_cases hg : gw < 3
      · refine iteDT (by omega) ?_
        refine ⟨_, rfl, _, rfl, _, rfl, _, rfl, _, rfl, _, _, rfl, rfl, _, rfl, L, _, rfl, SqL.of hL5, fun L6 H6 k6 n6 e6 => ?_⟩
        replace e6 := e6.trans (congrArg (fun z => some (HO.lst z)) (due_go rvs k 1))
        refine ⟨_, rfl, L, _, rfl, .inl (SqL.of (k6.same _ _ hL5)), _, rfl, _, rfl, _, _, rfl, rfl, _, _, rfl, _, _, rfl, ?_⟩
        have t6 : TDs H6 ((rvs.drop k).take 1) ((nextOf (rowsOf m p) k 1).map Row.d) := by
          unfold nextOf
          rw [List.map_take, List.map_drop]
          exact TDs.take (TDs.drop ((hr2.kp k05).kp k6) k) 1
        have rsl : (nextOf (rowsOf m p) k 1).length ≤ 408 := by unfold nextOf; rw [List.length_take, List.length_drop]; omega
        have sh := due_sh pl.mok pl.sok m40 (rs := nextOf (rowsOf m p) k 1) (fun r hr => List.mem_of_mem_drop (List.mem_of_mem_take hr)) rsl
        have pl6 := (pl.kp k05 fun b hb z => dA (by rw [← List.mem_singleton.mp z]; exact hb)).kp0 k6
        refine ⟨_, rfl, rfl, _, rfl, iteT ⟨_, rfl, A.a, _, _, rfl, pl6.ins, rfl, A, m, p, k, 1, rfl, pl6, by decide, fun H7 L7 xs k7 n7 e7 t7 pl7 => ?_⟩⟩
        obtain ⟨g1, g2, g3, g4, g5⟩ := gr_fin pl k05 st5 dA k6 n6 e6 t6 k7 n7 e7 pl7 (xs ++ [.str (Str.ofString "more")])
        refine ⟨_, rfl, _, _, _, _, true, rfl, .ty _, .base (.lst e7), kit_ty (by decide +kernel), true, rfl, iteT ?_⟩
        refine ⟨_, rfl, _, _, rfl, .lst (SqL.of e7) (TDs.dp _ _ t7), sh.shw, sh.nod, sh.fits, sh.d60, _, rfl, _, _, rfl, .lst (SqL.of g1) (TDs.dp _ _ g2), sh.shw, sh.nod, sh.fits, sh.d60, rfl, ?_⟩
        have xl := sh_len t7 rsl
        refine ⟨_, rfl, .inl ⟨rfl, _, SqL.of e7⟩, L7, xs, _, rfl, rfl, e7, by rw [sizeLine_eq]; omega, _, rfl, _, rfl, iteBT (decide_eq_true rfl) ⟨_, rfl, ?_⟩⟩
        exact useV (by rw [← rvl]; exact congrArg V.int (later_go rvs.length k 1)) (q _ (min (k + 1) (rowsOf m p).length) g3 g4 g5)
      · refine iteDF (by omega) ?_
        refine ⟨_, rfl, _, rfl, _, rfl, _, _, rfl, rfl, _, _, rfl, _, rfl, _, rfl, _, rfl, L, _, rfl, SqL.of hL5, fun L5 H55 k55 n55 e55 => ?_⟩
        replace e55 := e55.trans (congrArg (fun z => some (HO.lst z)) (due_back rvs k 1))
        refine ⟨L5, _, rfl, SqL.of e55, fun L6 H6 k56 n56 e6 => ?_⟩
        have k6 := k55.trans k56
        have n6 := k55.free n56
        refine ⟨_, rfl, _, rfl, _, _, rfl, rfl, _, _, rfl, _, _, rfl, ?_⟩
        have t6 : TDs H6 ((rvs.take k).drop (k - 1)).reverse ((backR (rowsOf m p) k (k - 1)).map Row.d) := by
          unfold backR
          rw [List.map_reverse, List.map_drop, List.map_take]
          exact TDs.rev (TDs.drop (TDs.take ((hr2.kp k05).kp k6) k) (k - 1))
        have rsl : (backR (rowsOf m p) k (k - 1)).length ≤ 408 := by unfold backR; rw [List.length_reverse, List.length_drop, List.length_take]; omega
        have sh := due_sh pl.mok pl.sok m40 (rs := backR (rowsOf m p) k (k - 1)) (fun r hr => List.mem_of_mem_take (List.mem_of_mem_drop (List.mem_reverse.mp hr))) rsl
        have pl6 := (pl.kp k05 fun b hb z => dA (by rw [← List.mem_singleton.mp z]; exact hb)).kp0 k6
        refine ⟨_, rfl, rfl, _, rfl, iteT ⟨_, rfl, A.a, _, _, rfl, pl6.ins, rfl, A, m, p, k, 1, rfl, pl6, by decide, fun H7 L7 xs k7 n7 e7 t7 pl7 => ?_⟩⟩
        obtain ⟨g1, g2, g3, g4, g5⟩ := gr_fin pl k05 st5 dA k6 n6 e6 t6 k7 n7 e7 pl7 (xs ++ [.str (Str.ofString "more")])
        refine ⟨_, rfl, _, _, _, _, true, rfl, .ty _, .base (.lst e7), kit_ty (by decide +kernel), true, rfl, iteT ?_⟩
        refine ⟨_, rfl, _, _, rfl, .lst (SqL.of e7) (TDs.dp _ _ t7), sh.shw, sh.nod, sh.fits, sh.d60, _, rfl, _, _, rfl, .lst (SqL.of g1) (TDs.dp _ _ g2), sh.shw, sh.nod, sh.fits, sh.d60, rfl, ?_⟩
        have xl := sh_len t7 rsl
        refine ⟨_, rfl, .inl ⟨rfl, _, SqL.of e7⟩, L7, xs, _, rfl, rfl, e7, by rw [sizeLine_eq]; omega, _, rfl, _, rfl, iteBT (decide_eq_true rfl) ⟨_, rfl, ?_⟩⟩
        exact useV (congrArg V.int (later_back k 1)) (q _ (k - 1) g3 g4 g5)
    · refine ⟨_, rfl, rfl, _, rfl, iteF ?_⟩
      refine ⟨_, rfl, _, rfl, d, 2, N + 2, rfl, st3, by decide, by decide, by omega, fun nm hnm H4 k4 st4 => ⟨rfl, _, _, rfl, ?_⟩⟩
      refine ⟨_, rfl, d, 5, N + 3, rfl, st4, by decide, by decide, by omega, fun gw hgw H5 k5 st5 => ⟨_, _, rfl, rfl, _, rfl, ?_⟩⟩
      have k05 := (k03.trans k4).trans k5
      have hL5 := keepL k05
      by_cases hg : gw < 3
      · refine iteDT (by omega) ?_
        refine ⟨_, rfl, _, rfl, _, rfl, _, rfl, _, rfl, _, _, rfl, rfl, _, rfl, L, _, rfl, SqL.of hL5, fun L6 H6 k6 n6 e6 => ?_⟩
        replace e6 := e6.trans (congrArg (fun z => some (HO.lst z)) (due_go rvs k n))
        refine ⟨_, rfl, L, _, rfl, .inl (SqL.of (k6.same _ _ hL5)), _, rfl, _, rfl, _, _, rfl, rfl, _, _, rfl, _, _, rfl, ?_⟩
        have t6 : TDs H6 ((rvs.drop k).take n) ((nextOf (rowsOf m p) k n).map Row.d) := by
          unfold nextOf
          rw [List.map_take, List.map_drop]
          exact TDs.take (TDs.drop ((hr2.kp k05).kp k6) k) n
        have rsl : (nextOf (rowsOf m p) k n).length ≤ 408 := by unfold nextOf; rw [List.length_take, List.length_drop]; omega
        have sh := due_sh pl.mok pl.sok m40 (rs := nextOf (rowsOf m p) k n) (fun r hr => List.mem_of_mem_drop (List.mem_of_mem_take hr)) rsl
        have pl6 := (pl.kp k05 fun b hb z => dA (by rw [← List.mem_singleton.mp z]; exact hb)).kp0 k6
        refine ⟨_, rfl, rfl, _, rfl, iteF ⟨_, rfl, _, rfl, ?_⟩⟩
        by_cases hnm1 : V.int (nm : Int) = V.int 1
        · refine iteDT hnm1 ⟨_, rfl, A.a, _, _, rfl, pl6.ins, rfl, _, rfl, A, m, p, k, n, rfl, pl6, hn, fun H7 L7 xs k7 n7 e7 t7 pl7 => ?_⟩
          obtain ⟨g1, g2, g3, g4, g5⟩ := gr_fin pl k05 st5 dA k6 n6 e6 t6 k7 n7 e7 pl7 (xs ++ [.str (Str.ofString "more")])
          refine ⟨_, rfl, _, _, _, _, true, rfl, .ty _, .base (.lst e7), kit_ty (by decide +kernel), true, rfl, iteT ?_⟩
          refine ⟨_, rfl, _, _, rfl, .lst (SqL.of e7) (TDs.dp _ _ t7), sh.shw, sh.nod, sh.fits, sh.d60, _, rfl, _, _, rfl, .lst (SqL.of g1) (TDs.dp _ _ g2), sh.shw, sh.nod, sh.fits, sh.d60, rfl, ?_⟩
          have xl := sh_len t7 rsl
          refine ⟨_, rfl, .inl ⟨rfl, _, SqL.of e7⟩, L7, xs, _, rfl, rfl, e7, by rw [sizeLine_eq]; omega, _, rfl, _, rfl, iteBT (decide_eq_true rfl) ⟨_, rfl, ?_⟩⟩
          exact useV (by rw [← rvl]; exact congrArg V.int (later_go rvs.length k n)) (q _ (min (k + n) (rowsOf m p).length) g3 g4 g5)
        · refine iteDF hnm1 ⟨_, rfl, A.a, _, _, rfl, pl6.ins, rfl, _, rfl, A, m, p, k, n, rfl, pl6, hn, fun H7 L7 xs k7 n7 e7 t7 pl7 => ?_⟩
          obtain ⟨g1, g2, g3, g4, g5⟩ := gr_fin pl k05 st5 dA k6 n6 e6 t6 k7 n7 e7 pl7 (xs ++ [.str (Str.ofString "more")])
          refine ⟨_, rfl, _, _, _, _, true, rfl, .ty _, .base (.lst e7), kit_ty (by decide +kernel), true, rfl, iteT ?_⟩
          refine ⟨_, rfl, _, _, rfl, .lst (SqL.of e7) (TDs.dp _ _ t7), sh.shw, sh.nod, sh.fits, sh.d60, _, rfl, _, _, rfl, .lst (SqL.of g1) (TDs.dp _ _ g2), sh.shw, sh.nod, sh.fits, sh.d60, rfl, ?_⟩
          have xl := sh_len t7 rsl
          refine ⟨_, rfl, .inl ⟨rfl, _, SqL.of e7⟩, L7, xs, _, rfl, rfl, e7, by rw [sizeLine_eq]; omega, _, rfl, _, rfl, iteBT (decide_eq_true rfl) ⟨_, rfl, ?_⟩⟩
          exact useV (by rw [← rvl]; exact congrArg V.int (later_go rvs.length k n)) (q _ (min (k + n) (rowsOf m p).length) g3 g4 g5)
      · refine iteDF (by omega) ?_
        refine ⟨_, rfl, _, rfl, _, rfl, _, _, rfl, rfl, _, _, rfl, _, rfl, _, rfl, _, rfl, L, _, rfl, SqL.of hL5, fun L5 H55 k55 n55 e55 => ?_⟩
        replace e55 := e55.trans (congrArg (fun z => some (HO.lst z)) (due_back rvs k n))
        refine ⟨L5, _, rfl, SqL.of e55, fun L6 H6 k56 n56 e6 => ?_⟩
        have k6 := k55.trans k56
        have n6 := k55.free n56
        refine ⟨_, rfl, _, rfl, _, _, rfl, rfl, _, _, rfl, _, _, rfl, ?_⟩
        have t6 : TDs H6 ((rvs.take k).drop (k - n)).reverse ((backR (rowsOf m p) k (k - n)).map Row.d) := by
          unfold backR
          rw [List.map_reverse, List.map_drop, List.map_take]
          exact TDs.rev (TDs.drop (TDs.take ((hr2.kp k05).kp k6) k) (k - n))
        have rsl : (backR (rowsOf m p) k (k - n)).length ≤ 408 := by unfold backR; rw [List.length_reverse, List.length_drop, List.length_take]; omega
        have sh := due_sh pl.mok pl.sok m40 (rs := backR (rowsOf m p) k (k - n)) (fun r hr => List.mem_of_mem_take (List.mem_of_mem_drop (List.mem_reverse.mp hr))) rsl
        have pl6 := (pl.kp k05 fun b hb z => dA (by rw [← List.mem_singleton.mp z]; exact hb)).kp0 k6
        refine ⟨_, rfl, rfl, _, rfl, iteF ⟨_, rfl, _, rfl, ?_⟩⟩
        by_cases hnm1 : V.int (nm : Int) = V.int 1
        · refine iteDT hnm1 ⟨_, rfl, A.a, _, _, rfl, pl6.ins, rfl, _, rfl, A, m, p, k, n, rfl, pl6, hn, fun H7 L7 xs k7 n7 e7 t7 pl7 => ?_⟩
          obtain ⟨g1, g2, g3, g4, g5⟩ := gr_fin pl k05 st5 dA k6 n6 e6 t6 k7 n7 e7 pl7 (xs ++ [.str (Str.ofString "more")])
          refine ⟨_, rfl, _, _, _, _, true, rfl, .ty _, .base (.lst e7), kit_ty (by decide +kernel), true, rfl, iteT ?_⟩
          refine ⟨_, rfl, _, _, rfl, .lst (SqL.of e7) (TDs.dp _ _ t7), sh.shw, sh.nod, sh.fits, sh.d60, _, rfl, _, _, rfl, .lst (SqL.of g1) (TDs.dp _ _ g2), sh.shw, sh.nod, sh.fits, sh.d60, rfl, ?_⟩
          have xl := sh_len t7 rsl
          refine ⟨_, rfl, .inl ⟨rfl, _, SqL.of e7⟩, L7, xs, _, rfl, rfl, e7, by rw [sizeLine_eq]; omega, _, rfl, _, rfl, iteBT (decide_eq_true rfl) ⟨_, rfl, ?_⟩⟩
          exact useV (congrArg V.int (later_back k n)) (q _ (k - n) g3 g4 g5)
        · refine iteDF hnm1 ⟨_, rfl, A.a, _, _, rfl, pl6.ins, rfl, _, rfl, A, m, p, k, n, rfl, pl6, hn, fun H7 L7 xs k7 n7 e7 t7 pl7 => ?_⟩
          obtain ⟨g1, g2, g3, g4, g5⟩ := gr_fin pl k05 st5 dA k6 n6 e6 t6 k7 n7 e7 pl7 (xs ++ [.str (Str.ofString "more")])
          refine ⟨_, rfl, _, _, _, _, true, rfl, .ty _, .base (.lst e7), kit_ty (by decide +kernel), true, rfl, iteT ?_⟩
          refine ⟨_, rfl, _, _, rfl, .lst (SqL.of e7) (TDs.dp _ _ t7), sh.shw, sh.nod, sh.fits, sh.d60, _, rfl, _, _, rfl, .lst (SqL.of g1) (TDs.dp _ _ g2), sh.shw, sh.nod, sh.fits, sh.d60, rfl, ?_⟩
          have xl := sh_len t7 rsl
          refine ⟨_, rfl, .inl ⟨rfl, _, SqL.of e7⟩, L7, xs, _, rfl, rfl, e7, by rw [sizeLine_eq]; omega, _, rfl, _, rfl, iteBT (decide_eq_true rfl) ⟨_, rfl, ?_⟩⟩
          exact useV (congrArg V.int (later_back k n)) (q _ (k - n) g3 g4 g5)
end
end L2.K14
set_option Elab.async false
set_option linter.all false
set_option maxRecDepth 100000
set_option maxHeartbeats 4000000
set_option pp.maxSteps 600
/-! _law_others_right -/
namespace L2.K14
open PySem PySem.Spec PyProof.Rows
theorem cpN_cnt (l : List (Nat × Nat)) (m m' : List Nat) : ∀ i, (cpN l m i).2.length = (cpN l m' i).2.length
  | 0 => rfl
  | i + 1 => by
    have ih := cpN_cnt l m m' i
    unfold cpN
    cases l[i]? with
    | none => exact ih
    | some q => simp only [List.length_append, ih, List.length_cons, List.length_nil]
theorem flN_cnt (l : List Nat) (b : Nat) (m m' : List Nat) : ∀ i, (flN l b m i).2.length = (flN l b m' i).2.length
  | 0 => rfl
  | i + 1 => by
    have ih := flN_cnt l b m m' i
    unfold flN
    cases l[i]? with
    | none => exact ih
    | some q => simp only [List.length_append, ih, List.length_cons, List.length_nil]
theorem adN_cnt (l : List Nat) (m m' : List Nat) : ∀ i, (adN l m i).length = (adN l m' i).length
  | 0 => rfl
  | i + 1 => by
    have ih := adN_cnt l m m' i
    unfold adN
    cases l[i]? with
    | none => exact ih
    | some q => simp only [List.length_append, ih, List.length_cons, List.length_nil]
theorem Stp.run_cnt (t : Stp) (m m' : List Nat) : (t.run m).2.length = (t.run m').2.length := by
  cases t with
  | copy a b k => exact cpN_cnt _ _ _ _
  | fill a b k => exact flN_cnt _ _ _ _ _
  | add a c =>
    show (adN _ m _ ++ [_]).length = (adN _ m' _ ++ [_]).length
    rw [List.length_append, List.length_append, adN_cnt _ m m']
    rfl
  | _ => rfl
structure Sim (r s : Run) : Prop where
  fl : r.flags = s.flags
  st : r.stuck = s.stuck
  rw : r.rows.length = s.rows.length
theorem Sim.tell {r s : Run} (h : Sim r s) (x y : List Nat) (sp : Spot) {a b : List Rw} (l : a.length = b.length) : Sim (({ r with mem := x } : Run).tell sp a) (({ s with mem := y } : Run).tell sp b) := by
  refine ⟨h.fl, h.st, ?_⟩
  show (r.rows ++ a.map (Row.mk sp)).length = (s.rows ++ b.map (Row.mk sp)).length
  rw [List.length_append, List.length_append, List.length_map, List.length_map, h.rw, l]
theorem Sim.pass {r s : Run} (h : Sim r s) (sp : Spot) (f n : Nat) : Sim (r.pass sp f n) (s.pass sp f n) := by
  unfold Run.pass
  rw [h.fl]
  split
  · exact ⟨rfl, rfl, h.rw⟩
  · exact h
theorem Sim.step {r s : Run} (h : Sim r s) (sp : Spot) (t : Stp) : Sim (r.step sp t) (s.step sp t) := by
  have h1 := h.tell (t.run r.mem).1 (t.run s.mem).1 sp (t.run_cnt r.mem s.mem)
  cases t with
  | note f => exact ⟨by show r.flags.set f (r.flags.getD f 0 + 1) = s.flags.set f (s.flags.getD f 0 + 1); rw [h.fl], h1.st, h1.rw⟩
  | wait f n => exact h1.pass sp f n
  | _ => exact h1
theorem Sim.stepsN {r s : Run} (h : Sim r s) {l : List Stp} {place : Nat} : ∀ i, i ≤ l.length → Sim (stepsN l place r i) (stepsN l place s i)
  | 0, _ => h
  | i + 1, hi => by
    have ih := Sim.stepsN (l := l) (place := place) h i (by omega)
    have e : l[i]? = some l[i] := List.getElem?_eq_getElem (by omega)
    rw [stepsN_succ e, stepsN_succ e, ih.st]
    split
    · exact ih.step _ _
    · exact ih
theorem Sim.deed {r s : Run} (h : Sim r s) (place : Nat) (t : Ded) : Sim (r.deed place t) (s.deed place t) := by
  cases t with
  | post a l => exact h.stepsN _ (Nat.le_refl _)
  | poke c b => exact h.tell _ _ _ rfl
  | peek c => exact Sim.tell (r := { r with peeks := r.peeks ++ [r.mem.getD c 0] }) (s := { s with peeks := s.peeks ++ [s.mem.getD c 0] }) ⟨h.fl, h.st, h.rw⟩ _ _ _ rfl
  | join c => exact h
  | see f k => exact h.pass _ f k
theorem Sim.deedsN {r s : Run} (h : Sim r s) {l : List Ded} : ∀ i, i ≤ l.length → Sim (deedsN l r i) (deedsN l s i)
  | 0, _ => h
  | i + 1, hi => by
    have ih := Sim.deedsN (l := l) h i (by omega)
    have e : l[i]? = some l[i] := List.getElem?_eq_getElem (by omega)
    rw [deedsN_succ e, deedsN_succ e, ih.st]
    split
    · exact ih.deed _ _
    · exact ih
theorem rowsOf_cnt (m m' : List Nat) (p : List Ded) : (rowsOf m p).length = (rowsOf m' p).length := (Sim.deedsN (show Sim (run0 m) (run0 m') from ⟨rfl, rfl, rfl⟩) p.length (Nat.le_refl _)).rw
theorem deedsN_app (p q : List Ded) (r : Run) : ∀ i, i ≤ p.length → deedsN (p ++ q) r i = deedsN p r i
  | 0, _ => rfl
  | i + 1, hi => by
    have e : p[i]? = some p[i] := List.getElem?_eq_getElem (by omega)
    rw [deedsN_succ e, deedsN_succ (l := p ++ q) (by rw [List.getElem?_append_left (by omega)]; exact e), deedsN_app p q r i (by omega)]
theorem rowsOf_join (m : List Nat) (p : List Ded) (h : Nat) : rowsOf m (p ++ [.join h]) = rowsOf m p := by
  unfold rowsOf runAll
  rw [List.length_append, List.length_singleton, deedsN_succ (t := .join h) (by simp), deedsN_app p _ _ _ (Nat.le_refl _)]
  split <;> rfl
theorem eqvAll_len : ∀ (xs ys : List PyData), PyData.eqvAll xs ys = true → xs.length = ys.length
  | [], [], _ => rfl
  | [], _ :: _, h => by simp [PyData.eqvAll] at h
  | _ :: _, [], h => by simp [PyData.eqvAll] at h
  | x :: xs, y :: ys, h => by
    simp only [PyData.eqvAll, Bool.and_eq_true] at h
    rw [List.length_cons, List.length_cons, eqvAll_len xs ys h.2]
theorem eqv_tup_len {xs ys : List PyData} (h : xs.length ≠ ys.length) : PyData.eqv (.tuple xs) (.tuple ys) = false := by
  rw [PyData.eqv]
  cases e : PyData.eqvAll xs ys with
  | false => rfl
  | true => exact absurd (eqvAll_len xs ys e) h
theorem eqv_pair {a b c d : PyData} : PyData.eqv (.tuple [a, b]) (.tuple [c, d]) = (PyData.eqv a c && PyData.eqv b d) := by
  simp [PyData.eqv, PyData.eqvAll]
theorem eqv_first {x y : Nat} {r s : List Nat} (h : x ≠ y) : PyData.eqv (memD (x :: r)) (memD (y :: s)) = false := by
  have : ((x : Int) == (y : Int)) = false := by simp; omega
  simp [memD, PyData.eqv, PyData.eqvAll, this]
theorem eqv_last {p : List Ded} {t : Ded} : PyData.eqv (sheetD (p ++ [t])) (sheetD p) = false := eqv_tup_len (by simp)
theorem eqv_last' {p : List Ded} {t : Ded} : PyData.eqv (sheetD p) (sheetD (p ++ [t])) = false := eqv_tup_len (by simp)
section
variable {P : Program} {w : World} {K : PySem.W.Frag} {mg : Str → Option Value} {base : Heap} {f : Addr} {fd : FuncData} {C : Addr}
abbrev N__law_others_right : List Str := ["_law_store_here", "_law_sheet_here", "_law_one", "_law_far", "_law_other"]
theorem sc__law_others_right : FnScope N__law_others_right ["_law_store_here", "_law_sheet_here", "_law_one"] (defScope s__law_others_right) := ⟨rfl, rfl, rfl, by decide +kernel, rfl, by decide +kernel, by decide +kernel⟩
def sp_others (C : Addr) : Sp := fun vs H Q _ => ∃ (A : PlA) (m : List Nat) (p : List Ded) (k : Nat) (v u : V), vs = [v, u, .ref A.a] ∧ PlAt C H A m p k ∧ TD H v (memD m) ∧ TD H u (sheetD p) ∧ 8 ≤ m.length ∧ m.length ≤ 40 ∧ p.length ≤ 5 ∧ ∀ H', Kp [] H H' → Q (.bl true) H'
theorem ok_others (T : Txt K mg) (cPlain : PlC K C) (iPlain : PlI K mg C) (nPlain : PySem.W.findIn K (.ref C) "__ne__" = some (some (.builtin "object.__ne__"))) (F : Fd K "_law_others_right" "_law_others_right" s__law_others_right f fd)
    (MkPlain : CalC P w K mg base C 13 "Plain" ["self", "memory", "program"] (sp_Plain_init C)) (M_Plain_go : MetD P w K mg base C 3 "go" ["self", "many"] (sp_go C) (.int 1) "many") (M_Plain_gone : Met P w K mg base C 1 "gone" ["self"] (sp_gone C))
    (O_Plain_repr : OwM P w K mg base C 1 "__repr__" ["self"] (sp_repr C)) (O_Plain_len : OwM P w K mg base C 1 "__len__" ["self"] (sp_plen C)) (O_Plain_eq : OwM P w K mg base C 1 "__eq__" ["self", "other"] (sp_eq C)) :
    FnOk P w K mg base CX0 15 f fd ["_law_store_here", "_law_sheet_here", "_law_one"] (sp_others C) := by
  refine FunD.ok F sc__law_others_right (fun vs H Q E h => ?_) (fun cdv AA outer s H vs Q E hr h => ?_)
  · obtain ⟨A, m, p, k, v, u, rfl, _⟩ := h
    rfl
  · obtain ⟨A, m, p, k, v, u, rfl, pl, hv, hu, m1, m40, p5, q⟩ := h
    have rl := rows_len pl.sok
    have kle := pl.kle
    refine ⟨_, PSs.nox (pss_cons (ps_set (i := 3) sc__law_others_right.nd rfl (Or.inl rfl) (pe_lstK (pa_cons (pplain MkPlain hr (pa_cons (pe_op op_catT' (pe_tupK (pa_cons (pe_op op_mod (pe_op op_add (pe_ix ix_tup (pv 0) pe_int (fun _ _ => rfl)) pe_int) pe_int) pa_nil)) (pe_slice sl_tupK (pv 0) (po_some pe_int) po_none)) (pa_cons (pv 1) pa_nil))) (pa_cons (pplain MkPlain hr (pa_cons (pv 0) (pa_cons (pe_op op_catT' (pv 1) (pe_tupK (pa_cons (pe_tupK (pa_cons pe_str (pa_cons pe_int pa_nil))) pa_nil))) pa_nil))) pa_nil))))
      (pss_cons (ps_for PassesOwn.never rfl (pi_list (pv 3)) (pg_name (i := 4) sc__law_others_right.nd rfl (Or.inl rfl)) (pss_cons (ps_expr (pm (pv 4) cPlain.cls M_Plain_go.met hr (pa_cons (pm0 (pv 2) cPlain.cls M_Plain_gone hr) pa_nil)))
      (pss_one (ps_if (PW.pt (pw_or (pt_cmpR (op_eqOw O_Plain_eq hr) (pv 4) (pv 2) (nomark _)) (pw_or (pt_not (pt_cmpR (op_neOw O_Plain_eq nPlain iPlain.hm hr) (pv 2) (pv 4) (nomark _))) (pw_or1 (pt_cmpR op_ne (pe_callB (cr_lenO O_Plain_len hr) (by rfl) T.b_len PySem.boot_len (pa_cons (pv 4) pa_nil)) (pe_callB (cr_lenO O_Plain_len hr) (by rfl) T.b_len PySem.boot_len (pa_cons (pv 2) pa_nil)) (nomark _)))))) (pss_one (ps_ret pe_bl)) pss_nil))))
      (pss_one (ps_ret (pe_not (pe_or (pe_cmpR (op_eqOw O_Plain_eq hr) (pv 2) pe_int (nomark _)) (pe_or (pe_cmpR (op_eqOw O_Plain_eq hr) (pv 2) (pe_tupK (pa_cons (pv 0) (pa_cons (pv 1) pa_nil))) (nomark _)) (pe_one (pe_cmpR (op_eqOw O_Plain_eq hr) (pv 2) (pe_callB (cr_reprO O_Plain_repr hr) (by rfl) T.b_repr (by decide +kernel) (pa_cons (pv 2) pa_nil)) (nomark _)))))))))), ?_⟩
    obtain ⟨a, rfl, ha⟩ := hv.mem
    obtain ⟨b, us, rfl, hb, hus⟩ := hu.inv
    have ul : us.length = p.length := by rw [hus.1, List.length_map]
    have p1 := pl.sok.l1
    cases m with
    | nil => exact absurd m1 (by decide)
    | cons m0 mr =>
    have mr40 : mr.length + 1 ≤ 40 := m40
    have mok := pl.mok
    have m8 : mr ≠ [] := fun z => by rw [z] at m1; simp at m1
    refine ⟨_, rfl, a, _, 0, _, rfl, rfl, SqT.of ha, atN (n := 0) rfl rfl, _, _, rfl, rfl, _, _, rfl, rfl, by show (0 : Int) < 256; decide, sz 1, fun T1 H1 k1 n1 e1 => ⟨_, rfl, _, rfl, a, _, rfl, k1.same _ _ ha, fun T2 H2 k2 e2 => ?_⟩⟩
    replace e2 : H2 T2 = some (.tup (nums mr)) := e2.trans (congrArg (fun z => some (HO.tup z)) (cut_from _ 1))
    refine ⟨T1, T2, _, _, rfl, rfl, SqT.of (k2.same _ _ e1), SqT.of e2, ?_, by simp, ?_, fun T3 H3 k3 n3 e3 => ?_⟩
    · rw [nums_len, sizeLine_eq]
      simp
      omega
    · intro z
      exact m8 (List.map_eq_nil_iff.mp z)
    have hm1 : H3 T3 = some (.tup (nums (((m0 + 1) % 256) :: mr))) := e3
    have k03 := (k1.trans k2).trans k3
    have mok1 : MemOk (((m0 + 1) % 256) :: mr) := ⟨mok.l1, mok.l40, fun x hx => by
      rcases List.mem_cons.mp hx with rfl | hx
      · exact Nat.mod_lt _ (by decide)
      · exact mok.b x (List.mem_cons_of_mem _ hx)⟩
    refine ⟨_, rfl, .ref T3, .ref b, ((m0 + 1) % 256) :: mr, p, rfl, TDs.tup hm1 (tds_nums _), hu.kp k03, mok1, pl.sok, fun H4 B1 k4 f1 pl1 => ?_⟩
    have k04 := k03.trans k4
    refine ⟨_, rfl, _, rfl, sz 2, fun T5 H5 k5 n5 e5 => ⟨sz 1, fun T6 H6 k6 n6 e6 => ?_⟩⟩
    have k06 := (k04.trans k5).trans k6
    refine ⟨b, T6, _, _, rfl, rfl, SqT.of (k06.same _ _ hb), SqT.of e6, ?_, ?_, by simp, fun T7 H7 k7 n7 e7 => ?_⟩
    · rw [sizeLine_eq]
      simp
      omega
    · intro z
      rw [z] at ul
      exact absurd ul (by simp; omega)
    have k07 := k06.trans k7
    have hj : TD H7 (.ref T5) (Ded.join 0).d := TDs.tup ((k6.trans k7).same _ _ e5) (TDs.cons (.str _) (TDs.cons (.int _) TDs.nil))
    have hsh2 : TD H7 (.ref T7) (sheetD (p ++ [.join 0])) := by
      unfold sheetD
      rw [List.map_append]
      exact TDs.tup e7 (TDs.append (hus.kp k07) (TDs.cons hj TDs.nil))
    have sok2 : SheetOk (m0 :: mr).length (p ++ [.join 0]) := ⟨by simp, by simp; omega, fun d hd => by
      rcases List.mem_append.mp hd with hd | hd
      · exact pl.sok.ok d hd
      · rw [List.mem_singleton.mp hd]
        exact Nat.zero_le 1⟩
    refine ⟨.ref a, .ref T7, m0 :: mr, p ++ [.join 0], rfl, hv.kp k07, hsh2, mok, sok2, fun H8 B2 k8 f2 pl2 => ⟨sz 2, fun L9 H9 k9 n9 e9 => ?_⟩⟩
    have k48 := ((k5.trans k6).trans k7).trans k8
    have k09 := (k07.trans k8).trans k9
    have pl9 := pl.kp0 k09
    have pb1 := pl1.kp0 (k48.trans k9)
    have pb2 := pl2.kp0 k9
    have dA1 : ∀ x ∈ A.own, x ∉ B1.own := fun x hx z => (pl.kp0 k03).nin (f1 x z) hx
    have dA2 : ∀ x ∈ A.own, x ∉ B2.own := fun x hx z => (pl.kp0 k07).nin (f2 x z) hx
    have d12 : ∀ x ∈ B1.own, x ∉ B2.own := fun x hx z => (pl1.kp0 ((k5.trans k6).trans k7)).nin (f2 x z) hx
    have nL1 : L9 ∉ B1.own := (pl1.kp0 k48).nin n9
    have nL2 : L9 ∉ B2.own := pl2.nin n9
    have n01 : ∀ x ∈ B1.own, H x = none := fun x hx => k03.free (f1 x hx)
    have n02 : ∀ x ∈ B2.own, H x = none := fun x hx => k07.free (f2 x hx)
    have c1 := rowsOf_cnt (((m0 + 1) % 256) :: mr) (m0 :: mr) p
    have c2 := congrArg List.length (rowsOf_join (m0 :: mr) p 0)
    have hne : (m0 + 1) % 256 ≠ m0 := by omega
    refine ⟨_, rfl, L9, rfl, ⟨_, SqL.of e9⟩, for_it (walk_list (xs := [.ref B1.a, .ref B2.a])) (fun i σ H' => Kp (B1.own ++ B2.own) H9 H' ∧ (∃ k1, PlAt C H' B1 (((m0 + 1) % 256) :: mr) p k1) ∧ (∃ k2, PlAt C H' B2 (m0 :: mr) (p ++ [.join 0]) k2) ∧ ∃ v4, σ = [some (.ref a), some (.ref b), some (.ref A.a), some (.ref L9), v4])
      ⟨Kp.refl _, ⟨0, pb1⟩, ⟨0, pb2⟩, none, rfl⟩ (fun i σ H' _ h => SqL.of (h.1.keep _ _ e9 (by simp [nL1, nL2]))) (fun i x σ Hx HA hi h y => ?_) (fun σ HA h => ?_)⟩
    · obtain ⟨kA, ⟨j1, q1⟩, ⟨j2, q2⟩, v4, rfl⟩ := h
      obtain ⟨rfl, hx⟩ := y
      have plA := pl9.kp kA fun x hx z => (List.mem_append.mp z).elim (dA1 x hx) (dA2 x hx)
      obtain ⟨B, m', p', j, rfl, plB, hlen, eq1, eq2, dAB, post⟩ : ∃ (B : PlA) (m' : List Nat) (p' : List Ded) (j : Nat), x = .ref B.a ∧ PlAt C HA B m' p' j ∧ (rowsOf m' p').length = (rowsOf (m0 :: mr) p).length ∧ PyData.eqv (.tuple [memD m', sheetD p']) (.tuple [memD (m0 :: mr), sheetD p]) = false ∧
          PyData.eqv (.tuple [memD (m0 :: mr), sheetD p]) (.tuple [memD m', sheetD p']) = false ∧ (∀ x ∈ A.own, x ∉ B.own) ∧ ∀ H' j', Kp B.own HA H' → PlAt C H' B m' p' j' → Kp (B1.own ++ B2.own) H9 H' ∧ (∃ k1, PlAt C H' B1 (((m0 + 1) % 256) :: mr) p k1) ∧ (∃ k2, PlAt C H' B2 (m0 :: mr) (p ++ [.join 0]) k2) := by
        match i, hx with
        | 0, hx =>
          cases hx
          exact ⟨B1, _, _, j1, rfl, q1, c1, by rw [eqv_pair, eqv_first hne]; rfl, by rw [eqv_pair, eqv_first hne.symm]; rfl, dA1, fun H' j' kk pp => ⟨kA.trans (kk.more fun b hb => List.mem_append_left _ hb), ⟨_, pp⟩, ⟨_, q2.kp kk fun x hx z => d12 x z hx⟩⟩⟩
        | 1, hx =>
          cases hx
          exact ⟨B2, _, _, j2, rfl, q2, c2, by rw [eqv_pair, eqv_last, Bool.and_false], by rw [eqv_pair, eqv_last', Bool.and_false], dA2, fun H' j' kk pp => ⟨kA.trans (kk.more fun b hb => List.mem_append_right _ hb), ⟨_, q1.kp kk fun x hx z => d12 x hx z⟩, ⟨_, pp⟩⟩⟩
        | i + 2, hx => cases hx
      refine ⟨_, rfl, B.a, _, _, rfl, plB.ins, rfl, _, rfl, A.a, _, _, rfl, plA.ins, rfl, A, _, p, k, rfl, plA, B, m', p', j, k, rfl, plB, by omega, fun H5 L5 xs k5 n5 e5 t5 plB5 => ?_⟩
      have plA5 := plA.kp k5 dAB
      obtain ⟨z1, z2, z3⟩ := post H5 _ k5 plB5
      refine ⟨_, rfl, _, rfl, B.a, _, _, rfl, plB5.ins, notFirst_ins plA5.ins, B, m', p', _, .ref A.a, rfl, plB5, .inl ⟨A, _, p, k, rfl, plA5, _, rfl, _, rfl, iteBF (show (PyData.eqv _ _ && _) = false by rw [eq1]; rfl) ?_⟩⟩
      refine ⟨_, rfl, _, rfl, A.a, _, _, B.a, _, _, rfl, rfl, plA5.ins, plB5.ins, A, _, p, k, .ref B.a, rfl, plA5, .inl ⟨B, m', p', _, rfl, plB5, _, rfl, _, rfl, iteBF (show (!(!(PyData.eqv _ _ && _))) = false by rw [eq2]; rfl) ?_⟩⟩
      refine ⟨_, rfl, B.a, _, _, rfl, plB5.ins, B, m', p', _, rfl, plB5, _, rfl, by omega, _, rfl, A.a, _, _, rfl, plA5.ins, A, _, p, k, rfl, plA5, _, rfl, by omega, rfl, _, rfl, iteBF (by rw [hlen]; simp) ⟨z1, z2, z3, _, rfl⟩⟩
    · obtain ⟨kA, ⟨j1, q1⟩, ⟨j2, q2⟩, v4, rfl⟩ := h
      have plA := pl9.kp kA fun x hx z => (List.mem_append.mp z).elim (dA1 x hx) (dA2 x hx)
      refine ⟨_, rfl, A.a, _, _, rfl, plA.ins, notFirst_int, A, _, p, k, .int 5, rfl, plA, .inr ⟨.inl ⟨_, rfl⟩, _, rfl, false, rfl, iteF ?_⟩⟩
      refine ⟨_, rfl, _, rfl, _, rfl, sz 2, fun TT HB kB nB eB => ?_⟩
      have plB := plA.kp0 kB
      refine ⟨A.a, _, _, rfl, plB.ins, notFirst_tup (SqT.of eB), A, _, p, k, .ref TT, rfl, plB, .inr ⟨.inr (.inr ⟨TT, _, rfl, eB⟩), _, rfl, false, rfl, iteF ?_⟩⟩
      refine ⟨_, rfl, _, rfl, A.a, _, _, rfl, plB.ins, A, _, p, k, rfl, plB, _, rfl, A.a, _, _, rfl, plB.ins, notFirst_str, A, _, p, k, .str _, rfl, plB, .inr ⟨.inr (.inl ⟨_, rfl⟩), _, rfl, false, rfl, ?_⟩⟩
      exact q HB (Kp.dropAll ((k09.any.trans kA).trans kB.any) fun x hx => (List.mem_append.mp hx).elim (n01 x) (n02 x))
end
end L2.K14
set_option Elab.async false
set_option linter.all false
set_option maxRecDepth 100000
set_option maxHeartbeats 4000000
set_option pp.maxSteps 600
/-! what stays true amid the law's turns -/
namespace L2.K14
open PySem PySem.Spec PyProof.Rows
structure LwAt (C : Addr) (H0 HB H : Hp) (d S G L L2 : Addr) (F : PlA) (m : List Nat) (p : List Ded) (m2 : List Nat) (p2 : List Ded) (rvs rvs2 : List V) (N : Nat) (Bs : List PlA) (ks : List Nat) (kf : Nat) : Prop where
  k0 : Kp [] H0 H
  tp : ∀ b xs, HB b = some (.tup xs) → H b = some (.tup xs)
  fd : H0 d = none
  fS : H0 S = none
  fG : H0 G = none
  fF : ∀ x ∈ F.own, H0 x = none
  fB : ∀ B ∈ Bs, ∀ x ∈ B.own, H0 x = none
  st : StAt H d N
  eS : H S = some (.lst (Bs.map fun B => V.ref B.a))
  eG : H G = some (.lst (nums ks))
  eL : H L = some (.lst rvs)
  tL : TDs H rvs ((rowsOf m p).map Row.d)
  eL2 : H L2 = some (.lst rvs2)
  tL2 : TDs H rvs2 ((rowsOf m2 p2).map Row.d)
  far : PlAt C H F m2 p2 kf
  ll : Bs.length = ks.length
  l1 : 1 ≤ Bs.length
  l4 : Bs.length ≤ 4
  pls : ∀ (j : Nat) B k, Bs[j]? = some B → ks[j]? = some k → PlAt C H B m p k
  dis : ∀ (i j : Nat) A B, i ≠ j → Bs[i]? = some A → Bs[j]? = some B → ∀ x ∈ A.own, x ∉ B.own
  dF : ∀ B ∈ Bs, ∀ x ∈ B.own, x ∉ F.own
  nF : S ∉ F.own ∧ G ∉ F.own ∧ L ∉ F.own ∧ L2 ∉ F.own
  nB : ∀ B ∈ Bs, S ∉ B.own ∧ G ∉ B.own ∧ L ∉ B.own ∧ L2 ∉ B.own
  ne : S ≠ G ∧ L ≠ S ∧ L ≠ G ∧ L2 ≠ S ∧ L2 ≠ G
section
variable {C : Addr} {H0 HB H H' : Hp} {d S G L L2 : Addr} {F : PlA} {m : List Nat} {p : List Ded} {m2 : List Nat} {p2 : List Ded} {rvs rvs2 : List V} {N N' : Nat} {Bs : List PlA} {ks : List Nat} {kf : Nat}
theorem st_neL {H : Hp} {d b : Addr} {N : Nat} {xs : List V} (st : StAt H d N) (e : H b = some (.lst xs)) : b ≠ d := fun z => by
  obtain ⟨_, _, _, _, e2, _⟩ := st
  rw [z, e2] at e
  cases e
theorem LwAt.free {M : List Addr} (h : LwAt C H0 HB H d S G L L2 F m p m2 p2 rvs rvs2 N Bs ks kf) (k : Kp M H H') (hM : ∀ x ∈ M, H0 x = none) : Kp [] H0 H' := Kp.dropAll (h.k0.any.trans k) hM
theorem LwAt.mem {j : Nat} {B : PlA} (e : Bs[j]? = some B) : B ∈ Bs := List.mem_of_getElem? e
/-- nothing of it changed, but the draws -/
theorem LwAt.draw (h : LwAt C H0 HB H d S G L L2 F m p m2 p2 rvs rvs2 N Bs ks kf) (k : Kp [d] H H') (st : StAt H' d N') : LwAt C H0 HB H' d S G L L2 F m p m2 p2 rvs rvs2 N' Bs ks kf := by
  have nd : ∀ {b : Addr} {xs : List V}, H b = some (.lst xs) → b ∉ [d] := fun e => by simp [st_neL h.st e]
  have dF := h.st.nin h.far
  exact ⟨h.free k (fun x hx => by rw [List.mem_singleton.mp hx]; exact h.fd), fun b xs e => k.tups b xs (h.tp b xs e), h.fd, h.fS, h.fG, h.fF, h.fB, st, k.keep _ _ h.eS (nd h.eS), k.keep _ _ h.eG (nd h.eG), k.keep _ _ h.eL (nd h.eL), h.tL.kp k, k.keep _ _ h.eL2 (nd h.eL2), h.tL2.kp k,
    h.far.kp k (fun b hb z => dF (by rw [← List.mem_singleton.mp z]; exact hb)), h.ll, h.l1, h.l4, fun j B kk e1 e2 => (h.pls j B kk e1 e2).kp k (fun b hb z => h.st.nin (h.pls j B kk e1 e2) (by rw [← List.mem_singleton.mp z]; exact hb)), h.dis, h.dF, h.nF, h.nB, h.ne⟩
theorem LwAt.kp0 (h : LwAt C H0 HB H d S G L L2 F m p m2 p2 rvs rvs2 N Bs ks kf) (k : Kp [] H H') : LwAt C H0 HB H' d S G L L2 F m p m2 p2 rvs rvs2 N Bs ks kf := h.draw k.any (h.st.kp0 k)
/-- the far one has gone -/
theorem LwAt.goF {kf' : Nat} (h : LwAt C H0 HB H d S G L L2 F m p m2 p2 rvs rvs2 N Bs ks kf) (k : Kp (d :: F.own) H H') (pl : PlAt C H' F m2 p2 kf') (st : StAt H' d N') : LwAt C H0 HB H' d S G L L2 F m p m2 p2 rvs rvs2 N' Bs ks kf' := by
  have nd : ∀ {b : Addr} {xs : List V}, H b = some (.lst xs) → b ∉ F.own → b ∉ d :: F.own := fun e n => by simp [st_neL h.st e, n]
  refine ⟨h.free k (fun x hx => (List.mem_cons.mp hx).elim (fun z => by rw [z]; exact h.fd) (h.fF x)), fun b xs e => k.tups b xs (h.tp b xs e), h.fd, h.fS, h.fG, h.fF, h.fB, st, k.keep _ _ h.eS (nd h.eS h.nF.1), k.keep _ _ h.eG (nd h.eG h.nF.2.1), k.keep _ _ h.eL (nd h.eL h.nF.2.2.1), h.tL.kp k, k.keep _ _ h.eL2 (nd h.eL2 h.nF.2.2.2), h.tL2.kp k, pl, h.ll, h.l1, h.l4,
    fun j B kk e1 e2 => (h.pls j B kk e1 e2).kp k (fun b hb z => ?_), h.dis, h.dF, h.nF, h.nB, h.ne⟩
  rcases List.mem_cons.mp z with rfl | z
  · exact h.st.nin (h.pls j B kk e1 e2) hb
  · exact h.dF B (List.mem_of_getElem? e1) b hb z
/-- one of them has gone, and it is told -/
theorem LwAt.goB {w k' : Nat} {B : PlA} (h : LwAt C H0 HB H d S G L L2 F m p m2 p2 rvs rvs2 N Bs ks kf) (hw : Bs[w]? = some B) (k : Kp (d :: B.own) H H') (pl : PlAt C H' B m p k') (st : StAt H' d N') :
    H' G = some (.lst (nums ks)) ∧ LwAt C H0 HB (upd H' G (.lst (nums (ks.set w k')))) d S G L L2 F m p m2 p2 rvs rvs2 N' Bs (ks.set w k') kf := by
  have hB := List.mem_of_getElem? hw
  obtain ⟨b1, b2, b3, b4⟩ := h.nB B hB
  have nd : ∀ {b : Addr} {xs : List V}, H b = some (.lst xs) → b ∉ B.own → b ∉ d :: B.own := fun e n => by simp [st_neL h.st e, n]
  have eG := k.keep _ _ h.eG (nd h.eG b2)
  have kG : Kp [G] H' (upd H' G (.lst (nums (ks.set w k')))) := Kp.put eG (by simp) (by simp)
  have eS := kG.keep _ _ (k.keep _ _ h.eS (nd h.eS b1)) (by simp [h.ne.1])
  have eL := kG.keep _ _ (k.keep _ _ h.eL (nd h.eL b3)) (by simp [h.ne.2.2.1])
  have eL2 := kG.keep _ _ (k.keep _ _ h.eL2 (nd h.eL2 b4)) (by simp [h.ne.2.2.2.2])
  have kk := (k.more (M' := G :: d :: B.own) fun b hb => List.mem_cons_of_mem _ hb).trans (kG.more fun b hb => by rw [List.mem_singleton.mp hb]; exact List.mem_cons_self ..)
  have g1 : ∀ x ∈ F.own, x ∉ [G] := fun x hx z => h.nF.2.1 (by rw [← List.mem_singleton.mp z]; exact hx)
  refine ⟨eG, ⟨h.free kk fun x hx => ?_, fun b xs e => kk.tups b xs (h.tp b xs e), h.fd, h.fS, h.fG, h.fF, h.fB, st.kp kG (by simp [(st_neL h.st h.eG).symm]), eS, upd_same, eL, h.tL.kp kk, eL2, h.tL2.kp kk, (h.far.kp k fun b hb z => ?_).kp kG g1, by rw [List.length_set]; exact h.ll, h.l1, h.l4, fun j A kj e1 e2 => ?_, h.dis, h.dF, h.nF, h.nB, h.ne⟩⟩
  · rcases List.mem_cons.mp hx with rfl | hx
    · exact h.fG
    · rcases List.mem_cons.mp hx with rfl | hx
      · exact h.fd
      · exact h.fB B hB x hx
  · rcases List.mem_cons.mp z with rfl | z
    · exact h.st.nin h.far hb
    · exact h.dF B hB b z hb
  · have gA : ∀ x ∈ A.own, x ∉ [G] := fun x hx z => (h.nB A (List.mem_of_getElem? e1)).2.1 (by rw [← List.mem_singleton.mp z]; exact hx)
    by_cases q : w = j
    · subst q
      rw [hw] at e1
      cases e1
      have hwl : w < ks.length := by rw [← h.ll]; exact (List.getElem?_eq_some_iff.mp hw).1
      rw [List.getElem?_set_self hwl] at e2
      cases e2
      exact pl.kp kG gA
    · rw [List.getElem?_set_ne q] at e2
      have pA := h.pls j A kj e1 e2
      refine (pA.kp k fun b hb z => ?_).kp kG gA
      rcases List.mem_cons.mp z with rfl | z
      · exact h.st.nin pA hb
      · exact h.dis j w A B (fun z => q z.symm) e1 hw b hb z
/-- a twin has come -/
theorem LwAt.twin {w k : Nat} {B B' : PlA} (h : LwAt C H0 HB H d S G L L2 F m p m2 p2 rvs rvs2 N Bs ks kf) (hl : Bs.length < 4) (hk : ks[w]? = some k) (k1 : Kp [] H H') (fr : ∀ b ∈ B'.own, H b = none) (pl : PlAt C H' B' m p k) :
    H' S = some (.lst (Bs.map fun B => V.ref B.a)) ∧ (upd H' S (.lst ((Bs ++ [B']).map fun B => V.ref B.a))) G = some (.lst (nums ks)) ∧
    LwAt C H0 HB (upd (upd H' S (.lst ((Bs ++ [B']).map fun B => V.ref B.a))) G (.lst (nums (ks ++ [k])))) d S G L L2 F m p m2 p2 rvs rvs2 N (Bs ++ [B']) (ks ++ [k]) kf := by
  have h1 := h.kp0 k1
  have nn : ∀ {b : Addr} {o : HO}, H b = some o → b ∉ B'.own := fun e z => by rw [fr _ z] at e; cases e
  have kS : Kp [S] H' (upd H' S (.lst ((Bs ++ [B']).map fun B => V.ref B.a))) := Kp.put h1.eS (by simp) (by simp)
  have eG : (upd H' S (.lst ((Bs ++ [B']).map fun B => V.ref B.a))) G = some (.lst (nums ks)) := by rw [upd_ne h.ne.1.symm]; exact h1.eG
  have kG : Kp [G] (upd H' S (.lst ((Bs ++ [B']).map fun B => V.ref B.a))) (upd (upd H' S (.lst ((Bs ++ [B']).map fun B => V.ref B.a))) G (.lst (nums (ks ++ [k])))) := Kp.put eG (by simp) (by simp)
  have kk := (kS.more (M' := [S, G]) fun b hb => by rw [List.mem_singleton.mp hb]; simp).trans (kG.more (M' := [S, G]) fun b hb => by rw [List.mem_singleton.mp hb]; simp)
  have nSG : ∀ {x : Addr}, x ≠ S → x ≠ G → x ∉ [S, G] := fun a b => by simp [a, b]
  have off : ∀ {A : PlA}, S ∉ A.own → G ∉ A.own → ∀ x ∈ A.own, x ∉ [S, G] := fun a b x hx => nSG (fun z => a (z ▸ hx)) (fun z => b (z ▸ hx))
  have nS' := nn h.eS
  have nG' := nn h.eG
  refine ⟨h1.eS, eG, ⟨h1.free kk fun x hx => ?_, fun b xs e => kk.tups b xs (h1.tp b xs e), h.fd, h.fS, h.fG, h.fF, fun B hB x hx => ?_, h1.st.kp kk (nSG (st_neL h.st h.eS).symm (st_neL h.st h.eG).symm), by rw [upd_ne h.ne.1]; exact upd_same, upd_same, kk.keep _ _ h1.eL (nSG h.ne.2.1 h.ne.2.2.1), h1.tL.kp kk, kk.keep _ _ h1.eL2 (nSG h.ne.2.2.2.1 h.ne.2.2.2.2), h1.tL2.kp kk,
    h1.far.kp kk (off h.nF.1 h.nF.2.1), by simp [h.ll], by simp, by simp; omega, fun j A kj e1 e2 => ?_, fun i j A B q e1 e2 x hx => ?_, fun B hB x hx => ?_, h.nF, fun B hB => ?_, h.ne⟩⟩
  · simp only [List.mem_cons, List.mem_nil_iff, or_false] at hx
    rcases hx with rfl | rfl
    · exact h.fS
    · exact h.fG
  · rcases List.mem_append.mp hB with hB | hB
    · exact h.fB B hB x hx
    · rw [List.mem_singleton.mp hB] at hx
      exact h.k0.free (fr x hx)
  · by_cases q : j < Bs.length
    · rw [List.getElem?_append_left q] at e1
      rw [List.getElem?_append_left (by rw [← h.ll]; exact q)] at e2
      have nA := h.nB A (List.mem_of_getElem? e1)
      exact (h1.pls j A kj e1 e2).kp kk (off nA.1 nA.2.1)
    · have hj : j = Bs.length := by
        have := (List.getElem?_eq_some_iff.mp e1).1
        simp at this
        omega
      subst hj
      rw [List.getElem?_append_right (Nat.le_refl _), Nat.sub_self] at e1
      rw [h.ll, List.getElem?_append_right (Nat.le_refl _), Nat.sub_self] at e2
      cases e1
      cases e2
      exact pl.kp kk (off nS' nG')
  · have old : ∀ (i : Nat) A, (Bs ++ [B'])[i]? = some A → (i < Bs.length ∧ Bs[i]? = some A) ∨ (i = Bs.length ∧ A = B') := fun i A e => by
      by_cases q : i < Bs.length
      · rw [List.getElem?_append_left q] at e
        exact .inl ⟨q, e⟩
      · have hj : i = Bs.length := by
          have := (List.getElem?_eq_some_iff.mp e).1
          simp at this
          omega
        subst hj
        rw [List.getElem?_append_right (Nat.le_refl _), Nat.sub_self] at e
        cases e
        exact .inr ⟨rfl, rfl⟩
    have new : ∀ (i : Nat) A, Bs[i]? = some A → ∀ x ∈ A.own, x ∉ B'.own := fun i A e x hx z => by
      have hi : i < ks.length := by rw [← h.ll]; exact (List.getElem?_eq_some_iff.mp e).1
      exact (h.pls i A _ e (List.getElem?_eq_getElem hi)).nin (fr x z) hx
    rcases old i A e1 with ⟨_, z1⟩ | ⟨z1, rfl⟩
    · rcases old j B e2 with ⟨_, z2⟩ | ⟨_, rfl⟩
      · exact h.dis i j A B q z1 z2 x hx
      · exact new i A z1 x hx
    · rcases old j B e2 with ⟨_, z2⟩ | ⟨z2, _⟩
      · exact fun z => new j B z2 x z hx
      · exact absurd (z1.trans z2.symm) q
  · rcases List.mem_append.mp hB with hB | hB
    · exact h.dF B hB x hx
    · rw [List.mem_singleton.mp hB] at hx
      exact fun z => h.far.nin (fr x hx) z
  · rcases List.mem_append.mp hB with hB | hB
    · exact h.nB B hB
    · rw [List.mem_singleton.mp hB]
      exact ⟨nS', nG', nn h.eL, nn h.eL2⟩
end
end L2.K14
set_option Elab.async false
set_option linter.all false
set_option maxRecDepth 100000
set_option maxHeartbeats 4000000
set_option pp.maxSteps 600
/-! law -/
namespace L2.K14
open PySem PySem.Spec PyProof.Rows
def CalCK (P : Program) (w : World) (K : PySem.W.Frag) (mg : Str → Option Value) (base : Heap) (C : Addr) : Prop :=
  ∃ f fd g, FnOk P w K mg base CX0 13 f fd ["self", "memory", "program"] (sp_Plain_init C) ∧ Mk K C f ∧ mg "Plain" = some (.ref C) ∧ KBn K fd ["self", "memory", "program"] 1 ["program", "memory"] g fun vs zs => vs ++ zs.reverse
theorem PK.mono {X : Cx} {kws : List Keyword} {t : TA} (h : PK X kws t) : PK X kws (monoA t) := ⟨fun pos pins s σ H Q I q => by
  obtain ⟨Q0, q, i⟩ := q
  exact thn (h.run pos pins s σ H Q0 I q) fun us s' z => by
    obtain ⟨vs, H', I', r, q⟩ := z
    exact ⟨vs, H', I', r, i _ _ q⟩⟩
/-- Plain(program = .., memory = ..) -/
def tPlainK (C : Addr) (tk : TA) : TE := fun σ H Q => tk σ H fun zs H1 => ∃ u v m p, zs = [u, v] ∧ TD H1 v (memD m) ∧ TD H1 u (sheetD p) ∧ MemOk m ∧ SheetOk m.length p ∧
  ∀ (H' : Hp) (B : PlA), Kp [] H1 H' → (∀ b ∈ B.own, H1 b = none) → PlAt C H' B m p 0 → Q (.ref B.a) H'
theorem pplainK {X : Cx} {kws : List Keyword} {tk : TA} {C : Addr} {n : Nat} {p pos : Pos} (D : CalCK X.prog X.w X.K X.mg X.base C) (hr : Room n X.A) (hkw : PK X kws tk) (hk : 14 ≤ n := by decide) (hg : Gl X "Plain" := by rfl)
    (hall : (backToKw pos (keywordEach kws X.env)).all (·.1.isSome) = true := by rfl) (hks : (backToKw pos (keywordEach kws X.env)).filterMap (·.1) = [Str.ofString "program", Str.ofString "memory"] := by rfl)
    (hpl : ((backTo pos (starEach [] X.env)).any (·.1) || (backToKw pos (keywordEach kws X.env)).any (·.1.isNone)) = false := by rfl) :
    PE X (.Call (.Name "Plain" p) [] kws pos) (tPlainK C tk) := by
  obtain ⟨f, fd, g, F, M, hm, kb⟩ := D
  exact PE.imp (pe_makeK0 M F (hr.mono hk) hg hm kb pass0 (PK.mono hkw) hall hks (by decide) hpl) fun σ H Q q => ⟨_, q, fun zs H1 z => by
    obtain ⟨u, v, m, p, rfl, hv, hu, mok, sok, q⟩ := z
    exact ⟨rfl, rfl, plain_made hv hu mok sok q⟩⟩
theorem seq_cut {c : TT} {ta tb u : TS} {D : Ends} {r : VK} {b k : St → Hp → Prop} {σ : St} {H : Hp} {i : Nat} {v : V} (Pv : St → Hp → Prop) (hP : ∀ σ H, Pv σ H → u D σ H) (g : ∀ R : St → Hp → Prop, (∀ σ H, Pv σ H → R σ H) → tIfS c ta tb { D with nx := R } (σ.set i (some v)) H) : gName i v σ H (Ends.nx ⟨tSeq (tIfS c ta tb) u D, r, b, k⟩) := g (u D) hP
section
variable {P : Program} {w : World} {K : PySem.W.Frag} {mg : Str → Option Value} {base : Heap} {f : Addr} {fd : FuncData} {C : Addr}
abbrev N_law : List Str := ["_law_script", "_law_k", "_law_state", "_law_store_here", "_law_sheet_here", "_law_rows", "_law_some", "_law_fews", "_law_mate", "_law_page", "_law_lines", "_law_far", "_law_late", "_law_turn", "_law_which", "_law_one", "_law_few"]
theorem sc_law : FnScope N_law ["_law_script"] (defScope s_law) := ⟨rfl, rfl, rfl, by decide +kernel, rfl, by decide +kernel, by decide +kernel⟩
def sp_law (K : PySem.W.Frag) : Sp := fun vs H Q _ => ∃ (s : Addr) (ns : List Int), vs = [.ref s] ∧ SqL K H s (ns.map V.int) ∧ ∀ H', Q (.bl true) H'
theorem ok_law (T : Txt K mg) (cPlain : PlC K C) (F : Fd K "law" "law" s_law f fd) (MkPlain : CalC P w K mg base C 13 "Plain" ["self", "memory", "program"] (sp_Plain_init C)) (KPlain : CalCK P w K mg base C)
    (M_Plain_plain_twin : Met P w K mg base C 15 "plain_twin" ["self"] (sp_twin C)) (O_Plain_eq : OwM P w K mg base C 1 "__eq__" ["self", "other"] (sp_eq C))
    (D__law_begun : Cal P w K mg base 1 "_law_begun" ["_law_script", "_law_k"] (sp_begun K)) (D__law_store : Cal P w K mg base 4 "_law_store" ["_law_state"] sp_store) (D__law_sheet : Cal P w K mg base 8 "_law_sheet" ["_law_state", "_law_top", "_law_few"] sp_sheet)
    (D__law_run : Cal P w K mg base 4 "_law_run" ["_law_store_here", "_law_sheet_here"] sp_run) (D__law_take : Cal P w K mg base 2 "_law_take" ["_law_state", "_law_count"] sp_take)
    (D__law_gone_right : CalG P w K mg base 4 "_law_gone_right" ["_law_state", "_law_one", "_law_rows", "_law_few"] (sp_gone_right C)) (D__law_is_so : CalG P w K mg base 3 "_law_is_so" ["_law_one", "_law_store_here", "_law_rows", "_law_few"] (sp_is_so C))
    (D__law_others_right : Cal P w K mg base 15 "_law_others_right" ["_law_store_here", "_law_sheet_here", "_law_one"] (sp_others C)) :
    FnG P w K mg base CX0 16 f fd ["_law_script"] (sp_law K) := by
  refine FunD.okG F sc_law (fun vs H Q E h => ?_) (fun cdv AA gd outer s H vs Q E hr h => ?_)
  · obtain ⟨s, ns, rfl, _⟩ := h
    rfl
  · obtain ⟨sc, ns, rfl, hs, q⟩ := h
    refine ⟨_, PSs.nox (pss_cons (ps_for PassesOwn.never rfl (pi_range1 (by rfl) T.b_range (pa_cons (pe_callB (call_max2 rfl) (by rfl) T.b_max (by decide +kernel) (pa_cons pe_int (pa_cons (pe_callB (call_min2 rfl) (by rfl) T.b_min (by decide +kernel) (pa_cons pe_int (pa_cons (pe_callB call_len_seq (by rfl) T.b_len PySem.boot_len (pa_cons (pv 0) pa_nil)) pa_nil))) pa_nil))) pa_nil)) (pg_name (i := 1) sc_law.nd rfl (Or.inl rfl)) (pss_cons (ps_set (i := 2) sc_law.nd rfl (Or.inl rfl) (pc D__law_begun hr (pa_cons (pv 0) (pa_cons (pv 1) pa_nil))))
      (pss_cons (ps_set (i := 3) sc_law.nd rfl (Or.inl rfl) (pc D__law_store hr (pa_cons (pv 2) pa_nil)))
      (pss_cons (ps_set (i := 4) sc_law.nd rfl (Or.inl rfl) (pc D__law_sheet hr (pa_cons (pv 2) (pa_cons (pe_callB call_len_seq (by rfl) T.b_len PySem.boot_len (pa_cons (pv 3) pa_nil)) (pa_cons pe_int pa_nil)))))
      (pss_cons (ps_set (i := 5) sc_law.nd rfl (Or.inl rfl) (pe_dget (hu_of hr) (pc D__law_run hr (pa_cons (pv 3) (pa_cons (pv 4) pa_nil))) pe_str (fun _ _ => rfl)))
      (pss_cons (ps_par (i := 6) (j := 7) rfl sc_law.nd rfl rfl (by decide) rfl rfl (pa_cons (pe_lstK (pa_cons (pplainK KPlain hr (pk_cons (pv 4) (pk_cons (pv 3) pk_nil))) pa_nil)) (pa_cons (pe_lstK (pa_cons pe_int pa_nil)) pa_nil)) (by rfl))
      (pss_cons (ps_set (i := 8) sc_law.nd rfl (Or.inl rfl) (pc D__law_store hr (pa_cons (pv 2) pa_nil)))
      (pss_cons (ps_set (i := 9) sc_law.nd rfl (Or.inl rfl) (pc D__law_sheet hr (pa_cons (pv 2) (pa_cons (pe_callB call_len_seq (by rfl) T.b_len PySem.boot_len (pa_cons (pv 8) pa_nil)) (pa_cons pe_int pa_nil)))))
      (pss_cons (ps_par3 (i := 10) (j := 11) (l := 12) rfl sc_law.nd rfl rfl rfl (by decide) (by decide) (by decide) rfl rfl rfl (pa_cons (pe_dget (hu_of hr) (pc D__law_run hr (pa_cons (pv 8) (pa_cons (pv 9) pa_nil))) pe_str (fun _ _ => rfl)) (pa_cons (pplain MkPlain hr (pa_cons (pv 8) (pa_cons (pv 9) pa_nil))) (pa_cons pe_int pa_nil))) (by rfl))
      (pss_cons (ps_for PassesOwn.never rfl (pi_range1 (by rfl) T.b_range (pa_cons pe_int pa_nil)) (pg_name (i := 13) sc_law.nd rfl (Or.inl rfl)) (pss_cons (ps_set (i := 14) sc_law.nd rfl (Or.inl rfl) (pc D__law_take hr (pa_cons (pv 2) (pa_cons (pe_callB call_len_seq (by rfl) T.b_len PySem.boot_len (pa_cons (pv 6) pa_nil)) pa_nil))))
      (pss_cons (ps_if (PW.pt (pw_and (pt_cmpR op_eq (pc D__law_take hr (pa_cons (pv 2) (pa_cons pe_int pa_nil))) pe_int (nomark _)) (pw_and1 (pt_cmpR op_lt (pe_callB call_len_seq (by rfl) T.b_len PySem.boot_len (pa_cons (pv 6) pa_nil)) pe_int (nomark _))))) (pss_cons (ps_expr (pe_bm PySem.F.plainAttrs_list PySem.F.slot_list_append PySem.F.type_list_append mt_append (pv 6) (pa_cons (pm0 (pe_ix ix_list (pv 6) (pv 14) (fun _ _ => rfl)) cPlain.cls M_Plain_plain_twin hr) pa_nil)))
      (pss_one (ps_expr (pe_bm PySem.F.plainAttrs_list PySem.F.slot_list_append PySem.F.type_list_append mt_append (pv 7) (pa_cons (pe_ix ix_list (pv 7) (pv 14) (fun _ _ => rfl)) pa_nil))))) pss_nil)
      (pss_cons (ps_asg (pcG D__law_gone_right gd hr (pa_cons (pv 2) (pa_cons (pe_ix ix_list (pv 6) (pv 14) (fun _ _ => rfl)) (pa_cons (pv 5) (pa_cons (pe_ix ix_list (pv 7) (pv 14) (fun _ _ => rfl)) pa_nil))))) (pg_sub (pv 7) (pv 14) set_list))
      (pss_cons (ps_set (i := 12) sc_law.nd rfl (Or.inl rfl) (pcG D__law_gone_right gd hr (pa_cons (pv 2) (pa_cons (pv 11) (pa_cons (pv 10) (pa_cons (pv 12) pa_nil))))))
      (pss_cons (ps_if (PW.pt (pw_or (pt_cmpR op_isN (pe_ix ix_list (pv 7) (pv 14) (fun _ _ => rfl)) pe_non (nomark _)) (pw_or (pt_cmpR op_isN (pv 12) pe_non (nomark _)) (pw_or1 (pt_not (pt_val (pcG D__law_is_so gd hr (pa_cons (pv 11) (pa_cons (pv 8) (pa_cons (pv 10) (pa_cons (pv 12) pa_nil))))))))))) (pss_one (ps_ret pe_bl)) pss_nil)
      (pss_one (ps_for PassesOwn.never rfl (RZ.pi_zipA (by rfl) T.b_zip (pa_cons (pv 6) (pa_cons (pv 7) pa_nil))) (pg_tup rfl (pgs_cons (pg_name (i := 15) sc_law.nd rfl (Or.inl rfl)) (pgs_cons (pg_name (i := 16) sc_law.nd rfl (Or.inl rfl)) pgs_nil))) (pss_one (ps_if (PW.pt (pw_or (pt_not (pt_val (pcG D__law_is_so gd hr (pa_cons (pv 15) (pa_cons (pv 3) (pa_cons (pv 5) (pa_cons (pv 16) pa_nil))))))) (pw_or1 (pt_cmpR op_ne (pe_cmpR (op_eqOw O_Plain_eq hr) (pv 15) (pe_ix ix_list (pv 6) (pv 14) (fun _ _ => rfl)) (nomark _)) (pe_cmpR op_eq (pv 16) (pe_ix ix_list (pv 7) (pv 14) (fun _ _ => rfl)) (nomark _)) (nomark _))))) (pss_one (ps_ret pe_bl)) pss_nil))))))))))
      (pss_one (ps_if (pt_not (pt_val (pc D__law_others_right hr (pa_cons (pv 3) (pa_cons (pv 4) (pa_cons (pe_ix ix_list (pv 6) pe_int (fun _ _ => rfl)) pa_nil)))))) (pss_one (ps_ret pe_bl)) pss_nil))))))))))))
      (pss_one (ps_ret pe_bl))), ?_⟩
    refine ⟨_, rfl, sc, _, rfl, .inl hs, _, _, rfl, _, _, rfl, _, rfl, ?_, ?_, ?_⟩
    · split <;> split <;> omega
    · split <;> split <;> omega
    generalize hB : (if (if (((ns.map V.int).length : Nat) : Int) < 8 then (((ns.map V.int).length : Nat) : Int) else 8) > 1 then (if (((ns.map V.int).length : Nat) : Int) < 8 then (((ns.map V.int).length : Nat) : Int) else 8) else 1) = B
    have hB8 : B ≤ 8 := by rw [← hB]; split <;> split <;> omega
    refine for_it (walk_rg (n := B.toNat)) (fun i σ H' => Kp [] H H' ∧ ∃ v1 v2 v3 v4 v5 v6 v7 v8 v9 v10 v11 v12 v13 v14 v15 v16, σ = [some (.ref sc), v1, v2, v3, v4, v5, v6, v7, v8, v9, v10, v11, v12, v13, v14, v15, v16]) ⟨Kp.refl _, none, none, none, none, none, none, none, none, none, none, none, none, none, none, none, none, rfl⟩ (fun i σ H' _ h => trivial) (fun i x σ H0 H1 hi h y => ?_) (fun σ H1 h => q H1)
    obtain ⟨k0, v1, v2, v3, v4, v5, v6, v7, v8, v9, v10, v11, v12, v13, v14, v15, v16, rfl⟩ := h
    obtain ⟨rfl, rfl⟩ := y
    refine ⟨_, rfl, _, rfl, sc, i, ns, rfl, k0.seqL hs, by omega, fun H1 d k1 nd st => ?_⟩
    refine ⟨_, rfl, d, 1000, rfl, st, by omega, fun m mok m8 H2 v2 k2 tv st2 => ?_⟩
    obtain ⟨a, rfl, ha⟩ := tv.mem
    have m40 := mok.l40
    refine ⟨_, rfl, _, rfl, a, _, rfl, .inr (SqT.of ha), d, m.length, 1004, by simp, st2, m8, m40, by omega, fun p sok p5 H3 u3 k3 tu st3 => ?_⟩
    have tv3 := tv.kp k3
    refine ⟨_, rfl, _, rfl, .ref a, u3, m, p, rfl, tv3, tu, by omega, m40, sok, fun H4 ra R rvs k4 nR gR eR tR => ⟨ra, _, rfl, gR, ?_⟩⟩
    refine ⟨_, rfl, _, rfl, u3, .ref a, m, p, rfl, tv3.kp k4, tu.kp k4, mok, sok, fun H5 B0 k5 fB plB => ⟨sz 1, fun S H6 k6 nS eS => ⟨sz 1, fun G H7 k7 nG eG => ⟨_, _, rfl, ?_⟩⟩⟩⟩
    have k37 := ((k4.trans k5).trans k6).trans k7
    have st7 := st3.kp0 k37
    refine ⟨_, rfl, d, 1404, rfl, st7, by omega, fun m2 mok2 m28 H8 v8 k8 tv2 st8 => ?_⟩
    obtain ⟨a2, rfl, ha2⟩ := tv2.mem
    have m240 := mok2.l40
    refine ⟨_, rfl, _, rfl, a2, _, rfl, .inr (SqT.of ha2), d, m2.length, 1408, by simp, st8, m28, m240, by omega, fun p2 sok2 p25 H9 u9 k9 tu2 st9 => ?_⟩
    have tv29 := tv2.kp k9
    refine ⟨_, rfl, _, rfl, .ref a2, u9, m2, p2, rfl, tv29, tu2, by omega, m240, sok2, fun HA ra2 R2 rvs2 kA nR2 gR2 eR2 tR2 => ⟨ra2, _, rfl, gR2, ?_⟩⟩
    refine ⟨_, rfl, _, rfl, .ref a2, u9, m2, p2, rfl, tv29.kp kA, tu2.kp kA, mok2, sok2, fun HB F kB fF plF => ⟨_, _, _, rfl, ?_⟩⟩
    have Hd : H d = none := k0.free nd
    have kd4 : Kp [d] H H4 := ((((k0.trans k1).any).trans k2).trans k3).trans k4.any
    have st4 := st3.kp0 k4
    have kd5 := kd4.trans k5.any
    have st5 := st4.kp0 k5
    have kd6 := kd5.trans k6.any
    have st6 := st5.kp0 k6
    have kd9 := ((kd6.trans k7.any).trans k8).trans k9
    have kdA := kd9.trans kA.any
    have stA := st9.kp0 kA
    have stB := stA.kp0 kB
    have fre : ∀ {x : Addr} {Hx : Hp} {n : Nat}, Kp [d] H Hx → StAt Hx d n → Hx x = none → H x = none := fun {x Hx n} k st e => by
      cases e2 : H x with
      | none => rfl
      | some o =>
        have := k.keep _ _ e2 (by simp [st.some e])
        rw [e] at this
        cases this
    have k4B := (((k5.trans k6).trans k7).any.trans k8).trans (k9.trans ((kA.trans kB).any))
    have k6B : Kp [d] H6 HB := (k7.any.trans k8).trans (k9.trans ((kA.trans kB).any))
    have k7B' : Kp [d] H7 HB := k8.trans (k9.trans ((kA.trans kB).any))
    have eSB := k6B.keep _ _ eS (by simp [st_neL st6 eS])
    have eGB := k7B'.keep _ _ eG (by simp [st_neL st7 eG])
    have eRB := k4B.keep _ _ eR (by simp [st_neL st4 eR])
    have eR2B := kB.same _ _ eR2
    have plB5 := plB.kp0 k6
    have plB7 := plB5.kp0 k7
    have plBB := plB7.kp k7B' (fun b hb z => st7.nin plB7 (by rw [← List.mem_singleton.mp z]; exact hb))
    have rne : ∀ {Hx : Hp} {x y : Addr} {o : HO}, Hx x = some o → Hx y = none → x ≠ y := fun e n z => by rw [z, n] at e; cases e
    have eR5 := k5.same _ _ eR
    have eR6 := k6.same _ _ eR5
    have kd69 : Kp [d] H6 H9 := (k7.any.trans k8).trans k9
    have eS9 := kd69.keep _ _ eS (by simp [st_neL st6 eS])
    have eG9 := (k8.trans k9).keep _ _ eG (by simp [st_neL st7 eG])
    have plB9 := plB7.kp (k8.trans k9) (fun b hb z => st7.nin plB7 (by rw [← List.mem_singleton.mp z]; exact hb))
    have hLw : LwAt C H HB HB d S G R R2 F m p m2 p2 rvs rvs2 1900 [B0] [0] 0 := {
      k0 := Kp.dropAll (kdA.trans kB.any) (fun x hx => by rw [List.mem_singleton.mp hx]; exact Hd)
      tp := fun b xs e => e
      fd := Hd
      fS := fre kd5 st5 nS
      fG := fre kd6 st6 nG
      fF := fun x hx => fre kdA stA (fF x hx)
      fB := fun B hB x hx => by rw [List.mem_singleton.mp hB] at hx; exact fre kd4 st4 (fB x hx)
      st := stB.up (by omega)
      eS := eSB
      eG := eGB
      eL := eRB
      tL := tR.kp k4B
      eL2 := eR2B
      tL2 := tR2.kp kB
      far := plF
      ll := rfl
      l1 := Nat.le_refl 1
      l4 := (by decide : (1 : Nat) ≤ 4)
      pls := fun j B k e1 e2 => by
        match j, e1, e2 with
        | 0, e1, e2 => cases e1; cases e2; exact plBB
        | j + 1, e1, _ => cases e1
      dis := fun i j A B q e1 e2 => by
        match i, j, q, e1, e2 with
        | 0, 0, q, _, _ => exact absurd rfl q
        | i + 1, _, _, e1, _ => cases e1
        | 0, j + 1, _, _, e2 => cases e2
      dF := fun B hB x hx z => by
        rw [List.mem_singleton.mp hB] at hx
        exact (plB9.kp0 kA).nin (fF x z) hx
      nF := ⟨fun z => rne (kA.same _ _ eS9) (fF _ z) rfl, fun z => rne (kA.same _ _ eG9) (fF _ z) rfl, fun z => rne (kA.same _ _ ((kd69.keep _ _ eR6 (by simp [st_neL st6 eR6])))) (fF _ z) rfl, fun z => rne eR2 (fF _ z) rfl⟩
      nB := fun B hB => by
        rw [List.mem_singleton.mp hB]
        exact ⟨plB.nin nS, plB5.nin nG, fun z => rne eR (fB _ z) rfl, fun z => plB9.nin nR2 z⟩
      ne := ⟨rne eS nG, rne eR5 nS, rne eR6 nG, (rne eS9 nR2).symm, (rne eG9 nR2).symm⟩ }
    have k7B := ((k8.trans k9).trans kA.any).trans kB.any
    have tvB : TD HB (.ref a) (memD m) := (tv3.kp k37).kp k7B
    have tuB : TD HB u3 (sheetD p) := (tu.kp k37).kp k7B
    have tv2B : TD HB (.ref a2) (memD m2) := (tv29.kp kA).kp kB
    refine ⟨_, rfl, by decide, by decide, for_it (walk_rg (n := (14 : Int).toNat)) (fun i2 σ H' => ∃ (N : Nat) (Bs : List PlA) (ks : List Nat) (kf : Nat), N ≤ 1900 + 20 * i2 ∧ LwAt C H HB H' d S G R R2 F m p m2 p2 rvs rvs2 N Bs ks kf ∧
      ∃ w1 w2 w3 w4, σ = [some (.ref sc), some (vi i), some (.ref d), some (.ref a), some u3, some (.ref R), some (.ref S), some (.ref G), some (.ref a2), some u9, some (.ref R2), some (.ref F.a), some (vi kf), w1, w2, w3, w4]) ⟨1900, [B0], [0], 0, by omega, hLw, v13, v14, v15, v16, rfl⟩ (fun i2 σ H' _ h => trivial) (fun i2 x σ HC HD hi2 h y => ?_) (fun σ HD h => ?_)⟩
    · obtain ⟨N, Bs, ks, kf, hN, lw, w1, w2, w3, w4, rfl⟩ := h
      obtain ⟨rfl, rfl⟩ := y
      have hb0 : 0 < Bs.length := lw.l1
      have hb4 := lw.l4
      refine ⟨_, rfl, _, rfl, S, _, rfl, .inl (SqL.of lw.eS), d, (Bs.map fun B => V.ref B.a).length, N, rfl, lw.st, by simp; omega, by simp; omega, by omega, fun w hw HE kE stE => ?_⟩
      rw [List.length_map] at hw
      have lw1 := lw.draw kE stE
      have eb : Bs[w]? = some Bs[w] := List.getElem?_eq_getElem hw
      have hkw : w < ks.length := by rw [← lw.ll]; exact hw
      have ek : ks[w]? = some ks[w] := List.getElem?_eq_getElem hkw
      refine seq_cut (fun σ H' => ∃ (N' : Nat) (Bs' : List PlA) (ks' : List Nat), N' ≤ N + 2 ∧ w < Bs'.length ∧ LwAt C H HB H' d S G R R2 F m p m2 p2 rvs rvs2 N' Bs' ks' kf ∧ σ = [some (.ref sc), some (vi i), some (.ref d), some (.ref a), some u3, some (.ref R), some (.ref S), some (.ref G), some (.ref a2), some u9, some (.ref R2), some (.ref F.a), some (vi kf), some (vi i2), some (vi w), w3, w4]) (fun σ H' hv => ?_) (fun Rr hR => ?_)
      · obtain ⟨N', Bs', ks', hN', hw', lw', rfl⟩ := hv
        have eb' : Bs'[w]? = some Bs'[w] := List.getElem?_eq_getElem hw'
        have hkw' : w < ks'.length := by rw [← lw'.ll]; exact hw'
        have ek' : ks'[w]? = some ks'[w] := List.getElem?_eq_getElem hkw'
        have gk' : (nums ks')[w]? = some (vi ks'[w]) := by unfold nums; rw [List.getElem?_map, ek']; rfl
        have plw := lw'.pls w _ _ eb' ek'
        refine ⟨_, rfl, _, rfl, _, rfl, S, _, _, _, rfl, rfl, SqL.of lw'.eS, atN rfl (by rw [List.getElem?_map, eb']; rfl), _, rfl, _, rfl, _, rfl, G, _, _, _, rfl, rfl, SqL.of lw'.eG, atN rfl gk', Bs'[w], m, p, ks'[w], d, R, rvs, N', rfl, plw, m40, lw'.st, by omega, (lw'.nB _ (List.getElem_mem hw')).2.2.1, lw'.eL, lw'.tL, fun H2 k2 kk pl2 st2 => ?_⟩
        obtain ⟨eG2, lw2⟩ := lw'.goB eb' kk pl2 st2
        refine ⟨_, rfl, _, rfl, G, _, _, w, rfl, rfl, eG2, ixN_of (by rw [nums_len]; exact hkw'), ?_⟩
        rw [nums_set]
        refine ⟨_, rfl, _, rfl, _, rfl, _, rfl, F, m2, p2, kf, d, R2, rvs2, _, rfl, lw2.far, m240, lw2.st, by omega, lw2.nF.2.2.2, lw2.eL2, lw2.tL2, fun H3 k3 kk3 pl3 st3 => ?_⟩
        have lw3 := lw2.goF kk3 pl3 st3
        have gk3 : (nums (ks'.set w k2))[w]? = some (vi k2) := by unfold nums; rw [List.getElem?_map, List.getElem?_set_self hkw']; rfl
        have non : ∀ n : Nat, decide (vi n = V.non) = false := fun n => decide_eq_false fun z => nomatch z
        refine ⟨_, rfl, _, rfl, G, _, _, _, rfl, rfl, SqL.of lw3.eG, atN rfl gk3, rfl, _, rfl, iteBF (non _) ⟨_, rfl, rfl, _, rfl, iteBF (non _) ⟨_, rfl, _, rfl, _, rfl, _, rfl, F, m2, p2, k3, .ref a2, R2, rvs2, rfl, lw3.far, m240, tv2B.mono lw3.tp, lw3.eL2, lw3.tL2, fun H4 k4 => ?_⟩⟩⟩
        have lw4 := lw3.kp0 k4
        refine ⟨_, rfl, iteBF rfl ⟨_, rfl, _, rfl, S, G, _, _, rfl, .inl ⟨SqL.of lw4.eS, SqL.of lw4.eG, RZ.for_zipL (by rw [List.length_map, nums_len, ← lw4.ll]) (fun i3 σ H' => LwAt C H HB H' d S G R R2 F m p m2 p2 rvs rvs2 (N' + 4 + 4) Bs' (ks'.set w k2) k3 ∧ ∃ w5 w6, σ = [some (.ref sc), some (vi i), some (.ref d), some (.ref a), some u3, some (.ref R), some (.ref S), some (.ref G), some (.ref a2), some u9, some (.ref R2), some (.ref F.a), some (vi k3), some (vi i2), some (vi w), w5, w6])
          ⟨lw4, _, _, rfl⟩ (fun i3 σ H' h => ⟨SqL.of h.1.eS, SqL.of h.1.eG⟩) (fun i3 x y T σ H5 hx hy h nT => ?_) (fun σ H5 h => ?_)⟩⟩⟩
        · obtain ⟨lw5, w5, w6, rfl⟩ := h
          rw [List.getElem?_map] at hx
          unfold nums at hy
          rw [List.getElem?_map] at hy
          obtain ⟨B, eB, rfl⟩ := Option.map_eq_some_iff.mp hx
          obtain ⟨kb, ekb, rfl⟩ := Option.map_eq_some_iff.mp hy
          have lw6 := lw5.kp0 (Kp.new (o := .tup [.ref B.a, vi kb]) nT)
          have plb := lw6.pls i3 B kb eB ekb
          have ew : (ks'.set w k2)[w]? = some k2 := List.getElem?_set_self hkw'
          refine ⟨T, _, rfl, SqT.of upd_same, rfl, _, _, rfl, _, _, rfl, rfl, ?_⟩
          refine ⟨_, rfl, _, rfl, _, rfl, _, rfl, B, m, p, kb, .ref a, R, rvs, rfl, plb, m40, tvB.mono lw6.tp, lw6.eL, lw6.tL, fun H7 k7 => ⟨_, rfl, iteBF rfl ?_⟩⟩
          have lw7 := lw6.kp0 k7
          have plb7 := plb.kp0 k7
          have plw7 := lw7.pls w _ _ eb' ew
          refine ⟨_, rfl, _, rfl, _, rfl, S, _, _, _, rfl, rfl, SqL.of lw7.eS, atN rfl (by rw [List.getElem?_map, eb']; rfl), B.a, _, _, rfl, plb7.ins, notFirst_ins plw7.ins, B, m, p, kb, .ref Bs'[w].a, rfl, plb7, .inl ⟨Bs'[w], m, p, k2, rfl, plw7, _, rfl, ?_⟩⟩
          refine ⟨_, rfl, _, rfl, _, rfl, G, _, _, _, rfl, rfl, SqL.of lw7.eG, atN rfl gk3, rfl, rfl, _, rfl, iteBF ?_ ⟨lw7, _, _, rfl⟩⟩
          rw [eqv_pair, SeqAt.eqv_refl _ (shp_mem m).1, SeqAt.eqv_refl _ (shp_sheet p).1]
          by_cases z : kb = k2
          · subst z
            simp
          · have z2 : ¬ V.int (kb : Int) = V.int (k2 : Int) := fun q => z (by injection q with q; omega)
            simp [z, z2]
        · obtain ⟨lw5, w5, w6, rfl⟩ := h
          exact ⟨_, _, _, _, by omega, lw5, _, _, _, _, rfl⟩
      · refine ⟨_, rfl, d, 5, N + 1, rfl, lw1.st, by decide, by decide, by omega, fun z hz HF kF stF => ⟨rfl, _, rfl, ?_⟩⟩
        have lw2 := lw1.draw kF stF
        have skip : Rr _ HF := hR _ HF ⟨N + 2, Bs, ks, Nat.le_refl _, hw, lw2, rfl⟩
        by_cases z0 : V.int (z : Int) = V.int 0
        · refine iteDT z0 ⟨_, rfl, S, _, rfl, .inl (SqL.of lw2.eS), _, _, rfl, rfl, _, rfl, ?_⟩
          rw [List.length_map]
          by_cases h4 : Bs.length < 4
          · have plw := lw2.pls w _ _ eb ek
            refine iteDT (by omega) ⟨_, rfl, .inl ⟨rfl, _, SqL.of lw2.eS⟩, _, rfl, _, rfl, S, _, _, _, rfl, rfl, SqL.of lw2.eS, atN rfl (by rw [List.getElem?_map, eb]; rfl), Bs[w].a, _, _, rfl, plw.ins, rfl, Bs[w], m, p, ks[w], rfl, plw, fun HG B' kG fr plB' => ?_⟩
            obtain ⟨eS', eG', lw3⟩ := lw2.twin (B := B0) h4 ek kG fr plB'
            have hmap : (Bs.map fun B => V.ref B.a) ++ [.ref B'.a] = (Bs ++ [B']).map fun B => V.ref B.a := by simp
            refine ⟨S, _, _, rfl, rfl, eS', Nat.lt_of_le_of_lt (show (Bs.map fun B => V.ref B.a).length ≤ 4 by rw [List.length_map]; omega) (by decide), ?_⟩
            rw [hmap]
            have gk : (nums ks)[w]? = some (vi ks[w]) := by unfold nums; rw [List.getElem?_map, ek]; rfl
            refine ⟨_, rfl, .inl ⟨rfl, _, SqL.of eG'⟩, _, rfl, _, rfl, G, _, _, _, rfl, rfl, SqL.of eG', atN rfl gk, G, _, _, rfl, rfl, eG', Nat.lt_of_le_of_lt (show (nums ks).length ≤ 4 by rw [nums_len, ← lw.ll]; omega) (by decide), ?_⟩
            have hnum : nums ks ++ [vi ks[w]] = nums (ks ++ [ks[w]]) := (nums_app ks [ks[w]]).symm
            rw [hnum]
            exact hR _ _ ⟨N + 2, _, _, Nat.le_refl _, by simp; omega, lw3, rfl⟩
          · exact iteDF (by omega) skip
        · exact iteDF z0 skip
    · obtain ⟨N, Bs, ks, kf, hN, lw, w1, w2, w3, w4, rfl⟩ := h
      have hb0 : 0 < Bs.length := lw.l1
      have hk0 : 0 < ks.length := by rw [← lw.ll]; exact hb0
      have eb : Bs[0]? = some Bs[0] := List.getElem?_eq_getElem hb0
      have plD := lw.pls 0 _ _ eb (List.getElem?_eq_getElem hk0)
      refine ⟨_, rfl, _, rfl, _, rfl, S, _, 0, _, rfl, rfl, SqL.of lw.eS, atN (n := 0) rfl (by rw [List.getElem?_map, eb]; rfl), Bs[0], m, p, ks[0], .ref a, u3, rfl, plD, tvB.mono lw.tp, tuB.mono lw.tp, m8, m40, p5, fun HE kE => ?_⟩
      refine ⟨_, rfl, iteBF rfl ⟨lw.k0.trans kE, _, _, _, _, _, _, _, _, _, _, _, _, _, _, _, _, rfl⟩⟩
end
end L2.K14
set_option Elab.async false
set_option linter.all false
set_option maxRecDepth 100000
set_option maxHeartbeats 4000000
/-! the law is called; facts of the head -/
namespace L2.K14
open PySem PySem.Spec PyProof.Rows
/-- the heap in which nothing but the script is known -/
def scr (K : PySem.W.Frag) (a : Addr) (o : Obj) (xs : List V) : Hp := fun b => if b = a ∧ K.lookup b = none then some (.frz o (.lst xs)) else none
theorem scr_inv {K : PySem.W.Frag} {a b : Addr} {o : Obj} {xs : List V} {u : HO} (h : scr K a o xs b = some u) : b = a ∧ K.lookup a = none ∧ u = .frz o (.lst xs) := by
  unfold scr at h
  split at h
  · rename_i q
    obtain ⟨rfl, q⟩ := q
    exact ⟨rfl, q, (Option.some.inj h).symm⟩
  · cases h
theorem scr_cases (K : PySem.W.Frag) (a b : Addr) (o : Obj) (xs : List V) : scr K a o xs b = none ∨ (b = a ∧ K.lookup a = none ∧ scr K a o xs b = some (.frz o (.lst xs))) := by
  cases q : scr K a o xs b with
  | none => exact .inl rfl
  | some u =>
    obtain ⟨h1, h2, rfl⟩ := scr_inv q
    exact .inr ⟨h1, h2, rfl⟩
section
variable {P : Program} {w : World} {K : PySem.W.Frag} {mg mb : Str → Option Value} {k : Nat} {fa a : Addr} {fd : FuncData} {x : Str} {sp : Sp} {s₁ : Shared} {vs : List Value} {ns : List Int}
theorem law_callG (inK : K.In s₁.heap) (glob : s₁.heap.Ns mainGlobals mg) (bltn : s₁.heap.Ns builtinsNs mb) (boot : ∀ y : Str, y ≠ "__name__" → mb y = bootBuiltins y) (lim : s₁.heap.NoLimit) (idle : s₁.gens = #[])
    (lies : s₁.heap.get? a = some { cls := .type "list", data := .seq vs.toArray }) (allI : IntsAre vs ns) (few : ns.length ≤ sizeLine) (room : Room k callerA)
    (F : ∀ base : Heap, K.In base → base.Ns mainGlobals mg → FnG P w K mg base CX0 k fa fd [x] sp) (bnd : ∀ (s : Shared) (u : Value), BindsTo s fd ⟨[u], []⟩ [(x, u)])
    (told : ∀ H : Hp, SqL K H a (ns.map V.int) → sp [.ref a] H (fun v _ => v = .bl true) fun _ _ _ => False) :
    codeAny (model P w) callerA (.call (.ref fa) ⟨[.ref a], []⟩) (fun r s' => r = .ok (.ret (.bool true)) ∧ OldK s₁.heap s'.heap ∧ s'.os = s₁.os ∧ AllBare s'.gens) s₁ := by
  have rel := vals_ints allI
  have short : vs.length ≤ sizeLine := by rw [allI.length]; exact few
  let o0 : Obj := { cls := .type "list", data := .seq vs.toArray }
  have seq : SqL K (scr K a o0 (ns.map V.int)) a (ns.map V.int) := by
    cases q : K.lookup a with
    | none => exact .inl (.inr ⟨o0, if_pos ⟨rfl, q⟩⟩)
    | some o =>
      obtain rfl : o0 = o := Option.some.inj (lies.symm.trans (inK a o q))
      exact .inr ⟨o0, vs.toArray, _, q, rfl, rfl, rfl, by rw [List.size_toArray]; exact short, by simpa using rel⟩
  have held : HOk P w (scr K a o0 (ns.map V.int)) s₁.heap := fun b u e => by
    obtain ⟨rfl, _, rfl⟩ := scr_inv e
    exact ⟨lies, by rw [List.length_map]; exact few, vs, _, rel, lies⟩
  have cas := fun b => scr_cases K a b o0 (ns.map V.int)
  revert seq held cas
  generalize scr K a o0 (ns.map V.int) = H
  intro seq held cas
  have off : ∀ {b : Addr} {o : Obj}, s₁.heap.get? b = some o → (b = a → K.lookup a = none → False) → (hidT s₁.heap H).get? b = some o := fun {b o} e n => by
    rcases cas b with z | ⟨z, z2, _⟩
    · exact hidT_get e z
    · exact (n z z2).elim
  have space : ∀ {b : Addr} {m : Str → Option Value}, s₁.heap.Ns b m → (hidT s₁.heap H).Ns b m := fun {b m} n => by
    obtain ⟨o, es, ep, e, dt, r⟩ := n
    refine ⟨o, es, ep, off e fun z _ => ?_, dt, r⟩
    rw [z, lies] at e
    cases e
    exact nomatch dt
  have inB : K.In (hidT s₁.heap H) := fun b o e => off (inK b o e) fun z n => by
    rw [z, n] at e
    cases e
  obtain ⟨mc, l1, l2⟩ := lim
  have around : Env0 P w K mg (hidT s₁.heap H) callerA [] s₁ H := {
    frames := rfl
    mod := ⟨inB, space glob, ⟨mb, space bltn, boot⟩, mc, space l1, l2⟩
    bs := fun _ _ e => of_hidT e
    bsz := by rw [hidT_size]; exact Nat.le_refl _
    funs := trivial
    frf := fun _ z => nomatch z
    hok := held
    bare := .of_eq idle }
  have ran := (F (hidT s₁.heap H) inB (space glob)).run callerA rfl [] s₁ H ⟨[.ref a], []⟩ [.ref a] [.ref a] (fun v _ => v = .bl true) (fun _ _ _ => False) room around (bnd s₁ _) (.cons rfl .nil) (told H seq)
  refine codeAny_mono ran fun r s' done => ?_
  match r, done with
  | .ok (.ret u), ⟨v, H', os, bare, un, held', ru, q⟩ =>
    subst q
    cases (show u = Value.bool true from ru)
    refine ⟨rfl, .of_keep fun b o e => ?_, os, bare⟩
    rcases cas b with z | ⟨rfl, _, z⟩
    · exact un.keep b o e z (fun m => nomatch m) (fun m => nomatch m)
    · obtain rfl : o0 = o := Option.some.inj (lies.symm.trans e)
      exact (held' _ _ (un.frzs _ _ _ z)).1
end
end L2.K14
set_option Elab.async false
set_option linter.all false
set_option maxRecDepth 100000
set_option maxHeartbeats 4000000
/-! the dicts of forms, as the top has written them -/
namespace L2.K14
open PySem PySem.Spec PyProof.Rows
theorem step_eq : stepForms = stepF.map fun q => ((.inr q.1 : Key), V.str q.2) := rfl
theorem deed_eq : deedForms = deedF.map fun q => ((.inr q.1 : Key), V.str q.2) := rfl
section
variable {P : Program} {w : World} {K : PySem.W.Frag} {mg : Str → Option Value} {base : Heap}
theorem ent_pairs : ∀ {es : List DictEntry} {kvs : List (Str × Str)}, entB es kvs = true → ∃ vs : List (Key × Value), KV (kvs.map fun q => ((.inr q.1 : Key), V.str q.2)) vs ∧ Pairs (mixKind P w) es vs ∧ vs.map (·.1) = kvs.map fun q => (.inr q.1 : Key)
  | [], [], _ => ⟨[], .nil, .nil, rfl⟩
  | [], _ :: _, h => by cases h
  | _ :: _, [], h => by cases h
  | e :: es, q :: qs, h => by
    obtain ⟨h1, h⟩ := He.ba (show ((match e.key with
      | .str x _ => decide (x = q.1)
      | _ => false) && (He.relB (.str q.2) e.val && entB es qs)) = true from h)
    obtain ⟨h2, h3⟩ := He.ba h
    obtain ⟨vs, v1, v2, v3⟩ := ent_pairs h3
    have hk : keyIs (.inr q.1) e.key = true := by
      revert h1
      cases e.key with
      | str x t =>
        intro h1
        have h4 : x = q.1 := of_decide_eq_true h1
        rw [h4]
        exact keyIs_str q.1 t
      | _ => intro h1; cases h1
    exact ⟨(.inr q.1, e.val) :: vs, .cons ⟨rfl, He.relB_ok h2⟩ v1, .cons hk rfl v2, by rw [List.map_cons, List.map_cons, v3]⟩
theorem form_ok {x : Str} {kvs : List (Str × Str)} (hf : formB K x kvs = true) (ht : He.dicW K (He.ga K x) = some (He.keysIn w.params (kvs.map (·.1)))) (hn : ((kvs.map fun q => (.inr q.1 : Key))).Nodup) (hl : kvs.length ≤ 1000) (hm : mg x = some (.ref (He.ga K x))) :
    KForm P w K mg x (kvs.map fun q => ((.inr q.1 : Key), V.str q.2)) := by
  obtain ⟨es, n, D⟩ := He.dicW_ok ht
  refine ⟨He.ga K x, ⟨_, hm, rfl⟩, fun h X H => ?_⟩
  unfold formB at hf
  rw [D.at_] at hf
  obtain ⟨_, hf⟩ := He.ba (show (decide ("dict" = "dict") && ((#[] : Array (Option Value)).isEmpty && (!(He.ga K x == sysModules) && entB es.toList kvs))) = true from hf)
  obtain ⟨_, hf⟩ := He.ba hf
  obtain ⟨_, hf⟩ := He.ba hf
  obtain ⟨vs, v1, v2, v3⟩ := ent_pairs (P := P) (w := w) hf
  refine ⟨by rw [List.length_map]; exact Nat.le_trans hl (by decide), D.low, vs, v1, _, es, n, X _ _ D.at_, ⟨rfl, rfl, rfl⟩, rfl, fun e he => ?_, v2, by rw [v3]; exact hn⟩
  obtain ⟨y, t, e1, e2⟩ := D.lit.all e (Array.mem_toList_iff.mpr he)
  exact ⟨.inr y, by rw [e1]; exact keyIs_str y t, e2⟩
end
end L2.K14
set_option Elab.async false
set_option linter.all false
set_option maxRecDepth 100000
set_option maxHeartbeats 4000000
/-! from the head's facts to the law -/
namespace L2.K14
open PySem PySem.Spec PyProof.Rows

theorem bd_is_byte {K : PySem.W.Frag} {f : Addr} {fd : FuncData} (F : Fd K "is_byte" "is_byte" s_is_byte f fd) : Binds K fd ["thing"] [] := FunD.bindsN F fun _ _ _ _ _ _ us hl => match us, hl with | [_], _ => rfl
theorem bd_is_flag {K : PySem.W.Frag} {f : Addr} {fd : FuncData} (F : Fd K "is_flag" "is_flag" s_is_flag f fd) : Binds K fd ["thing"] [] := FunD.bindsN F fun _ _ _ _ _ _ us hl => match us, hl with | [_], _ => rfl
theorem bd_is_memory {K : PySem.W.Frag} {f : Addr} {fd : FuncData} (F : Fd K "is_memory" "is_memory" s_is_memory f fd) : Binds K fd ["thing"] [] := FunD.bindsN F fun _ _ _ _ _ _ us hl => match us, hl with | [_], _ => rfl
theorem bd_area_wrong {K : PySem.W.Frag} {f : Addr} {fd : FuncData} (F : Fd K "area_wrong" "area_wrong" s_area_wrong f fd) : Binds K fd ["thing"] [] := FunD.bindsN F fun _ _ _ _ _ _ us hl => match us, hl with | [_], _ => rfl
theorem bd_own_size {K : PySem.W.Frag} {f : Addr} {fd : FuncData} (F : Fd K "own_size" "own_size" s_own_size f fd) : Binds K fd ["area"] [] := FunD.bindsN F fun _ _ _ _ _ _ us hl => match us, hl with | [_], _ => rfl
theorem bd_is_thing {K : PySem.W.Frag} {f : Addr} {fd : FuncData} (F : Fd K "is_thing" "is_thing" s_is_thing f fd) : Binds K fd ["thing", "kind"] [] := FunD.bindsN F fun _ _ _ _ _ _ us hl => match us, hl with | [_, _], _ => rfl
theorem bd_form_of {K : PySem.W.Frag} {f : Addr} {fd : FuncData} (F : Fd K "form_of" "form_of" s_form_of f fd) : Binds K fd ["thing", "forms"] [] := FunD.bindsN F fun _ _ _ _ _ _ us hl => match us, hl with | [_, _], _ => rfl
theorem bd_things_wrong {K : PySem.W.Frag} {f : Addr} {fd : FuncData} (F : Fd K "things_wrong" "things_wrong" s_things_wrong f fd) : Binds K fd ["thing", "kinds"] [] := FunD.bindsN F fun _ _ _ _ _ _ us hl => match us, hl with | [_, _], _ => rfl
theorem bd_step_wrong {K : PySem.W.Frag} {f : Addr} {fd : FuncData} (F : Fd K "step_wrong" "step_wrong" s_step_wrong f fd) : Binds K fd ["thing"] [] := FunD.bindsN F fun _ _ _ _ _ _ us hl => match us, hl with | [_], _ => rfl
theorem bd_list_wrong {K : PySem.W.Frag} {f : Addr} {fd : FuncData} (F : Fd K "list_wrong" "list_wrong" s_list_wrong f fd) : Binds K fd ["thing"] [] := FunD.bindsN F fun _ _ _ _ _ _ us hl => match us, hl with | [_], _ => rfl
theorem bd_is_deed {K : PySem.W.Frag} {f : Addr} {fd : FuncData} (F : Fd K "is_deed" "is_deed" s_is_deed f fd) : Binds K fd ["thing"] [] := FunD.bindsN F fun _ _ _ _ _ _ us hl => match us, hl with | [_], _ => rfl
theorem bd_flags_noted {K : PySem.W.Frag} {f : Addr} {fd : FuncData} (F : Fd K "flags_noted" "flags_noted" s_flags_noted f fd) : Binds K fd ["program", "helper"] [] := FunD.bindsN F fun _ _ _ _ _ _ us hl => match us, hl with | [_, _], _ => rfl
theorem bd_program_wrong {K : PySem.W.Frag} {f : Addr} {fd : FuncData} (F : Fd K "program_wrong" "program_wrong" s_program_wrong f fd) : Binds K fd ["thing"] [] := FunD.bindsN F fun _ _ _ _ _ _ us hl => match us, hl with | [_], _ => rfl
theorem bd_need_program {K : PySem.W.Frag} {f : Addr} {fd : FuncData} (F : Fd K "need_program" "need_program" s_need_program f fd) : Binds K fd ["thing"] [] := FunD.bindsN F fun _ _ _ _ _ _ us hl => match us, hl with | [_], _ => rfl
theorem bd_area_cells {K : PySem.W.Frag} {f : Addr} {fd : FuncData} (F : Fd K "area_cells" "area_cells" s_area_cells f fd) : Binds K fd ["area"] [] := FunD.bindsN F fun _ _ _ _ _ _ us hl => match us, hl with | [_], _ => rfl
theorem bd_cells_touched {K : PySem.W.Frag} {f : Addr} {fd : FuncData} (F : Fd K "cells_touched" "cells_touched" s_cells_touched f fd) : Binds K fd ["step"] [] := FunD.bindsN F fun _ _ _ _ _ _ us hl => match us, hl with | [_], _ => rfl
theorem bd_deed_cells {K : PySem.W.Frag} {f : Addr} {fd : FuncData} (F : Fd K "deed_cells" "deed_cells" s_deed_cells f fd) : Binds K fd ["deed"] [] := FunD.bindsN F fun _ _ _ _ _ _ us hl => match us, hl with | [_], _ => rfl
theorem bd_do_step {K : PySem.W.Frag} {f : Addr} {fd : FuncData} (F : Fd K "do_step" "do_step" s_do_step f fd) : Binds K fd ["memory", "step"] [] := FunD.bindsN F fun _ _ _ _ _ _ us hl => match us, hl with | [_, _], _ => rfl
theorem bd_Course___init__ {K : PySem.W.Frag} {f : Addr} {fd : FuncData} (F : Fd K "__init__" "Course.__init__" s_Course_init f fd) : Binds K fd ["self", "memory"] [] := FunD.bindsN F fun _ _ _ _ _ _ us hl => match us, hl with | [_, _], _ => rfl
theorem bd_Course_tell {K : PySem.W.Frag} {f : Addr} {fd : FuncData} (F : Fd K "tell" "Course.tell" s_Course_tell f fd) : Binds K fd ["self", "spot", "rows"] [] := FunD.bindsN F fun _ _ _ _ _ _ us hl => match us, hl with | [_, _, _], _ => rfl
theorem bd_Course_pass_by {K : PySem.W.Frag} {f : Addr} {fd : FuncData} (F : Fd K "pass_by" "Course.pass_by" s_Course_pass_by f fd) : Binds K fd ["self", "spot", "flag", "least"] [] := FunD.bindsN F fun _ _ _ _ _ _ us hl => match us, hl with | [_, _, _, _], _ => rfl
theorem bd_Course_do_posted {K : PySem.W.Frag} {f : Addr} {fd : FuncData} (F : Fd K "do_posted" "Course.do_posted" s_Course_do_posted f fd) : Binds K fd ["self", "place", "steps"] [] := FunD.bindsN F fun _ _ _ _ _ _ us hl => match us, hl with | [_, _, _], _ => rfl
theorem bd_Course_do_deed {K : PySem.W.Frag} {f : Addr} {fd : FuncData} (F : Fd K "do_deed" "Course.do_deed" s_Course_do_deed f fd) : Binds K fd ["self", "place", "deed"] [] := FunD.bindsN F fun _ _ _ _ _ _ us hl => match us, hl with | [_, _, _], _ => rfl
theorem bd_Course_do_all {K : PySem.W.Frag} {f : Addr} {fd : FuncData} (F : Fd K "do_all" "Course.do_all" s_Course_do_all f fd) : Binds K fd ["self", "program"] [] := FunD.bindsN F fun _ _ _ _ _ _ us hl => match us, hl with | [_, _], _ => rfl
theorem bd_need_memory {K : PySem.W.Frag} {f : Addr} {fd : FuncData} (F : Fd K "need_memory" "need_memory" s_need_memory f fd) : Binds K fd ["memory"] [] := FunD.bindsN F fun _ _ _ _ _ _ us hl => match us, hl with | [_], _ => rfl
theorem bd_need_inside {K : PySem.W.Frag} {f : Addr} {fd : FuncData} (F : Fd K "need_inside" "need_inside" s_need_inside f fd) : Binds K fd ["memory", "cells"] [] := FunD.bindsN F fun _ _ _ _ _ _ us hl => match us, hl with | [_, _], _ => rfl
theorem bd_need_both {K : PySem.W.Frag} {f : Addr} {fd : FuncData} (F : Fd K "need_both" "need_both" s_need_both f fd) : Binds K fd ["memory", "program"] [] := FunD.bindsN F fun _ _ _ _ _ _ us hl => match us, hl with | [_, _], _ => rfl
theorem bd_course_of {K : PySem.W.Frag} {f : Addr} {fd : FuncData} (F : Fd K "course_of" "course_of" s_course_of f fd) : Binds K fd ["memory", "program"] [] := FunD.bindsN F fun _ _ _ _ _ _ us hl => match us, hl with | [_, _], _ => rfl
theorem bd_need_many {K : PySem.W.Frag} {f : Addr} {fd : FuncData} (F : Fd K "need_many" "need_many" s_need_many f fd) : Binds K fd ["many"] [] := FunD.bindsN F fun _ _ _ _ _ _ us hl => match us, hl with | [_], _ => rfl
theorem bd_Plain___init__ {K : PySem.W.Frag} {f : Addr} {fd : FuncData} (F : Fd K "__init__" "Plain.__init__" s_Plain_init f fd) : Binds K fd ["self", "memory", "program"] [] := FunD.bindsN F fun _ _ _ _ _ _ us hl => match us, hl with | [_, _, _], _ => rfl
theorem bd_Plain_gone_on {K : PySem.W.Frag} {f : Addr} {fd : FuncData} (F : Fd K "gone_on" "Plain.gone_on" s_Plain_gone_on f fd) : Binds K fd ["self", "many"] [] := FunD.bindsN F fun _ _ _ _ _ _ us hl => match us, hl with | [_, _], _ => rfl
theorem bd_Plain_gone {K : PySem.W.Frag} {f : Addr} {fd : FuncData} (F : Fd K "gone" "Plain.gone" s_Plain_gone f fd) : Binds K fd ["self"] [] := FunD.bindsN F fun _ _ _ _ _ _ us hl => match us, hl with | [_], _ => rfl
theorem bd_Plain_is_over {K : PySem.W.Frag} {f : Addr} {fd : FuncData} (F : Fd K "is_over" "Plain.is_over" s_Plain_is_over f fd) : Binds K fd ["self"] [] := FunD.bindsN F fun _ _ _ _ _ _ us hl => match us, hl with | [_], _ => rfl
theorem bd_Plain_memory {K : PySem.W.Frag} {f : Addr} {fd : FuncData} (F : Fd K "memory" "Plain.memory" s_Plain_memory f fd) : Binds K fd ["self"] [] := FunD.bindsN F fun _ _ _ _ _ _ us hl => match us, hl with | [_], _ => rfl
theorem bd_Plain_peeks {K : PySem.W.Frag} {f : Addr} {fd : FuncData} (F : Fd K "peeks" "Plain.peeks" s_Plain_peeks f fd) : Binds K fd ["self"] [] := FunD.bindsN F fun _ _ _ _ _ _ us hl => match us, hl with | [_], _ => rfl
theorem bd_Plain_plain_twin {K : PySem.W.Frag} {f : Addr} {fd : FuncData} (F : Fd K "plain_twin" "Plain.plain_twin" s_Plain_plain_twin f fd) : Binds K fd ["self"] [] := FunD.bindsN F fun _ _ _ _ _ _ us hl => match us, hl with | [_], _ => rfl
theorem bd_Plain___eq__ {K : PySem.W.Frag} {f : Addr} {fd : FuncData} (F : Fd K "__eq__" "Plain.__eq__" s_Plain_eq f fd) : Binds K fd ["self", "other"] [] := FunD.bindsN F fun _ _ _ _ _ _ us hl => match us, hl with | [_, _], _ => rfl
theorem bd_Plain___len__ {K : PySem.W.Frag} {f : Addr} {fd : FuncData} (F : Fd K "__len__" "Plain.__len__" s_Plain_len f fd) : Binds K fd ["self"] [] := FunD.bindsN F fun _ _ _ _ _ _ us hl => match us, hl with | [_], _ => rfl
theorem bd_Plain___repr__ {K : PySem.W.Frag} {f : Addr} {fd : FuncData} (F : Fd K "__repr__" "Plain.__repr__" s_Plain_repr f fd) : Binds K fd ["self"] [] := FunD.bindsN F fun _ _ _ _ _ _ us hl => match us, hl with | [_], _ => rfl
theorem bd__law_mixed {K : PySem.W.Frag} {f : Addr} {fd : FuncData} (F : Fd K "_law_mixed" "_law_mixed" s__law_mixed f fd) : Binds K fd ["_law_drawn", "_law_k"] [] := FunD.bindsN F fun _ _ _ _ _ _ us hl => match us, hl with | [_, _], _ => rfl
theorem bd__law_begun {K : PySem.W.Frag} {f : Addr} {fd : FuncData} (F : Fd K "_law_begun" "_law_begun" s__law_begun f fd) : Binds K fd ["_law_script", "_law_k"] [] := FunD.bindsN F fun _ _ _ _ _ _ us hl => match us, hl with | [_, _], _ => rfl
theorem bd__law_take {K : PySem.W.Frag} {f : Addr} {fd : FuncData} (F : Fd K "_law_take" "_law_take" s__law_take f fd) : Binds K fd ["_law_state", "_law_count"] [] := FunD.bindsN F fun _ _ _ _ _ _ us hl => match us, hl with | [_, _], _ => rfl
theorem bd__law_of {K : PySem.W.Frag} {f : Addr} {fd : FuncData} (F : Fd K "_law_of" "_law_of" s__law_of f fd) : Binds K fd ["_law_state", "_law_some"] [] := FunD.bindsN F fun _ _ _ _ _ _ us hl => match us, hl with | [_, _], _ => rfl
theorem bd__law_area {K : PySem.W.Frag} {f : Addr} {fd : FuncData} (F : Fd K "_law_area" "_law_area" s__law_area f fd) : Binds K fd ["_law_state", "_law_top", "_law_size"] [] := FunD.bindsN F fun _ _ _ _ _ _ us hl => match us, hl with | [_, _, _], _ => rfl
theorem bd__law_byte {K : PySem.W.Frag} {f : Addr} {fd : FuncData} (F : Fd K "_law_byte" "_law_byte" s__law_byte f fd) : Binds K fd ["_law_state"] [] := FunD.bindsN F fun _ _ _ _ _ _ us hl => match us, hl with | [_], _ => rfl
theorem bd__law_moving {K : PySem.W.Frag} {f : Addr} {fd : FuncData} (F : Fd K "_law_moving" "_law_moving" s__law_moving f fd) : Binds K fd ["_law_state", "_law_top"] [] := FunD.bindsN F fun _ _ _ _ _ _ us hl => match us, hl with | [_, _], _ => rfl
theorem bd__law_a_step {K : PySem.W.Frag} {f : Addr} {fd : FuncData} (F : Fd K "_law_a_step" "_law_a_step" s__law_a_step f fd) : Binds K fd ["_law_state", "_law_top", "_law_hand", "_law_is_calm"] [] := FunD.bindsN F fun _ _ _ _ _ _ us hl => match us, hl with | [_, _, _, _], _ => rfl
theorem bd__law_line {K : PySem.W.Frag} {f : Addr} {fd : FuncData} (F : Fd K "_law_line" "_law_line" s__law_line f fd) : Binds K fd ["_law_state", "_law_top", "_law_hand", "_law_is_calm", "_law_few"] [] := FunD.bindsN F fun _ _ _ _ _ _ us hl => match us, hl with | [_, _, _, _, _], _ => rfl
theorem bd__law_sheet {K : PySem.W.Frag} {f : Addr} {fd : FuncData} (F : Fd K "_law_sheet" "_law_sheet" s__law_sheet f fd) : Binds K fd ["_law_state", "_law_top", "_law_few"] [] := FunD.bindsN F fun _ _ _ _ _ _ us hl => match us, hl with | [_, _, _], _ => rfl
theorem bd__law_store {K : PySem.W.Frag} {f : Addr} {fd : FuncData} (F : Fd K "_law_store" "_law_store" s__law_store f fd) : Binds K fd ["_law_state"] [] := FunD.bindsN F fun _ _ _ _ _ _ us hl => match us, hl with | [_], _ => rfl
theorem bd__law_cells {K : PySem.W.Frag} {f : Addr} {fd : FuncData} (F : Fd K "_law_cells" "_law_cells" s__law_cells f fd) : Binds K fd ["_law_area_here"] [] := FunD.bindsN F fun _ _ _ _ _ _ us hl => match us, hl with | [_], _ => rfl
theorem bd__law_own {K : PySem.W.Frag} {f : Addr} {fd : FuncData} (F : Fd K "_law_own" "_law_own" s__law_own f fd) : Binds K fd ["_law_store_here"] [] := FunD.bindsN F fun _ _ _ _ _ _ us hl => match us, hl with | [_], _ => rfl
theorem bd__law_read {K : PySem.W.Frag} {f : Addr} {fd : FuncData} (F : Fd K "_law_read" "_law_read" s__law_read f fd) : Binds K fd ["_law_m", "_law_spot", "_law_part", "_law_place"] [] := FunD.bindsN F fun _ _ _ _ _ _ us hl => match us, hl with | [_, _, _, _], _ => rfl
theorem bd__law_write {K : PySem.W.Frag} {f : Addr} {fd : FuncData} (F : Fd K "_law_write" "_law_write" s__law_write f fd) : Binds K fd ["_law_m", "_law_spot", "_law_part", "_law_place", "_law_byte_here"] [] := FunD.bindsN F fun _ _ _ _ _ _ us hl => match us, hl with | [_, _, _, _, _], _ => rfl
theorem bd__law_moved {K : PySem.W.Frag} {f : Addr} {fd : FuncData} (F : Fd K "_law_moved" "_law_moved" s__law_moved f fd) : Binds K fd ["_law_m", "_law_spot", "_law_one"] [] := FunD.bindsN F fun _ _ _ _ _ _ us hl => match us, hl with | [_, _, _], _ => rfl
theorem bd__law_passed {K : PySem.W.Frag} {f : Addr} {fd : FuncData} (F : Fd K "_law_passed" "_law_passed" s__law_passed f fd) : Binds K fd ["_law_m", "_law_spot", "_law_flag", "_law_least"] [] := FunD.bindsN F fun _ _ _ _ _ _ us hl => match us, hl with | [_, _, _, _], _ => rfl
theorem bd__law_did {K : PySem.W.Frag} {f : Addr} {fd : FuncData} (F : Fd K "_law_did" "_law_did" s__law_did f fd) : Binds K fd ["_law_m", "_law_place", "_law_deed"] [] := FunD.bindsN F fun _ _ _ _ _ _ us hl => match us, hl with | [_, _, _], _ => rfl
theorem bd__law_run {K : PySem.W.Frag} {f : Addr} {fd : FuncData} (F : Fd K "_law_run" "_law_run" s__law_run f fd) : Binds K fd ["_law_store_here", "_law_sheet_here"] [] := FunD.bindsN F fun _ _ _ _ _ _ us hl => match us, hl with | [_, _], _ => rfl
theorem bd__law_stood {K : PySem.W.Frag} {f : Addr} {fd : FuncData} (F : Fd K "_law_stood" "_law_stood" s__law_stood f fd) : Binds K fd ["_law_store_here", "_law_rows"] [] := FunD.bindsN F fun _ _ _ _ _ _ us hl => match us, hl with | [_, _], _ => rfl
theorem bd__law_is_so {K : PySem.W.Frag} {f : Addr} {fd : FuncData} (F : Fd K "_law_is_so" "_law_is_so" s__law_is_so f fd) : Binds K fd ["_law_one", "_law_store_here", "_law_rows", "_law_few"] [] := FunD.bindsN F fun _ _ _ _ _ _ us hl => match us, hl with | [_, _, _, _], _ => rfl
theorem bd__law_gone_right {K : PySem.W.Frag} {f : Addr} {fd : FuncData} (F : Fd K "_law_gone_right" "_law_gone_right" s__law_gone_right f fd) : Binds K fd ["_law_state", "_law_one", "_law_rows", "_law_few"] [] := FunD.bindsN F fun _ _ _ _ _ _ us hl => match us, hl with | [_, _, _, _], _ => rfl
theorem bd__law_others_right {K : PySem.W.Frag} {f : Addr} {fd : FuncData} (F : Fd K "_law_others_right" "_law_others_right" s__law_others_right f fd) : Binds K fd ["_law_store_here", "_law_sheet_here", "_law_one"] [] := FunD.bindsN F fun _ _ _ _ _ _ us hl => match us, hl with | [_, _, _], _ => rfl
theorem bd_law {K : PySem.W.Frag} {f : Addr} {fd : FuncData} (F : Fd K "law" "law" s_law f fd) : Binds K fd ["_law_script"] [] := FunD.bindsN F fun _ _ _ _ _ _ us hl => match us, hl with | [_], _ => rfl
/-- all by keywords, no defaults stand -/
theorem kb_Plain {K : PySem.W.Frag} {f : Addr} {fd : FuncData} (F : Fd K "__init__" "Plain.__init__" s_Plain_init f fd) : KBn K fd ["self", "memory", "program"] 1 ["program", "memory"] (fun us ws => us ++ ws.reverse) fun vs zs => vs ++ zs.reverse := by
  obtain ⟨_, _, dV, kV, doc, pm, an, cdv, ct, _, rfl, _, _, hD, _⟩ := F.ex
  rcases hD with ⟨_, rfl⟩ | ⟨z, _⟩
  · exact ⟨fun s us ws _ h1 h2 => .of_eq (match us, ws, h1, h2 with | [_], [_, _], _, _ => rfl), fun a b => a.append b.reverse⟩
  · exact absurd rfl z
section
variable {K : PySem.W.Frag} {f : Addr} {fd : FuncData}
theorem no_vals {ds : List Value} (h : Vals [] ds) : ds = [] := by cases h; rfl
theorem mb2_Plain_go (F : FunD K "go" "Plain.go" (defArgs s_Plain_go) (defBody s_Plain_go) (defScope s_Plain_go) [V.int 1] [] f fd) : Binds K fd ["self", "many"] [] := by
  obtain ⟨ds, h1, h2⟩ := FunD.binds1 (ps := ["self", "many"]) F 2 1 (by simp) rfl fun T kV doc pm an cdv ct us its l1 l2 => match us, its, l1, l2 with | [_, _], [_], _, _ => ⟨_, rfl, rfl⟩
  rw [no_vals h1] at h2
  exact h2
theorem mb1_Plain_go (F : FunD K "go" "Plain.go" (defArgs s_Plain_go) (defBody s_Plain_go) (defScope s_Plain_go) [V.int 1] [] f fd) : ∃ ds, Vals [V.int 1] ds ∧ Binds K fd ["self", "many"] ds :=
  FunD.binds1 (ps := ["self", "many"]) F 1 0 (by simp) rfl fun T kV doc pm an cdv ct us its l1 l2 => match us, its, l1, l2 with | [_], [_], _, _ => ⟨_, rfl, rfl⟩
theorem mbk_Plain_go (F : FunD K "go" "Plain.go" (defArgs s_Plain_go) (defBody s_Plain_go) (defScope s_Plain_go) [V.int 1] [] f fd) : ∃ g, KBn K fd ["self", "many"] 1 ["many"] g fun vs zs => vs ++ zs := by
  obtain ⟨its, h⟩ := FunD.kbindsD (ps := ["self", "many"]) F 1 ["many"] (fun us its ws => us ++ ws) (by simp) (fun a _ b => a.append b) fun T kV doc pm an cdv ct us its ws l1 l2 l3 => match us, its, ws, l1, l2, l3 with | [_], [_], [_], _, _, _ => ⟨_, rfl, rfl⟩
  exact ⟨_, h⟩
theorem mb2_Plain_back (F : FunD K "back" "Plain.back" (defArgs s_Plain_back) (defBody s_Plain_back) (defScope s_Plain_back) [V.int 1] [] f fd) : Binds K fd ["self", "many"] [] := by
  obtain ⟨ds, h1, h2⟩ := FunD.binds1 (ps := ["self", "many"]) F 2 1 (by simp) rfl fun T kV doc pm an cdv ct us its l1 l2 => match us, its, l1, l2 with | [_, _], [_], _, _ => ⟨_, rfl, rfl⟩
  rw [no_vals h1] at h2
  exact h2
theorem mb1_Plain_back (F : FunD K "back" "Plain.back" (defArgs s_Plain_back) (defBody s_Plain_back) (defScope s_Plain_back) [V.int 1] [] f fd) : ∃ ds, Vals [V.int 1] ds ∧ Binds K fd ["self", "many"] ds :=
  FunD.binds1 (ps := ["self", "many"]) F 1 0 (by simp) rfl fun T kV doc pm an cdv ct us its l1 l2 => match us, its, l1, l2 with | [_], [_], _, _ => ⟨_, rfl, rfl⟩
theorem mbk_Plain_back (F : FunD K "back" "Plain.back" (defArgs s_Plain_back) (defBody s_Plain_back) (defScope s_Plain_back) [V.int 1] [] f fd) : ∃ g, KBn K fd ["self", "many"] 1 ["many"] g fun vs zs => vs ++ zs := by
  obtain ⟨its, h⟩ := FunD.kbindsD (ps := ["self", "many"]) F 1 ["many"] (fun us its ws => us ++ ws) (by simp) (fun a _ b => a.append b) fun T kV doc pm an cdv ct us its ws l1 l2 l3 => match us, its, ws, l1, l2, l3 with | [_], [_], [_], _, _, _ => ⟨_, rfl, rfl⟩
  exact ⟨_, h⟩
end
theorem gcI {mg : Str → Option Value} {x : Str} {i : Int} (h : ∃ t, mg x = some (.int i t)) : GC mg x (.int i) := by
  obtain ⟨t, e⟩ := h
  exact ⟨_, e, t, rfl⟩
theorem gcS {mg : Str → Option Value} {x z : Str} (h : ∃ t, mg x = some (.str z t)) : GC mg x (.str z) := by
  obtain ⟨t, e⟩ := h
  exact ⟨_, e, t, rfl⟩
theorem no_list {P : Program} {w : World} {K : PySem.W.Frag} {mg : Str → Option Value} {base : Heap} {f : Addr} {fd : FuncData} : FnOk P w K mg base CX0 1 f fd ["thing"] (sp_list_wrong False) := ⟨fun _ _ _ _ h => h.1.elim, fun _ _ _ _ _ _ _ _ _ _ _ _ _ h => h.1.elim⟩
theorem tab_ok {w : World} {K : PySem.W.Frag} (c : He.SaysT fas fns tabs w K) {i : Nat} {t : He.Tab} (h : tabs[i]? = some t) : He.dicW K (t.1 K) = some (He.keysIn w.params t.2) := by
  have e : tabs.map (fun t => He.dicW K (t.1 K)) = tabs.map fun t => some (He.keysIn w.params t.2) := congrArg Prod.snd c
  have e2 : (tabs.map fun t => He.dicW K (t.1 K))[i]? = (tabs.map fun t => some (He.keysIn w.params t.2))[i]? := congrArg (·[i]?) e
  rw [List.getElem?_map, List.getElem?_map, h] at e2
  exact Option.some.inj e2
theorem more_ok {K : PySem.W.Frag} (h : moreB K = true) : PySem.W.findIn K (.ref (He.ga K "Plain")) "__class__" = some (some (.builtin "object.__class__")) ∧ PySem.W.specialIn K (.builtin "object.__class__") "__get__" = some (some (.builtin "getset_descriptor.__get__")) ∧ PySem.W.takesIn K (.builtin "object.__class__") = some true ∧
    PySem.W.mroIn K (He.ga K "Plain") (.type "object") = some true ∧ PySem.W.kitOne K (.ref (He.ga K "Plain")) (.ref (He.ga K "Plain")) = some true ∧ PySem.W.kitOne K (.type "int") (.ref (He.ga K "Plain")) = some false ∧ PySem.W.kitOne K (.type "tuple") (.ref (He.ga K "Plain")) = some false ∧ PySem.W.kitOne K (.type "str") (.ref (He.ga K "Plain")) = some false ∧
    PySem.W.findIn K (.ref (He.ga K "Plain")) "__ne__" = some (some (.builtin "object.__ne__")) ∧ formB K "STEP_FORMS" stepF = true ∧ formB K "DEED_FORMS" deedF = true := by
  unfold moreB at h
  simp only [Bool.and_eq_true] at h
  obtain ⟨h1, h2, h3, h4, h5, h6, h7, h8, h9, h10, h11⟩ := h
  exact ⟨He.eqO_ok h1, He.eqO_ok h2, of_decide_eq_true h3, of_decide_eq_true h4, of_decide_eq_true h5, of_decide_eq_true h6, of_decide_eq_true h7, of_decide_eq_true h8, He.eqO_ok h9, h10, h11⟩

theorem facts {P : Program} {w : World} {K : PySem.W.Frag} {h : Heap} {mg : Str → Option Value} {f : Addr} (X : K.In h) (G : h.Ns mainGlobals mg) (hfa : mg ("law" : Str) = some (.ref f)) (c : He.SaysX fas fns tabs [] moreB w h K) :
    ∃ fd : FuncData, (∀ (s : Shared) (v : Value), BindsTo s fd ⟨[v], []⟩ [("_law_script", v)]) ∧ ∀ base : Heap, FnG P w K mg base CX0 16 f fd ["_law_script"] (sp_law K) := by
  have cd := c.t.d
  have T : Txt K mg := {
    c_MOST_CELLS := gcI (He.int_ok X G (cd.fact 0 (f := .int "MOST_CELLS" 1024) rfl))
    c_FLAGS := gcI (He.int_ok X G (cd.fact 1 (f := .int "FLAGS" 8) rfl))
    c_GREATEST_CELL := gcI (He.int_ok X G (cd.fact 2 (f := .int "GREATEST_CELL" 1023) rfl))
    c_GREATEST_BYTE := gcI (He.int_ok X G (cd.fact 3 (f := .int "GREATEST_BYTE" 255) rfl))
    c_MOST_AREA := gcI (He.int_ok X G (cd.fact 4 (f := .int "MOST_AREA" 256) rfl))
    c_END := gcS (He.str_ok X G (cd.fact 5 (f := .str "END" "end") rfl))
    c_MOST_STEPS := gcI (He.int_ok X G (cd.fact 6 (f := .int "MOST_STEPS" 64) rfl))
    c_MOST_DEEDS := gcI (He.int_ok X G (cd.fact 7 (f := .int "MOST_DEEDS" 24) rfl))
    c_MOST_NOTED := gcI (He.int_ok X G (cd.fact 8 (f := .int "MOST_NOTED" 99) rfl))
    c_COPY_steps := gcS (He.str_ok X G (cd.fact 9 (f := .str "COPY_steps" "copy") rfl))
    c_FILL_steps := gcS (He.str_ok X G (cd.fact 10 (f := .str "FILL_steps" "fill") rfl))
    c_ADD_steps := gcS (He.str_ok X G (cd.fact 11 (f := .str "ADD_steps" "add") rfl))
    c_NOTE_steps := gcS (He.str_ok X G (cd.fact 12 (f := .str "NOTE_steps" "note") rfl))
    c_WAIT_steps := gcS (He.str_ok X G (cd.fact 13 (f := .str "WAIT_steps" "wait") rfl))
    c_FENCE := gcS (He.str_ok X G (cd.fact 14 (f := .str "FENCE" "fence") rfl))
    c_POST_steps := gcS (He.str_ok X G (cd.fact 15 (f := .str "POST_steps" "post") rfl))
    c_SIZE := gcS (He.str_ok X G (cd.fact 16 (f := .str "SIZE" "size") rfl))
    c_SKIP := gcS (He.str_ok X G (cd.fact 17 (f := .str "SKIP" "skip") rfl))
    c_FLAG := gcS (He.str_ok X G (cd.fact 18 (f := .str "FLAG" "flag") rfl))
    c_COPY_plain := gcS (He.str_ok X G (cd.fact 19 (f := .str "COPY_plain" "copy") rfl))
    c_FILL_plain := gcS (He.str_ok X G (cd.fact 20 (f := .str "FILL_plain" "fill") rfl))
    c_ADD_plain := gcS (He.str_ok X G (cd.fact 21 (f := .str "ADD_plain" "add") rfl))
    c_NOTE_plain := gcS (He.str_ok X G (cd.fact 22 (f := .str "NOTE_plain" "note") rfl))
    c_WAIT_plain := gcS (He.str_ok X G (cd.fact 23 (f := .str "WAIT_plain" "wait") rfl))
    c_POST_plain := gcS (He.str_ok X G (cd.fact 24 (f := .str "POST_plain" "post") rfl))
    c_POKE := gcS (He.str_ok X G (cd.fact 25 (f := .str "POKE" "poke") rfl))
    c_PEEK := gcS (He.str_ok X G (cd.fact 26 (f := .str "PEEK" "peek") rfl))
    c_SEE := gcS (He.str_ok X G (cd.fact 27 (f := .str "SEE" "see") rfl))
    c_READ := gcS (He.str_ok X G (cd.fact 28 (f := .str "READ" "r") rfl))
    c_WRITE := gcS (He.str_ok X G (cd.fact 29 (f := .str "WRITE" "w") rfl))
    c_OVER := gcS (He.str_ok X G (cd.fact 30 (f := .str "OVER" "over") rfl))
    c_STUCK := gcS (He.str_ok X G (cd.fact 31 (f := .str "STUCK" "stuck") rfl))
    c_BYTES := gcI (He.int_ok X G (cd.fact 32 (f := .int "BYTES" 256) rfl))
    c_MOST_ROWS := gcI (He.int_ok X G (cd.fact 33 (f := .int "MOST_ROWS" 100000) rfl))
    b_isinstance := He.free_ok X G (cd.fact 34 (f := .free "isinstance") rfl)
    b_int := He.free_ok X G (cd.fact 35 (f := .free "int") rfl)
    b_bool := He.free_ok X G (cd.fact 36 (f := .free "bool") rfl)
    b_tuple := He.free_ok X G (cd.fact 37 (f := .free "tuple") rfl)
    b_len := He.free_ok X G (cd.fact 38 (f := .free "len") rfl)
    b_all := He.free_ok X G (cd.fact 39 (f := .free "all") rfl)
    b_enumerate := He.free_ok X G (cd.fact 40 (f := .free "enumerate") rfl)
    b_str := He.free_ok X G (cd.fact 41 (f := .free "str") rfl)
    b_dict := He.free_ok X G (cd.fact 42 (f := .free "dict") rfl)
    b_any := He.free_ok X G (cd.fact 43 (f := .free "any") rfl)
    b_range := He.free_ok X G (cd.fact 44 (f := .free "range") rfl)
    b_list := He.free_ok X G (cd.fact 45 (f := .free "list") rfl)
    b_zip := He.free_ok X G (cd.fact 46 (f := .free "zip") rfl)
    b_sum := He.free_ok X G (cd.fact 47 (f := .free "sum") rfl)
    b_max := He.free_ok X G (cd.fact 48 (f := .free "max") rfl)
    b_min := He.free_ok X G (cd.fact 49 (f := .free "min") rfl)
    b_repr := He.free_ok X G (cd.fact 50 (f := .free "repr") rfl) }
  obtain ⟨f_is_whole, F_is_whole⟩ : ∃ f_is_whole, FunD K "is_whole" "is_whole" (defArgs s_is_whole) (defBody s_is_whole) (defScope s_is_whole) [] [("least", V.int 0), ("most", V.int 1023)] (He.ga K "is_whole") f_is_whole := cd.def_ 0 (d := d_is_whole) rfl
  obtain ⟨f_is_byte, F_is_byte⟩ : ∃ f_is_byte, Fd K "is_byte" "is_byte" s_is_byte (He.ga K "is_byte") f_is_byte := cd.def_ 1 (d := d_is_byte) rfl
  obtain ⟨f_is_flag, F_is_flag⟩ : ∃ f_is_flag, Fd K "is_flag" "is_flag" s_is_flag (He.ga K "is_flag") f_is_flag := cd.def_ 2 (d := d_is_flag) rfl
  obtain ⟨f_is_memory, F_is_memory⟩ : ∃ f_is_memory, Fd K "is_memory" "is_memory" s_is_memory (He.ga K "is_memory") f_is_memory := cd.def_ 3 (d := d_is_memory) rfl
  obtain ⟨f_area_wrong, F_area_wrong⟩ : ∃ f_area_wrong, Fd K "area_wrong" "area_wrong" s_area_wrong (He.ga K "area_wrong") f_area_wrong := cd.def_ 4 (d := d_area_wrong) rfl
  obtain ⟨f_own_size, F_own_size⟩ : ∃ f_own_size, Fd K "own_size" "own_size" s_own_size (He.ga K "own_size") f_own_size := cd.def_ 5 (d := d_own_size) rfl
  obtain ⟨f_is_thing, F_is_thing⟩ : ∃ f_is_thing, Fd K "is_thing" "is_thing" s_is_thing (He.ga K "is_thing") f_is_thing := cd.def_ 6 (d := d_is_thing) rfl
  obtain ⟨f_form_of, F_form_of⟩ : ∃ f_form_of, Fd K "form_of" "form_of" s_form_of (He.ga K "form_of") f_form_of := cd.def_ 7 (d := d_form_of) rfl
  obtain ⟨f_things_wrong, F_things_wrong⟩ : ∃ f_things_wrong, Fd K "things_wrong" "things_wrong" s_things_wrong (He.ga K "things_wrong") f_things_wrong := cd.def_ 8 (d := d_things_wrong) rfl
  obtain ⟨f_step_wrong, F_step_wrong⟩ : ∃ f_step_wrong, Fd K "step_wrong" "step_wrong" s_step_wrong (He.ga K "step_wrong") f_step_wrong := cd.def_ 9 (d := d_step_wrong) rfl
  obtain ⟨f_list_wrong, F_list_wrong⟩ : ∃ f_list_wrong, Fd K "list_wrong" "list_wrong" s_list_wrong (He.ga K "list_wrong") f_list_wrong := cd.def_ 10 (d := d_list_wrong) rfl
  obtain ⟨f_is_deed, F_is_deed⟩ : ∃ f_is_deed, Fd K "is_deed" "is_deed" s_is_deed (He.ga K "is_deed") f_is_deed := cd.def_ 11 (d := d_is_deed) rfl
  obtain ⟨f_flags_noted, F_flags_noted⟩ : ∃ f_flags_noted, Fd K "flags_noted" "flags_noted" s_flags_noted (He.ga K "flags_noted") f_flags_noted := cd.def_ 12 (d := d_flags_noted) rfl
  obtain ⟨f_program_wrong, F_program_wrong⟩ : ∃ f_program_wrong, Fd K "program_wrong" "program_wrong" s_program_wrong (He.ga K "program_wrong") f_program_wrong := cd.def_ 13 (d := d_program_wrong) rfl
  obtain ⟨f_need_program, F_need_program⟩ : ∃ f_need_program, Fd K "need_program" "need_program" s_need_program (He.ga K "need_program") f_need_program := cd.def_ 14 (d := d_need_program) rfl
  obtain ⟨f_area_cells, F_area_cells⟩ : ∃ f_area_cells, Fd K "area_cells" "area_cells" s_area_cells (He.ga K "area_cells") f_area_cells := cd.def_ 15 (d := d_area_cells) rfl
  obtain ⟨f_cells_touched, F_cells_touched⟩ : ∃ f_cells_touched, Fd K "cells_touched" "cells_touched" s_cells_touched (He.ga K "cells_touched") f_cells_touched := cd.def_ 16 (d := d_cells_touched) rfl
  obtain ⟨f_deed_cells, F_deed_cells⟩ : ∃ f_deed_cells, Fd K "deed_cells" "deed_cells" s_deed_cells (He.ga K "deed_cells") f_deed_cells := cd.def_ 17 (d := d_deed_cells) rfl
  obtain ⟨f_do_step, F_do_step⟩ : ∃ f_do_step, Fd K "do_step" "do_step" s_do_step (He.ga K "do_step") f_do_step := cd.def_ 18 (d := d_do_step) rfl
  obtain ⟨f_Course___init__, F_Course___init__⟩ : ∃ f_Course___init__, Fd K "__init__" "Course.__init__" s_Course_init (He.ma K (He.ga K "Course") "__init__") f_Course___init__ := cd.def_ 19 (d := d_Course___init__) rfl
  obtain ⟨f_Course_tell, F_Course_tell⟩ : ∃ f_Course_tell, Fd K "tell" "Course.tell" s_Course_tell (He.ma K (He.ga K "Course") "tell") f_Course_tell := cd.def_ 20 (d := d_Course_tell) rfl
  obtain ⟨f_Course_pass_by, F_Course_pass_by⟩ : ∃ f_Course_pass_by, Fd K "pass_by" "Course.pass_by" s_Course_pass_by (He.ma K (He.ga K "Course") "pass_by") f_Course_pass_by := cd.def_ 21 (d := d_Course_pass_by) rfl
  obtain ⟨f_Course_do_posted, F_Course_do_posted⟩ : ∃ f_Course_do_posted, Fd K "do_posted" "Course.do_posted" s_Course_do_posted (He.ma K (He.ga K "Course") "do_posted") f_Course_do_posted := cd.def_ 22 (d := d_Course_do_posted) rfl
  obtain ⟨f_Course_do_deed, F_Course_do_deed⟩ : ∃ f_Course_do_deed, Fd K "do_deed" "Course.do_deed" s_Course_do_deed (He.ma K (He.ga K "Course") "do_deed") f_Course_do_deed := cd.def_ 23 (d := d_Course_do_deed) rfl
  obtain ⟨f_Course_do_all, F_Course_do_all⟩ : ∃ f_Course_do_all, Fd K "do_all" "Course.do_all" s_Course_do_all (He.ma K (He.ga K "Course") "do_all") f_Course_do_all := cd.def_ 24 (d := d_Course_do_all) rfl
  obtain ⟨f_need_memory, F_need_memory⟩ : ∃ f_need_memory, Fd K "need_memory" "need_memory" s_need_memory (He.ga K "need_memory") f_need_memory := cd.def_ 25 (d := d_need_memory) rfl
  obtain ⟨f_need_inside, F_need_inside⟩ : ∃ f_need_inside, Fd K "need_inside" "need_inside" s_need_inside (He.ga K "need_inside") f_need_inside := cd.def_ 26 (d := d_need_inside) rfl
  obtain ⟨f_need_both, F_need_both⟩ : ∃ f_need_both, Fd K "need_both" "need_both" s_need_both (He.ga K "need_both") f_need_both := cd.def_ 27 (d := d_need_both) rfl
  obtain ⟨f_course_of, F_course_of⟩ : ∃ f_course_of, Fd K "course_of" "course_of" s_course_of (He.ga K "course_of") f_course_of := cd.def_ 28 (d := d_course_of) rfl
  obtain ⟨f_need_many, F_need_many⟩ : ∃ f_need_many, Fd K "need_many" "need_many" s_need_many (He.ga K "need_many") f_need_many := cd.def_ 29 (d := d_need_many) rfl
  obtain ⟨f_Plain___init__, F_Plain___init__⟩ : ∃ f_Plain___init__, Fd K "__init__" "Plain.__init__" s_Plain_init (He.ma K (He.ga K "Plain") "__init__") f_Plain___init__ := cd.def_ 30 (d := d_Plain___init__) rfl
  obtain ⟨f_Plain_gone_on, F_Plain_gone_on⟩ : ∃ f_Plain_gone_on, Fd K "gone_on" "Plain.gone_on" s_Plain_gone_on (He.ma K (He.ga K "Plain") "gone_on") f_Plain_gone_on := cd.def_ 31 (d := d_Plain_gone_on) rfl
  obtain ⟨f_Plain_go, F_Plain_go⟩ : ∃ f_Plain_go, FunD K "go" "Plain.go" (defArgs s_Plain_go) (defBody s_Plain_go) (defScope s_Plain_go) [V.int 1] [] (He.ma K (He.ga K "Plain") "go") f_Plain_go := cd.def_ 32 (d := d_Plain_go) rfl
  obtain ⟨f_Plain_back, F_Plain_back⟩ : ∃ f_Plain_back, FunD K "back" "Plain.back" (defArgs s_Plain_back) (defBody s_Plain_back) (defScope s_Plain_back) [V.int 1] [] (He.ma K (He.ga K "Plain") "back") f_Plain_back := cd.def_ 33 (d := d_Plain_back) rfl
  obtain ⟨f_Plain_gone, F_Plain_gone⟩ : ∃ f_Plain_gone, Fd K "gone" "Plain.gone" s_Plain_gone (He.ma K (He.ga K "Plain") "gone") f_Plain_gone := cd.def_ 34 (d := d_Plain_gone) rfl
  obtain ⟨f_Plain_is_over, F_Plain_is_over⟩ : ∃ f_Plain_is_over, Fd K "is_over" "Plain.is_over" s_Plain_is_over (He.ma K (He.ga K "Plain") "is_over") f_Plain_is_over := cd.def_ 35 (d := d_Plain_is_over) rfl
  obtain ⟨f_Plain_memory, F_Plain_memory⟩ : ∃ f_Plain_memory, Fd K "memory" "Plain.memory" s_Plain_memory (He.ma K (He.ga K "Plain") "memory") f_Plain_memory := cd.def_ 36 (d := d_Plain_memory) rfl
  obtain ⟨f_Plain_peeks, F_Plain_peeks⟩ : ∃ f_Plain_peeks, Fd K "peeks" "Plain.peeks" s_Plain_peeks (He.ma K (He.ga K "Plain") "peeks") f_Plain_peeks := cd.def_ 37 (d := d_Plain_peeks) rfl
  obtain ⟨f_Plain_plain_twin, F_Plain_plain_twin⟩ : ∃ f_Plain_plain_twin, Fd K "plain_twin" "Plain.plain_twin" s_Plain_plain_twin (He.ma K (He.ga K "Plain") "plain_twin") f_Plain_plain_twin := cd.def_ 38 (d := d_Plain_plain_twin) rfl
  obtain ⟨f_Plain___eq__, F_Plain___eq__⟩ : ∃ f_Plain___eq__, Fd K "__eq__" "Plain.__eq__" s_Plain_eq (He.ma K (He.ga K "Plain") "__eq__") f_Plain___eq__ := cd.def_ 39 (d := d_Plain___eq__) rfl
  obtain ⟨f_Plain___len__, F_Plain___len__⟩ : ∃ f_Plain___len__, Fd K "__len__" "Plain.__len__" s_Plain_len (He.ma K (He.ga K "Plain") "__len__") f_Plain___len__ := cd.def_ 40 (d := d_Plain___len__) rfl
  obtain ⟨f_Plain___repr__, F_Plain___repr__⟩ : ∃ f_Plain___repr__, Fd K "__repr__" "Plain.__repr__" s_Plain_repr (He.ma K (He.ga K "Plain") "__repr__") f_Plain___repr__ := cd.def_ 41 (d := d_Plain___repr__) rfl
  obtain ⟨f__law_mixed, F__law_mixed⟩ : ∃ f__law_mixed, Fd K "_law_mixed" "_law_mixed" s__law_mixed (He.ga K "_law_mixed") f__law_mixed := cd.def_ 42 (d := d__law_mixed) rfl
  obtain ⟨f__law_begun, F__law_begun⟩ : ∃ f__law_begun, Fd K "_law_begun" "_law_begun" s__law_begun (He.ga K "_law_begun") f__law_begun := cd.def_ 43 (d := d__law_begun) rfl
  obtain ⟨f__law_take, F__law_take⟩ : ∃ f__law_take, Fd K "_law_take" "_law_take" s__law_take (He.ga K "_law_take") f__law_take := cd.def_ 44 (d := d__law_take) rfl
  obtain ⟨f__law_of, F__law_of⟩ : ∃ f__law_of, Fd K "_law_of" "_law_of" s__law_of (He.ga K "_law_of") f__law_of := cd.def_ 45 (d := d__law_of) rfl
  obtain ⟨f__law_area, F__law_area⟩ : ∃ f__law_area, Fd K "_law_area" "_law_area" s__law_area (He.ga K "_law_area") f__law_area := cd.def_ 46 (d := d__law_area) rfl
  obtain ⟨f__law_byte, F__law_byte⟩ : ∃ f__law_byte, Fd K "_law_byte" "_law_byte" s__law_byte (He.ga K "_law_byte") f__law_byte := cd.def_ 47 (d := d__law_byte) rfl
  obtain ⟨f__law_moving, F__law_moving⟩ : ∃ f__law_moving, Fd K "_law_moving" "_law_moving" s__law_moving (He.ga K "_law_moving") f__law_moving := cd.def_ 48 (d := d__law_moving) rfl
  obtain ⟨f__law_a_step, F__law_a_step⟩ : ∃ f__law_a_step, Fd K "_law_a_step" "_law_a_step" s__law_a_step (He.ga K "_law_a_step") f__law_a_step := cd.def_ 49 (d := d__law_a_step) rfl
  obtain ⟨f__law_line, F__law_line⟩ : ∃ f__law_line, Fd K "_law_line" "_law_line" s__law_line (He.ga K "_law_line") f__law_line := cd.def_ 50 (d := d__law_line) rfl
  obtain ⟨f__law_sheet, F__law_sheet⟩ : ∃ f__law_sheet, Fd K "_law_sheet" "_law_sheet" s__law_sheet (He.ga K "_law_sheet") f__law_sheet := cd.def_ 51 (d := d__law_sheet) rfl
  obtain ⟨f__law_store, F__law_store⟩ : ∃ f__law_store, Fd K "_law_store" "_law_store" s__law_store (He.ga K "_law_store") f__law_store := cd.def_ 52 (d := d__law_store) rfl
  obtain ⟨f__law_cells, F__law_cells⟩ : ∃ f__law_cells, Fd K "_law_cells" "_law_cells" s__law_cells (He.ga K "_law_cells") f__law_cells := cd.def_ 53 (d := d__law_cells) rfl
  obtain ⟨f__law_own, F__law_own⟩ : ∃ f__law_own, Fd K "_law_own" "_law_own" s__law_own (He.ga K "_law_own") f__law_own := cd.def_ 54 (d := d__law_own) rfl
  obtain ⟨f__law_read, F__law_read⟩ : ∃ f__law_read, Fd K "_law_read" "_law_read" s__law_read (He.ga K "_law_read") f__law_read := cd.def_ 55 (d := d__law_read) rfl
  obtain ⟨f__law_write, F__law_write⟩ : ∃ f__law_write, Fd K "_law_write" "_law_write" s__law_write (He.ga K "_law_write") f__law_write := cd.def_ 56 (d := d__law_write) rfl
  obtain ⟨f__law_moved, F__law_moved⟩ : ∃ f__law_moved, Fd K "_law_moved" "_law_moved" s__law_moved (He.ga K "_law_moved") f__law_moved := cd.def_ 57 (d := d__law_moved) rfl
  obtain ⟨f__law_passed, F__law_passed⟩ : ∃ f__law_passed, Fd K "_law_passed" "_law_passed" s__law_passed (He.ga K "_law_passed") f__law_passed := cd.def_ 58 (d := d__law_passed) rfl
  obtain ⟨f__law_did, F__law_did⟩ : ∃ f__law_did, Fd K "_law_did" "_law_did" s__law_did (He.ga K "_law_did") f__law_did := cd.def_ 59 (d := d__law_did) rfl
  obtain ⟨f__law_run, F__law_run⟩ : ∃ f__law_run, Fd K "_law_run" "_law_run" s__law_run (He.ga K "_law_run") f__law_run := cd.def_ 60 (d := d__law_run) rfl
  obtain ⟨f__law_stood, F__law_stood⟩ : ∃ f__law_stood, Fd K "_law_stood" "_law_stood" s__law_stood (He.ga K "_law_stood") f__law_stood := cd.def_ 61 (d := d__law_stood) rfl
  obtain ⟨f__law_is_so, F__law_is_so⟩ : ∃ f__law_is_so, Fd K "_law_is_so" "_law_is_so" s__law_is_so (He.ga K "_law_is_so") f__law_is_so := cd.def_ 62 (d := d__law_is_so) rfl
  obtain ⟨f__law_gone_right, F__law_gone_right⟩ : ∃ f__law_gone_right, Fd K "_law_gone_right" "_law_gone_right" s__law_gone_right (He.ga K "_law_gone_right") f__law_gone_right := cd.def_ 63 (d := d__law_gone_right) rfl
  obtain ⟨f__law_others_right, F__law_others_right⟩ : ∃ f__law_others_right, Fd K "_law_others_right" "_law_others_right" s__law_others_right (He.ga K "_law_others_right") f__law_others_right := cd.def_ 64 (d := d__law_others_right) rfl
  obtain ⟨f_law, F_law⟩ : ∃ f_law, Fd K "law" "law" s_law (He.ga K "law") f_law := cd.def_ 65 (d := d_law) rfl
  have gCourse := He.glo_ok X G (cd.fact 117 (f := .glo "Course") rfl)
  have gPlain := He.glo_ok X G (cd.fact 120 (f := .glo "Plain") rfl)
  have cCourse : CoC K (He.ga K "Course") := ⟨He.cls_ok (cd.fact 118 (f := .cls "Course") rfl), He.noat_ok (cd.fact 123 (f := .noat "Course" "course_memory") rfl), He.noat_ok (cd.fact 124 (f := .noat "Course" "course_flags") rfl), He.noat_ok (cd.fact 125 (f := .noat "Course" "course_rows") rfl), He.noat_ok (cd.fact 126 (f := .noat "Course" "course_peeks") rfl), He.noat_ok (cd.fact 127 (f := .noat "Course" "course_stuck") rfl)⟩
  have cPlain : PlC K (He.ga K "Plain") := ⟨He.cls_ok (cd.fact 121 (f := .cls "Plain") rfl), He.noat_ok (cd.fact 128 (f := .noat "Plain" "plain_asked") rfl), He.noat_ok (cd.fact 129 (f := .noat "Plain" "plain_rows") rfl), He.noat_ok (cd.fact 130 (f := .noat "Plain" "plain_bytes") rfl), He.noat_ok (cd.fact 131 (f := .noat "Plain" "plain_elders") rfl)⟩
  obtain ⟨m1, m2, m3, m4, m5, m6, m7, m8, nPlain, m10, m11⟩ := more_ok c.more
  have iPlain : PlI K mg (He.ga K "Plain") := ⟨m1, m2, m3, m4, m5, m6, m7, m8, gPlain⟩
  have tt : ∀ (i : Nat) (t : He.Tab), tabs[i]? = some t → He.dicW K (t.1 K) = some (He.keysIn w.params t.2) := fun i t e => tab_ok c.t e
  have SF : KForm P w K mg "STEP_FORMS" stepForms := form_ok m10 (tt 0 _ rfl) (by decide +kernel) (by decide) (He.glo_ok X G (cd.fact 132 (f := .glo "STEP_FORMS") rfl))
  have DF : KForm P w K mg "DEED_FORMS" deedForms := form_ok m11 (tt 1 _ rfl) (by decide +kernel) (by decide) (He.glo_ok X G (cd.fact 133 (f := .glo "DEED_FORMS") rfl))
  have eL := hfa.symm.trans (He.glo_ok X G (cd.fact 116 (f := .glo "law") rfl))
  cases eL
  refine ⟨f_law, fun s v => FunD.bindsA (ps := ["_law_script"]) F_law (fun _ _ _ _ _ _ us hl => match us, hl with | [_], _ => rfl) s [v] rfl, fun base => ?_⟩
  have W : CalW P w K mg base := calW T F_is_whole (He.glo_ok X G (cd.fact 51 (f := .glo "is_whole") rfl))
  have KPlainB := kb_Plain F_Plain___init__
  have D_is_byte : Cal P w K mg base 2 "is_byte" ["thing"] sp_is_byte := ⟨_, _, ok_is_byte T F_is_byte W, He.glo_ok X G (cd.fact 52 (f := .glo "is_byte") rfl), F_is_byte.kp, bd_is_byte F_is_byte⟩
  have D_is_flag : Cal P w K mg base 2 "is_flag" ["thing"] sp_is_flag := ⟨_, _, ok_is_flag T F_is_flag W, He.glo_ok X G (cd.fact 53 (f := .glo "is_flag") rfl), F_is_flag.kp, bd_is_flag F_is_flag⟩
  have D_is_memory : Cal P w K mg base 3 "is_memory" ["thing"] sp_is_memory := ⟨_, _, ok_is_memory T F_is_memory D_is_byte, He.glo_ok X G (cd.fact 54 (f := .glo "is_memory") rfl), F_is_memory.kp, bd_is_memory F_is_memory⟩
  have D_own_size : Cal P w K mg base 1 "own_size" ["area"] sp_own_size := ⟨_, _, ok_own_size T F_own_size, He.glo_ok X G (cd.fact 56 (f := .glo "own_size") rfl), F_own_size.kp, bd_own_size F_own_size⟩
  have D_area_wrong : Cal P w K mg base 2 "area_wrong" ["thing"] sp_area_wrong := ⟨_, _, ok_area_wrong T F_area_wrong W, He.glo_ok X G (cd.fact 55 (f := .glo "area_wrong") rfl), F_area_wrong.kp, bd_area_wrong F_area_wrong⟩
  have D_list_wrong : Cal P w K mg base 1 "list_wrong" ["thing"] (sp_list_wrong False) := ⟨_, _, no_list, He.glo_ok X G (cd.fact 61 (f := .glo "list_wrong") rfl), F_list_wrong.kp, bd_list_wrong F_list_wrong⟩
  have D_is_thing : Cal P w K mg base 3 "is_thing" ["thing", "kind"] (sp_is_thing False) := ⟨_, _, ok_is_thing (al := False) (n := 2) (k := 1) (by decide) (by decide) T F_is_thing W D_is_byte D_is_flag D_area_wrong D_list_wrong, He.glo_ok X G (cd.fact 57 (f := .glo "is_thing") rfl), F_is_thing.kp, bd_is_thing F_is_thing⟩
  have D_things_wrong : Cal P w K mg base 4 "things_wrong" ["thing", "kinds"] (sp_things_wrong False) := ⟨_, _, ok_things_wrong (al := False) (n := 3) T F_things_wrong D_is_thing, He.glo_ok X G (cd.fact 59 (f := .glo "things_wrong") rfl), F_things_wrong.kp, bd_things_wrong F_things_wrong⟩
  have D_form_of : Cal P w K mg base 1 "form_of" ["thing", "forms"] sp_form_of := ⟨_, _, ok_form_of T F_form_of, He.glo_ok X G (cd.fact 58 (f := .glo "form_of") rfl), F_form_of.kp, bd_form_of F_form_of⟩
  have D_step_wrong : Cal P w K mg base 5 "step_wrong" ["thing"] sp_step_wrong := ⟨_, _, ok_step_wrong T F_step_wrong SF W D_own_size D_form_of D_things_wrong, He.glo_ok X G (cd.fact 60 (f := .glo "step_wrong") rfl), F_step_wrong.kp, bd_step_wrong F_step_wrong⟩
  have D_list_wrong : Cal P w K mg base 6 "list_wrong" ["thing"] (sp_list_wrong True) := ⟨_, _, ok_list_wrong T F_list_wrong D_step_wrong, He.glo_ok X G (cd.fact 61 (f := .glo "list_wrong") rfl), F_list_wrong.kp, bd_list_wrong F_list_wrong⟩
  have D_is_thing : Cal P w K mg base 7 "is_thing" ["thing", "kind"] (sp_is_thing True) := ⟨_, _, ok_is_thing (al := True) (n := 6) (k := 6) (by decide) (by decide) T F_is_thing W D_is_byte D_is_flag D_area_wrong D_list_wrong, He.glo_ok X G (cd.fact 57 (f := .glo "is_thing") rfl), F_is_thing.kp, bd_is_thing F_is_thing⟩
  have D_things_wrong : Cal P w K mg base 8 "things_wrong" ["thing", "kinds"] (sp_things_wrong True) := ⟨_, _, ok_things_wrong (al := True) (n := 7) T F_things_wrong D_is_thing, He.glo_ok X G (cd.fact 59 (f := .glo "things_wrong") rfl), F_things_wrong.kp, bd_things_wrong F_things_wrong⟩
  have D_is_deed : Cal P w K mg base 9 "is_deed" ["thing"] sp_is_deed := ⟨_, _, ok_is_deed T F_is_deed DF D_form_of D_things_wrong, He.glo_ok X G (cd.fact 62 (f := .glo "is_deed") rfl), F_is_deed.kp, bd_is_deed F_is_deed⟩
  have D_flags_noted : Cal P w K mg base 1 "flags_noted" ["program", "helper"] sp_flags_noted := ⟨_, _, ok_flags_noted T F_flags_noted, He.glo_ok X G (cd.fact 63 (f := .glo "flags_noted") rfl), F_flags_noted.kp, bd_flags_noted F_flags_noted⟩
  have D_program_wrong : Cal P w K mg base 10 "program_wrong" ["thing"] sp_program_wrong := ⟨_, _, ok_program_wrong T F_program_wrong D_is_deed D_flags_noted, He.glo_ok X G (cd.fact 64 (f := .glo "program_wrong") rfl), F_program_wrong.kp, bd_program_wrong F_program_wrong⟩
  have D_need_program : Cal P w K mg base 11 "need_program" ["thing"] sp_need_program := ⟨_, _, ok_need_program T F_need_program D_program_wrong, He.glo_ok X G (cd.fact 65 (f := .glo "need_program") rfl), F_need_program.kp, bd_need_program F_need_program⟩
  have D_area_cells : Cal P w K mg base 1 "area_cells" ["area"] sp_area_cells := ⟨_, _, ok_area_cells T F_area_cells, He.glo_ok X G (cd.fact 66 (f := .glo "area_cells") rfl), F_area_cells.kp, bd_area_cells F_area_cells⟩
  have D_cells_touched : Cal P w K mg base 2 "cells_touched" ["step"] sp_cells_touched := ⟨_, _, ok_cells_touched T F_cells_touched D_area_cells, He.glo_ok X G (cd.fact 67 (f := .glo "cells_touched") rfl), F_cells_touched.kp, bd_cells_touched F_cells_touched⟩
  have D_deed_cells : Cal P w K mg base 3 "deed_cells" ["deed"] sp_deed_cells := ⟨_, _, ok_deed_cells T F_deed_cells D_cells_touched, He.glo_ok X G (cd.fact 68 (f := .glo "deed_cells") rfl), F_deed_cells.kp, bd_deed_cells F_deed_cells⟩
  have D_need_memory : Cal P w K mg base 4 "need_memory" ["memory"] sp_need_memory := ⟨_, _, ok_need_memory T F_need_memory D_is_memory, He.glo_ok X G (cd.fact 76 (f := .glo "need_memory") rfl), F_need_memory.kp, bd_need_memory F_need_memory⟩
  have D_need_inside : Cal P w K mg base 1 "need_inside" ["memory", "cells"] sp_need_inside := ⟨_, _, ok_need_inside T F_need_inside, He.glo_ok X G (cd.fact 77 (f := .glo "need_inside") rfl), F_need_inside.kp, bd_need_inside F_need_inside⟩
  have D_need_both : Cal P w K mg base 12 "need_both" ["memory", "program"] sp_need_both := ⟨_, _, ok_need_both T F_need_both D_need_memory D_need_program D_need_inside D_deed_cells, He.glo_ok X G (cd.fact 78 (f := .glo "need_both") rfl), F_need_both.kp, bd_need_both F_need_both⟩
  have D_need_many : Cal P w K mg base 2 "need_many" ["many"] sp_need_many := ⟨_, _, ok_need_many T F_need_many W, He.glo_ok X G (cd.fact 80 (f := .glo "need_many") rfl), F_need_many.kp, bd_need_many F_need_many⟩
  have D_do_step : Cal P w K mg base 2 "do_step" ["memory", "step"] sp_do_step := ⟨_, _, ok_do_step T F_do_step D_area_cells, He.glo_ok X G (cd.fact 69 (f := .glo "do_step") rfl), F_do_step.kp, bd_do_step F_do_step⟩
  have MkCourse : CalC P w K mg base (He.ga K "Course") 1 "Course" ["self", "memory"] (sp_Course_init (He.ga K "Course")) := ⟨_, _, ok_Course_init T cCourse F_Course___init__, He.mkr_ok (cd.fact 119 (f := .mkr "Course") rfl), gCourse, bd_Course___init__ F_Course___init__⟩
  have M_Course_tell : Met P w K mg base (He.ga K "Course") 1 "tell" ["self", "spot", "rows"] (sp_tell (He.ga K "Course")) := ⟨_, _, ok_Course_tell T cCourse F_Course_tell, (He.meth_ok (cd.fact 71 (f := .meth "Course" "tell") rfl)), bd_Course_tell F_Course_tell⟩
  have M_Course_pass_by : Met P w K mg base (He.ga K "Course") 1 "pass_by" ["self", "spot", "flag", "least"] (sp_pass_by (He.ga K "Course")) := ⟨_, _, ok_Course_pass_by T cCourse F_Course_pass_by, (He.meth_ok (cd.fact 72 (f := .meth "Course" "pass_by") rfl)), bd_Course_pass_by F_Course_pass_by⟩
  have M_Course_do_posted : Met P w K mg base (He.ga K "Course") 3 "do_posted" ["self", "place", "steps"] (sp_do_posted (He.ga K "Course")) := ⟨_, _, ok_Course_do_posted T cCourse F_Course_do_posted D_do_step M_Course_tell M_Course_pass_by, (He.meth_ok (cd.fact 73 (f := .meth "Course" "do_posted") rfl)), bd_Course_do_posted F_Course_do_posted⟩
  have M_Course_do_deed : Met P w K mg base (He.ga K "Course") 4 "do_deed" ["self", "place", "deed"] (sp_do_deed (He.ga K "Course")) := ⟨_, _, ok_Course_do_deed T cCourse F_Course_do_deed M_Course_do_posted M_Course_tell M_Course_pass_by, (He.meth_ok (cd.fact 74 (f := .meth "Course" "do_deed") rfl)), bd_Course_do_deed F_Course_do_deed⟩
  have M_Course_do_all : Met P w K mg base (He.ga K "Course") 5 "do_all" ["self", "program"] (sp_do_all (He.ga K "Course")) := ⟨_, _, ok_Course_do_all T cCourse F_Course_do_all M_Course_do_deed, (He.meth_ok (cd.fact 75 (f := .meth "Course" "do_all") rfl)), bd_Course_do_all F_Course_do_all⟩
  have D_course_of : Cal P w K mg base 6 "course_of" ["memory", "program"] (sp_course_of (He.ga K "Course")) := ⟨_, _, ok_course_of T cCourse F_course_of MkCourse M_Course_do_all, He.glo_ok X G (cd.fact 79 (f := .glo "course_of") rfl), F_course_of.kp, bd_course_of F_course_of⟩
  have MkPlain : CalC P w K mg base (He.ga K "Plain") 13 "Plain" ["self", "memory", "program"] (sp_Plain_init (He.ga K "Plain")) := ⟨_, _, ok_Plain_init T cPlain cCourse F_Plain___init__ D_need_both D_course_of, He.mkr_ok (cd.fact 122 (f := .mkr "Plain") rfl), gPlain, bd_Plain___init__ F_Plain___init__⟩
  have KPlain : CalCK P w K mg base (He.ga K "Plain") := ⟨_, _, _, ok_Plain_init T cPlain cCourse F_Plain___init__ D_need_both D_course_of, He.mkr_ok (cd.fact 122 (f := .mkr "Plain") rfl), gPlain, KPlainB⟩
  have M_Plain_gone_on : Met P w K mg base (He.ga K "Plain") 1 "gone_on" ["self", "many"] (sp_go (He.ga K "Plain")) := ⟨_, _, ok_Plain_gone_on T cPlain F_Plain_gone_on, (He.meth_ok (cd.fact 82 (f := .meth "Plain" "gone_on") rfl)), bd_Plain_gone_on F_Plain_gone_on⟩
  have M_Plain_go : MetD P w K mg base (He.ga K "Plain") 3 "go" ["self", "many"] (sp_go (He.ga K "Plain")) (.int 1) "many" := ⟨_, _, ok_Plain_go T cPlain F_Plain_go D_need_many M_Plain_gone_on, (He.meth_ok (cd.fact 83 (f := .meth "Plain" "go") rfl)), mb2_Plain_go F_Plain_go, mb1_Plain_go F_Plain_go, mbk_Plain_go F_Plain_go⟩
  have M_Plain_gone : Met P w K mg base (He.ga K "Plain") 1 "gone" ["self"] (sp_gone (He.ga K "Plain")) := ⟨_, _, ok_Plain_gone T cPlain F_Plain_gone, (He.meth_ok (cd.fact 85 (f := .meth "Plain" "gone") rfl)), bd_Plain_gone F_Plain_gone⟩
  have M_Plain_is_over : Met P w K mg base (He.ga K "Plain") 1 "is_over" ["self"] (sp_is_over (He.ga K "Plain")) := ⟨_, _, ok_Plain_is_over T cPlain F_Plain_is_over, (He.meth_ok (cd.fact 86 (f := .meth "Plain" "is_over") rfl)), bd_Plain_is_over F_Plain_is_over⟩
  have M_Plain_memory : Met P w K mg base (He.ga K "Plain") 1 "memory" ["self"] (sp_memory (He.ga K "Plain")) := ⟨_, _, ok_Plain_memory T cPlain F_Plain_memory, (He.meth_ok (cd.fact 87 (f := .meth "Plain" "memory") rfl)), bd_Plain_memory F_Plain_memory⟩
  have O_Plain_len : OwM P w K mg base (He.ga K "Plain") 1 "__len__" ["self"] (sp_plen (He.ga K "Plain")) := ⟨_, _, ok_Plain_len T cPlain F_Plain___len__, ⟨(He.meth_ok (cd.fact 91 (f := .meth "Plain" "__len__") rfl)).at_, (He.meth_ok (cd.fact 91 (f := .meth "Plain" "__len__") rfl)).fn⟩, bd_Plain___len__ F_Plain___len__⟩
  have M_Plain_back : MetD P w K mg base (He.ga K "Plain") 3 "back" ["self", "many"] (sp_back (He.ga K "Plain")) (.int 1) "many" := ⟨_, _, ok_Plain_back T cPlain F_Plain_back D_need_many, (He.meth_ok (cd.fact 84 (f := .meth "Plain" "back") rfl)), mb2_Plain_back F_Plain_back, mb1_Plain_back F_Plain_back, mbk_Plain_back F_Plain_back⟩
  have M_Plain_peeks : Met P w K mg base (He.ga K "Plain") 1 "peeks" ["self"] (sp_peeks (He.ga K "Plain")) := ⟨_, _, ok_Plain_peeks T cPlain F_Plain_peeks, (He.meth_ok (cd.fact 88 (f := .meth "Plain" "peeks") rfl)), bd_Plain_peeks F_Plain_peeks⟩
  have M_Plain_plain_twin : Met P w K mg base (He.ga K "Plain") 15 "plain_twin" ["self"] (sp_twin (He.ga K "Plain")) := ⟨_, _, ok_Plain_twin T cPlain F_Plain_plain_twin MkPlain M_Plain_gone_on, (He.meth_ok (cd.fact 89 (f := .meth "Plain" "plain_twin") rfl)), bd_Plain_plain_twin F_Plain_plain_twin⟩
  have O_Plain_eq : OwM P w K mg base (He.ga K "Plain") 1 "__eq__" ["self", "other"] (sp_eq (He.ga K "Plain")) := ⟨_, _, ok_Plain_eq T cPlain iPlain F_Plain___eq__, ⟨(He.meth_ok (cd.fact 90 (f := .meth "Plain" "__eq__") rfl)).at_, (He.meth_ok (cd.fact 90 (f := .meth "Plain" "__eq__") rfl)).fn⟩, bd_Plain___eq__ F_Plain___eq__⟩
  have O_Plain_repr : OwM P w K mg base (He.ga K "Plain") 1 "__repr__" ["self"] (sp_repr (He.ga K "Plain")) := ⟨_, _, ok_Plain_repr T cPlain F_Plain___repr__, ⟨(He.meth_ok (cd.fact 92 (f := .meth "Plain" "__repr__") rfl)).at_, (He.meth_ok (cd.fact 92 (f := .meth "Plain" "__repr__") rfl)).fn⟩, bd_Plain___repr__ F_Plain___repr__⟩
  have D__law_mixed : Cal P w K mg base 1 "_law_mixed" ["_law_drawn", "_law_k"] sp_mixed := ⟨_, _, ok_mixed T F__law_mixed, He.glo_ok X G (cd.fact 93 (f := .glo "_law_mixed") rfl), F__law_mixed.kp, bd__law_mixed F__law_mixed⟩
  have D__law_take : Cal P w K mg base 2 "_law_take" ["_law_state", "_law_count"] sp_take := ⟨_, _, ok_take T F__law_take D__law_mixed, He.glo_ok X G (cd.fact 95 (f := .glo "_law_take") rfl), F__law_take.kp, bd__law_take F__law_take⟩
  have D__law_of : Cal P w K mg base 3 "_law_of" ["_law_state", "_law_some"] sp_of := ⟨_, _, ok_of T F__law_of D__law_take, He.glo_ok X G (cd.fact 96 (f := .glo "_law_of") rfl), F__law_of.kp, bd__law_of F__law_of⟩
  have D__law_byte : Cal P w K mg base 4 "_law_byte" ["_law_state"] sp_byte := ⟨_, _, ok_byte T F__law_byte D__law_take D__law_of, He.glo_ok X G (cd.fact 98 (f := .glo "_law_byte") rfl), F__law_byte.kp, bd__law_byte F__law_byte⟩
  have D__law_area : Cal P w K mg base 4 "_law_area" ["_law_state", "_law_top", "_law_size"] sp_area := ⟨_, _, ok_area T F__law_area D__law_take D__law_of, He.glo_ok X G (cd.fact 97 (f := .glo "_law_area") rfl), F__law_area.kp, bd__law_area F__law_area⟩
  have D__law_moving : Cal P w K mg base 5 "_law_moving" ["_law_state", "_law_top"] sp_moving := ⟨_, _, ok_moving T F__law_moving D__law_take D__law_area D__law_byte, He.glo_ok X G (cd.fact 99 (f := .glo "_law_moving") rfl), F__law_moving.kp, bd__law_moving F__law_moving⟩
  have D__law_a_step : Cal P w K mg base 6 "_law_a_step" ["_law_state", "_law_top", "_law_hand", "_law_is_calm"] sp_a_step := ⟨_, _, ok_a_step T F__law_a_step D__law_take D__law_moving, He.glo_ok X G (cd.fact 100 (f := .glo "_law_a_step") rfl), F__law_a_step.kp, bd__law_a_step F__law_a_step⟩
  have D__law_line : Cal P w K mg base 7 "_law_line" ["_law_state", "_law_top", "_law_hand", "_law_is_calm", "_law_few"] sp_line := ⟨_, _, ok_line T F__law_line D__law_take D__law_a_step, He.glo_ok X G (cd.fact 101 (f := .glo "_law_line") rfl), F__law_line.kp, bd__law_line F__law_line⟩
  have D__law_sheet : Cal P w K mg base 8 "_law_sheet" ["_law_state", "_law_top", "_law_few"] sp_sheet := ⟨_, _, ok_sheet T F__law_sheet D__law_take D__law_byte D__law_line, He.glo_ok X G (cd.fact 102 (f := .glo "_law_sheet") rfl), F__law_sheet.kp, bd__law_sheet F__law_sheet⟩
  have D__law_store : Cal P w K mg base 4 "_law_store" ["_law_state"] sp_store := ⟨_, _, ok_store T F__law_store D__law_take D__law_of, He.glo_ok X G (cd.fact 103 (f := .glo "_law_store") rfl), F__law_store.kp, bd__law_store F__law_store⟩
  have D__law_begun : Cal P w K mg base 1 "_law_begun" ["_law_script", "_law_k"] (sp_begun K) := ⟨_, _, ok_begun T F__law_begun, He.glo_ok X G (cd.fact 94 (f := .glo "_law_begun") rfl), F__law_begun.kp, bd__law_begun F__law_begun⟩
  have D__law_cells : Cal P w K mg base 1 "_law_cells" ["_law_area_here"] sp_law_cells := ⟨_, _, ok_law_cells T F__law_cells, He.glo_ok X G (cd.fact 104 (f := .glo "_law_cells") rfl), F__law_cells.kp, bd__law_cells F__law_cells⟩
  have D__law_own : Cal P w K mg base 1 "_law_own" ["_law_store_here"] sp_own := ⟨_, _, ok_own T F__law_own, He.glo_ok X G (cd.fact 105 (f := .glo "_law_own") rfl), F__law_own.kp, bd__law_own F__law_own⟩
  have D__law_read : Cal P w K mg base 1 "_law_read" ["_law_m", "_law_spot", "_law_part", "_law_place"] sp_read := ⟨_, _, ok_read T F__law_read, He.glo_ok X G (cd.fact 106 (f := .glo "_law_read") rfl), F__law_read.kp, bd__law_read F__law_read⟩
  have D__law_write : Cal P w K mg base 1 "_law_write" ["_law_m", "_law_spot", "_law_part", "_law_place", "_law_byte_here"] sp_write := ⟨_, _, ok_write T F__law_write, He.glo_ok X G (cd.fact 107 (f := .glo "_law_write") rfl), F__law_write.kp, bd__law_write F__law_write⟩
  have D__law_passed : Cal P w K mg base 1 "_law_passed" ["_law_m", "_law_spot", "_law_flag", "_law_least"] sp_passed := ⟨_, _, ok_passed T F__law_passed, He.glo_ok X G (cd.fact 109 (f := .glo "_law_passed") rfl), F__law_passed.kp, bd__law_passed F__law_passed⟩
  have D__law_moved : Cal P w K mg base 2 "_law_moved" ["_law_m", "_law_spot", "_law_one"] sp_moved := ⟨_, _, ok_moved T F__law_moved D__law_cells D__law_read D__law_write, He.glo_ok X G (cd.fact 108 (f := .glo "_law_moved") rfl), F__law_moved.kp, bd__law_moved F__law_moved⟩
  have D__law_did : Cal P w K mg base 3 "_law_did" ["_law_m", "_law_place", "_law_deed"] sp_did := ⟨_, _, ok_did T F__law_did D__law_moved D__law_passed D__law_read D__law_write, He.glo_ok X G (cd.fact 110 (f := .glo "_law_did") rfl), F__law_did.kp, bd__law_did F__law_did⟩
  have D__law_run : Cal P w K mg base 4 "_law_run" ["_law_store_here", "_law_sheet_here"] sp_run := ⟨_, _, ok_run T F__law_run D__law_own D__law_did, He.glo_ok X G (cd.fact 111 (f := .glo "_law_run") rfl), F__law_run.kp, bd__law_run F__law_run⟩
  have D__law_stood : Cal P w K mg base 1 "_law_stood" ["_law_store_here", "_law_rows"] sp_stood := ⟨_, _, ok_stood T F__law_stood, He.glo_ok X G (cd.fact 112 (f := .glo "_law_stood") rfl), F__law_stood.kp, bd__law_stood F__law_stood⟩
  have D__law_is_so : CalG P w K mg base 3 "_law_is_so" ["_law_one", "_law_store_here", "_law_rows", "_law_few"] (sp_is_so (He.ga K "Plain")) := ⟨_, _, ok_is_so T cPlain F__law_is_so M_Plain_gone M_Plain_is_over M_Plain_memory M_Plain_peeks O_Plain_repr O_Plain_len D__law_stood, He.glo_ok X G (cd.fact 113 (f := .glo "_law_is_so") rfl), F__law_is_so.kp, bd__law_is_so F__law_is_so⟩
  have D__law_gone_right : CalG P w K mg base 4 "_law_gone_right" ["_law_state", "_law_one", "_law_rows", "_law_few"] (sp_gone_right (He.ga K "Plain")) := ⟨_, _, ok_gone_right T cPlain F__law_gone_right D__law_take D__law_of M_Plain_go M_Plain_back, He.glo_ok X G (cd.fact 114 (f := .glo "_law_gone_right") rfl), F__law_gone_right.kp, bd__law_gone_right F__law_gone_right⟩
  have D__law_others_right : Cal P w K mg base 15 "_law_others_right" ["_law_store_here", "_law_sheet_here", "_law_one"] (sp_others (He.ga K "Plain")) := ⟨_, _, ok_others T cPlain iPlain nPlain F__law_others_right MkPlain M_Plain_go M_Plain_gone O_Plain_repr O_Plain_len O_Plain_eq, He.glo_ok X G (cd.fact 115 (f := .glo "_law_others_right") rfl), F__law_others_right.kp, bd__law_others_right F__law_others_right⟩
  exact ok_law T cPlain F_law MkPlain KPlain M_Plain_plain_twin O_Plain_eq D__law_begun D__law_store D__law_sheet D__law_run D__law_take D__law_gone_right D__law_is_so D__law_others_right
end L2.K14
open PySem PySem.W PySem.Calls PyProof.Rows
set_option maxHeartbeats 0 in
theorem PySem.Challenge.cw_haulring_k14_whole_plain_by_deeds_holds : PySem.Challenge.rw_haulring_k14_whole_plain_by_deeds.Holds := by
  w_on; o_law
  refine HandSHeadRun.head_any (r := L2.K14.theRow) (q := L2.K14.theView) (H := L2.K14.hk) (ob := L2.K14.ob) (M := 20000) (loose := L2.K14.loos) (d := HandSHeadRun.topDef L2.K14.theRow.prog 95) (kwd := []) L2.K14.ob_eq
    (by kernel_rfl) (fun s => by kernel_rfl) L2.K14.run (by kernel_rfl) (by kernel_rfl) (by kernel_rfl) (by rfl) (by first | assumption | decide +kernel) (by decide +kernel) ⟨rfl, rfl, rfl, rfl, rfl, by decide +kernel⟩ ?hw ?hc
  case hw => w_witness2
  case hc =>
    refine Att.attach_call (n := 63) rfl (by kernel_rfl) ?_
    intro w s₀ s₁ mg mb fa o pm cd doc a vs ns G Y ho hd hcd hmg0 hobj hints hlen hg
    obtain ⟨K, KX, c⟩ := Y
    have hmg : mg ("law" : PySem.Str) = some (.ref fa) := by
      have e : (HandSHeadRun.topDef L2.K14.theRow.prog 95).name = ("law" : PySem.Str) := by kernel_rfl
      rw [← e]
      exact hmg0
    obtain ⟨fd, hb, hF⟩ := L2.K14.facts (P := PySem.Challenge.rw_haulring_k14_whole_plain_by_deeds.prog) KX G.T.g hmg c
    exact L2.K14.law_callG KX G.T.g G.T.b G.T.builtins G.T.nolimit hg hobj hints (Nat.le_trans hlen (by decide)) ⟨rfl, by decide, by decide⟩ (fun base _ _ => hF base) hb fun H hS => ⟨a, ns, rfl, hS, fun _ => rfl⟩
#print axioms PySem.Challenge.cw_haulring_k14_whole_plain_by_deeds_holds
