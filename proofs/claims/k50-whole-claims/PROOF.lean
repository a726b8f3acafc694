import PyProof.Rows.All
import Wide.All
import OpenK.AllK
import Wide.FinOn
import KE.KStateDown
import KE.SortKeyHeap
import KE.KSortTupG
import HandS.ForMost
import HandS.ForExc
import HandS.Flow
import HandS.Style
import HandS.Star
import HandS.TupAny
import HandS.TupMul
import HandS.Deep
import HandS.Zip
import HandS.IsInst
import HandS.Wide
import HandS.WideBits
import HandS.RaiseMore
import HandS.More
import HandS.Defaults
import HandS.Lambda
import HandS.EndTab
import HandS.Head0
import HandS.Head1
import HandS.Head2
import HandS.HeadEnd
import HandS.HeadHook1
import HandS.HeadHook2
import HandS.HeadHook3
import HandS.HeadHook4
import HandS.HeadWalk
import KE.KLam
import KE.SortData
import PySem.Challenge.RW_smallheld_k50_whole_claims_of_ends
set_option Elab.async false
set_option linter.all false
set_option maxRecDepth 100000
set_option maxHeartbeats 4000000
/-! The text by places; what the head tells of it. -/
namespace Sm
open PySem PySem.Spec PyProof.Rows L2
def top (i : Nat) : Stmt := PySem.Challenge.pw_smallheld_k50_whole_claims_of_ends.main.body.getD i (.Pass ⟨0, 0, 0, 0⟩)
abbrev s_is_integer : Stmt := top 16
abbrev s_is_between : Stmt := top 17
abbrev s_check_number : Stmt := top 18
abbrev s_check_setting : Stmt := top 20
abbrev s_is_amount : Stmt := top 24
abbrev s_is_step : Stmt := top 25
abbrev s_is_size : Stmt := top 26
abbrev s_pause_steps : Stmt := top 27
abbrev s_shortest : Stmt := top 28
abbrev s_plain_steps : Stmt := top 29
abbrev s_events : Stmt := top 34
abbrev s_do_tick : Stmt := top 35
abbrev s_run_of : Stmt := top 38
abbrev s_ends_of : Stmt := top 39
abbrev s_is_told_setting : Stmt := top 64
abbrev s_is_told_line : Stmt := top 65
abbrev s_line_of : Stmt := top 66
abbrev s_is_program : Stmt := top 67
abbrev s_is_pair : Stmt := top 68
abbrev s_is_part : Stmt := top 69
abbrev s_is_claim : Stmt := top 70
abbrev s_is_empty : Stmt := top 71
abbrev s_one_shown : Stmt := top 76
abbrev s_holds : Stmt := top 77
abbrev s_law_urn : Stmt := top 79
abbrev s_law_dip : Stmt := top 80
abbrev s_law_one : Stmt := top 81
abbrev s_law_ways : Stmt := top 82
abbrev s_law_told : Stmt := top 83
abbrev s_law_plans : Stmt := top 84
abbrev s_law_least : Stmt := top 85
abbrev s_law_begin : Stmt := top 86
abbrev s_law_send : Stmt := top 87
abbrev s_law_free : Stmt := top 88
abbrev s_law_steps : Stmt := top 89
abbrev s_law_tick : Stmt := top 90
abbrev s_law_run : Stmt := top 91
abbrev s_law_ends : Stmt := top 92
abbrev s_law_odd : Stmt := top 93
abbrev s_law_is_whole : Stmt := top 94
abbrev s_law_is_step : Stmt := top 95
abbrev s_law_plan_fault : Stmt := top 96
abbrev s_law_bent_plan : Stmt := top 97
abbrev s_law_is_ways : Stmt := top 98
abbrev s_law_is_told : Stmt := top 99
abbrev s_law_is_plan : Stmt := top 100
abbrev s_law_other : Stmt := top 101
abbrev s_law_judge : Stmt := top 102
abbrev s_law_right : Stmt := top 103
abbrev s_law : Stmt := top 104
abbrev s_Setting_init : Stmt := inClass (top 19) 0
abbrev s_Line_init : Stmt := inClass (top 21) 0
abbrev s_Flow_init : Stmt := inClass (top 32) 0
abbrev s_Flow_kept : Stmt := inClass (top 32) 1
abbrev s_Flow_fresh : Stmt := inClass (top 32) 2
abbrev s_Flow_take_out : Stmt := inClass (top 32) 3
abbrev s_Flow_send : Stmt := inClass (top 32) 4
abbrev s_Flow_lets : Stmt := inClass (top 32) 5
abbrev s_Flow_let_go : Stmt := inClass (top 32) 6
abbrev s_Flow_put : Stmt := inClass (top 32) 7
abbrev s_Flow_land : Stmt := inClass (top 32) 8
abbrev s_Flow_begin : Stmt := inClass (top 32) 9
abbrev s_Flow_is_due : Stmt := inClass (top 32) 10
abbrev s_Flow_leave : Stmt := inClass (top 32) 11
abbrev s_Flow_next_tick : Stmt := inClass (top 32) 12
abbrev s_Course_init : Stmt := inClass (top 33) 0
abbrev s_Course_pass_step : Stmt := inClass (top 33) 1
abbrev s_Course_rests : Stmt := inClass (top 33) 2
abbrev s_Course_do_step : Stmt := inClass (top 33) 3
abbrev s_Course_go_on : Stmt := inClass (top 33) 4
abbrev s_Run_init : Stmt := inClass (top 37) 0
def d_is_integer : He.DefD := ⟨("is_integer", none), "is_integer", "is_integer", defArgs s_is_integer, defBody s_is_integer, defScope s_is_integer, [], []⟩
def d_is_between : He.DefD := ⟨("is_between", none), "is_between", "is_between", defArgs s_is_between, defBody s_is_between, defScope s_is_between, [], []⟩
def d_check_number : He.DefD := ⟨("check_number", none), "check_number", "check_number", defArgs s_check_number, defBody s_check_number, defScope s_check_number, [], []⟩
def d_check_setting : He.DefD := ⟨("check_setting", none), "check_setting", "check_setting", defArgs s_check_setting, defBody s_check_setting, defScope s_check_setting, [], []⟩
def d_is_amount : He.DefD := ⟨("is_amount", none), "is_amount", "is_amount", defArgs s_is_amount, defBody s_is_amount, defScope s_is_amount, [], []⟩
def d_is_step : He.DefD := ⟨("is_step", none), "is_step", "is_step", defArgs s_is_step, defBody s_is_step, defScope s_is_step, [], []⟩
def d_is_size : He.DefD := ⟨("is_size", none), "is_size", "is_size", defArgs s_is_size, defBody s_is_size, defScope s_is_size, [], []⟩
def d_pause_steps : He.DefD := ⟨("pause_steps", none), "pause_steps", "pause_steps", defArgs s_pause_steps, defBody s_pause_steps, defScope s_pause_steps, [], []⟩
def d_shortest : He.DefD := ⟨("shortest", none), "shortest", "shortest", defArgs s_shortest, defBody s_shortest, defScope s_shortest, [], []⟩
def d_plain_steps : He.DefD := ⟨("plain_steps", none), "plain_steps", "plain_steps", defArgs s_plain_steps, defBody s_plain_steps, defScope s_plain_steps, [], []⟩
def d_events : He.DefD := ⟨("events", none), "events", "events", defArgs s_events, defBody s_events, defScope s_events, [], []⟩
def d_do_tick : He.DefD := ⟨("do_tick", none), "do_tick", "do_tick", defArgs s_do_tick, defBody s_do_tick, defScope s_do_tick, [], []⟩
def d_run_of : He.DefD := ⟨("run_of", none), "run_of", "run_of", defArgs s_run_of, defBody s_run_of, defScope s_run_of, [], []⟩
def d_ends_of : He.DefD := ⟨("ends_of", none), "ends_of", "ends_of", defArgs s_ends_of, defBody s_ends_of, defScope s_ends_of, [], []⟩
def d_is_told_setting : He.DefD := ⟨("is_told_setting", none), "is_told_setting", "is_told_setting", defArgs s_is_told_setting, defBody s_is_told_setting, defScope s_is_told_setting, [], []⟩
def d_is_told_line : He.DefD := ⟨("is_told_line", none), "is_told_line", "is_told_line", defArgs s_is_told_line, defBody s_is_told_line, defScope s_is_told_line, [], []⟩
def d_line_of : He.DefD := ⟨("line_of", none), "line_of", "line_of", defArgs s_line_of, defBody s_line_of, defScope s_line_of, [], []⟩
def d_is_program : He.DefD := ⟨("is_program", none), "is_program", "is_program", defArgs s_is_program, defBody s_is_program, defScope s_is_program, [], []⟩
def d_is_pair : He.DefD := ⟨("is_pair", none), "is_pair", "is_pair", defArgs s_is_pair, defBody s_is_pair, defScope s_is_pair, [], []⟩
def d_is_part : He.DefD := ⟨("is_part", none), "is_part", "is_part", defArgs s_is_part, defBody s_is_part, defScope s_is_part, [], []⟩
def d_is_claim : He.DefD := ⟨("is_claim", none), "is_claim", "is_claim", defArgs s_is_claim, defBody s_is_claim, defScope s_is_claim, [], []⟩
def d_is_empty : He.DefD := ⟨("is_empty", none), "is_empty", "is_empty", defArgs s_is_empty, defBody s_is_empty, defScope s_is_empty, [], []⟩
def d_one_shown : He.DefD := ⟨("one_shown", none), "one_shown", "one_shown", defArgs s_one_shown, defBody s_one_shown, defScope s_one_shown, [], []⟩
def d_holds : He.DefD := ⟨("holds", none), "holds", "holds", defArgs s_holds, defBody s_holds, defScope s_holds, [], []⟩
def d_law_urn : He.DefD := ⟨("_law_urn", none), "_law_urn", "_law_urn", defArgs s_law_urn, defBody s_law_urn, defScope s_law_urn, [], []⟩
def d_law_dip : He.DefD := ⟨("_law_dip", none), "_law_dip", "_law_dip", defArgs s_law_dip, defBody s_law_dip, defScope s_law_dip, [], []⟩
def d_law_one : He.DefD := ⟨("_law_one", none), "_law_one", "_law_one", defArgs s_law_one, defBody s_law_one, defScope s_law_one, [], []⟩
def d_law_ways : He.DefD := ⟨("_law_ways", none), "_law_ways", "_law_ways", defArgs s_law_ways, defBody s_law_ways, defScope s_law_ways, [], []⟩
def d_law_told : He.DefD := ⟨("_law_told", none), "_law_told", "_law_told", defArgs s_law_told, defBody s_law_told, defScope s_law_told, [], []⟩
def d_law_plans : He.DefD := ⟨("_law_plans", none), "_law_plans", "_law_plans", defArgs s_law_plans, defBody s_law_plans, defScope s_law_plans, [], []⟩
def d_law_least : He.DefD := ⟨("_law_least", none), "_law_least", "_law_least", defArgs s_law_least, defBody s_law_least, defScope s_law_least, [], []⟩
def d_law_begin : He.DefD := ⟨("_law_begin", none), "_law_begin", "_law_begin", defArgs s_law_begin, defBody s_law_begin, defScope s_law_begin, [], []⟩
def d_law_send : He.DefD := ⟨("_law_send", none), "_law_send", "_law_send", defArgs s_law_send, defBody s_law_send, defScope s_law_send, [], []⟩
def d_law_free : He.DefD := ⟨("_law_free", none), "_law_free", "_law_free", defArgs s_law_free, defBody s_law_free, defScope s_law_free, [], []⟩
def d_law_steps : He.DefD := ⟨("_law_steps", none), "_law_steps", "_law_steps", defArgs s_law_steps, defBody s_law_steps, defScope s_law_steps, [], []⟩
def d_law_tick : He.DefD := ⟨("_law_tick", none), "_law_tick", "_law_tick", defArgs s_law_tick, defBody s_law_tick, defScope s_law_tick, [], []⟩
def d_law_run : He.DefD := ⟨("_law_run", none), "_law_run", "_law_run", defArgs s_law_run, defBody s_law_run, defScope s_law_run, [], []⟩
def d_law_ends : He.DefD := ⟨("_law_ends", none), "_law_ends", "_law_ends", defArgs s_law_ends, defBody s_law_ends, defScope s_law_ends, [], []⟩
def d_law_odd : He.DefD := ⟨("_law_odd", none), "_law_odd", "_law_odd", defArgs s_law_odd, defBody s_law_odd, defScope s_law_odd, [], []⟩
def d_law_is_whole : He.DefD := ⟨("_law_is_whole", none), "_law_is_whole", "_law_is_whole", defArgs s_law_is_whole, defBody s_law_is_whole, defScope s_law_is_whole, [], []⟩
def d_law_is_step : He.DefD := ⟨("_law_is_step", none), "_law_is_step", "_law_is_step", defArgs s_law_is_step, defBody s_law_is_step, defScope s_law_is_step, [], []⟩
def d_law_plan_fault : He.DefD := ⟨("_law_plan_fault", none), "_law_plan_fault", "_law_plan_fault", defArgs s_law_plan_fault, defBody s_law_plan_fault, defScope s_law_plan_fault, [], []⟩
def d_law_bent_plan : He.DefD := ⟨("_law_bent_plan", none), "_law_bent_plan", "_law_bent_plan", defArgs s_law_bent_plan, defBody s_law_bent_plan, defScope s_law_bent_plan, [], []⟩
def d_law_is_ways : He.DefD := ⟨("_law_is_ways", none), "_law_is_ways", "_law_is_ways", defArgs s_law_is_ways, defBody s_law_is_ways, defScope s_law_is_ways, [], []⟩
def d_law_is_told : He.DefD := ⟨("_law_is_told", none), "_law_is_told", "_law_is_told", defArgs s_law_is_told, defBody s_law_is_told, defScope s_law_is_told, [], []⟩
def d_law_is_plan : He.DefD := ⟨("_law_is_plan", none), "_law_is_plan", "_law_is_plan", defArgs s_law_is_plan, defBody s_law_is_plan, defScope s_law_is_plan, [], []⟩
def d_law_other : He.DefD := ⟨("_law_other", none), "_law_other", "_law_other", defArgs s_law_other, defBody s_law_other, defScope s_law_other, [], []⟩
def d_law_judge : He.DefD := ⟨("_law_judge", none), "_law_judge", "_law_judge", defArgs s_law_judge, defBody s_law_judge, defScope s_law_judge, [], []⟩
def d_law_right : He.DefD := ⟨("_law_right", none), "_law_right", "_law_right", defArgs s_law_right, defBody s_law_right, defScope s_law_right, [], []⟩
def d_law : He.DefD := ⟨("law", none), "law", "law", defArgs s_law, defBody s_law, defScope s_law, [], []⟩
def d_Setting_init : He.DefD := ⟨("Setting", some "__init__"), "__init__", "Setting.__init__", defArgs s_Setting_init, defBody s_Setting_init, defScope s_Setting_init, [], []⟩
def d_Line_init : He.DefD := ⟨("Line", some "__init__"), "__init__", "Line.__init__", defArgs s_Line_init, defBody s_Line_init, defScope s_Line_init, [], []⟩
def d_Flow_init : He.DefD := ⟨("Flow", some "__init__"), "__init__", "Flow.__init__", defArgs s_Flow_init, defBody s_Flow_init, defScope s_Flow_init, [], []⟩
def d_Flow_kept : He.DefD := ⟨("Flow", some "kept"), "kept", "Flow.kept", defArgs s_Flow_kept, defBody s_Flow_kept, defScope s_Flow_kept, [], []⟩
def d_Flow_fresh : He.DefD := ⟨("Flow", some "fresh"), "fresh", "Flow.fresh", defArgs s_Flow_fresh, defBody s_Flow_fresh, defScope s_Flow_fresh, [], []⟩
def d_Flow_take_out : He.DefD := ⟨("Flow", some "take_out"), "take_out", "Flow.take_out", defArgs s_Flow_take_out, defBody s_Flow_take_out, defScope s_Flow_take_out, [], []⟩
def d_Flow_send : He.DefD := ⟨("Flow", some "send"), "send", "Flow.send", defArgs s_Flow_send, defBody s_Flow_send, defScope s_Flow_send, [], []⟩
def d_Flow_lets : He.DefD := ⟨("Flow", some "lets"), "lets", "Flow.lets", defArgs s_Flow_lets, defBody s_Flow_lets, defScope s_Flow_lets, [], []⟩
def d_Flow_let_go : He.DefD := ⟨("Flow", some "let_go"), "let_go", "Flow.let_go", defArgs s_Flow_let_go, defBody s_Flow_let_go, defScope s_Flow_let_go, [], []⟩
def d_Flow_put : He.DefD := ⟨("Flow", some "put"), "put", "Flow.put", defArgs s_Flow_put, defBody s_Flow_put, defScope s_Flow_put, [], []⟩
def d_Flow_land : He.DefD := ⟨("Flow", some "land"), "land", "Flow.land", defArgs s_Flow_land, defBody s_Flow_land, defScope s_Flow_land, [], []⟩
def d_Flow_begin : He.DefD := ⟨("Flow", some "begin"), "begin", "Flow.begin", defArgs s_Flow_begin, defBody s_Flow_begin, defScope s_Flow_begin, [], []⟩
def d_Flow_is_due : He.DefD := ⟨("Flow", some "is_due"), "is_due", "Flow.is_due", defArgs s_Flow_is_due, defBody s_Flow_is_due, defScope s_Flow_is_due, [], []⟩
def d_Flow_leave : He.DefD := ⟨("Flow", some "leave"), "leave", "Flow.leave", defArgs s_Flow_leave, defBody s_Flow_leave, defScope s_Flow_leave, [], []⟩
def d_Flow_next_tick : He.DefD := ⟨("Flow", some "next_tick"), "next_tick", "Flow.next_tick", defArgs s_Flow_next_tick, defBody s_Flow_next_tick, defScope s_Flow_next_tick, [], []⟩
def d_Course_init : He.DefD := ⟨("Course", some "__init__"), "__init__", "Course.__init__", defArgs s_Course_init, defBody s_Course_init, defScope s_Course_init, [], []⟩
def d_Course_pass_step : He.DefD := ⟨("Course", some "pass_step"), "pass_step", "Course.pass_step", defArgs s_Course_pass_step, defBody s_Course_pass_step, defScope s_Course_pass_step, [], []⟩
def d_Course_rests : He.DefD := ⟨("Course", some "rests"), "rests", "Course.rests", defArgs s_Course_rests, defBody s_Course_rests, defScope s_Course_rests, [], []⟩
def d_Course_do_step : He.DefD := ⟨("Course", some "do_step"), "do_step", "Course.do_step", defArgs s_Course_do_step, defBody s_Course_do_step, defScope s_Course_do_step, [], []⟩
def d_Course_go_on : He.DefD := ⟨("Course", some "go_on"), "go_on", "Course.go_on", defArgs s_Course_go_on, defBody s_Course_go_on, defScope s_Course_go_on, [], []⟩
def d_Run_init : He.DefD := ⟨("Run", some "__init__"), "__init__", "Run.__init__", defArgs s_Run_init, defBody s_Run_init, defScope s_Run_init, [], []⟩
def fn0 : List He.DefD := [d_is_integer, d_is_between, d_check_number, d_check_setting, d_is_amount, d_is_step, d_is_size, d_pause_steps, d_shortest, d_plain_steps, d_events, d_do_tick, d_run_of, d_ends_of, d_is_told_setting, d_is_told_line, d_line_of, d_is_program, d_is_pair, d_is_part, d_is_claim, d_is_empty, d_one_shown, d_holds, d_law_urn, d_law_dip, d_law_one, d_law_ways, d_law_told, d_law_plans]
def fn1 : List He.DefD := [d_law_least, d_law_begin, d_law_send, d_law_free, d_law_steps, d_law_tick, d_law_run, d_law_ends, d_law_odd, d_law_is_whole, d_law_is_step, d_law_plan_fault, d_law_bent_plan, d_law_is_ways, d_law_is_told, d_law_is_plan, d_law_other, d_law_judge, d_law_right, d_law, d_Setting_init, d_Line_init, d_Flow_init, d_Flow_kept, d_Flow_fresh, d_Flow_take_out, d_Flow_send, d_Flow_lets, d_Flow_let_go, d_Flow_put]
def fn2 : List He.DefD := [d_Flow_land, d_Flow_begin, d_Flow_is_due, d_Flow_leave, d_Flow_next_tick, d_Course_init, d_Course_pass_step, d_Course_rests, d_Course_do_step, d_Course_go_on, d_Run_init]
def fn : List He.DefD := fn0 ++ fn1 ++ fn2
def fa0 : List He.Fa := [(He.Fa.glo "is_integer"), (He.Fa.glo "is_between"), (He.Fa.glo "check_number"), (He.Fa.glo "check_setting"), (He.Fa.glo "is_amount"), (He.Fa.glo "is_step"), (He.Fa.glo "is_size"), (He.Fa.glo "pause_steps"), (He.Fa.glo "shortest"), (He.Fa.glo "plain_steps"), (He.Fa.glo "events"), (He.Fa.glo "do_tick"), (He.Fa.glo "run_of"), (He.Fa.glo "ends_of"), (He.Fa.glo "is_told_setting"), (He.Fa.glo "is_told_line"), (He.Fa.glo "line_of"), (He.Fa.glo "is_program"), (He.Fa.glo "is_pair"), (He.Fa.glo "is_part"), (He.Fa.glo "is_claim"), (He.Fa.glo "is_empty"), (He.Fa.glo "one_shown"), (He.Fa.glo "holds"), (He.Fa.glo "_law_urn"), (He.Fa.glo "_law_dip"), (He.Fa.glo "_law_one"), (He.Fa.glo "_law_ways"), (He.Fa.glo "_law_told"), (He.Fa.glo "_law_plans")]
def fa1 : List He.Fa := [(He.Fa.glo "_law_least"), (He.Fa.glo "_law_begin"), (He.Fa.glo "_law_send"), (He.Fa.glo "_law_free"), (He.Fa.glo "_law_steps"), (He.Fa.glo "_law_tick"), (He.Fa.glo "_law_run"), (He.Fa.glo "_law_ends"), (He.Fa.glo "_law_odd"), (He.Fa.glo "_law_is_whole"), (He.Fa.glo "_law_is_step"), (He.Fa.glo "_law_plan_fault"), (He.Fa.glo "_law_bent_plan"), (He.Fa.glo "_law_is_ways"), (He.Fa.glo "_law_is_told"), (He.Fa.glo "_law_is_plan"), (He.Fa.glo "_law_other"), (He.Fa.glo "_law_judge"), (He.Fa.glo "_law_right"), (He.Fa.glo "law"), (He.Fa.free "isinstance"), (He.Fa.free "int"), (He.Fa.free "bool"), (He.Fa.free "str"), (He.Fa.free "tuple"), (He.Fa.free "list"), (He.Fa.free "len"), (He.Fa.free "range"), (He.Fa.free "sum"), (He.Fa.free "max")]
def fa2 : List He.Fa := [(He.Fa.free "min"), (He.Fa.free "sorted"), (He.Fa.free "all"), (He.Fa.free "zip"), (He.Fa.free "repr"), (He.Fa.free "abs"), (He.Fa.free "divmod"), (He.Fa.int "MOST_SIZE" 40), (He.Fa.int "MOST_WAY" 200), (He.Fa.int "MOST_EVERY" 4), (He.Fa.int "MOST_DELAY" 200), (He.Fa.int "MOST_STEPS" 6), (He.Fa.int "MOST_BYTES" 60), (He.Fa.int "MOST_X" 2000), (He.Fa.str "LETTER" "x"), (He.Fa.glo "RULES"), (He.Fa.glo "FORMS"), (He.Fa.glo "Setting"), (He.Fa.cls "Setting"), (He.Fa.mkr "Setting"), (He.Fa.noat "Setting" "rule"), (He.Fa.noat "Setting" "every"), (He.Fa.noat "Setting" "delay"), (He.Fa.noat "Setting" "told"), (He.Fa.glo "Line"), (He.Fa.cls "Line"), (He.Fa.mkr "Line"), (He.Fa.noat "Line" "size"), (He.Fa.noat "Line" "way"), (He.Fa.noat "Line" "near")]
def fa3 : List He.Fa := [(He.Fa.noat "Line" "far"), (He.Fa.noat "Line" "told"), (He.Fa.glo "Flow"), (He.Fa.cls "Flow"), (He.Fa.mkr "Flow"), (He.Fa.noat "Flow" "line"), (He.Fa.noat "Flow" "settings"), (He.Fa.noat "Flow" "tick"), (He.Fa.noat "Flow" "stock"), (He.Fa.noat "Flow" "out"), (He.Fa.noat "Flow" "known"), (He.Fa.noat "Flow" "small"), (He.Fa.noat "Flow" "come"), (He.Fa.noat "Flow" "taken"), (He.Fa.noat "Flow" "full"), (He.Fa.noat "Flow" "first"), (He.Fa.noat "Flow" "long"), (He.Fa.noat "Flow" "flight"), (He.Fa.noat "Flow" "log"), (He.Fa.meth "Flow" "kept"), (He.Fa.meth "Flow" "fresh"), (He.Fa.meth "Flow" "take_out"), (He.Fa.meth "Flow" "send"), (He.Fa.meth "Flow" "lets"), (He.Fa.meth "Flow" "let_go"), (He.Fa.meth "Flow" "put"), (He.Fa.meth "Flow" "land"), (He.Fa.meth "Flow" "begin"), (He.Fa.meth "Flow" "is_due"), (He.Fa.meth "Flow" "leave")]
def fa4 : List He.Fa := [(He.Fa.meth "Flow" "next_tick"), (He.Fa.glo "Course"), (He.Fa.cls "Course"), (He.Fa.mkr "Course"), (He.Fa.noat "Course" "steps"), (He.Fa.noat "Course" "again"), (He.Fa.noat "Course" "place"), (He.Fa.noat "Course" "until"), (He.Fa.noat "Course" "ended"), (He.Fa.noat "Course" "begun"), (He.Fa.meth "Course" "pass_step"), (He.Fa.meth "Course" "rests"), (He.Fa.meth "Course" "do_step"), (He.Fa.meth "Course" "go_on"), (He.Fa.glo "Run"), (He.Fa.cls "Run"), (He.Fa.mkr "Run"), (He.Fa.noat "Run" "ends"), (He.Fa.noat "Run" "stuck"), (He.Fa.noat "Run" "pieces"), (He.Fa.noat "Run" "answers"), (He.Fa.noat "Run" "held"), (He.Fa.noat "Run" "unread"), (He.Fa.noat "Run" "quiet"), (He.Fa.noat "Run" "all")]
def fa : List He.Fa := fa0 ++ fa1 ++ fa2 ++ fa3 ++ fa4
def ts : List He.Tab := [(fun K => He.ga K "FORMS", [("ends" : Str), ("later" : Str), ("never later" : Str), ("beyond" : Str), ("within" : Str), ("pace" : Str), ("late choice" : Str), ("no late choice" : Str)])]
def tf : List He.Defn := [(("Run" : Str), some ("__init__" : Str))]
def endsAt (K : PySem.W.Frag) : Addr := match PySem.W.nsIn K (He.ga K "FORMS") "ends" with
  | some (some (.ref a)) => a
  | _ => 0
def tupAtB (K : PySem.W.Frag) (a : Addr) (vs : List V) : Bool := match K.lookup a with
  | some ⟨.type c, _, .seq its _, _⟩ => decide (c = "tuple") && (decide (its.size ≤ sizeLine) && He.relAll vs its.toList)
  | _ => false
def selfB (K : PySem.W.Frag) (C : Addr) : Bool := decide (PySem.W.findIn K (.ref C) "__class__" = some (some (.builtin "object.__class__"))) && (decide (PySem.W.specialIn K (.builtin "object.__class__") "__get__" = some (some (.builtin "getset_descriptor.__get__"))) &&
  (decide (PySem.W.takesIn K (.builtin "object.__class__") = some true) && decide (PySem.W.mroIn K C (.type "object") = some true)))
theorem selfB_ty {K : PySem.W.Frag} {C : Addr} (h : selfB K C = true) (c : Cls K C) {H : Hp} {a dx : Addr} {fs : List (Str × V)} (e : H a = some (.ins C dx fs)) : TyX K H (.ref a) (.ref C) := by
  obtain ⟨h1, h2⟩ := He.ba h
  obtain ⟨h2, h3⟩ := He.ba h2
  obtain ⟨h3, h4⟩ := He.ba h3
  exact .base (.ins e c (of_decide_eq_true h1) (of_decide_eq_true h2) (of_decide_eq_true h3) (of_decide_eq_true h4))
def ex1 (K : PySem.W.Frag) : Bool := He.tupB K "RULES" [.str "plain", .str "hold", .str "few"] && (decide (PySem.W.nsIn K (He.ga K "FORMS") "ends" = some (some (.ref (endsAt K)))) &&
  (tupAtB K (endsAt K) [.str "line", .str "program", .str "program", .str "size", .str "pair"] && decide (PySem.W.nsIn K (He.ga K "FORMS") "end" = some none)))
def ex (K : PySem.W.Frag) : Bool := selfB K (He.ga K "Setting") && ex1 K
theorem tupAtB_ok {K : PySem.W.Frag} {a : Addr} {vs : List V} (h : tupAtB K a vs = true) (H : Hp) : SqT K H a vs := by
  unfold tupAtB at h
  cases q : K.lookup a with
  | none =>
    rw [q] at h
    cases h
  | some o =>
    obtain ⟨oc, od, dt, osl⟩ := o
    rw [q] at h
    cases oc with
    | type c =>
      cases dt with
      | seq its n =>
        obtain ⟨h1, h2⟩ := He.ba (show (decide (c = "tuple") && (decide (its.size ≤ sizeLine) && He.relAll vs its.toList)) = true from h)
        obtain ⟨h3, h4⟩ := He.ba h2
        exact .inr ⟨_, its, n, q, congrArg Value.type (of_decide_eq_true h1), rfl, of_decide_eq_true h3, He.relAll_ok h4⟩
      | _ => cases h
    | _ => cases dt <;> cases h
/-! ### the part of the heap that is looked at: what the module's names hold, their code, their classes' methods -/
def rvs : Obj → List Addr
  | ⟨_, _, .dict es _, _⟩ => es.toList.flatMap fun e => He.refV e.val
  | _ => []
def one (g : Addr → Option Obj) (a : Addr) : List Addr := match g a with
  | some ⟨_, _, .func fd, _⟩ => He.refV fd.code
  | some ⟨_, _, .cls cd, _⟩ => cd.ns :: cd.mro.flatMap He.refV
  | some ⟨_, _, .dict es _, _⟩ => es.toList.flatMap fun e => He.refV e.val
  | _ => []
def nss (g : Addr → Option Obj) (a : Addr) : List Addr := match g a with
  | some ⟨_, _, .cls cd, _⟩ => cd.mro.flatMap fun m => match m with
    | .ref c => (match g c with
      | some ⟨_, _, .cls ce, _⟩ => [ce.ns]
      | _ => [])
    | _ => []
  | _ => []
def fewC : List Str := ["Setting", "Line", "Flow", "Course", "Run"]
def clsOf (g : Addr → Option Obj) : List Addr := match g mainGlobals with
  | some ⟨_, _, .dict es _, _⟩ => es.toList.flatMap fun e => match e.key with
    | .str x _ => if fewC.contains x then He.refV e.val else []
    | _ => []
  | _ => []
def asM (g : Addr → Option Obj) : List Addr := match g mainGlobals with
  | some o => (fun vs => (fun ns => (fun ms => mainGlobals :: (vs ++ (vs.flatMap (one g) ++ (ns ++ (ms ++ ms.flatMap (one g)))))) (ns.flatMap (one g))) ((clsOf g).flatMap (nss g))) (rvs o)
  | none => []
def obM (g : Addr → Option Obj) : He.AlX := (He.obsT fa fn ts (He.frT g (asM g)), ex (He.frT g (asM g)) && He.tabsB g tf (He.frT g (asM g)))
theorem saysM {w : World} {h : Heap} (e : obM h.get? = He.valX fn ts w) : He.SaysX fa fn ts tf ex w h (He.frT h.get? (asM h.get?)) := by
  have a1 := congrArg Prod.fst e
  have a2 : (ex (He.frT h.get? (asM h.get?)) && He.tabsB h.get? tf (He.frT h.get? (asM h.get?))) = true := congrArg Prod.snd e
  obtain ⟨b1, b2⟩ := Bool.and_eq_true_iff.mp a2
  have each : ∀ p ∈ tf, PySem.W.codeHdIn (He.frT h.get? (asM h.get?)) (He.cT (He.frT h.get? (asM h.get?)) p).1 (He.cT (He.frT h.get? (asM h.get?)) p).2 = true ∧ ∃ o, h.get? (He.cT (He.frT h.get? (asM h.get?)) p).2 = some o ∧ He.emptyTab o = true := by
    intro p hp
    have c := List.all_eq_true.mp b2 p hp
    obtain ⟨c1, c2⟩ := Bool.and_eq_true_iff.mp c
    refine ⟨c1, ?_⟩
    cases z : h.get? (He.cT (He.frT h.get? (asM h.get?)) p).2 with
    | some o => rw [z] at c2; exact ⟨o, rfl, c2⟩
    | none => rw [z] at c2; cases c2
  exact { t := a1, more := b1, hd := fun p hp => (each p hp).1,
          out := fun p hp => let ⟨_, o, q, z⟩ := each p hp; He.frT_none q z,
          empty := fun p hp => let ⟨_, o, q, z⟩ := each p hp; by rw [q, He.emptyTab_eq z] }
def hkM : PySem.W.Hook where
  α := He.AlX
  obs := fun s => obM s.heap.get?
  val := fun w => He.valX fn ts w
  says := fun w h => ∃ K : PySem.W.Frag, K.In h ∧ He.SaysX fa fn ts tf ex w h K
  of := fun _ _ e => ⟨_, He.frT_in, saysM e⟩
  keeps := fun _ _ _ ⟨K, hK, c⟩ k => ⟨K, hK.keeps k, { t := c.t, more := c.more, hd := c.hd, out := c.out, empty := fun p hp => k _ _ (c.empty p hp) }⟩
/-- all that is known of the text behind the top -/
structure Tx (K : PySem.W.Frag) (mg : Str → Option Value) (w : World) : Prop where
  t : He.SaysT fa fn ts w K
  x : ex K = true
  g : ∃ h : Heap, K.In h ∧ h.Ns mainGlobals mg
section
variable {K : PySem.W.Frag} {mg : Str → Option Value} {w : World}
theorem Tx.f (T : Tx K mg w) (i : Nat) {f : He.Fa} (h : fa[i]? = some f := by rfl) : f.ok K = true := T.t.d.fact i h
theorem Tx.glo (T : Tx K mg w) (i : Nat) {x : Str} (h : fa[i]? = some (.glo x) := by rfl) : mg x = some (.ref (He.ga K x)) := let ⟨_, a, b⟩ := T.g; He.glo_ok a b (T.f i h)
theorem Tx.free (T : Tx K mg w) (i : Nat) {x : Str} (h : fa[i]? = some (.free x) := by rfl) : mg x = none := let ⟨_, a, b⟩ := T.g; He.free_ok a b (T.f i h)
theorem Tx.int (T : Tx K mg w) (i : Nat) {x : Str} {n : Int} (h : fa[i]? = some (.int x n) := by rfl) : ∃ t, mg x = some (.int n t) := let ⟨_, a, b⟩ := T.g; He.int_ok a b (T.f i h)
theorem Tx.str (T : Tx K mg w) (i : Nat) {x z : Str} (h : fa[i]? = some (.str x z) := by rfl) : ∃ t, mg x = some (.str z t) := let ⟨_, a, b⟩ := T.g; He.str_ok a b (T.f i h)
theorem Tx.cls (T : Tx K mg w) (i : Nat) {x : Str} (h : fa[i]? = some (.cls x) := by rfl) : Cls K (He.ga K x) := He.cls_ok (T.f i h)
theorem Tx.mkr (T : Tx K mg w) (i : Nat) {x : Str} (h : fa[i]? = some (.mkr x) := by rfl) : Mk K (He.ga K x) (He.ma K (He.ga K x) "__init__") := He.mkr_ok (T.f i h)
theorem Tx.noat (T : Tx K mg w) (i : Nat) {x f : Str} (h : fa[i]? = some (.noat x f) := by rfl) : NoAttr K (He.ga K x) f := He.noat_ok (T.f i h)
theorem Tx.meth (T : Tx K mg w) (i : Nat) {x m : Str} (h : fa[i]? = some (.meth x m) := by rfl) : Meth K (He.ga K x) m (He.ma K (He.ga K x) m) := He.meth_ok (T.f i h)
theorem Tx.g_is_integer (T : Tx K mg w) : mg "is_integer" = some (.ref (He.ga K "is_integer")) := T.glo 0
theorem Tx.g_is_between (T : Tx K mg w) : mg "is_between" = some (.ref (He.ga K "is_between")) := T.glo 1
theorem Tx.g_check_number (T : Tx K mg w) : mg "check_number" = some (.ref (He.ga K "check_number")) := T.glo 2
theorem Tx.g_check_setting (T : Tx K mg w) : mg "check_setting" = some (.ref (He.ga K "check_setting")) := T.glo 3
theorem Tx.g_is_amount (T : Tx K mg w) : mg "is_amount" = some (.ref (He.ga K "is_amount")) := T.glo 4
theorem Tx.g_is_step (T : Tx K mg w) : mg "is_step" = some (.ref (He.ga K "is_step")) := T.glo 5
theorem Tx.g_is_size (T : Tx K mg w) : mg "is_size" = some (.ref (He.ga K "is_size")) := T.glo 6
theorem Tx.g_pause_steps (T : Tx K mg w) : mg "pause_steps" = some (.ref (He.ga K "pause_steps")) := T.glo 7
theorem Tx.g_shortest (T : Tx K mg w) : mg "shortest" = some (.ref (He.ga K "shortest")) := T.glo 8
theorem Tx.g_plain_steps (T : Tx K mg w) : mg "plain_steps" = some (.ref (He.ga K "plain_steps")) := T.glo 9
theorem Tx.g_events (T : Tx K mg w) : mg "events" = some (.ref (He.ga K "events")) := T.glo 10
theorem Tx.g_do_tick (T : Tx K mg w) : mg "do_tick" = some (.ref (He.ga K "do_tick")) := T.glo 11
theorem Tx.g_run_of (T : Tx K mg w) : mg "run_of" = some (.ref (He.ga K "run_of")) := T.glo 12
theorem Tx.g_ends_of (T : Tx K mg w) : mg "ends_of" = some (.ref (He.ga K "ends_of")) := T.glo 13
theorem Tx.g_is_told_setting (T : Tx K mg w) : mg "is_told_setting" = some (.ref (He.ga K "is_told_setting")) := T.glo 14
theorem Tx.g_is_told_line (T : Tx K mg w) : mg "is_told_line" = some (.ref (He.ga K "is_told_line")) := T.glo 15
theorem Tx.g_line_of (T : Tx K mg w) : mg "line_of" = some (.ref (He.ga K "line_of")) := T.glo 16
theorem Tx.g_is_program (T : Tx K mg w) : mg "is_program" = some (.ref (He.ga K "is_program")) := T.glo 17
theorem Tx.g_is_pair (T : Tx K mg w) : mg "is_pair" = some (.ref (He.ga K "is_pair")) := T.glo 18
theorem Tx.g_is_part (T : Tx K mg w) : mg "is_part" = some (.ref (He.ga K "is_part")) := T.glo 19
theorem Tx.g_is_claim (T : Tx K mg w) : mg "is_claim" = some (.ref (He.ga K "is_claim")) := T.glo 20
theorem Tx.g_is_empty (T : Tx K mg w) : mg "is_empty" = some (.ref (He.ga K "is_empty")) := T.glo 21
theorem Tx.g_one_shown (T : Tx K mg w) : mg "one_shown" = some (.ref (He.ga K "one_shown")) := T.glo 22
theorem Tx.g_holds (T : Tx K mg w) : mg "holds" = some (.ref (He.ga K "holds")) := T.glo 23
theorem Tx.g_law_urn (T : Tx K mg w) : mg "_law_urn" = some (.ref (He.ga K "_law_urn")) := T.glo 24
theorem Tx.g_law_dip (T : Tx K mg w) : mg "_law_dip" = some (.ref (He.ga K "_law_dip")) := T.glo 25
theorem Tx.g_law_one (T : Tx K mg w) : mg "_law_one" = some (.ref (He.ga K "_law_one")) := T.glo 26
theorem Tx.g_law_ways (T : Tx K mg w) : mg "_law_ways" = some (.ref (He.ga K "_law_ways")) := T.glo 27
theorem Tx.g_law_told (T : Tx K mg w) : mg "_law_told" = some (.ref (He.ga K "_law_told")) := T.glo 28
theorem Tx.g_law_plans (T : Tx K mg w) : mg "_law_plans" = some (.ref (He.ga K "_law_plans")) := T.glo 29
theorem Tx.g_law_least (T : Tx K mg w) : mg "_law_least" = some (.ref (He.ga K "_law_least")) := T.glo 30
theorem Tx.g_law_begin (T : Tx K mg w) : mg "_law_begin" = some (.ref (He.ga K "_law_begin")) := T.glo 31
theorem Tx.g_law_send (T : Tx K mg w) : mg "_law_send" = some (.ref (He.ga K "_law_send")) := T.glo 32
theorem Tx.g_law_free (T : Tx K mg w) : mg "_law_free" = some (.ref (He.ga K "_law_free")) := T.glo 33
theorem Tx.g_law_steps (T : Tx K mg w) : mg "_law_steps" = some (.ref (He.ga K "_law_steps")) := T.glo 34
theorem Tx.g_law_tick (T : Tx K mg w) : mg "_law_tick" = some (.ref (He.ga K "_law_tick")) := T.glo 35
theorem Tx.g_law_run (T : Tx K mg w) : mg "_law_run" = some (.ref (He.ga K "_law_run")) := T.glo 36
theorem Tx.g_law_ends (T : Tx K mg w) : mg "_law_ends" = some (.ref (He.ga K "_law_ends")) := T.glo 37
theorem Tx.g_law_odd (T : Tx K mg w) : mg "_law_odd" = some (.ref (He.ga K "_law_odd")) := T.glo 38
theorem Tx.g_law_is_whole (T : Tx K mg w) : mg "_law_is_whole" = some (.ref (He.ga K "_law_is_whole")) := T.glo 39
theorem Tx.g_law_is_step (T : Tx K mg w) : mg "_law_is_step" = some (.ref (He.ga K "_law_is_step")) := T.glo 40
theorem Tx.g_law_plan_fault (T : Tx K mg w) : mg "_law_plan_fault" = some (.ref (He.ga K "_law_plan_fault")) := T.glo 41
theorem Tx.g_law_bent_plan (T : Tx K mg w) : mg "_law_bent_plan" = some (.ref (He.ga K "_law_bent_plan")) := T.glo 42
theorem Tx.g_law_is_ways (T : Tx K mg w) : mg "_law_is_ways" = some (.ref (He.ga K "_law_is_ways")) := T.glo 43
theorem Tx.g_law_is_told (T : Tx K mg w) : mg "_law_is_told" = some (.ref (He.ga K "_law_is_told")) := T.glo 44
theorem Tx.g_law_is_plan (T : Tx K mg w) : mg "_law_is_plan" = some (.ref (He.ga K "_law_is_plan")) := T.glo 45
theorem Tx.g_law_other (T : Tx K mg w) : mg "_law_other" = some (.ref (He.ga K "_law_other")) := T.glo 46
theorem Tx.g_law_judge (T : Tx K mg w) : mg "_law_judge" = some (.ref (He.ga K "_law_judge")) := T.glo 47
theorem Tx.g_law_right (T : Tx K mg w) : mg "_law_right" = some (.ref (He.ga K "_law_right")) := T.glo 48
theorem Tx.g_law (T : Tx K mg w) : mg "law" = some (.ref (He.ga K "law")) := T.glo 49
theorem Tx.n_isinstance (T : Tx K mg w) : mg "isinstance" = none := T.free 50
theorem Tx.n_int (T : Tx K mg w) : mg "int" = none := T.free 51
theorem Tx.n_bool (T : Tx K mg w) : mg "bool" = none := T.free 52
theorem Tx.n_str (T : Tx K mg w) : mg "str" = none := T.free 53
theorem Tx.n_tuple (T : Tx K mg w) : mg "tuple" = none := T.free 54
theorem Tx.n_list (T : Tx K mg w) : mg "list" = none := T.free 55
theorem Tx.n_len (T : Tx K mg w) : mg "len" = none := T.free 56
theorem Tx.n_range (T : Tx K mg w) : mg "range" = none := T.free 57
theorem Tx.n_sum (T : Tx K mg w) : mg "sum" = none := T.free 58
theorem Tx.n_max (T : Tx K mg w) : mg "max" = none := T.free 59
theorem Tx.n_min (T : Tx K mg w) : mg "min" = none := T.free 60
theorem Tx.n_sorted (T : Tx K mg w) : mg "sorted" = none := T.free 61
theorem Tx.n_all (T : Tx K mg w) : mg "all" = none := T.free 62
theorem Tx.n_zip (T : Tx K mg w) : mg "zip" = none := T.free 63
theorem Tx.n_repr (T : Tx K mg w) : mg "repr" = none := T.free 64
theorem Tx.n_abs (T : Tx K mg w) : mg "abs" = none := T.free 65
theorem Tx.n_divmod (T : Tx K mg w) : mg "divmod" = none := T.free 66
theorem Tx.i_MOST_SIZE (T : Tx K mg w) : ∃ t, mg "MOST_SIZE" = some (.int 40 t) := T.int 67
theorem Tx.i_MOST_WAY (T : Tx K mg w) : ∃ t, mg "MOST_WAY" = some (.int 200 t) := T.int 68
theorem Tx.i_MOST_EVERY (T : Tx K mg w) : ∃ t, mg "MOST_EVERY" = some (.int 4 t) := T.int 69
theorem Tx.i_MOST_DELAY (T : Tx K mg w) : ∃ t, mg "MOST_DELAY" = some (.int 200 t) := T.int 70
theorem Tx.i_MOST_STEPS (T : Tx K mg w) : ∃ t, mg "MOST_STEPS" = some (.int 6 t) := T.int 71
theorem Tx.i_MOST_BYTES (T : Tx K mg w) : ∃ t, mg "MOST_BYTES" = some (.int 60 t) := T.int 72
theorem Tx.i_MOST_X (T : Tx K mg w) : ∃ t, mg "MOST_X" = some (.int 2000 t) := T.int 73
theorem Tx.s_LETTER (T : Tx K mg w) : ∃ t, mg "LETTER" = some (.str "x" t) := T.str 74
theorem Tx.g_RULES (T : Tx K mg w) : mg "RULES" = some (.ref (He.ga K "RULES")) := T.glo 75
theorem Tx.g_FORMS (T : Tx K mg w) : mg "FORMS" = some (.ref (He.ga K "FORMS")) := T.glo 76
theorem Tx.g_Setting (T : Tx K mg w) : mg "Setting" = some (.ref (He.ga K "Setting")) := T.glo 77
theorem Tx.c_Setting (T : Tx K mg w) : Cls K (He.ga K "Setting") := T.cls 78
theorem Tx.k_Setting (T : Tx K mg w) : Mk K (He.ga K "Setting") (He.ma K (He.ga K "Setting") "__init__") := T.mkr 79
theorem Tx.a_Setting_rule (T : Tx K mg w) : NoAttr K (He.ga K "Setting") "rule" := T.noat 80
theorem Tx.a_Setting_every (T : Tx K mg w) : NoAttr K (He.ga K "Setting") "every" := T.noat 81
theorem Tx.a_Setting_delay (T : Tx K mg w) : NoAttr K (He.ga K "Setting") "delay" := T.noat 82
theorem Tx.a_Setting_told (T : Tx K mg w) : NoAttr K (He.ga K "Setting") "told" := T.noat 83
theorem Tx.g_Line (T : Tx K mg w) : mg "Line" = some (.ref (He.ga K "Line")) := T.glo 84
theorem Tx.c_Line (T : Tx K mg w) : Cls K (He.ga K "Line") := T.cls 85
theorem Tx.k_Line (T : Tx K mg w) : Mk K (He.ga K "Line") (He.ma K (He.ga K "Line") "__init__") := T.mkr 86
theorem Tx.a_Line_size (T : Tx K mg w) : NoAttr K (He.ga K "Line") "size" := T.noat 87
theorem Tx.a_Line_way (T : Tx K mg w) : NoAttr K (He.ga K "Line") "way" := T.noat 88
theorem Tx.a_Line_near (T : Tx K mg w) : NoAttr K (He.ga K "Line") "near" := T.noat 89
theorem Tx.a_Line_far (T : Tx K mg w) : NoAttr K (He.ga K "Line") "far" := T.noat 90
theorem Tx.a_Line_told (T : Tx K mg w) : NoAttr K (He.ga K "Line") "told" := T.noat 91
theorem Tx.g_Flow (T : Tx K mg w) : mg "Flow" = some (.ref (He.ga K "Flow")) := T.glo 92
theorem Tx.c_Flow (T : Tx K mg w) : Cls K (He.ga K "Flow") := T.cls 93
theorem Tx.k_Flow (T : Tx K mg w) : Mk K (He.ga K "Flow") (He.ma K (He.ga K "Flow") "__init__") := T.mkr 94
theorem Tx.a_Flow_line (T : Tx K mg w) : NoAttr K (He.ga K "Flow") "line" := T.noat 95
theorem Tx.a_Flow_settings (T : Tx K mg w) : NoAttr K (He.ga K "Flow") "settings" := T.noat 96
theorem Tx.a_Flow_tick (T : Tx K mg w) : NoAttr K (He.ga K "Flow") "tick" := T.noat 97
theorem Tx.a_Flow_stock (T : Tx K mg w) : NoAttr K (He.ga K "Flow") "stock" := T.noat 98
theorem Tx.a_Flow_out (T : Tx K mg w) : NoAttr K (He.ga K "Flow") "out" := T.noat 99
theorem Tx.a_Flow_known (T : Tx K mg w) : NoAttr K (He.ga K "Flow") "known" := T.noat 100
theorem Tx.a_Flow_small (T : Tx K mg w) : NoAttr K (He.ga K "Flow") "small" := T.noat 101
theorem Tx.a_Flow_come (T : Tx K mg w) : NoAttr K (He.ga K "Flow") "come" := T.noat 102
theorem Tx.a_Flow_taken (T : Tx K mg w) : NoAttr K (He.ga K "Flow") "taken" := T.noat 103
theorem Tx.a_Flow_full (T : Tx K mg w) : NoAttr K (He.ga K "Flow") "full" := T.noat 104
theorem Tx.a_Flow_first (T : Tx K mg w) : NoAttr K (He.ga K "Flow") "first" := T.noat 105
theorem Tx.a_Flow_long (T : Tx K mg w) : NoAttr K (He.ga K "Flow") "long" := T.noat 106
theorem Tx.a_Flow_flight (T : Tx K mg w) : NoAttr K (He.ga K "Flow") "flight" := T.noat 107
theorem Tx.a_Flow_log (T : Tx K mg w) : NoAttr K (He.ga K "Flow") "log" := T.noat 108
theorem Tx.m_Flow_kept (T : Tx K mg w) : Meth K (He.ga K "Flow") "kept" (He.ma K (He.ga K "Flow") "kept") := T.meth 109
theorem Tx.m_Flow_fresh (T : Tx K mg w) : Meth K (He.ga K "Flow") "fresh" (He.ma K (He.ga K "Flow") "fresh") := T.meth 110
theorem Tx.m_Flow_take_out (T : Tx K mg w) : Meth K (He.ga K "Flow") "take_out" (He.ma K (He.ga K "Flow") "take_out") := T.meth 111
theorem Tx.m_Flow_send (T : Tx K mg w) : Meth K (He.ga K "Flow") "send" (He.ma K (He.ga K "Flow") "send") := T.meth 112
theorem Tx.m_Flow_lets (T : Tx K mg w) : Meth K (He.ga K "Flow") "lets" (He.ma K (He.ga K "Flow") "lets") := T.meth 113
theorem Tx.m_Flow_let_go (T : Tx K mg w) : Meth K (He.ga K "Flow") "let_go" (He.ma K (He.ga K "Flow") "let_go") := T.meth 114
theorem Tx.m_Flow_put (T : Tx K mg w) : Meth K (He.ga K "Flow") "put" (He.ma K (He.ga K "Flow") "put") := T.meth 115
theorem Tx.m_Flow_land (T : Tx K mg w) : Meth K (He.ga K "Flow") "land" (He.ma K (He.ga K "Flow") "land") := T.meth 116
theorem Tx.m_Flow_begin (T : Tx K mg w) : Meth K (He.ga K "Flow") "begin" (He.ma K (He.ga K "Flow") "begin") := T.meth 117
theorem Tx.m_Flow_is_due (T : Tx K mg w) : Meth K (He.ga K "Flow") "is_due" (He.ma K (He.ga K "Flow") "is_due") := T.meth 118
theorem Tx.m_Flow_leave (T : Tx K mg w) : Meth K (He.ga K "Flow") "leave" (He.ma K (He.ga K "Flow") "leave") := T.meth 119
theorem Tx.m_Flow_next_tick (T : Tx K mg w) : Meth K (He.ga K "Flow") "next_tick" (He.ma K (He.ga K "Flow") "next_tick") := T.meth 120
theorem Tx.g_Course (T : Tx K mg w) : mg "Course" = some (.ref (He.ga K "Course")) := T.glo 121
theorem Tx.c_Course (T : Tx K mg w) : Cls K (He.ga K "Course") := T.cls 122
theorem Tx.k_Course (T : Tx K mg w) : Mk K (He.ga K "Course") (He.ma K (He.ga K "Course") "__init__") := T.mkr 123
theorem Tx.a_Course_steps (T : Tx K mg w) : NoAttr K (He.ga K "Course") "steps" := T.noat 124
theorem Tx.a_Course_again (T : Tx K mg w) : NoAttr K (He.ga K "Course") "again" := T.noat 125
theorem Tx.a_Course_place (T : Tx K mg w) : NoAttr K (He.ga K "Course") "place" := T.noat 126
theorem Tx.a_Course_until (T : Tx K mg w) : NoAttr K (He.ga K "Course") "until" := T.noat 127
theorem Tx.a_Course_ended (T : Tx K mg w) : NoAttr K (He.ga K "Course") "ended" := T.noat 128
theorem Tx.a_Course_begun (T : Tx K mg w) : NoAttr K (He.ga K "Course") "begun" := T.noat 129
theorem Tx.m_Course_pass_step (T : Tx K mg w) : Meth K (He.ga K "Course") "pass_step" (He.ma K (He.ga K "Course") "pass_step") := T.meth 130
theorem Tx.m_Course_rests (T : Tx K mg w) : Meth K (He.ga K "Course") "rests" (He.ma K (He.ga K "Course") "rests") := T.meth 131
theorem Tx.m_Course_do_step (T : Tx K mg w) : Meth K (He.ga K "Course") "do_step" (He.ma K (He.ga K "Course") "do_step") := T.meth 132
theorem Tx.m_Course_go_on (T : Tx K mg w) : Meth K (He.ga K "Course") "go_on" (He.ma K (He.ga K "Course") "go_on") := T.meth 133
theorem Tx.g_Run (T : Tx K mg w) : mg "Run" = some (.ref (He.ga K "Run")) := T.glo 134
theorem Tx.c_Run (T : Tx K mg w) : Cls K (He.ga K "Run") := T.cls 135
theorem Tx.k_Run (T : Tx K mg w) : Mk K (He.ga K "Run") (He.ma K (He.ga K "Run") "__init__") := T.mkr 136
theorem Tx.a_Run_ends (T : Tx K mg w) : NoAttr K (He.ga K "Run") "ends" := T.noat 137
theorem Tx.a_Run_stuck (T : Tx K mg w) : NoAttr K (He.ga K "Run") "stuck" := T.noat 138
theorem Tx.a_Run_pieces (T : Tx K mg w) : NoAttr K (He.ga K "Run") "pieces" := T.noat 139
theorem Tx.a_Run_answers (T : Tx K mg w) : NoAttr K (He.ga K "Run") "answers" := T.noat 140
theorem Tx.a_Run_held (T : Tx K mg w) : NoAttr K (He.ga K "Run") "held" := T.noat 141
theorem Tx.a_Run_unread (T : Tx K mg w) : NoAttr K (He.ga K "Run") "unread" := T.noat 142
theorem Tx.a_Run_quiet (T : Tx K mg w) : NoAttr K (He.ga K "Run") "quiet" := T.noat 143
theorem Tx.a_Run_all (T : Tx K mg w) : NoAttr K (He.ga K "Run") "all" := T.noat 144
theorem Tx.rules (T : Tx K mg w) (H : Hp) : SqT K H (He.ga K "RULES") [.str "plain", .str "hold", .str "few"] := He.tupB_ok (vs := [.str "plain", .str "hold", .str "few"]) (He.ba (He.ba T.x).2).1 H
theorem Tx.forms_ends (T : Tx K mg w) : PySem.W.nsIn K (He.ga K "FORMS") "ends" = some (some (.ref (endsAt K))) := of_decide_eq_true (He.ba (He.ba (He.ba T.x).2).2).1
theorem Tx.forms_tup (T : Tx K mg w) (H : Hp) : SqT K H (endsAt K) [.str "line", .str "program", .str "program", .str "size", .str "pair"] := tupAtB_ok (He.ba (He.ba (He.ba (He.ba T.x).2).2).2).1 H
theorem Tx.forms_end (T : Tx K mg w) : PySem.W.nsIn K (He.ga K "FORMS") "end" = some none := of_decide_eq_true (He.ba (He.ba (He.ba (He.ba T.x).2).2).2).2
theorem Tx.selfS (T : Tx K mg w) : selfB K (He.ga K "Setting") = true := (He.ba T.x).1
theorem Tx.forms (T : Tx K mg w) : ∃ es n, KDict K w (He.ga K "FORMS") es n := T.t.tab 0
theorem Tx.def_ (T : Tx K mg w) (i : Nat) {d : He.DefD} (h : fn[i]? = some d := by rfl) : ∃ fd, FunD K d.name d.qual d.params d.body d.scope (d.dvs K) (d.kws K) (He.fAd K d.at_) fd := T.t.d.def_ i h
def ix_is_integer : Nat := 0
def ix_is_between : Nat := 1
def ix_check_number : Nat := 2
def ix_check_setting : Nat := 3
def ix_is_amount : Nat := 4
def ix_is_step : Nat := 5
def ix_is_size : Nat := 6
def ix_pause_steps : Nat := 7
def ix_shortest : Nat := 8
def ix_plain_steps : Nat := 9
def ix_events : Nat := 10
def ix_do_tick : Nat := 11
def ix_run_of : Nat := 12
def ix_ends_of : Nat := 13
def ix_is_told_setting : Nat := 14
def ix_is_told_line : Nat := 15
def ix_line_of : Nat := 16
def ix_is_program : Nat := 17
def ix_is_pair : Nat := 18
def ix_is_part : Nat := 19
def ix_is_claim : Nat := 20
def ix_is_empty : Nat := 21
def ix_one_shown : Nat := 22
def ix_holds : Nat := 23
def ix_law_urn : Nat := 24
def ix_law_dip : Nat := 25
def ix_law_one : Nat := 26
def ix_law_ways : Nat := 27
def ix_law_told : Nat := 28
def ix_law_plans : Nat := 29
def ix_law_least : Nat := 30
def ix_law_begin : Nat := 31
def ix_law_send : Nat := 32
def ix_law_free : Nat := 33
def ix_law_steps : Nat := 34
def ix_law_tick : Nat := 35
def ix_law_run : Nat := 36
def ix_law_ends : Nat := 37
def ix_law_odd : Nat := 38
def ix_law_is_whole : Nat := 39
def ix_law_is_step : Nat := 40
def ix_law_plan_fault : Nat := 41
def ix_law_bent_plan : Nat := 42
def ix_law_is_ways : Nat := 43
def ix_law_is_told : Nat := 44
def ix_law_is_plan : Nat := 45
def ix_law_other : Nat := 46
def ix_law_judge : Nat := 47
def ix_law_right : Nat := 48
def ix_law : Nat := 49
def ix_Setting_init : Nat := 50
def ix_Line_init : Nat := 51
def ix_Flow_init : Nat := 52
def ix_Flow_kept : Nat := 53
def ix_Flow_fresh : Nat := 54
def ix_Flow_take_out : Nat := 55
def ix_Flow_send : Nat := 56
def ix_Flow_lets : Nat := 57
def ix_Flow_let_go : Nat := 58
def ix_Flow_put : Nat := 59
def ix_Flow_land : Nat := 60
def ix_Flow_begin : Nat := 61
def ix_Flow_is_due : Nat := 62
def ix_Flow_leave : Nat := 63
def ix_Flow_next_tick : Nat := 64
def ix_Course_init : Nat := 65
def ix_Course_pass_step : Nat := 66
def ix_Course_rests : Nat := 67
def ix_Course_do_step : Nat := 68
def ix_Course_go_on : Nat := 69
def ix_Run_init : Nat := 70
end
end Sm

set_option maxHeartbeats 0
/-! The head: the top's run. -/
namespace Sm
open PySem PySem.W PySem.Calls PyProof.Rows
abbrev R : OpenRow := OpenLaw.row PySem.Challenge.rw_smallheld_k50_whole_claims_of_ends
abbrev qv : Program := view R.prog [104]
def nm0 : List PySem.Str := [("_wall" : PySem.Str), ("MOST_SIZE" : PySem.Str), ("MOST_WAY" : PySem.Str), ("MOST_EVERY" : PySem.Str), ("MOST_DELAY" : PySem.Str), ("MOST_STEPS" : PySem.Str), ("MOST_BYTES" : PySem.Str), ("MOST_X" : PySem.Str), ("MOST_CHOICES" : PySem.Str), ("__name__" : PySem.Str), ("InputError" : PySem.Str), ("NotASetting" : PySem.Str), ("InvalidRule" : PySem.Str), ("InvalidNumber" : PySem.Str), ("RULES" : PySem.Str), ("is_integer" : PySem.Str), ("is_between" : PySem.Str), ("check_number" : PySem.Str), ("Setting" : PySem.Str), ("check_setting" : PySem.Str), ("Line" : PySem.Str), ("LETTER" : PySem.Str), ("is_amount" : PySem.Str), ("is_step" : PySem.Str), ("is_size" : PySem.Str), ("pause_steps" : PySem.Str), ("shortest" : PySem.Str), ("plain_steps" : PySem.Str), ("amounts" : PySem.Str), ("Flow" : PySem.Str), ("Course" : PySem.Str), ("events" : PySem.Str), ("do_tick" : PySem.Str), ("Run" : PySem.Str), ("run_of" : PySem.Str)]
def nm1 : List PySem.Str := [("ends_of" : PySem.Str), ("is_within" : PySem.Str), ("MOST_LIMIT" : PySem.Str), ("settled" : PySem.Str), ("table" : PySem.Str), ("ends_at" : PySem.Str), ("first_place" : PySem.Str), ("is_later" : PySem.Str), ("later_size" : PySem.Str), ("beyond_size" : PySem.Str), ("count_choices" : PySem.Str), ("all_choices" : PySem.Str), ("late_of" : PySem.Str), ("total" : PySem.Str), ("is_balanced" : PySem.Str), ("courses_of" : PySem.Str), ("seen_side" : PySem.Str), ("seen" : PySem.Str), ("least_pace" : PySem.Str), ("pace_of" : PySem.Str), ("FORMS" : PySem.Str), ("is_told_setting" : PySem.Str), ("is_told_line" : PySem.Str), ("line_of" : PySem.Str), ("is_program" : PySem.Str), ("is_pair" : PySem.Str), ("is_part" : PySem.Str), ("is_claim" : PySem.Str), ("is_empty" : PySem.Str), ("is_choice" : PySem.Str), ("later_shown" : PySem.Str), ("limit_shown" : PySem.Str), ("choice_shown" : PySem.Str), ("one_shown" : PySem.Str), ("holds" : PySem.Str)]
def nm2 : List PySem.Str := [("_law_urn" : PySem.Str), ("_law_dip" : PySem.Str), ("_law_one" : PySem.Str), ("_law_ways" : PySem.Str), ("_law_told" : PySem.Str), ("_law_plans" : PySem.Str), ("_law_least" : PySem.Str), ("_law_begin" : PySem.Str), ("_law_send" : PySem.Str), ("_law_free" : PySem.Str), ("_law_steps" : PySem.Str), ("_law_tick" : PySem.Str), ("_law_run" : PySem.Str), ("_law_ends" : PySem.Str), ("_law_odd" : PySem.Str), ("_law_is_whole" : PySem.Str), ("_law_is_step" : PySem.Str), ("_law_plan_fault" : PySem.Str), ("_law_bent_plan" : PySem.Str), ("_law_is_ways" : PySem.Str), ("_law_is_told" : PySem.Str), ("_law_is_plan" : PySem.Str), ("_law_other" : PySem.Str), ("_law_judge" : PySem.Str), ("_law_right" : PySem.Str)]
def names : List PySem.Str := nm0 ++ nm1 ++ nm2
def ob (s : SharedT) : He.AlX := obM (HandSHeadRun.getT s)
theorem ob_eq (s : SharedT) : ob s = hkM.obs s.abs := congrArg obM (funext (HandSHeadRun.getT_eq s))
theorem run_f (w : World) : HandSHeadRun.RunEq R qv hkM ob 6500 names (w.withFollow "special-get-raises" false) := by
  intro os
  kernel_rfl
theorem run_t (w : World) : HandSHeadRun.RunEq R qv hkM ob 6500 names (w.withFollow "special-get-raises" true) := by
  intro os
  kernel_rfl
theorem run (w : World) : HandSHeadRun.RunEq R qv hkM ob 6500 names w := byRow2 "special-get-raises" (P := fun w => HandSHeadRun.RunEq R qv hkM ob 6500 names w) run_f run_t w
end Sm

set_option maxHeartbeats 0
/-! The head: all but the walk. -/
namespace Sm
open PySem PySem.W PySem.Calls PyProof.Rows
abbrev dLaw : DefRec := HandSHeadRun.topDef R.prog 104
theorem law_name : dLaw.name = ("law" : PySem.Str) := by kernel_rfl
theorem no_dflt : dLaw.params.defaults = [] := by kernel_rfl
theorem of_walk (call : WalkO qv names (XL qv []) hkM.says (PySem.Challenge.rw_smallheld_k50_whole_claims_of_ends).row.toRowW dLaw [] fun f vs => PySem.call f vs) : PySem.Challenge.rw_smallheld_k50_whole_claims_of_ends.Holds := by
  w_on; o_law
  refine HandSHeadRun.head_any (r := R) (q := qv) (H := hkM) (ob := ob) (M := 6500) (loose := names) (d := dLaw) (kwd := []) ob_eq (by kernel_rfl)
    (fun s => by kernel_rfl) run (by kernel_rfl) (by kernel_rfl) (by kernel_rfl) (by rfl)
    (by first | assumption | decide +kernel) (by decide +kernel) ⟨rfl, rfl, rfl, rfl, rfl, by decide +kernel⟩ ?hw call
  case hw => w_witness2
end Sm

/-! The mirror: what a tick of the law's own world does, in plain Lean. No program in sight. -/
namespace Sm

/-- the word of a step that is left -/
inductive Wd | wr | rd | pa
  deriving DecidableEq
/-- a holding rule -/
inductive Ru | plain | hold | few
  deriving DecidableEq

structure Sd where
  todo : List (Wd × Int)
  kept : Int
  out : Int
  known : Int
  small : Int
  come : Int
  used : Int
  full : Int
  since : Option Int
  til : Option Int
  fin : Option Int

structure Pc where
  t : Int
  k : Bool
  m : Int
  a : Int

structure Sh where
  size : Int
  way : Int
  rule : Bool → Ru
  every : Bool → Int
  delay : Bool → Int

structure Wo where
  tick : Int
  log : List Pc
  sd : Bool → Sd

def Wo.put (W : Wo) (k : Bool) (s : Sd) : Wo := { W with sd := fun j => if j = k then s else W.sd j }
theorem Wo.put_same (W : Wo) (k : Bool) (s : Sd) : (W.put k s).sd k = s := if_pos rfl
theorem Wo.put_other (W : Wo) (k : Bool) (s : Sd) : (W.put k s).sd (!k) = W.sd (!k) := if_neg (by cases k <;> decide)
theorem Wo.put_other' (W : Wo) (k : Bool) (s : Sd) : (W.put (!k) s).sd k = W.sd k := if_neg (by cases k <;> decide)

variable (S : Sh)

/-- a piece goes -/
def send (W : Wo) (k : Bool) (m : Int) : Wo :=
  { tick := W.tick
    log := W.log ++ [⟨W.tick, k, m, (W.sd k).come⟩]
    sd := fun j => if j = k then
      { W.sd k with
        kept := (W.sd k).kept - m
        out := (W.sd k).out + m
        small := if 0 < m ∧ m < S.size then (W.sd k).out + m else (W.sd k).small
        full := 0
        since := none } else W.sd j }

def fulls (W : Wo) (k : Bool) : Nat → Wo
  | 0 => W
  | n + 1 => send S (fulls W k n) k S.size

def mark (W : Wo) (k : Bool) : Int := match S.rule k with
  | .plain => 0
  | .hold => (W.sd k).out
  | .few => (W.sd k).small

/-- how many full pieces go -/
def many (W : Wo) (k : Bool) : Nat := ((W.sd k).kept / S.size).toNat
/-- the rest goes where the rule lets it -/
def rest (W : Wo) (k : Bool) : Wo :=
  if 0 < (W.sd k).kept ∧ mark S W k ≤ (W.sd k).known then send S W k (W.sd k).kept else W
def free (W : Wo) (k : Bool) : Wo := rest S (fulls S W k (many S W k)) k

/-- behind a step -/
def pass (W : Wo) (k : Bool) (u : Int) : Wo :=
  W.put k { W.sd k with
    used := (W.sd k).used + u
    til := none
    todo := (W.sd k).todo.tail
    fin := if (W.sd k).todo.tail = [] then some W.tick else none }

/-- one step: what stands behind it, and whether the program goes on -/
def step (W : Wo) (k : Bool) : Wo × Bool := match (W.sd k).todo with
  | [] => (W, false)
  | (.pa, n) :: _ =>
    if W.tick < (W.sd k).til.getD (W.tick + n) then (W.put k { W.sd k with til := some ((W.sd k).til.getD (W.tick + n)) }, false)
    else (pass W k 0, true)
  | (.rd, n) :: _ => if (W.sd k).come - (W.sd k).used < n then (W, false) else (pass W k n, true)
  | (.wr, n) :: _ => (pass (free S (W.put k { W.sd k with kept := (W.sd k).kept + n }) k) k 0, true)

def steps (W : Wo) (k : Bool) : Nat → Wo
  | 0 => W
  | n + 1 => if (step S W k).2 = true then steps (step S W k).1 k n else (step S W k).1
def goes (W : Wo) (k : Bool) : Wo := steps S W k (W.sd k).todo.length

/-- a piece arrives -/
def land (W : Wo) (p : Pc) : Wo :=
  W.put (!p.k) { W.sd (!p.k) with
    known := max (W.sd (!p.k)).known p.a
    come := (W.sd (!p.k)).come + p.m
    full := (W.sd (!p.k)).full + (if p.m = S.size then 1 else 0)
    since := if 0 < p.m ∧ (W.sd (!p.k)).since = none then some W.tick else (W.sd (!p.k)).since }
def arrive (W : Wo) : Wo := (W.log.filter fun p => decide (p.t + S.way = W.tick)).foldl (land S) W

def due (W : Wo) (k : Bool) : Bool :=
  decide (S.every k ≤ (W.sd k).full) || (match (W.sd k).since with | none => false | some t => decide (t + S.delay k ≤ W.tick))
def answer (W : Wo) (k : Bool) : Wo := if due S W k = true then send S W k 0 else W

/-- a tick -/
def tickW (W : Wo) : Wo :=
  answer S (answer S (goes S (goes S (free S (free S (arrive S W) false) true) false) true) false) true

def optL : Option Int → List Int
  | none => []
  | some t => [t]
def laterSd (W : Wo) (k : Bool) : List Int := optL ((W.sd k).since.map (· + S.delay k)) ++ optL (W.sd k).til
def laterLog (W : Wo) : List Int := (W.log.filter fun p => decide (W.tick < p.t + S.way)).map fun p => p.t + S.way
/-- the ticks in which something can happen later -/
def later (W : Wo) : List Int := (laterSd S W false ++ laterSd S W true) ++ laterLog S W

def minL : List Int → Int
  | [] => 0
  | x :: r => r.foldl min x

/-- the law's loop -/
def runW : Nat → Wo → Wo
  | 0, W => W
  | n + 1, W => if later S (tickW S W) = [] then tickW S W else runW n { tickW S W with tick := minL (later S (tickW S W)) }

def ends (W : Wo) : Option Int × Option Int := ((W.sd false).fin, (W.sd true).fin)

def sd0 (todo : List (Wd × Int)) : Sd := ⟨todo, 0, 0, 0, 0, 0, 0, 0, none, none, if todo = [] then some 0 else none⟩
def begin0 (a b : List (Wd × Int)) : Wo := ⟨0, [], fun k => if k = true then sd0 b else sd0 a⟩

end Sm

/-! What stays true from tick to tick, and a weight that falls. -/
namespace Sm

theorem two (k j : Bool) : j = k ∨ j = !k := by cases k <;> cases j <;> simp
theorem nn (k : Bool) : (!(!k)) = k := by cases k <;> rfl

def bytesL (k : Bool) : List Pc → Int
  | [] => 0
  | p :: r => (if p.k = k then p.m else 0) + bytesL k r
theorem bytesL_append (k : Bool) : ∀ a b : List Pc, bytesL k (a ++ b) = bytesL k a + bytesL k b
  | [], b => by simp [bytesL]
  | p :: r, b => by
    have ih := bytesL_append k r b
    show (if p.k = k then p.m else 0) + bytesL k (r ++ b) = ((if p.k = k then p.m else 0) + bytesL k r) + bytesL k b
    rw [ih]; omega
theorem bytesL_nn (k : Bool) : ∀ l : List Pc, (∀ p ∈ l, 0 ≤ p.m) → 0 ≤ bytesL k l
  | [], _ => Int.le_refl 0
  | p :: r, h => by
    have ih := bytesL_nn k r fun q hq => h q (List.mem_cons_of_mem _ hq)
    have hp := h p List.mem_cons_self
    show 0 ≤ (if p.k = k then p.m else 0) + bytesL k r
    split <;> omega
def wt (p : Pc) : Int := if p.m = 0 then 1 else 3
def wsum : List Pc → Int
  | [] => 0
  | p :: r => wt p + wsum r
theorem wsum_append : ∀ a b : List Pc, wsum (a ++ b) = wsum a + wsum b
  | [], b => by simp [wsum]
  | p :: r, b => by
    show wt p + wsum (r ++ b) = (wt p + wsum r) + wsum b
    rw [wsum_append r b]; omega
theorem wt_pos (p : Pc) : 1 ≤ wt p := by unfold wt; split <;> omega
theorem wsum_nn : ∀ l : List Pc, 0 ≤ wsum l
  | [] => Int.le_refl 0
  | p :: r => by
    have := wsum_nn r
    have := wt_pos p
    show 0 ≤ wt p + wsum r
    omega
def writes : List (Wd × Int) → Int
  | [] => 0
  | (w, n) :: r => (if w = .wr then n else 0) + writes r
def pauses : List (Wd × Int) → Int
  | [] => 0
  | (w, _) :: r => (if w = .pa then 1 else 0) + pauses r
def sw (s : Sd) : Int := 4 * (s.kept + writes s.todo) + pauses s.todo + (if s.since = none then 0 else 2)

variable (S : Sh)
def flying (W : Wo) : List Pc := W.log.filter fun p => decide (W.tick < p.t + S.way)

structure Fine : Prop where
  size : 1 ≤ S.size
  way : 1 ≤ S.way
  every : ∀ k, 1 ≤ S.every k
  delay : ∀ k, 0 ≤ S.delay k

structure Good (W : Wo) (L : List Pc) : Prop where
  kept : ∀ k, 0 ≤ (W.sd k).kept
  out : ∀ k, (W.sd k).out = (W.sd (!k)).come + bytesL k (flying S W) + bytesL k L
  known : ∀ k, (W.sd k).known ≤ (W.sd k).out
  known0 : ∀ k, 0 ≤ (W.sd k).known
  ans : ∀ p, (p ∈ flying S W ∨ p ∈ L) → p.a ≤ (W.sd (!p.k)).out ∧ 0 ≤ p.m
  fs : ∀ k, 0 < (W.sd k).full → (W.sd k).since ≠ none
  til : ∀ k, (W.sd k).til ≠ none → ∃ n r, (W.sd k).todo = (.pa, n) :: r
  fin : ∀ k, (W.sd k).fin = none ↔ (W.sd k).todo ≠ []
  pos : ∀ k, ∀ q ∈ (W.sd k).todo, 0 ≤ q.2 ∧ (q.1 = .wr → 1 ≤ q.2)

/-- the weight -/
def Phi (W : Wo) (L : List Pc) : Int := sw (W.sd false) + sw (W.sd true) + wsum (flying S W) + wsum L
variable {S}
theorem Phi_at (k : Bool) (W : Wo) (L : List Pc) : Phi S W L = sw (W.sd k) + sw (W.sd (!k)) + wsum (flying S W) + wsum L := by
  cases k
  · rfl
  · show sw (W.sd false) + sw (W.sd true) + _ + _ = sw (W.sd true) + sw (W.sd false) + _ + _
    omega
theorem writes_nn : ∀ l : List (Wd × Int), (∀ q ∈ l, 0 ≤ q.2) → 0 ≤ writes l
  | [], _ => Int.le_refl 0
  | (w, n) :: r, h => by
    have ih := writes_nn r fun q hq => h q (List.mem_cons_of_mem _ hq)
    have hp : 0 ≤ n := h (w, n) List.mem_cons_self
    show 0 ≤ (if w = .wr then n else 0) + writes r
    split <;> omega
theorem pauses_nn : ∀ l : List (Wd × Int), 0 ≤ pauses l
  | [] => Int.le_refl 0
  | (w, n) :: r => by
    have ih := pauses_nn r
    show 0 ≤ (if w = .pa then 1 else 0) + pauses r
    split <;> omega
theorem Good.phi_nn {W : Wo} {L : List Pc} (g : Good S W L) : 0 ≤ Phi S W L := by
  have h : ∀ k, 0 ≤ sw (W.sd k) := fun k => by
    have h1 := g.kept k
    have h2 := writes_nn (W.sd k).todo fun q hq => (g.pos k q hq).1
    have h3 := pauses_nn (W.sd k).todo
    unfold sw
    split <;> omega
  have h1 := h false
  have h2 := h true
  have h3 := wsum_nn (flying S W)
  have h4 := wsum_nn L
  unfold Phi
  omega

/-! ### a piece goes -/
section
variable {W : Wo} {L : List Pc} {k : Bool} {m : Int}
theorem send_same : (send S W k m).sd k = { W.sd k with kept := (W.sd k).kept - m, out := (W.sd k).out + m, small := if 0 < m ∧ m < S.size then (W.sd k).out + m else (W.sd k).small, full := 0, since := none } := if_pos rfl
theorem send_other : (send S W k m).sd (!k) = W.sd (!k) := if_neg (by cases k <;> decide)
theorem send_tick : (send S W k m).tick = W.tick := rfl
theorem send_log : (send S W k m).log = W.log ++ [⟨W.tick, k, m, (W.sd k).come⟩] := rfl
theorem flying_send (f : Fine S) : flying S (send S W k m) = flying S W ++ [⟨W.tick, k, m, (W.sd k).come⟩] := by
  show (W.log ++ [_]).filter _ = _
  rw [List.filter_append]
  have e : ([⟨W.tick, k, m, (W.sd k).come⟩] : List Pc).filter (fun p => decide (W.tick < p.t + S.way)) = [⟨W.tick, k, m, (W.sd k).come⟩] := by
    have := f.way
    rw [List.filter_cons, if_pos (decide_eq_true (by show W.tick < W.tick + S.way; omega))]
    rfl
  show _ ++ ([⟨W.tick, k, m, (W.sd k).come⟩] : List Pc).filter (fun p => decide (W.tick < p.t + S.way)) = _
  rw [e]
  rfl
theorem Good.send (f : Fine S) (g : Good S W L) (h0 : 0 ≤ m) (h1 : m ≤ (W.sd k).kept) : Good S (send S W k m) L := by
  have so : ∀ j, j ≠ k → (Sm.send S W k m).sd j = W.sd j := fun j hj => if_neg hj
  have fl := flying_send (W := W) (k := k) (m := m) f
  have hb1 : 0 ≤ bytesL (!k) (flying S W) := bytesL_nn _ _ fun p hp => (g.ans p (.inl hp)).2
  have hb2 : 0 ≤ bytesL (!k) L := bytesL_nn _ _ fun p hp => (g.ans p (.inr hp)).2
  refine ⟨fun j => ?_, fun j => ?_, fun j => ?_, fun j => ?_, fun p hp => ?_, fun j => ?_, fun j => ?_, fun j => ?_, fun j => ?_⟩
  · rcases two k j with rfl | rfl
    · rw [send_same]; show 0 ≤ (W.sd j).kept - m; omega
    · rw [send_other]; exact g.kept _
  · rw [fl, bytesL_append]
    have gk := g.out j
    rcases two k j with rfl | rfl
    · rw [send_same, send_other]
      show (W.sd j).out + m = (W.sd (!j)).come + (bytesL j (flying S W) + ((if j = j then m else 0) + 0)) + bytesL j L
      rw [if_pos rfl]
      omega
    · rw [send_other, nn, send_same]
      rw [nn] at gk
      show (W.sd (!k)).out = (W.sd k).come + (bytesL (!k) (flying S W) + ((if k = !k then m else 0) + 0)) + bytesL (!k) L
      rw [if_neg (by cases k <;> decide)]
      omega
  · have gk := g.known j
    rcases two k j with rfl | rfl
    · rw [send_same]; show (W.sd j).known ≤ (W.sd j).out + m; omega
    · rw [send_other]; exact gk
  · have gk := g.known0 j
    rcases two k j with rfl | rfl
    · rw [send_same]; exact gk
    · rw [send_other]; exact gk
  · have old : (p ∈ flying S W ∨ p ∈ L) → p.a ≤ ((Sm.send S W k m).sd (!p.k)).out ∧ 0 ≤ p.m := fun h => by
      have q := g.ans p h
      refine ⟨?_, q.2⟩
      by_cases e : (!p.k) = k
      · rw [e, send_same]
        rw [e] at q
        show p.a ≤ (W.sd k).out + m
        have := q.1
        omega
      · rw [so _ e]; exact q.1
    rcases hp with hp | hp
    · rw [fl] at hp
      rcases List.mem_append.mp hp with hp | hp
      · exact old (.inl hp)
      · have e : p = ⟨W.tick, k, m, (W.sd k).come⟩ := by simpa using hp
        subst e
        refine ⟨?_, h0⟩
        show (W.sd k).come ≤ ((Sm.send S W k m).sd (!k)).out
        rw [send_other]
        have q := g.out (!k)
        rw [nn] at q
        omega
    · exact old (.inr hp)
  · have gk := g.fs j
    rcases two k j with rfl | rfl
    · rw [send_same]; intro h; exact absurd h (by show ¬ (0 : Int) < 0; omega)
    · rw [send_other]; exact gk
  · have gk := g.til j
    rcases two k j with rfl | rfl
    · rw [send_same]; exact gk
    · rw [send_other]; exact gk
  · have gk := g.fin j
    rcases two k j with rfl | rfl
    · rw [send_same]; exact gk
    · rw [send_other]; exact gk
  · have gk := g.pos j
    rcases two k j with rfl | rfl
    · rw [send_same]; exact gk
    · rw [send_other]; exact gk
theorem phi_send (f : Fine S) : Phi S (send S W k m) L + (W.log.length + 1 : Nat) + (if (W.sd k).since = none then 0 else 2) + 4 * m = Phi S W L + W.log.length + 1 + wt ⟨W.tick, k, m, (W.sd k).come⟩ := by
  rw [Phi_at k, Phi_at k W, flying_send f, wsum_append, send_same, send_other]
  show sw _ + sw _ + (_ + (wt _ + 0)) + _ + _ + _ + _ = _
  unfold sw
  show 4 * ((W.sd k).kept - m + writes (W.sd k).todo) + pauses (W.sd k).todo + (if (none : Option Int) = none then 0 else 2) + _ + _ + _ + _ + _ + _ = _
  rw [if_pos rfl]
  split <;> omega
/-- bytes go: the weight falls -/
theorem phi_send1 (f : Fine S) (h : 1 ≤ m) : Phi S (send S W k m) L + 1 ≤ Phi S W L := by
  have e := phi_send (S := S) (W := W) (L := L) (k := k) (m := m) f
  have w : wt ⟨W.tick, k, m, (W.sd k).come⟩ = 3 := if_neg (by show ¬ m = 0; omega)
  rw [w] at e
  split at e <;> omega
theorem phi_send0 (f : Fine S) (h : (W.sd k).since ≠ none) : Phi S (send S W k 0) L + 1 ≤ Phi S W L := by
  have e := phi_send (S := S) (W := W) (L := L) (k := k) (m := 0) f
  have w : wt ⟨W.tick, k, 0, (W.sd k).come⟩ = 1 := if_pos rfl
  rw [w, if_neg h] at e
  omega
end

/-! ### one state comes of another: less weight, or what waits still waits -/
structure Leads (S : Sh) (W : Wo) (L : List Pc) (W' : Wo) (L' : List Pc) : Prop where
  tick : W'.tick = W.tick
  good : Good S W' L'
  len : Phi S W' L' + W'.log.length ≤ Phi S W L + W.log.length
  phi : Phi S W' L' ≤ Phi S W L
  since : Phi S W' L' = Phi S W L → ∀ k t, (W.sd k).since = some t → (W'.sd k).since = some t
  grow : ∃ more, W'.log = W.log ++ more
theorem Leads.refl {W : Wo} {L : List Pc} (g : Good S W L) : Leads S W L W L := ⟨rfl, g, Int.le_refl _, Int.le_refl _, fun _ _ _ h => h, [], (List.append_nil _).symm⟩
theorem Leads.trans {W W1 W2 : Wo} {L L1 L2 : List Pc} (a : Leads S W L W1 L1) (b : Leads S W1 L1 W2 L2) : Leads S W L W2 L2 := by
  refine ⟨b.tick.trans a.tick, b.good, Int.le_trans b.len a.len, Int.le_trans b.phi a.phi, fun e k t h => ?_, ?_⟩
  · have h1 := a.phi
    have h2 := b.phi
    exact b.since (by omega) k t (a.since (by omega) k t h)
  · obtain ⟨m1, e1⟩ := a.grow
    obtain ⟨m2, e2⟩ := b.grow
    exact ⟨m1 ++ m2, by rw [e2, e1, List.append_assoc]⟩
theorem Leads.send {W : Wo} {L : List Pc} {k : Bool} {m : Int} (f : Fine S) (g : Good S W L) (h : 1 ≤ m) (h1 : m ≤ (W.sd k).kept) : Leads S W L (send S W k m) L := by
  have p := phi_send1 (S := S) (W := W) (L := L) (k := k) (m := m) f h
  refine ⟨rfl, g.send f (by omega) h1, ?_, by omega, fun e => by omega, _, rfl⟩
  rw [send_log, List.length_append]
  show _ + ((W.log.length + 1 : Nat) : Int) ≤ _
  omega
theorem Leads.send0 {W : Wo} {L : List Pc} {k : Bool} (f : Fine S) (g : Good S W L) (h : (W.sd k).since ≠ none) : Leads S W L (Sm.send S W k 0) L := by
  have p := phi_send0 (S := S) (W := W) (L := L) (k := k) f h
  refine ⟨rfl, g.send f (Int.le_refl _) (g.kept k), ?_, by omega, fun e => by omega, _, rfl⟩
  rw [send_log, List.length_append]
  show _ + ((W.log.length + 1 : Nat) : Int) ≤ _
  omega

/-! ### bytes are released -/
section
variable {W : Wo} {L : List Pc} {k : Bool}
theorem fulls_kept (n : Nat) : ((fulls S W k n).sd k).kept = (W.sd k).kept - n * S.size := by
  induction n with
  | zero => show (W.sd k).kept = _; simp
  | succ n ih =>
    show ((Sm.send S (fulls S W k n) k S.size).sd k).kept = _
    rw [send_same]
    show ((fulls S W k n).sd k).kept - S.size = _
    rw [ih, Int.natCast_succ, Int.add_mul]
    omega
theorem fulls_rest (n : Nat) : ((fulls S W k n).sd k).todo = (W.sd k).todo ∧ ((fulls S W k n).sd k).til = (W.sd k).til ∧ ((fulls S W k n).sd k).fin = (W.sd k).fin ∧ ((fulls S W k n).sd k).known = (W.sd k).known ∧ ((fulls S W k n).sd k).come = (W.sd k).come ∧ ((fulls S W k n).sd k).used = (W.sd k).used ∧ (fulls S W k n).sd (!k) = W.sd (!k) ∧ (fulls S W k n).tick = W.tick := by
  induction n with
  | zero => exact ⟨rfl, rfl, rfl, rfl, rfl, rfl, rfl, rfl⟩
  | succ n ih =>
    obtain ⟨a, b, c, d, e, f, g, h⟩ := ih
    show ((Sm.send S (fulls S W k n) k S.size).sd k).todo = _ ∧ ((Sm.send S (fulls S W k n) k S.size).sd k).til = _ ∧ ((Sm.send S (fulls S W k n) k S.size).sd k).fin = _ ∧ ((Sm.send S (fulls S W k n) k S.size).sd k).known = _ ∧ ((Sm.send S (fulls S W k n) k S.size).sd k).come = _ ∧ ((Sm.send S (fulls S W k n) k S.size).sd k).used = _ ∧ (Sm.send S (fulls S W k n) k S.size).sd (!k) = _ ∧ _
    rw [send_same, send_other]
    exact ⟨a, b, c, d, e, f, g, h⟩
theorem many_le (f : Fine S) (g : Good S W L) : (many S W k : Int) * S.size ≤ (W.sd k).kept ∧ (W.sd k).kept < (many S W k + 1 : Nat) * S.size := by
  have h0 := g.kept k
  have h1 := f.size
  have e : ((many S W k : Nat) : Int) = (W.sd k).kept / S.size := Int.toNat_of_nonneg (Int.ediv_nonneg h0 (by omega))
  have q := Int.mul_ediv_add_emod (W.sd k).kept S.size
  have q1 := Int.emod_nonneg (W.sd k).kept (show S.size ≠ 0 by omega)
  have q2 := Int.emod_lt_of_pos (W.sd k).kept (show 0 < S.size by omega)
  rw [Int.natCast_succ, Int.add_mul, e, Int.mul_comm]
  constructor <;> omega
/-- another full piece goes exactly as long as there are as many bytes -/
theorem more_iff (f : Fine S) (g : Good S W L) {n : Nat} (h : n ≤ many S W k) : S.size ≤ ((fulls S W k n).sd k).kept ↔ n < many S W k := by
  obtain ⟨h1, h2⟩ := many_le (k := k) f g
  have hs := f.size
  rw [fulls_kept]
  constructor
  · intro q
    refine Nat.lt_of_not_le fun z => ?_
    have e : n = many S W k := Nat.le_antisymm h z
    subst e
    rw [Int.natCast_succ, Int.add_mul] at h2
    omega
  · intro q
    have z : ((n + 1 : Nat) : Int) * S.size ≤ (many S W k : Int) * S.size := Int.mul_le_mul_of_nonneg_right (by omega) (by omega)
    rw [Int.natCast_succ, Int.add_mul] at z
    omega
theorem Leads.fulls (f : Fine S) (g : Good S W L) : ∀ n, n ≤ many S W k → Leads S W L (fulls S W k n) L
  | 0, _ => Leads.refl g
  | n + 1, h => by
    have a := Leads.fulls f g n (by omega)
    exact a.trans (Leads.send f a.good f.size ((more_iff f g (by omega)).mpr (by omega)))
theorem rest_rest : ((rest S W k).sd k).todo = (W.sd k).todo ∧ ((rest S W k).sd k).til = (W.sd k).til ∧ ((rest S W k).sd k).fin = (W.sd k).fin ∧ ((rest S W k).sd k).known = (W.sd k).known ∧ ((rest S W k).sd k).come = (W.sd k).come ∧ ((rest S W k).sd k).used = (W.sd k).used ∧ (rest S W k).sd (!k) = W.sd (!k) ∧ (rest S W k).tick = W.tick := by
  unfold rest
  split
  · rw [send_same, send_other]
    exact ⟨rfl, rfl, rfl, rfl, rfl, rfl, rfl, rfl⟩
  · exact ⟨rfl, rfl, rfl, rfl, rfl, rfl, rfl, rfl⟩
theorem Leads.rest (f : Fine S) (g : Good S W L) : Leads S W L (rest S W k) L := by
  unfold Sm.rest
  split
  · rename_i h
    exact Leads.send f g (by omega) (Int.le_refl _)
  · exact Leads.refl g
theorem Leads.free (f : Fine S) (g : Good S W L) : Leads S W L (free S W k) L := by
  have a := Leads.fulls (k := k) f g _ (Nat.le_refl _)
  exact a.trans (Leads.rest f a.good)
theorem free_rest : ((free S W k).sd k).todo = (W.sd k).todo ∧ ((free S W k).sd k).til = (W.sd k).til ∧ ((free S W k).sd k).fin = (W.sd k).fin ∧ ((free S W k).sd k).known = (W.sd k).known ∧ ((free S W k).sd k).come = (W.sd k).come ∧ ((free S W k).sd k).used = (W.sd k).used ∧ (free S W k).sd (!k) = W.sd (!k) ∧ (free S W k).tick = W.tick := by
  obtain ⟨a, b, c, d, e, f, g, h⟩ := fulls_rest (S := S) (W := W) (k := k) (many S W k)
  obtain ⟨a', b', c', d', e', f', g', h'⟩ := rest_rest (S := S) (W := fulls S W k (many S W k)) (k := k)
  exact ⟨a'.trans a, b'.trans b, c'.trans c, d'.trans d, e'.trans e, f'.trans f, g'.trans g, h'.trans h⟩
end
end Sm

/-! A tick: the weight falls; all that is later is later. -/
namespace Sm
variable {S : Sh} {W : Wo} {L : List Pc} {k : Bool}

/-- what a side's own state must keep -/
theorem Good.put (g : Good S W L) {s : Sd} (h0 : 0 ≤ s.kept) (h1 : s.out = (W.sd k).out) (h2 : s.come = (W.sd k).come) (h3 : s.known = (W.sd k).known) (h4 : 0 < s.full → s.since ≠ none)
    (h5 : s.til ≠ none → ∃ n r, s.todo = (.pa, n) :: r) (h6 : s.fin = none ↔ s.todo ≠ []) (h7 : ∀ q ∈ s.todo, 0 ≤ q.2 ∧ (q.1 = .wr → 1 ≤ q.2)) : Good S (W.put k s) L := by
  have fl : flying S (W.put k s) = flying S W := rfl
  have so : ∀ j, ((W.put k s).sd j).out = (W.sd j).out := fun j => by
    rcases two k j with rfl | rfl
    · rw [Wo.put_same]; exact h1
    · rw [Wo.put_other]
  have sc : ∀ j, ((W.put k s).sd j).come = (W.sd j).come := fun j => by
    rcases two k j with rfl | rfl
    · rw [Wo.put_same]; exact h2
    · rw [Wo.put_other]
  have sk : ∀ j, ((W.put k s).sd j).known = (W.sd j).known := fun j => by
    rcases two k j with rfl | rfl
    · rw [Wo.put_same]; exact h3
    · rw [Wo.put_other]
  refine ⟨fun j => ?_, fun j => ?_, fun j => ?_, fun j => ?_, fun p hp => ?_, fun j => ?_, fun j => ?_, fun j => ?_, fun j => ?_⟩
  · rcases two k j with rfl | rfl
    · rw [Wo.put_same]; exact h0
    · rw [Wo.put_other]; exact g.kept _
  · rw [so, sc, fl]; exact g.out j
  · rw [so, sk]; exact g.known j
  · rw [sk]; exact g.known0 j
  · rw [so]; exact g.ans p hp
  · rcases two k j with rfl | rfl
    · rw [Wo.put_same]; exact h4
    · rw [Wo.put_other]; exact g.fs _
  · rcases two k j with rfl | rfl
    · rw [Wo.put_same]; exact h5
    · rw [Wo.put_other]; exact g.til _
  · rcases two k j with rfl | rfl
    · rw [Wo.put_same]; exact h6
    · rw [Wo.put_other]; exact g.fin _
  · rcases two k j with rfl | rfl
    · rw [Wo.put_same]; exact h7
    · rw [Wo.put_other]; exact g.pos _
theorem phi_put {s : Sd} : Phi S (W.put k s) L + sw (W.sd k) = Phi S W L + sw s := by
  rw [Phi_at k, Phi_at k W, Wo.put_same, Wo.put_other]
  have fl : flying S (W.put k s) = flying S W := rfl
  rw [fl]
  omega
theorem Leads.put (g : Good S W L) {s : Sd} (h0 : 0 ≤ s.kept) (h1 : s.out = (W.sd k).out) (h2 : s.come = (W.sd k).come) (h3 : s.known = (W.sd k).known) (h4 : 0 < s.full → s.since ≠ none)
    (h5 : s.til ≠ none → ∃ n r, s.todo = (.pa, n) :: r) (h6 : s.fin = none ↔ s.todo ≠ []) (h7 : ∀ q ∈ s.todo, 0 ≤ q.2 ∧ (q.1 = .wr → 1 ≤ q.2)) (hw : sw s ≤ sw (W.sd k)) (hs : s.since = (W.sd k).since) : Leads S W L (W.put k s) L := by
  have p := phi_put (S := S) (W := W) (L := L) (k := k) (s := s)
  refine ⟨rfl, g.put h0 h1 h2 h3 h4 h5 h6 h7, ?_, by omega, fun e j t h => ?_, [], (List.append_nil _).symm⟩
  · show _ + (W.log.length : Int) ≤ _
    omega
  · rcases two k j with rfl | rfl
    · rw [Wo.put_same, hs]; exact h
    · rw [Wo.put_other]; exact h

/-! ### steps -/
theorem pass_at {u : Int} : (pass W k u).sd k = { W.sd k with used := (W.sd k).used + u, til := none, todo := (W.sd k).todo.tail, fin := if (W.sd k).todo.tail = [] then some W.tick else none } := Wo.put_same _ _ _
theorem Leads.pass (g : Good S W L) {w : Wd} {n u : Int} {r : List (Wd × Int)} (e : (W.sd k).todo = (w, n) :: r) (hw : w = .wr → n = 0) : Leads S W L (pass W k u) L := by
  refine Leads.put g (g.kept k) rfl rfl rfl (g.fs k) (fun h => absurd rfl h) ?_ (fun q hq => g.pos k q (List.mem_of_mem_tail hq)) ?_ rfl
  · show (if (W.sd k).todo.tail = [] then some W.tick else none) = none ↔ (W.sd k).todo.tail ≠ []
    split
    · rename_i h; simp [h]
    · rename_i h; simp [h]
  · unfold sw
    show 4 * ((W.sd k).kept + writes (W.sd k).todo.tail) + pauses (W.sd k).todo.tail + (if (W.sd k).since = none then 0 else 2) ≤ _
    rw [e]
    show 4 * ((W.sd k).kept + writes r) + pauses r + _ ≤ 4 * ((W.sd k).kept + ((if w = .wr then n else 0) + writes r)) + ((if w = .pa then 1 else 0) + pauses r) + _
    have : (if w = .wr then n else 0) = 0 := by
      split
      · rename_i h; exact hw h
      · rfl
    rw [this]
    split <;> split <;> omega
theorem phi_pass_pa {n u : Int} {r : List (Wd × Int)} (e : (W.sd k).todo = (.pa, n) :: r) : Phi S (pass W k u) L + 1 = Phi S W L := by
  have p := phi_put (S := S) (W := W) (L := L) (k := k) (s := { W.sd k with used := (W.sd k).used + u, til := none, todo := (W.sd k).todo.tail, fin := if (W.sd k).todo.tail = [] then some W.tick else none })
  have q : sw { W.sd k with used := (W.sd k).used + u, til := none, todo := (W.sd k).todo.tail, fin := if (W.sd k).todo.tail = [] then some W.tick else none } + 1 = sw (W.sd k) := by
    unfold sw
    show 4 * ((W.sd k).kept + writes (W.sd k).todo.tail) + pauses (W.sd k).todo.tail + _ + 1 = _
    rw [e]
    show 4 * ((W.sd k).kept + writes r) + pauses r + (if (W.sd k).since = none then 0 else 2) + 1 = 4 * ((W.sd k).kept + (0 + writes r)) + (1 + pauses r) + (if (W.sd k).since = none then 0 else 2)
    omega
  have p' : Phi S (pass W k u) L + sw (W.sd k) = Phi S W L + sw { W.sd k with used := (W.sd k).used + u, til := none, todo := (W.sd k).todo.tail, fin := if (W.sd k).todo.tail = [] then some W.tick else none } := p
  omega

/-! ### what a step leaves of the program's own part does not matter to a release -/
theorem wo_ext {A B : Wo} (h1 : A.tick = B.tick) (h2 : A.log = B.log) (h3 : ∀ j, A.sd j = B.sd j) : A = B := by
  cases A; cases B
  have e : (fun j => ‹Bool → Sd› j) = _ := rfl
  simp only at h1 h2 h3
  subst h1 h2
  congr
  exact funext h3
theorem send_pass {u m : Int} : send S (pass W k u) k m = pass (send S W k m) k u := by
  refine wo_ext rfl ?_ fun j => ?_
  · show W.log ++ [⟨W.tick, k, m, ((pass W k u).sd k).come⟩] = W.log ++ [⟨W.tick, k, m, (W.sd k).come⟩]
    rw [pass_at]
  · rcases two k j with rfl | rfl
    · rw [send_same, pass_at, pass_at, send_same]
      rfl
    · rw [send_other]
      show (W.put k _).sd (!k) = ((send S W k m).put k _).sd (!k)
      rw [Wo.put_other, Wo.put_other, send_other]
theorem fulls_pass {u : Int} : ∀ n, fulls S (pass W k u) k n = pass (fulls S W k n) k u
  | 0 => rfl
  | n + 1 => by
    show send S (fulls S (pass W k u) k n) k S.size = pass (send S (fulls S W k n) k S.size) k u
    rw [fulls_pass n, send_pass]
theorem free_pass {u : Int} : free S (pass W k u) k = pass (free S W k) k u := by
  have e1 : many S (pass W k u) k = many S W k := by unfold many; rw [pass_at]
  show rest S (fulls S (pass W k u) k (many S (pass W k u) k)) k = _
  rw [e1, fulls_pass]
  show rest S _ k = pass (rest S (fulls S W k (many S W k)) k) k u
  generalize fulls S W k (many S W k) = V
  have e2 : mark S (pass V k u) k = mark S V k := by unfold mark; rw [pass_at]
  unfold rest
  rw [e2, pass_at]
  show (if 0 < (V.sd k).kept ∧ mark S V k ≤ (V.sd k).known then send S (pass V k u) k (V.sd k).kept else pass V k u) = _
  rw [send_pass]
  split <;> rfl
theorem put_pass {s : Sd} {u : Int} : pass (W.put k s) k u = W.put k { s with used := s.used + u, til := none, todo := s.todo.tail, fin := if s.todo.tail = [] then some W.tick else none } := by
  refine wo_ext rfl rfl fun j => ?_
  rcases two k j with rfl | rfl
  · rw [pass_at, Wo.put_same, Wo.put_same]; rfl
  · show ((W.put k s).put k _).sd (!k) = _
    rw [Wo.put_other, Wo.put_other, Wo.put_other]
theorem leads_write (f : Fine S) (g : Good S W L) {n : Int} {r : List (Wd × Int)} (e : (W.sd k).todo = (.wr, n) :: r) : Leads S W L (pass (free S (W.put k { W.sd k with kept := (W.sd k).kept + n }) k) k 0) L := by
  have hn := g.pos k (.wr, n) (by rw [e]; exact List.mem_cons_self)
  have hn1 : 1 ≤ n := hn.2 rfl
  rw [← free_pass, put_pass]
  have a : Leads S W L (W.put k { W.sd k with kept := (W.sd k).kept + n, used := (W.sd k).used + 0, til := none, todo := (W.sd k).todo.tail, fin := if (W.sd k).todo.tail = [] then some W.tick else none }) L := by
    refine Leads.put g ?_ rfl rfl rfl (g.fs k) (fun h => absurd rfl h) ?_ (fun q hq => g.pos k q (List.mem_of_mem_tail hq)) ?_ rfl
    · have := g.kept k
      show 0 ≤ (W.sd k).kept + n
      omega
    · show (if (W.sd k).todo.tail = [] then some W.tick else none) = none ↔ (W.sd k).todo.tail ≠ []
      split
      · rename_i h; simp [h]
      · rename_i h; simp [h]
    · unfold sw
      show 4 * ((W.sd k).kept + n + writes (W.sd k).todo.tail) + pauses (W.sd k).todo.tail + (if (W.sd k).since = none then 0 else 2) ≤ _
      rw [e]
      show 4 * ((W.sd k).kept + n + writes r) + pauses r + _ ≤ 4 * ((W.sd k).kept + (n + writes r)) + (0 + pauses r) + _
      split <;> omega
  exact a.trans (Leads.free f a.good)
theorem Leads.step (f : Fine S) (g : Good S W L) : Leads S W L (step S W k).1 L := by
  unfold Sm.step
  split
  · exact Leads.refl g
  · rename_i n r e
    split
    · refine Leads.put g (g.kept k) rfl rfl rfl (g.fs k) (fun _ => ⟨n, r, e⟩) ?_ (g.pos k) (Int.le_refl _) rfl
      exact g.fin k
    · exact Leads.pass g e (fun h => nomatch h)
  · rename_i n r e
    split
    · exact Leads.refl g
    · exact Leads.pass g e (fun h => nomatch h)
  · rename_i n r e
    exact leads_write f g e
theorem Leads.steps (f : Fine S) : ∀ (n : Nat) {W : Wo}, Good S W L → Leads S W L (steps S W k n) L
  | 0, _, g => Leads.refl g
  | n + 1, W, g => by
    have a := Leads.step (k := k) f g
    show Leads S W L (if (Sm.step S W k).2 = true then Sm.steps S (Sm.step S W k).1 k n else (Sm.step S W k).1) L
    split
    · exact a.trans (Leads.steps f n a.good)
    · exact a
theorem step_other : (step S W k).1.sd (!k) = W.sd (!k) := by
  unfold step
  split
  · rfl
  · split
    · exact Wo.put_other _ _ _
    · exact Wo.put_other _ _ _
  · split
    · rfl
    · exact Wo.put_other _ _ _
  · show ((free S (W.put k _) k).put k _).sd (!k) = _
    rw [Wo.put_other, (free_rest (S := S)).2.2.2.2.2.2.1, Wo.put_other]
theorem step_tick : (step S W k).1.tick = W.tick := by
  unfold step
  split
  · rfl
  · split <;> rfl
  · split <;> rfl
  · show (free S (W.put k _) k).tick = _
    exact (free_rest (S := S)).2.2.2.2.2.2.2
theorem steps_other : ∀ (n : Nat) {W : Wo}, (steps S W k n).sd (!k) = W.sd (!k)
  | 0, _ => rfl
  | n + 1, W => by
    show (if (step S W k).2 = true then steps S (step S W k).1 k n else (step S W k).1).sd (!k) = _
    split
    · rw [steps_other n, step_other]
    · exact step_other
theorem steps_tick : ∀ (n : Nat) {W : Wo}, (steps S W k n).tick = W.tick
  | 0, _ => rfl
  | n + 1, W => by
    show (if (step S W k).2 = true then steps S (step S W k).1 k n else (step S W k).1).tick = _
    split
    · rw [steps_tick n, step_tick]
    · exact step_tick
/-- a step that goes on takes the first step out -/
theorem step_todo (h : (step S W k).2 = true) : ((step S W k).1.sd k).todo = (W.sd k).todo.tail ∧ ((step S W k).1.sd k).til = none ∧ (W.sd k).todo ≠ [] := by
  unfold step at h ⊢
  split at h
  · cases h
  · rename_i n r e
    split at h
    · cases h
    · rename_i q
      simp only [e, if_neg q]
      refine ⟨?_, ?_, by simp⟩
      · rw [pass_at, e]
      · rw [pass_at]
  · rename_i n r e
    split at h
    · cases h
    · rename_i q
      simp only [e, if_neg q]
      refine ⟨?_, ?_, by simp⟩
      · rw [pass_at, e]
      · rw [pass_at]
  · rename_i n r e
    rw [e]
    refine ⟨?_, ?_, by simp⟩
    · rw [pass_at]
      show ((free S (W.put k _) k).sd k).todo.tail = r
      rw [(free_rest (S := S)).1, Wo.put_same, e]
      rfl
    · rw [pass_at]
/-- what a program that has gone as far as it can waits for -/
theorem steps_til : ∀ (n : Nat) {W : Wo}, (W.sd k).todo.length ≤ n → Good S W L → Fine S → ∀ t, ((steps S W k n).sd k).til = some t → W.tick < t
  | 0, W, hn, g, f, t, h => by
    have e : (W.sd k).todo = [] := List.eq_nil_of_length_eq_zero (Nat.le_zero.mp hn)
    obtain ⟨n', r', e'⟩ := g.til k (by show (W.sd k).til ≠ none; intro z; have h : (W.sd k).til = some t := h; rw [z] at h; cases h)
    rw [e] at e'; cases e'
  | n + 1, W, hn, g, f, t, h => by
    have h : ((if (step S W k).2 = true then steps S (step S W k).1 k n else (step S W k).1).sd k).til = some t := h
    split at h
    · rename_i hg
      have a := Leads.step (k := k) f g
      have z := step_todo hg
      have := steps_til n (W := (step S W k).1) (by rw [z.1, List.length_tail]; omega) a.good f t h
      rw [step_tick] at this
      exact this
    · rename_i hg
      unfold step at h hg
      split at h
      · rename_i e
        obtain ⟨n', r', e'⟩ := g.til k (by intro z; rw [z] at h; cases h)
        rw [e] at e'; cases e'
      · rename_i m r e
        split at h
        · rename_i q
          rw [Wo.put_same] at h
          have h : some ((W.sd k).til.getD (W.tick + m)) = some t := h
          cases h
          exact q
        · rename_i q
          simp only [e, if_neg q] at hg
          exact (hg trivial).elim
      · rename_i m r e
        split at h
        · obtain ⟨n', r', e'⟩ := g.til k (by intro z; rw [z] at h; cases h)
          rw [e] at e'; cases e'
        · rename_i q
          simp only [e, if_neg q] at hg
          exact (hg trivial).elim
      · rename_i m r e
        simp only [e] at hg
        exact (hg trivial).elim
/-- a pause that is over: the weight falls -/
theorem steps_falls (f : Fine S) (g : Good S W L) {t : Int} (h : (W.sd k).til = some t) (ht : t ≤ W.tick) : ∀ n, (W.sd k).todo.length ≤ n → Phi S (steps S W k n) L + 1 ≤ Phi S W L
  | 0, hn => by
    have e : (W.sd k).todo = [] := List.eq_nil_of_length_eq_zero (Nat.le_zero.mp hn)
    obtain ⟨n', r', e'⟩ := g.til k (by rw [h]; simp)
    rw [e] at e'; cases e'
  | n + 1, hn => by
    obtain ⟨m, r, e⟩ := g.til k (by rw [h]; simp)
    have q : ¬ (W.tick < (W.sd k).til.getD (W.tick + m)) := by rw [h]; show ¬ (W.tick < t); omega
    have e1 : step S W k = (pass W k 0, true) := by
      unfold step
      simp only [e, if_neg q]
    have a := Leads.step (k := k) f g
    have p := phi_pass_pa (S := S) (L := L) (u := 0) e
    have b := Leads.steps (k := k) f n a.good
    have c : Phi S (steps S (pass W k 0) k n) L ≤ Phi S (pass W k 0) L := by
      have q := b.phi
      rw [e1] at q
      exact q
    show Phi S (if (step S W k).2 = true then steps S (step S W k).1 k n else (step S W k).1) L + 1 ≤ _
    rw [e1]
    show Phi S (steps S (pass W k 0) k n) L + 1 ≤ _
    omega
theorem Leads.goes (f : Fine S) (g : Good S W L) : Leads S W L (goes S W k) L := Leads.steps f _ g
theorem goes_other : (goes S W k).sd (!k) = W.sd (!k) := steps_other _
theorem goes_tick : (goes S W k).tick = W.tick := steps_tick _

/-! ### answers -/
theorem due_since (f : Fine S) (g : Good S W L) (h : due S W k = true) : (W.sd k).since ≠ none := by
  unfold due at h
  rw [Bool.or_eq_true] at h
  rcases h with h | h
  · have h := of_decide_eq_true h
    have := f.every k
    exact g.fs k (by omega)
  · intro z
    rw [z] at h
    cases h
theorem Leads.answer (f : Fine S) (g : Good S W L) : Leads S W L (answer S W k) L := by
  unfold Sm.answer
  split
  · rename_i h
    exact Leads.send0 f g (due_since f g h)
  · exact Leads.refl g
theorem answer_other : (answer S W k).sd (!k) = W.sd (!k) := by
  unfold answer
  split
  · exact send_other
  · rfl
theorem answer_tick : (answer S W k).tick = W.tick := by
  unfold answer
  split <;> rfl
theorem answer_til : ((answer S W k).sd k).til = (W.sd k).til := by
  unfold answer
  split
  · rw [send_same]
  · rfl
theorem answer_since {t : Int} (h : ((answer S W k).sd k).since = some t) : W.tick < t + S.delay k := by
  unfold answer at h
  split at h
  · rw [send_same] at h
    cases h
  · rename_i q
    unfold due at q
    rw [h, Bool.or_eq_true] at q
    have q2 : ¬ (t + S.delay k ≤ W.tick) := fun z => q (.inr (decide_eq_true z))
    omega
theorem answer_falls (f : Fine S) (g : Good S W L) {t : Int} (h : (W.sd k).since = some t) (ht : t + S.delay k ≤ W.tick) : Phi S (answer S W k) L + 1 ≤ Phi S W L := by
  have e : due S W k = true := by
    unfold due
    rw [h, Bool.or_eq_true]
    exact .inr (decide_eq_true ht)
  unfold answer
  rw [if_pos e]
  exact phi_send0 f (by rw [h]; simp)

/-! ### arrivals -/
theorem Leads.land (f : Fine S) {p : Pc} (g : Good S W (p :: L)) : Leads S W (p :: L) (land S W p) L ∧ Phi S (Sm.land S W p) L + 1 ≤ Phi S W (p :: L) := by
  have ga := g.ans p (.inr List.mem_cons_self)
  have fl : flying S (Sm.land S W p) = flying S W := rfl
  have same : ∀ s : Sd, (W.put (!p.k) s).sd (!p.k) = s := fun s => Wo.put_same _ _ _
  have other : ∀ s : Sd, (W.put (!p.k) s).sd p.k = W.sd p.k := fun s => Wo.put_other' _ _ _
  have hl : (Sm.land S W p).sd (!p.k) = { W.sd (!p.k) with known := max (W.sd (!p.k)).known p.a, come := (W.sd (!p.k)).come + p.m, full := (W.sd (!p.k)).full + (if p.m = S.size then 1 else 0), since := if 0 < p.m ∧ (W.sd (!p.k)).since = none then some W.tick else (W.sd (!p.k)).since } := same _
  have ho : (Sm.land S W p).sd p.k = W.sd p.k := other _
  have so : ∀ j, ((Sm.land S W p).sd j).out = (W.sd j).out := fun j => by
    rcases two p.k j with rfl | rfl
    · rw [ho]
    · rw [hl]
  have sn : ∀ t, (W.sd (!p.k)).since = some t → ((Sm.land S W p).sd (!p.k)).since = some t := fun t h => by
    rw [hl]
    show (if 0 < p.m ∧ (W.sd (!p.k)).since = none then some W.tick else (W.sd (!p.k)).since) = some t
    rw [if_neg (by rw [h]; simp), h]
  have gd : Good S (Sm.land S W p) L := by
    refine ⟨fun j => ?_, fun j => ?_, fun j => ?_, fun j => ?_, fun q hq => ?_, fun j => ?_, fun j => ?_, fun j => ?_, fun j => ?_⟩
    · rcases two p.k j with rfl | rfl
      · rw [ho]; exact g.kept _
      · rw [hl]; exact g.kept _
    · rw [so, fl]
      have gk := g.out j
      have e : bytesL j (p :: L) = (if p.k = j then p.m else 0) + bytesL j L := rfl
      rw [e] at gk
      rcases two p.k j with rfl | rfl
      · rw [hl]
        rw [if_pos rfl] at gk
        show (W.sd p.k).out = (W.sd (!p.k)).come + p.m + _ + _
        omega
      · rw [nn, ho]
        rw [nn, if_neg (by cases p.k <;> decide)] at gk
        omega
    · rw [so]
      rcases two p.k j with rfl | rfl
      · rw [ho]; exact g.known _
      · rw [hl]
        have := g.known (!p.k)
        show max (W.sd (!p.k)).known p.a ≤ _
        omega
    · rcases two p.k j with rfl | rfl
      · rw [ho]; exact g.known0 _
      · rw [hl]
        have := g.known0 (!p.k)
        show 0 ≤ max (W.sd (!p.k)).known p.a
        omega
    · rw [so]
      exact g.ans q (hq.elim .inl fun z => .inr (List.mem_cons_of_mem _ z))
    · rcases two p.k j with rfl | rfl
      · rw [ho]; exact g.fs _
      · rw [hl]
        show 0 < (W.sd (!p.k)).full + (if p.m = S.size then 1 else 0) → (if 0 < p.m ∧ (W.sd (!p.k)).since = none then some W.tick else (W.sd (!p.k)).since) ≠ none
        intro h
        split
        · simp
        · rename_i q
          intro z
          have hm : ¬ 0 < p.m := fun y => q ⟨y, z⟩
          have := f.size
          rw [if_neg (by omega)] at h
          exact g.fs (!p.k) (by omega) z
    · rcases two p.k j with rfl | rfl
      · rw [ho]; exact g.til _
      · rw [hl]; exact g.til _
    · rcases two p.k j with rfl | rfl
      · rw [ho]; exact g.fin _
      · rw [hl]; exact g.fin _
    · rcases two p.k j with rfl | rfl
      · rw [ho]; exact g.pos _
      · rw [hl]; exact g.pos _
  have ph : Phi S (Sm.land S W p) L + 1 ≤ Phi S W (p :: L) := by
    rw [Phi_at p.k, Phi_at p.k W, fl, ho, hl]
    have e : wsum (p :: L) = wt p + wsum L := rfl
    rw [e]
    unfold sw
    show _ + (4 * ((W.sd (!p.k)).kept + writes (W.sd (!p.k)).todo) + pauses (W.sd (!p.k)).todo + (if (if 0 < p.m ∧ (W.sd (!p.k)).since = none then some W.tick else (W.sd (!p.k)).since) = none then 0 else 2)) + _ + _ + 1 ≤ _
    unfold wt
    by_cases hs : (W.sd (!p.k)).since = none
    · by_cases hm : 0 < p.m
      · have e1 : (if 0 < p.m ∧ (W.sd (!p.k)).since = none then some W.tick else (W.sd (!p.k)).since) = some W.tick := if_pos ⟨hm, hs⟩
        rw [e1, if_neg (show ¬ (some W.tick = none) by simp), if_pos hs, if_neg (show ¬ p.m = 0 by omega)]
        omega
      · have e1 : (if 0 < p.m ∧ (W.sd (!p.k)).since = none then some W.tick else (W.sd (!p.k)).since) = (W.sd (!p.k)).since := if_neg (fun z => hm z.1)
        have := ga.2
        rw [e1, if_pos hs, if_pos (show p.m = 0 by omega)]
        omega
    · have e1 : (if 0 < p.m ∧ (W.sd (!p.k)).since = none then some W.tick else (W.sd (!p.k)).since) = (W.sd (!p.k)).since := if_neg (fun z => hs z.2)
      rw [e1, if_neg hs]
      split <;> omega
  refine ⟨⟨rfl, gd, ?_, by omega, fun e => by omega, [], (List.append_nil _).symm⟩, ph⟩
  show _ + (W.log.length : Int) ≤ _
  omega
theorem leads_lands (f : Fine S) : ∀ (L : List Pc) {W : Wo}, Good S W L → Leads S W L (L.foldl (land S) W) [] ∧ Phi S (L.foldl (land S) W) [] + L.length ≤ Phi S W L
  | [], W, g => ⟨Leads.refl g, by simp⟩
  | p :: L, W, g => by
    obtain ⟨a, ha⟩ := Leads.land f g
    obtain ⟨b, hb⟩ := leads_lands f L a.good
    refine ⟨a.trans b, ?_⟩
    show Phi S (L.foldl (land S) (land S W p)) [] + ((L.length + 1 : Nat) : Int) ≤ _
    omega
theorem lands_til : ∀ (L : List Pc) {W : Wo} (k : Bool), ((L.foldl (land S) W).sd k).til = (W.sd k).til ∧ ((L.foldl (land S) W).sd k).todo = (W.sd k).todo ∧ (L.foldl (land S) W).tick = W.tick
  | [], _, _ => ⟨rfl, rfl, rfl⟩
  | p :: L, W, k => by
    obtain ⟨a, b, c⟩ := lands_til L (W := land S W p) k
    have e : ((land S W p).sd k).til = (W.sd k).til ∧ ((land S W p).sd k).todo = (W.sd k).todo := by
      unfold land
      rcases two p.k k with rfl | rfl
      · rw [Wo.put_other']; exact ⟨rfl, rfl⟩
      · rw [Wo.put_same]; exact ⟨rfl, rfl⟩
    exact ⟨a.trans e.1, b.trans e.2, c⟩
end Sm

/-! The whole run: a tick from its start, the next tick, the end. -/
namespace Sm
variable {S : Sh} {W : Wo} {L : List Pc} {k : Bool}

def landing (S : Sh) (W : Wo) : List Pc := W.log.filter fun p => decide (p.t + S.way = W.tick)
theorem arrive_eq : arrive S W = (landing S W).foldl (land S) W := rfl

/-- from the start of a tick to its end -/
theorem leads_tick (f : Fine S) (g : Good S W (landing S W)) : Leads S W (landing S W) (tickW S W) [] := by
  have a := (leads_lands f _ g).1
  have b := a.trans (Leads.free (k := false) f a.good)
  have c := b.trans (Leads.free (k := true) f b.good)
  have d := c.trans (Leads.goes (k := false) f c.good)
  have e := d.trans (Leads.goes (k := true) f d.good)
  have h := e.trans (Leads.answer (k := false) f e.good)
  exact h.trans (Leads.answer (k := true) f h.good)
theorem Good.arrived (f : Fine S) (g : Good S W (landing S W)) : Good S (arrive S W) [] := (leads_lands f _ g).1.good
theorem Good.goes (f : Fine S) (g : Good S W L) : Good S (Sm.goes S W k) L := (Leads.goes f g).good

/-- ahead of the answers, in four steps -/
def t1 (S : Sh) (W : Wo) : Wo := free S (free S (arrive S W) false) true
def t2 (S : Sh) (W : Wo) : Wo := goes S (t1 S W) false
def t3 (S : Sh) (W : Wo) : Wo := goes S (t2 S W) true
def t4 (S : Sh) (W : Wo) : Wo := answer S (t3 S W) false
theorem tickW_eq : tickW S W = answer S (t4 S W) true := rfl
theorem leads_t1 (f : Fine S) (g : Good S W (landing S W)) : Leads S W (landing S W) (t1 S W) [] := by
  have a := (leads_lands f _ g).1
  have b := a.trans (Leads.free (k := false) f a.good)
  exact b.trans (Leads.free (k := true) f b.good)
theorem leads_t2 (f : Fine S) (g : Good S W (landing S W)) : Leads S W (landing S W) (t2 S W) [] := (leads_t1 f g).trans (Leads.goes (k := false) f (leads_t1 f g).good)
theorem leads_t3 (f : Fine S) (g : Good S W (landing S W)) : Leads S W (landing S W) (t3 S W) [] := (leads_t2 f g).trans (Leads.goes (k := true) f (leads_t2 f g).good)
theorem leads_t4 (f : Fine S) (g : Good S W (landing S W)) : Leads S W (landing S W) (t4 S W) [] := (leads_t3 f g).trans (Leads.answer (k := false) f (leads_t3 f g).good)

theorem t1_til (k : Bool) : ((t1 S W).sd k).til = (W.sd k).til ∧ ((t1 S W).sd k).todo = (W.sd k).todo ∧ (t1 S W).tick = W.tick := by
  have a := lands_til (S := S) (landing S W) (W := W) k
  have fr := fun (V : Wo) (j : Bool) => free_rest (S := S) (W := V) (k := j)
  have one : ∀ (V : Wo) (j : Bool), ((free S V j).sd k).til = (V.sd k).til ∧ ((free S V j).sd k).todo = (V.sd k).todo ∧ (free S V j).tick = V.tick := fun V j => by
    obtain ⟨q1, q2, _, _, _, _, q7, q8⟩ := fr V j
    rcases two j k with rfl | rfl
    · exact ⟨q2, q1, q8⟩
    · rw [q7]; exact ⟨rfl, rfl, q8⟩
  have b := one (arrive S W) false
  have c := one (free S (arrive S W) false) true
  exact ⟨c.1.trans (b.1.trans a.1), c.2.1.trans (b.2.1.trans a.2.1), c.2.2.trans (b.2.2.trans a.2.2)⟩
theorem t2_tick : (t2 S W).tick = W.tick := goes_tick.trans (t1_til false).2.2
theorem t3_tick : (t3 S W).tick = W.tick := goes_tick.trans t2_tick
theorem t4_tick : (t4 S W).tick = W.tick := answer_tick.trans t3_tick
theorem tickW_tick : (tickW S W).tick = W.tick := answer_tick.trans t4_tick

theorem mem_optL {o : Option Int} {t : Int} : t ∈ optL o ↔ o = some t := by
  cases o with
  | none => exact ⟨fun h => (nomatch h), fun h => (nomatch h)⟩
  | some u => simp [optL, eq_comm]
theorem mem_later {V : Wo} {t : Int} : t ∈ later S V ↔ (∃ k, ∃ u, (V.sd k).since = some u ∧ t = u + S.delay k) ∨ (∃ k, (V.sd k).til = some t) ∨ (∃ p ∈ V.log, V.tick < p.t + S.way ∧ t = p.t + S.way) := by
  unfold later laterSd laterLog
  simp only [List.mem_append, mem_optL, Option.map_eq_some_iff, List.mem_map, List.mem_filter, decide_eq_true_eq]
  constructor
  · rintro (((⟨u, h, e⟩ | h) | (⟨u, h, e⟩ | h)) | ⟨p, ⟨h1, h2⟩, e⟩)
    · exact .inl ⟨false, u, h, e.symm⟩
    · exact .inr (.inl ⟨false, h⟩)
    · exact .inl ⟨true, u, h, e.symm⟩
    · exact .inr (.inl ⟨true, h⟩)
    · exact .inr (.inr ⟨p, h1, h2, e.symm⟩)
  · rintro (⟨k, u, h, e⟩ | ⟨k, h⟩ | ⟨p, h1, h2, e⟩)
    · cases k
      · exact .inl (.inl (.inl ⟨u, h, e.symm⟩))
      · exact .inl (.inr (.inl ⟨u, h, e.symm⟩))
    · cases k
      · exact .inl (.inl (.inr h))
      · exact .inl (.inr (.inr h))
    · exact .inr ⟨p, ⟨h1, h2⟩, e.symm⟩

/-- all that is later is later -/
theorem later_gt (f : Fine S) (g : Good S W (landing S W)) {t : Int} (h : t ∈ later S (tickW S W)) : W.tick < t := by
  rcases mem_later.mp h with ⟨k, u, h, e⟩ | ⟨k, h⟩ | ⟨p, h1, h2, e⟩
  · rw [e]
    clear e
    cases k
    · have e : (tickW S W).sd false = (t4 S W).sd false := answer_other (k := true)
      rw [e] at h
      have := answer_since (S := S) (W := t3 S W) (k := false) h
      rw [t3_tick] at this
      exact this
    · have := answer_since (S := S) (W := t4 S W) (k := true) h
      rw [t4_tick] at this
      exact this
  · cases k
    · have e : (tickW S W).sd false = (t4 S W).sd false := answer_other (k := true)
      rw [e] at h
      have e2 : ((t4 S W).sd false).til = ((t3 S W).sd false).til := answer_til
      have e3 : (t3 S W).sd false = (t2 S W).sd false := goes_other (k := true)
      rw [e2, e3] at h
      have := steps_til (S := S) (k := false) (L := []) _ (W := t1 S W) (Nat.le_refl _) (leads_t1 f g).good f t h
      rw [(t1_til false).2.2] at this
      exact this
    · have e2 : ((tickW S W).sd true).til = ((t4 S W).sd true).til := answer_til
      have e3 : (t4 S W).sd true = (t3 S W).sd true := answer_other (k := false)
      rw [e2, e3] at h
      have := steps_til (S := S) (k := true) (L := []) _ (W := t2 S W) (Nat.le_refl _) (leads_t2 f g).good f t h
      rw [t2_tick] at this
      exact this
  · rw [tickW_tick] at h2
    rw [e]
    exact h2

/-! ### on to the next tick -/
def adv (W : Wo) (t : Int) : Wo := { W with tick := t }
theorem parts (t : Int) : ∀ l : List Pc, (∀ p ∈ l, W.tick < p.t + S.way → t ≤ p.t + S.way) → W.tick < t →
    (∀ k, bytesL k (l.filter fun p => decide (W.tick < p.t + S.way)) = bytesL k (l.filter fun p => decide (t < p.t + S.way)) + bytesL k (l.filter fun p => decide (p.t + S.way = t))) ∧
    wsum (l.filter fun p => decide (W.tick < p.t + S.way)) = wsum (l.filter fun p => decide (t < p.t + S.way)) + wsum (l.filter fun p => decide (p.t + S.way = t))
  | [], _, _ => ⟨fun _ => rfl, rfl⟩
  | p :: l, h, ht => by
    obtain ⟨a, b⟩ := parts t l (fun q hq => h q (List.mem_cons_of_mem _ hq)) ht
    have hp := h p List.mem_cons_self
    by_cases h1 : W.tick < p.t + S.way
    · have h2 := hp h1
      by_cases h3 : p.t + S.way = t
      · have h4 : ¬ t < p.t + S.way := by omega
        rw [List.filter_cons, List.filter_cons, List.filter_cons, if_pos (decide_eq_true h1), if_neg (fun z => h4 (of_decide_eq_true z)), if_pos (decide_eq_true h3)]
        refine ⟨fun k => ?_, ?_⟩
        · have := a k
          show (if p.k = k then p.m else 0) + _ = _ + ((if p.k = k then p.m else 0) + _)
          omega
        · show wt p + _ = _ + (wt p + _)
          omega
      · have h4 : t < p.t + S.way := by omega
        rw [List.filter_cons, List.filter_cons, List.filter_cons, if_pos (decide_eq_true h1), if_pos (decide_eq_true h4), if_neg (fun z => h3 (of_decide_eq_true z))]
        refine ⟨fun k => ?_, ?_⟩
        · have := a k
          show (if p.k = k then p.m else 0) + _ = ((if p.k = k then p.m else 0) + _) + _
          omega
        · show wt p + _ = (wt p + _) + _
          omega
    · have h4 : ¬ t < p.t + S.way := by omega
      have h3 : ¬ p.t + S.way = t := by omega
      rw [List.filter_cons, List.filter_cons, List.filter_cons, if_neg (fun z => h1 (of_decide_eq_true z)), if_neg (fun z => h4 (of_decide_eq_true z)), if_neg (fun z => h3 (of_decide_eq_true z))]
      exact ⟨a, b⟩
theorem adv_ok {t : Int} (g : Good S W []) (hl : ∀ p ∈ W.log, W.tick < p.t + S.way → t ≤ p.t + S.way) (ht : W.tick < t) : Good S (adv W t) (landing S (adv W t)) ∧ Phi S (adv W t) (landing S (adv W t)) = Phi S W [] := by
  obtain ⟨a, b⟩ := parts (S := S) (W := W) t W.log hl ht
  have fl : ∀ p, p ∈ flying S (adv W t) ∨ p ∈ landing S (adv W t) → p ∈ flying S W := fun p hp => by
    rcases hp with hp | hp
    · have q := List.mem_filter.mp hp
      have q2 : t < p.t + S.way := of_decide_eq_true q.2
      exact List.mem_filter.mpr ⟨q.1, decide_eq_true (by omega)⟩
    · have q := List.mem_filter.mp hp
      have q2 : p.t + S.way = t := of_decide_eq_true q.2
      exact List.mem_filter.mpr ⟨q.1, decide_eq_true (by omega)⟩
  refine ⟨⟨g.kept, fun k => ?_, g.known, g.known0, fun p hp => g.ans p (.inl (fl p hp)), g.fs, g.til, g.fin, g.pos⟩, ?_⟩
  · have q := g.out k
    have q2 : bytesL k (flying S W) = bytesL k (flying S (adv W t)) + bytesL k (landing S (adv W t)) := a k
    have q3 : bytesL k ([] : List Pc) = 0 := rfl
    show (W.sd k).out = (W.sd (!k)).come + _ + _
    omega
  · have q2 : wsum (flying S W) = wsum (flying S (adv W t)) + wsum (landing S (adv W t)) := b
    have q3 : wsum ([] : List Pc) = 0 := rfl
    unfold Phi
    show sw (W.sd false) + sw (W.sd true) + _ + _ = _
    omega

theorem foldl_min_le : ∀ (l : List Int) (x : Int), l.foldl min x ≤ x ∧ ∀ y ∈ l, l.foldl min x ≤ y
  | [], x => ⟨Int.le_refl _, fun _ h => nomatch h⟩
  | z :: l, x => by
    obtain ⟨a, b⟩ := foldl_min_le l (min x z)
    refine ⟨?_, fun y hy => ?_⟩
    · show l.foldl min (min x z) ≤ x
      omega
    · rcases List.mem_cons.mp hy with rfl | hy
      · show l.foldl min (min x y) ≤ y
        omega
      · exact b y hy
theorem foldl_min_mem : ∀ (l : List Int) (x : Int), l.foldl min x = x ∨ l.foldl min x ∈ l
  | [], x => .inl rfl
  | z :: l, x => by
    show l.foldl min (min x z) = x ∨ l.foldl min (min x z) ∈ z :: l
    rcases foldl_min_mem l (min x z) with h | h
    · rw [h]
      by_cases q : x ≤ z
      · exact .inl (by omega)
      · exact .inr (by rw [show min x z = z by omega]; exact List.mem_cons_self)
    · exact .inr (List.mem_cons_of_mem _ h)
theorem minL_le {l : List Int} {y : Int} (h : y ∈ l) : minL l ≤ y := by
  cases l with
  | nil => cases h
  | cons x r =>
    obtain ⟨a, b⟩ := foldl_min_le r x
    rcases List.mem_cons.mp h with rfl | h
    · exact a
    · exact b y h
theorem minL_mem {l : List Int} (h : l ≠ []) : minL l ∈ l := by
  cases l with
  | nil => exact absurd rfl h
  | cons x r =>
    rcases foldl_min_mem r x with e | e
    · show r.foldl min x ∈ x :: r
      rw [e]
      exact List.mem_cons_self
    · exact List.mem_cons_of_mem _ e
/-- whatever is the least of the same things -/
theorem minL_uniq {l : List Int} {m : Int} (h1 : m ∈ l) (h2 : ∀ y ∈ l, m ≤ y) : minL l = m := by
  have a := minL_le h1
  have b := h2 _ (minL_mem (l := l) (by intro z; rw [z] at h1; cases h1))
  omega

/-- the next tick's start -/
def next (S : Sh) (W : Wo) : Wo := adv (tickW S W) (minL (later S (tickW S W)))
theorem next_ok (f : Fine S) (g : Good S W (landing S W)) (h : later S (tickW S W) ≠ []) : Good S (next S W) (landing S (next S W)) ∧ Phi S (next S W) (landing S (next S W)) = Phi S (tickW S W) [] ∧ (tickW S W).tick < (next S W).tick := by
  have a := leads_tick f g
  have m := minL_mem h
  have ht : (tickW S W).tick < minL (later S (tickW S W)) := by
    rw [tickW_tick]
    exact later_gt f g m
  have b := adv_ok (S := S) (W := tickW S W) (t := minL (later S (tickW S W))) a.good (fun p hp q => minL_le (mem_later.mpr (.inr (.inr ⟨p, hp, q, rfl⟩)))) ht
  exact ⟨b.1, b.2, ht⟩
/-- THE WEIGHT FALLS: the tick that follows makes it less -/
theorem falls (f : Fine S) (g : Good S W (landing S W)) (h : later S (tickW S W) ≠ []) : Phi S (tickW S (next S W)) [] + 1 ≤ Phi S (tickW S W) [] := by
  obtain ⟨gn, pn, ht⟩ := next_ok f g h
  rw [← pn]
  generalize hV : next S W = V at gn pn ht
  have l1 := leads_t1 f gn
  have l2 := leads_t2 f gn
  have l3 := leads_t3 f gn
  have l4 := leads_t4 f gn
  have l5 := leads_tick f gn
  have a2 := (Leads.goes (k := false) f l1.good)
  have a3 := (Leads.goes (k := true) f l2.good)
  have a4 := (Leads.answer (k := false) f l3.good)
  have a5 := (Leads.answer (k := true) f l4.good)
  have p2 : Phi S (t2 S V) [] ≤ Phi S (t1 S V) [] := a2.phi
  have p3 : Phi S (t3 S V) [] ≤ Phi S (t2 S V) [] := a3.phi
  have p4 : Phi S (t4 S V) [] ≤ Phi S (t3 S V) [] := a4.phi
  have p5 : Phi S (tickW S V) [] ≤ Phi S (t4 S V) [] := a5.phi
  have p1 : Phi S (t1 S V) [] ≤ Phi S V (landing S V) := l1.phi
  have eV : ∀ k, V.sd k = (tickW S W).sd k := fun k => by rw [← hV]; rfl
  have eT : V.tick = minL (later S (tickW S W)) := by rw [← hV]; rfl
  have eL : V.log = (tickW S W).log := by rw [← hV]; rfl
  rcases mem_later.mp (minL_mem h) with ⟨k, u, hs, e⟩ | ⟨k, hs⟩ | ⟨p, hp, hq, e⟩
  · -- an answer is due, or bytes went
    rw [← eV] at hs
    rw [← eT] at e
    by_cases q : Phi S (t3 S V) [] = Phi S V (landing S V)
    · have s3 := l3.since q k u hs
      cases k
      · have := answer_falls (k := false) f l3.good s3 (by rw [t3_tick]; omega)
        have : Phi S (t4 S V) [] + 1 ≤ Phi S (t3 S V) [] := this
        omega
      · have e4 : (t4 S V).sd true = (t3 S V).sd true := answer_other (k := false)
        have := answer_falls (k := true) f l4.good (by rw [e4]; exact s3) (by rw [t4_tick]; omega)
        have : Phi S (tickW S V) [] + 1 ≤ Phi S (t4 S V) [] := this
        omega
    · omega
  · rw [← eV] at hs
    rw [← eT] at hs
    cases k
    · have := steps_falls (k := false) f l1.good (t := V.tick) (by rw [(t1_til false).1]; exact hs) (by rw [(t1_til false).2.2]; exact Int.le_refl _) _ (Nat.le_refl _)
      have : Phi S (t2 S V) [] + 1 ≤ Phi S (t1 S V) [] := this
      omega
    · have e2 : (t2 S V).sd true = (t1 S V).sd true := goes_other (k := false)
      have := steps_falls (k := true) f l2.good (t := V.tick) (by rw [e2, (t1_til true).1]; exact hs) (by rw [t2_tick]; exact Int.le_refl _) _ (Nat.le_refl _)
      have : Phi S (t3 S V) [] + 1 ≤ Phi S (t2 S V) [] := this
      omega
  · have hm : p ∈ landing S V := List.mem_filter.mpr ⟨by rw [eL]; exact hp, decide_eq_true (by rw [eT, e])⟩
    have hz : 1 ≤ (landing S V).length := List.length_pos_of_mem hm
    have q := (leads_lands f _ gn).2
    have b := Leads.free (k := false) f (leads_lands f _ gn).1.good
    have c := Leads.free (k := true) f b.good
    have b1 := b.phi
    have c1 : Phi S (t1 S V) [] ≤ _ := c.phi
    have q1 : Phi S ((landing S V).foldl (land S) V) [] + (landing S V).length ≤ Phi S V (landing S V) := q
    omega

/-! ### the run has an end -/
/-- within n ticks nothing is left -/
def Done (S : Sh) : Nat → Wo → Prop
  | 0, _ => False
  | n + 1, W => later S (tickW S W) = [] ∨ Done S n (next S W)
theorem done_of (f : Fine S) (n : Nat) : ∀ W : Wo, Good S W (landing S W) → Phi S (tickW S W) [] < n → Done S n W := by
  induction n with
  | zero =>
    intro W g h
    have := (leads_tick f g).good.phi_nn
    omega
  | succ n ih =>
    intro W g h
    by_cases e : later S (tickW S W) = []
    · exact .inl e
    · have a := falls f g e
      exact .inr (ih _ (next_ok f g e).1 (by omega))
theorem runW_succ (n : Nat) : runW S (n + 1) W = if later S (tickW S W) = [] then tickW S W else runW S n (next S W) := rfl

theorem begin_good {a b : List (Wd × Int)} (ha : ∀ q ∈ a, 0 ≤ q.2 ∧ (q.1 = .wr → 1 ≤ q.2)) (hb : ∀ q ∈ b, 0 ≤ q.2 ∧ (q.1 = .wr → 1 ≤ q.2)) : Good S (begin0 a b) (landing S (begin0 a b)) := by
  have el : landing S (begin0 a b) = [] := rfl
  have ef : flying S (begin0 a b) = [] := rfl
  rw [el]
  have eo : ∀ k, (begin0 a b).sd k = sd0 (if k = true then b else a) := fun k => by cases k <;> rfl
  refine ⟨fun k => ?_, fun k => ?_, fun k => ?_, fun k => ?_, fun p hp => ?_, fun k h => ?_, fun k h => ?_, fun k => ?_, fun k => ?_⟩
  · rw [eo]; exact Int.le_refl _
  · rw [eo, eo, ef]; rfl
  · rw [eo]; exact Int.le_refl _
  · rw [eo]; exact Int.le_refl _
  · rw [ef] at hp; rcases hp with hp | hp <;> cases hp
  · rw [eo] at h; exact absurd h (by show ¬ (0 : Int) < 0; omega)
  · rw [eo] at h; exact absurd rfl h
  · rw [eo]
    show (if (if k = true then b else a) = [] then some (0 : Int) else none) = none ↔ (if k = true then b else a) ≠ []
    split
    · rename_i h; simp [h]
    · rename_i h; simp [h]
  · rw [eo]
    cases k
    · exact ha
    · exact hb
theorem begin_phi {a b : List (Wd × Int)} : Phi S (begin0 a b) (landing S (begin0 a b)) = 4 * writes a + pauses a + (4 * writes b + pauses b) := by
  show (4 * (0 + writes a) + pauses a + 0) + (4 * (0 + writes b) + pauses b + 0) + 0 + 0 = _
  omega
theorem begin_done {a b : List (Wd × Int)} (f : Fine S) (ha : ∀ q ∈ a, 0 ≤ q.2 ∧ (q.1 = .wr → 1 ≤ q.2)) (hb : ∀ q ∈ b, 0 ≤ q.2 ∧ (q.1 = .wr → 1 ≤ q.2)) (h : 4 * writes a + pauses a + (4 * writes b + pauses b) < 4000) : Done S 4000 (begin0 a b) := by
  have g := begin_good (S := S) ha hb
  have l := leads_tick f g
  have e := begin_phi (S := S) (a := a) (b := b)
  have p := l.phi
  exact done_of f 4000 _ g (by omega)
end Sm

/-! Wrappers: a def of the text that keeps a promise; how it is called. -/
namespace Sm
open PySem PySem.Spec PyProof.Rows L2
abbrev cxF (P : Program) (w : World) (K : PySem.W.Frag) (mg : Str → Option Value) (base : Heap) (N : List Str) (qual : Str) (st : Stmt) (f : Addr) (cdv : Value) (A : Around) (outer : List Env) (s : Shared) (H : Hp) (E : XK) : Cx :=
  (cxOf CX0 P w K mg base N qual (defScope st) f cdv A outer s H E).nox
/-- the function object at f -/
def Held (K : PySem.W.Frag) (f : Addr) (fd : FuncData) : Prop := ∃ o, K.lookup f = some o ∧ o.data = .func fd
theorem Held.of {K : PySem.W.Frag} {x q : Str} {pa : Arguments} {body : List Stmt} {sc : Scope} {f : Addr} {fd : FuncData} (F : FunD K x q pa body sc [] [] f fd) : Held K f fd := by
  obtain ⟨oc, od, dV, kV, doc, pm, an, cdv, ct, osl, rfl, lk, _⟩ := F.ex
  exact ⟨_, lk, rfl⟩
theorem Held.eq {K : PySem.W.Frag} {f : Addr} {a b : FuncData} (h : Held K f a) (g : Held K f b) : a = b := by
  obtain ⟨o, e, d⟩ := h
  obtain ⟨o', e', d'⟩ := g
  rw [e] at e'
  cases e'
  rw [d] at d'
  exact Data.func.inj d'
/-- a def of the module keeps its promise -/
structure Okf (P : Program) (w : World) (K : PySem.W.Frag) (mg : Str → Option Value) (base : Heap) (x : Str) (ps : List Str) (k : Nat) (sp : Sp) : Prop where
  ex : ∃ fd, FnOk P w K mg base CX0 k (He.ga K x) fd ps sp ∧ Binds K fd ps [] ∧ Held K (He.ga K x) fd
  gl : mg x = some (.ref (He.ga K x))
  kp : PySem.W.keepIn K (.ref (He.ga K x)) = true
/-- a method of a class -/
structure Okm (P : Program) (w : World) (K : PySem.W.Frag) (mg : Str → Option Value) (base : Heap) (C m : Str) (ps : List Str) (k : Nat) (sp : Sp) : Prop where
  ex : ∃ fd, FnOk P w K mg base CX0 k (He.ma K (He.ga K C) m) fd ps sp ∧ Binds K fd ps []
  me : Meth K (He.ga K C) m (He.ma K (He.ga K C) m)
  cl : Cls K (He.ga K C)
/-- a class's __init__ -/
structure Okc (P : Program) (w : World) (K : PySem.W.Frag) (mg : Str → Option Value) (base : Heap) (C : Str) (ps : List Str) (k : Nat) (sp : Sp) : Prop where
  ex : ∃ fd, FnOk P w K mg base CX0 k (He.ma K (He.ga K C) "__init__") fd ps sp ∧ Binds K fd ps []
  mkk : Mk K (He.ga K C) (He.ma K (He.ga K C) "__init__")
  gl : mg C = some (.ref (He.ga K C))
section
variable {X : Cx} {k : Nat} {ps : List Str} {sp : Sp} {x C m : Str} {p pos apos : Pos} {e o : Expr} {es : List Expr} {ta : TE} {t : TA}
theorem pe_f (O : Okf X.prog X.w X.K X.mg X.base x ps k sp) (hr : Room k X.A) (hg : Gl X x) (ha : PA X (e :: es) t) (hdb : (x == ("__debug__" : Str)) = false := by decide)
    (he : starEach (e :: es) X.env = (false, eval e X.env) :: starEach es X.env := by rfl) (hpl : (backTo pos (starEach es X.env)).any (·.1) = false := by rfl) : PE X (.Call (.Name x p) (e :: es) [] pos) (tCall sp [] E0 t) := by
  obtain ⟨fd, F, b, _⟩ := O.ex
  exact pe_call F hr hg O.gl O.kp b .nil pass0 ha hdb he hpl
theorem pe_m (K : PySem.W.Frag) {pl : Sem Bool} (O : Okm X.prog X.w X.K X.mg X.base C m ps k sp) (hr : Room k X.A) (ho : PE X o ta) (ha : PA X (e :: es) t)
    (hst : starEach (e :: es) X.env = (false, eval e X.env) :: starEach es X.env := by rfl) (hpl : (backTo pos (starEach es X.env)).any (·.1) = false := by rfl)
    (ht : eval (.Call (.Attribute o m apos) (e :: es) [] pos) X.env = (do
      let ov ← eval o X.env
      standAt apos.atName
      let (f, first) ← holding [ov] (getMethod ov m pl)
      callWith pos f first (backTo pos (starEach (e :: es) X.env)) (backToKw pos (keywordEach [] X.env))) := by rfl) (hK : X.K = K := by rfl) :
    PE X (.Call (.Attribute o m apos) (e :: es) [] pos) (tMeth (He.ga K C) m sp [] E0 ta t) := by
  subst hK
  obtain ⟨fd, F, b⟩ := O.ex
  exact pe_meth ho O.cl O.me F hr b .nil pass0 ha hst hpl ht
theorem pe_m0 (K : PySem.W.Frag) {pl : Sem Bool} (O : Okm X.prog X.w X.K X.mg X.base C m ps k sp) (hr : Room k X.A) (ho : PE X o ta)
    (ht : eval (.Call (.Attribute o m apos) [] [] pos) X.env = (do
      let ov ← eval o X.env
      standAt apos.atName
      let (f, first) ← holding [ov] (getMethod ov m pl)
      callWith pos f first (backTo pos (starEach [] X.env)) (backToKw pos (keywordEach [] X.env))) := by rfl) (hK : X.K = K := by rfl) :
    PE X (.Call (.Attribute o m apos) [] [] pos) (tMeth (He.ga K C) m sp [] E0 ta tNil) := by
  subst hK
  obtain ⟨fd, F, b⟩ := O.ex
  exact pe_meth0 ho O.cl O.me F hr b .nil pass0 ht
theorem pe_new (O : Okc X.prog X.w X.K X.mg X.base x ps k sp) (hr : Room (k + 1) X.A) (hg : Gl X x) (ha : PA X (e :: es) t) (hdb : (x == ("__debug__" : Str)) = false := by decide)
    (he : starEach (e :: es) X.env = (false, eval e X.env) :: starEach es X.env := by rfl) (hpl : (backTo pos (starEach es X.env)).any (·.1) = false := by rfl) : PE X (.Call (.Name x p) (e :: es) [] pos) (tMake (He.ga X.K x) sp [] E0 t) := by
  obtain ⟨fd, F, b⟩ := O.ex
  exact pe_make O.mkk F hr hg O.gl b .nil pass0 ha hdb he hpl
/-- a constant of the module: an int -/
theorem pe_gint {n : Int} (h : ∃ t, X.mg x = some (.int n t)) (hg : Gl X x) (hd : (x == ("__debug__" : Str)) = false := by decide) : PE X (.Name x pos) (tC (.int n)) := by
  obtain ⟨t, e⟩ := h
  exact pe_glob hg e ⟨t, rfl⟩ hd
theorem pe_gstr {z : Str} (h : ∃ t, X.mg x = some (.str z t)) (hg : Gl X x) (hd : (x == ("__debug__" : Str)) = false := by decide) : PE X (.Name x pos) (tC (.str z)) := by
  obtain ⟨t, e⟩ := h
  exact pe_glob hg e ⟨t, rfl⟩ hd
theorem pe_gref {a : Addr} (h : X.mg x = some (.ref a)) (hg : Gl X x) (hd : (x == ("__debug__" : Str)) = false := by decide) : PE X (.Name x pos) (tC (.ref a)) := pe_glob hg h rfl hd
end

/-! ### promises by the number of arguments -/
def sp1 (p : V → Hp → VK → Prop) : Sp := fun vs H Q _ => ∃ a, vs = [a] ∧ p a H Q
def sp2 (p : V → V → Hp → VK → Prop) : Sp := fun vs H Q _ => ∃ a b, vs = [a, b] ∧ p a b H Q
def sp3 (p : V → V → V → Hp → VK → Prop) : Sp := fun vs H Q _ => ∃ a b c, vs = [a, b, c] ∧ p a b c H Q
def sp4 (p : V → V → V → V → Hp → VK → Prop) : Sp := fun vs H Q _ => ∃ a b c d, vs = [a, b, c, d] ∧ p a b c d H Q
def sp5 (p : V → V → V → V → V → Hp → VK → Prop) : Sp := fun vs H Q _ => ∃ a b c d e, vs = [a, b, c, d, e] ∧ p a b c d e H Q
abbrev fin (Q : VK) : Ends := { nx := fun _ H' => Q .non H', rt := Q }
section
variable {P : Program} {w : World} {K : PySem.W.Frag} {mg : Str → Option Value} {base : Heap} {x C m q : Str} {st : Stmt} {N ps : List Str} {k i : Nat} {sp : Sp} {n1 n2 n3 n4 n5 : Str}
/-- what the binding of the arguments must be -/
abbrev BindOf (x q : Str) (st : Stmt) (ps : List Str) : Prop := ∀ (kV doc pm : Value) (an : Option Addr) (cdv ct : Value) (us : List Value), us.length = ps.length → bindArgs (PySem.W.fnOf x q (defArgs st) (defBody st) (defScope st) .none kV doc pm an cdv ct) ⟨us, []⟩ = pure (ps.zip us)
theorem mkF (T : Tx K mg w) (i : Nat) (hd : fn[i]? = some ⟨(x, none), x, x, defArgs st, defBody st, defScope st, [], []⟩) (hg : mg x = some (.ref (He.ga K x))) (S : FnScope N ps (defScope st)) (hb : BindOf x x st ps) (len : ∀ vs H Q E, sp vs H Q E → vs.length = ps.length)
    (body : ∀ (cdv : Value) (A : Around) (outer : List Env) (s : Shared) (H : Hp) (E : XK) (vs : List V) (Q : VK), Room k (A.deeper (envOfC x (defScope st) s.heap.objs.size (He.ga K x) cdv)) → sp vs H Q E →
      ∃ t, PSs (cxF P w K mg base N x st (He.ga K x) cdv A outer s H E) (defBody st) t ∧ t (fin Q) (start N vs) H) : Okf P w K mg base x ps (k + 1) sp := by
  obtain ⟨fd, F⟩ := T.def_ i hd
  have F : FunD K x x (defArgs st) (defBody st) (defScope st) [] [] (He.ga K x) fd := F
  refine ⟨⟨fd, F.ok S len (fun cdv A outer s H vs Q E hr h => ?_), F.bindsN hb, Held.of F⟩, hg, F.kp⟩
  obtain ⟨t, h1, h2⟩ := body cdv A outer s H E vs Q hr h
  exact ⟨t, h1.nox, h2⟩
theorem mkM (T : Tx K mg w) (i : Nat) (hd : fn[i]? = some ⟨(C, some m), m, q, defArgs st, defBody st, defScope st, [], []⟩) (hc : Cls K (He.ga K C)) (hm : Meth K (He.ga K C) m (He.ma K (He.ga K C) m)) (S : FnScope N ps (defScope st)) (hb : BindOf m q st ps) (len : ∀ vs H Q E, sp vs H Q E → vs.length = ps.length)
    (body : ∀ (cdv : Value) (A : Around) (outer : List Env) (s : Shared) (H : Hp) (E : XK) (vs : List V) (Q : VK), Room k (A.deeper (envOfC q (defScope st) s.heap.objs.size (He.ma K (He.ga K C) m) cdv)) → sp vs H Q E →
      ∃ t, PSs (cxF P w K mg base N q st (He.ma K (He.ga K C) m) cdv A outer s H E) (defBody st) t ∧ t (fin Q) (start N vs) H) : Okm P w K mg base C m ps (k + 1) sp := by
  obtain ⟨fd, F⟩ := T.def_ i hd
  have F : FunD K m q (defArgs st) (defBody st) (defScope st) [] [] (He.ma K (He.ga K C) m) fd := F
  refine ⟨⟨fd, F.ok S len (fun cdv A outer s H vs Q E hr h => ?_), F.bindsN hb⟩, hm, hc⟩
  obtain ⟨t, h1, h2⟩ := body cdv A outer s H E vs Q hr h
  exact ⟨t, h1.nox, h2⟩
theorem mkC (T : Tx K mg w) (i : Nat) (hd : fn[i]? = some ⟨(C, some "__init__"), "__init__", q, defArgs st, defBody st, defScope st, [], []⟩) (hk : Mk K (He.ga K C) (He.ma K (He.ga K C) "__init__")) (hg : mg C = some (.ref (He.ga K C))) (S : FnScope N ps (defScope st)) (hb : BindOf "__init__" q st ps) (len : ∀ vs H Q E, sp vs H Q E → vs.length = ps.length)
    (body : ∀ (cdv : Value) (A : Around) (outer : List Env) (s : Shared) (H : Hp) (E : XK) (vs : List V) (Q : VK), Room k (A.deeper (envOfC q (defScope st) s.heap.objs.size (He.ma K (He.ga K C) "__init__") cdv)) → sp vs H Q E →
      ∃ t, PSs (cxF P w K mg base N q st (He.ma K (He.ga K C) "__init__") cdv A outer s H E) (defBody st) t ∧ t (fin Q) (start N vs) H) : Okc P w K mg base C ps (k + 1) sp := by
  obtain ⟨fd, F⟩ := T.def_ i hd
  have F : FunD K "__init__" q (defArgs st) (defBody st) (defScope st) [] [] (He.ma K (He.ga K C) "__init__") fd := F
  refine ⟨⟨fd, F.ok S len (fun cdv A outer s H vs Q E hr h => ?_), F.bindsN hb⟩, hk, hg⟩
  obtain ⟨t, h1, h2⟩ := body cdv A outer s H E vs Q hr h
  exact ⟨t, h1.nox, h2⟩
theorem len1 {p : V → Hp → VK → Prop} {n1 : Str} : ∀ vs H Q E, sp1 p vs H Q E → vs.length = [n1].length := fun _ _ _ _ ⟨_, e, _⟩ => by rw [e]; rfl
theorem len2 {p : V → V → Hp → VK → Prop} : ∀ vs H Q E, sp2 p vs H Q E → vs.length = [n1, n2].length := fun _ _ _ _ ⟨_, _, e, _⟩ => by rw [e]; rfl
theorem len3 {p : V → V → V → Hp → VK → Prop} : ∀ vs H Q E, sp3 p vs H Q E → vs.length = [n1, n2, n3].length := fun _ _ _ _ ⟨_, _, _, e, _⟩ => by rw [e]; rfl
theorem len4 {p : V → V → V → V → Hp → VK → Prop} : ∀ vs H Q E, sp4 p vs H Q E → vs.length = [n1, n2, n3, n4].length := fun _ _ _ _ ⟨_, _, _, _, e, _⟩ => by rw [e]; rfl
theorem len5 {p : V → V → V → V → V → Hp → VK → Prop} : ∀ vs H Q E, sp5 p vs H Q E → vs.length = [n1, n2, n3, n4, n5].length := fun _ _ _ _ ⟨_, _, _, _, _, e, _⟩ => by rw [e]; rfl
end

/-! ### heaps: all stays but the tables of code objects that the program's one lambda writes -/
/-- the name of the program's one lambda -/
def lamQ : Str := ("Run.__init__" : Str) ++ (".<locals>." : Str) ++ ("<lambda>" : Str)
/-- all that was tracked is as it was, but tables; a table of the lambda's code stays one -/
structure Ke (H H' : Hp) : Prop where
  keep : ∀ b o, H b = some o → (∀ ps, o ≠ .tbl ps) → H' b = some o
  tbl : ∀ b ps, H b = some (.tbl ps) → ∃ ps', H' b = some (.tbl ps')
  tab : ∀ p q, q = lamQ → LamX.TabS H p q → LamX.TabS H' p q
theorem Ke.refl (H : Hp) : Ke H H := ⟨fun _ _ h _ => h, fun _ ps h => ⟨ps, h⟩, fun _ _ _ h => h⟩
theorem Ke.trans {H H1 H2 : Hp} (a : Ke H H1) (b : Ke H1 H2) : Ke H H2 :=
  ⟨fun c o h n => b.keep c o (a.keep c o h n) n, fun c ps h => by obtain ⟨qs, h⟩ := a.tbl c ps h; exact b.tbl c qs h, fun p q e h => b.tab p q e (a.tab p q e h)⟩
theorem Ke.of {H H' : Hp} (e : Same H H') : Ke H H' := ⟨fun b o h _ => e b o h, fun b ps h => ⟨ps, e b _ h⟩, fun _ _ _ h => h.ext e⟩
theorem same_new {H : Hp} {p : Addr} {o : HO} (h : H p = none) : Same H (upd H p o) := fun b u e => by
  rw [upd_ne (ne_of_none e h)]
  exact e
theorem Ke.new {H : Hp} {p : Addr} {o : HO} (h : H p = none) : Ke H (upd H p o) := .of (same_new h)
theorem isTbl (o : HO) : (∃ ps, o = .tbl ps) ∨ ∀ ps, o ≠ .tbl ps := by
  cases o <;> first | exact .inl ⟨_, rfl⟩ | exact .inr (fun ps z => by cases z)
theorem Ke.free {H H' : Hp} (e : Ke H H') {l : Addr} (h : H' l = none) : H l = none := by
  cases q : H l with
  | none => rfl
  | some o =>
    rcases isTbl o with ⟨ps, rfl⟩ | z
    · obtain ⟨qs, r⟩ := e.tbl l ps q
      rw [h] at r
      cases r
    · have r := e.keep l o q z
      rw [h] at r
      cases r
theorem Ke.lst {H H' : Hp} {a : Addr} {xs : List V} (e : Ke H H') (h : H a = some (.lst xs)) : H' a = some (.lst xs) := e.keep a _ h fun _ z => by cases z
theorem Ke.tup {H H' : Hp} {a : Addr} {xs : List V} (e : Ke H H') (h : H a = some (.tup xs)) : H' a = some (.tup xs) := e.keep a _ h fun _ z => by cases z
theorem Ke.dK {H H' : Hp} {a : Addr} {kvs : List (Key × V)} (e : Ke H H') (h : H a = some (.dK kvs)) : H' a = some (.dK kvs) := e.keep a _ h fun _ z => by cases z
theorem Ke.ins {H H' : Hp} {a C dx : Addr} {fs : List (Str × V)} (e : Ke H H') (h : H a = some (.ins C dx fs)) : H' a = some (.ins C dx fs) := e.keep a _ h fun _ z => by cases z
theorem Ke.rd {H H' : Hp} {a : Addr} {u : HO} (e : Ke H H') (hu : ∀ ps, u ≠ .tbl ps) (h : Rd H a u) : Rd H' a u := by
  rcases h with h | ⟨o, h⟩
  · exact .inl (e.keep _ _ h hu)
  · exact .inr ⟨o, e.keep _ _ h fun _ z => by cases z⟩
theorem Ke.sql {K : PySem.W.Frag} {H H' : Hp} {a : Addr} {xs : List V} (e : Ke H H') (h : SqL K H a xs) : SqL K H' a xs := h.imp (e.rd fun _ z => by cases z) id
theorem Ke.sqt {K : PySem.W.Frag} {H H' : Hp} {a : Addr} {xs : List V} (e : Ke H H') (h : SqT K H a xs) : SqT K H' a xs := h.imp (e.rd fun _ z => by cases z) id

/-! ### values of data: as Dp, and the empty dict -/
mutual
inductive Dq (K : PySem.W.Frag) (H : Hp) : V → PyData → Prop
  | non : Dq K H .non .none
  | bl (b : Bool) : Dq K H (.bl b) (.bool b)
  | int (i : Int) : Dq K H (.int i) (.int i)
  | str (x : Str) : Dq K H (.str x) (.str x)
  | lst {a : Addr} {xs : List V} {ds : List PyData} : H a = some (.lst xs) → DqAll K H xs ds → Dq K H (.ref a) (.list ds)
  | tup {a : Addr} {xs : List V} {ds : List PyData} : SqT K H a xs → DqAll K H xs ds → Dq K H (.ref a) (.tuple ds)
  | dic {a : Addr} : H a = some (.dK []) → Dq K H (.ref a) (.dict [])
inductive DqAll (K : PySem.W.Frag) (H : Hp) : List V → List PyData → Prop
  | nil : DqAll K H [] []
  | cons {v : V} {vs : List V} {d : PyData} {ds : List PyData} : Dq K H v d → DqAll K H vs ds → DqAll K H (v :: vs) (d :: ds)
end
section
variable {K : PySem.W.Frag} {H H' : Hp}
mutual
theorem Dq.mono (e : Ke H H') : ∀ (d : PyData) (v : V), Dq K H v d → Dq K H' v d
  | .none, _, h => by cases h; exact .non
  | .bool b, _, h => by cases h; exact .bl b
  | .int i, _, h => by cases h; exact .int i
  | .str x, _, h => by cases h; exact .str x
  | .list ds, _, h => by cases h with | lst hs ha => exact .lst (e.lst hs) (DqAll.mono e ds _ ha)
  | .tuple ds, _, h => by cases h with | tup hs ha => exact .tup (e.sqt hs) (DqAll.mono e ds _ ha)
  | .dict _, _, h => by cases h with | dic h => exact .dic (e.dK h)
theorem DqAll.mono (e : Ke H H') : ∀ (ds : List PyData) (vs : List V), DqAll K H vs ds → DqAll K H' vs ds
  | [], _, h => by cases h; exact .nil
  | d :: ds, _, h => by cases h with | cons h1 h2 => exact .cons (Dq.mono e d _ h1) (DqAll.mono e ds _ h2)
end
theorem Dq.ke {v : V} {d : PyData} (h : Dq K H v d) (e : Ke H H') : Dq K H' v d := Dq.mono e d v h
theorem DqAll.ke {vs : List V} {ds : List PyData} (h : DqAll K H vs ds) (e : Ke H H') : DqAll K H' vs ds := DqAll.mono e ds vs h
theorem DqAll.length : ∀ {vs : List V} {ds : List PyData}, DqAll K H vs ds → vs.length = ds.length
  | _, _, .nil => rfl
  | _, _, .cons _ t => congrArg Nat.succ (DqAll.length t)
theorem DqAll.get : ∀ {vs : List V} {ds : List PyData} {i : Nat} {d : PyData}, DqAll K H vs ds → ds[i]? = some d → ∃ v, vs[i]? = some v ∧ Dq K H v d
  | _, _, _, _, .nil, e => by simp at e
  | _, _, 0, _, .cons r _, e => by simp at e; subst e; exact ⟨_, rfl, r⟩
  | _, _, i + 1, x, .cons _ t, e => by
    obtain ⟨u, h1, h2⟩ := DqAll.get (i := i) (d := x) t (by simpa using e)
    exact ⟨u, by simpa using h1, h2⟩
theorem DqAll.getV : ∀ {vs : List V} {ds : List PyData} {i : Nat} {v : V}, DqAll K H vs ds → vs[i]? = some v → ∃ d, ds[i]? = some d ∧ Dq K H v d
  | _, _, _, _, .nil, e => by simp at e
  | _, _, 0, _, .cons r _, e => by simp at e; subst e; exact ⟨_, rfl, r⟩
  | _, _, i + 1, x, .cons _ t, e => by
    obtain ⟨u, h1, h2⟩ := DqAll.getV (i := i) (v := x) t (by simpa using e)
    exact ⟨u, by simpa using h1, h2⟩
theorem DqAll.append : ∀ {xs ys : List V} {ds es : List PyData}, DqAll K H xs ds → DqAll K H ys es → DqAll K H (xs ++ ys) (ds ++ es)
  | _, _, _, _, .nil, s => s
  | _, _, _, _, .cons r t, s => .cons r (DqAll.append t s)
theorem DqAll.take : ∀ {xs : List V} {ds : List PyData} (n : Nat), DqAll K H xs ds → DqAll K H (xs.take n) (ds.take n)
  | _, _, 0, _ => .nil
  | _, _, _ + 1, .nil => .nil
  | _, _, n + 1, .cons r t => .cons r (DqAll.take n t)
theorem DqAll.drop : ∀ {xs : List V} {ds : List PyData} (n : Nat), DqAll K H xs ds → DqAll K H (xs.drop n) (ds.drop n)
  | _, _, 0, r => r
  | _, _, _ + 1, .nil => .nil
  | _, _, n + 1, .cons _ t => DqAll.drop n t
/-- the name of a value's type -/
def tyName : PyData → String
  | .none => "NoneType"
  | .bool _ => "bool"
  | .int _ => "int"
  | .str _ => "str"
  | .list _ => "list"
  | .tuple _ => "tuple"
  | .dict _ => "dict"
theorem sqt_ty {a : Addr} {xs : List V} (h : SqT K H a xs) : TyX K H (.ref a) (.type "tuple") := by
  rcases h with (h | ⟨o, h⟩) | ⟨o, its, n, hk, hc, _⟩
  · exact .base (.tup h)
  · exact .fTuple h
  · exact .kTuple hk hc
theorem Dq.ty {v : V} {d : PyData} (h : Dq K H v d) : TyX K H v (.type (tyName d)) := by
  cases h with
  | non => exact .base .non
  | bl b => exact .base (.bl b)
  | int i => exact .base (.int i)
  | str x => exact .base (.str x)
  | lst h _ => exact .base (.lst h)
  | tup h _ => exact sqt_ty h
  | dic h => exact .base (.dK h)
/-- isinstance(v, T): the answer for data -/
def isTyN (n T : String) : Bool := decide (n = T) || (decide (T = "int") && decide (n = "bool"))
abbrev isTy (T : String) (d : PyData) : Bool := isTyN (tyName d) T
theorem kits : ∀ n ∈ ["NoneType", "bool", "int", "str", "list", "tuple", "dict"], ∀ T ∈ ["int", "bool", "str", "tuple"], kitB n T = some (isTyN n T) := by decide +kernel
theorem isi_ok {v : V} {d : PyData} {T : String} (hT : T ∈ ["int", "bool", "str", "tuple"]) (h : Dq K H v d) : PySem.W.kitOne K (.type (tyName d)) (.type T) = some (isTy T d) :=
  kit_ty (kits _ (by cases d <;> simp [tyName]) T hT)
/-- isinstance(v, T) as rule's reading -/
theorem isi_go {v : V} {d : PyData} {T : String} {Q : VK} (hT : T ∈ ["int", "bool", "str", "tuple"]) (h : Dq K H v d) (q : Q (.bl (isTy T d)) H) : rIsi K [v, .ty T] H Q :=
  ⟨v, .ty T, _, _, _, rfl, .ty T, h.ty, isi_ok hT h, q⟩
end
end Sm

/-! Rules of our own. -/
namespace Sm
open PySem PySem.Spec PyProof.Rows L2
section
variable {X : Cx}
/-- d[k] = v at a target -/
def rSetD : TSet := fun o i v H Q => ∃ a H', o = .ref a ∧ DPut H a i v H' ∧ Q H'
theorem set_dict (hu : X.A.units + 1 < cLine) : PSet X rSetD := by
  intro pins s σ H o i v ov iv u Q I ro ri rv h
  obtain ⟨a, H', rfl, g, q⟩ := h
  obtain rfl : ov = Value.ref a := ro
  exact d_setItem hu I g ri rv fun s' I' => ⟨H', I', q⟩
/-- xs[i] by values (an operator's target) -/
theorem get_list : PGet X (rIxL X.K) := by
  intro pins s σ H o i ov iv Q I ro ri h
  obtain ⟨p, xs, k, z, rfl, rfl, hq, he, q⟩ := h
  obtain rfl : ov = Value.ref p := ro
  obtain ⟨t, rfl⟩ := ri
  obtain ⟨its, r, pl, hz⟩ := I.list hq
  obtain ⟨j, h1, h2, h3, h4, h5⟩ := atI_get he
  obtain ⟨w, ew, rw'⟩ := r.get h2
  have hl := r.length
  have hn := line63
  have fin : EP X pins σ Q w s := ⟨z, H, I, rw', q⟩
  by_cases h0 : 0 ≤ k
  · have hj : k.toNat = j := by
      rw [seqIndex_of h0 h5] at h1
      exact Option.some.inj h1
    exact wpAny_getItem_list pl.isList h0 (by omega) (by rw [hj]; simpa using ew) fin
  · have hj : (k + (its.toArray.size : Int)).toNat = j := by
      rw [seqIndex_neg (by omega) h4] at h1
      rw [List.size_toArray, ← hl]
      exact Option.some.inj h1
    exact wpAny_getItem_list_neg pl.isList (by omega) (by rw [List.size_toArray] <;> omega) (by omega) (by rw [hj]; simpa using ew) fin
/-! ### the rules with the written part named: what a comprehension's parts read must not name its context -/
variable {e : Expr} {ta : TE} {f : Str} {pos : Pos} {tg l : Expr} {tl : TE}
theorem ixT (K : PySem.W.Frag) (h : X.K = K := by rfl) : IxR X (rIxT K) := h ▸ ix_tup
theorem ixL (K : PySem.W.Frag) (h : X.K = K := by rfl) : IxR X (rIxL K) := h ▸ ix_list
theorem fldK (K : PySem.W.Frag) (he : PE X e ta) (hb : attributeBase e f X.env (eval e X.env) = eval e X.env := by rfl) (h : X.K = K := by rfl) : PE X (.Attribute e f pos) (tFld K ta f) := h ▸ pe_fld he hb
def rLenQ (K : PySem.W.Frag) : List V → Hp → VK → Prop := fun xs H Q => ∃ p ys, xs = [.ref p] ∧ (SqL K H p ys ∨ SqT K H p ys) ∧ Q (.int ys.length) H
theorem lenK (K : PySem.W.Frag) (h : X.K = K := by rfl) : CallR X (.builtin "len") (rLenQ K) := h ▸ call_len_seq
theorem isiK (K : PySem.W.Frag) (h : X.K = K := by rfl) : CallR X (.builtin "isinstance") (rIsi K) := h ▸ call_isi
theorem sumK (K : PySem.W.Frag) (hc : X.calm = true) (h : X.K = K := by rfl) : CallR X (.builtin "sum") (rSum K) := h ▸ cr_sum hc
theorem allK (K : PySem.W.Frag) (hc : X.calm = true) (h : X.K = K := by rfl) : CallR X (.builtin "all") (rAll K) := h ▸ cr_all hc
theorem slL (K : PySem.W.Frag) (h : X.K = K := by rfl) : SlR X (rSlL K) := h ▸ sl_list
theorem slT (K : PySem.W.Frag) (h : X.K = K := by rfl) : SlR X (rSlA K) := h ▸ sl_tupA
theorem piL (K : PySem.W.Frag) (hl : PE X l tl) (h : X.K = K := by rfl) : PI X tg l (iList K tl) := h ▸ pi_list hl
theorem piT (K : PySem.W.Frag) (hl : PE X l tl) (h : X.K = K := by rfl) : PI X tg l (iTup K tl) := h ▸ pi_tup hl
theorem inK (K : PySem.W.Frag) (h : X.K = K := by rfl) : OpR X (compareOp .In) (rIn K false) := h ▸ op_in_seq
theorem ninK (K : PySem.W.Frag) (h : X.K = K := by rfl) : OpR X (compareOp .NotIn) (rIn K true) := h ▸ op_notIn_seq
end
end Sm

/-! The program: what is an integer, a step, a size. -/
namespace Sm
open PySem PySem.Spec PyProof.Rows L2

/-! ### what the checks answer, of data -/
def isInt : PyData → Bool
  | .int _ => true
  | _ => false
def btw (d : PyData) (lo hi : Int) : Bool := match d with
  | .int i => decide (lo ≤ i) && decide (i ≤ hi)
  | _ => false
def isStr : PyData → Bool
  | .str _ => true
  | _ => false
def amtOk (d : PyData) : Bool := btw d 1 60 || (match d with
  | .str s => decide (s = "x")
  | _ => false)
/-- the two numbers of a pause -/
def pzOk (a b : PyData) : Bool := match a with
  | .int i => btw a 0 200 && btw b i 200
  | _ => false
def stepOk (d : PyData) : Bool := match d with
  | .tuple [.str w, a] => (decide (w = "write") || decide (w = "read")) && amtOk a
  | .tuple [.str w, a, b] => decide (w = "pause") && pzOk a b
  | _ => false
theorem isTy_int (d : PyData) : (isTy "int" d && !isTy "bool" d) = isInt d := by cases d <;> rfl
theorem isTy_str (d : PyData) : isTy "str" d = isStr d := by cases d <;> rfl
theorem isTy_tup (d : PyData) : isTy "tuple" d = (match d with | .tuple _ => true | _ => false) := by cases d <;> rfl

section
variable {P : Program} {w : World} {K : PySem.W.Frag} {mg : Str → Option Value} {base : Heap}
abbrev N_is_integer : List Str := ["value"]
theorem sc_is_integer : FnScope N_is_integer ["value"] (defScope s_is_integer) := ⟨rfl, rfl, rfl, by decide +kernel, rfl, by decide +kernel, by decide +kernel⟩
theorem ok_is_integer (T : Tx K mg w) : Okf P w K mg base "is_integer" ["value"] 1 (sp1 fun v H Q => ∃ d, Dq K H v d ∧ Q (.bl (isInt d)) H) := by
  refine mkF T ix_is_integer rfl T.g_is_integer sc_is_integer (fun _ _ _ _ _ _ us hl => match us, hl with | [_], _ => rfl) len1 (fun cdv A outer s0 H0 E vs Q hr h => ?_)
  refine ⟨_, (pss_one (ps_ret (pe_and (pe_callB (isiK K) (by rfl) T.n_isinstance (by decide +kernel) (pa_cons (pv 0) (pa_cons (pe_bltn (v := .ty "int") (by rfl) T.n_int (by decide +kernel) rfl) pa_nil))) (pe_one (pe_not (pe_callB (isiK K) (by rfl) T.n_isinstance (by decide +kernel) (pa_cons (pv 0) (pa_cons (pe_bltn (v := .ty "bool") (by rfl) T.n_bool (by decide +kernel) rfl) pa_nil)))))))), ?_⟩
  obtain ⟨v, rfl, d, hd, q⟩ := h
  refine ⟨_, rfl, _, _, _, _, _, rfl, .ty _, hd.ty, isi_ok (by decide) hd, _, rfl, ?_⟩
  rw [← isTy_int] at q
  cases e : isTy "int" d with
  | false => rw [e] at q; exact iteF q
  | true =>
    rw [e] at q
    exact iteT ⟨_, rfl, _, _, _, _, _, rfl, .ty _, hd.ty, isi_ok (by decide) hd, _, rfl, q⟩
abbrev N_is_between : List Str := ["value", "low", "high"]
theorem sc_is_between : FnScope N_is_between ["value", "low", "high"] (defScope s_is_between) := ⟨rfl, rfl, rfl, by decide +kernel, rfl, by decide +kernel, by decide +kernel⟩
theorem ok_is_between (T : Tx K mg w) : Okf P w K mg base "is_between" ["value", "low", "high"] 2 (sp3 fun v l u H Q => ∃ d lo hi, Dq K H v d ∧ l = .int lo ∧ u = .int hi ∧ Q (.bl (btw d lo hi)) H) := by
  have O_is_integer := ok_is_integer (P := P) (w := w) (base := base) T
  refine mkF T ix_is_between rfl T.g_is_between sc_is_between (fun _ _ _ _ _ _ us hl => match us, hl with | [_, _, _], _ => rfl) len3 (fun cdv A outer s0 H0 E vs Q hr h => ?_)
  refine ⟨_, (pss_one (ps_ret (pe_and (pe_f O_is_integer (hr.mono (by decide)) (by rfl) (pa_cons (pv 0) pa_nil)) (pe_one (pe_chain op_le op_le (pv 1) (pv 0) (pv 2)))))), ?_⟩
  obtain ⟨_, _, _, rfl, d, lo, hi, hd, rfl, rfl, q⟩ := h
  refine ⟨_, rfl, _, rfl, d, hd, _, rfl, ?_⟩
  cases d with
  | int i =>
    refine iteT ⟨_, rfl, _, rfl, ?_⟩
    cases hd
    refine ⟨_, _, rfl, rfl, _, rfl, ?_⟩
    have q : Q (.bl (decide (lo ≤ i) && decide (i ≤ hi))) H0 := q
    cases e : decide (lo ≤ i) with
    | false => rw [e] at q; exact iteF q
    | true => rw [e] at q; exact iteT ⟨_, rfl, _, _, rfl, rfl, q⟩
  | _ => exact iteF q
end
end Sm

/-! The program: amounts, steps, sizes, programs, pairs. -/
namespace Sm
open PySem PySem.Spec PyProof.Rows L2
theorem atI0 {α : Type} {x : α} {r : List α} : atI (x :: r) 0 = some x := atI_nat (j := 0) rfl
theorem atI1 {α : Type} {x y : α} {r : List α} : atI (x :: y :: r) 1 = some y := atI_nat (j := 1) rfl
theorem atI2 {α : Type} {x y z : α} {r : List α} : atI (x :: y :: z :: r) 2 = some z := atI_nat (j := 2) rfl
theorem atI3 {α : Type} {x y z u : α} {r : List α} : atI (x :: y :: z :: u :: r) 3 = some u := atI_nat (j := 3) rfl
theorem atI4 {α : Type} {x y z u v : α} {r : List α} : atI (x :: y :: z :: u :: v :: r) 4 = some v := atI_nat (j := 4) rfl
theorem dec_ne_str {a b : Str} (h : ¬ a = b) : decide (V.str a = V.str b) = false := decide_eq_false fun e => h (V.str.inj e)
theorem beq_dec {α : Type} [BEq α] [LawfulBEq α] [DecidableEq α] (a b : α) : (a == b) = decide (b = a) := by
  by_cases h : a = b
  · subst h; simp
  · rw [beq_eq_false_iff_ne.mpr h, decide_eq_false (fun e => h e.symm)]
theorem inV_int (n a b : Int) : inV (.int n) [.int a, .int b] = (decide (n = a) || decide (n = b)) := by
  show ((a == n) || ((b == n) || false)) = _
  rw [beq_dec, beq_dec, Bool.or_false]
theorem inV_str (n a b : Str) : inV (.str n) [.str a, .str b] = (decide (n = a) || decide (n = b)) := by
  show ((a == n) || ((b == n) || false)) = _
  rw [beq_dec, beq_dec, Bool.or_false]
theorem dec_str' (a b : Str) : decide (V.str a = V.str b) = decide (a = b) := by simp
theorem dec_int' (a b : Int) : decide (V.int a = V.int b) = decide (a = b) := by simp
theorem ite_and {b : Bool} {X Y : Prop} (h : Y) (hx : Y → X) : if b = true then X else Y := by
  cases b
  · exact iteF h
  · exact iteT (hx h)
section
variable {P : Program} {w : World} {K : PySem.W.Frag} {mg : Str → Option Value} {base : Heap}
abbrev N_is_amount : List Str := ["value"]
theorem sc_is_amount : FnScope N_is_amount ["value"] (defScope s_is_amount) := ⟨rfl, rfl, rfl, by decide +kernel, rfl, by decide +kernel, by decide +kernel⟩
theorem ok_is_amount (T : Tx K mg w) : Okf P w K mg base "is_amount" ["value"] 3 (sp1 fun v H Q => ∃ d, Dq K H v d ∧ Q (.bl (amtOk d)) H) := by
  have O_is_between := ok_is_between (P := P) (w := w) (base := base) T
  refine mkF T ix_is_amount rfl T.g_is_amount sc_is_amount (fun _ _ _ _ _ _ us hl => match us, hl with | [_], _ => rfl) len1 (fun cdv A outer s0 H0 E vs Q hr h => ?_)
  refine ⟨_, (pss_one (ps_ret (pe_or (pe_f O_is_between (hr.mono (by decide)) (by rfl) (pa_cons (pv 0) (pa_cons pe_int (pa_cons (pe_gint T.i_MOST_BYTES (by rfl)) pa_nil)))) (pe_one (pe_and (pe_callB (isiK K) (by rfl) T.n_isinstance (by decide +kernel) (pa_cons (pv 0) (pa_cons (pe_bltn (v := .ty "str") (by rfl) T.n_str (by decide +kernel) rfl) pa_nil))) (pe_one (pe_cmpR op_eq (pv 0) (pe_gstr T.s_LETTER (by rfl)) (nomark _)))))))), ?_⟩
  obtain ⟨v, rfl, d, hd, q⟩ := h
  refine ⟨_, rfl, _, _, _, rfl, d, 1, 60, hd, rfl, rfl, _, rfl, ?_⟩
  unfold amtOk at q
  cases e : btw d 1 60 with
  | true => rw [e] at q; exact iteT q
  | false =>
    rw [e] at q
    refine iteF ⟨_, rfl, _, _, _, _, _, rfl, .ty _, hd.ty, isi_ok (by decide) hd, _, rfl, ?_⟩
    rw [isTy_str]
    cases d with
    | str s =>
      cases hd
      refine iteT ⟨_, rfl, rfl, ?_⟩
      have e2 : decide (V.str s = V.str "x") = decide (s = "x") := by simp
      show Q (.bl (decide (V.str s = V.str "x"))) H0
      rw [e2]
      exact q
    | _ => exact iteF q
abbrev N_is_step : List Str := ["value"]
theorem sc_is_step : FnScope N_is_step ["value"] (defScope s_is_step) := ⟨rfl, rfl, rfl, by decide +kernel, rfl, by decide +kernel, by decide +kernel⟩
theorem ok_is_step (T : Tx K mg w) : Okf P w K mg base "is_step" ["value"] 4 (sp1 fun v H Q => ∃ d, Dq K H v d ∧ ∀ H', Ke H H' → Q (.bl (stepOk d)) H') := by
  have O_is_between := ok_is_between (P := P) (w := w) (base := base) T
  have O_is_amount := ok_is_amount (P := P) (w := w) (base := base) T
  refine mkF T ix_is_step rfl T.g_is_step sc_is_step (fun _ _ _ _ _ _ us hl => match us, hl with | [_], _ => rfl) len1 (fun cdv A outer s0 H0 E vs Q hr h => ?_)
  refine ⟨_, (pss_cons (ps_if (PW.pt (pw_or (pt_not (pt_val (pe_callB (isiK K) (by rfl) T.n_isinstance (by decide +kernel) (pa_cons (pv 0) (pa_cons (pe_bltn (v := .ty "tuple") (by rfl) T.n_tuple (by decide +kernel) rfl) pa_nil))))) (pw_or (pt_cmpR (ninK K) (pe_callB (lenK K) (by rfl) T.n_len (by decide +kernel) (pa_cons (pv 0) pa_nil)) (pe_tup (pa_cons pe_int (pa_cons pe_int pa_nil))) (by rfl)) (pw_or1 (pt_not (pt_val (pe_callB (isiK K) (by rfl) T.n_isinstance (by decide +kernel) (pa_cons (pe_ix (ixT K) (pv 0) pe_int (fun _ _ => rfl)) (pa_cons (pe_bltn (v := .ty "str") (by rfl) T.n_str (by decide +kernel) rfl) pa_nil)))))))))
      (pss_one (ps_ret pe_bl))
      pss_nil)
    (pss_cons (ps_if (PW.pt (pw_and (pt_cmpR op_eq (pe_ix (ixT K) (pv 0) pe_int (fun _ _ => rfl)) pe_str (nomark _)) (pw_and1 (pt_cmpR op_eq (pe_callB (lenK K) (by rfl) T.n_len (by decide +kernel) (pa_cons (pv 0) pa_nil)) pe_int (nomark _)))))
      (pss_one (ps_ret (pe_and (pe_f O_is_between (hr.mono (by decide)) (by rfl) (pa_cons (pe_ix (ixT K) (pv 0) pe_int (fun _ _ => rfl)) (pa_cons pe_int (pa_cons (pe_gint T.i_MOST_DELAY (by rfl)) pa_nil)))) (pe_one (pe_f O_is_between (hr.mono (by decide)) (by rfl) (pa_cons (pe_ix (ixT K) (pv 0) pe_int (fun _ _ => rfl)) (pa_cons (pe_ix (ixT K) (pv 0) pe_int (fun _ _ => rfl)) (pa_cons (pe_gint T.i_MOST_DELAY (by rfl)) pa_nil))))))))
      pss_nil)
    (pss_one (ps_ret (pe_and (pe_cmpR (inK K) (pe_ix (ixT K) (pv 0) pe_int (fun _ _ => rfl)) (pe_tup (pa_cons pe_str (pa_cons pe_str pa_nil))) (by rfl)) (pe_and (pe_cmpR op_eq (pe_callB (lenK K) (by rfl) T.n_len (by decide +kernel) (pa_cons (pv 0) pa_nil)) pe_int (nomark _)) (pe_one (pe_f O_is_amount (hr.mono (by decide)) (by rfl) (pa_cons (pe_ix (ixT K) (pv 0) pe_int (fun _ _ => rfl)) pa_nil))))))))), ?_⟩
  obtain ⟨v, rfl, d, hd, q⟩ := h
  refine ⟨_, rfl, _, _, _, _, _, rfl, .ty _, hd.ty, isi_ok (by decide) hd, _, rfl, ?_⟩
  rw [isTy_tup]
  cases hd with
  | @tup a xs ds hs ha =>
    have hl := ha.length
    refine iteF ⟨_, rfl, a, xs, rfl, .inr hs, by show 2 ≤ sizeLine; decide, fun p np => ?_⟩
    have s1 : Same H0 (upd H0 p (.tup [.int 2, .int 3])) := same_new np
    have hs1 := (Ke.of s1).sqt hs
    have ha1 := ha.ke (.of s1)
    refine ⟨p, _, rfl, .inr (SqT.of upd_same), rfl, rfl, _, rfl, ?_⟩
    generalize upd H0 p (.tup [.int 2, .int 3]) = H1 at s1 hs1 ha1 ⊢
    rw [if_pos rfl, inV_int]
    cases ha1 with
    | nil => exact iteT (q _ (.of s1))
    | @cons x0 xr d0 dr h0 hr0 =>
    cases hr0 with
    | nil =>
      refine iteT ?_
      have e : stepOk (.tuple [d0]) = false := by cases d0 <;> rfl
      rw [e] at q
      exact q _ (.of s1)
    | @cons x1 xr d1 dr h1 hr1 =>
    cases hr1 with
    | nil =>
      refine iteF ⟨_, rfl, a, _, 0, _, rfl, rfl, hs1, atI0, _, _, _, _, _, rfl, .ty _, h0.ty, isi_ok (by decide) h0, _, rfl, ?_⟩
      rw [isTy_str]
      cases h0 with
      | str s =>
        refine iteF ⟨_, rfl, a, _, 0, _, rfl, rfl, hs1, atI0, rfl, _, rfl, ?_⟩
        refine ite_and ?_ (fun y => ⟨_, rfl, a, _, rfl, .inr hs1, rfl, _, rfl, iteF y⟩)
        refine ⟨_, rfl, a, _, 0, _, rfl, rfl, hs1, atI0, by show 2 ≤ sizeLine; decide, fun p2 np2 => ⟨p2, _, rfl, .inr (SqT.of upd_same), rfl, rfl, ?_⟩⟩
        have s2 : Same H1 (upd H1 p2 (.tup [.str "write", .str "read"])) := same_new np2
        have hs2 := (Ke.of s2).sqt hs1
        have h12 := h1.ke (.of s2)
        generalize upd H1 p2 (.tup [.str "write", .str "read"]) = H2 at s2 hs2 h12 ⊢
        rw [if_neg Bool.false_ne_true, inV_str]
        have q2 : Q (.bl ((decide (s = "write") || decide (s = "read")) && amtOk d1)) H2 := q _ (.of (s1.trans s2))
        cases e : (decide (s = "write") || decide (s = "read")) with
        | false => rw [e] at q2; exact ⟨_, rfl, iteF q2⟩
        | true =>
          rw [e] at q2
          exact ⟨_, rfl, iteT ⟨_, rfl, a, _, rfl, .inr hs2, rfl, _, rfl, iteT ⟨_, rfl, a, _, 1, _, rfl, rfl, hs2, atI1, _, rfl, d1, h12, q2⟩⟩⟩
      | _ => exact iteT (q _ (.of s1))
    | @cons x2 xr d2 dr h2 hr2 =>
    cases hr2 with
    | nil =>
      refine iteF ⟨_, rfl, a, _, 0, _, rfl, rfl, hs1, atI0, _, _, _, _, _, rfl, .ty _, h0.ty, isi_ok (by decide) h0, _, rfl, ?_⟩
      rw [isTy_str]
      cases h0 with
      | str s =>
        refine iteF ⟨_, rfl, a, _, 0, _, rfl, rfl, hs1, atI0, rfl, _, rfl, ?_⟩
        rw [dec_str']
        by_cases hp : s = "pause"
        · rw [decide_eq_true hp]
          refine iteT ⟨_, rfl, a, _, rfl, .inr hs1, rfl, _, rfl, iteT ⟨_, rfl, a, _, 1, _, rfl, rfl, hs1, atI1, _, _, _, rfl, d1, 0, 200, h1, rfl, rfl, _, rfl, ?_⟩⟩
          have q2 : Q (.bl (stepOk (.tuple [.str s, d1, d2]))) H1 := q _ (.of s1)
          have q3 : Q (.bl (pzOk d1 d2)) H1 := by
            have e : stepOk (.tuple [.str s, d1, d2]) = (decide (s = "pause") && pzOk d1 d2) := rfl
            rw [e, decide_eq_true hp] at q2
            exact q2
          cases h1 with
          | int i =>
            have q4 : Q (.bl (btw (.int i) 0 200 && btw d2 i 200)) H1 := q3
            cases e : btw (.int i) 0 200 with
            | false => rw [e] at q4; exact iteF q4
            | true =>
              rw [e] at q4
              exact iteT ⟨_, rfl, a, _, 2, _, rfl, rfl, hs1, atI2, _, rfl, a, _, 1, _, rfl, rfl, hs1, atI1, _, _, _, rfl, d2, i, 200, h2, rfl, rfl, q4⟩
          | _ => exact iteF q3
        · rw [decide_eq_false hp]
          have q2 : Q (.bl (stepOk (.tuple [.str s, d1, d2]))) H1 := q _ (.of s1)
          have e : stepOk (.tuple [.str s, d1, d2]) = (decide (s = "pause") && pzOk d1 d2) := rfl
          rw [e, decide_eq_false hp] at q2
          refine iteF ⟨_, rfl, a, _, 0, _, rfl, rfl, hs1, atI0, by show 2 ≤ sizeLine; decide, fun p2 np2 => ⟨p2, _, rfl, .inr (SqT.of upd_same), rfl, rfl, ?_⟩⟩
          have s2 : Same H1 (upd H1 p2 (.tup [.str "write", .str "read"])) := same_new np2
          have hs2 := (Ke.of s2).sqt hs1
          have q5 := q _ (.of (s1.trans s2))
          rw [e, decide_eq_false hp] at q5
          generalize upd H1 p2 (.tup [.str "write", .str "read"]) = H2 at s2 hs2 q5 ⊢
          refine ⟨_, rfl, ite_and q5 (fun y => ⟨_, rfl, a, _, rfl, .inr hs2, rfl, _, rfl, iteF y⟩)⟩
      | _ => exact iteT (q _ (.of s1))
    | @cons x3 xr d3 dr h3 hr3 =>
      have e1 : (decide (((x0 :: x1 :: x2 :: x3 :: xr).length : Int) = 2) || decide (((x0 :: x1 :: x2 :: x3 :: xr).length : Int) = 3)) = false := by
        rw [decide_eq_false (by simp only [List.length_cons]; omega), decide_eq_false (by simp only [List.length_cons]; omega)]
        rfl
      rw [e1]
      refine iteT ?_
      have e : stepOk (.tuple (d0 :: d1 :: d2 :: d3 :: dr)) = false := by cases d0 <;> rfl
      rw [e] at q
      exact q _ (.of s1)
  | _ => exact iteT (q _ (.refl _))
end
end Sm

/-! Comprehensions and loops in the forms that we use. -/
namespace Sm
open PySem PySem.Spec PyProof.Rows L2
/-- what is changed in place stood not before: all that stood stands -/
theorem Ke.mut {H H' : Hp} {p : Addr} {o : HO} (e : Ke H H') (hp : H p = none) (ho : ∀ c q, H' p ≠ some (LamX.CodeO c q)) : Ke H (upd H' p o) := by
  refine ⟨fun b u h n => ?_, fun b ps h => ?_, fun b q eq h => ?_⟩
  · rw [upd_ne (ne_of_none h hp)]
    exact e.keep b u h n
  · rw [upd_ne (ne_of_none h hp)]
    exact e.tbl b ps h
  · obtain ⟨ps0, h0, _⟩ := id h
    obtain ⟨ps, h1, h2, h3⟩ := e.tab b q eq h
    refine ⟨ps, by rw [upd_ne (ne_of_none h0 hp)]; exact h1, h2, fun pos cv hc => ?_⟩
    obtain ⟨c, e1, e2⟩ := h3 pos cv hc
    exact ⟨c, e1, by rw [upd_ne (fun z => ho c q (by rw [← z]; exact e2))]; exact e2⟩
theorem noCode_lst {H : Hp} {p : Addr} {xs : List V} (h : H p = some (.lst xs)) : ∀ c q, H p ≠ some (LamX.CodeO c q) := fun c q z => by
  rw [h] at z
  unfold LamX.CodeO at z
  cases z
theorem noCode_dK {H : Hp} {p : Addr} {xs : List (Key × V)} (h : H p = some (.dK xs)) : ∀ c q, H p ≠ some (LamX.CodeO c q) := fun c q z => by
  rw [h] at z
  unfold LamX.CodeO at z
  cases z
theorem noCode_ins {H : Hp} {p C dx : Addr} {fs : List (Str × V)} (h : H p = some (.ins C dx fs)) : ∀ c q, H p ≠ some (LamX.CodeO c q) := fun c q z => by
  rw [h] at z
  unfold LamX.CodeO at z
  cases z
theorem noCode_none {H : Hp} {p : Addr} (h : H p = none) : ∀ c q, H p ≠ some (LamX.CodeO c q) := fun c q z => by
  rw [h] at z
  cases z
section
variable {K : PySem.W.Frag} {a : Addr} {xs : List V} {g : TG} {tt : TT} {te : TE} {vs : List Nat} {σ : L2.St} {H0 : Hp} {Qd : Addr → Hp → Prop}
/-- over a tuple: ys i is the list behind i turns -/
theorem lc_t (ys : Nat → List V) (hx : SqT K H0 a xs) (y0 : ys 0 = []) (hz : ∀ i, i ≤ xs.length → (ys i).length < sizeLine)
    (turn : ∀ i x H, xs[i]? = some x → Ke H0 H → ∀ (Yes : V → Hp → Prop) (No : Hp → Prop), (∀ y H4, Ke H H4 → ys (i + 1) = ys i ++ [y] → Yes y H4) → (∀ H3, Ke H H3 → ys (i + 1) = ys i → No H3) →
      g x (wipe σ vs) H fun σ2 H2 => wipe σ2 vs = wipe σ vs ∧ tt σ2 H2 fun b H3 => if b = true then te σ2 H3 Yes else No H3)
    (done : ∀ D H, H0 D = none → Ke H0 H → H D = some (.lst (ys xs.length)) → Qd D H) :
    ∀ D, H0 D = none → ∃ W : Nat → Nat → Hp → Prop, (∃ m, W 0 m (upd H0 D (.lst []))) ∧ ∀ i m H, W i m H →
      ((Itt K a).stop i H ∧ Qd D H) ∨ ((Itt K a).go i H ∧ ∃ Nx : Hp → Prop, (∀ H', Nx H' → ∃ m', m' < m ∧ W (i + 1) m' H') ∧ ∀ x H', (Itt K a).yld i H x H' → g x (wipe σ vs) H' fun σ2 H2 => wipe σ2 vs = wipe σ vs ∧ tt σ2 H2 fun b H3 =>
        if b = true then te σ2 H3 fun y H4 => ∃ acc, H4 D = some (.lst acc) ∧ acc.length < sizeLine ∧ Nx (upd H4 D (.lst (acc ++ [y]))) else Nx H3) := fun D hD => by
  refine lc_tup (K := K) (a := a) (xs := xs) (Qd := fun H => Qd D H) (fun i H => i ≤ xs.length ∧ Ke H0 H ∧ H D = some (.lst (ys i))) ⟨Nat.zero_le _, .of (same_new hD), by rw [y0]; exact upd_same⟩ (fun i H _ p => p.2.1.sqt hx) (fun i x H hi p => ?_) (fun H p => done D H hD p.2.1 p.2.2)
  obtain ⟨p1, p2, p3⟩ := p
  have hlt : i < xs.length := (List.getElem?_eq_some_iff.mp hi).1
  exact turn i x H hi p2 _ _ (fun y H4 k e => ⟨ys i, k.lst p3, hz i p1, hlt, (p2.trans k).mut hD (noCode_lst (k.lst p3)), by rw [e]; exact upd_same⟩) (fun H3 k e => ⟨hlt, p2.trans k, by rw [e]; exact k.lst p3⟩)
/-- over a list -/
theorem lc_l (ys : Nat → List V) (hx : SqL K H0 a xs) (y0 : ys 0 = []) (hz : ∀ i, i ≤ xs.length → (ys i).length < sizeLine)
    (turn : ∀ i x H, xs[i]? = some x → Ke H0 H → ∀ (Yes : V → Hp → Prop) (No : Hp → Prop), (∀ y H4, Ke H H4 → ys (i + 1) = ys i ++ [y] → Yes y H4) → (∀ H3, Ke H H3 → ys (i + 1) = ys i → No H3) →
      g x (wipe σ vs) H fun σ2 H2 => wipe σ2 vs = wipe σ vs ∧ tt σ2 H2 fun b H3 => if b = true then te σ2 H3 Yes else No H3)
    (done : ∀ D H, H0 D = none → Ke H0 H → H D = some (.lst (ys xs.length)) → Qd D H) :
    ∀ D, H0 D = none → ∃ W : Nat → Nat → Hp → Prop, (∃ m, W 0 m (upd H0 D (.lst []))) ∧ ∀ i m H, W i m H →
      ((Itl K a).stop i H ∧ Qd D H) ∨ ((Itl K a).go i H ∧ ∃ Nx : Hp → Prop, (∀ H', Nx H' → ∃ m', m' < m ∧ W (i + 1) m' H') ∧ ∀ x H', (Itl K a).yld i H x H' → g x (wipe σ vs) H' fun σ2 H2 => wipe σ2 vs = wipe σ vs ∧ tt σ2 H2 fun b H3 =>
        if b = true then te σ2 H3 fun y H4 => ∃ acc, H4 D = some (.lst acc) ∧ acc.length < sizeLine ∧ Nx (upd H4 D (.lst (acc ++ [y]))) else Nx H3) := fun D hD => by
  refine lc_list (K := K) (a := a) (xs := xs) (Qd := fun H => Qd D H) (fun i H => i ≤ xs.length ∧ Ke H0 H ∧ H D = some (.lst (ys i))) ⟨Nat.zero_le _, .of (same_new hD), by rw [y0]; exact upd_same⟩ (fun i H _ p => p.2.1.sql hx) (fun i x H hi p => ?_) (fun H p => done D H hD p.2.1 p.2.2)
  obtain ⟨p1, p2, p3⟩ := p
  have hlt : i < xs.length := (List.getElem?_eq_some_iff.mp hi).1
  exact turn i x H hi p2 _ _ (fun y H4 k e => ⟨ys i, k.lst p3, hz i p1, hlt, (p2.trans k).mut hD (noCode_lst (k.lst p3)), by rw [e]; exact upd_same⟩) (fun H3 k e => ⟨hlt, p2.trans k, by rw [e]; exact k.lst p3⟩)
/-- over a range from 0 -/
theorem lc_r {n : Nat} (ys : Nat → List V) (y0 : ys 0 = []) (hz : ∀ i, i ≤ n → (ys i).length < sizeLine)
    (turn : ∀ i H, i < n → Ke H0 H → ∀ (Yes : V → Hp → Prop) (No : Hp → Prop), (∀ y H4, Ke H H4 → ys (i + 1) = ys i ++ [y] → Yes y H4) → (∀ H3, Ke H H3 → ys (i + 1) = ys i → No H3) →
      g (.int (0 + (i : Int))) (wipe σ vs) H fun σ2 H2 => wipe σ2 vs = wipe σ vs ∧ tt σ2 H2 fun b H3 => if b = true then te σ2 H3 Yes else No H3)
    (done : ∀ D H, H0 D = none → Ke H0 H → H D = some (.lst (ys n)) → Qd D H) :
    ∀ D, H0 D = none → ∃ W : Nat → Nat → Hp → Prop, (∃ m, W 0 m (upd H0 D (.lst []))) ∧ ∀ i m H, W i m H →
      ((Itr 0 n).stop i H ∧ Qd D H) ∨ ((Itr 0 n).go i H ∧ ∃ Nx : Hp → Prop, (∀ H', Nx H' → ∃ m', m' < m ∧ W (i + 1) m' H') ∧ ∀ x H', (Itr 0 n).yld i H x H' → g x (wipe σ vs) H' fun σ2 H2 => wipe σ2 vs = wipe σ vs ∧ tt σ2 H2 fun b H3 =>
        if b = true then te σ2 H3 fun y H4 => ∃ acc, H4 D = some (.lst acc) ∧ acc.length < sizeLine ∧ Nx (upd H4 D (.lst (acc ++ [y]))) else Nx H3) := fun D hD => by
  refine lc_range (lo := 0) (n := n) (Qd := fun H => Qd D H) (fun i H => i ≤ n ∧ Ke H0 H ∧ H D = some (.lst (ys i))) ⟨Nat.zero_le _, .of (same_new hD), by rw [y0]; exact upd_same⟩ (fun i H hi p => ?_) (fun H p => done D H hD p.2.1 p.2.2)
  obtain ⟨p1, p2, p3⟩ := p
  exact turn i H hi p2 _ _ (fun y H4 k e => ⟨ys i, k.lst p3, hz i p1, hi, (p2.trans k).mut hD (noCode_lst (k.lst p3)), by rw [e]; exact upd_same⟩) (fun H3 k e => ⟨hi, p2.trans k, by rw [e]; exact k.lst p3⟩)
/-- over two tuples of one length -/
theorem lc_z {b : Addr} {zs : List V} (ys : Nat → List V) (hl : xs.length = zs.length) (hx : SqT K H0 a xs) (hx2 : SqT K H0 b zs) (y0 : ys 0 = []) (hz : ∀ i, i ≤ xs.length → (ys i).length < sizeLine)
    (turn : ∀ i x z T H, xs[i]? = some x → zs[i]? = some z → Ke H0 H → H T = none → ∀ (Yes : V → Hp → Prop) (No : Hp → Prop), (∀ y H4, Ke H H4 → ys (i + 1) = ys i ++ [y] → Yes y H4) → (∀ H3, Ke H H3 → ys (i + 1) = ys i → No H3) →
      g (.ref T) (wipe σ vs) (upd H T (.tup [x, z])) fun σ2 H2 => wipe σ2 vs = wipe σ vs ∧ tt σ2 H2 fun b H3 => if b = true then te σ2 H3 Yes else No H3)
    (done : ∀ D H, H0 D = none → Ke H0 H → H D = some (.lst (ys xs.length)) → Qd D H) :
    ∀ D, H0 D = none → ∃ W : Nat → Nat → Hp → Prop, (∃ m, W 0 m (upd H0 D (.lst []))) ∧ ∀ i m H, W i m H →
      ((RZ.ItzT K a b).stop i H ∧ Qd D H) ∨ ((RZ.ItzT K a b).go i H ∧ ∃ Nx : Hp → Prop, (∀ H', Nx H' → ∃ m', m' < m ∧ W (i + 1) m' H') ∧ ∀ x H', (RZ.ItzT K a b).yld i H x H' → g x (wipe σ vs) H' fun σ2 H2 => wipe σ2 vs = wipe σ vs ∧ tt σ2 H2 fun b H3 =>
        if b = true then te σ2 H3 fun y H4 => ∃ acc, H4 D = some (.lst acc) ∧ acc.length < sizeLine ∧ Nx (upd H4 D (.lst (acc ++ [y]))) else Nx H3) := fun D hD => by
  let Pv : Nat → Hp → Prop := fun i H => i ≤ xs.length ∧ Ke H0 H ∧ H D = some (.lst (ys i))
  refine ⟨fun i m H => m = xs.length - i ∧ i ≤ xs.length ∧ Pv i H, ⟨xs.length, by simp, Nat.zero_le _, Nat.zero_le _, .of (same_new hD), by rw [y0]; exact upd_same⟩, ?_⟩
  rintro i m H ⟨rfl, hi, p1, p2, p3⟩
  by_cases hlt : i < xs.length
  · have g1 : xs[i]? = some xs[i] := List.getElem?_eq_getElem hlt
    have hlt2 : i < zs.length := by omega
    have g2 : zs[i]? = some zs[i] := List.getElem?_eq_getElem hlt2
    refine .inr ⟨⟨xs, zs, _, _, p2.sqt hx, p2.sqt hx2, g1, g2⟩, Pv (i + 1), fun H' p' => ⟨xs.length - (i + 1), by omega, rfl, hlt, p'⟩, fun v H' y => ?_⟩
    obtain ⟨T, x', y', rfl, hT, rfl, f1, f2⟩ := y
    have kT : Ke H (upd H T (.tup [x', y'])) := .new hT
    exact turn i x' y' T H (f1 xs (p2.sqt hx)) (f2 zs (p2.sqt hx2)) p2 hT _ _ (fun y H4 k e => ⟨ys i, k.lst p3, hz i p1, hlt, (p2.trans k).mut hD (noCode_lst (k.lst p3)), by rw [e]; exact upd_same⟩) (fun H3 k e => ⟨hlt, p2.trans k, by rw [e]; exact k.lst p3⟩)
  · have e : i = xs.length := by omega
    subst e
    exact .inl ⟨⟨xs, zs, p2.sqt hx, p2.sqt hx2, Or.inl (Nat.le_refl _)⟩, done D H hD p2 p3⟩
/-- the i-th part of a mapped list -/
theorem take_snoc {α : Type} {l : List α} {i : Nat} {x : α} (h : l[i]? = some x) : l.take (i + 1) = l.take i ++ [x] := by
  rw [List.take_add_one, h]
  rfl
end
end Sm

/-! The program: what a claim is. -/
namespace Sm
open PySem PySem.Spec PyProof.Rows L2
def sizeOk (d : PyData) : Bool := btw d 1 2000
def isRule (s : Str) : Bool := decide (s = "plain") || (decide (s = "hold") || decide (s = "few"))
def waysOk (d : PyData) : Bool := match d with
  | .tuple [.str r, a, b] => isRule r && (btw a 1 4 && btw b 0 200)
  | _ => false
def toldOk (d : PyData) : Bool := match d with
  | .tuple [a, b, c, e] => (btw a 1 40 && btw b 1 200) && (waysOk c && waysOk e)
  | _ => false
def planOk (d : PyData) : Bool := match d with
  | .tuple ds => decide (ds.length ≤ 6) && ds.all stepOk
  | _ => false
def endOk (d : PyData) : Bool := match d with
  | .none => true
  | .int _ => true
  | _ => false
def pairOk (d : PyData) : Bool := match d with
  | .tuple [a, b] => endOk a && endOk b
  | _ => false
theorem inV_rules (n : Str) : inV (.str n) [.str "plain", .str "hold", .str "few"] = isRule n := by
  show ((_ == n) || ((_ == n) || ((_ == n) || false))) = _
  rw [beq_dec, beq_dec, beq_dec, Bool.or_false]
  rfl
section
variable {K : PySem.W.Frag} {H : Hp}
theorem DqAll.three {xs : List V} {ds : List PyData} (h : DqAll K H xs ds) (e : xs.length = 3) : ∃ x0 x1 x2 d0 d1 d2, xs = [x0, x1, x2] ∧ ds = [d0, d1, d2] ∧ Dq K H x0 d0 ∧ Dq K H x1 d1 ∧ Dq K H x2 d2 := by
  cases h with
  | nil => cases e
  | cons h0 h =>
  cases h with
  | nil => cases e
  | cons h1 h =>
  cases h with
  | nil => cases e
  | cons h2 h =>
  cases h with
  | nil => exact ⟨_, _, _, _, _, _, rfl, rfl, h0, h1, h2⟩
  | cons h3 h => simp at e
theorem DqAll.four {xs : List V} {ds : List PyData} (h : DqAll K H xs ds) (e : xs.length = 4) : ∃ x0 x1 x2 x3 d0 d1 d2 d3, xs = [x0, x1, x2, x3] ∧ ds = [d0, d1, d2, d3] ∧ Dq K H x0 d0 ∧ Dq K H x1 d1 ∧ Dq K H x2 d2 ∧ Dq K H x3 d3 := by
  cases h with
  | nil => cases e
  | cons h0 h =>
  obtain ⟨_, _, _, _, _, _, rfl, rfl, h1, h2, h3⟩ := h.three (by simpa using e)
  exact ⟨_, _, _, _, _, _, _, _, rfl, rfl, h0, h1, h2, h3⟩
theorem DqAll.two {xs : List V} {ds : List PyData} (h : DqAll K H xs ds) (e : xs.length = 2) : ∃ x0 x1 d0 d1, xs = [x0, x1] ∧ ds = [d0, d1] ∧ Dq K H x0 d0 ∧ Dq K H x1 d1 := by
  cases h with
  | nil => cases e
  | cons h0 h =>
  cases h with
  | nil => cases e
  | cons h1 h =>
  cases h with
  | nil => exact ⟨_, _, _, _, rfl, rfl, h0, h1⟩
  | cons h3 h => simp at e
theorem DqAll.six {xs : List V} {ds : List PyData} (h : DqAll K H xs ds) (e : xs.length = 6) : ∃ x0 x1 x2 x3 x4 x5 d0 d1 d2 d3 d4 d5, xs = [x0, x1, x2, x3, x4, x5] ∧ ds = [d0, d1, d2, d3, d4, d5] ∧ Dq K H x0 d0 ∧ Dq K H x1 d1 ∧ Dq K H x2 d2 ∧ Dq K H x3 d3 ∧ Dq K H x4 d4 ∧ Dq K H x5 d5 := by
  cases h with
  | nil => cases e
  | cons h0 h =>
  cases h with
  | nil => cases e
  | cons h1 h =>
  obtain ⟨_, _, _, _, _, _, _, _, rfl, rfl, h2, h3, h4, h5⟩ := h.four (by simpa using e)
  exact ⟨_, _, _, _, _, _, _, _, _, _, _, _, rfl, rfl, h0, h1, h2, h3, h4, h5⟩
end
theorem waysOk_len {ds : List PyData} (h : ¬ ds.length = 3) : waysOk (.tuple ds) = false := by
  unfold waysOk
  split
  · rename_i e; cases e; exact absurd rfl h
  · rfl
theorem toldOk_len {ds : List PyData} (h : ¬ ds.length = 4) : toldOk (.tuple ds) = false := by
  unfold toldOk
  split
  · rename_i e; cases e; exact absurd rfl h
  · rfl
theorem pairOk_len {ds : List PyData} (h : ¬ ds.length = 2) : pairOk (.tuple ds) = false := by
  unfold pairOk
  split
  · rename_i e; cases e; exact absurd rfl h
  · rfl
theorem natI {n m : Nat} : decide (V.int (n : Int) = V.int (m : Int)) = decide (n = m) := by
  rw [dec_int']
  by_cases h : n = m
  · rw [decide_eq_true h, decide_eq_true (by omega)]
  · rw [decide_eq_false h, decide_eq_false (by omega)]
section
variable {P : Program} {w : World} {K : PySem.W.Frag} {mg : Str → Option Value} {base : Heap}
abbrev N_is_size : List Str := ["value"]
theorem sc_is_size : FnScope N_is_size ["value"] (defScope s_is_size) := ⟨rfl, rfl, rfl, by decide +kernel, rfl, by decide +kernel, by decide +kernel⟩
theorem ok_is_size (T : Tx K mg w) : Okf P w K mg base "is_size" ["value"] 3 (sp1 fun v H Q => ∃ d, Dq K H v d ∧ Q (.bl (sizeOk d)) H) := by
  have O_is_between := ok_is_between (P := P) (w := w) (base := base) T
  refine mkF T ix_is_size rfl T.g_is_size sc_is_size (fun _ _ _ _ _ _ us hl => match us, hl with | [_], _ => rfl) len1 (fun cdv A outer s0 H0 E vs Q hr h => ?_)
  refine ⟨_, (pss_one (ps_ret (pe_f O_is_between (hr.mono (by decide)) (by rfl) (pa_cons (pv 0) (pa_cons pe_int (pa_cons (pe_gint T.i_MOST_X (by rfl)) pa_nil)))))), ?_⟩
  obtain ⟨v, rfl, d, hd, q⟩ := h
  exact ⟨_, rfl, _, _, _, rfl, d, 1, 2000, hd, rfl, rfl, q⟩
abbrev N_is_told_setting : List Str := ["value"]
theorem sc_is_told_setting : FnScope N_is_told_setting ["value"] (defScope s_is_told_setting) := ⟨rfl, rfl, rfl, by decide +kernel, rfl, by decide +kernel, by decide +kernel⟩
theorem ok_is_told_setting (T : Tx K mg w) : Okf P w K mg base "is_told_setting" ["value"] 3 (sp1 fun v H Q => ∃ d, Dq K H v d ∧ Q (.bl (waysOk d)) H) := by
  have O_is_between := ok_is_between (P := P) (w := w) (base := base) T
  refine mkF T ix_is_told_setting rfl T.g_is_told_setting sc_is_told_setting (fun _ _ _ _ _ _ us hl => match us, hl with | [_], _ => rfl) len1 (fun cdv A outer s0 H0 E vs Q hr h => ?_)
  refine ⟨_, (pss_cons (ps_if (PW.pt (pw_or (pt_not (pt_val (pe_callB (isiK K) (by rfl) T.n_isinstance (by decide +kernel) (pa_cons (pv 0) (pa_cons (pe_bltn (v := .ty "tuple") (by rfl) T.n_tuple (by decide +kernel) rfl) pa_nil))))) (pw_or (pt_cmpR op_ne (pe_callB (lenK K) (by rfl) T.n_len (by decide +kernel) (pa_cons (pv 0) pa_nil)) pe_int (nomark _)) (pw_or (pt_not (pt_val (pe_callB (isiK K) (by rfl) T.n_isinstance (by decide +kernel) (pa_cons (pe_ix (ixT K) (pv 0) pe_int (fun _ _ => rfl)) (pa_cons (pe_bltn (v := .ty "str") (by rfl) T.n_str (by decide +kernel) rfl) pa_nil))))) (pw_or1 (pt_cmpR (ninK K) (pe_ix (ixT K) (pv 0) pe_int (fun _ _ => rfl)) (pe_gref T.g_RULES (by rfl)) (by rfl)))))))
      (pss_one (ps_ret pe_bl))
      pss_nil)
    (pss_one (ps_ret (pe_and (pe_f O_is_between (hr.mono (by decide)) (by rfl) (pa_cons (pe_ix (ixT K) (pv 0) pe_int (fun _ _ => rfl)) (pa_cons pe_int (pa_cons (pe_gint T.i_MOST_EVERY (by rfl)) pa_nil)))) (pe_one (pe_f O_is_between (hr.mono (by decide)) (by rfl) (pa_cons (pe_ix (ixT K) (pv 0) pe_int (fun _ _ => rfl)) (pa_cons pe_int (pa_cons (pe_gint T.i_MOST_DELAY (by rfl)) pa_nil))))))))), ?_⟩
  obtain ⟨v, rfl, d, hd, q⟩ := h
  refine ⟨_, rfl, _, _, _, _, _, rfl, .ty _, hd.ty, isi_ok (by decide) hd, _, rfl, ?_⟩
  rw [isTy_tup]
  cases hd with
  | @tup a xs ds hs ha =>
    refine iteF ⟨_, rfl, a, xs, rfl, .inr hs, rfl, _, rfl, ?_⟩
    have ed : decide (V.int (xs.length : Int) = V.int 3) = decide (xs.length = 3) := natI (m := 3)
    rw [ed]
    by_cases e3 : xs.length = 3
    · rw [decide_eq_true e3]
      obtain ⟨x0, x1, x2, d0, d1, d2, rfl, rfl, h0, h1, h2⟩ := ha.three e3
      refine iteF ⟨_, rfl, a, _, 0, _, rfl, rfl, hs, atI0, _, _, _, _, _, rfl, .ty _, h0.ty, isi_ok (by decide) h0, _, rfl, ?_⟩
      rw [isTy_str]
      cases h0 with
      | str s =>
        refine iteF ⟨_, rfl, a, _, 0, _, rfl, rfl, hs, atI0, _, _, rfl, .inr (T.rules _), rfl, rfl, _, rfl, ?_⟩
        rw [if_pos rfl, inV_rules]
        have q2 : Q (.bl (isRule s && (btw d1 1 4 && btw d2 0 200))) H0 := q
        cases er : isRule s with
        | false => rw [er] at q2; exact iteT q2
        | true =>
          rw [er] at q2
          refine iteF ⟨_, rfl, a, _, 1, _, rfl, rfl, hs, atI1, _, _, _, rfl, d1, 1, 4, h1, rfl, rfl, _, rfl, ?_⟩
          cases e1 : btw d1 1 4 with
          | false => rw [e1] at q2; exact iteF q2
          | true => rw [e1] at q2; exact iteT ⟨_, rfl, a, _, 2, _, rfl, rfl, hs, atI2, _, _, _, rfl, d2, 0, 200, h2, rfl, rfl, q2⟩
      | _ => exact iteT q
    · rw [decide_eq_false e3]
      rw [waysOk_len (by rw [← ha.length]; exact e3)] at q
      exact iteT q
  | _ => exact iteT q
abbrev N_is_told_line : List Str := ["value"]
theorem sc_is_told_line : FnScope N_is_told_line ["value"] (defScope s_is_told_line) := ⟨rfl, rfl, rfl, by decide +kernel, rfl, by decide +kernel, by decide +kernel⟩
theorem ok_is_told_line (T : Tx K mg w) : Okf P w K mg base "is_told_line" ["value"] 4 (sp1 fun v H Q => ∃ d, Dq K H v d ∧ Q (.bl (toldOk d)) H) := by
  have O_is_between := ok_is_between (P := P) (w := w) (base := base) T
  have O_is_told_setting := ok_is_told_setting (P := P) (w := w) (base := base) T
  refine mkF T ix_is_told_line rfl T.g_is_told_line sc_is_told_line (fun _ _ _ _ _ _ us hl => match us, hl with | [_], _ => rfl) len1 (fun cdv A outer s0 H0 E vs Q hr h => ?_)
  refine ⟨_, (pss_cons (ps_if (PW.pt (pw_or (pt_not (pt_val (pe_callB (isiK K) (by rfl) T.n_isinstance (by decide +kernel) (pa_cons (pv 0) (pa_cons (pe_bltn (v := .ty "tuple") (by rfl) T.n_tuple (by decide +kernel) rfl) pa_nil))))) (pw_or1 (pt_cmpR op_ne (pe_callB (lenK K) (by rfl) T.n_len (by decide +kernel) (pa_cons (pv 0) pa_nil)) pe_int (nomark _)))))
      (pss_one (ps_ret pe_bl))
      pss_nil)
    (pss_cons (ps_if (PW.pt (pw_or (pt_not (pt_val (pe_f O_is_between (hr.mono (by decide)) (by rfl) (pa_cons (pe_ix (ixT K) (pv 0) pe_int (fun _ _ => rfl)) (pa_cons pe_int (pa_cons (pe_gint T.i_MOST_SIZE (by rfl)) pa_nil)))))) (pw_or1 (pt_not (pt_val (pe_f O_is_between (hr.mono (by decide)) (by rfl) (pa_cons (pe_ix (ixT K) (pv 0) pe_int (fun _ _ => rfl)) (pa_cons pe_int (pa_cons (pe_gint T.i_MOST_WAY (by rfl)) pa_nil)))))))))
      (pss_one (ps_ret pe_bl))
      pss_nil)
    (pss_one (ps_ret (pe_and (pe_f O_is_told_setting (hr.mono (by decide)) (by rfl) (pa_cons (pe_ix (ixT K) (pv 0) pe_int (fun _ _ => rfl)) pa_nil)) (pe_one (pe_f O_is_told_setting (hr.mono (by decide)) (by rfl) (pa_cons (pe_ix (ixT K) (pv 0) pe_int (fun _ _ => rfl)) pa_nil)))))))), ?_⟩
  obtain ⟨v, rfl, d, hd, q⟩ := h
  refine ⟨_, rfl, _, _, _, _, _, rfl, .ty _, hd.ty, isi_ok (by decide) hd, _, rfl, ?_⟩
  rw [isTy_tup]
  cases hd with
  | @tup a xs ds hs ha =>
    refine iteF ⟨_, rfl, a, xs, rfl, .inr hs, rfl, _, rfl, ?_⟩
    have ed : decide (V.int (xs.length : Int) = V.int 4) = decide (xs.length = 4) := natI (m := 4)
    rw [ed]
    by_cases e3 : xs.length = 4
    · rw [decide_eq_true e3]
      obtain ⟨x0, x1, x2, x3, d0, d1, d2, d3, rfl, rfl, h0, h1, h2, h3⟩ := ha.four e3
      have q2 : Q (.bl ((btw d0 1 40 && btw d1 1 200) && (waysOk d2 && waysOk d3))) H0 := q
      refine iteF ⟨_, rfl, a, _, 0, _, rfl, rfl, hs, atI0, _, _, _, rfl, d0, 1, 40, h0, rfl, rfl, _, rfl, ?_⟩
      cases e0 : btw d0 1 40 with
      | false => rw [e0] at q2; exact iteT q2
      | true =>
        rw [e0] at q2
        refine iteF ⟨_, rfl, a, _, 1, _, rfl, rfl, hs, atI1, _, _, _, rfl, d1, 1, 200, h1, rfl, rfl, _, rfl, ?_⟩
        cases e1 : btw d1 1 200 with
        | false => rw [e1] at q2; exact iteT q2
        | true =>
          rw [e1] at q2
          refine iteF ⟨_, rfl, a, _, 2, _, rfl, rfl, hs, atI2, _, rfl, d2, h2, _, rfl, ?_⟩
          cases e2 : waysOk d2 with
          | false => rw [e2] at q2; exact iteF q2
          | true => rw [e2] at q2; exact iteT ⟨_, rfl, a, _, 3, _, rfl, rfl, hs, atI3, _, rfl, d3, h3, q2⟩
    · rw [decide_eq_false e3]
      rw [toldOk_len (by rw [← ha.length]; exact e3)] at q
      exact iteT q
  | _ => exact iteT q
abbrev N_is_program : List Str := ["value", "step"]
theorem sc_is_program : FnScope N_is_program ["value"] (defScope s_is_program) := ⟨rfl, rfl, rfl, by decide +kernel, rfl, by decide +kernel, by decide +kernel⟩
theorem ok_is_program (T : Tx K mg w) : Okf P w K mg base "is_program" ["value"] 5 (sp1 fun v H Q => ∃ d, Dq K H v d ∧ ∀ H', Ke H H' → Q (.bl (planOk d)) H') := by
  have O_is_step := ok_is_step (P := P) (w := w) (base := base) T
  refine mkF T ix_is_program rfl T.g_is_program sc_is_program (fun _ _ _ _ _ _ us hl => match us, hl with | [_], _ => rfl) len1 (fun cdv A outer s0 H0 E vs Q hr h => ?_)
  refine ⟨_, (pss_one (ps_ret (pe_and (pe_callB (isiK K) (by rfl) T.n_isinstance (by decide +kernel) (pa_cons (pv 0) (pa_cons (pe_bltn (v := .ty "tuple") (by rfl) T.n_tuple (by decide +kernel) rfl) pa_nil))) (pe_and (pe_cmpR op_le (pe_callB (lenK K) (by rfl) T.n_len (by decide +kernel) (pa_cons (pv 0) pa_nil)) (pe_gint T.i_MOST_STEPS (by rfl)) (nomark _)) (pe_one (pe_callB (allK K rfl) (by rfl) T.n_all (by decide +kernel) (pa_cons (pe_lc (own := [(("step" : Str), 1)]) (by rfl) sc_is_program.nd (piT K (pv 0)) (blkOk_by (own := [(("step" : Str), 1)]) (N := N_is_program) (sc := defScope s_is_program) (by decide +kernel)) (fun _ _ _ _ _ => pg_name (i := 1) sc_is_program.nd rfl (Or.inl rfl)) (fun _ _ _ _ _ => pts_nil) (fun _ _ _ _ _ => (pe_f O_is_step (hr.mono (by decide)) (by rfl) (pa_cons (pv 1) pa_nil)))) pa_nil))))))), ?_⟩
  obtain ⟨v, rfl, d, hd, q⟩ := h
  refine ⟨_, rfl, _, _, _, _, _, rfl, .ty _, hd.ty, isi_ok (by decide) hd, _, rfl, ?_⟩
  rw [isTy_tup]
  cases hd with
  | @tup a xs ds hs ha =>
    refine iteT ⟨_, rfl, a, xs, rfl, .inr hs, _, _, rfl, rfl, _, rfl, ?_⟩
    have hl := ha.length
    have ed : decide ((xs.length : Int) ≤ 6) = decide (ds.length ≤ 6) := by
      by_cases h : ds.length ≤ 6
      · rw [decide_eq_true h, decide_eq_true (by omega)]
      · rw [decide_eq_false h, decide_eq_false (by omega)]
    rw [ed]
    have q2 : ∀ H', Ke H0 H' → Q (.bl (decide (ds.length ≤ 6) && ds.all stepOk)) H' := q
    cases e6 : decide (ds.length ≤ 6) with
    | false => rw [e6] at q2; exact iteF (q2 _ (.refl _))
    | true =>
      rw [e6] at q2
      have h6 : xs.length ≤ 6 := by rw [hl]; exact of_decide_eq_true e6
      refine iteT ⟨_, rfl, a, rfl, ⟨xs, hs⟩, lc_t (fun i => (ds.take i).map fun d => .bl (stepOk d)) hs rfl (fun i hi => ?_) (fun i x H' hx kH Yes No yes no => ?_) (fun D H' hD kH hE => ?_)⟩
      · rw [List.length_map, List.length_take]
        exact Nat.lt_of_le_of_lt (Nat.le_trans (Nat.min_le_left _ _) (Nat.le_trans hi h6)) (by decide)
      · obtain ⟨d, hd, hq⟩ := ha.getV hx
        refine ⟨rfl, _, rfl, _, rfl, d, hq.ke kH, fun H2 k2 => yes _ _ k2 ?_⟩
        rw [take_snoc hd, List.map_append]
        rfl
      · refine ⟨D, ds.map stepOk, rfl, SqL.of ?_, ?_⟩
        · rw [hE, hl, List.take_length, List.map_map]
          rfl
        · have e : (ds.map stepOk).all id = ds.all stepOk := by
            rw [List.all_map]
            rfl
          rw [e]
          exact q2 _ kH
  | _ => exact iteF (q _ (.refl _))
abbrev N_is_pair : List Str := ["value", "each"]
theorem sc_is_pair : FnScope N_is_pair ["value"] (defScope s_is_pair) := ⟨rfl, rfl, rfl, by decide +kernel, rfl, by decide +kernel, by decide +kernel⟩
theorem ok_is_pair (T : Tx K mg w) : Okf P w K mg base "is_pair" ["value"] 2 (sp1 fun v H Q => ∃ d, Dq K H v d ∧ ∀ H', Ke H H' → Q (.bl (pairOk d)) H') := by
  have O_is_integer := ok_is_integer (P := P) (w := w) (base := base) T
  refine mkF T ix_is_pair rfl T.g_is_pair sc_is_pair (fun _ _ _ _ _ _ us hl => match us, hl with | [_], _ => rfl) len1 (fun cdv A outer s0 H0 E vs Q hr h => ?_)
  refine ⟨_, (pss_cons (ps_if (PW.pt (pw_or (pt_not (pt_val (pe_callB (isiK K) (by rfl) T.n_isinstance (by decide +kernel) (pa_cons (pv 0) (pa_cons (pe_bltn (v := .ty "tuple") (by rfl) T.n_tuple (by decide +kernel) rfl) pa_nil))))) (pw_or1 (pt_cmpR op_ne (pe_callB (lenK K) (by rfl) T.n_len (by decide +kernel) (pa_cons (pv 0) pa_nil)) pe_int (nomark _)))))
      (pss_one (ps_ret pe_bl))
      pss_nil)
    (pss_one (ps_ret (pe_callB (allK K rfl) (by rfl) T.n_all (by decide +kernel) (pa_cons (pe_lc (own := [(("each" : Str), 1)]) (by rfl) sc_is_pair.nd (piT K (pv 0)) (blkOk_by (own := [(("each" : Str), 1)]) (N := N_is_pair) (sc := defScope s_is_pair) (by decide +kernel)) (fun _ _ _ _ _ => pg_name (i := 1) sc_is_pair.nd rfl (Or.inl rfl)) (fun _ _ _ _ _ => pts_nil) (fun _ _ _ _ _ => (pe_or (pe_cmpR op_isN (pv 1) pe_non (nomark _)) (pe_one (pe_f O_is_integer (hr.mono (by decide)) (by rfl) (pa_cons (pv 1) pa_nil)))))) pa_nil))))), ?_⟩
  obtain ⟨v, rfl, d, hd, q⟩ := h
  refine ⟨_, rfl, _, _, _, _, _, rfl, .ty _, hd.ty, isi_ok (by decide) hd, _, rfl, ?_⟩
  rw [isTy_tup]
  cases hd with
  | @tup a xs ds hs ha =>
    refine iteF ⟨_, rfl, a, xs, rfl, .inr hs, rfl, _, rfl, ?_⟩
    have hl := ha.length
    have ed : decide (V.int (xs.length : Int) = V.int 2) = decide (xs.length = 2) := natI (m := 2)
    rw [ed]
    by_cases e2 : xs.length = 2
    · rw [decide_eq_true e2]
      refine iteF ⟨_, rfl, a, rfl, ⟨xs, hs⟩, lc_t (fun i => (ds.take i).map fun d => .bl (endOk d)) hs rfl (fun i hi => ?_) (fun i x H' hx kH Yes No yes no => ?_) (fun D H' hD kH hE => ?_)⟩
      · rw [List.length_map, List.length_take]
        exact Nat.lt_of_le_of_lt (Nat.le_trans (Nat.min_le_left _ _) (Nat.le_trans hi (Nat.le_of_eq e2))) (by decide)
      · obtain ⟨d, hd, hq⟩ := ha.getV hx
        have hq := hq.ke kH
        refine ⟨rfl, _, rfl, rfl, _, rfl, ?_⟩
        have fin : ∀ H2, Ke H' H2 → Yes (.bl (endOk d)) H2 := fun H2 k2 => yes _ _ k2 (by rw [take_snoc hd, List.map_append]; rfl)
        cases hq with
        | non => exact iteT (fin _ (.refl _))
        | int i => exact iteF ⟨_, rfl, _, rfl, _, .int i, fin _ (.refl _)⟩
        | bl b => exact iteF ⟨_, rfl, _, rfl, _, .bl b, fin _ (.refl _)⟩
        | str s => exact iteF ⟨_, rfl, _, rfl, _, .str s, fin _ (.refl _)⟩
        | lst h1 h2 => exact iteF ⟨_, rfl, _, rfl, _, .lst h1 h2, fin _ (.refl _)⟩
        | tup h1 h2 => exact iteF ⟨_, rfl, _, rfl, _, .tup h1 h2, fin _ (.refl _)⟩
        | dic h1 => exact iteF ⟨_, rfl, _, rfl, _, .dic h1, fin _ (.refl _)⟩
      · obtain ⟨x0, x1, d0, d1, rfl, rfl, h0, h1⟩ := ha.two e2
        refine ⟨D, [endOk d0, endOk d1], rfl, SqL.of hE, ?_⟩
        have e : [endOk d0, endOk d1].all id = pairOk (.tuple [d0, d1]) := by
          show (endOk d0 && (endOk d1 && true)) = (endOk d0 && endOk d1)
          rw [Bool.and_true]
        rw [e]
        exact q _ kH
    · rw [decide_eq_false e2]
      rw [pairOk_len (by rw [← hl]; exact e2)] at q
      exact iteT (q _ (.refl _))
  | _ => exact iteT (q _ (.refl _))
abbrev N_is_empty : List Str := ["value"]
theorem sc_is_empty : FnScope N_is_empty ["value"] (defScope s_is_empty) := ⟨rfl, rfl, rfl, by decide +kernel, rfl, by decide +kernel, by decide +kernel⟩
theorem ok_is_empty (T : Tx K mg w) : Okf P w K mg base "is_empty" ["value"] 1 (sp1 fun v H Q => ∃ d, Dq K H v d ∧ Q (.bl (match d with | .tuple [] => true | _ => false)) H) := by
  refine mkF T ix_is_empty rfl T.g_is_empty sc_is_empty (fun _ _ _ _ _ _ us hl => match us, hl with | [_], _ => rfl) len1 (fun cdv A outer s0 H0 E vs Q hr h => ?_)
  refine ⟨_, (pss_one (ps_ret (pe_and (pe_callB (isiK K) (by rfl) T.n_isinstance (by decide +kernel) (pa_cons (pv 0) (pa_cons (pe_bltn (v := .ty "tuple") (by rfl) T.n_tuple (by decide +kernel) rfl) pa_nil))) (pe_one (pe_cmpR op_eq (pe_callB (lenK K) (by rfl) T.n_len (by decide +kernel) (pa_cons (pv 0) pa_nil)) pe_int (nomark _)))))), ?_⟩
  obtain ⟨v, rfl, d, hd, q⟩ := h
  refine ⟨_, rfl, _, _, _, _, _, rfl, .ty _, hd.ty, isi_ok (by decide) hd, _, rfl, ?_⟩
  rw [isTy_tup]
  cases hd with
  | @tup a xs ds hs ha =>
    refine iteT ⟨_, rfl, a, xs, rfl, .inr hs, rfl, ?_⟩
    cases ha with
    | nil => exact q
    | @cons x0 xr d0 dr h0 hr =>
      have e : decide (V.int ((x0 :: xr).length : Int) = V.int 0) = false := by
        rw [dec_int', decide_eq_false (by rw [List.length_cons]; omega)]
      show Q (.bl (decide (V.int ((x0 :: xr).length : Int) = V.int 0))) H0
      rw [e]
      exact q
  | _ => exact iteF q
end
end Sm

/-! The program: parts of claims, claims. -/
namespace Sm
open PySem PySem.Spec PyProof.Rows L2
/-- what a part of the kind z must be -/
def partOk (z : Str) (d : PyData) : Bool :=
  if z = "line" then toldOk d else if z = "program" then planOk d else if z = "size" then sizeOk d else pairOk d
def claimOk (d : PyData) : Bool := match d with
  | .tuple [.str z, l, p, q, x, e] => decide (z = "ends") && (toldOk l && (planOk p && (planOk q && (sizeOk x && pairOk e))))
  | _ => false
theorem claimOk_len {ds : List PyData} (h : ¬ ds.length = 6) : claimOk (.tuple ds) = false := by
  unfold claimOk
  split
  · rename_i e; cases e; exact absurd rfl h
  · rfl
theorem cut1 {x : V} {r : List V} : cutV (x :: r) (some 1) none = r := by
  unfold cutV
  rw [show HT.sIx (x :: r).length 0 (some 1) = min 1 (x :: r).length from HT.sIx_nat (x :: r).length 0 1, HT.sIx_none]
  rw [show min 1 (x :: r).length = 1 by rw [List.length_cons]; omega]
  show List.take ((x :: r).length - 1) r = r
  rw [List.length_cons, Nat.add_sub_cancel]
  exact List.take_length
abbrev kk : List Str := ["line", "program", "program", "size", "pair"]
section
variable {P : Program} {w : World} {K : PySem.W.Frag} {mg : Str → Option Value} {base : Heap}
abbrev N_is_part : List Str := ["kind", "value"]
theorem sc_is_part : FnScope N_is_part ["kind", "value"] (defScope s_is_part) := ⟨rfl, rfl, rfl, by decide +kernel, rfl, by decide +kernel, by decide +kernel⟩
theorem ok_is_part (T : Tx K mg w) : Okf P w K mg base "is_part" ["kind", "value"] 6 (sp2 fun k v H Q => ∃ z d, k = .str z ∧ (z = "line" ∨ z = "program" ∨ z = "size" ∨ z = "pair") ∧ Dq K H v d ∧ ∀ H', Ke H H' → Q (.bl (partOk z d)) H') := by
  have O_is_told_line := ok_is_told_line (P := P) (w := w) (base := base) T
  have O_is_program := ok_is_program (P := P) (w := w) (base := base) T
  have O_is_size := ok_is_size (P := P) (w := w) (base := base) T
  have O_is_pair := ok_is_pair (P := P) (w := w) (base := base) T
  refine mkF T ix_is_part rfl T.g_is_part sc_is_part (fun _ _ _ _ _ _ us hl => match us, hl with | [_, _], _ => rfl) len2 (fun cdv A outer s0 H0 E vs Q hr h => ?_)
  refine ⟨_, (pss_cons (ps_if (pt_cmpR op_eq (pv 0) pe_str (nomark _))
      (pss_one (ps_ret (pe_f O_is_told_line (hr.mono (by decide)) (by rfl) (pa_cons (pv 1) pa_nil))))
      pss_nil)
    (pss_cons (ps_if (pt_cmpR op_eq (pv 0) pe_str (nomark _))
      (pss_one (ps_ret (pe_f O_is_program (hr.mono (by decide)) (by rfl) (pa_cons (pv 1) pa_nil))))
      pss_nil)
    (pss_cons (ps_if (pt_cmpR op_eq (pv 0) pe_str (nomark _))
      (pss_one (ps_ret (pe_f O_is_size (hr.mono (by decide)) (by rfl) (pa_cons (pv 1) pa_nil))))
      pss_nil)
    (pss_cons (ps_if (pt_cmpR op_eq (pv 0) pe_str (nomark _))
      (pss_one ps_never)
      pss_nil)
    (pss_one (ps_ret (pe_or (pe_f O_is_pair (hr.mono (by decide)) (by rfl) (pa_cons (pv 1) pa_nil)) (pe_one (pe_and (pe_cmpR op_eq (pv 0) pe_str (nomark _)) (pe_one (pe_cmpR op_isN (pv 1) pe_non (nomark _)))))))))))), ?_⟩
  obtain ⟨_, v, rfl, z, d, rfl, hz, hd, q⟩ := h
  rcases hz with rfl | rfl | rfl | rfl
  · exact ⟨_, rfl, rfl, _, rfl, iteT ⟨_, rfl, _, rfl, d, hd, q _ (.refl _)⟩⟩
  · exact ⟨_, rfl, rfl, _, rfl, iteF ⟨_, rfl, rfl, _, rfl, iteT ⟨_, rfl, _, rfl, d, hd, q⟩⟩⟩
  · exact ⟨_, rfl, rfl, _, rfl, iteF ⟨_, rfl, rfl, _, rfl, iteF ⟨_, rfl, rfl, _, rfl, iteT ⟨_, rfl, _, rfl, d, hd, q _ (.refl _)⟩⟩⟩⟩
  · refine ⟨_, rfl, rfl, _, rfl, iteF ⟨_, rfl, rfl, _, rfl, iteF ⟨_, rfl, rfl, _, rfl, iteF ⟨_, rfl, rfl, _, rfl, iteF ⟨_, rfl, _, rfl, d, hd, fun H1 k1 => ⟨_, rfl, ?_⟩⟩⟩⟩⟩⟩
    have q2 : Q (.bl (pairOk d)) H1 := q _ k1
    cases e : pairOk d with
    | true => rw [e] at q2; exact iteT q2
    | false => rw [e] at q2; exact iteF ⟨_, rfl, rfl, _, rfl, iteF q2⟩
abbrev N_is_claim : List Str := ["value", "kinds", "kind", "part"]
theorem sc_is_claim : FnScope N_is_claim ["value"] (defScope s_is_claim) := ⟨rfl, rfl, rfl, by decide +kernel, rfl, by decide +kernel, by decide +kernel⟩
theorem ok_is_claim (T : Tx K mg w) : Okf P w K mg base "is_claim" ["value"] 7 (sp1 fun v H Q => ∃ d, Dq K H v d ∧ (∀ s r, d = .tuple (.str s :: r) → s = "ends" ∨ s = "end") ∧ ∀ H', Ke H H' → Q (.bl (claimOk d)) H') := by
  have O_is_part := ok_is_part (P := P) (w := w) (base := base) T
  obtain ⟨es, n, D⟩ := T.forms
  refine mkF T ix_is_claim rfl T.g_is_claim sc_is_claim (fun _ _ _ _ _ _ us hl => match us, hl with | [_], _ => rfl) len1 (fun cdv A outer s0 H0 E vs Q hr h => ?_)
  refine ⟨_, (pss_cons (ps_if (PW.pt (pw_or (pt_not (pt_val (pe_callB (isiK K) (by rfl) T.n_isinstance (by decide +kernel) (pa_cons (pv 0) (pa_cons (pe_bltn (v := .ty "tuple") (by rfl) T.n_tuple (by decide +kernel) rfl) pa_nil))))) (pw_or (pt_cmpR op_eq (pe_callB (lenK K) (by rfl) T.n_len (by decide +kernel) (pa_cons (pv 0) pa_nil)) pe_int (nomark _)) (pw_or (pt_not (pt_val (pe_callB (isiK K) (by rfl) T.n_isinstance (by decide +kernel) (pa_cons (pe_ix (ixT K) (pv 0) pe_int (fun _ _ => rfl)) (pa_cons (pe_bltn (v := .ty "str") (by rfl) T.n_str (by decide +kernel) rfl) pa_nil))))) (pw_or1 (pt_cmpR (op_notIn_kd D) (pe_ix (ixT K) (pv 0) pe_int (fun _ _ => rfl)) (pe_gref T.g_FORMS (by rfl)) (by rfl)))))))
      (pss_one (ps_ret pe_bl))
      pss_nil)
    (pss_cons (ps_set (i := 1) sc_is_claim.nd rfl (Or.inl rfl) (pe_ix ix_kdict (pe_gref T.g_FORMS (by rfl)) (pe_ix (ixT K) (pv 0) pe_int (fun _ _ => rfl)) (fun _ _ => rfl)))
    (pss_one (ps_ret (pe_and (pe_cmpR op_eq (pe_callB (lenK K) (by rfl) T.n_len (by decide +kernel) (pa_cons (pv 0) pa_nil)) (pe_op op_add (pe_callB (lenK K) (by rfl) T.n_len (by decide +kernel) (pa_cons (pv 1) pa_nil)) pe_int) (nomark _)) (pe_one (pe_callB (allK K rfl) (by rfl) T.n_all (by decide +kernel) (pa_cons (pe_lc (own := [(("kind" : Str), 2), (("part" : Str), 3)]) (g := gTup K 2 (gCons (gName 2) (gCons (gName 3) gNil))) (by rfl) sc_is_claim.nd (RZ.pi_zipA (by rfl) T.n_zip (pa_cons (pv 1) (pa_cons (pe_slice (slT K) (pv 0) (po_some pe_int) po_none) pa_nil))) (blkOk_by (own := [(("kind" : Str), 2), (("part" : Str), 3)]) (N := N_is_claim) (sc := defScope s_is_claim) (by decide +kernel)) (fun _ _ _ _ _ => pg_tup (by rfl) (pgs_cons (pg_name (i := 2) sc_is_claim.nd rfl (Or.inl rfl)) (pgs_cons (pg_name (i := 3) sc_is_claim.nd rfl (Or.inl rfl)) pgs_nil))) (fun _ _ _ _ _ => pts_nil) (fun _ _ _ _ _ => (pe_f O_is_part (hr.mono (by decide)) (by rfl) (pa_cons (pv 2) (pa_cons (pv 3) pa_nil))))) pa_nil)))))))), ?_⟩
  obtain ⟨v, rfl, d, hd, hh, q⟩ := h
  refine ⟨_, rfl, _, _, _, _, _, rfl, .ty _, hd.ty, isi_ok (by decide) hd, _, rfl, ?_⟩
  rw [isTy_tup]
  cases hd with
  | @tup a xs ds hs ha =>
    refine iteF ⟨_, rfl, a, xs, rfl, .inr hs, rfl, _, rfl, ?_⟩
    have hl := ha.length
    cases ha with
    | nil => exact iteT (q _ (.refl _))
    | @cons x0 xr d0 dr h0 hr0 =>
    have e0 : decide (V.int ((x0 :: xr).length : Int) = V.int 0) = false := by
      rw [dec_int', decide_eq_false (by rw [List.length_cons]; omega)]
    rw [e0]
    refine iteF ⟨_, rfl, a, _, 0, _, rfl, rfl, hs, atI0, _, _, _, _, _, rfl, .ty _, h0.ty, isi_ok (by decide) h0, _, rfl, ?_⟩
    rw [isTy_str]
    cases h0 with
    | str s =>
      rcases hh s dr rfl with rfl | rfl
      · refine iteF ⟨_, rfl, a, _, 0, _, rfl, rfl, hs, atI0, _, _, rfl, rfl, T.forms_ends, _, rfl, iteF ?_⟩
        refine ⟨_, rfl, a, _, 0, _, rfl, rfl, hs, atI0, _, _, .ref (endsAt K), rfl, rfl, ⟨_, _, _, D.at_, D.lit, T.forms_ends, rfl⟩, ?_⟩
        refine ⟨_, rfl, a, _, rfl, .inr hs, _, rfl, _, _, rfl, .inr (T.forms_tup _), _, _, rfl, rfl, rfl, _, rfl, ?_⟩
        have ed : decide (V.int ((V.str "ends" :: xr).length : Int) = V.int (((([.str "line", .str "program", .str "program", .str "size", .str "pair"] : List V).length : Nat) : Int) + 1)) = decide ((PyData.str "ends" :: dr).length = 6) := by
          rw [← hl]
          exact natI (m := 6)
        rw [ed]
        by_cases e6 : (PyData.str "ends" :: dr).length = 6
        · rw [decide_eq_true e6]
          refine iteT ⟨_, rfl, _, rfl, 1, rfl, a, _, rfl, hs, fun hw => ?_, fun _ p np => ?_⟩
          · have e1 : HT.sIx (V.str "ends" :: xr).length 0 (some 1) = min 1 (V.str "ends" :: xr).length := HT.sIx_nat (V.str "ends" :: xr).length 0 1
            have e2 := hw.1
            rw [e1, List.length_cons] at e2
            omega
          · have k1 : Ke H0 (upd H0 p (.tup (cutV (.str "ends" :: xr) (some 1) none))) := .new np
            have h1 : SqT K (upd H0 p (.tup (cutV (.str "ends" :: xr) (some 1) none))) p xr := SqT.of (by rw [upd_same, cut1])
            have hr1 := hr0.ke k1
            generalize upd H0 p (.tup (cutV (.str "ends" :: xr) (some 1) none)) = H1 at k1 h1 hr1 ⊢
            have hl5 : xr.length = 5 := by
              rw [hr0.length]
              simpa using e6
            refine ⟨_, _, _, _, rfl, .inr ⟨T.forms_tup _, h1, lc_z (fun i => ((List.zip (["line", "program", "program", "size", "pair"] : List Str) dr).take i).map fun q => .bl (partOk q.1 q.2)) (by rw [hl5]; rfl) (T.forms_tup _) h1 rfl (fun i hi => ?_) (fun i x z T' H' hx hz kH hT Yes No yes no => ?_) (fun D' H' hD kH hE => ?_)⟩⟩
            · rw [List.length_map, List.length_take]
              exact Nat.lt_of_le_of_lt (Nat.le_trans (Nat.min_le_left _ _) hi) (by decide)
            · have hx' : (kk.map V.str)[i]? = some x := hx
              rw [List.getElem?_map] at hx'
              obtain ⟨s, hs1, rfl⟩ := Option.map_eq_some_iff.mp hx'
              obtain ⟨d, hd, hq⟩ := hr1.getV hz
              have hm : s = "line" ∨ s = "program" ∨ s = "size" ∨ s = "pair" := by
                have := List.mem_of_getElem? hs1
                simp only [kk, List.mem_cons, List.not_mem_nil, or_false] at this
                rcases this with h | h | h | h | h
                · exact .inl h
                · exact .inr (.inl h)
                · exact .inr (.inl h)
                · exact .inr (.inr (.inl h))
                · exact .inr (.inr (.inr h))
              refine ⟨T', [.str s, z], rfl, SqT.of upd_same, rfl, .str s, [z], rfl, z, [], rfl, rfl, rfl, _, rfl, _, rfl, _, _, rfl, s, d, rfl, hm, hq.ke (kH.trans (.new hT)), fun H2 k2 => yes _ _ ((Ke.new hT).trans k2) ?_⟩
              have hz2 : (List.zip kk dr)[i]? = some (s, d) := by
                rw [List.getElem?_zip_eq_some]
                exact ⟨hs1, hd⟩
              show ((List.zip kk dr).take (i + 1)).map _ = ((List.zip kk dr).take i).map _ ++ [_]
              rw [take_snoc hz2, List.map_append]
              rfl
            · obtain ⟨l, p1, p2, x1, e1, rfl⟩ : ∃ l p1 p2 x1 e1, dr = [l, p1, p2, x1, e1] := by
                have hd5 : dr.length = 5 := by rw [← hr0.length]; exact hl5
                match dr, hd5 with
                | [l, p1, p2, x1, e1], _ => exact ⟨_, _, _, _, _, rfl⟩
              refine ⟨D', [partOk "line" l, partOk "program" p1, partOk "program" p2, partOk "size" x1, partOk "pair" e1], rfl, SqL.of hE, ?_⟩
              have e : ([partOk "line" l, partOk "program" p1, partOk "program" p2, partOk "size" x1, partOk "pair" e1] : List Bool).all id = claimOk (.tuple (.str "ends" :: [l, p1, p2, x1, e1])) := by
                show (partOk "line" l && (partOk "program" p1 && (partOk "program" p2 && (partOk "size" x1 && (partOk "pair" e1 && true))))) = (decide (("ends" : Str) = "ends") && (toldOk l && (planOk p1 && (planOk p2 && (sizeOk x1 && pairOk e1)))))
                rw [Bool.and_true, decide_eq_true rfl, Bool.true_and]
                rfl
              rw [e]
              exact q _ (k1.trans kH)
        · rw [decide_eq_false e6]
          rw [claimOk_len e6] at q
          exact iteF (q _ (.refl _))
      · have e : claimOk (.tuple (.str "end" :: dr)) = false := by
          unfold claimOk
          split
          · rename_i h
            injection h with h
            injection h with h1 h2
            injection h1 with h1
            rw [← h1]
            rfl
          · rfl
        rw [e] at q
        exact iteF ⟨_, rfl, a, _, 0, _, rfl, rfl, hs, atI0, _, _, rfl, rfl, T.forms_end, _, rfl, iteT (q _ (.refl _))⟩
    | _ => exact iteT (q _ (.refl _))
  | _ => exact iteT (q _ (.refl _))
end
end Sm

/-! The program: settings and lines. -/
namespace Sm
open PySem PySem.Spec PyProof.Rows L2
def ruS : Ru → Str
  | .plain => "plain"
  | .hold => "hold"
  | .few => "few"
def wayD (r : Ru) (e d : Int) : PyData := .tuple [.str (ruS r), .int e, .int d]
/-- what a line tells -/
def lineD (S : Sh) : PyData := .tuple [.int S.size, .int S.way, wayD (S.rule false) (S.every false) (S.delay false), wayD (S.rule true) (S.every true) (S.delay true)]
/-- the bounds of point 6 -/
structure Bd (S : Sh) : Prop where
  size : 1 ≤ S.size ∧ S.size ≤ 40
  way : 1 ≤ S.way ∧ S.way ≤ 200
  every : ∀ k, 1 ≤ S.every k ∧ S.every k ≤ 4
  delay : ∀ k, 0 ≤ S.delay k ∧ S.delay k ≤ 200
theorem Bd.fine {S : Sh} (b : Bd S) : Fine S := ⟨b.size.1, b.way.1, fun k => (b.every k).1, fun k => (b.delay k).1⟩
def setF (r : Str) (e d : Int) (t : Addr) : List (Str × V) := [("rule", .str r), ("every", .int e), ("delay", .int d), ("told", .ref t)]
def lineF (s y : Int) (n f t : Addr) : List (Str × V) := [("size", .int s), ("way", .int y), ("near", .ref n), ("far", .ref f), ("told", .ref t)]
def SetAt (K : PySem.W.Frag) (H : Hp) (a : Addr) (r : Ru) (e d : Int) : Prop := ∃ dx t, H a = some (.ins (He.ga K "Setting") dx (setF (ruS r) e d t))
def LineAt (K : PySem.W.Frag) (H : Hp) (a : Addr) (S : Sh) : Prop := ∃ dx n f t, H a = some (.ins (He.ga K "Line") dx (lineF S.size S.way n f t)) ∧ SetAt K H n (S.rule false) (S.every false) (S.delay false) ∧ SetAt K H f (S.rule true) (S.every true) (S.delay true)
theorem SetAt.ke {K : PySem.W.Frag} {H H' : Hp} {a : Addr} {r : Ru} {e d : Int} (h : SetAt K H a r e d) (k : Ke H H') : SetAt K H' a r e d := let ⟨dx, t, q⟩ := h; ⟨dx, t, k.ins q⟩
theorem LineAt.ke {K : PySem.W.Frag} {H H' : Hp} {a : Addr} {S : Sh} (h : LineAt K H a S) (k : Ke H H') : LineAt K H' a S := let ⟨dx, n, f, t, q, s1, s2⟩ := h; ⟨dx, n, f, t, k.ins q, s1.ke k, s2.ke k⟩
theorem ke_made {H : Hp} {x dx C : Addr} (nx : H x = none) (nd : H dx = none) : Ke H (upd (upd H dx (.own x)) x (.ins C dx [])) := .of fun b o e => by
  rw [upd_ne (ne_of_none e nx), upd_ne (ne_of_none e nd)]
  exact e
theorem wayAt {K : PySem.W.Frag} {H : Hp} {v : V} {r : Ru} {e d : Int} (h : Dq K H v (wayD r e d)) : ∃ n, v = .ref n ∧ SqT K H n [.str (ruS r), .int e, .int d] := by
  have h : Dq K H v (.tuple [.str (ruS r), .int e, .int d]) := h
  cases h with
  | @tup a xs _ hs ha =>
  cases ha with | @cons x0 xr _ _ h0 ha =>
  cases ha with | @cons x1 xr _ _ h1 ha =>
  cases ha with | @cons x2 xr _ _ h2 ha =>
  cases ha
  cases h0
  cases h1
  cases h2
  exact ⟨a, rfl, hs⟩
theorem isRule_ruS (r : Ru) : isRule (ruS r) = true := by cases r <;> rfl
section
variable {P : Program} {w : World} {K : PySem.W.Frag} {mg : Str → Option Value} {base : Heap}
abbrev N_check_number : List Str := ["value", "low", "high"]
theorem sc_check_number : FnScope N_check_number ["value", "low", "high"] (defScope s_check_number) := ⟨rfl, rfl, rfl, by decide +kernel, rfl, by decide +kernel, by decide +kernel⟩
theorem ok_check_number (T : Tx K mg w) : Okf P w K mg base "check_number" ["value", "low", "high"] 3 (sp3 fun v l u H Q => ∃ i lo hi, v = .int i ∧ l = .int lo ∧ u = .int hi ∧ lo ≤ i ∧ i ≤ hi ∧ Q .non H) := by
  have O_is_between := ok_is_between (P := P) (w := w) (base := base) T
  refine mkF T ix_check_number rfl T.g_check_number sc_check_number (fun _ _ _ _ _ _ us hl => match us, hl with | [_, _, _], _ => rfl) len3 (fun cdv A outer s0 H0 E vs Q hr h => ?_)
  refine ⟨_, (pss_one (ps_if (pt_not (pt_val (pe_f O_is_between (hr.mono (by decide)) (by rfl) (pa_cons (pv 0) (pa_cons (pv 1) (pa_cons (pv 2) pa_nil))))))
      (pss_one ps_never)
      pss_nil)), ?_⟩
  obtain ⟨_, _, _, rfl, i, lo, hi, rfl, rfl, rfl, h1, h2, q⟩ := h
  refine ⟨_, rfl, _, rfl, _, rfl, _, _, _, rfl, .int i, lo, hi, .int i, rfl, rfl, _, rfl, ?_⟩
  have e : btw (.int i) lo hi = true := by
    show (decide (lo ≤ i) && decide (i ≤ hi)) = true
    rw [decide_eq_true h1, decide_eq_true h2]
    rfl
  rw [e]
  exact iteF q
abbrev N_check_setting : List Str := ["value"]
theorem sc_check_setting : FnScope N_check_setting ["value"] (defScope s_check_setting) := ⟨rfl, rfl, rfl, by decide +kernel, rfl, by decide +kernel, by decide +kernel⟩
theorem ok_check_setting (T : Tx K mg w) : Okf P w K mg base "check_setting" ["value"] 1 (sp1 fun v H Q => ∃ a r e d, v = .ref a ∧ SetAt K H a r e d ∧ Q .non H) := by
  refine mkF T ix_check_setting rfl T.g_check_setting sc_check_setting (fun _ _ _ _ _ _ us hl => match us, hl with | [_], _ => rfl) len1 (fun cdv A outer s0 H0 E vs Q hr h => ?_)
  refine ⟨_, (pss_one (ps_if (pt_not (pt_val (pe_callB (isiK K) (by rfl) T.n_isinstance (by decide +kernel) (pa_cons (pv 0) (pa_cons (pe_gref T.g_Setting (by rfl)) pa_nil)))))
      (pss_one ps_never)
      pss_nil)), ?_⟩
  obtain ⟨_, rfl, a, r, e, d, rfl, ⟨dx, t, hs⟩, q⟩ := h
  refine ⟨_, rfl, _, _, .ref (He.ga K "Setting"), .ref (He.ga K "Setting"), true, rfl, .own _, selfB_ty T.selfS T.c_Setting hs, ?_, _, rfl, iteF q⟩
  unfold PySem.W.kitOne
  rw [if_pos (by simp)]
abbrev N_Setting_init : List Str := ["self", "rule", "every", "delay"]
theorem sc_Setting_init : FnScope N_Setting_init ["self", "rule", "every", "delay"] (defScope s_Setting_init) := ⟨rfl, rfl, rfl, by decide +kernel, rfl, by decide +kernel, by decide +kernel⟩
theorem ok_Setting (T : Tx K mg w) : Okc P w K mg base "Setting" ["self", "rule", "every", "delay"] 4 (sp4 fun s r e d H Q => ∃ Hb p dx ru ev de, s = .ref p ∧ r = .str (ruS ru) ∧ e = .int ev ∧ d = .int de ∧ (1 ≤ ev ∧ ev ≤ 4) ∧ (0 ≤ de ∧ de ≤ 200) ∧
    Ke Hb H ∧ Hb p = none ∧ H p = some (.ins (He.ga K "Setting") dx []) ∧ ∀ H', Ke Hb H' → SetAt K H' p ru ev de → Q .non H') := by
  have O_check_number := ok_check_number (P := P) (w := w) (base := base) T
  refine mkC T ix_Setting_init rfl T.k_Setting T.g_Setting sc_Setting_init (fun _ _ _ _ _ _ us hl => match us, hl with | [_, _, _, _], _ => rfl) len4 (fun cdv A outer s0 H0 E vs Q hr h => ?_)
  refine ⟨_, (pss_cons (ps_if (PW.pt (pw_or (pt_not (pt_val (pe_callB (isiK K) (by rfl) T.n_isinstance (by decide +kernel) (pa_cons (pv 1) (pa_cons (pe_bltn (v := .ty "str") (by rfl) T.n_str (by decide +kernel) rfl) pa_nil))))) (pw_or1 (pt_cmpR (ninK K) (pv 1) (pe_gref T.g_RULES (by rfl)) (by rfl)))))
      (pss_one ps_never)
      pss_nil)
    (pss_cons (ps_expr (pe_f O_check_number (hr.mono (by decide)) (by rfl) (pa_cons (pv 2) (pa_cons pe_int (pa_cons (pe_gint T.i_MOST_EVERY (by rfl)) pa_nil)))))
    (pss_cons (ps_expr (pe_f O_check_number (hr.mono (by decide)) (by rfl) (pa_cons (pv 3) (pa_cons pe_int (pa_cons (pe_gint T.i_MOST_DELAY (by rfl)) pa_nil)))))
    (pss_cons (ps_fld (pv 0) (pv 1) rfl)
    (pss_cons (ps_fld (pv 0) (pv 2) rfl)
    (pss_cons (ps_fld (pv 0) (pv 3) rfl)
    (pss_one (ps_fld (pv 0) (pe_tup (pa_cons (pv 1) (pa_cons (pv 2) (pa_cons (pv 3) pa_nil)))) rfl)))))))), ?_⟩
  obtain ⟨_, _, _, _, rfl, Hb, p, dx, ru, ev, de, rfl, rfl, rfl, rfl, he, hd, kb, nb, hp, q⟩ := h
  refine ⟨_, rfl, _, _, _, _, _, rfl, .ty _, .base (.str _), kit_ty (r := true) (by decide +kernel), _, rfl, iteF ⟨_, rfl, _, _, rfl, .inr (T.rules _), rfl, rfl, _, rfl, ?_⟩⟩
  rw [if_pos rfl, inV_rules, isRule_ruS]
  refine iteF ⟨_, rfl, _, _, _, rfl, ev, 1, 4, rfl, rfl, rfl, he.1, he.2, _, rfl, _, _, _, rfl, de, 0, 200, rfl, rfl, rfl, hd.1, hd.2, ?_⟩
  refine ⟨_, rfl, _, rfl, p, _, dx, _, rfl, hp, T.c_Setting, T.a_Setting_rule, by show 0 < 1000; decide, ?_⟩
  refine ⟨_, rfl, _, rfl, p, _, dx, _, rfl, upd_same, T.c_Setting, T.a_Setting_every, by show 1 < 1000; decide, ?_⟩
  refine ⟨_, rfl, _, rfl, p, _, dx, _, rfl, upd_same, T.c_Setting, T.a_Setting_delay, by show 2 < 1000; decide, ?_⟩
  refine ⟨_, rfl, _, rfl, _, rfl, by show 3 ≤ sizeLine; decide, fun t nt => ?_⟩
  have npt : p ≠ t := ne_of_none upd_same nt
  refine ⟨_, rfl, p, _, dx, _, rfl, Eq.trans (upd_ne npt) upd_same, T.c_Setting, T.a_Setting_told, by show 3 < 1000; decide, ?_⟩
  rw [upd_upd, upd_upd] at nt ⊢
  have k1 : Ke Hb (upd H0 p (.ins (He.ga K "Setting") dx (putF "delay" (.int de) (putF "every" (.int ev) (putF "rule" (.str (ruS ru)) []))))) := kb.mut nb (noCode_ins hp)
  have k2 := k1.trans (.new (o := .tup [.str (ruS ru), .int ev, .int de]) nt)
  refine q _ (k2.mut nb (noCode_ins (Eq.trans (upd_ne npt) upd_same))) ⟨dx, t, ?_⟩
  rw [upd_same]
  rfl
abbrev N_Line_init : List Str := ["self", "size", "way", "near", "far"]
theorem sc_Line_init : FnScope N_Line_init ["self", "size", "way", "near", "far"] (defScope s_Line_init) := ⟨rfl, rfl, rfl, by decide +kernel, rfl, by decide +kernel, by decide +kernel⟩
theorem ok_Line (T : Tx K mg w) : Okc P w K mg base "Line" ["self", "size", "way", "near", "far"] 4 (sp5 fun s a b c d H Q => ∃ Hb p dx S n f, s = .ref p ∧ a = .int S.size ∧ b = .int S.way ∧ c = .ref n ∧ d = .ref f ∧ Bd S ∧ SetAt K Hb n (S.rule false) (S.every false) (S.delay false) ∧ SetAt K Hb f (S.rule true) (S.every true) (S.delay true) ∧
    Ke Hb H ∧ Hb p = none ∧ H p = some (.ins (He.ga K "Line") dx []) ∧ ∀ H', Ke Hb H' → LineAt K H' p S → Q .non H') := by
  have O_check_number := ok_check_number (P := P) (w := w) (base := base) T
  have O_check_setting := ok_check_setting (P := P) (w := w) (base := base) T
  refine mkC T ix_Line_init rfl T.k_Line T.g_Line sc_Line_init (fun _ _ _ _ _ _ us hl => match us, hl with | [_, _, _, _, _], _ => rfl) len5 (fun cdv A outer s0 H0 E vs Q hr h => ?_)
  refine ⟨_, (pss_cons (ps_expr (pe_f O_check_number (hr.mono (by decide)) (by rfl) (pa_cons (pv 1) (pa_cons pe_int (pa_cons (pe_gint T.i_MOST_SIZE (by rfl)) pa_nil)))))
    (pss_cons (ps_expr (pe_f O_check_number (hr.mono (by decide)) (by rfl) (pa_cons (pv 2) (pa_cons pe_int (pa_cons (pe_gint T.i_MOST_WAY (by rfl)) pa_nil)))))
    (pss_cons (ps_expr (pe_f O_check_setting (hr.mono (by decide)) (by rfl) (pa_cons (pv 3) pa_nil)))
    (pss_cons (ps_expr (pe_f O_check_setting (hr.mono (by decide)) (by rfl) (pa_cons (pv 4) pa_nil)))
    (pss_cons (ps_fld (pv 0) (pv 1) rfl)
    (pss_cons (ps_fld (pv 0) (pv 2) rfl)
    (pss_cons (ps_fld (pv 0) (pv 3) rfl)
    (pss_cons (ps_fld (pv 0) (pv 4) rfl)
    (pss_one (ps_fld (pv 0) (pe_tup (pa_cons (pv 1) (pa_cons (pv 2) (pa_cons (fldK K (pv 3)) (pa_cons (fldK K (pv 4)) pa_nil))))) rfl)))))))))), ?_⟩
  obtain ⟨_, _, _, _, _, rfl, Hb, p, dx, S, n, f, rfl, rfl, rfl, rfl, rfl, B, hn, hf, kb, nb, hp, q⟩ := h
  refine ⟨_, rfl, _, _, _, rfl, S.size, 1, 40, rfl, rfl, rfl, B.size.1, B.size.2, _, rfl, _, _, _, rfl, S.way, 1, 200, rfl, rfl, rfl, B.way.1, B.way.2, ?_⟩
  refine ⟨_, rfl, _, rfl, n, _, _, _, rfl, hn.ke kb, _, rfl, _, rfl, f, _, _, _, rfl, hf.ke kb, ?_⟩
  refine ⟨_, rfl, _, rfl, p, _, dx, _, rfl, hp, T.c_Line, T.a_Line_size, by show 0 < 1000; decide, ?_⟩
  refine ⟨_, rfl, _, rfl, p, _, dx, _, rfl, upd_same, T.c_Line, T.a_Line_way, by show 1 < 1000; decide, ?_⟩
  refine ⟨_, rfl, _, rfl, p, _, dx, _, rfl, upd_same, T.c_Line, T.a_Line_near, by show 2 < 1000; decide, ?_⟩
  refine ⟨_, rfl, _, rfl, p, _, dx, _, rfl, upd_same, T.c_Line, T.a_Line_far, by show 3 < 1000; decide, ?_⟩
  rw [upd_upd, upd_upd, upd_upd]
  have k1 : Ke Hb (upd H0 p (.ins (He.ga K "Line") dx (putF "far" (.ref f) (putF "near" (.ref n) (putF "way" (.int S.way) (putF "size" (.int S.size) [])))))) := kb.mut nb (noCode_ins hp)
  have hp1 : (upd H0 p (.ins (He.ga K "Line") dx (putF "far" (.ref f) (putF "near" (.ref n) (putF "way" (.int S.way) (putF "size" (.int S.size) [])))))) p = some (.ins (He.ga K "Line") dx (putF "far" (.ref f) (putF "near" (.ref n) (putF "way" (.int S.way) (putF "size" (.int S.size) []))))) := upd_same
  generalize upd H0 p (.ins (He.ga K "Line") dx (putF "far" (.ref f) (putF "near" (.ref n) (putF "way" (.int S.way) (putF "size" (.int S.size) []))))) = H1 at k1 hp1 ⊢
  obtain ⟨dn, tn, hn1⟩ := hn.ke k1
  obtain ⟨df, tf, hf1⟩ := hf.ke k1
  refine ⟨_, rfl, _, rfl, _, rfl, n, _, _, _, _, rfl, hn1, T.c_Setting, T.a_Setting_told, rfl, _, rfl, f, _, _, _, _, rfl, hf1, T.c_Setting, T.a_Setting_told, rfl, by show 4 ≤ sizeLine; decide, fun t nt => ?_⟩
  have npt : p ≠ t := ne_of_none hp1 nt
  refine ⟨_, rfl, p, _, dx, _, rfl, Eq.trans (upd_ne npt) hp1, T.c_Line, T.a_Line_told, by show 4 < 1000; decide, ?_⟩
  have k2 := k1.trans (.new (o := .tup [.int S.size, .int S.way, .ref tn, .ref tf]) nt)
  have k3 := k2.mut (o := .ins (He.ga K "Line") dx (putF "told" (.ref t) (putF "far" (.ref f) (putF "near" (.ref n) (putF "way" (.int S.way) (putF "size" (.int S.size) [])))))) nb (noCode_ins (Eq.trans (upd_ne npt) hp1))
  exact q _ k3 ⟨dx, n, f, t, by rw [upd_same]; rfl, hn.ke k3, hf.ke k3⟩
abbrev N_line_of : List Str := ["told", "near", "far"]
theorem sc_line_of : FnScope N_line_of ["told"] (defScope s_line_of) := ⟨rfl, rfl, rfl, by decide +kernel, rfl, by decide +kernel, by decide +kernel⟩
theorem ok_line_of (T : Tx K mg w) : Okf P w K mg base "line_of" ["told"] 6 (sp1 fun v H Q => ∃ S, Dq K H v (lineD S) ∧ Bd S ∧ ∀ p H', H p = none → Ke H H' → LineAt K H' p S → Q (.ref p) H') := by
  have O_Setting := ok_Setting (P := P) (w := w) (base := base) T
  have O_Line := ok_Line (P := P) (w := w) (base := base) T
  refine mkF T ix_line_of rfl T.g_line_of sc_line_of (fun _ _ _ _ _ _ us hl => match us, hl with | [_], _ => rfl) len1 (fun cdv A outer s0 H0 E vs Q hr h => ?_)
  refine ⟨_, (pss_cons (ps_par (i := 1) (j := 2) (by rfl) sc_line_of.nd rfl rfl (by decide) rfl rfl (pa_cons (pe_ix (ixT K) (pv 0) pe_int (fun _ _ => rfl)) (pa_cons (pe_ix (ixT K) (pv 0) pe_int (fun _ _ => rfl)) pa_nil)) (by rfl))
    (pss_one (ps_ret (pe_new O_Line (hr.mono (by decide)) (by rfl) (pa_cons (pe_ix (ixT K) (pv 0) pe_int (fun _ _ => rfl)) (pa_cons (pe_ix (ixT K) (pv 0) pe_int (fun _ _ => rfl)) (pa_cons (pe_new O_Setting (hr.mono (by decide)) (by rfl) (pa_cons (pe_ix (ixT K) (pv 1) pe_int (fun _ _ => rfl)) (pa_cons (pe_ix (ixT K) (pv 1) pe_int (fun _ _ => rfl)) (pa_cons (pe_ix (ixT K) (pv 1) pe_int (fun _ _ => rfl)) pa_nil)))) (pa_cons (pe_new O_Setting (hr.mono (by decide)) (by rfl) (pa_cons (pe_ix (ixT K) (pv 2) pe_int (fun _ _ => rfl)) (pa_cons (pe_ix (ixT K) (pv 2) pe_int (fun _ _ => rfl)) (pa_cons (pe_ix (ixT K) (pv 2) pe_int (fun _ _ => rfl)) pa_nil)))) pa_nil)))))))), ?_⟩
  obtain ⟨v, rfl, S, hd, B, q⟩ := h
  cases hd with
  | @tup a xs _ hs ha =>
  cases ha with | @cons x0 xr _ _ h0 ha =>
  cases ha with | @cons x1 xr _ _ h1 ha =>
  cases ha with | @cons x2 xr _ _ h2 ha =>
  cases ha with | @cons x3 xr _ _ h3 ha =>
  cases ha
  cases h0
  cases h1
  obtain ⟨n, rfl, hn⟩ := wayAt h2
  obtain ⟨f, rfl, hf⟩ := wayAt h3
  refine ⟨_, rfl, a, _, 2, _, rfl, rfl, hs, atI2, _, rfl, a, _, 3, _, rfl, rfl, hs, atI3, _, _, rfl, ?_⟩
  refine ⟨_, rfl, a, _, 0, _, rfl, rfl, hs, atI0, _, rfl, a, _, 1, _, rfl, rfl, hs, atI1, ?_⟩
  refine ⟨_, rfl, n, _, 0, _, rfl, rfl, hn, atI0, _, rfl, n, _, 1, _, rfl, rfl, hn, atI1, _, rfl, n, _, 2, _, rfl, rfl, hn, atI2, fun x dx nx ndx ne => ?_⟩
  refine ⟨_, _, _, _, rfl, H0, x, dx, _, _, _, rfl, rfl, rfl, rfl, B.every false, B.delay false, ke_made nx ndx, nx, upd_same, fun H1 k1 s1 => ⟨rfl, ?_⟩⟩
  have hf1 := k1.sqt hf
  refine ⟨_, rfl, f, _, 0, _, rfl, rfl, hf1, atI0, _, rfl, f, _, 1, _, rfl, rfl, hf1, atI1, _, rfl, f, _, 2, _, rfl, rfl, hf1, atI2, fun y dy ny ndy ne' => ?_⟩
  refine ⟨_, _, _, _, rfl, H1, y, dy, _, _, _, rfl, rfl, rfl, rfl, B.every true, B.delay true, ke_made ny ndy, ny, upd_same, fun H2 k2 s2 => ⟨rfl, ?_⟩⟩
  refine fun p dp np ndp ne'' => ⟨_, _, _, _, _, rfl, H2, p, dp, S, x, y, rfl, rfl, rfl, rfl, rfl, B, s1.ke k2, s2, ke_made np ndp, np, upd_same, fun H3 k3 hl => ⟨rfl, ?_⟩⟩
  exact q p H3 ((k1.trans k2).free np) ((k1.trans k2).trans k3) hl
end
end Sm

/-! The program: steps of programs. -/
namespace Sm
open PySem PySem.Spec PyProof.Rows L2
/-- a step of a program -/
inductive Ps | io (w : Bool) (n : Option Int) | pz (a b : Int)
def Ps.word : Ps → Str
  | .io true _ => "write"
  | .io false _ => "read"
  | .pz _ _ => "pause"
def amtD : Option Int → PyData
  | none => .str "x"
  | some n => .int n
def Ps.d (p : Ps) : PyData := match p with
  | .io _ n => .tuple [.str p.word, amtD n]
  | .pz a b => .tuple [.str p.word, .int a, .int b]
def Ps.isPz : Ps → Bool
  | .io _ _ => false
  | .pz _ _ => true
def Ps.ok : Ps → Prop
  | .io _ none => True
  | .io _ (some n) => 1 ≤ n ∧ n ≤ 60
  | .pz a b => 0 ≤ a ∧ a ≤ b ∧ b ≤ 200
def planD (ps : List Ps) : PyData := .tuple (ps.map Ps.d)
/-- the shortest pauses -/
def leasts (ps : List Ps) : List Int := ps.filterMap fun p => match p with
  | .pz a _ => some a
  | _ => none
def wdS : Wd → Str
  | .wr => "write"
  | .rd => "read"
  | .pa => "pause"
/-- what is to be done for a step -/
def todoOf (x : Int) : Ps → Wd × Int
  | .io true n => (.wr, n.getD x)
  | .io false n => (.rd, n.getD x)
  | .pz a _ => (.pa, a)
def tdD (q : Wd × Int) : PyData := .tuple [.str (wdS q.1), .int q.2]
theorem word_pz (p : Ps) : decide (p.word = "pause") = p.isPz := by
  cases p with
  | io w n => cases w <;> rfl
  | pz a b => rfl
theorem btw_inv {d : PyData} {lo hi : Int} (h : btw d lo hi = true) : ∃ i, d = .int i ∧ lo ≤ i ∧ i ≤ hi := by
  cases d with
  | int i =>
    obtain ⟨h1, h2⟩ := Bool.and_eq_true_iff.mp (show (decide (lo ≤ i) && decide (i ≤ hi)) = true from h)
    exact ⟨i, rfl, of_decide_eq_true h1, of_decide_eq_true h2⟩
  | _ => cases h
theorem stepOk_inv {d : PyData} (h : stepOk d = true) : ∃ p : Ps, p.ok ∧ d = p.d := by
  unfold stepOk at h
  split at h
  · rename_i w a
    obtain ⟨h1, h2⟩ := Bool.and_eq_true_iff.mp h
    have hw : ∃ b : Bool, w = (if b = true then "write" else "read") := by
      rcases Bool.or_eq_true_iff.mp h1 with h | h
      · exact ⟨true, of_decide_eq_true h⟩
      · exact ⟨false, of_decide_eq_true h⟩
    obtain ⟨b, rfl⟩ := hw
    rcases Bool.or_eq_true_iff.mp (show (btw a 1 60 || _) = true from h2) with h | h
    · obtain ⟨i, rfl, h1, h2⟩ := btw_inv h
      exact ⟨.io b (some i), ⟨h1, h2⟩, by cases b <;> rfl⟩
    · cases a with
      | str s =>
        have e : s = "x" := of_decide_eq_true h
        subst e
        exact ⟨.io b none, trivial, by cases b <;> rfl⟩
      | _ => cases h
  · rename_i w a b
    obtain ⟨h1, h2⟩ := Bool.and_eq_true_iff.mp h
    have hw : w = "pause" := of_decide_eq_true h1
    subst hw
    cases a with
    | int i =>
      obtain ⟨h3, h4⟩ := Bool.and_eq_true_iff.mp (show (btw (.int i) 0 200 && btw b i 200) = true from h2)
      obtain ⟨j, e, h5, h6⟩ := btw_inv h3
      cases e
      obtain ⟨k, rfl, h7, h8⟩ := btw_inv h4
      exact ⟨.pz i k, ⟨h5, h7, h8⟩, rfl⟩
    | _ => cases h2
  · cases h
theorem planOk_inv {d : PyData} (h : planOk d = true) : ∃ ps : List Ps, d = planD ps ∧ ps.length ≤ 6 ∧ ∀ p ∈ ps, p.ok := by
  unfold planOk at h
  split at h
  · rename_i ds
    obtain ⟨h1, h2⟩ := Bool.and_eq_true_iff.mp h
    have h1 := of_decide_eq_true h1
    have all : ∀ ds : List PyData, ds.all stepOk = true → ∃ ps : List Ps, ds = ps.map Ps.d ∧ ∀ p ∈ ps, p.ok := by
      intro ds
      induction ds with
      | nil => exact fun _ => ⟨[], rfl, fun _ h => nomatch h⟩
      | cons d r ih =>
        intro h
        rw [List.all_cons] at h
        obtain ⟨h1, h2⟩ := Bool.and_eq_true_iff.mp h
        obtain ⟨p, hp, rfl⟩ := stepOk_inv h1
        obtain ⟨ps, rfl, hps⟩ := ih h2
        exact ⟨p :: ps, rfl, fun q hq => (List.mem_cons.mp hq).elim (fun e => e ▸ hp) (hps q)⟩
    obtain ⟨ps, rfl, hps⟩ := all ds h2
    exact ⟨ps, rfl, by simpa using h1, hps⟩
  · cases h
section
variable {K : PySem.W.Frag} {H : Hp}
/-- a step in the heap: its tuple, its word first -/
theorem Dq.step {v : V} {p : Ps} (h : Dq K H v p.d) : ∃ a y r, v = .ref a ∧ SqT K H a (.str p.word :: y :: r) ∧ (match p with | .io _ n => y = (match n with | none => V.str "x" | some m => V.int m) | .pz a _ => y = .int a) := by
  cases p with
  | io b n =>
    have h : Dq K H v (.tuple [.str (Ps.word (.io b n)), amtD n]) := h
    cases h with
    | @tup a xs _ hs ha =>
    cases ha with | @cons x0 xr _ _ h0 ha =>
    cases ha with | @cons x1 xr _ _ h1 ha =>
    cases ha
    cases h0
    cases n with
    | none => cases h1; exact ⟨a, _, _, rfl, hs, rfl⟩
    | some m => cases h1; exact ⟨a, _, _, rfl, hs, rfl⟩
  | pz i j =>
    have h : Dq K H v (.tuple [.str (Ps.word (.pz i j)), .int i, .int j]) := h
    cases h with
    | @tup a xs _ hs ha =>
    cases ha with | @cons x0 xr _ _ h0 ha =>
    cases ha with | @cons x1 xr _ _ h1 ha =>
    cases ha with | @cons x2 xr _ _ h2 ha =>
    cases ha
    cases h0
    cases h1
    cases h2
    exact ⟨a, _, _, rfl, hs, rfl⟩
theorem Dq.plan {v : V} {ps : List Ps} (h : Dq K H v (planD ps)) : ∃ a xs, v = .ref a ∧ SqT K H a xs ∧ DqAll K H xs (ps.map Ps.d) := by
  have h : Dq K H v (.tuple (ps.map Ps.d)) := h
  cases h with
  | @tup a xs _ hs ha => exact ⟨a, xs, rfl, hs, ha⟩
end
/-- the values whose step is a pause -/
def pzV : List V → List Ps → List V
  | v :: vs, p :: ps => if p.isPz = true then v :: pzV vs ps else pzV vs ps
  | _, _ => []
theorem pzV_take : ∀ (vs : List V) (ps : List Ps) (i : Nat) (v : V) (p : Ps), vs[i]? = some v → ps[i]? = some p → pzV (vs.take (i + 1)) (ps.take (i + 1)) = pzV (vs.take i) (ps.take i) ++ (if p.isPz = true then [v] else [])
  | [], _, _, _, _, h, _ => by simp at h
  | _ :: _, [], _, _, _, _, h => by simp at h
  | v :: vs, p :: ps, 0, _, _, h1, h2 => by
    cases h1; cases h2
    show (if p.isPz = true then v :: pzV (vs.take 0) (ps.take 0) else pzV (vs.take 0) (ps.take 0)) = [] ++ _
    cases p.isPz <;> rfl
  | v :: vs, p :: ps, i + 1, u, q, h1, h2 => by
    have ih := pzV_take vs ps i u q h1 h2
    show (if p.isPz = true then v :: pzV (vs.take (i + 1)) (ps.take (i + 1)) else pzV (vs.take (i + 1)) (ps.take (i + 1))) = (if p.isPz = true then v :: pzV (vs.take i) (ps.take i) else pzV (vs.take i) (ps.take i)) ++ _
    rw [ih]
    cases p.isPz <;> simp
theorem pzV_len : ∀ (vs : List V) (ps : List Ps), (pzV vs ps).length ≤ vs.length
  | [], _ => by simp [pzV]
  | _ :: _, [] => by simp [pzV]
  | v :: vs, p :: ps => by
    have := pzV_len vs ps
    unfold pzV
    split
    · simp only [List.length_cons]; omega
    · simp only [List.length_cons]; omega
theorem pzV_dq {K : PySem.W.Frag} {H : Hp} : ∀ {vs : List V} {ps : List Ps}, DqAll K H vs (ps.map Ps.d) → DqAll K H (pzV vs ps) ((ps.filter Ps.isPz).map Ps.d)
  | [], [], _ => .nil
  | v :: vs, p :: ps, h => by
    cases h with
    | cons h1 h2 =>
    have ih := pzV_dq h2
    unfold pzV
    cases e : p.isPz with
    | true =>
      rw [List.filter_cons_of_pos e]
      exact .cons h1 ih
    | false =>
      rw [List.filter_cons_of_neg (by rw [e]; decide)]
      exact ih
section
variable {P : Program} {w : World} {K : PySem.W.Frag} {mg : Str → Option Value} {base : Heap}
abbrev N_pause_steps : List Str := ["one", "other", "step"]
theorem sc_pause_steps : FnScope N_pause_steps ["one", "other"] (defScope s_pause_steps) := ⟨rfl, rfl, rfl, by decide +kernel, rfl, by decide +kernel, by decide +kernel⟩
theorem ok_pause_steps (T : Tx K mg w) : Okf P w K mg base "pause_steps" ["one", "other"] 1 (sp2 fun a b H Q => ∃ ps qs, Dq K H a (planD ps) ∧ Dq K H b (planD qs) ∧ ps.length ≤ 6 ∧ qs.length ≤ 6 ∧
    ∀ D H' vs, H D = none → Ke H H' → H' D = some (.lst vs) → DqAll K H' vs (((ps ++ qs).filter Ps.isPz).map Ps.d) → Q (.ref D) H') := by
  refine mkF T ix_pause_steps rfl T.g_pause_steps sc_pause_steps (fun _ _ _ _ _ _ us hl => match us, hl with | [_, _], _ => rfl) len2 (fun cdv A outer s0 H0 E vs Q hr h => ?_)
  refine ⟨_, (pss_one (ps_ret (pe_lc (own := [(("step" : Str), 2)]) (by rfl) sc_pause_steps.nd (piT K (pe_tup (StX.pa_star (pv 0) (StX.pa_star (pv 1) pa_nil)))) (blkOk_by (own := [(("step" : Str), 2)]) (N := N_pause_steps) (sc := defScope s_pause_steps) (by decide +kernel)) (fun _ _ _ _ _ => pg_name (i := 2) sc_pause_steps.nd rfl (Or.inl rfl)) (fun _ _ _ _ _ => pts_one (pt_cmpR op_eq (pe_ix (ixT K) (pv 2) pe_int (fun _ _ => rfl)) pe_str (nomark _))) (fun _ _ _ _ _ => (pv 2))))), ?_⟩
  obtain ⟨_, _, rfl, ps, qs, h1, h2, l1, l2, q⟩ := h
  obtain ⟨a, xs, rfl, ha, hxs⟩ := h1.plan
  obtain ⟨b, zs, rfl, hb, hzs⟩ := h2.plan
  have hl1 : xs.length = ps.length := by rw [hxs.length, List.length_map]
  have hl2 : zs.length = qs.length := by rw [hzs.length, List.length_map]
  refine ⟨_, rfl, a, xs, rfl, .inl ha, _, rfl, b, zs, rfl, .inl hb, ?_, fun t nt => ?_⟩
  · rw [List.append_nil, List.length_append]
    exact Nat.le_trans (show xs.length + zs.length ≤ 12 by omega) (by decide)
  have kt : Ke H0 (upd H0 t (.tup (xs ++ (zs ++ [])))) := .new nt
  have ht : SqT K (upd H0 t (.tup (xs ++ (zs ++ [])))) t (xs ++ zs) := SqT.of (by rw [upd_same, List.append_nil])
  have hall : DqAll K (upd H0 t (.tup (xs ++ (zs ++ [])))) (xs ++ zs) ((ps ++ qs).map Ps.d) := by
    rw [List.map_append]
    exact (hxs.ke kt).append (hzs.ke kt)
  generalize upd H0 t (.tup (xs ++ (zs ++ []))) = H1 at kt ht hall ⊢
  have hlen : (xs ++ zs).length = (ps ++ qs).length := by rw [hall.length, List.length_map]
  refine ⟨t, rfl, ⟨_, ht⟩, lc_t (fun i => pzV ((xs ++ zs).take i) ((ps ++ qs).take i)) ht rfl (fun i hi => ?_) (fun i x H' hx kH Yes No yes no => ?_) (fun D' H' hD kH hE => ?_)⟩
  · have := pzV_len ((xs ++ zs).take i) ((ps ++ qs).take i)
    rw [List.length_take, List.length_append] at this
    exact Nat.lt_of_le_of_lt (show _ ≤ 12 by omega) (by decide)
  · obtain ⟨d, hd, hq⟩ := hall.getV hx
    rw [List.getElem?_map] at hd
    obtain ⟨p, hp, rfl⟩ := Option.map_eq_some_iff.mp hd
    obtain ⟨u, y, r, rfl, hu, _⟩ := (hq.ke kH).step
    refine ⟨rfl, _, rfl, u, _, 0, _, rfl, rfl, hu, atI0, rfl, _, rfl, ?_⟩
    have e := pzV_take _ _ i _ p hx hp
    rw [dec_str', word_pz]
    cases z : p.isPz with
    | true =>
      rw [z] at e
      exact iteT ⟨_, rfl, yes _ _ (.refl _) e⟩
    | false =>
      rw [z] at e
      exact iteF (no _ (.refl _) (by rw [e]; exact List.append_nil _))
  · rw [List.take_length, hlen, List.take_length] at hE
    exact q D' H' _ (kt.free hD) (kt.trans kH) hE (pzV_dq (hall.ke kH))
theorem leasts_filter (ps : List Ps) : leasts (ps.filter Ps.isPz) = leasts ps := by
  induction ps with
  | nil => rfl
  | cons p r ih =>
    cases p with
    | io b n =>
      rw [List.filter_cons_of_neg (by simp [Ps.isPz])]
      exact ih
    | pz a b =>
      rw [List.filter_cons_of_pos rfl]
      exact congrArg (List.cons a) ih
theorem leasts_append (ps qs : List Ps) : leasts (ps ++ qs) = leasts ps ++ leasts qs := List.filterMap_append
theorem leasts_len (ps : List Ps) : (leasts ps).length ≤ ps.length := List.length_filterMap_le _ _
abbrev N_shortest : List Str := ["one", "other", "step"]
theorem sc_shortest : FnScope N_shortest ["one", "other"] (defScope s_shortest) := ⟨rfl, rfl, rfl, by decide +kernel, rfl, by decide +kernel, by decide +kernel⟩
theorem ok_shortest (T : Tx K mg w) : Okf P w K mg base "shortest" ["one", "other"] 2 (sp2 fun a b H Q => ∃ ps qs, Dq K H a (planD ps) ∧ Dq K H b (planD qs) ∧ ps.length ≤ 6 ∧ qs.length ≤ 6 ∧
    ∀ D H', H D = none → Ke H H' → H' D = some (.tup ((leasts ps ++ leasts qs).map V.int)) → Q (.ref D) H') := by
  have O_pause_steps := ok_pause_steps (P := P) (w := w) (base := base) T
  refine mkF T ix_shortest rfl T.g_shortest sc_shortest (fun _ _ _ _ _ _ us hl => match us, hl with | [_, _], _ => rfl) len2 (fun cdv A outer s0 H0 E vs Q hr h => ?_)
  refine ⟨_, (pss_one (ps_ret (pe_callTy call_tuple_of (by rfl) T.n_tuple (by decide +kernel) (pa_cons (pe_lc (own := [(("step" : Str), 2)]) (by rfl) sc_shortest.nd (piL K (pe_f O_pause_steps (hr.mono (by decide)) (by rfl) (pa_cons (pv 0) (pa_cons (pv 1) pa_nil)))) (blkOk_by (own := [(("step" : Str), 2)]) (N := N_shortest) (sc := defScope s_shortest) (by decide +kernel)) (fun _ _ _ _ _ => pg_name (i := 2) sc_shortest.nd rfl (Or.inl rfl)) (fun _ _ _ _ _ => pts_nil) (fun _ _ _ _ _ => (pe_ix (ixT K) (pv 2) pe_int (fun _ _ => rfl)))) pa_nil)))), ?_⟩
  obtain ⟨_, _, rfl, ps, qs, h1, h2, l1, l2, q⟩ := h
  refine ⟨_, rfl, _, rfl, _, _, rfl, ps, qs, h1, h2, l1, l2, fun D H1 vs nD k1 hD hv => ?_⟩
  have hll : vs.length ≤ 12 := by
    rw [hv.length, List.length_map]
    have := List.length_filter_le Ps.isPz (ps ++ qs)
    rw [List.length_append] at this
    omega
  refine ⟨D, rfl, ⟨_, SqL.of hD⟩, lc_l (fun i => (leasts (((ps ++ qs).filter Ps.isPz).take i)).map V.int) (SqL.of hD) rfl (fun i hi => ?_) (fun i x H' hx kH Yes No yes no => ?_) (fun D' H' hD' kH hE => ?_)⟩
  · rw [List.length_map]
    have := leasts_len (((ps ++ qs).filter Ps.isPz).take i)
    rw [List.length_take] at this
    exact Nat.lt_of_le_of_lt (show _ ≤ 12 by omega) (by decide)
  · obtain ⟨d, hd, hq⟩ := hv.getV hx
    rw [List.getElem?_map] at hd
    obtain ⟨p, hp, rfl⟩ := Option.map_eq_some_iff.mp hd
    have hz : p.isPz = true := (List.mem_filter.mp (List.mem_of_getElem? hp)).2
    obtain ⟨u, y, r, rfl, hu, hy⟩ := (hq.ke kH).step
    cases p with
    | io b n => cases hz
    | pz i1 i2 =>
      have hy : y = .int i1 := hy
      subst hy
      refine ⟨rfl, _, rfl, u, _, 1, _, rfl, rfl, hu, atI1, yes _ _ (.refl _) ?_⟩
      rw [take_snoc hp, leasts_append, List.map_append]
      rfl
  · refine ⟨D', _, rfl, .inl ⟨SqL.of hE, fun l hl => ?_⟩⟩
    have e : (leasts (((ps ++ qs).filter Ps.isPz).take vs.length)).map V.int = (leasts ps ++ leasts qs).map V.int := by
      have hl : vs.length = ((ps ++ qs).filter Ps.isPz).length := by rw [hv.length, List.length_map]
      rw [hl, List.take_length, leasts_filter, leasts_append]
    rw [e]
    exact q l _ ((k1.trans kH).free hl) ((k1.trans kH).trans (.new hl)) upd_same
end
end Sm

/-! The program: the steps as pairs. -/
namespace Sm
open PySem PySem.Spec PyProof.Rows L2
def amtV (n : Option Int) : V := match n with
  | none => .str "x"
  | some m => .int m
theorem leasts_cons_pz (a b : Int) (r : List Ps) : leasts (.pz a b :: r) = a :: leasts r := rfl
theorem leasts_cons_io (w : Bool) (n : Option Int) (r : List Ps) : leasts (.io w n :: r) = leasts r := rfl
theorem drop_at {α : Type} {l : List α} {i : Nat} {x : α} (h : l[i]? = some x) : l.drop i = x :: l.drop (i + 1) := by
  obtain ⟨h1, h2⟩ := List.getElem?_eq_some_iff.mp h
  rw [List.drop_eq_getElem_cons h1, h2]
/-- tuples stay -/
def Tk (H H' : Hp) : Prop := ∀ a xs, H a = some (.tup xs) → H' a = some (.tup xs)
theorem Tk.refl (H : Hp) : Tk H H := fun _ _ h => h
theorem Tk.trans {H H1 H2 : Hp} (a : Tk H H1) (b : Tk H1 H2) : Tk H H2 := fun c xs h => b c xs (a c xs h)
theorem Ke.tk {H H' : Hp} (e : Ke H H') : Tk H H' := fun _ _ h => e.tup h
theorem Tk.mut {H : Hp} {p : Addr} {o : HO} (h : ∀ xs, H p ≠ some (.tup xs)) : Tk H (upd H p o) := fun a xs e => by
  rw [upd_ne (fun z => h xs (by rw [← z]; exact e))]
  exact e
theorem notTup_lst {H : Hp} {p : Addr} {ys : List V} (h : H p = some (.lst ys)) : ∀ xs, H p ≠ some (.tup xs) := fun xs z => by rw [h] at z; cases z
theorem notTup_ins {H : Hp} {p C dx : Addr} {fs : List (Str × V)} (h : H p = some (.ins C dx fs)) : ∀ xs, H p ≠ some (.tup xs) := fun xs z => by rw [h] at z; cases z
theorem notTup_dK {H : Hp} {p : Addr} {fs : List (Key × V)} (h : H p = some (.dK fs)) : ∀ xs, H p ≠ some (.tup xs) := fun xs z => by rw [h] at z; cases z
theorem notTup_none {H : Hp} {p : Addr} (h : H p = none) : ∀ xs, H p ≠ some (.tup xs) := fun xs z => by rw [h] at z; cases z
/-- the values that tell what is to be done -/
def TodoV (H : Hp) (vs : List V) (qs : List (Wd × Int)) : Prop := Paired (fun v (q : Wd × Int) => ∃ a, v = V.ref a ∧ H a = some (.tup [.str (wdS q.1), .int q.2])) vs qs
theorem TodoV.tk {H H' : Hp} {vs : List V} {qs : List (Wd × Int)} (h : TodoV H vs qs) (t : Tk H H') : TodoV H' vs qs := Paired.mapP h fun _ _ ⟨a, e, q⟩ => ⟨a, e, t _ _ q⟩
theorem TodoV.snoc {H : Hp} : ∀ {vs : List V} {qs : List (Wd × Int)} {a : Addr} {q : Wd × Int}, TodoV H vs qs → H a = some (.tup [.str (wdS q.1), .int q.2]) → TodoV H (vs ++ [.ref a]) (qs ++ [q])
  | _, _, a, _, .nil, h => .cons ⟨a, rfl, h⟩ .nil
  | _, _, _, _, .cons r t, h => .cons r (TodoV.snoc t h)
section
variable {P : Program} {w : World} {K : PySem.W.Frag} {mg : Str → Option Value} {base : Heap}
abbrev N_plain_steps : List Str := ["program", "x", "ticks", "found", "left", "step"]
theorem sc_plain_steps : FnScope N_plain_steps ["program", "x", "ticks"] (defScope s_plain_steps) := ⟨rfl, rfl, rfl, by decide +kernel, rfl, by decide +kernel, by decide +kernel⟩
theorem ok_plain_steps (T : Tx K mg w) : Okf P w K mg base "plain_steps" ["program", "x", "ticks"] 1 (sp3 fun a b c H Q => ∃ ps x t rest, Dq K H a (planD ps) ∧ ps.length ≤ 6 ∧ b = .int x ∧ c = .ref t ∧ rest.length ≤ 12 ∧
    (SqL K H t ((leasts ps ++ rest).map V.int) ∨ SqT K H t ((leasts ps ++ rest).map V.int)) ∧
    ∀ p f l fv H', H p = none → H f = none → H l = none → Ke H H' → H' p = some (.tup [.ref f, .ref l]) → H' f = some (.lst fv) → TodoV H' fv (ps.map (todoOf x)) → H' l = some (.lst (rest.map V.int)) → Q (.ref p) H') := by
  refine mkF T ix_plain_steps rfl T.g_plain_steps sc_plain_steps (fun _ _ _ _ _ _ us hl => match us, hl with | [_, _, _], _ => rfl) len3 (fun cdv A outer s0 H0 E vs Q hr h => ?_)
  refine ⟨_, (pss_cons (ps_par (i := 3) (j := 4) (by rfl) sc_plain_steps.nd rfl rfl (by decide) rfl rfl (pa_cons (pe_lst pa_nil) (pa_cons (pe_callTy call_list_of (by rfl) T.n_list (by decide +kernel) (pa_cons (pv 2) pa_nil)) pa_nil)) (by rfl))
    (pss_cons (ps_for PassesOwn.never rfl (piT K (pv 0)) (pg_name (i := 5) sc_plain_steps.nd rfl (Or.inl rfl))
      (pss_one (ps_if (pt_cmpR op_eq (pe_ix (ixT K) (pv 5) pe_int (fun _ _ => rfl)) pe_str (nomark _))
      (pss_cons (ps_expr (pe_bm PySem.F.plainAttrs_list PySem.F.slot_list_append PySem.F.type_list_append mt_append (pv 3) (pa_cons (pe_tup (pa_cons pe_str (pa_cons (pe_ix (ixL K) (pv 4) pe_int (fun _ _ => rfl)) pa_nil))) pa_nil)))
    (pss_one (ps_set (i := 4) sc_plain_steps.nd rfl (Or.inl rfl) (pe_slice (slL K) (pv 4) (po_some pe_int) po_none))))
      (pss_one (ps_expr (pe_bm PySem.F.plainAttrs_list PySem.F.slot_list_append PySem.F.type_list_append mt_append (pv 3) (pa_cons (pe_tup (pa_cons (pe_ix (ixT K) (pv 5) pe_int (fun _ _ => rfl)) (pa_cons (pe_ifExp (pt_cmpR op_eq (pe_ix (ixT K) (pv 5) pe_int (fun _ _ => rfl)) (pe_gstr T.s_LETTER (by rfl)) (nomark _)) (pv 1) (pe_ix (ixT K) (pv 5) pe_int (fun _ _ => rfl))) pa_nil))) pa_nil)))))))
    (pss_one (ps_ret (pe_tup (pa_cons (pv 3) (pa_cons (pv 4) pa_nil))))))), ?_⟩
  obtain ⟨_, _, _, rfl, ps, x, t, rest, hd, hl6, rfl, rfl, hr12, ht, q⟩ := h
  obtain ⟨a, xs, rfl, ha, hxs⟩ := hd.plan
  have hlen : xs.length = ps.length := by rw [hxs.length, List.length_map]
  refine ⟨Nat.zero_le _, fun f nf => ?_⟩
  have kf : Ke H0 (upd H0 f (.lst [])) := .new nf
  refine ⟨_, rfl, t, _, rfl, ht.imp kf.sql kf.sqt, fun l nl => ⟨_, _, rfl, ?_⟩⟩
  have hlf : l ≠ f := fun e => by rw [e, upd_same] at nl; cases nl
  have kl : Ke H0 (upd (upd H0 f (.lst [])) l (.lst ((leasts ps ++ rest).map V.int))) := kf.trans (.new nl)
  have nl0 : H0 l = none := kf.free nl
  refine ⟨_, rfl, a, rfl, ⟨_, kl.sqt ha⟩, for_tup (K := K) (xs := xs) (fun i σ H => ∃ l' st fv, σ = [some (.ref a), some (.int x), some (.ref t), some (.ref f), some (.ref l'), st] ∧ Ke H0 H ∧ l' ≠ f ∧ H0 l' = none ∧ H f = some (.lst fv) ∧
    TodoV H fv ((ps.take i).map (todoOf x)) ∧ H l' = some (.lst ((leasts (ps.drop i) ++ rest).map V.int))) ⟨l, _, [], rfl, kl, hlf, nl0, ?_, .nil, upd_same⟩ (fun i σ H _ p => ?_) (fun i v σ H hi p => ?_) (fun σ H p => ?_)⟩
  · rw [upd_ne hlf.symm, upd_same]
  · obtain ⟨l', st, fv, rfl, k, _⟩ := p
    exact k.sqt ha
  · obtain ⟨l', st, fv, rfl, k, nlf, nl', hf, hfv, hl'⟩ := p
    obtain ⟨d, hd, hq⟩ := hxs.getV hi
    rw [List.getElem?_map] at hd
    obtain ⟨p, hp, rfl⟩ := Option.map_eq_some_iff.mp hd
    obtain ⟨u, y, r, rfl, hu, hy⟩ := (hq.ke k).step
    have ed := drop_at hp
    have hfl : fv.length ≤ 6 := by
      rw [Paired.length hfv, List.length_map, List.length_take]
      omega
    have hfl2 : fv.length < sizeLine := Nat.lt_of_le_of_lt hfl (by decide)
    have et : (ps.take (i + 1)).map (todoOf x) = (ps.take i).map (todoOf x) ++ [todoOf x p] := by rw [take_snoc hp, List.map_append]; rfl
    have kf1 : ∀ {H1 : Hp} {o : HO}, Ke H H1 → Ke H0 (upd H1 f o) := fun {H1 o} k1 => (k.trans k1).mut nf (noCode_lst (k1.lst hf))
    cases p with
    | io b n =>
      have hy : y = amtV n := by cases n <;> exact hy
      subst hy
      have enp : decide (V.str (Ps.word (.io b n)) = V.str "pause") = false := by rw [dec_str', word_pz]; rfl
      refine ⟨_, rfl, u, _, 0, _, rfl, rfl, hu, atI0, rfl, _, rfl, ?_⟩
      rw [enp]
      have ew : Ps.word (.io b n) = wdS (todoOf x (.io b n)).1 := by cases b <;> rfl
      have ex2 : (todoOf x (.io b n)).2 = n.getD x := by cases b <;> rfl
      have tail : ∀ v2 : V, v2 = .int (n.getD x) → ∀ u2, H u2 = none →
          ∃ l xs y, V.ref f = .ref l ∧ [V.ref u2] = [y] ∧ (upd H u2 (.tup [.str (Ps.word (.io b n)), v2])) l = some (.lst xs) ∧ xs.length < sizeLine ∧
            ∃ l'_1 st_1 fv, [some (V.ref a), some (V.int x), some (V.ref t), some (V.ref f), some (V.ref l'), some (V.ref u)] = [some (.ref a), some (.int x), some (.ref t), some (.ref f), some (.ref l'_1), st_1] ∧ Ke H0 (upd (upd H u2 (.tup [.str (Ps.word (.io b n)), v2])) l (.lst (xs ++ [y]))) ∧ l'_1 ≠ f ∧ H0 l'_1 = none ∧
              (upd (upd H u2 (.tup [.str (Ps.word (.io b n)), v2])) l (.lst (xs ++ [y]))) f = some (.lst fv) ∧ TodoV (upd (upd H u2 (.tup [.str (Ps.word (.io b n)), v2])) l (.lst (xs ++ [y]))) fv ((ps.take (i + 1)).map (todoOf x)) ∧
              (upd (upd H u2 (.tup [.str (Ps.word (.io b n)), v2])) l (.lst (xs ++ [y]))) l'_1 = some (.lst ((leasts (ps.drop (i + 1)) ++ rest).map V.int)) := by
        intro v2 e2 u2 n2
        subst e2
        have k2 : Ke H (upd H u2 (.tup [.str (Ps.word (.io b n)), .int (n.getD x)])) := .new n2
        have h2 := k2.lst hf
        have hT : TodoV (upd (upd H u2 (.tup [.str (Ps.word (.io b n)), .int (n.getD x)])) f (.lst (fv ++ [.ref u2]))) (fv ++ [.ref u2]) ((ps.take (i + 1)).map (todoOf x)) := by
          rw [et]
          refine (hfv.tk (k2.tk.trans (Tk.mut (notTup_lst h2)))).snoc ?_
          rw [upd_ne (ne_of_none hf n2).symm, upd_same, ew, ex2]
        refine ⟨f, fv, _, rfl, rfl, h2, hfl2, l', _, _, rfl, kf1 k2, nlf, nl', upd_same, hT, ?_⟩
        rw [upd_ne nlf, k2.lst hl', ed]
        rfl
      refine iteF ⟨_, rfl, .inl ⟨rfl, _, SqL.of hf⟩, _, rfl, u, _, 0, _, rfl, rfl, hu, atI0, _, rfl, u, _, 1, _, rfl, rfl, hu, atI1, ?_⟩
      cases n with
      | none => exact ⟨rfl, _, rfl, iteT ⟨_, rfl, by show 2 ≤ sizeLine; decide, fun u2 n2 => tail _ rfl u2 n2⟩⟩
      | some m => exact ⟨rfl, _, rfl, iteF ⟨_, rfl, u, _, 1, _, rfl, rfl, hu, atI1, by show 2 ≤ sizeLine; decide, fun u2 n2 => tail _ rfl u2 n2⟩⟩
    | pz i1 i2 =>
      have hy : y = .int i1 := hy
      subst hy
      refine ⟨_, rfl, u, _, 0, _, rfl, rfl, hu, atI0, rfl, _, rfl, iteT ?_⟩
      have el : (leasts (ps.drop i) ++ rest).map V.int = V.int i1 :: (leasts (ps.drop (i + 1)) ++ rest).map V.int := by rw [ed]; rfl
      rw [el] at hl'
      refine ⟨_, rfl, .inl ⟨rfl, _, SqL.of hf⟩, _, rfl, l', _, 0, _, rfl, rfl, SqL.of hl', atI0, by show 2 ≤ sizeLine; decide, fun u2 n2 => ?_⟩
      have k2 : Ke H (upd H u2 (.tup [.str "pause", .int i1])) := .new n2
      have h2 := k2.lst hf
      refine ⟨f, fv, _, rfl, rfl, h2, hfl2, ?_⟩
      have hT : TodoV (upd (upd H u2 (.tup [.str "pause", .int i1])) f (.lst (fv ++ [.ref u2]))) (fv ++ [.ref u2]) ((ps.take (i + 1)).map (todoOf x)) := by
        rw [et]
        refine (hfv.tk (k2.tk.trans (Tk.mut (notTup_lst h2)))).snoc ?_
        rw [upd_ne (ne_of_none hf n2).symm, upd_same]
        rfl
      have k3 := kf1 (o := .lst (fv ++ [.ref u2])) k2
      have hl2 : (upd (upd H u2 (.tup [.str "pause", .int i1])) f (.lst (fv ++ [.ref u2]))) l' = some (.lst (V.int i1 :: (leasts (ps.drop (i + 1)) ++ rest).map V.int)) := by
        rw [upd_ne nlf]
        exact k2.lst hl'
      have hf2 : (upd (upd H u2 (.tup [.str "pause", .int i1])) f (.lst (fv ++ [.ref u2]))) f = some (.lst (fv ++ [.ref u2])) := upd_same
      generalize upd (upd H u2 (.tup [.str "pause", .int i1])) f (.lst (fv ++ [.ref u2])) = H3 at hT k3 hl2 hf2 ⊢
      refine ⟨_, rfl, 1, rfl, l', _, rfl, SqL.of hl2, fun l2 n2' => ?_⟩
      have k4 : Ke H3 (upd H3 l2 (.lst (cutV (V.int i1 :: (leasts (ps.drop (i + 1)) ++ rest).map V.int) (some 1) none))) := .new n2'
      refine ⟨l2, _, _, rfl, k3.trans k4, fun e => ?_, k3.free n2', k4.lst hf2, hT.tk k4.tk, by rw [upd_same, cut1]⟩
      rw [e, hf2] at n2'
      cases n2'
  · obtain ⟨l', st, fv, rfl, k, nlf, nl', hf, hfv, hl'⟩ := p
    refine ⟨_, rfl, _, rfl, by show 2 ≤ sizeLine; decide, fun p np => ?_⟩
    have kp : Ke H (upd H p (.tup [.ref f, .ref l'])) := .new np
    rw [hlen, List.take_length] at hfv
    rw [hlen, List.drop_length] at hl'
    exact q p f l' fv _ (k.free np) nf nl' (k.trans kp) upd_same (kp.lst hf) (hfv.tk kp.tk) (kp.lst hl')
end
end Sm

/-! The flow and the courses in the heap. -/
namespace Sm
open PySem PySem.Spec PyProof.Rows L2
def kI (k : Bool) : Int := if k = true then 1 else 0
def kN (k : Bool) : Nat := if k = true then 1 else 0
def two2 {α : Type} (f : Bool → α) : List α := [f false, f true]
def setB {α : Type} (f : Bool → α) (k : Bool) (v : α) : Bool → α := fun j => if j = k then v else f j
theorem setB_same {α : Type} {f : Bool → α} {k : Bool} {v : α} : setB f k v k = v := if_pos rfl
theorem setB_self {α : Type} {f : Bool → α} {k : Bool} : setB f k (f k) = f := by
  funext j
  unfold setB
  split
  · rename_i h; rw [h]
  · rfl
theorem setB_setB {α : Type} {f : Bool → α} {k : Bool} {v u : α} : setB (setB f k v) k u = setB f k u := by
  funext j
  unfold setB
  split <;> rfl
theorem atK (f : Bool → V) (k : Bool) : atI (two2 f) (kI k) = some (f k) := by cases k <;> rfl
theorem ixK (f : Bool → V) (k : Bool) : ixN (two2 f).length (kI k) = some (kN k) := by cases k <;> rfl
theorem set_two (f : Bool → V) (k : Bool) (v : V) : (two2 f).set (kN k) v = two2 (setB f k v) := by cases k <;> rfl
def oV : Option Int → V
  | none => .non
  | some t => .int t
theorem set_int (f : Bool → Int) (k : Bool) (v : Int) : (two2 fun j => V.int (f j)).set (kN k) (.int v) = two2 fun j => V.int (setB f k v j) := by cases k <;> rfl
theorem set_oV (f : Bool → Option Int) (k : Bool) (v : Option Int) : (two2 fun j => oV (f j)).set (kN k) (oV v) = two2 fun j => oV (setB f k v j) := by cases k <;> rfl
theorem kN_int (k : Bool) : V.int (1 - kI k) = V.int (kI (!k)) := by cases k <;> rfl
/-- what stays: where the parts that never change lie -/
structure FC where
  dx : Addr
  l : Addr
  n : Addr
  f : Addr
  se : Addr
  cdx : Bool → Addr
  q : Bool → Addr
  bg : Bool → Addr
  all : Bool → List (Wd × Int)
  fv : Bool → List V
/-- what changes -/
structure FD where
  tick : Int
  s : Bool → List V
  out : Bool → Int
  known : Bool → Int
  small : Bool → Int
  come : Bool → Int
  taken : Bool → Int
  full : Bool → Int
  long : Bool → Int
  first : Bool → Option Int
  fl : Addr
  flv : List V
  lgv : List V
  place : Bool → Int
  til : Bool → Option Int
  fin : Bool → Option Int
structure FCok (K : PySem.W.Frag) (Hb : Hp) (S : Sh) (C : FC) : Prop where
  line : ∃ dx t, Hb C.l = some (.ins (He.ga K "Line") dx (lineF S.size S.way C.n C.f t))
  near : SetAt K Hb C.n (S.rule false) (S.every false) (S.delay false)
  far : SetAt K Hb C.f (S.rule true) (S.every true) (S.delay true)
  se : Hb C.se = some (.tup [.ref C.n, .ref C.f])
  q : ∀ k, Hb (C.q k) = some (.lst (C.fv k))
  td : ∀ k, TodoV Hb (C.fv k) (C.all k)
  few : ∀ k, (C.all k).length ≤ 6
def FC.w (C : FC) (k : Bool) : Addr := if k = true then C.f else C.n
def flowF (L : Nat → Addr) (C : FC) (D : FD) : List (Str × V) := [("line", .ref C.l), ("settings", .ref C.se), ("tick", .int D.tick), ("stock", .ref (L 1)), ("out", .ref (L 4)), ("known", .ref (L 5)), ("small", .ref (L 6)), ("come", .ref (L 7)),
  ("taken", .ref (L 8)), ("full", .ref (L 9)), ("first", .ref (L 10)), ("long", .ref (L 11)), ("flight", .ref D.fl), ("log", .ref (L 12))]
def crsL (C : FC) (k : Bool) (p : Int) (t f : Option Int) : List (Str × V) := [("steps", .ref (C.q k)), ("again", .bl false), ("place", .int p), ("until", oV t), ("ended", oV f), ("begun", .ref (C.bg k))]
abbrev crsF (C : FC) (D : FD) (k : Bool) : List (Str × V) := crsL C k (D.place k) (D.til k) (D.fin k)
def conts (K : PySem.W.Frag) (L : Nat → Addr) (C : FC) (D : FD) : List HO := [
  .ins (He.ga K "Flow") C.dx (flowF L C D),
  .lst [.ref (L 2), .ref (L 3)],
  .lst (D.s false), .lst (D.s true),
  .lst (two2 fun j => .int (D.out j)), .lst (two2 fun j => .int (D.known j)), .lst (two2 fun j => .int (D.small j)), .lst (two2 fun j => .int (D.come j)), .lst (two2 fun j => .int (D.taken j)), .lst (two2 fun j => .int (D.full j)),
  .lst (two2 fun j => oV (D.first j)), .lst (two2 fun j => .int (D.long j)),
  .lst D.lgv,
  .ins (He.ga K "Course") (C.cdx false) (crsF C D false), .ins (He.ga K "Course") (C.cdx true) (crsF C D true)]
structure At (K : PySem.W.Frag) (Hb H : Hp) (S : Sh) (L : Nat → Addr) (C : FC) (D : FD) : Prop where
  ok : FCok K Hb S C
  base : Ke Hb H
  inj : ∀ i j, i < 15 → j < 15 → L i = L j → i = j
  nb : ∀ i, i < 15 → Hb (L i) = none
  ob : ∀ i o, (conts K L C D)[i]? = some o → H (L i) = some o
  fl : H D.fl = some (.lst D.flv)
  nfl : Hb D.fl = none
  xfl : ∀ i, i < 15 → L i ≠ D.fl
section
variable {K : PySem.W.Frag} {Hb H H' : Hp} {S : Sh} {L : Nat → Addr} {C : FC} {D D' : FD}
theorem conts_len : (conts K L C D).length = 15 := rfl
theorem conts_kind {o : HO} (h : o ∈ conts K L C D) : (∃ xs, o = .lst xs) ∨ ∃ c d fs, o = .ins c d fs := by
  unfold conts at h
  simp only [List.mem_cons, List.not_mem_nil, or_false] at h
  rcases h with h | h | h | h | h | h | h | h | h | h | h | h | h | h | h <;> subst h <;> first | exact .inl ⟨_, rfl⟩ | exact .inr ⟨_, _, _, rfl⟩
theorem At.kind (h : At K Hb H S L C D) {i : Nat} (hi : i < 15) : ∃ o, H (L i) = some o ∧ ((∃ xs, o = .lst xs) ∨ ∃ c d fs, o = .ins c d fs) := by
  have e : (conts K L C D)[i]? = some ((conts K L C D)[i]'hi) := List.getElem?_eq_getElem hi
  exact ⟨_, h.ob i _ e, conts_kind (List.getElem_mem hi)⟩
theorem At.noCode (h : At K Hb H S L C D) {i : Nat} (hi : i < 15) : ∀ c q, H (L i) ≠ some (LamX.CodeO c q) := by
  obtain ⟨o, e, ⟨xs, rfl⟩ | ⟨c, d, fs, rfl⟩⟩ := h.kind hi
  · exact noCode_lst e
  · exact noCode_ins e
theorem At.noTup (h : At K Hb H S L C D) {i : Nat} (hi : i < 15) : ∀ xs, H (L i) ≠ some (.tup xs) := by
  obtain ⟨o, e, ⟨xs, rfl⟩ | ⟨c, d, fs, rfl⟩⟩ := h.kind hi
  · exact notTup_lst e
  · exact notTup_ins e
/-- a part changes -/
theorem At.mut (h : At K Hb H S L C D) (i : Nat) {o : HO} (hi : i < 15) (e : conts K L C D' = (conts K L C D).set i o) (e1 : D'.fl = D.fl) (e2 : D'.flv = D.flv) : At K Hb (upd H (L i) o) S L C D' ∧ Tk H (upd H (L i) o) := by
  refine ⟨⟨h.ok, h.base.mut (h.nb i hi) (h.noCode hi), h.inj, h.nb, fun j u hj => ?_, ?_, by rw [e1]; exact h.nfl, by rw [e1]; exact h.xfl⟩, Tk.mut (h.noTup hi)⟩
  · rw [e, List.getElem?_set] at hj
    split at hj
    · rename_i z
      subst z
      split at hj
      · cases hj
        exact upd_same
      · cases hj
    · rename_i z
      have lj : j < 15 := (List.getElem?_eq_some_iff.mp hj).1
      rw [upd_ne (fun q => z (h.inj _ _ hi lj q.symm))]
      exact h.ob j u hj
  · rw [e1, e2, upd_ne (fun q => h.xfl i hi q.symm)]
    exact h.fl
/-- all stays -/
theorem At.ke (h : At K Hb H S L C D) (k : Ke H H') : At K Hb H' S L C D := by
  refine ⟨h.ok, h.base.trans k, h.inj, h.nb, fun i o e => ?_, k.lst h.fl, h.nfl, h.xfl⟩
  have q := h.ob i o e
  rcases conts_kind (List.mem_of_getElem? e) with ⟨xs, rfl⟩ | ⟨c, d, fs, rfl⟩
  · exact k.lst q
  · exact k.ins q
/-- a piece is under way -/
theorem At.fly (h : At K Hb H S L C D) (v : List V) : At K Hb (upd H D.fl (.lst v)) S L C { D with flv := v } ∧ Tk H (upd H D.fl (.lst v)) := by
  refine ⟨⟨h.ok, h.base.mut h.nfl (noCode_lst h.fl), h.inj, h.nb, fun i o e => ?_, upd_same, h.nfl, h.xfl⟩, Tk.mut (notTup_lst h.fl)⟩
  have hi : i < 15 := (List.getElem?_eq_some_iff.mp e).1
  rw [upd_ne (h.xfl i hi)]
  exact h.ob i o e
/-- another list of what is under way -/
theorem At.newfl (h : At K Hb H S L C D) {x : Addr} {v : List V} (hx : H x = some (.lst v)) (nb : Hb x = none) (ne : ∀ i, i < 15 → L i ≠ x) : At K Hb (upd H (L 0) (.ins (He.ga K "Flow") C.dx (flowF L C { D with fl := x, flv := v }))) S L C { D with fl := x, flv := v } ∧ Tk H (upd H (L 0) (.ins (He.ga K "Flow") C.dx (flowF L C { D with fl := x, flv := v }))) := by
  refine ⟨⟨h.ok, h.base.mut (h.nb 0 (by decide)) (h.noCode (by decide)), h.inj, h.nb, fun j u hj => ?_, ?_, nb, ne⟩, Tk.mut (h.noTup (by decide))⟩
  · match j, hj with
    | 0, hj => cases hj; exact upd_same
    | j + 1, hj =>
      have lj : j + 1 < 15 := (List.getElem?_eq_some_iff.mp hj).1
      rw [upd_ne (fun q => absurd (h.inj _ _ (by decide) lj q.symm) (by omega))]
      exact h.ob (j + 1) u hj
  · rw [upd_ne (fun q => ne 0 (by decide) q.symm)]
    exact hx
theorem At.o0 (h : At K Hb H S L C D) : H (L 0) = some (.ins (He.ga K "Flow") C.dx (flowF L C D)) := h.ob 0 _ rfl
theorem At.o1 (h : At K Hb H S L C D) : H (L 1) = some (.lst (two2 fun k => .ref (L (2 + kN k)))) := h.ob 1 _ rfl
theorem At.oS (h : At K Hb H S L C D) (k : Bool) : H (L (2 + kN k)) = some (.lst (D.s k)) := by cases k; exact h.ob 2 _ rfl; exact h.ob 3 _ rfl
theorem At.o4 (h : At K Hb H S L C D) : H (L 4) = some (.lst (two2 fun j => .int (D.out j))) := h.ob 4 _ rfl
theorem At.o5 (h : At K Hb H S L C D) : H (L 5) = some (.lst (two2 fun j => .int (D.known j))) := h.ob 5 _ rfl
theorem At.o6 (h : At K Hb H S L C D) : H (L 6) = some (.lst (two2 fun j => .int (D.small j))) := h.ob 6 _ rfl
theorem At.o7 (h : At K Hb H S L C D) : H (L 7) = some (.lst (two2 fun j => .int (D.come j))) := h.ob 7 _ rfl
theorem At.o8 (h : At K Hb H S L C D) : H (L 8) = some (.lst (two2 fun j => .int (D.taken j))) := h.ob 8 _ rfl
theorem At.o9 (h : At K Hb H S L C D) : H (L 9) = some (.lst (two2 fun j => .int (D.full j))) := h.ob 9 _ rfl
theorem At.o10 (h : At K Hb H S L C D) : H (L 10) = some (.lst (two2 fun j => oV (D.first j))) := h.ob 10 _ rfl
theorem At.o11 (h : At K Hb H S L C D) : H (L 11) = some (.lst (two2 fun j => .int (D.long j))) := h.ob 11 _ rfl
theorem At.o12 (h : At K Hb H S L C D) : H (L 12) = some (.lst D.lgv) := h.ob 12 _ rfl
theorem At.oC (h : At K Hb H S L C D) (k : Bool) : H (L (13 + kN k)) = some (.ins (He.ga K "Course") (C.cdx k) (crsF C D k)) := by cases k; exact h.ob 13 _ rfl; exact h.ob 14 _ rfl
theorem At.line (h : At K Hb H S L C D) : ∃ dx t, H C.l = some (.ins (He.ga K "Line") dx (lineF S.size S.way C.n C.f t)) := let ⟨dx, t, q⟩ := h.ok.line; ⟨dx, t, h.base.ins q⟩
theorem At.set (h : At K Hb H S L C D) (k : Bool) : ∃ dx t, H (C.w k) = some (.ins (He.ga K "Setting") dx (setF (ruS (S.rule k)) (S.every k) (S.delay k) t)) := by
  cases k
  · obtain ⟨dx, t, q⟩ := h.ok.near; exact ⟨dx, t, h.base.ins q⟩
  · obtain ⟨dx, t, q⟩ := h.ok.far; exact ⟨dx, t, h.base.ins q⟩
theorem At.se (h : At K Hb H S L C D) : SqT K H C.se (two2 fun k => .ref (C.w k)) := SqT.of (h.base.tup h.ok.se)
theorem At.mS (h : At K Hb H S L C D) (k : Bool) (v : List V) : At K Hb (upd H (L (2 + kN k)) (.lst v)) S L C { D with s := setB D.s k v } ∧ Tk H (upd H (L (2 + kN k)) (.lst v)) := h.mut (2 + kN k) (by cases k <;> decide) (by cases k <;> rfl) rfl rfl
theorem At.m4 (h : At K Hb H S L C D) (k : Bool) (v : Int) : At K Hb (upd H (L 4) (.lst ((two2 fun j => V.int (D.out j)).set (kN k) (.int v)))) S L C { D with out := setB D.out k v } ∧ Tk H (upd H (L 4) (.lst ((two2 fun j => V.int (D.out j)).set (kN k) (.int v)))) := h.mut 4 (by decide) (by cases k <;> rfl) rfl rfl
theorem At.m5 (h : At K Hb H S L C D) (k : Bool) (v : Int) : At K Hb (upd H (L 5) (.lst ((two2 fun j => V.int (D.known j)).set (kN k) (.int v)))) S L C { D with known := setB D.known k v } ∧ Tk H (upd H (L 5) (.lst ((two2 fun j => V.int (D.known j)).set (kN k) (.int v)))) := h.mut 5 (by decide) (by cases k <;> rfl) rfl rfl
theorem At.m6 (h : At K Hb H S L C D) (k : Bool) (v : Int) : At K Hb (upd H (L 6) (.lst ((two2 fun j => V.int (D.small j)).set (kN k) (.int v)))) S L C { D with small := setB D.small k v } ∧ Tk H (upd H (L 6) (.lst ((two2 fun j => V.int (D.small j)).set (kN k) (.int v)))) := h.mut 6 (by decide) (by cases k <;> rfl) rfl rfl
theorem At.m7 (h : At K Hb H S L C D) (k : Bool) (v : Int) : At K Hb (upd H (L 7) (.lst ((two2 fun j => V.int (D.come j)).set (kN k) (.int v)))) S L C { D with come := setB D.come k v } ∧ Tk H (upd H (L 7) (.lst ((two2 fun j => V.int (D.come j)).set (kN k) (.int v)))) := h.mut 7 (by decide) (by cases k <;> rfl) rfl rfl
theorem At.m8 (h : At K Hb H S L C D) (k : Bool) (v : Int) : At K Hb (upd H (L 8) (.lst ((two2 fun j => V.int (D.taken j)).set (kN k) (.int v)))) S L C { D with taken := setB D.taken k v } ∧ Tk H (upd H (L 8) (.lst ((two2 fun j => V.int (D.taken j)).set (kN k) (.int v)))) := h.mut 8 (by decide) (by cases k <;> rfl) rfl rfl
theorem At.m9 (h : At K Hb H S L C D) (k : Bool) (v : Int) : At K Hb (upd H (L 9) (.lst ((two2 fun j => V.int (D.full j)).set (kN k) (.int v)))) S L C { D with full := setB D.full k v } ∧ Tk H (upd H (L 9) (.lst ((two2 fun j => V.int (D.full j)).set (kN k) (.int v)))) := h.mut 9 (by decide) (by cases k <;> rfl) rfl rfl
theorem At.m10 (h : At K Hb H S L C D) (k : Bool) (v : Option Int) : At K Hb (upd H (L 10) (.lst ((two2 fun j => oV (D.first j)).set (kN k) (oV v)))) S L C { D with first := setB D.first k v } ∧ Tk H (upd H (L 10) (.lst ((two2 fun j => oV (D.first j)).set (kN k) (oV v)))) := h.mut 10 (by decide) (by cases k <;> rfl) rfl rfl
theorem At.m11 (h : At K Hb H S L C D) (k : Bool) (v : Int) : At K Hb (upd H (L 11) (.lst ((two2 fun j => V.int (D.long j)).set (kN k) (.int v)))) S L C { D with long := setB D.long k v } ∧ Tk H (upd H (L 11) (.lst ((two2 fun j => V.int (D.long j)).set (kN k) (.int v)))) := h.mut 11 (by decide) (by cases k <;> rfl) rfl rfl
theorem At.m12 (h : At K Hb H S L C D) (v : List V) : At K Hb (upd H (L 12) (.lst v)) S L C { D with lgv := v } ∧ Tk H (upd H (L 12) (.lst v)) := h.mut 12 (by decide) rfl rfl rfl
theorem At.mT (h : At K Hb H S L C D) (t : Int) : At K Hb (upd H (L 0) (.ins (He.ga K "Flow") C.dx (flowF L C { D with tick := t }))) S L C { D with tick := t } ∧ Tk H (upd H (L 0) (.ins (He.ga K "Flow") C.dx (flowF L C { D with tick := t }))) := h.mut 0 (by decide) rfl rfl rfl
theorem At.mC (h : At K Hb H S L C D) (k : Bool) (p : Int) (t f : Option Int) : At K Hb (upd H (L (13 + kN k)) (.ins (He.ga K "Course") (C.cdx k) (crsL C k p t f))) S L C { D with place := setB D.place k p, til := setB D.til k t, fin := setB D.fin k f } ∧
    Tk H (upd H (L (13 + kN k)) (.ins (He.ga K "Course") (C.cdx k) (crsL C k p t f))) := h.mut (13 + kN k) (by cases k <;> decide) (by cases k <;> rfl) rfl rfl
end
/-! ### what the numbers mean -/
def PcV (H : Hp) (v : V) (p : Pc) : Prop := ∃ a, v = V.ref a ∧ H a = some (.tup [.int p.t, .int (kI p.k), .int p.m, .int p.a])
def LogV (H : Hp) (vs : List V) (l : List Pc) : Prop := Paired (PcV H) vs l
def StkV (H : Hp) (vs : List V) (l : List (Int × Int)) : Prop := Paired (fun v (q : Int × Int) => ∃ a, v = V.ref a ∧ H a = some (.tup [.int q.1, .int q.2])) vs l
def ssum : List (Int × Int) → Int
  | [] => 0
  | q :: r => q.1 + ssum r
theorem ssum_append : ∀ a b, ssum (a ++ b) = ssum a + ssum b
  | [], b => by simp [ssum]
  | q :: r, b => by
    show q.1 + ssum (r ++ b) = q.1 + ssum r + ssum b
    rw [ssum_append r b]; omega
theorem ssum_len : ∀ l : List (Int × Int), (∀ q ∈ l, 1 ≤ q.1) → (l.length : Int) ≤ ssum l
  | [], _ => Int.le_refl 0
  | q :: r, h => by
    have := ssum_len r fun p hp => h p (List.mem_cons_of_mem _ hp)
    have := h q List.mem_cons_self
    show ((r.length + 1 : Nat) : Int) ≤ q.1 + ssum r
    omega
theorem LogV.tk {H H' : Hp} {vs : List V} {l : List Pc} (h : LogV H vs l) (t : Tk H H') : LogV H' vs l := Paired.mapP h fun _ _ ⟨a, e, q⟩ => ⟨a, e, t _ _ q⟩
theorem StkV.tk {H H' : Hp} {vs : List V} {l : List (Int × Int)} (h : StkV H vs l) (t : Tk H H') : StkV H' vs l := Paired.mapP h fun _ _ ⟨a, e, q⟩ => ⟨a, e, t _ _ q⟩
theorem psnoc {α β : Type} {R : α → β → Prop} : ∀ {xs : List α} {ys : List β} {x : α} {y : β}, Paired R xs ys → R x y → Paired R (xs ++ [x]) (ys ++ [y])
  | _, _, _, _, .nil, h => .cons h .nil
  | _, _, _, _, .cons r t, h => .cons r (psnoc t h)
theorem pgetV {α β : Type} {R : α → β → Prop} : ∀ {xs : List α} {ys : List β} {i : Nat} {x : α}, Paired R xs ys → xs[i]? = some x → ∃ y, ys[i]? = some y ∧ R x y
  | _, _, _, _, .nil, e => by simp at e
  | _, _, 0, _, .cons r _, e => by simp at e; subst e; exact ⟨_, rfl, r⟩
  | _, _, i + 1, x, .cons _ t, e => by
    obtain ⟨u, h1, h2⟩ := pgetV (i := i) (x := x) t (by simpa using e)
    exact ⟨u, by simpa using h1, h2⟩
def shf (S : Sh) (p : Pc) : Pc := { p with t := p.t + S.way }
structure FM (S : Sh) (H : Hp) (C : FC) (D : FD) (W : Wo) : Prop where
  tick : D.tick = W.tick
  out : ∀ k, D.out k = (W.sd k).out
  known : ∀ k, D.known k = (W.sd k).known
  small : ∀ k, D.small k = (W.sd k).small
  come : ∀ k, D.come k = (W.sd k).come
  taken : ∀ k, D.taken k = (W.sd k).used
  full : ∀ k, D.full k = (W.sd k).full
  first : ∀ k, D.first k = (W.sd k).since
  stk : ∀ k, ∃ st, StkV H (D.s k) st ∧ (∀ q ∈ st, 1 ≤ q.1) ∧ ssum st = (W.sd k).kept
  fly : LogV H D.flv ((flying S W).map (shf S))
  lg : LogV H D.lgv W.log
  til : ∀ k, D.til k = (W.sd k).til
  fin : ∀ k, D.fin k = (W.sd k).fin
  place : ∀ k, ∃ n : Nat, D.place k = n ∧ (W.sd k).todo = (C.all k).drop n ∧ n ≤ (C.all k).length
theorem FM.tk {S : Sh} {H H' : Hp} {C : FC} {D : FD} {W : Wo} (h : FM S H C D W) (t : Tk H H') : FM S H' C D W :=
  ⟨h.tick, h.out, h.known, h.small, h.come, h.taken, h.full, h.first, fun k => let ⟨st, a, b⟩ := h.stk k; ⟨st, a.tk t, b⟩, h.fly.tk t, h.lg.tk t, h.til, h.fin, h.place⟩
/-- what bounds all lists -/
structure Bnd (S : Sh) (W : Wo) (P : List Pc) : Prop where
  good : Good S W P
  le : Phi S W P + W.log.length ≤ 6000
theorem Bnd.leads {S : Sh} {W W' : Wo} {P P' : List Pc} (b : Bnd S W P) (l : Leads S W P W' P') : Bnd S W' P' := ⟨l.good, by have := l.len; have := b.le; omega⟩
theorem Bnd.log {S : Sh} {W : Wo} {P : List Pc} (b : Bnd S W P) : W.log.length ≤ 6000 := by
  have := b.good.phi_nn
  have := b.le
  omega
theorem Bnd.kept {S : Sh} {W : Wo} {P : List Pc} (b : Bnd S W P) (k : Bool) : (W.sd k).kept ≤ 1500 := by
  have h : ∀ k, 4 * (W.sd k).kept ≤ sw (W.sd k) := fun k => by
    have h2 := writes_nn (W.sd k).todo fun q hq => (b.good.pos k q hq).1
    have h3 := pauses_nn (W.sd k).todo
    unfold sw
    split <;> omega
  have h1 := h k
  have h2 := h (!k)
  have h0 := b.good.kept (!k)
  have h3 := wsum_nn (flying S W)
  have h4 := wsum_nn P
  have e := Phi_at (S := S) k W P
  have := b.le
  omega
theorem z6000 : 7000 < sizeLine := by decide
end Sm

/-! The program's flow: what a side holds, and how a piece goes. -/
namespace Sm
open PySem PySem.Spec PyProof.Rows L2
section
variable {P : Program} {w : World} {K : PySem.W.Frag} {mg : Str → Option Value} {base : Heap}
theorem ite_dec {p : Prop} [Decidable p] {A B : Prop} (h1 : p → A) (h2 : ¬p → B) : if decide p = true then A else B := by
  by_cases h : p
  · rw [decide_eq_true h]; exact h1 h
  · rw [decide_eq_false h]; exact h2 h
theorem ix0 {α : Type} {x : α} {xs : List α} : ixN (x :: xs).length 0 = some 0 := by
  unfold ixN
  rw [if_pos (Int.le_refl 0), if_pos (by rw [List.length_cons]; omega)]
  rfl
theorem ssum_take {st : List (Int × Int)} : ((st.map Prod.fst).sum) = ssum st := by
  induction st with
  | nil => rfl
  | cons q r ih => show q.1 + (r.map Prod.fst).sum = q.1 + ssum r; rw [ih]
abbrev N_Flow_kept : List Str := ["self", "side", "amount", "tick"]
theorem sc_Flow_kept : FnScope N_Flow_kept ["self", "side"] (defScope s_Flow_kept) := ⟨rfl, rfl, rfl, by decide +kernel, rfl, by decide +kernel, by decide +kernel⟩
theorem ok_kept (T : Tx K mg w) : Okm P w K mg base "Flow" "kept" ["self", "side"] 1 (sp2 fun s sd H Q => ∃ Hb S L C D k st, s = .ref (L 0) ∧ sd = .int (kI k) ∧ At K Hb H S L C D ∧ StkV H (D.s k) st ∧ st.length ≤ 6000 ∧ ∀ H', Ke H H' → Q (.int (ssum st)) H') := by
  refine mkM T ix_Flow_kept rfl T.c_Flow T.m_Flow_kept sc_Flow_kept (fun _ _ _ _ _ _ us hl => match us, hl with | [_, _], _ => rfl) len2 (fun cdv A outer s0 H0 E vs Q hr h => ?_)
  refine ⟨_, (pss_one (ps_ret (pe_callB (sumK K rfl) (by rfl) T.n_sum (by decide +kernel) (pa_cons (pe_lc (own := [(("amount" : Str), 2), (("tick" : Str), 3)]) (g := gTup K 2 (gCons (gName 2) (gCons (gName 3) gNil))) (by rfl) sc_Flow_kept.nd (piL K (pe_ix (ixL K) (fldK K (pv 0)) (pv 1) (fun _ _ => rfl))) (blkOk_by (own := [(("amount" : Str), 2), (("tick" : Str), 3)]) (N := N_Flow_kept) (sc := defScope s_Flow_kept) (by decide +kernel)) (fun _ _ _ _ _ => pg_tup (by rfl) (pgs_cons (pg_name (i := 2) sc_Flow_kept.nd rfl (Or.inl rfl)) (pgs_cons (pg_name (i := 3) sc_Flow_kept.nd rfl (Or.inl rfl)) pgs_nil))) (fun _ _ _ _ _ => pts_nil) (fun _ _ _ _ _ => (pv 2))) pa_nil)))), ?_⟩
  obtain ⟨_, _, rfl, Hb, S, L, C, D, k, st, rfl, rfl, at0, hst, hl, q⟩ := h
  have hln : (D.s k).length = st.length := Paired.length hst
  refine ⟨_, rfl, _, _, _, _, _, rfl, at0.o0, T.c_Flow, T.a_Flow_stock, rfl, _, rfl, _, _, _, _, rfl, rfl, SqL.of at0.o1, atK _ _, _, rfl, ⟨_, SqL.of (at0.oS k)⟩, lc_l (fun i => ((st.take i).map Prod.fst).map V.int) (SqL.of (at0.oS k)) rfl (fun i hi => ?_) (fun i x H' hx kH Yes No yes no => ?_) (fun D' H' hD' kH hE => ?_)⟩
  · rw [List.length_map, List.length_map, List.length_take]
    have := z6000
    omega
  · obtain ⟨y, hy, a, rfl, ha⟩ := pgetV hst hx
    refine ⟨_, _, rfl, SqT.of (kH.tup ha), rfl, _, _, rfl, _, _, rfl, rfl, rfl, _, rfl, yes _ _ (.refl _) ?_⟩
    rw [take_snoc hy, List.map_append, List.map_append]
    rfl
  · rw [hln, List.take_length] at hE
    refine ⟨_, _, rfl, SqL.of hE, ?_⟩
    rw [ssum_take]
    exact q _ kH
theorem stk_nil {H : Hp} {vs : List V} (h : StkV H vs []) : vs = [] := by cases h; rfl
abbrev N_Flow_fresh : List Str := ["self", "side"]
theorem sc_Flow_fresh : FnScope N_Flow_fresh ["self", "side"] (defScope s_Flow_fresh) := ⟨rfl, rfl, rfl, by decide +kernel, rfl, by decide +kernel, by decide +kernel⟩
theorem ok_fresh (T : Tx K mg w) : Okm P w K mg base "Flow" "fresh" ["self", "side"] 1 (sp2 fun s sd H Q => ∃ Hb S L C D k, s = .ref (L 0) ∧ sd = .int (kI k) ∧ At K Hb H S L C D ∧ Q (.int (D.come k - D.taken k)) H) := by
  refine mkM T ix_Flow_fresh rfl T.c_Flow T.m_Flow_fresh sc_Flow_fresh (fun _ _ _ _ _ _ us hl => match us, hl with | [_, _], _ => rfl) len2 (fun cdv A outer s0 H0 E vs Q hr h => ?_)
  refine ⟨_, (pss_one (ps_ret (pe_op op_sub (pe_ix (ixL K) (fldK K (pv 0)) (pv 1) (fun _ _ => rfl)) (pe_ix (ixL K) (fldK K (pv 0)) (pv 1) (fun _ _ => rfl))))), ?_⟩
  obtain ⟨_, _, rfl, Hb, S, L, C, D, k, rfl, rfl, at0, q⟩ := h
  exact ⟨_, rfl, _, _, _, _, _, rfl, at0.o0, T.c_Flow, T.a_Flow_come, rfl, _, rfl, _, _, _, _, rfl, rfl, SqL.of at0.o7, atK _ _, _, rfl, _, _, _, _, _, rfl, at0.o0, T.c_Flow, T.a_Flow_taken, rfl, _, rfl, _, _, _, _, rfl, rfl, SqL.of at0.o8, atK _ _, _, _, rfl, rfl, q⟩
abbrev N_Flow_take_out : List Str := ["self", "side", "amount", "left", "first", "tick"]
theorem sc_Flow_take_out : FnScope N_Flow_take_out ["self", "side", "amount"] (defScope s_Flow_take_out) := ⟨rfl, rfl, rfl, by decide +kernel, rfl, by decide +kernel, by decide +kernel⟩
theorem ok_take_out (T : Tx K mg w) : Okm P w K mg base "Flow" "take_out" ["self", "side", "amount"] 1 (sp3 fun s sd am H Q => ∃ Hb S L C D k m st, s = .ref (L 0) ∧ sd = .int (kI k) ∧ am = .int m ∧ At K Hb H S L C D ∧ StkV H (D.s k) st ∧ (∀ q ∈ st, 1 ≤ q.1) ∧ 0 ≤ m ∧ m ≤ ssum st ∧ st.length ≤ 6000 ∧
    ∀ H' v' g st', At K Hb H' S L C { D with s := setB D.s k v', long := setB D.long k g } → Tk H H' → StkV H' v' st' → (∀ q ∈ st', 1 ≤ q.1) → ssum st' = ssum st - m → Q .non H') := by
  refine mkM T ix_Flow_take_out rfl T.c_Flow T.m_Flow_take_out sc_Flow_take_out (fun _ _ _ _ _ _ us hl => match us, hl with | [_, _, _], _ => rfl) len3 (fun cdv A outer s0 H0 E vs Q hr h => ?_)
  refine ⟨_, (pss_cons (ps_set (i := 3) sc_Flow_take_out.nd rfl (Or.inl rfl) (pv 2))
    (pss_one (ps_while PassesOwn.never (pt_cmpR op_gt (pv 3) pe_int (nomark _))
      (pss_cons (ps_asg (pe_ix (ixL K) (pe_ix (ixL K) (fldK K (pv 0)) (pv 1) (fun _ _ => rfl)) pe_int (fun _ _ => rfl)) (pg_tup (by rfl) (pgs_cons (pg_name (i := 4) sc_Flow_take_out.nd rfl (Or.inl rfl)) (pgs_cons (pg_name (i := 5) sc_Flow_take_out.nd rfl (Or.inl rfl)) pgs_nil))))
    (pss_cons (ps_asg (pe_callB (call_max2 rfl) (by rfl) T.n_max (by decide +kernel) (pa_cons (pe_ix (ixL K) (fldK K (pv 0)) (pv 1) (fun _ _ => rfl)) (pa_cons (pe_op op_sub (fldK K (pv 0)) (pv 5)) pa_nil))) (pg_sub (fldK K (pv 0)) (pv 1) set_list))
    (pss_cons (ps_if (pt_cmpR op_gt (pv 4) (pv 3) (nomark _))
      (pss_one (ps_asg (pe_tup (pa_cons (pe_op op_sub (pv 4) (pv 3)) (pa_cons (pv 5) pa_nil))) (pg_sub (pe_ix (ixL K) (fldK K (pv 0)) (pv 1) (fun _ _ => rfl)) pe_int set_list)))
      (pss_one (ps_delL (pe_ix (ixL K) (fldK K (pv 0)) (pv 1) (fun _ _ => rfl)) pe_int)))
    (pss_one (ps_aug (i := 3) sc_Flow_take_out.nd rfl (Or.inl rfl) (pe_callB (call_min2 rfl) (by rfl) T.n_min (by decide +kernel) (pa_cons (pv 4) (pa_cons (pv 3) pa_nil))) ip_sub)))))))), ?_⟩
  obtain ⟨_, _, _, rfl, Hb, S, L, C, D, k, m, st, rfl, rfl, rfl, at0, hst, hp, hm0, hm, hl, q⟩ := h
  refine ⟨_, rfl, fun n σ H => ∃ left v' g st' f t, σ = [some (.ref (L 0)), some (.int (kI k)), some (.int m), some (.int left), f, t] ∧ n = left.toNat ∧ 0 ≤ left ∧ At K Hb H S L C { D with s := setB D.s k v', long := setB D.long k g } ∧ Tk H0 H ∧ StkV H v' st' ∧ (∀ q ∈ st', 1 ≤ q.1) ∧ ssum st' = ssum st - m + left,
    ⟨m.toNat, m, D.s k, D.long k, st, _, _, rfl, rfl, hm0, ?_, .refl _, hst, hp, by omega⟩, ?_⟩
  · rw [setB_self, setB_self]
    exact at0
  · rintro n σ H ⟨left, v', g, st', f, t, rfl, rfl, hleft, at1, tk, hs, hp1, e1⟩
    refine ⟨_, rfl, _, _, rfl, rfl, _, rfl, ?_⟩
    refine ite_dec (fun hc => ?_) (fun hc => ?_)
    · cases hs with
      | nil =>
        have : ssum [] = 0 := rfl
        omega
      | @cons x y vr sr hx hs =>
      obtain ⟨a, rfl, ha⟩ := hx
      obtain ⟨b, t0⟩ := y
      have hb : 1 ≤ b := hp1 (b, t0) List.mem_cons_self
      have hpr : ∀ q ∈ sr, 1 ≤ q.1 := fun q hq => hp1 q (List.mem_cons_of_mem _ hq)
      have e2 : b + ssum sr = ssum st - m + left := e1
      refine ⟨fun σ H => ∃ left' v' g st' f t, σ = [some (.ref (L 0)), some (.int (kI k)), some (.int m), some (.int left'), f, t] ∧ left'.toNat < left.toNat ∧ 0 ≤ left' ∧ At K Hb H S L C { D with s := setB D.s k v', long := setB D.long k g } ∧ Tk H0 H ∧ StkV H v' st' ∧ (∀ q ∈ st', 1 ≤ q.1) ∧ ssum st' = ssum st - m + left', ?_, ?_⟩
      · rintro σ' H' ⟨left', v', g, st', f, t, rfl, h1, h2, h3, h4, h5, h6, h7⟩
        exact ⟨_, h1, left', v', g, st', f, t, rfl, rfl, h2, h3, h4, h5, h6, h7⟩
      have hS1 := at1.oS k
      have eS : (setB D.s k (V.ref a :: vr)) k = V.ref a :: vr := setB_same
      have hS2 : H (L (2 + kN k)) = some (.lst (V.ref a :: vr)) := by rw [← eS]; exact hS1
      refine ⟨_, rfl, _, _, _, _, _, rfl, at1.o0, T.c_Flow, T.a_Flow_stock, rfl, _, rfl, _, _, _, _, rfl, rfl, SqL.of at1.o1, atK _ _, L (2 + kN k), _, 0, _, rfl, rfl, SqL.of hS2, atI0, a, _, rfl, SqT.of ha, rfl, _, _, rfl, _, _, rfl, rfl, ?_⟩
      refine ⟨_, rfl, _, _, _, _, _, rfl, at1.o0, T.c_Flow, T.a_Flow_long, rfl, _, rfl, _, _, _, _, rfl, rfl, SqL.of at1.o11, atK _ _, _, rfl, _, _, _, _, _, rfl, at1.o0, T.c_Flow, T.a_Flow_tick, rfl, _, rfl, _, _, rfl, rfl, _, _, rfl, _, rfl, _, _, _, _, _, rfl, at1.o0, T.c_Flow, T.a_Flow_long, rfl, _, rfl, _, _, _, _, rfl, rfl, at1.o11, ixK _ _, ?_⟩
      obtain ⟨a2, t2⟩ := at1.m11 k (if D.tick - t0 > setB D.long k g k then D.tick - t0 else setB D.long k g k)
      generalize upd H (L 11) _ = H1 at a2 t2 ⊢
      rw [setB_setB] at a2
      generalize (if D.tick - t0 > setB D.long k g k then D.tick - t0 else setB D.long k g k) = g2 at a2
      have hS3 : H1 (L (2 + kN k)) = some (.lst (V.ref a :: vr)) := by rw [← eS]; exact a2.oS k
      refine ⟨_, rfl, _, rfl, _, _, rfl, rfl, _, rfl, ?_⟩
      refine ite_dec (fun hgt => ?_) (fun hgt => ?_)
      · refine ⟨_, rfl, _, rfl, _, _, rfl, rfl, _, rfl, by show 2 ≤ sizeLine; decide, fun u nu => ?_⟩
        have ku : Ke H1 (upd H1 u (.tup [.int (b - left), .int t0])) := .new nu
        have hu : (upd H1 u (.tup [.int (b - left), .int t0])) u = some (.tup [.int (b - left), .int t0]) := upd_same
        generalize upd H1 u _ = H2 at ku hu ⊢
        have a3 := a2.ke ku
        refine ⟨_, rfl, _, _, _, _, _, rfl, a3.o0, T.c_Flow, T.a_Flow_stock, rfl, _, rfl, _, _, _, _, rfl, rfl, SqL.of a3.o1, atK _ _, _, _, 0, 0, rfl, rfl, ku.lst hS3, ix0, ?_⟩
        obtain ⟨a4, t4⟩ := a3.mS k (V.ref u :: vr)
        generalize hv : (V.ref a :: vr).set 0 (V.ref u) = v2 at ⊢
        have hv : v2 = V.ref u :: vr := hv.symm
        subst hv
        generalize upd H2 (L (2 + kN k)) _ = H3 at a4 t4 ⊢
        rw [setB_setB] at a4
        refine ⟨_, rfl, _, rfl, _, rfl, _, _, rfl, _, _, rfl, rfl, ?_⟩
        have em : left - (if left < b then left else b) = 0 := by rw [if_pos hgt]; omega
        refine ⟨_, _, g2, (b - left, t0) :: sr, _, _, rfl, ?_, ?_, a4, tk.trans (t2.trans (ku.tk.trans t4)), .cons ⟨u, rfl, t4 _ _ hu⟩ (StkV.tk hs (t2.trans (ku.tk.trans t4))), ?_, ?_⟩
        · show (left - (if left < b then left else b)).toNat < _
          rw [em]
          omega
        · show 0 ≤ left - (if left < b then left else b)
          omega
        · intro q hq
          rcases List.mem_cons.mp hq with rfl | hq
          · show 1 ≤ b - left
            omega
          · exact hpr q hq
        · show b - left + ssum sr = ssum st - m + (left - (if left < b then left else b))
          omega
      · refine ⟨_, rfl, _, _, _, _, _, rfl, a2.o0, T.c_Flow, T.a_Flow_stock, rfl, _, rfl, _, _, _, _, rfl, rfl, SqL.of a2.o1, atK _ _, _, _, 0, 0, rfl, rfl, hS3, by decide, by decide, seqIndex_of (Int.le_refl 0) (by rw [List.length_cons]; omega), ?_⟩
        obtain ⟨a4, t4⟩ := a2.mS k vr
        have hv : (V.ref a :: vr).eraseIdx 0 = vr := rfl
        rw [hv]
        generalize upd H1 (L (2 + kN k)) _ = H3 at a4 t4 ⊢
        rw [setB_setB] at a4
        refine ⟨_, rfl, _, rfl, _, rfl, _, _, rfl, _, _, rfl, rfl, ?_⟩
        have em : left - (if left < b then left else b) = left - b := by
          split <;> omega
        refine ⟨_, _, g2, sr, _, _, rfl, ?_, ?_, a4, tk.trans (t2.trans t4), StkV.tk hs (t2.trans t4), hpr, ?_⟩
        · show (left - (if left < b then left else b)).toNat < _
          rw [em]
          omega
        · show 0 ≤ left - (if left < b then left else b)
          omega
        · show ssum sr = ssum st - m + (left - (if left < b then left else b))
          omega
    · exact q H v' g st' at1 tk hs hp1 (by omega)
end
end Sm

/-! The program's flow: a piece goes. -/
namespace Sm
open PySem PySem.Spec PyProof.Rows L2
section
variable {P : Program} {w : World} {K : PySem.W.Frag} {mg : Str → Option Value} {base : Heap}
theorem setB_other {α : Type} {f : Bool → α} {k : Bool} {v : α} : setB f k v (!k) = f (!k) := if_neg (by cases k <;> decide)
theorem FM.send {S : Sh} {H H' : Hp} {C : FC} {D : FD} {W : Wo} {k : Bool} {m g : Int} {v' : List V} {st' : List (Int × Int)} {u x : V} (f : Fine S) (fm : FM S H C D W) (t : Tk H H') (hv : StkV H' v' st') (hp : ∀ q ∈ st', 1 ≤ q.1) (es : ssum st' = (W.sd k).kept - m)
    (hu : PcV H' u ⟨W.tick, k, m, (W.sd k).come⟩) (hx : PcV H' x (shf S ⟨W.tick, k, m, (W.sd k).come⟩)) :
    FM S H' C { D with s := setB D.s k v', long := setB D.long k g, out := setB D.out k (D.out k + m), small := setB D.small k (if 0 < m ∧ m < S.size then D.out k + m else D.small k), lgv := D.lgv ++ [u], flv := D.flv ++ [x], full := setB D.full k 0, first := setB D.first k none } (Sm.send S W k m) := by
  have fm := fm.tk t
  refine ⟨fm.tick, fun j => ?_, fun j => ?_, fun j => ?_, fun j => ?_, fun j => ?_, fun j => ?_, fun j => ?_, fun j => ?_, ?_, ?_, fun j => ?_, fun j => ?_, fun j => ?_⟩
  · rcases Sm.two k j with rfl | rfl
    · rw [send_same]; show setB D.out j _ j = _; rw [setB_same, fm.out]
    · rw [send_other]; show setB D.out k _ (!k) = _; rw [setB_other, fm.out]
  · rcases Sm.two k j with rfl | rfl
    · rw [send_same]; exact fm.known j
    · rw [send_other]; exact fm.known _
  · rcases Sm.two k j with rfl | rfl
    · rw [send_same]; show setB D.small j _ j = _; rw [setB_same, fm.out, fm.small]
    · rw [send_other]; show setB D.small k _ (!k) = _; rw [setB_other, fm.small]
  · rcases Sm.two k j with rfl | rfl
    · rw [send_same]; exact fm.come j
    · rw [send_other]; exact fm.come _
  · rcases Sm.two k j with rfl | rfl
    · rw [send_same]; exact fm.taken j
    · rw [send_other]; exact fm.taken _
  · rcases Sm.two k j with rfl | rfl
    · rw [send_same]; show setB D.full j _ j = _; rw [setB_same]
    · rw [send_other]; show setB D.full k _ (!k) = _; rw [setB_other, fm.full]
  · rcases Sm.two k j with rfl | rfl
    · rw [send_same]; show setB D.first j _ j = _; rw [setB_same]
    · rw [send_other]; show setB D.first k _ (!k) = _; rw [setB_other, fm.first]
  · rcases Sm.two k j with rfl | rfl
    · rw [send_same]; exact ⟨st', by show StkV H' (setB D.s j v' j) st'; rw [setB_same]; exact hv, hp, es⟩
    · rw [send_other]; show ∃ st, StkV H' (setB D.s k v' (!k)) st ∧ _; rw [setB_other]; exact fm.stk _
  · rw [flying_send f, List.map_append]
    exact psnoc fm.fly hx
  · exact psnoc fm.lg hu
  · rcases Sm.two k j with rfl | rfl
    · rw [send_same]; exact fm.til j
    · rw [send_other]; exact fm.til _
  · rcases Sm.two k j with rfl | rfl
    · rw [send_same]; exact fm.fin j
    · rw [send_other]; exact fm.fin _
  · rcases Sm.two k j with rfl | rfl
    · rw [send_same]; exact fm.place j
    · rw [send_other]; exact fm.place _
theorem join {A : Prop} {R : Hp → Prop} (G : Hp → Prop) (h : (∀ H, G H → R H) → A) (tail : ∀ H, G H → R H) : A := h tail
abbrev N_Flow_send : List Str := ["self", "side", "amount"]
theorem sc_Flow_send : FnScope N_Flow_send ["self", "side", "amount"] (defScope s_Flow_send) := ⟨rfl, rfl, rfl, by decide +kernel, rfl, by decide +kernel, by decide +kernel⟩
theorem ok_send (T : Tx K mg w) : Okm P w K mg base "Flow" "send" ["self", "side", "amount"] 2 (sp3 fun s sd am H Q => ∃ Hb S L C D W k m, s = .ref (L 0) ∧ sd = .int (kI k) ∧ am = .int m ∧ Fine S ∧ At K Hb H S L C D ∧ FM S H C D W ∧ 0 ≤ m ∧ m ≤ (W.sd k).kept ∧ (W.sd k).kept ≤ 6000 ∧ W.log.length ≤ 6000 ∧
    ∀ H' D', At K Hb H' S L C D' → FM S H' C D' (Sm.send S W k m) → Tk H H' → Q .non H') := by
  have O_Flow_take_out := ok_take_out (P := P) (w := w) (base := base) T
  refine mkM T ix_Flow_send rfl T.c_Flow T.m_Flow_send sc_Flow_send (fun _ _ _ _ _ _ us hl => match us, hl with | [_, _, _], _ => rfl) len3 (fun cdv A outer s0 H0 E vs Q hr h => ?_)
  refine ⟨_, (pss_cons (ps_expr (pe_m K O_Flow_take_out (hr.mono (by decide)) (pv 0) (pa_cons (pv 1) (pa_cons (pv 2) pa_nil))))
    (pss_cons (ps_augS (fldK K (pv 0)) (pv 1) get_list (pv 2) ip_add set_list)
    (pss_cons (ps_if (pt_chain op_lt op_lt pe_int (pv 2) (fldK K (fldK K (pv 0))))
      (pss_one (ps_asg (pe_ix (ixL K) (fldK K (pv 0)) (pv 1) (fun _ _ => rfl)) (pg_sub (fldK K (pv 0)) (pv 1) set_list)))
      pss_nil)
    (pss_cons (ps_expr (pe_bm PySem.F.plainAttrs_list PySem.F.slot_list_append PySem.F.type_list_append mt_append (fldK K (pv 0)) (pa_cons (pe_tup (pa_cons (fldK K (pv 0)) (pa_cons (pv 1) (pa_cons (pv 2) (pa_cons (pe_ix (ixL K) (fldK K (pv 0)) (pv 1) (fun _ _ => rfl)) pa_nil))))) pa_nil)))
    (pss_cons (ps_expr (pe_bm PySem.F.plainAttrs_list PySem.F.slot_list_append PySem.F.type_list_append mt_append (fldK K (pv 0)) (pa_cons (pe_tup (pa_cons (pe_op op_add (fldK K (pv 0)) (fldK K (fldK K (pv 0)))) (pa_cons (pv 1) (pa_cons (pv 2) (pa_cons (pe_ix (ixL K) (fldK K (pv 0)) (pv 1) (fun _ _ => rfl)) pa_nil))))) pa_nil)))
    (pss_cons (ps_asg pe_int (pg_sub (fldK K (pv 0)) (pv 1) set_list))
    (pss_one (ps_asg pe_non (pg_sub (fldK K (pv 0)) (pv 1) set_list))))))))), ?_⟩
  obtain ⟨_, _, _, rfl, Hb, S, L, C, D, W, k, m, rfl, rfl, rfl, fi, at0, fm, hm0, hm, hk, hlg, q⟩ := h
  obtain ⟨st, hst, hp, es⟩ := fm.stk k
  have hsl := ssum_len st hp
  refine ⟨_, rfl, _, _, _, rfl, at0.o0, rfl, _, rfl, _, rfl, _, _, _, rfl, Hb, S, L, C, D, k, m, st, rfl, rfl, rfl, at0, hst, hp, hm0, by omega, by omega, fun H1 v' g st' at1 t1 hst' hp' es' => ?_⟩
  refine ⟨_, rfl, _, _, _, _, _, rfl, at1.o0, T.c_Flow, T.a_Flow_out, rfl, _, rfl, _, _, _, _, rfl, rfl, SqL.of at1.o4, atK _ _, _, rfl, _, _, rfl, rfl, _, _, _, _, rfl, rfl, at1.o4, ixK _ _, ?_⟩
  obtain ⟨a2, t2⟩ := at1.m4 k (D.out k + m)
  generalize upd H1 (L 4) _ = H2 at a2 t2 ⊢
  dsimp only at a2
  obtain ⟨ldx, lt, hline⟩ := a2.line
  have eo : a2 = a2 := rfl
  apply join fun H3 => At K Hb H3 S L C { D with s := setB D.s k v', long := setB D.long k g, out := setB D.out k (D.out k + m), small := setB D.small k (if 0 < m ∧ m < S.size then D.out k + m else D.small k) } ∧ Tk H2 H3
  · intro tail
    refine ⟨_, rfl, _, _, rfl, rfl, _, rfl, ?_⟩
    refine ite_dec (fun h1 => ?_) (fun h1 => ?_)
    · refine ⟨_, rfl, _, _, _, _, _, rfl, a2.o0, T.c_Flow, T.a_Flow_line, rfl, _, _, _, _, _, rfl, hline, T.c_Line, T.a_Line_size, rfl, _, _, rfl, rfl, _, rfl, ?_⟩
      refine ite_dec (fun h2 => ?_) (fun h2 => ?_)
      · refine ⟨_, rfl, _, _, _, _, _, rfl, a2.o0, T.c_Flow, T.a_Flow_out, rfl, _, rfl, _, _, _, _, rfl, rfl, SqL.of a2.o4, atK _ _, _, rfl, _, _, _, _, _, rfl, a2.o0, T.c_Flow, T.a_Flow_small, rfl, _, rfl, _, _, _, _, rfl, rfl, a2.o6, ixK _ _, ?_⟩
        obtain ⟨a3, t3⟩ := a2.m6 k (setB D.out k (D.out k + m) k)
        dsimp only at a3 t3 ⊢
        refine tail _ ⟨?_, t3⟩
        rw [if_pos ⟨h1, h2⟩]
        have e4 : setB D.out k (D.out k + m) k = D.out k + m := setB_same
        rw [e4] at a3 ⊢
        exact a3
      · refine tail _ ⟨?_, .refl _⟩
        rw [if_neg (fun z => h2 z.2), setB_self]
        exact a2
    · refine ⟨_, rfl, iteF (tail _ ⟨?_, .refl _⟩)⟩
      rw [if_neg (fun z => h1 z.1), setB_self]
      exact a2
  · rintro H3 ⟨a3, t3⟩
    obtain ⟨ldx3, lt3, hline3⟩ := a3.line
    have hlgl : D.lgv.length ≤ 6000 := by rw [Paired.length fm.lg]; exact hlg
    have hflv : D.flv.length ≤ 6000 := by
      rw [Paired.length fm.fly, List.length_map]
      exact Nat.le_trans (List.length_filter_le _ _) hlg
    refine ⟨_, rfl, _, _, _, _, _, rfl, a3.o0, T.c_Flow, T.a_Flow_log, rfl, .inl ⟨rfl, _, SqL.of a3.o12⟩, _, rfl, _, _, _, _, _, rfl, a3.o0, T.c_Flow, T.a_Flow_tick, rfl, _, rfl, _, rfl, _, rfl, _, _, _, _, _, rfl, a3.o0, T.c_Flow, T.a_Flow_come, rfl, _, rfl, _, _, _, _, rfl, rfl, SqL.of a3.o7, atK _ _, by show 4 ≤ sizeLine; decide, fun u nu => ?_⟩
    have ku : Ke H3 (upd H3 u (.tup [.int D.tick, .int (kI k), .int m, .int (D.come k)])) := .new nu
    have hu : (upd H3 u (.tup [.int D.tick, .int (kI k), .int m, .int (D.come k)])) u = some (.tup [.int D.tick, .int (kI k), .int m, .int (D.come k)]) := upd_same
    generalize upd H3 u _ = H4 at ku hu ⊢
    have a4 := a3.ke ku
    refine ⟨L 12, _, _, rfl, rfl, a4.o12, by have := z6000; show D.lgv.length < _; omega, ?_⟩
    obtain ⟨a5, t5⟩ := a4.m12 (D.lgv ++ [.ref u])
    generalize upd H4 (L 12) _ = H5 at a5 t5 ⊢
    dsimp only at a5
    obtain ⟨ldx5, lt5, hline5⟩ := a5.line
    refine ⟨_, rfl, _, _, _, _, _, rfl, a5.o0, T.c_Flow, T.a_Flow_flight, rfl, .inl ⟨rfl, _, SqL.of a5.fl⟩, _, rfl, _, _, _, _, _, rfl, a5.o0, T.c_Flow, T.a_Flow_tick, rfl, _, rfl, _, _, _, _, _, rfl, a5.o0, T.c_Flow, T.a_Flow_line, rfl, _, _, _, _, _, rfl, hline5, T.c_Line, T.a_Line_way, rfl, _, _, rfl, rfl, _, rfl, _, rfl, _, rfl, _, _, _, _, _, rfl, a5.o0, T.c_Flow, T.a_Flow_come, rfl, _, rfl, _, _, _, _, rfl, rfl, SqL.of a5.o7, atK _ _, by show 4 ≤ sizeLine; decide, fun x nx => ?_⟩
    have kx : Ke H5 (upd H5 x (.tup [.int (D.tick + S.way), .int (kI k), .int m, .int (D.come k)])) := .new nx
    have hx : (upd H5 x (.tup [.int (D.tick + S.way), .int (kI k), .int m, .int (D.come k)])) x = some (.tup [.int (D.tick + S.way), .int (kI k), .int m, .int (D.come k)]) := upd_same
    generalize upd H5 x _ = H6 at kx hx ⊢
    have a6 := a5.ke kx
    refine ⟨D.fl, _, _, rfl, rfl, a6.fl, by have := z6000; show D.flv.length < _; omega, ?_⟩
    obtain ⟨a7, t7⟩ := a6.fly (D.flv ++ [.ref x])
    generalize upd H6 D.fl _ = H7 at a7 t7 ⊢
    dsimp only at a7
    refine ⟨_, rfl, _, _, _, _, _, rfl, a7.o0, T.c_Flow, T.a_Flow_full, rfl, _, rfl, _, _, _, _, rfl, rfl, a7.o9, ixK _ _, ?_⟩
    obtain ⟨a8, t8⟩ := a7.m9 k 0
    generalize upd H7 (L 9) _ = H8 at a8 t8 ⊢
    dsimp only at a8
    refine ⟨_, rfl, _, _, _, _, _, rfl, a8.o0, T.c_Flow, T.a_Flow_first, rfl, _, rfl, _, _, _, _, rfl, rfl, a8.o10, ixK _ _, ?_⟩
    obtain ⟨a9, t9⟩ := a8.m10 k none
    have e9 : oV none = V.non := rfl
    rw [e9] at a9 t9
    generalize upd H8 (L 10) _ = H9 at a9 t9 ⊢
    have t19 : Tk H1 H9 := t2.trans (t3.trans (ku.tk.trans (t5.trans (kx.tk.trans (t7.trans (t8.trans t9))))))
    refine q H9 _ a9 ?_ (t1.trans t19)
    exact FM.send (g := g) fi fm (t1.trans t19) (hst'.tk t19) hp' (by omega) ⟨u, rfl, by show H9 u = some (HO.tup [.int W.tick, .int (kI k), .int m, .int (W.sd k).come]); rw [← fm.tick, ← fm.come]; exact (t5.trans (kx.tk.trans (t7.trans (t8.trans t9)))) _ _ hu⟩ ⟨x, rfl, by show H9 x = some (HO.tup [.int (W.tick + S.way), .int (kI k), .int m, .int (W.sd k).come]); rw [← fm.tick, ← fm.come]; exact (t7.trans (t8.trans t9)) _ _ hx⟩
def ruB (S : Sh) (W : Wo) (k : Bool) : Bool := decide (mark S W k ≤ (W.sd k).known)
abbrev N_Flow_lets : List Str := ["self", "side", "rule"]
theorem sc_Flow_lets : FnScope N_Flow_lets ["self", "side"] (defScope s_Flow_lets) := ⟨rfl, rfl, rfl, by decide +kernel, rfl, by decide +kernel, by decide +kernel⟩
theorem ok_lets (T : Tx K mg w) : Okm P w K mg base "Flow" "lets" ["self", "side"] 1 (sp2 fun s sd H Q => ∃ Hb S L C D W k, s = .ref (L 0) ∧ sd = .int (kI k) ∧ At K Hb H S L C D ∧ FM S H C D W ∧ (W.sd k).known ≤ (W.sd k).out ∧ 0 ≤ (W.sd k).known ∧ Q (.bl (ruB S W k)) H) := by
  refine mkM T ix_Flow_lets rfl T.c_Flow T.m_Flow_lets sc_Flow_lets (fun _ _ _ _ _ _ us hl => match us, hl with | [_, _], _ => rfl) len2 (fun cdv A outer s0 H0 E vs Q hr h => ?_)
  refine ⟨_, (pss_cons (ps_set (i := 2) sc_Flow_lets.nd rfl (Or.inl rfl) (fldK K (pe_ix (ixT K) (fldK K (pv 0)) (pv 1) (fun _ _ => rfl))))
    (pss_cons (ps_if (pt_cmpR op_eq (pv 2) pe_str (nomark _))
      (pss_one (ps_ret (pe_cmpR op_eq (pe_ix (ixL K) (fldK K (pv 0)) (pv 1) (fun _ _ => rfl)) (pe_ix (ixL K) (fldK K (pv 0)) (pv 1) (fun _ _ => rfl)) (nomark _))))
      pss_nil)
    (pss_one (ps_ret (pe_or (pe_cmpR op_eq (pv 2) pe_str (nomark _)) (pe_one (pe_cmpR op_le (pe_ix (ixL K) (fldK K (pv 0)) (pv 1) (fun _ _ => rfl)) (pe_ix (ixL K) (fldK K (pv 0)) (pv 1) (fun _ _ => rfl)) (nomark _)))))))), ?_⟩
  obtain ⟨_, _, rfl, Hb, S, L, C, D, W, k, rfl, rfl, at0, fm, hk, hk0, q⟩ := h
  obtain ⟨dx, t, hw⟩ := at0.set k
  refine ⟨_, rfl, _, _, _, _, _, rfl, at0.o0, T.c_Flow, T.a_Flow_settings, rfl, _, rfl, _, _, _, _, rfl, rfl, at0.se, atK _ _, _, _, _, _, _, rfl, hw, T.c_Setting, T.a_Setting_rule, rfl, ?_⟩
  unfold ruB mark at q
  cases e : S.rule k with
  | hold =>
    simp only [e] at q
    refine ⟨_, rfl, rfl, _, rfl, iteT ⟨_, rfl, _, _, _, _, _, rfl, at0.o0, T.c_Flow, T.a_Flow_out, rfl, _, rfl, _, _, _, _, rfl, rfl, SqL.of at0.o4, atK _ _, _, rfl, _, _, _, _, _, rfl, at0.o0, T.c_Flow, T.a_Flow_known, rfl, _, rfl, _, _, _, _, rfl, rfl, SqL.of at0.o5, atK _ _, rfl, ?_⟩⟩
    rw [dec_int', fm.out, fm.known]
    have z : decide ((W.sd k).out = (W.sd k).known) = decide ((W.sd k).out ≤ (W.sd k).known) := decide_eq_decide.mpr ⟨fun h => by omega, fun h => by omega⟩
    rw [z]
    exact q
  | plain =>
    simp only [e] at q
    refine ⟨_, rfl, rfl, _, rfl, iteF ⟨_, rfl, rfl, _, rfl, iteT ?_⟩⟩
    rw [decide_eq_true hk0] at q
    exact q
  | few =>
    simp only [e] at q
    refine ⟨_, rfl, rfl, _, rfl, iteF ⟨_, rfl, rfl, _, rfl, iteF ⟨_, rfl, _, _, _, _, _, rfl, at0.o0, T.c_Flow, T.a_Flow_small, rfl, _, rfl, _, _, _, _, rfl, rfl, SqL.of at0.o6, atK _ _, _, rfl, _, _, _, _, _, rfl, at0.o0, T.c_Flow, T.a_Flow_known, rfl, _, rfl, _, _, _, _, rfl, rfl, SqL.of at0.o5, atK _ _, _, _, rfl, rfl, ?_⟩⟩⟩
    rw [fm.small, fm.known]
    exact q
abbrev N_Flow_let_go : List Str := ["self", "side", "amount"]
theorem sc_Flow_let_go : FnScope N_Flow_let_go ["self", "side"] (defScope s_Flow_let_go) := ⟨rfl, rfl, rfl, by decide +kernel, rfl, by decide +kernel, by decide +kernel⟩
theorem ok_let_go (T : Tx K mg w) : Okm P w K mg base "Flow" "let_go" ["self", "side"] 3 (sp2 fun s sd H Q => ∃ Hb S L C D W k Pl, s = .ref (L 0) ∧ sd = .int (kI k) ∧ Fine S ∧ At K Hb H S L C D ∧ FM S H C D W ∧ Bnd S W Pl ∧
    ∀ H' D', At K Hb H' S L C D' → FM S H' C D' (free S W k) → Tk H H' → Q .non H') := by
  have O_Flow_kept := ok_kept (P := P) (w := w) (base := base) T
  have O_Flow_send := ok_send (P := P) (w := w) (base := base) T
  have O_Flow_lets := ok_lets (P := P) (w := w) (base := base) T
  refine mkM T ix_Flow_let_go rfl T.c_Flow T.m_Flow_let_go sc_Flow_let_go (fun _ _ _ _ _ _ us hl => match us, hl with | [_, _], _ => rfl) len2 (fun cdv A outer s0 H0 E vs Q hr h => ?_)
  refine ⟨_, (pss_cons (ps_while PassesOwn.never (pt_cmpR op_ge (pe_m K O_Flow_kept (hr.mono (by decide)) (pv 0) (pa_cons (pv 1) pa_nil)) (fldK K (fldK K (pv 0))) (nomark _))
      (pss_one (ps_expr (pe_m K O_Flow_send (hr.mono (by decide)) (pv 0) (pa_cons (pv 1) (pa_cons (fldK K (fldK K (pv 0))) pa_nil))))))
    (pss_cons (ps_set (i := 2) sc_Flow_let_go.nd rfl (Or.inl rfl) (pe_m K O_Flow_kept (hr.mono (by decide)) (pv 0) (pa_cons (pv 1) pa_nil)))
    (pss_one (ps_if (PW.pt (pw_and (pt_cmpR op_gt (pv 2) pe_int (nomark _)) (pw_and1 (pt_val (pe_m K O_Flow_lets (hr.mono (by decide)) (pv 0) (pa_cons (pv 1) pa_nil))))))
      (pss_one (ps_expr (pe_m K O_Flow_send (hr.mono (by decide)) (pv 0) (pa_cons (pv 1) (pa_cons (pv 2) pa_nil)))))
      pss_nil)))), ?_⟩
  obtain ⟨_, _, rfl, Hb, S, L, C, D, W, k, Pl, rfl, rfl, fi, at0, fm, bd, q⟩ := h
  refine ⟨fun i σ H => ∃ n D st, i = many S W k - n ∧ n ≤ many S W k ∧ σ = [some (.ref (L 0)), some (.int (kI k)), st] ∧ At K Hb H S L C D ∧ FM S H C D (fulls S W k n) ∧ Tk H0 H,
    ⟨many S W k, 0, D, _, rfl, Nat.zero_le _, rfl, at0, fm, .refl _⟩, ?_⟩
  rintro i σ H ⟨n, D, t, rfl, hn, rfl, at1, fm1, tk⟩
  have ld := Leads.fulls (k := k) fi bd.good n hn
  have bd1 := bd.leads ld
  obtain ⟨st, hst, hp, es⟩ := fm1.stk k
  have hsl := ssum_len st hp
  have hkp := bd1.kept k
  have hlg := bd1.log
  obtain ⟨ldx, lt, hline⟩ := at1.line
  refine ⟨_, rfl, _, _, _, rfl, at1.o0, rfl, _, rfl, _, _, rfl, Hb, S, L, C, D, k, st, rfl, rfl, at1, hst, by omega, fun H1 k1 => ?_⟩
  have at2 := at1.ke k1
  refine ⟨_, rfl, _, _, _, _, _, rfl, at2.o0, T.c_Flow, T.a_Flow_line, rfl, _, _, _, _, _, rfl, k1.ins hline, T.c_Line, T.a_Line_size, rfl, _, _, rfl, rfl, _, rfl, ?_⟩
  rw [es]
  refine ite_dec (fun hc => ?_) (fun hc => ?_)
  · have hlt : n < many S W k := (more_iff fi bd.good hn).mp hc
    refine ⟨fun σ H => ∃ D st, σ = [some (.ref (L 0)), some (.int (kI k)), st] ∧ At K Hb H S L C D ∧ FM S H C D (fulls S W k (n + 1)) ∧ Tk H0 H, fun σ' H' ⟨D, st, e, a, b, c⟩ => ⟨many S W k - (n + 1), by omega, n + 1, D, st, rfl, hlt, e, a, b, c⟩, ?_⟩
    have hline2 := k1.ins hline
    refine ⟨_, rfl, _, _, _, rfl, at2.o0, rfl, _, rfl, _, rfl, _, _, _, _, _, rfl, at2.o0, T.c_Flow, T.a_Flow_line, rfl, _, _, _, _, _, rfl, hline2, T.c_Line, T.a_Line_size, rfl, _, _, _, rfl, Hb, S, L, C, D, _, k, S.size, rfl, rfl, rfl, fi, at2, fm1.tk k1.tk, by have := fi.size; omega, hc, by omega, by omega, fun H' D' a b t => ?_⟩
    exact ⟨D', _, rfl, a, b, tk.trans (k1.tk.trans t)⟩
  · have hge : n = many S W k := Nat.le_antisymm hn (Nat.le_of_not_lt fun z => hc ((more_iff fi bd.good hn).mpr z))
    subst hge
    have at2 := at1.ke k1
    have fm2 := fm1.tk k1.tk
    obtain ⟨st2, hst2, hp2, es2⟩ := fm2.stk k
    have hsl2 := ssum_len st2 hp2
    refine ⟨_, rfl, _, _, _, rfl, at2.o0, rfl, _, rfl, _, _, rfl, Hb, S, L, C, D, k, st2, rfl, rfl, at2, hst2, by omega, fun H2 k2 => ?_⟩
    have at3 := at2.ke k2
    have fm3 := fm2.tk k2.tk
    have tk3 := tk.trans (k1.tk.trans k2.tk)
    rw [es2]
    refine ⟨_, rfl, _, _, rfl, rfl, _, rfl, ?_⟩
    have ef : free S W k = rest S (fulls S W k (many S W k)) k := rfl
    rw [ef] at q
    unfold rest at q
    refine ite_dec (fun h1 => ?_) (fun h1 => ?_)
    · refine ⟨_, rfl, _, _, _, rfl, at3.o0, rfl, _, rfl, _, _, rfl, Hb, S, L, C, D, _, k, rfl, rfl, at3, fm3, bd1.good.known k, bd1.good.known0 k, ?_⟩
      refine ⟨_, rfl, ?_⟩
      unfold ruB
      refine ite_dec (fun h2 => ?_) (fun h2 => ?_)
      · rw [if_pos ⟨h1, h2⟩] at q
        exact ⟨_, rfl, _, _, _, rfl, at3.o0, rfl, _, rfl, _, rfl, _, _, _, rfl, Hb, S, L, C, D, _, k, _, rfl, rfl, rfl, fi, at3, fm3, by omega, Int.le_refl _, by omega, by omega, fun H' D' a b t => q H' D' a b (tk3.trans t)⟩
      · rw [if_neg (fun z => h2 z.2)] at q
        exact q H2 D at3 fm3 tk3
    · rw [if_neg (fun z => h1 z.1)] at q
      exact q H2 D at3 fm3 tk3
abbrev N_Flow_put : List Str := ["self", "side", "amount"]
theorem sc_Flow_put : FnScope N_Flow_put ["self", "side", "amount"] (defScope s_Flow_put) := ⟨rfl, rfl, rfl, by decide +kernel, rfl, by decide +kernel, by decide +kernel⟩
theorem ok_put (T : Tx K mg w) : Okm P w K mg base "Flow" "put" ["self", "side", "amount"] 4 (sp3 fun s sd am H Q => ∃ Hb S L C D W k m Pl, s = .ref (L 0) ∧ sd = .int (kI k) ∧ am = .int m ∧ Fine S ∧ At K Hb H S L C D ∧ FM S H C D W ∧ 1 ≤ m ∧ (W.sd k).kept ≤ 6000 ∧ Bnd S (W.put k { W.sd k with kept := (W.sd k).kept + m }) Pl ∧
    ∀ H' D', At K Hb H' S L C D' → FM S H' C D' (free S (W.put k { W.sd k with kept := (W.sd k).kept + m }) k) → Tk H H' → Q .non H') := by
  have O_Flow_let_go := ok_let_go (P := P) (w := w) (base := base) T
  refine mkM T ix_Flow_put rfl T.c_Flow T.m_Flow_put sc_Flow_put (fun _ _ _ _ _ _ us hl => match us, hl with | [_, _, _], _ => rfl) len3 (fun cdv A outer s0 H0 E vs Q hr h => ?_)
  refine ⟨_, (pss_cons (ps_expr (pe_bm PySem.F.plainAttrs_list PySem.F.slot_list_append PySem.F.type_list_append mt_append (pe_ix (ixL K) (fldK K (pv 0)) (pv 1) (fun _ _ => rfl)) (pa_cons (pe_tup (pa_cons (pv 2) (pa_cons (fldK K (pv 0)) pa_nil))) pa_nil)))
    (pss_one (ps_expr (pe_m K O_Flow_let_go (hr.mono (by decide)) (pv 0) (pa_cons (pv 1) pa_nil))))), ?_⟩
  obtain ⟨_, _, _, rfl, Hb, S, L, C, D, W, k, m, Pl, rfl, rfl, rfl, fi, at0, fm, hm, hk, bd, q⟩ := h
  obtain ⟨st, hst, hp, es⟩ := fm.stk k
  have hsl := ssum_len st hp
  have hln : (D.s k).length = st.length := Paired.length hst
  refine ⟨_, rfl, _, _, _, _, _, rfl, at0.o0, T.c_Flow, T.a_Flow_stock, rfl, _, rfl, _, _, _, _, rfl, rfl, SqL.of at0.o1, atK _ _, .inl ⟨rfl, _, SqL.of (at0.oS k)⟩, _, rfl, _, rfl, _, _, _, _, _, rfl, at0.o0, T.c_Flow, T.a_Flow_tick, rfl, by show 2 ≤ sizeLine; decide, fun u nu => ?_⟩
  have ku : Ke H0 (upd H0 u (.tup [.int m, .int D.tick])) := .new nu
  have hu : (upd H0 u (.tup [.int m, .int D.tick])) u = some (.tup [.int m, .int D.tick]) := upd_same
  generalize upd H0 u _ = H1 at ku hu ⊢
  have a1 := at0.ke ku
  refine ⟨L (2 + kN k), _, _, rfl, rfl, a1.oS k, by have := z6000; omega, ?_⟩
  obtain ⟨a2, t2⟩ := a1.mS k (D.s k ++ [.ref u])
  generalize upd H1 (L (2 + kN k)) _ = H2 at a2 t2 ⊢
  refine ⟨_, rfl, _, _, _, rfl, a2.o0, rfl, _, rfl, _, _, rfl, Hb, S, L, C, _, W.put k { W.sd k with kept := (W.sd k).kept + m }, k, Pl, rfl, rfl, fi, a2, ?_, bd, fun H' D' a b t => q H' D' a b (ku.tk.trans (t2.trans t))⟩
  have fm := fm.tk (ku.tk.trans t2)
  have ev : ∀ {α : Type} (f : Sd → α), f { W.sd k with kept := (W.sd k).kept + m } = f (W.sd k) → ∀ j, f ((W.put k { W.sd k with kept := (W.sd k).kept + m }).sd j) = f (W.sd j) := fun f e j => by
    rcases Sm.two k j with rfl | rfl
    · rw [Wo.put_same]; exact e
    · rw [Wo.put_other]
  refine ⟨fm.tick, fun j => (fm.out j).trans (ev Sd.out rfl j).symm, fun j => (fm.known j).trans (ev Sd.known rfl j).symm, fun j => (fm.small j).trans (ev Sd.small rfl j).symm, fun j => (fm.come j).trans (ev Sd.come rfl j).symm, fun j => (fm.taken j).trans (ev Sd.used rfl j).symm, fun j => (fm.full j).trans (ev Sd.full rfl j).symm, fun j => (fm.first j).trans (ev Sd.since rfl j).symm, fun j => ?_, fm.fly, fm.lg, fun j => (fm.til j).trans (ev Sd.til rfl j).symm, fun j => (fm.fin j).trans (ev Sd.fin rfl j).symm, fun j => by rw [ev Sd.todo rfl j]; exact fm.place j⟩
  rcases Sm.two k j with rfl | rfl
  · rw [Wo.put_same]
    refine ⟨st ++ [(m, D.tick)], ?_, fun q hq => ?_, ?_⟩
    · show StkV H2 (setB D.s j _ j) _
      rw [setB_same]
      exact psnoc (hst.tk (ku.tk.trans t2)) ⟨u, rfl, t2 _ _ hu⟩
    · rcases List.mem_append.mp hq with hq | hq
      · exact hp q hq
      · rw [List.mem_singleton.mp hq]
        exact hm
    · rw [ssum_append, es]
      show _ + (m + 0) = (W.sd j).kept + m
      omega
  · rw [Wo.put_other]
    show ∃ st, StkV H2 (setB D.s k _ (!k)) st ∧ _
    rw [setB_other]
    exact fm.stk _
end
end Sm

/-! The program's flow: pieces arrive; answers; the next tick. -/
namespace Sm
open PySem PySem.Spec PyProof.Rows L2
theorem minK {X : Cx} (K : PySem.W.Frag) (hc : X.calm = true) (h : X.K = K := by rfl) : CallR X (.builtin "min") (rMin K) := h ▸ cr_min hc
theorem maxK {X : Cx} (K : PySem.W.Frag) (hc : X.calm = true) (h : X.K = K := by rfl) : CallR X (.builtin "max") (rMax K) := h ▸ cr_max hc
/-- the values whose partners are such -/
def selV {α : Type} (q : α → Bool) : List V → List α → List V
  | v :: vs, p :: ps => if q p = true then v :: selV q vs ps else selV q vs ps
  | _, _ => []
theorem selV_take {α : Type} (q : α → Bool) : ∀ (vs : List V) (ps : List α) (i : Nat) (v : V) (p : α), vs[i]? = some v → ps[i]? = some p → selV q (vs.take (i + 1)) (ps.take (i + 1)) = selV q (vs.take i) (ps.take i) ++ (if q p = true then [v] else [])
  | [], _, _, _, _, h, _ => by simp at h
  | _ :: _, [], _, _, _, _, h => by simp at h
  | v :: vs, p :: ps, 0, _, _, h1, h2 => by
    cases h1; cases h2
    show (if q p = true then v :: selV q (vs.take 0) (ps.take 0) else selV q (vs.take 0) (ps.take 0)) = [] ++ _
    cases q p <;> rfl
  | v :: vs, p :: ps, i + 1, u, r, h1, h2 => by
    have ih := selV_take q vs ps i u r h1 h2
    show (if q p = true then v :: selV q (vs.take (i + 1)) (ps.take (i + 1)) else selV q (vs.take (i + 1)) (ps.take (i + 1))) = (if q p = true then v :: selV q (vs.take i) (ps.take i) else selV q (vs.take i) (ps.take i)) ++ _
    rw [ih]
    cases q p <;> simp
theorem selV_len {α : Type} (q : α → Bool) : ∀ (vs : List V) (ps : List α), (selV q vs ps).length ≤ vs.length
  | [], _ => by simp [selV]
  | _ :: _, [] => by simp [selV]
  | v :: vs, p :: ps => by
    have := selV_len q vs ps
    unfold selV
    split
    · simp only [List.length_cons]; omega
    · simp only [List.length_cons]; omega
theorem selV_pair {α : Type} {R : V → α → Prop} (q : α → Bool) : ∀ {vs : List V} {ps : List α}, Paired R vs ps → Paired R (selV q vs ps) (ps.filter q)
  | _, _, .nil => .nil
  | v :: vs, p :: ps, .cons h1 h2 => by
    have ih := selV_pair (R := R) q h2
    unfold selV
    cases e : q p with
    | true =>
      rw [List.filter_cons_of_pos e]
      exact .cons h1 ih
    | false =>
      rw [List.filter_cons_of_neg (by rw [e]; decide)]
      exact ih
theorem FM.land {S : Sh} {H : Hp} {C : FC} {D : FD} {W : Wo} (p : Pc) {k : Bool} {kn co fu : Int} {fi : Option Int} (hk : k = !p.k) (fm : FM S H C D W) (e1 : kn = max (W.sd k).known p.a) (e2 : co = (W.sd k).come + p.m) (e3 : fu = (W.sd k).full + (if p.m = S.size then 1 else 0)) (e4 : fi = if 0 < p.m ∧ (W.sd k).since = none then some W.tick else (W.sd k).since) :
    FM S H C { D with known := setB D.known k kn, come := setB D.come k co, full := setB D.full k fu, first := setB D.first k fi } (Sm.land S W p) := by
  subst hk
  have ev : ∀ {α : Type} (f : Sd → α), (∀ s kn co fu si, f { s with known := kn, come := co, full := fu, since := si } = f s) → ∀ j, f ((Sm.land S W p).sd j) = f (W.sd j) := fun f e j => by
    show f ((W.put (!p.k) _).sd j) = _
    rcases Sm.two (!p.k) j with rfl | rfl
    · rw [Wo.put_same]; exact e _ _ _ _ _
    · rw [Wo.put_other]
  have eu : ∀ {α : Type} (f : Sd → α) (g : Bool → α) (v : α), (∀ j, g j = f (W.sd j)) → v = f ((Sm.land S W p).sd (!p.k)) → ∀ j, setB g (!p.k) v j = f ((Sm.land S W p).sd j) := fun f g v h1 h2 j => by
    rcases Sm.two (!p.k) j with rfl | rfl
    · rw [setB_same]; exact h2
    · rw [setB_other]
      show _ = f ((W.put (!p.k) _).sd _)
      rw [Wo.put_other]
      exact h1 _
  have es : (Sm.land S W p).sd (!p.k) = { W.sd (!p.k) with known := max (W.sd (!p.k)).known p.a, come := (W.sd (!p.k)).come + p.m, full := (W.sd (!p.k)).full + (if p.m = S.size then 1 else 0), since := if 0 < p.m ∧ (W.sd (!p.k)).since = none then some W.tick else (W.sd (!p.k)).since } := Wo.put_same _ _ _
  refine ⟨fm.tick, fun j => (fm.out j).trans (ev Sd.out (fun _ _ _ _ _ => rfl) j).symm, eu Sd.known _ _ fm.known ?_, fun j => (fm.small j).trans (ev Sd.small (fun _ _ _ _ _ => rfl) j).symm, eu Sd.come _ _ fm.come ?_, fun j => (fm.taken j).trans (ev Sd.used (fun _ _ _ _ _ => rfl) j).symm, eu Sd.full _ _ fm.full ?_, eu Sd.since _ _ fm.first ?_, fun j => by rw [ev Sd.kept (fun _ _ _ _ _ => rfl) j]; exact fm.stk j, fm.fly, fm.lg,
    fun j => (fm.til j).trans (ev Sd.til (fun _ _ _ _ _ => rfl) j).symm, fun j => (fm.fin j).trans (ev Sd.fin (fun _ _ _ _ _ => rfl) j).symm, fun j => by rw [ev Sd.todo (fun _ _ _ _ _ => rfl) j]; exact fm.place j⟩
  · rw [es, e1]
  · rw [es, e2]
  · rw [es, e3]
  · rw [es, e4]
section
variable {K : PySem.W.Frag} {Hb H H' : Hp} {S : Sh} {L : Nat → Addr} {C : FC} {D D' : FD}
theorem FCok.ke {Hb' : Hp} (h : FCok K Hb S C) (k : Ke Hb Hb') : FCok K Hb' S C :=
  ⟨let ⟨dx, t, q⟩ := h.line; ⟨dx, t, k.ins q⟩, h.near.ke k, h.far.ke k, k.tup h.se, fun j => k.lst (h.q j), fun j => (h.td j).tk k.tk, h.few⟩
/-- another base: all that stands beside the flow -/
theorem At.rebase (h : At K Hb H S L C D) : ∃ Hb', At K Hb' H S L C D ∧ Ke Hb Hb' ∧ ∀ a o, H a = some o → (∀ i, i < 15 → a ≠ L i) → a ≠ D.fl → Hb' a = some o := by
  classical
  let M : Addr → Prop := fun a => (∃ i, i < 15 ∧ a = L i) ∨ a = D.fl
  let Hb' : Hp := fun a => if M a then none else H a
  have e1 : ∀ a, M a → Hb' a = none := fun a h => if_pos h
  have e2 : ∀ a, ¬ M a → Hb' a = H a := fun a h => if_neg h
  have out : ∀ a, M a → Hb a = none := fun a z => z.elim (fun ⟨i, hi, e⟩ => e ▸ h.nb i hi) (fun e => e ▸ h.nfl)
  have som : ∀ a o, Hb a = some o → Hb' a = H a := fun a o e => e2 a fun z => by rw [out a z] at e; cases e
  have kb : Ke Hb Hb' := by
    refine ⟨fun b o hb n => ?_, fun b ps hb => ?_, fun b q eq hb => ?_⟩
    · rw [som b o hb]; exact h.base.keep b o hb n
    · rw [som b _ hb]; exact h.base.tbl b ps hb
    · obtain ⟨ps0, h0, _⟩ := id hb
      obtain ⟨ps, h1, h2, h3⟩ := h.base.tab b q eq hb
      refine ⟨ps, by rw [som b _ h0]; exact h1, h2, fun pos cv hc => ?_⟩
      obtain ⟨c, c1, c2⟩ := h3 pos cv hc
      refine ⟨c, c1, ?_⟩
      rw [e2 c]
      · exact c2
      · rintro (⟨i, hi, e⟩ | e)
        · rw [e] at c2
          exact h.noCode hi _ _ c2
        · rw [e] at c2
          exact noCode_lst h.fl _ _ c2
  have sm : Same Hb' H := fun b o hb => by
    by_cases z : M b
    · rw [e1 b z] at hb; cases hb
    · rw [e2 b z] at hb; exact hb
  refine ⟨Hb', ⟨h.ok.ke kb, .of sm, h.inj, fun i hi => e1 _ (.inl ⟨i, hi, rfl⟩), h.ob, h.fl, e1 _ (.inr rfl), h.xfl⟩, kb, fun a o ha n1 n2 => ?_⟩
  rw [e2 a (fun z => z.elim (fun ⟨i, hi, e⟩ => n1 i hi e) n2)]
  exact ha
/-- back to the base before -/
theorem At.back {Hb' : Hp} {H0 : Hp} {D0 : FD} (h : At K Hb' H S L C D) (h0 : At K Hb H0 S L C D0) (kb : Ke Hb Hb') : At K Hb H S L C D :=
  ⟨h0.ok, kb.trans h.base, h.inj, h0.nb, h.ob, h.fl, kb.free h.nfl, h.xfl⟩
end
section
variable {P : Program} {w : World} {K : PySem.W.Frag} {mg : Str → Option Value} {base : Heap}
theorem scal_int (a b : Int) : scal (.int a) (.int b) = true := rfl
abbrev N_Flow_land : List Str := ["self", "sender", "amount", "answered", "side"]
theorem sc_Flow_land : FnScope N_Flow_land ["self", "sender", "amount", "answered"] (defScope s_Flow_land) := ⟨rfl, rfl, rfl, by decide +kernel, rfl, by decide +kernel, by decide +kernel⟩
theorem ok_land (T : Tx K mg w) : Okm P w K mg base "Flow" "land" ["self", "sender", "amount", "answered"] 1 (sp4 fun s sd am an H Q => ∃ Hb S L C D W p, s = .ref (L 0) ∧ sd = .int (kI p.k) ∧ am = .int p.m ∧ an = .int p.a ∧ Fine S ∧ At K Hb H S L C D ∧ FM S H C D W ∧ 0 ≤ p.m ∧
    ∀ H' D', At K Hb H' S L C D' → FM S H' C D' (Sm.land S W p) → Tk H H' → Q .non H') := by
  refine mkM T ix_Flow_land rfl T.c_Flow T.m_Flow_land sc_Flow_land (fun _ _ _ _ _ _ us hl => match us, hl with | [_, _, _, _], _ => rfl) len4 (fun cdv A outer s0 H0 E vs Q hr h => ?_)
  refine ⟨_, (pss_cons (ps_set (i := 4) sc_Flow_land.nd rfl (Or.inl rfl) (pe_op op_sub pe_int (pv 1)))
    (pss_cons (ps_asg (pe_callB (call_max2 rfl) (by rfl) T.n_max (by decide +kernel) (pa_cons (pe_ix (ixL K) (fldK K (pv 0)) (pv 4) (fun _ _ => rfl)) (pa_cons (pv 3) pa_nil))) (pg_sub (fldK K (pv 0)) (pv 4) set_list))
    (pss_one (ps_if (pt_cmpR op_gt (pv 2) pe_int (nomark _))
      (pss_cons (ps_augS (fldK K (pv 0)) (pv 4) get_list (pv 2) ip_add set_list)
    (pss_cons (ps_if (pt_cmpR op_eq (pv 2) (fldK K (fldK K (pv 0))) (nomark _))
      (pss_one (ps_augS (fldK K (pv 0)) (pv 4) get_list pe_int ip_add set_list))
      pss_nil)
    (pss_one (ps_if (pt_cmpR op_isN (pe_ix (ixL K) (fldK K (pv 0)) (pv 4) (fun _ _ => rfl)) pe_non (nomark _))
      (pss_one (ps_asg (fldK K (pv 0)) (pg_sub (fldK K (pv 0)) (pv 4) set_list)))
      pss_nil))))
      pss_nil)))), ?_⟩
  obtain ⟨_, _, _, _, rfl, Hb, S, L, C, D, W, p, rfl, rfl, rfl, rfl, fi, at0, fm, hm, q⟩ := h
  refine ⟨_, rfl, _, _, rfl, rfl, ?_⟩
  show gName 4 (V.int (1 - kI p.k)) _ _ _
  rw [kN_int]
  have es : ∃ k, k = !p.k := ⟨_, rfl⟩
  obtain ⟨k, es⟩ := es
  rw [← es]
  refine ⟨_, rfl, _, _, _, _, _, rfl, at0.o0, T.c_Flow, T.a_Flow_known, rfl, _, rfl, _, _, _, _, rfl, rfl, SqL.of at0.o5, atK _ _, _, rfl, _, _, rfl, _, rfl, _, _, _, _, _, rfl, at0.o0, T.c_Flow, T.a_Flow_known, rfl, _, rfl, _, _, _, _, rfl, rfl, at0.o5, ixK _ _, ?_⟩
  obtain ⟨a1, t1⟩ := at0.m5 k (if p.a > D.known k then p.a else D.known k)
  generalize upd H0 (L 5) _ = H1 at a1 t1 ⊢
  have ek : (if p.a > D.known k then p.a else D.known k) = max (W.sd k).known p.a := by
    rw [fm.known]
    split <;> omega
  rw [ek] at a1
  refine ⟨_, rfl, _, _, rfl, rfl, _, rfl, ?_⟩
  refine ite_dec (fun h1 => ?_) (fun h1 => ?_)
  · refine ⟨_, rfl, _, _, _, _, _, rfl, a1.o0, T.c_Flow, T.a_Flow_come, rfl, _, rfl, _, _, _, _, rfl, rfl, SqL.of a1.o7, atK _ _, _, rfl, _, _, rfl, rfl, _, _, _, _, rfl, rfl, a1.o7, ixK _ _, ?_⟩
    obtain ⟨a2, t2⟩ := a1.m7 k (D.come k + p.m)
    generalize upd H1 (L 7) _ = H2 at a2 t2 ⊢
    dsimp only at a2
    obtain ⟨ldx, lt, hline⟩ := a2.line
    refine ⟨_, rfl, _, rfl, _, _, _, _, _, rfl, a2.o0, T.c_Flow, T.a_Flow_line, rfl, _, _, _, _, _, rfl, hline, T.c_Line, T.a_Line_size, rfl, rfl, ?_⟩
    rw [dec_int']
    apply join fun H3 => At K Hb H3 S L C { D with known := setB D.known k (max (W.sd k).known p.a), come := setB D.come k (D.come k + p.m), full := setB D.full k (D.full k + (if p.m = S.size then 1 else 0)) } ∧ Tk H2 H3
    · intro tail
      refine ⟨_, rfl, ?_⟩
      refine ite_dec (fun h2 => ?_) (fun h2 => ?_)
      · refine ⟨_, rfl, _, _, _, _, _, rfl, a2.o0, T.c_Flow, T.a_Flow_full, rfl, _, rfl, _, _, _, _, rfl, rfl, SqL.of a2.o9, atK _ _, _, _, rfl, rfl, _, _, _, _, rfl, rfl, a2.o9, ixK _ _, ?_⟩
        obtain ⟨a3, t3⟩ := a2.m9 k (D.full k + 1)
        refine tail _ ⟨?_, t3⟩
        rw [if_pos h2]
        exact a3
      · refine tail _ ⟨?_, .refl _⟩
        rw [if_neg h2, Int.add_zero, setB_self]
        exact a2
    · rintro H3 ⟨a3, t3⟩
      have fin : ∀ f H4, At K Hb H4 S L C { D with known := setB D.known k (max (W.sd k).known p.a), come := setB D.come k (D.come k + p.m), full := setB D.full k (D.full k + (if p.m = S.size then 1 else 0)), first := setB D.first k f } → Tk H3 H4 → f = (if 0 < p.m ∧ (W.sd k).since = none then some W.tick else (W.sd k).since) → Q .non H4 := fun f H4 a4 t4 e4 =>
        q H4 _ a4 (FM.land p es (fm.tk (t1.trans (t2.trans (t3.trans t4)))) rfl (by rw [fm.come]) (by rw [fm.full]) e4) (t1.trans (t2.trans (t3.trans t4)))
      refine ⟨_, rfl, _, _, _, _, _, rfl, a3.o0, T.c_Flow, T.a_Flow_first, rfl, _, rfl, _, _, _, _, rfl, rfl, SqL.of a3.o10, atK _ _, ?_⟩
      have ef := fm.first k
      cases e : D.first k with
      | none =>
        rw [e] at ef
        refine ⟨rfl, _, rfl, iteT ⟨_, rfl, _, _, _, _, _, rfl, a3.o0, T.c_Flow, T.a_Flow_tick, rfl, _, rfl, _, _, _, _, _, rfl, a3.o0, T.c_Flow, T.a_Flow_first, rfl, _, rfl, _, _, _, _, rfl, rfl, a3.o10, ixK _ _, ?_⟩⟩
        obtain ⟨a4, t4⟩ := a3.m10 k (some D.tick)
        exact fin (some D.tick) _ a4 t4 (by rw [if_pos ⟨h1, ef.symm⟩, fm.tick])
      | some u =>
        rw [e] at ef
        refine ⟨rfl, _, rfl, iteF ?_⟩
        refine fin (D.first k) _ (by rw [setB_self]; exact a3) (.refl _) (by rw [if_neg (fun z => by rw [z.2] at ef; cases ef), fm.first])
  · have h0 : p.m = 0 := by omega
    have := FM.land (C := C) (D := D) (kn := max (W.sd k).known p.a) (co := D.come k) (fu := D.full k) (fi := D.first k) p es (fm.tk t1) rfl (by rw [fm.come, h0]; omega) (by rw [fm.full, if_neg (by have := fi.size; omega)]; omega) (by rw [fm.first, if_neg (fun z => h1 z.1)])
    rw [setB_self, setB_self, setB_self] at this
    exact q H1 _ a1 this t1
theorem flying_adv {S : Sh} {W : Wo} {t : Int} (h : W.tick ≤ t) : flying S (adv W t) = (flying S W).filter fun p => decide (t < p.t + S.way) := by
  show W.log.filter _ = (W.log.filter _).filter _
  rw [List.filter_filter]
  refine List.filter_congr fun p hp => ?_
  show decide (t < p.t + S.way) = (decide (t < p.t + S.way) && decide (W.tick < p.t + S.way))
  by_cases h1 : t < p.t + S.way
  · rw [decide_eq_true h1, decide_eq_true (show W.tick < p.t + S.way by omega)]
    rfl
  · rw [decide_eq_false h1]
    rfl
theorem landing_adv {S : Sh} {W : Wo} {t : Int} (h : ∀ p ∈ W.log, W.tick < p.t + S.way → t ≤ p.t + S.way) (h2 : ∀ p ∈ W.log, p.t + S.way = t → W.tick < t) : landing S (adv W t) = (flying S W).filter fun p => decide (p.t + S.way ≤ t) := by
  show W.log.filter _ = (W.log.filter _).filter _
  rw [List.filter_filter]
  refine List.filter_congr fun p hp => ?_
  show decide (p.t + S.way = t) = (decide (p.t + S.way ≤ t) && decide (W.tick < p.t + S.way))
  by_cases h1 : p.t + S.way = t
  · have := h2 p hp h1
    rw [decide_eq_true h1, decide_eq_true (show p.t + S.way ≤ t by omega), decide_eq_true (show W.tick < p.t + S.way by omega)]
    rfl
  · rw [decide_eq_false h1]
    by_cases h3 : W.tick < p.t + S.way
    · have := h p hp h3
      rw [decide_eq_false (show ¬ p.t + S.way ≤ t by omega)]
      rfl
    · rw [decide_eq_false h3, Bool.and_false]
theorem filter_map_shf (S : Sh) (q : Int → Bool) (l : List Pc) : (l.map (shf S)).filter (fun p => q p.t) = (l.filter fun p => q (p.t + S.way)).map (shf S) := by
  rw [List.filter_map]
  rfl
abbrev N_Flow_begin : List Str := ["self", "tick", "landing", "there", "sender", "amount", "answered", "side", "piece"]
theorem sc_Flow_begin : FnScope N_Flow_begin ["self", "tick"] (defScope s_Flow_begin) := ⟨rfl, rfl, rfl, by decide +kernel, rfl, by decide +kernel, by decide +kernel⟩
theorem ok_begin (T : Tx K mg w) : Okm P w K mg base "Flow" "begin" ["self", "tick"] 4 (sp2 fun s tv H Q => ∃ Hb S L C D W t, s = .ref (L 0) ∧ tv = .int t ∧ Fine S ∧ At K Hb H S L C D ∧ FM S H C D W ∧ W.tick ≤ t ∧ (∀ p ∈ W.log, W.tick < p.t + S.way → t ≤ p.t + S.way) ∧ (∀ p ∈ W.log, p.t + S.way = t → W.tick < t) ∧
    Bnd S (adv W t) (landing S (adv W t)) ∧ ∀ H' D', At K Hb H' S L C D' → FM S H' C D' (t1 S (adv W t)) → Q .non H') := by
  have O_Flow_land := ok_land (P := P) (w := w) (base := base) T
  have O_Flow_let_go := ok_let_go (P := P) (w := w) (base := base) T
  refine mkM T ix_Flow_begin rfl T.c_Flow T.m_Flow_begin sc_Flow_begin (fun _ _ _ _ _ _ us hl => match us, hl with | [_, _], _ => rfl) len2 (fun cdv A outer s0 H0 E vs Q hr h => ?_)
  refine ⟨_, (pss_cons (ps_fld (pv 0) (pv 1) rfl)
    (pss_cons (ps_setLc (i := 2) (own := [(("piece" : Str), 8)]) (by rfl) sc_Flow_begin.nd rfl rfl (sw_true rfl rfl rfl (by decide +kernel)) (piL K (fldK K (pv 0))) (blkOk_by (own := [(("piece" : Str), 8)]) (N := N_Flow_begin) (sc := defScope s_Flow_begin) (by decide +kernel)) (fun _ _ _ _ _ => pg_name (i := 8) sc_Flow_begin.nd rfl (Or.inl rfl)) (fun _ _ _ _ _ => pts_one (pt_cmpR op_le (pe_ix (ixT K) (pv 8) pe_int (fun _ _ => rfl)) (pv 1) (nomark _))) (fun _ _ _ _ _ => (pv 8)))
    (pss_cons (ps_fld (pv 0) (pe_lc (own := [(("piece" : Str), 8)]) (by rfl) sc_Flow_begin.nd (piL K (fldK K (pv 0))) (blkOk_by (own := [(("piece" : Str), 8)]) (N := N_Flow_begin) (sc := defScope s_Flow_begin) (by decide +kernel)) (fun _ _ _ _ _ => pg_name (i := 8) sc_Flow_begin.nd rfl (Or.inl rfl)) (fun _ _ _ _ _ => pts_one (pt_cmpR op_gt (pe_ix (ixT K) (pv 8) pe_int (fun _ _ => rfl)) (pv 1) (nomark _))) (fun _ _ _ _ _ => (pv 8))) rfl)
    (pss_cons (ps_for PassesOwn.never rfl (piL K (pv 2)) (pg_tup (by rfl) (pgs_cons (pg_name (i := 3) sc_Flow_begin.nd rfl (Or.inl rfl)) (pgs_cons (pg_name (i := 4) sc_Flow_begin.nd rfl (Or.inl rfl)) (pgs_cons (pg_name (i := 5) sc_Flow_begin.nd rfl (Or.inl rfl)) (pgs_cons (pg_name (i := 6) sc_Flow_begin.nd rfl (Or.inl rfl)) pgs_nil)))))
      (pss_one (ps_expr (pe_m K O_Flow_land (hr.mono (by decide)) (pv 0) (pa_cons (pv 4) (pa_cons (pv 5) (pa_cons (pv 6) pa_nil)))))))
    (pss_one (ps_for PassesOwn.never rfl (piT K (pe_tup (pa_cons pe_int (pa_cons pe_int pa_nil)))) (pg_name (i := 7) sc_Flow_begin.nd rfl (Or.inl rfl))
      (pss_one (ps_expr (pe_m K O_Flow_let_go (hr.mono (by decide)) (pv 0) (pa_cons (pv 7) pa_nil)))))))))), ?_⟩
  obtain ⟨_, _, rfl, Hb, S, L, C, D, W, t, rfl, rfl, fi, at0, fm, hle, hl, hl2, bd, q⟩ := h
  refine ⟨_, rfl, _, rfl, L 0, _, C.dx, _, rfl, at0.o0, T.c_Flow, T.a_Flow_tick, by show 14 < 1000; decide, ?_⟩
  have ep : putF "tick" (.int t) (flowF L C D) = flowF L C { D with tick := t } := rfl
  rw [ep]
  obtain ⟨a1, t1⟩ := at0.mT t
  generalize upd H0 (L 0) _ = H1 at a1 t1 ⊢
  have fm1 := fm.tk t1
  have hfl : D.flv.length ≤ 6000 := by
    rw [Paired.length fm.fly, List.length_map]
    exact Nat.le_trans (List.length_filter_le _ _) bd.log
  refine ⟨_, rfl, _, _, _, _, _, rfl, a1.o0, T.c_Flow, T.a_Flow_flight, rfl, D.fl, rfl, ⟨_, SqL.of a1.fl⟩, lc_l (fun i => selV (fun p : Pc => decide (p.t ≤ t)) (D.flv.take i) (((flying S W).map (shf S)).take i)) (SqL.of a1.fl) rfl (fun i hi => ?_) (fun i x H' hx kH Yes No yes no => ?_) (fun E H2 hE k2 hE2 => ?_)⟩
  · have := selV_len (fun p : Pc => decide (p.t ≤ t)) (D.flv.take i) (((flying S W).map (shf S)).take i)
    rw [List.length_take] at this
    have := z6000
    omega
  · obtain ⟨p, hp, a, rfl, ha⟩ := pgetV fm1.fly hx
    refine ⟨rfl, _, rfl, a, _, 0, _, rfl, rfl, SqT.of (kH.tup ha), atI0, _, rfl, _, _, rfl, rfl, _, rfl, ?_⟩
    have e := selV_take (fun p : Pc => decide (p.t ≤ t)) _ _ i _ p hx hp
    refine ite_dec (fun hc => ?_) (fun hc => ?_)
    · rw [decide_eq_true hc] at e
      exact ⟨_, rfl, yes _ _ (.refl _) e⟩
    · rw [decide_eq_false hc] at e
      exact no _ (.refl _) (by rw [e]; exact List.append_nil _)
  have a2 := a1.ke k2
  have fm2 := fm1.tk k2.tk
  have hE1 : H2 E = some (.lst (selV (fun p : Pc => decide (p.t ≤ t)) D.flv ((flying S W).map (shf S)))) := by
    rw [hE2, List.take_length, Paired.length fm.fly, List.take_length]
  refine ⟨_, rfl, _, _, _, _, _, rfl, a2.o0, T.c_Flow, T.a_Flow_flight, rfl, D.fl, rfl, ⟨_, SqL.of a2.fl⟩, lc_l (fun i => selV (fun p : Pc => decide (t < p.t)) (D.flv.take i) (((flying S W).map (shf S)).take i)) (SqL.of a2.fl) rfl (fun i hi => ?_) (fun i x H' hx kH Yes No yes no => ?_) (fun N H3 hN k3 hN2 => ?_)⟩
  · have := selV_len (fun p : Pc => decide (t < p.t)) (D.flv.take i) (((flying S W).map (shf S)).take i)
    rw [List.length_take] at this
    have := z6000
    omega
  · obtain ⟨p, hp, a, rfl, ha⟩ := pgetV fm2.fly hx
    refine ⟨rfl, _, rfl, a, _, 0, _, rfl, rfl, SqT.of (kH.tup ha), atI0, _, rfl, _, _, rfl, rfl, _, rfl, ?_⟩
    have e := selV_take (fun p : Pc => decide (t < p.t)) _ _ i _ p hx hp
    refine ite_dec (fun hc => ?_) (fun hc => ?_)
    · rw [decide_eq_true hc] at e
      exact ⟨_, rfl, yes _ _ (.refl _) e⟩
    · rw [decide_eq_false hc] at e
      exact no _ (.refl _) (by rw [e]; exact List.append_nil _)
  have a3 := a2.ke k3
  have hN1 : H3 N = some (.lst (selV (fun p : Pc => decide (t < p.t)) D.flv ((flying S W).map (shf S)))) := by
    rw [hN2, List.take_length, Paired.length fm.fly, List.take_length]
  have hEN : E ≠ N := ne_of_none hE1 hN
  have neN : ∀ i, i < 15 → L i ≠ N := fun i hi => by
    obtain ⟨o, ho, _⟩ := a2.kind hi
    exact ne_of_none ho hN
  have neE : ∀ i, i < 15 → L i ≠ E := fun i hi => by
    obtain ⟨o, ho, _⟩ := a1.kind hi
    exact ne_of_none ho hE
  refine ⟨_, rfl, L 0, _, C.dx, _, rfl, a3.o0, T.c_Flow, T.a_Flow_flight, by show 14 < 1000; decide, ?_⟩
  obtain ⟨a4, t4⟩ := a3.newfl hN1 (a2.base.free hN) neN
  have ep2 : putF "flight" (.ref N) (flowF L C { D with tick := t }) = flowF L C { D with tick := t, fl := N, flv := selV (fun p : Pc => decide (t < p.t)) D.flv ((flying S W).map (shf S)) } := rfl
  rw [ep2]
  dsimp only at a4 t4
  have hE4 : (upd H3 (L 0) (.ins (He.ga K "Flow") C.dx (flowF L C { D with tick := t, fl := N, flv := selV (fun p : Pc => decide (t < p.t)) D.flv ((flying S W).map (shf S)) }))) E = some (.lst (selV (fun p : Pc => decide (p.t ≤ t)) D.flv ((flying S W).map (shf S)))) := by
    rw [upd_ne (neE 0 (by decide)).symm]
    exact k3.lst hE1
  generalize upd H3 (L 0) _ = H4 at a4 t4 hE4 ⊢
  have fm4 : FM S H4 C { D with tick := t, fl := N, flv := selV (fun p : Pc => decide (t < p.t)) D.flv ((flying S W).map (shf S)) } (adv W t) := by
    have z := fm2.tk (k3.tk.trans t4)
    refine ⟨rfl, z.out, z.known, z.small, z.come, z.taken, z.full, z.first, z.stk, ?_, z.lg, z.til, z.fin, z.place⟩
    rw [flying_adv hle, ← filter_map_shf S (fun x => decide (t < x))]
    exact selV_pair _ z.fly
  have hland : LogV H4 (selV (fun p : Pc => decide (p.t ≤ t)) D.flv ((flying S W).map (shf S))) ((landing S (adv W t)).map (shf S)) := by
    rw [landing_adv hl hl2, ← filter_map_shf S (fun x => decide (x ≤ t))]
    exact selV_pair _ (fm2.tk (k3.tk.trans t4)).fly
  generalize selV (fun p : Pc => decide (p.t ≤ t)) D.flv ((flying S W).map (shf S)) = ev at hE4 hland
  obtain ⟨Hb', a5, kb, stay⟩ := a4.rebase
  have hEb : Hb' E = some (.lst ev) := stay E _ hE4 (fun i hi z => neE i hi z.symm) hEN
  have hlen : ev.length = (landing S (adv W t)).length := by rw [Paired.length hland, List.length_map]
  refine ⟨_, rfl, E, rfl, ⟨_, SqL.of hE4⟩, for_list (K := K) (xs := ev) (fun i σ H => ∃ D' s3 s4 s5 s6 s7 s8, σ = [some (.ref (L 0)), some (.int t), some (.ref E), s3, s4, s5, s6, s7, s8] ∧ At K Hb' H S L C D' ∧ FM S H C D' (((landing S (adv W t)).take i).foldl (land S) (adv W t)) ∧ Tk H4 H)
    ⟨_, _, _, _, _, _, _, rfl, a5, fm4, .refl _⟩ (fun i σ H _ p => ?_) (fun i v σ H hi p => ?_) (fun σ H p => ?_)⟩
  · obtain ⟨D', s3, s4, s5, s6, s7, s8, rfl, a, _⟩ := p
    exact SqL.of (a.base.lst hEb)
  · obtain ⟨D', s3, s4, s5, s6, s7, s8, rfl, a, fmi, tki⟩ := p
    obtain ⟨p', hp', b, rfl, hb⟩ := pgetV hland hi
    rw [List.getElem?_map] at hp'
    obtain ⟨p, hp, rfl⟩ := Option.map_eq_some_iff.mp hp'
    refine ⟨b, _, rfl, SqT.of (tki _ _ hb), rfl, _, _, rfl, _, _, rfl, _, _, rfl, _, _, rfl, rfl, ?_⟩
    refine ⟨_, rfl, _, _, _, rfl, a.o0, rfl, _, rfl, _, rfl, _, rfl, _, _, _, _, rfl, Hb', S, L, C, D', _, p, rfl, rfl, rfl, rfl, fi, a, fmi, (bd.good.ans p (.inr (List.mem_of_getElem? hp))).2, fun H' D'' a' fm' tk' => ?_⟩
    refine ⟨D'', _, _, _, _, _, _, rfl, a', ?_, tki.trans tk'⟩
    rw [take_snoc hp, List.foldl_append]
    exact fm'
  · obtain ⟨D', s3, s4, s5, s6, s7, s8, rfl, a, fmi, tki⟩ := p
    rw [hlen, List.take_length] at fmi
    have fmi : FM S H C D' (arrive S (adv W t)) := fmi
    have ld : Leads S (adv W t) (landing S (adv W t)) (arrive S (adv W t)) [] := (leads_lands fi _ bd.good).1
    have bd1 := bd.leads ld
    have bd2 := bd1.leads (Leads.free (k := false) fi bd1.good)
    refine ⟨by show 2 ≤ sizeLine; decide, fun u nu => ?_⟩
    have ku : Ke H (upd H u (.tup [.int 0, .int 1])) := .new nu
    have hu : (upd H u (.tup [.int 0, .int 1])) u = some (.tup [.int 0, .int 1]) := upd_same
    generalize upd H u _ = H6 at ku hu ⊢
    refine ⟨u, rfl, ⟨_, SqT.of hu⟩, for_tup (K := K) (xs := [.int 0, .int 1]) (fun i σ H => ∃ D' st, σ = [some (.ref (L 0)), some (.int t), some (.ref E), s3, s4, s5, s6, st, s8] ∧ At K Hb' H S L C D' ∧ FM S H C D' (if i = 0 then arrive S (adv W t) else if i = 1 then free S (arrive S (adv W t)) false else Sm.t1 S (adv W t)) ∧ Tk H6 H)
      ⟨_, _, rfl, a.ke ku, fmi.tk ku.tk, .refl _⟩ (fun i σ H _ p => ?_) (fun i v σ H hi p => ?_) (fun σ H p => ?_)⟩
    · obtain ⟨_, _, _, _, _, tk⟩ := p
      exact SqT.of (tk _ _ hu)
    · obtain ⟨D2, st, rfl, a, fm, tk⟩ := p
      match i, hi with
      | 0, hi =>
        cases hi
        exact ⟨_, rfl, _, _, _, rfl, a.o0, rfl, _, rfl, _, _, rfl, Hb', S, L, C, D2, _, false, [], rfl, rfl, fi, a, fm, bd1, fun H' D'' a' fm' tk' => ⟨D'', _, rfl, a', fm', tk.trans tk'⟩⟩
      | 1, hi =>
        cases hi
        exact ⟨_, rfl, _, _, _, rfl, a.o0, rfl, _, rfl, _, _, rfl, Hb', S, L, C, D2, _, true, [], rfl, rfl, fi, a, fm, bd2, fun H' D'' a' fm' tk' => ⟨D'', _, rfl, a', fm', tk.trans tk'⟩⟩
      | i + 2, hi => simp at hi
    · obtain ⟨D2, st, rfl, a, fm, tk⟩ := p
      exact q H D2 (a.back at0 kb) fm
theorem isN_oV (o : Option Int) : decide (oV o = .non) = o.isNone := by cases o <;> rfl
abbrev N_Flow_is_due : List Str := ["self", "side", "setting"]
theorem sc_Flow_is_due : FnScope N_Flow_is_due ["self", "side"] (defScope s_Flow_is_due) := ⟨rfl, rfl, rfl, by decide +kernel, rfl, by decide +kernel, by decide +kernel⟩
theorem ok_is_due (T : Tx K mg w) : Okm P w K mg base "Flow" "is_due" ["self", "side"] 1 (sp2 fun s sd H Q => ∃ Hb S L C D W k, s = .ref (L 0) ∧ sd = .int (kI k) ∧ At K Hb H S L C D ∧ FM S H C D W ∧ Q (.bl (due S W k)) H) := by
  refine mkM T ix_Flow_is_due rfl T.c_Flow T.m_Flow_is_due sc_Flow_is_due (fun _ _ _ _ _ _ us hl => match us, hl with | [_, _], _ => rfl) len2 (fun cdv A outer s0 H0 E vs Q hr h => ?_)
  refine ⟨_, (pss_cons (ps_set (i := 2) sc_Flow_is_due.nd rfl (Or.inl rfl) (pe_ix (ixT K) (fldK K (pv 0)) (pv 1) (fun _ _ => rfl)))
    (pss_cons (ps_if (pt_cmpR op_ge (pe_ix (ixL K) (fldK K (pv 0)) (pv 1) (fun _ _ => rfl)) (fldK K (pv 2)) (nomark _))
      (pss_one (ps_ret pe_bl))
      pss_nil)
    (pss_one (ps_ret (pe_and (pe_cmpR op_notN (pe_ix (ixL K) (fldK K (pv 0)) (pv 1) (fun _ _ => rfl)) pe_non (nomark _)) (pe_one (pe_cmpR op_ge (fldK K (pv 0)) (pe_op op_add (pe_ix (ixL K) (fldK K (pv 0)) (pv 1) (fun _ _ => rfl)) (fldK K (pv 2))) (nomark _)))))))), ?_⟩
  obtain ⟨_, _, rfl, Hb, S, L, C, D, W, k, rfl, rfl, at0, fm, q⟩ := h
  obtain ⟨dx, t, hw⟩ := at0.set k
  refine ⟨_, rfl, _, _, _, _, _, rfl, at0.o0, T.c_Flow, T.a_Flow_settings, rfl, _, rfl, _, _, _, _, rfl, rfl, at0.se, atK _ _, ?_⟩
  refine ⟨_, rfl, _, _, _, _, _, rfl, at0.o0, T.c_Flow, T.a_Flow_full, rfl, _, rfl, _, _, _, _, rfl, rfl, SqL.of at0.o9, atK _ _, _, rfl, _, _, _, _, _, rfl, hw, T.c_Setting, T.a_Setting_every, rfl, _, _, rfl, rfl, _, rfl, ?_⟩
  unfold due at q
  rw [← fm.full, ← fm.first, ← fm.tick] at q
  refine ite_dec (fun h1 => ?_) (fun h1 => ?_)
  · rw [decide_eq_true h1] at q
    exact q
  · rw [decide_eq_false h1] at q
    refine ⟨_, rfl, _, _, _, _, _, rfl, at0.o0, T.c_Flow, T.a_Flow_first, rfl, _, rfl, _, _, _, _, rfl, rfl, SqL.of at0.o10, atK _ _, rfl, ?_⟩
    rw [isN_oV]
    cases e : D.first k with
    | none =>
      rw [e] at q
      exact ⟨_, rfl, iteF q⟩
    | some u =>
      rw [e] at q
      have h10 := at0.o10
      refine ⟨_, rfl, iteT ⟨_, rfl, _, _, _, _, _, rfl, at0.o0, T.c_Flow, T.a_Flow_tick, rfl, _, rfl, _, _, _, _, _, rfl, at0.o0, T.c_Flow, T.a_Flow_first, rfl, _, rfl, _, _, _, _, rfl, rfl, SqL.of at0.o10, atK _ _, _, rfl, _, _, _, _, _, rfl, hw, T.c_Setting, T.a_Setting_delay, rfl, _, _, by rw [e]; rfl, rfl, _, _, rfl, rfl, q⟩⟩
abbrev N_Flow_leave : List Str := ["self", "side"]
theorem sc_Flow_leave : FnScope N_Flow_leave ["self"] (defScope s_Flow_leave) := ⟨rfl, rfl, rfl, by decide +kernel, rfl, by decide +kernel, by decide +kernel⟩
theorem ok_leave (T : Tx K mg w) : Okm P w K mg base "Flow" "leave" ["self"] 3 (sp1 fun s H Q => ∃ Hb S L C D W Pl, s = .ref (L 0) ∧ Fine S ∧ At K Hb H S L C D ∧ FM S H C D W ∧ Bnd S W Pl ∧
    ∀ H' D', At K Hb H' S L C D' → FM S H' C D' (answer S (answer S W false) true) → Tk H H' → Q .non H') := by
  have O_Flow_is_due := ok_is_due (P := P) (w := w) (base := base) T
  have O_Flow_send := ok_send (P := P) (w := w) (base := base) T
  refine mkM T ix_Flow_leave rfl T.c_Flow T.m_Flow_leave sc_Flow_leave (fun _ _ _ _ _ _ us hl => match us, hl with | [_], _ => rfl) len1 (fun cdv A outer s0 H0 E vs Q hr h => ?_)
  refine ⟨_, (pss_one (ps_for PassesOwn.never rfl (piT K (pe_tup (pa_cons pe_int (pa_cons pe_int pa_nil)))) (pg_name (i := 1) sc_Flow_leave.nd rfl (Or.inl rfl))
      (pss_one (ps_if (pt_val (pe_m K O_Flow_is_due (hr.mono (by decide)) (pv 0) (pa_cons (pv 1) pa_nil)))
      (pss_one (ps_expr (pe_m K O_Flow_send (hr.mono (by decide)) (pv 0) (pa_cons (pv 1) (pa_cons pe_int pa_nil)))))
      pss_nil)))), ?_⟩
  obtain ⟨_, rfl, Hb, S, L, C, D, W, Pl, rfl, fi, at0, fm, bd, q⟩ := h
  refine ⟨by show 2 ≤ sizeLine; decide, fun u nu => ?_⟩
  have ku : Ke H0 (upd H0 u (.tup [.int 0, .int 1])) := .new nu
  have hu : (upd H0 u (.tup [.int 0, .int 1])) u = some (.tup [.int 0, .int 1]) := upd_same
  generalize upd H0 u _ = H6 at ku hu ⊢
  have bd2 := bd.leads (Leads.answer (k := false) fi bd.good)
  have turn : ∀ (k : Bool) (W : Wo) (D : FD) (H : Hp), Bnd S W Pl → At K Hb H S L C D → FM S H C D W → Tk H6 H → (due S W k = true → 0 ≤ (W.sd k).kept ∧ (W.sd k).kept ≤ 6000 ∧ W.log.length ≤ 6000) := fun k W D H bd _ _ _ _ => ⟨bd.good.kept k, by have := bd.kept k; omega, bd.log⟩
  refine ⟨u, rfl, ⟨_, SqT.of hu⟩, for_tup (K := K) (xs := [.int 0, .int 1]) (fun i σ H => ∃ D' st, σ = [some (.ref (L 0)), st] ∧ At K Hb H S L C D' ∧ FM S H C D' (if i = 0 then W else if i = 1 then answer S W false else answer S (answer S W false) true) ∧ Tk H6 H)
    ⟨_, _, rfl, at0.ke ku, fm.tk ku.tk, .refl _⟩ (fun i σ H _ p => ?_) (fun i v σ H hi p => ?_) (fun σ H p => ?_)⟩
  · obtain ⟨_, _, _, _, _, tk⟩ := p
    exact SqT.of (tk _ _ hu)
  · obtain ⟨D2, st, rfl, a, fm, tk⟩ := p
    match i, hi with
    | 0, hi =>
      cases hi
      refine ⟨_, rfl, _, _, _, rfl, a.o0, rfl, _, rfl, _, _, rfl, Hb, S, L, C, D2, W, false, rfl, rfl, a, fm, _, rfl, ?_⟩
      cases e : due S W false with
      | true =>
        refine iteT ⟨_, rfl, _, _, _, rfl, a.o0, rfl, _, rfl, _, _, _, rfl, Hb, S, L, C, D2, W, false, 0, rfl, rfl, rfl, fi, a, fm, Int.le_refl _, bd.good.kept _, by have := bd.kept false; omega, bd.log, fun H' D' a' fm' tk' => ⟨D', _, rfl, a', ?_, tk.trans tk'⟩⟩
        show FM S H' C D' (answer S W false)
        unfold answer
        rw [e]
        exact fm'
      | false =>
        refine iteF ⟨D2, _, rfl, a, ?_, tk⟩
        show FM S H C D2 (answer S W false)
        unfold answer
        rw [e]
        exact fm
    | 1, hi =>
      cases hi
      have fm : FM S H C D2 (answer S W false) := fm
      refine ⟨_, rfl, _, _, _, rfl, a.o0, rfl, _, rfl, _, _, rfl, Hb, S, L, C, D2, _, true, rfl, rfl, a, fm, _, rfl, ?_⟩
      generalize answer S W false = W2 at fm bd2 ⊢
      cases e : due S W2 true with
      | true =>
        refine iteT ⟨_, rfl, _, _, _, rfl, a.o0, rfl, _, rfl, _, _, _, rfl, Hb, S, L, C, D2, W2, true, 0, rfl, rfl, rfl, fi, a, fm, Int.le_refl _, bd2.good.kept _, by have := bd2.kept true; omega, bd2.log, fun H' D' a' fm' tk' => ⟨D', _, rfl, a', ?_, tk.trans tk'⟩⟩
        show FM S H' C D' (answer S W2 true)
        unfold answer
        rw [e]
        exact fm'
      | false =>
        refine iteF ⟨D2, _, rfl, a, ?_, tk⟩
        show FM S H C D2 (answer S W2 true)
        unfold answer
        rw [e]
        exact fm
    | i + 2, hi => simp at hi
  · obtain ⟨D2, st, rfl, a, fm, tk⟩ := p
    exact q H D2 a fm (ku.tk.trans tk)
def minV (l : List Int) : V := if l = [] then .non else .int (minL l)
/-- the ticks of a flow -/
def flowL (S : Sh) (W : Wo) : List Int := ((flying S W).map fun p => p.t + S.way) ++ (optL ((W.sd false).since.map (· + S.delay false)) ++ optL ((W.sd true).since.map (· + S.delay true)))
abbrev N_Flow_next_tick : List Str := ["self", "ticks", "side", "piece"]
theorem sc_Flow_next_tick : FnScope N_Flow_next_tick ["self"] (defScope s_Flow_next_tick) := ⟨rfl, rfl, rfl, by decide +kernel, rfl, by decide +kernel, by decide +kernel⟩
theorem ok_next_tick (T : Tx K mg w) : Okm P w K mg base "Flow" "next_tick" ["self"] 1 (sp1 fun s H Q => ∃ Hb S L C D W Pl, s = .ref (L 0) ∧ At K Hb H S L C D ∧ FM S H C D W ∧ Bnd S W Pl ∧
    ∀ H', Ke H H' → Q (minV (flowL S W)) H') := by
  refine mkM T ix_Flow_next_tick rfl T.c_Flow T.m_Flow_next_tick sc_Flow_next_tick (fun _ _ _ _ _ _ us hl => match us, hl with | [_], _ => rfl) len1 (fun cdv A outer s0 H0 E vs Q hr h => ?_)
  refine ⟨_, (pss_cons (ps_setLc (i := 1) (own := [(("piece" : Str), 3)]) (by rfl) sc_Flow_next_tick.nd rfl rfl (sw_true rfl rfl rfl (by decide +kernel)) (piL K (fldK K (pv 0))) (blkOk_by (own := [(("piece" : Str), 3)]) (N := N_Flow_next_tick) (sc := defScope s_Flow_next_tick) (by decide +kernel)) (fun _ _ _ _ _ => pg_name (i := 3) sc_Flow_next_tick.nd rfl (Or.inl rfl)) (fun _ _ _ _ _ => pts_nil) (fun _ _ _ _ _ => (pe_ix (ixT K) (pv 3) pe_int (fun _ _ => rfl))))
    (pss_cons (ps_for PassesOwn.never rfl (piT K (pe_tup (pa_cons pe_int (pa_cons pe_int pa_nil)))) (pg_name (i := 2) sc_Flow_next_tick.nd rfl (Or.inl rfl))
      (pss_one (ps_if (pt_cmpR op_notN (pe_ix (ixL K) (fldK K (pv 0)) (pv 2) (fun _ _ => rfl)) pe_non (nomark _))
      (pss_one (ps_expr (pe_bm PySem.F.plainAttrs_list PySem.F.slot_list_append PySem.F.type_list_append mt_append (pv 1) (pa_cons (pe_op op_add (pe_ix (ixL K) (fldK K (pv 0)) (pv 2) (fun _ _ => rfl)) (fldK K (pe_ix (ixT K) (fldK K (pv 0)) (pv 2) (fun _ _ => rfl)))) pa_nil))))
      pss_nil)))
    (pss_one (ps_ret (pe_ifExp (pt_cmpR op_gt (pe_callB (lenK K) (by rfl) T.n_len (by decide +kernel) (pa_cons (pv 1) pa_nil)) pe_int (nomark _)) (pe_callB (minK K rfl) (by rfl) T.n_min (by decide +kernel) (pa_cons (pv 1) pa_nil)) pe_non))))), ?_⟩
  obtain ⟨_, rfl, Hb, S, L, C, D, W, Pl, rfl, at0, fm, bd, q⟩ := h
  have hfl : (flying S W).length ≤ 6000 := Nat.le_trans (List.length_filter_le _ _) bd.log
  have hln : D.flv.length = (flying S W).length := by rw [Paired.length fm.fly, List.length_map]
  refine ⟨_, rfl, _, _, _, _, _, rfl, at0.o0, T.c_Flow, T.a_Flow_flight, rfl, D.fl, rfl, ⟨_, SqL.of at0.fl⟩, lc_l (fun i => ((((flying S W).take i).map fun p => p.t + S.way)).map V.int) (SqL.of at0.fl) rfl (fun i hi => ?_) (fun i x H' hx kH Yes No yes no => ?_) (fun E H2 hE k2 hE2 => ?_)⟩
  · rw [List.length_map, List.length_map, List.length_take]
    have := z6000
    omega
  · obtain ⟨p', hp', a, rfl, ha⟩ := pgetV fm.fly hx
    rw [List.getElem?_map] at hp'
    obtain ⟨p, hp, rfl⟩ := Option.map_eq_some_iff.mp hp'
    refine ⟨rfl, _, rfl, a, _, 0, _, rfl, rfl, SqT.of (kH.tup ha), atI0, yes _ _ (.refl _) ?_⟩
    rw [take_snoc hp, List.map_append, List.map_append]
    rfl
  rw [hln, List.take_length] at hE2
  refine ⟨by show 2 ≤ sizeLine; decide, fun u nu => ?_⟩
  have ku : Ke H2 (upd H2 u (.tup [.int 0, .int 1])) := .new nu
  have hu : (upd H2 u (.tup [.int 0, .int 1])) u = some (.tup [.int 0, .int 1]) := upd_same
  generalize upd H2 u _ = H6 at ku hu ⊢
  let fs : Nat → List Int := fun i => ((flying S W).map fun p => p.t + S.way) ++ (if i = 0 then [] else if i = 1 then optL ((W.sd false).since.map (· + S.delay false)) else optL ((W.sd false).since.map (· + S.delay false)) ++ optL ((W.sd true).since.map (· + S.delay true)))
  have optlen : ∀ o : Option Int, (optL o).length ≤ 1 := fun o => by cases o <;> simp [optL]
  have fslen : ∀ i, (fs i).length ≤ 6002 := fun i => by
    show (_ ++ _ : List Int).length ≤ _
    rw [List.length_append, List.length_map]
    have h1 := optlen ((W.sd false).since.map (· + S.delay false))
    have h2 := optlen ((W.sd true).since.map (· + S.delay true))
    split
    · simp; omega
    · split
      · omega
      · rw [List.length_append]; omega
  have turn : ∀ (k : Bool) (i : Nat), fs (i + 1) = fs i ++ optL ((W.sd k).since.map (· + S.delay k)) → ∀ H, Ke H0 H → H E = some (.lst ((fs i).map V.int)) → H u = some (.tup [.int 0, .int 1]) →
      ∀ (R : Hp → Prop), (∀ H', Ke H0 H' → H' E = some (.lst ((fs (i + 1)).map V.int)) → H' u = some (.tup [.int 0, .int 1]) → R H') → (∀ v, (W.sd k).since = some v → R (upd H E (.lst ((fs i).map V.int ++ [V.int (v + S.delay k)])))) ∧ ((W.sd k).since = none → R H) := fun k i ei H kk hEe hue R fin => by
    refine ⟨fun v hv => fin _ (kk.mut hE (noCode_lst hEe)) ?_ ?_, fun hv => fin _ kk ?_ hue⟩
    · rw [upd_same, ei, hv]; exact congrArg (fun z => some (HO.lst z)) (List.map_append (f := V.int) (l₁ := fs i) (l₂ := [v + S.delay k])).symm
    · rw [upd_ne (fun z => by rw [z, hEe] at hue; cases hue)]; exact hue
    · rw [ei, hv]
      show H E = some (.lst ((fs i ++ []).map V.int))
      rw [List.append_nil]; exact hEe
  refine ⟨u, rfl, ⟨_, SqT.of hu⟩, for_tup (K := K) (xs := [.int 0, .int 1]) (fun i σ H => ∃ st s3, σ = [some (.ref (L 0)), some (.ref E), st, s3] ∧ Ke H0 H ∧ H E = some (.lst ((fs i).map V.int)) ∧ H u = some (.tup [.int 0, .int 1]))
    ⟨_, _, rfl, k2.trans ku, ?_, hu⟩ (fun i σ H _ p => ?_) (fun i v σ H hi p => ?_) (fun σ H p => ?_)⟩
  · rw [ku.lst hE2]
    show _ = some (HO.lst ((_ ++ ([] : List Int)).map V.int))
    rw [List.append_nil]
  · obtain ⟨_, _, _, _, _, hu⟩ := p
    exact SqT.of hu
  · obtain ⟨st, s3, rfl, kk, hEe, hue⟩ := p
    have a := at0.ke kk
    match i, hi with
    | 0, hi =>
      cases hi
      obtain ⟨dx, t, hw⟩ := a.set false
      have ei : fs (0 + 1) = fs 0 ++ optL ((W.sd false).since.map (· + S.delay false)) := by
        show _ ++ _ = (_ ++ []) ++ _
        rw [List.append_nil]
        rfl
      have tr := turn false 0 ei H kk hEe hue (fun H' => ∃ st' s3', [some (V.ref (L 0)), some (.ref E), some (.int 0), s3] = [some (.ref (L 0)), some (.ref E), st', s3'] ∧ Ke H0 H' ∧ H' E = some (.lst ((fs (0 + 1)).map V.int)) ∧ H' u = some (.tup [.int 0, .int 1])) (fun H' x y z => ⟨_, _, rfl, x, y, z⟩)
      refine ⟨_, rfl, _, _, _, _, _, rfl, a.o0, T.c_Flow, T.a_Flow_first, rfl, _, rfl, _, _, _, _, rfl, rfl, SqL.of a.o10, atK _ false, rfl, ?_⟩
      rw [isN_oV, fm.first]
      cases e : (W.sd false).since with
      | none => exact ⟨_, rfl, iteF (tr.2 e)⟩
      | some v =>
        refine ⟨_, rfl, iteT ⟨_, rfl, .inl ⟨rfl, _, SqL.of hEe⟩, _, rfl, _, _, _, _, _, rfl, a.o0, T.c_Flow, T.a_Flow_first, rfl, _, rfl, _, _, _, _, rfl, rfl, SqL.of a.o10, atK _ false, _, rfl, _, _, _, _, _, rfl, a.o0, T.c_Flow, T.a_Flow_settings, rfl, _, rfl, _, _, _, _, rfl, rfl, a.se, atK _ false, _, _, _, _, _, rfl, hw, T.c_Setting, T.a_Setting_delay, rfl, v, S.delay false, by rw [fm.first, e]; rfl, rfl, ?_⟩⟩
        exact ⟨E, _, _, rfl, rfl, hEe, by rw [List.length_map]; have := fslen 0; have := z6000; omega, tr.1 v e⟩
    | 1, hi =>
      cases hi
      obtain ⟨dx, t, hw⟩ := a.set true
      have ei : fs (1 + 1) = fs 1 ++ optL ((W.sd true).since.map (· + S.delay true)) := by
        show _ ++ (_ ++ _) = (_ ++ _) ++ _
        rw [List.append_assoc]
        rfl
      have tr := turn true 1 ei H kk hEe hue (fun H' => ∃ st' s3', [some (V.ref (L 0)), some (.ref E), some (.int 1), s3] = [some (.ref (L 0)), some (.ref E), st', s3'] ∧ Ke H0 H' ∧ H' E = some (.lst ((fs (1 + 1)).map V.int)) ∧ H' u = some (.tup [.int 0, .int 1])) (fun H' x y z => ⟨_, _, rfl, x, y, z⟩)
      refine ⟨_, rfl, _, _, _, _, _, rfl, a.o0, T.c_Flow, T.a_Flow_first, rfl, _, rfl, _, _, _, _, rfl, rfl, SqL.of a.o10, atK _ true, rfl, ?_⟩
      rw [isN_oV, fm.first]
      cases e : (W.sd true).since with
      | none => exact ⟨_, rfl, iteF (tr.2 e)⟩
      | some v =>
        refine ⟨_, rfl, iteT ⟨_, rfl, .inl ⟨rfl, _, SqL.of hEe⟩, _, rfl, _, _, _, _, _, rfl, a.o0, T.c_Flow, T.a_Flow_first, rfl, _, rfl, _, _, _, _, rfl, rfl, SqL.of a.o10, atK _ true, _, rfl, _, _, _, _, _, rfl, a.o0, T.c_Flow, T.a_Flow_settings, rfl, _, rfl, _, _, _, _, rfl, rfl, a.se, atK _ true, _, _, _, _, _, rfl, hw, T.c_Setting, T.a_Setting_delay, rfl, v, S.delay true, by rw [fm.first, e]; rfl, rfl, ?_⟩⟩
        exact ⟨E, _, _, rfl, rfl, hEe, by rw [List.length_map]; have := fslen 1; have := z6000; omega, tr.1 v e⟩
    | i + 2, hi => simp at hi
  · obtain ⟨st, s3, rfl, kk, hEe, hue⟩ := p
    have hEe : H E = some (.lst ((flowL S W).map V.int)) := hEe
    have q := q H kk
    unfold minV at q
    refine ⟨_, rfl, E, _, rfl, .inl (SqL.of hEe), _, _, rfl, rfl, _, rfl, ?_⟩
    cases e : flowL S W with
    | nil =>
      rw [e] at q
      exact iteF q
    | cons x r =>
      rw [e] at q hEe
      refine ite_dec (fun _ => ⟨_, rfl, E, x :: r, rfl, SqL.of hEe, by simp, fun m hm hall => ?_⟩) (fun z => absurd (by simp) z)
      rw [if_neg (by simp), minL_uniq hm hall] at q
      exact q
end
end Sm

/-! The program's courses. -/
namespace Sm
open PySem PySem.Spec PyProof.Rows L2
/-- a tighter bound -/
structure Bt (S : Sh) (W : Wo) (P : List Pc) : Prop where
  good : Good S W P
  le : Phi S W P + W.log.length ≤ 3000
theorem Bt.leads {S : Sh} {W W' : Wo} {P P' : List Pc} (b : Bt S W P) (l : Leads S W P W' P') : Bt S W' P' := ⟨l.good, by have := l.len; have := b.le; omega⟩
theorem Bt.bnd {S : Sh} {W : Wo} {P : List Pc} (b : Bt S W P) : Bnd S W P := ⟨b.good, by have := b.le; omega⟩
theorem Bt.write {S : Sh} {W : Wo} {P : List Pc} {k : Bool} (b : Bt S W P) {n : Int} {r : List (Wd × Int)} (e : (W.sd k).todo = (.wr, n) :: r) : Bnd S (W.put k { W.sd k with kept := (W.sd k).kept + n }) P := by
  have hn := b.good.pos k (.wr, n) (by rw [e]; exact List.mem_cons_self)
  have hn1 : 1 ≤ n := hn.2 rfl
  have g := b.good
  have nn : ∀ k, 0 ≤ sw (W.sd k) := fun k => by
    have h1 := g.kept k
    have h2 := writes_nn (W.sd k).todo fun q hq => (g.pos k q hq).1
    have h3 := pauses_nn (W.sd k).todo
    unfold sw
    split <;> omega
  refine ⟨Good.put g (by have := g.kept k; show 0 ≤ (W.sd k).kept + n; omega) rfl rfl rfl (g.fs k) (g.til k) (g.fin k) (g.pos k), ?_⟩
  have p := phi_put (S := S) (W := W) (L := P) (k := k) (s := { W.sd k with kept := (W.sd k).kept + n })
  have q : sw { W.sd k with kept := (W.sd k).kept + n } = sw (W.sd k) + 4 * n := by
    unfold sw
    show 4 * ((W.sd k).kept + n + writes (W.sd k).todo) + pauses (W.sd k).todo + (if (W.sd k).since = none then 0 else 2) = 4 * ((W.sd k).kept + writes (W.sd k).todo) + pauses (W.sd k).todo + (if (W.sd k).since = none then 0 else 2) + 4 * n
    omega
  have h4 : 4 * n ≤ sw (W.sd k) := by
    have h1 := g.kept k
    have h3 := pauses_nn (W.sd k).todo
    have h2 := writes_nn r fun q hq => (g.pos k q (by rw [e]; exact List.mem_cons_of_mem _ hq)).1
    have ew : writes (W.sd k).todo = n + writes r := by rw [e]; show (if Wd.wr = Wd.wr then n else 0) + writes r = _; rw [if_pos rfl]
    unfold sw
    rw [ew]
    split <;> omega
  have e1 := Phi_at (S := S) k W P
  have n2 := nn (!k)
  have n3 := wsum_nn (flying S W)
  have n4 := wsum_nn P
  have le := b.le
  have el : (W.put k { W.sd k with kept := (W.sd k).kept + n }).log = W.log := rfl
  rw [el]
  omega
theorem atI_nat {α : Type} {xs : List α} {n : Nat} {x : α} (h : xs[n]? = some x) : atI xs (n : Int) = some x := by
  have hn : n < xs.length := (List.getElem?_eq_some_iff.mp h).1
  unfold atI ixN
  rw [if_pos (Int.natCast_nonneg n), if_pos (by omega)]
  show xs[(n : Int).toNat]? = _
  rw [Int.toNat_natCast]
  exact h
/-- what a side's program leaves of the rest -/
theorem FM.crs {S : Sh} {H : Hp} {C : FC} {D : FD} {W : Wo} {k : Bool} {s : Sd} {p : Int} {t f : Option Int} (fm : FM S H C D W) (e1 : s.out = (W.sd k).out) (e2 : s.known = (W.sd k).known) (e3 : s.small = (W.sd k).small) (e4 : s.come = (W.sd k).come) (e5 : s.used = (W.sd k).used) (e6 : s.full = (W.sd k).full)
    (e7 : s.since = (W.sd k).since) (e8 : s.kept = (W.sd k).kept) (e9 : t = s.til) (e10 : f = s.fin) (e11 : ∃ n : Nat, p = n ∧ s.todo = (C.all k).drop n ∧ n ≤ (C.all k).length) :
    FM S H C { D with place := setB D.place k p, til := setB D.til k t, fin := setB D.fin k f } (W.put k s) := by
  have ev : ∀ {α : Type} (f : Sd → α), f s = f (W.sd k) → ∀ j, f ((W.put k s).sd j) = f (W.sd j) := fun f e j => by
    rcases Sm.two k j with rfl | rfl
    · rw [Wo.put_same]; exact e
    · rw [Wo.put_other]
  have eu : ∀ {α : Type} (f : Sd → α) (g : Bool → α) (v : α), (∀ j, g j = f (W.sd j)) → v = f s → ∀ j, setB g k v j = f ((W.put k s).sd j) := fun f g v h1 h2 j => by
    rcases Sm.two k j with rfl | rfl
    · rw [setB_same, Wo.put_same]; exact h2
    · rw [setB_other, Wo.put_other]
      exact h1 _
  refine ⟨fm.tick, fun j => (fm.out j).trans (ev Sd.out e1 j).symm, fun j => (fm.known j).trans (ev Sd.known e2 j).symm, fun j => (fm.small j).trans (ev Sd.small e3 j).symm, fun j => (fm.come j).trans (ev Sd.come e4 j).symm, fun j => (fm.taken j).trans (ev Sd.used e5 j).symm, fun j => (fm.full j).trans (ev Sd.full e6 j).symm, fun j => (fm.first j).trans (ev Sd.since e7 j).symm,
    fun j => by rw [ev Sd.kept e8 j]; exact fm.stk j, fm.fly, fm.lg, eu Sd.til _ _ fm.til e9, eu Sd.fin _ _ fm.fin e10, fun j => ?_⟩
  rcases Sm.two k j with rfl | rfl
  · show ∃ n : Nat, setB D.place j p j = _ ∧ _
    rw [setB_same, Wo.put_same]; exact e11
  · show ∃ n : Nat, setB D.place k p (!k) = _ ∧ _
    rw [setB_other, Wo.put_other]; exact fm.place _
section
variable {P : Program} {w : World} {K : PySem.W.Frag} {mg : Str → Option Value} {base : Heap}
abbrev N_Course_pass_step : List Str := ["self", "flow"]
theorem sc_Course_pass_step : FnScope N_Course_pass_step ["self", "flow"] (defScope s_Course_pass_step) := ⟨rfl, rfl, rfl, by decide +kernel, rfl, by decide +kernel, by decide +kernel⟩
theorem ok_pass_step (T : Tx K mg w) : Okm P w K mg base "Course" "pass_step" ["self", "flow"] 1 (sp2 fun s fl H Q => ∃ Hb S L C D W k, s = .ref (L (13 + kN k)) ∧ fl = .ref (L 0) ∧ At K Hb H S L C D ∧ FM S H C D W ∧ (W.sd k).todo ≠ [] ∧ (W.sd k).fin = none ∧ (W.sd k).til = none ∧
    ∀ H' D', At K Hb H' S L C D' → FM S H' C D' (Sm.pass W k 0) → Tk H H' → Q .non H') := by
  refine mkM T ix_Course_pass_step rfl T.c_Course T.m_Course_pass_step sc_Course_pass_step (fun _ _ _ _ _ _ us hl => match us, hl with | [_, _], _ => rfl) len2 (fun cdv A outer s0 H0 E vs Q hr h => ?_)
  refine ⟨_, (pss_cons (ps_fldaug (pv 0) pe_int in_add)
    (pss_one (ps_if (pt_cmpR op_eq (fldK K (pv 0)) (pe_callB (lenK K) (by rfl) T.n_len (by decide +kernel) (pa_cons (fldK K (pv 0)) pa_nil)) (nomark _))
      (pss_one (ps_if (pt_val (fldK K (pv 0)))
      (pss_cons (ps_fld (pv 0) pe_int rfl)
    (pss_one (ps_expr (pe_bm PySem.F.plainAttrs_list PySem.F.slot_list_append PySem.F.type_list_append mt_append (fldK K (pv 0)) (pa_cons (fldK K (pv 1)) pa_nil)))))
      (pss_one (ps_fld (pv 0) (fldK K (pv 1)) rfl))))
      pss_nil))), ?_⟩
  obtain ⟨_, _, rfl, Hb, S, L, C, D, W, k, rfl, rfl, at0, fm, htd, hfin, htil, q⟩ := h
  obtain ⟨n, en, et, hn⟩ := fm.place k
  have hlt : n < (C.all k).length := Nat.lt_of_not_le fun z => htd (by rw [et]; exact List.drop_eq_nil_of_le z)
  have efin := fm.fin k
  have etil := fm.til k
  rw [hfin] at efin
  rw [htil] at etil
  have etail : (W.sd k).todo.tail = (C.all k).drop (n + 1) := by rw [et, List.tail_drop]
  refine ⟨_, rfl, _, _, _, _, _, rfl, at0.oC k, T.c_Course, T.a_Course_place, rfl, _, _, rfl, rfl, _, _, at0.oC k, by show 6 < 1000; decide, ?_⟩
  have ep : putF "place" (.int (D.place k + 1)) (crsF C D k) = crsL C k ((n + 1 : Nat) : Int) (D.til k) (D.fin k) := by rw [en]; rfl
  rw [ep]
  obtain ⟨a1, t1⟩ := at0.mC k ((n + 1 : Nat) : Int) (D.til k) (D.fin k)
  generalize upd H0 (L (13 + kN k)) _ = H1 at a1 t1 ⊢
  have hq := a1.base.lst (a1.ok.q k)
  have hql : (C.fv k).length = (C.all k).length := Paired.length (a1.ok.td k)
  refine ⟨_, rfl, _, _, _, _, _, rfl, a1.oC k, T.c_Course, T.a_Course_place, rfl, _, rfl, _, _, _, _, _, rfl, a1.oC k, T.c_Course, T.a_Course_steps, rfl, C.q k, _, rfl, .inl (SqL.of hq), rfl, _, rfl, ?_⟩
  have es : setB D.place k ((n + 1 : Nat) : Int) k = ((n + 1 : Nat) : Int) := setB_same
  show if decide (V.int (setB D.place k ((n + 1 : Nat) : Int) k) = V.int ((C.fv k).length : Int)) = true then _ else _
  rw [es, natI, hql]
  have fpass : ∀ H' D', FM S H' C D' (W.put k { W.sd k with used := (W.sd k).used + 0, til := none, todo := (W.sd k).todo.tail, fin := if (W.sd k).todo.tail = [] then some W.tick else none }) → FM S H' C D' (Sm.pass W k 0) := fun _ _ h => h
  refine ite_dec (fun h1 => ?_) (fun h1 => ?_)
  · refine ⟨_, rfl, _, _, _, _, _, rfl, a1.oC k, T.c_Course, T.a_Course_again, rfl, _, rfl, iteF ⟨_, rfl, _, _, _, _, _, rfl, a1.o0, T.c_Flow, T.a_Flow_tick, rfl, _, rfl, _, _, _, _, rfl, a1.oC k, T.c_Course, T.a_Course_ended, by show 6 < 1000; decide, ?_⟩⟩
    have ep2 : putF "ended" (.int D.tick) (crsF C { D with place := setB D.place k ((n + 1 : Nat) : Int), til := setB D.til k (D.til k), fin := setB D.fin k (D.fin k) } k) = crsL C k ((n + 1 : Nat) : Int) none (some D.tick) := by
      rw [setB_self, setB_self]
      show putF "ended" (.int D.tick) (crsL C k (setB D.place k ((n + 1 : Nat) : Int) k) (D.til k) (D.fin k)) = _
      rw [es, etil]
      rfl
    rw [ep2]
    obtain ⟨a2, t2⟩ := a1.mC k ((n + 1 : Nat) : Int) none (some D.tick)
    dsimp only at a2
    rw [setB_setB, setB_setB, setB_setB] at a2
    refine q _ _ a2 (fpass _ _ (FM.crs (fm.tk (t1.trans t2)) rfl rfl rfl rfl (Int.add_zero _) rfl rfl rfl rfl ?_ ⟨n + 1, rfl, etail, hlt⟩)) (t1.trans t2)
    show some D.tick = if (W.sd k).todo.tail = [] then some W.tick else none
    rw [if_pos (by rw [etail, h1, List.drop_length]), fm.tick]
  · refine q _ _ a1 (fpass _ _ (FM.crs (fm.tk t1) rfl rfl rfl rfl (Int.add_zero _) rfl rfl rfl etil ?_ ⟨n + 1, rfl, etail, hlt⟩)) t1
    show D.fin k = if (W.sd k).todo.tail = [] then some W.tick else none
    rw [if_neg (fun z => h1 (by rw [etail] at z; have := List.drop_eq_nil_iff.mp z; omega)), efin]
theorem isN_oV2 (o : Option Int) : decide (oV o = .non) = o.isNone := by cases o <;> rfl
abbrev N_Course_rests : List Str := ["self", "flow", "ticks"]
theorem sc_Course_rests : FnScope N_Course_rests ["self", "flow", "ticks"] (defScope s_Course_rests) := ⟨rfl, rfl, rfl, by decide +kernel, rfl, by decide +kernel, by decide +kernel⟩
theorem ok_rests (T : Tx K mg w) : Okm P w K mg base "Course" "rests" ["self", "flow", "ticks"] 1 (sp3 fun s fl tk H Q => ∃ Hb S L C D W k n, s = .ref (L (13 + kN k)) ∧ fl = .ref (L 0) ∧ tk = .int n ∧ At K Hb H S L C D ∧ FM S H C D W ∧
    ∀ H' D', At K Hb H' S L C D' → Tk H H' → FM S H' C D' (W.put k { W.sd k with til := if W.tick < (W.sd k).til.getD (W.tick + n) then some ((W.sd k).til.getD (W.tick + n)) else none }) → Q (.bl (decide (W.tick < (W.sd k).til.getD (W.tick + n)))) H') := by
  refine mkM T ix_Course_rests rfl T.c_Course T.m_Course_rests sc_Course_rests (fun _ _ _ _ _ _ us hl => match us, hl with | [_, _, _], _ => rfl) len3 (fun cdv A outer s0 H0 E vs Q hr h => ?_)
  refine ⟨_, (pss_cons (ps_if (pt_cmpR op_isN (fldK K (pv 0)) pe_non (nomark _))
      (pss_one (ps_fld (pv 0) (pe_op op_add (fldK K (pv 1)) (pv 2)) rfl))
      pss_nil)
    (pss_cons (ps_if (pt_cmpR op_lt (fldK K (pv 1)) (fldK K (pv 0)) (nomark _))
      (pss_one (ps_ret pe_bl))
      pss_nil)
    (pss_cons (ps_fld (pv 0) pe_non rfl)
    (pss_one (ps_ret pe_bl))))), ?_⟩
  obtain ⟨_, _, _, rfl, Hb, S, L, C, D, W, k, n, rfl, rfl, rfl, at0, fm, q⟩ := h
  obtain ⟨m, em, et, hm⟩ := fm.place k
  have etil := fm.til k
  have htick := fm.tick
  have efin := fm.fin k
  apply join fun H1 => At K Hb H1 S L C { D with place := setB D.place k (D.place k), til := setB D.til k (some ((W.sd k).til.getD (W.tick + n))), fin := setB D.fin k (D.fin k) } ∧ Tk H0 H1
  · intro tail
    refine ⟨_, rfl, _, _, _, _, _, rfl, at0.oC k, T.c_Course, T.a_Course_until, rfl, rfl, ?_⟩
    rw [isN_oV2]
    cases e : D.til k with
    | none =>
      refine ⟨_, rfl, iteT ⟨_, rfl, _, _, _, _, _, rfl, at0.o0, T.c_Flow, T.a_Flow_tick, rfl, _, rfl, _, _, rfl, rfl, _, rfl, _, _, _, _, rfl, at0.oC k, T.c_Course, T.a_Course_until, by show 6 < 1000; decide, ?_⟩⟩
      have ep : putF "until" (.int (D.tick + n)) (crsF C D k) = crsL C k (D.place k) (some (D.tick + n)) (D.fin k) := rfl
      rw [ep]
      obtain ⟨a1, t1⟩ := at0.mC k (D.place k) (some (D.tick + n)) (D.fin k)
      refine tail _ ⟨?_, t1⟩
      rw [← etil, e, ← htick]
      exact a1
    | some v =>
      refine ⟨_, rfl, iteF (tail _ ⟨?_, .refl _⟩)⟩
      rw [← etil, e]
      show At K Hb H0 S L C { D with place := setB D.place k (D.place k), til := setB D.til k (some v), fin := setB D.fin k (D.fin k) }
      rw [← e, setB_self, setB_self, setB_self]
      exact at0
  · rintro H1 ⟨a1, t1⟩
    have eu : setB D.til k (some ((W.sd k).til.getD (W.tick + n))) k = some ((W.sd k).til.getD (W.tick + n)) := setB_same
    refine ⟨_, rfl, _, _, _, _, _, rfl, a1.o0, T.c_Flow, T.a_Flow_tick, rfl, _, rfl, _, _, _, _, _, rfl, a1.oC k, T.c_Course, T.a_Course_until, rfl, D.tick, (W.sd k).til.getD (W.tick + n), rfl, by show oV (setB D.til k _ k) = _; rw [eu]; rfl, _, rfl, ?_⟩
    rw [htick]
    refine ite_dec (fun h1 => ?_) (fun h1 => ?_)
    · rw [if_pos h1, decide_eq_true h1] at q
      exact q H1 _ a1 t1 (FM.crs (fm.tk t1) rfl rfl rfl rfl rfl rfl rfl rfl rfl efin ⟨m, em, et, hm⟩)
    · rw [if_neg h1, decide_eq_false h1] at q
      refine ⟨_, rfl, _, _, _, _, rfl, a1.oC k, T.c_Course, T.a_Course_until, by show 6 < 1000; decide, ?_⟩
      have ep : putF "until" .non (crsF C { D with place := setB D.place k (D.place k), til := setB D.til k (some ((W.sd k).til.getD (W.tick + n))), fin := setB D.fin k (D.fin k) } k) = crsL C k (D.place k) none (D.fin k) := by
        rw [setB_self, setB_self]
        rfl
      rw [ep]
      obtain ⟨a2, t2⟩ := a1.mC k (D.place k) none (D.fin k)
      dsimp only at a2
      rw [setB_setB, setB_setB, setB_setB] at a2
      exact q _ _ a2 (t1.trans t2) (FM.crs (fm.tk (t1.trans t2)) rfl rfl rfl rfl rfl rfl rfl rfl rfl efin ⟨m, em, et, hm⟩)
theorem step_def {S : Sh} {W : Wo} {k : Bool} : step S W k = match (W.sd k).todo with
  | [] => (W, false)
  | (.pa, n) :: _ =>
    if W.tick < (W.sd k).til.getD (W.tick + n) then (W.put k { W.sd k with til := some ((W.sd k).til.getD (W.tick + n)) }, false)
    else (pass W k 0, true)
  | (.rd, n) :: _ => if (W.sd k).come - (W.sd k).used < n then (W, false) else (pass W k n, true)
  | (.wr, n) :: _ => (pass (free S (W.put k { W.sd k with kept := (W.sd k).kept + n }) k) k 0, true) := rfl
abbrev N_Course_do_step : List Str := ["self", "flow", "side", "word", "amount"]
theorem sc_Course_do_step : FnScope N_Course_do_step ["self", "flow", "side"] (defScope s_Course_do_step) := ⟨rfl, rfl, rfl, by decide +kernel, rfl, by decide +kernel, by decide +kernel⟩
theorem ok_do_step (T : Tx K mg w) : Okm P w K mg base "Course" "do_step" ["self", "flow", "side"] 5 (sp3 fun s fl sd H Q => ∃ Hb S L C D W k Pl, s = .ref (L (13 + kN k)) ∧ fl = .ref (L 0) ∧ sd = .int (kI k) ∧ Fine S ∧ At K Hb H S L C D ∧ FM S H C D W ∧ Bt S W Pl ∧ (W.sd k).todo ≠ [] ∧
    ∀ H' D', At K Hb H' S L C D' → Tk H H' → FM S H' C D' (step S W k).1 → Q (.bl (step S W k).2) H') := by
  have O_Flow_put := ok_put (P := P) (w := w) (base := base) T
  have O_Flow_fresh := ok_fresh (P := P) (w := w) (base := base) T
  have O_Course_rests := ok_rests (P := P) (w := w) (base := base) T
  have O_Course_pass_step := ok_pass_step (P := P) (w := w) (base := base) T
  refine mkM T ix_Course_do_step rfl T.c_Course T.m_Course_do_step sc_Course_do_step (fun _ _ _ _ _ _ us hl => match us, hl with | [_, _, _], _ => rfl) len3 (fun cdv A outer s0 H0 E vs Q hr h => ?_)
  refine ⟨_, (pss_cons (ps_asg (pe_ix (ixL K) (fldK K (pv 0)) (fldK K (pv 0)) (fun _ _ => rfl)) (pg_tup (by rfl) (pgs_cons (pg_name (i := 3) sc_Course_do_step.nd rfl (Or.inl rfl)) (pgs_cons (pg_name (i := 4) sc_Course_do_step.nd rfl (Or.inl rfl)) pgs_nil))))
    (pss_cons (ps_if (pt_cmpR op_eq (pv 3) pe_str (nomark _))
      (pss_one (ps_expr (pe_m K O_Flow_put (hr.mono (by decide)) (pv 1) (pa_cons (pv 2) (pa_cons (pv 4) pa_nil)))))
      (pss_one (ps_if (pt_cmpR op_eq (pv 3) pe_str (nomark _))
      (pss_cons (ps_if (pt_cmpR op_lt (pe_m K O_Flow_fresh (hr.mono (by decide)) (pv 1) (pa_cons (pv 2) pa_nil)) (pv 4) (nomark _))
      (pss_one (ps_ret pe_bl))
      pss_nil)
    (pss_one (ps_augS (fldK K (pv 1)) (pv 2) get_list (pv 4) ip_add set_list)))
      (pss_one (ps_if (pt_val (pe_m K O_Course_rests (hr.mono (by decide)) (pv 0) (pa_cons (pv 1) (pa_cons (pv 4) pa_nil))))
      (pss_one (ps_ret pe_bl))
      pss_nil)))))
    (pss_cons (ps_expr (pe_m K O_Course_pass_step (hr.mono (by decide)) (pv 0) (pa_cons (pv 1) pa_nil)))
    (pss_one (ps_ret pe_bl))))), ?_⟩
  obtain ⟨_, _, _, rfl, Hb, S, L, C, D, W, k, Pl, rfl, rfl, rfl, fi, at0, fm, bt, htd, q⟩ := h
  obtain ⟨m, em, et, hm⟩ := fm.place k
  have g := bt.good
  have hlt : m < (C.all k).length := Nat.lt_of_not_le fun z => htd (by rw [et]; exact List.drop_eq_nil_of_le z)
  have hfin : (W.sd k).fin = none := (g.fin k).mpr htd
  obtain ⟨⟨wd, n⟩, e0⟩ : ∃ x, (C.all k)[m]? = some x := ⟨_, List.getElem?_eq_getElem hlt⟩
  have ec : (W.sd k).todo = (wd, n) :: (C.all k).drop (m + 1) := by rw [et, drop_at e0]
  have htdV := at0.ok.td k
  have hfl : m < (C.fv k).length := by rw [Paired.length htdV]; exact hlt
  have ev : (C.fv k)[m]? = some ((C.fv k)[m]'hfl) := List.getElem?_eq_getElem hfl
  obtain ⟨y, hy, a, ea, ha⟩ := pgetV htdV ev
  rw [e0] at hy
  cases hy
  rw [ea] at ev
  have ha := at0.base.tup ha
  have hq := at0.base.lst (at0.ok.q k)
  refine ⟨_, rfl, _, _, _, _, _, rfl, at0.oC k, T.c_Course, T.a_Course_steps, rfl, _, rfl, _, _, _, _, _, rfl, at0.oC k, T.c_Course, T.a_Course_place, rfl, C.q k, _, (m : Int), _, rfl, by rw [em], SqL.of hq, atI_nat ev, a, _, rfl, SqT.of ha, rfl, _, _, rfl, _, _, rfl, rfl, ?_⟩
  rw [step_def, ec] at q
  cases wd with
  | wr =>
    have hn := (g.pos k (.wr, n) (by rw [ec]; exact List.mem_cons_self)).2 rfl
    refine ⟨_, rfl, rfl, _, rfl, iteT ⟨_, rfl, _, _, _, rfl, at0.o0, rfl, _, rfl, _, rfl, _, _, _, rfl, Hb, S, L, C, D, W, k, n, Pl, rfl, rfl, rfl, fi, at0, fm, hn, by have := bt.bnd.kept k; omega, bt.write ec, fun H1 D1 a1 f1 t1 => ?_⟩⟩
    obtain ⟨r1, r2, r3, _⟩ := free_rest (S := S) (W := W.put k { W.sd k with kept := (W.sd k).kept + n }) (k := k)
    rw [Wo.put_same] at r1 r2 r3
    have htil : (W.sd k).til = none := by
      cases z : (W.sd k).til with
      | none => rfl
      | some v =>
        obtain ⟨n', r', e'⟩ := g.til k (by rw [z]; simp)
        rw [ec] at e'; cases e'
    exact ⟨_, rfl, _, _, _, rfl, a1.oC k, rfl, _, rfl, _, _, rfl, Hb, S, L, C, D1, _, k, rfl, rfl, a1, f1, by rw [r1]; exact htd, by rw [r3]; exact hfin, by rw [r2]; exact htil, fun H2 D2 a2 f2 t2 => q H2 D2 a2 (t1.trans t2) f2⟩
  | rd =>
    have htil : (W.sd k).til = none := by
      cases z : (W.sd k).til with
      | none => rfl
      | some v =>
        obtain ⟨n', r', e'⟩ := g.til k (by rw [z]; simp)
        rw [ec] at e'; cases e'
    refine ⟨_, rfl, rfl, _, rfl, iteF ⟨_, rfl, rfl, _, rfl, iteT ⟨_, rfl, _, _, _, rfl, at0.o0, rfl, _, rfl, _, _, rfl, Hb, S, L, C, D, k, rfl, rfl, at0, _, rfl, _, _, rfl, rfl, _, rfl, ?_⟩⟩⟩
    rw [fm.come, fm.taken]
    refine ite_dec (fun h1 => ?_) (fun h1 => ?_)
    · have q : ∀ H' D', At K Hb H' S L C D' → Tk H0 H' → FM S H' C D' (if (W.sd k).come - (W.sd k).used < n then (W, false) else (Sm.pass W k n, true)).1 → Q (.bl (if (W.sd k).come - (W.sd k).used < n then (W, false) else (Sm.pass W k n, true)).2) H' := q
      rw [if_pos h1] at q
      exact q H0 D at0 (.refl _) fm
    · have q : ∀ H' D', At K Hb H' S L C D' → Tk H0 H' → FM S H' C D' (if (W.sd k).come - (W.sd k).used < n then (W, false) else (Sm.pass W k n, true)).1 → Q (.bl (if (W.sd k).come - (W.sd k).used < n then (W, false) else (Sm.pass W k n, true)).2) H' := q
      rw [if_neg h1] at q
      refine ⟨_, rfl, _, _, _, _, _, rfl, at0.o0, T.c_Flow, T.a_Flow_taken, rfl, _, rfl, _, _, _, _, rfl, rfl, SqL.of at0.o8, atK _ _, _, rfl, _, _, rfl, rfl, _, _, _, _, rfl, rfl, at0.o8, ixK _ _, ?_⟩
      obtain ⟨a1, t1⟩ := at0.m8 k (D.taken k + n)
      generalize upd H0 (L 8) _ = H1 at a1 t1 ⊢
      have f1 : FM S H1 C { D with taken := setB D.taken k (D.taken k + n) } (W.put k { W.sd k with used := (W.sd k).used + n }) := by
        have fm := fm.tk t1
        have evv : ∀ {α : Type} (f : Sd → α), f { W.sd k with used := (W.sd k).used + n } = f (W.sd k) → ∀ j, f ((W.put k { W.sd k with used := (W.sd k).used + n }).sd j) = f (W.sd j) := fun f e j => by
          rcases Sm.two k j with rfl | rfl
          · rw [Wo.put_same]; exact e
          · rw [Wo.put_other]
        refine ⟨fm.tick, fun j => (fm.out j).trans (evv Sd.out rfl j).symm, fun j => (fm.known j).trans (evv Sd.known rfl j).symm, fun j => (fm.small j).trans (evv Sd.small rfl j).symm, fun j => (fm.come j).trans (evv Sd.come rfl j).symm, fun j => ?_, fun j => (fm.full j).trans (evv Sd.full rfl j).symm, fun j => (fm.first j).trans (evv Sd.since rfl j).symm, fun j => by rw [evv Sd.kept rfl j]; exact fm.stk j, fm.fly, fm.lg, fun j => (fm.til j).trans (evv Sd.til rfl j).symm, fun j => (fm.fin j).trans (evv Sd.fin rfl j).symm, fun j => by rw [evv Sd.todo rfl j]; exact fm.place j⟩
        rcases Sm.two k j with rfl | rfl
        · rw [Wo.put_same]
          show setB D.taken j _ j = _
          rw [setB_same, fm.taken]
        · rw [Wo.put_other]
          show setB D.taken k _ (!k) = _
          rw [setB_other, fm.taken]
      refine ⟨_, rfl, _, _, _, rfl, a1.oC k, rfl, _, rfl, _, _, rfl, Hb, S, L, C, _, _, k, rfl, rfl, a1, f1, by rw [Wo.put_same]; exact htd, by rw [Wo.put_same]; exact hfin, by rw [Wo.put_same]; exact htil, fun H2 D2 a2 f2 t2 => q H2 D2 a2 (t1.trans t2) ?_⟩
      rw [put_pass] at f2
      dsimp only at f2
      rw [Int.add_zero] at f2
      exact f2
  | pa =>
    refine ⟨_, rfl, rfl, _, rfl, iteF ⟨_, rfl, rfl, _, rfl, iteF ⟨_, rfl, _, _, _, rfl, at0.oC k, rfl, _, rfl, _, rfl, _, _, _, rfl, Hb, S, L, C, D, W, k, n, rfl, rfl, rfl, at0, fm, fun H1 D1 a1 t1 f1 => ⟨_, rfl, ?_⟩⟩⟩⟩
    have q : ∀ H' D', At K Hb H' S L C D' → Tk H0 H' → FM S H' C D' (if W.tick < (W.sd k).til.getD (W.tick + n) then (W.put k { W.sd k with til := some ((W.sd k).til.getD (W.tick + n)) }, false) else (Sm.pass W k 0, true)).1 → Q (.bl (if W.tick < (W.sd k).til.getD (W.tick + n) then (W.put k { W.sd k with til := some ((W.sd k).til.getD (W.tick + n)) }, false) else (Sm.pass W k 0, true)).2) H' := q
    refine ite_dec (fun h1 => ?_) (fun h1 => ?_)
    · rw [if_pos h1] at q f1
      exact q H1 D1 a1 t1 f1
    · rw [if_neg h1] at q f1
      refine ⟨_, rfl, _, _, _, rfl, a1.oC k, rfl, _, rfl, _, _, rfl, Hb, S, L, C, _, _, k, rfl, rfl, a1, f1, by rw [Wo.put_same]; exact htd, by rw [Wo.put_same]; exact hfin, by rw [Wo.put_same], fun H2 D2 a2 f2 t2 => q H2 D2 a2 (t1.trans t2) ?_⟩
      rw [put_pass] at f2
      exact f2
abbrev N_Course_go_on : List Str := ["self", "flow", "side"]
theorem sc_Course_go_on : FnScope N_Course_go_on ["self", "flow", "side"] (defScope s_Course_go_on) := ⟨rfl, rfl, rfl, by decide +kernel, rfl, by decide +kernel, by decide +kernel⟩
theorem ok_go_on (T : Tx K mg w) : Okm P w K mg base "Course" "go_on" ["self", "flow", "side"] 6 (sp3 fun s fl sd H Q => ∃ Hb S L C D W k Pl, s = .ref (L (13 + kN k)) ∧ fl = .ref (L 0) ∧ sd = .int (kI k) ∧ Fine S ∧ At K Hb H S L C D ∧ FM S H C D W ∧ Bt S W Pl ∧
    ∀ H' D', At K Hb H' S L C D' → Tk H H' → FM S H' C D' (goes S W k) → Q .non H') := by
  have O_Course_do_step := ok_do_step (P := P) (w := w) (base := base) T
  refine mkM T ix_Course_go_on rfl T.c_Course T.m_Course_go_on sc_Course_go_on (fun _ _ _ _ _ _ us hl => match us, hl with | [_, _, _], _ => rfl) len3 (fun cdv A outer s0 H0 E vs Q hr h => ?_)
  refine ⟨_, (pss_one (ps_while PassesOwn.never (PW.pt (pw_and (pt_cmpR op_isN (fldK K (pv 0)) pe_non (nomark _)) (pw_and1 (pt_val (pe_m K O_Course_do_step (hr.mono (by decide)) (pv 0) (pa_cons (pv 1) (pa_cons (pv 2) pa_nil)))))))
      (pss_one ps_pass))), ?_⟩
  obtain ⟨_, _, _, rfl, Hb, S, L, C, D, W, k, Pl, rfl, rfl, rfl, fi, at0, fm, bt, q⟩ := h
  refine ⟨fun n σ H => ∃ V D, σ = [some (.ref (L (13 + kN k))), some (.ref (L 0)), some (.int (kI k))] ∧ At K Hb H S L C D ∧ FM S H C D V ∧ Bt S V Pl ∧ Tk H0 H ∧ n = (V.sd k).todo.length ∧ steps S V k n = goes S W k,
    ⟨(W.sd k).todo.length, W, D, rfl, at0, fm, bt, .refl _, rfl, rfl⟩, ?_⟩
  rintro n σ H ⟨V, D, rfl, a, f, b, tk, rfl, hs⟩
  refine ⟨_, rfl, _, _, _, _, _, rfl, a.oC k, T.c_Course, T.a_Course_ended, rfl, rfl, ?_⟩
  rw [isN_oV2, f.fin]
  cases e : (V.sd k).todo with
  | nil =>
    have e2 : (V.sd k).fin ≠ none := fun z => (b.good.fin k).mp z e
    rw [e] at hs
    have hs : V = goes S W k := hs
    cases e3 : (V.sd k).fin with
    | none => exact absurd e3 e2
    | some t => exact ⟨_, rfl, iteF (q H D a tk (hs ▸ f))⟩
  | cons y r =>
    have ne : (V.sd k).todo ≠ [] := by rw [e]; simp
    rw [(b.good.fin k).mpr ne]
    refine ⟨_, rfl, iteT ⟨_, rfl, _, _, _, rfl, a.oC k, rfl, _, rfl, _, rfl, _, _, _, rfl, Hb, S, L, C, D, V, k, Pl, rfl, rfl, rfl, fi, a, f, b, ne, fun H1 D1 a1 t1 f1 => ⟨_, rfl, ?_⟩⟩⟩
    rw [e] at hs
    have hs : (if (step S V k).2 = true then steps S (step S V k).1 k r.length else (step S V k).1) = goes S W k := hs
    cases z : (step S V k).2 with
    | false =>
      rw [z] at hs
      have hs : (step S V k).1 = goes S W k := hs
      exact iteF (q H1 D1 a1 (tk.trans t1) (hs ▸ f1))
    | true =>
      rw [z] at hs
      have hs : steps S (step S V k).1 k r.length = goes S W k := hs
      have et := (step_todo z).1
      rw [e] at et
      have et : ((step S V k).1.sd k).todo = r := et
      refine iteT ⟨fun σ H => σ = [some (.ref (L (13 + kN k))), some (.ref (L 0)), some (.int (kI k))] ∧ H = H1, ?_, rfl, rfl⟩
      rintro σ' H' ⟨rfl, rfl⟩
      exact ⟨r.length, by rw [List.length_cons]; omega, (step S V k).1, D1, rfl, a1, f1, b.leads (Leads.step fi b.good), tk.trans t1, by rw [et], hs⟩
end
end Sm

/-! The program: a tick, and the next one. -/
namespace Sm
open PySem PySem.Spec PyProof.Rows L2
theorem minV_eq {l l' : List Int} (h1 : ∀ y ∈ l, ∃ z ∈ l', z ≤ y) (h2 : ∀ y ∈ l', ∃ z ∈ l, z ≤ y) : minV l = minV l' := by
  unfold minV
  by_cases e : l = []
  · subst e
    by_cases e' : l' = []
    · rw [e']
    · obtain ⟨z, hz, _⟩ := h2 _ (minL_mem e')
      cases hz
  · by_cases e' : l' = []
    · subst e'
      obtain ⟨z, hz, _⟩ := h1 _ (minL_mem e)
      cases hz
    · rw [if_neg e, if_neg e']
      obtain ⟨z, hz, q⟩ := h1 _ (minL_mem e)
      obtain ⟨z', hz', q'⟩ := h2 _ (minL_mem e')
      have a := minL_le hz
      have b := minL_le hz'
      have : minL l = minL l' := by omega
      rw [this]
theorem minV_none {l : List Int} : minV l = .non ↔ l = [] := by
  unfold minV
  split
  · rename_i h; simp [h]
  · rename_i h; simp [h]
def tilL (W : Wo) : List Int := optL (W.sd false).til ++ optL (W.sd true).til
/-- the list that the program makes -/
def evL (S : Sh) (W : Wo) : List Int := tilL W ++ (if flowL S W = [] then [] else [minL (flowL S W)])
theorem evL_eq (S : Sh) (W : Wo) : minV (evL S W) = minV (later S W) := by
  have mem : ∀ y, y ∈ later S W ↔ (y ∈ tilL W ∨ y ∈ flowL S W) := fun y => by
    unfold later laterSd laterLog tilL flowL flying
    simp only [List.mem_append]
    constructor
    · rintro (((h | h) | (h | h)) | h)
      · exact .inr (.inr (.inl h))
      · exact .inl (.inl h)
      · exact .inr (.inr (.inr h))
      · exact .inl (.inr h)
      · exact .inr (.inl h)
    · rintro ((h | h) | (h | h | h))
      · exact .inl (.inl (.inr h))
      · exact .inl (.inr (.inr h))
      · exact .inr h
      · exact .inl (.inl (.inl h))
      · exact .inl (.inr (.inl h))
  refine minV_eq (fun y hy => ?_) (fun y hy => ?_)
  · unfold evL at hy
    rcases List.mem_append.mp hy with h | h
    · exact ⟨y, (mem y).mpr (.inl h), Int.le_refl _⟩
    · split at h
      · cases h
      · rename_i hn
        rw [List.mem_singleton.mp h]
        exact ⟨_, (mem _).mpr (.inr (minL_mem hn)), Int.le_refl _⟩
  · unfold evL
    rcases (mem y).mp hy with h | h
    · exact ⟨y, List.mem_append.mpr (.inl h), Int.le_refl _⟩
    · refine ⟨minL (flowL S W), List.mem_append.mpr (.inr ?_), minL_le h⟩
      rw [if_neg (fun z => by rw [z] at h; cases h)]
      exact List.mem_singleton.mpr rfl
section
variable {P : Program} {w : World} {K : PySem.W.Frag} {mg : Str → Option Value} {base : Heap}
theorem oV_some {o : Option Int} {t : Int} (h : o = some t) : oV o = V.int t := by rw [h]; rfl
abbrev N_events : List Str := ["flow", "courses", "ticks", "after", "course"]
theorem sc_events : FnScope N_events ["flow", "courses"] (defScope s_events) := ⟨rfl, rfl, rfl, by decide +kernel, rfl, by decide +kernel, by decide +kernel⟩
theorem ok_events (T : Tx K mg w) : Okf P w K mg base "events" ["flow", "courses"] 2 (sp2 fun fl cs H Q => ∃ Hb S L C D W Pl u, fl = .ref (L 0) ∧ cs = .ref u ∧ H u = some (.tup [.ref (L 13), .ref (L 14)]) ∧ At K Hb H S L C D ∧ FM S H C D W ∧ Bnd S W Pl ∧
    ∀ H', Ke H H' → Q (minV (later S W)) H') := by
  have O_Flow_next_tick := ok_next_tick (P := P) (w := w) (base := base) T
  refine mkF T ix_events rfl T.g_events sc_events (fun _ _ _ _ _ _ us hl => match us, hl with | [_, _], _ => rfl) len2 (fun cdv A outer s0 H0 E vs Q hr h => ?_)
  refine ⟨_, (pss_cons (ps_setLc (i := 2) (own := [(("course" : Str), 4)]) (by rfl) sc_events.nd rfl rfl (sw_true rfl rfl rfl (by decide +kernel)) (piT K (pv 1)) (blkOk_by (own := [(("course" : Str), 4)]) (N := N_events) (sc := defScope s_events) (by decide +kernel)) (fun _ _ _ _ _ => pg_name (i := 4) sc_events.nd rfl (Or.inl rfl)) (fun _ _ _ _ _ => pts_one (pt_cmpR op_notN (fldK K (pv 4)) pe_non (nomark _))) (fun _ _ _ _ _ => (fldK K (pv 4))))
    (pss_cons (ps_set (i := 3) sc_events.nd rfl (Or.inl rfl) (pe_m0 K O_Flow_next_tick (hr.mono (by decide)) (pv 0)))
    (pss_cons (ps_if (pt_cmpR op_notN (pv 3) pe_non (nomark _))
      (pss_one (ps_expr (pe_bm PySem.F.plainAttrs_list PySem.F.slot_list_append PySem.F.type_list_append mt_append (pv 2) (pa_cons (pv 3) pa_nil))))
      pss_nil)
    (pss_one (ps_ret (pe_ifExp (pt_cmpR op_gt (pe_callB (lenK K) (by rfl) T.n_len (by decide +kernel) (pa_cons (pv 2) pa_nil)) pe_int (nomark _)) (pe_callB (minK K rfl) (by rfl) T.n_min (by decide +kernel) (pa_cons (pv 2) pa_nil)) pe_non)))))), ?_⟩
  obtain ⟨_, _, rfl, Hb, S, L, C, D, W, Pl, u, rfl, rfl, hu, at0, fm, bd, q⟩ := h
  rw [← evL_eq] at q
  refine ⟨_, rfl, u, rfl, ⟨_, SqT.of hu⟩, lc_t (fun i => if i = 0 then [] else if i = 1 then (optL (W.sd false).til).map V.int else (tilL W).map V.int) (SqT.of hu) rfl (fun i hi => ?_) (fun i x H' hx kH Yes No yes no => ?_) (fun E H2 hE k2 hE2 => ?_)⟩
  · have := z6000
    have h1 : ∀ o : Option Int, (optL o).length ≤ 1 := fun o => by cases o <;> simp [optL]
    have h2 := h1 (W.sd false).til
    have h3 := h1 (W.sd true).til
    unfold tilL
    split
    · simp; omega
    · split
      · rw [List.length_map]; omega
      · rw [List.length_map, List.length_append]; omega
  · have a := at0.ke kH
    match i, hx with
    | 0, hx =>
      cases hx
      refine ⟨rfl, _, rfl, _, _, _, _, _, rfl, a.oC false, T.c_Course, T.a_Course_until, rfl, rfl, ?_⟩
      rw [isN_oV2, fm.til]
      cases e : (W.sd false).til with
      | none => exact ⟨_, rfl, iteF (no _ (.refl _) (by rw [if_neg (by decide), if_pos rfl, if_pos rfl, e]; rfl))⟩
      | some t => exact ⟨_, rfl, iteT ⟨_, rfl, _, _, _, _, _, rfl, a.oC false, T.c_Course, T.a_Course_until, rfl, yes _ _ (.refl _) (by rw [if_neg (by decide), if_pos rfl, if_pos rfl, fm.til, e]; rfl)⟩⟩
    | 1, hx =>
      cases hx
      refine ⟨rfl, _, rfl, _, _, _, _, _, rfl, a.oC true, T.c_Course, T.a_Course_until, rfl, rfl, ?_⟩
      rw [isN_oV2, fm.til]
      unfold tilL at no yes
      cases e : (W.sd true).til with
      | none => exact ⟨_, rfl, iteF (no _ (.refl _) (by rw [if_neg (by decide), if_neg (by decide), if_neg (by decide), if_pos rfl, e]; show List.map _ (_ ++ []) = _; rw [List.append_nil]))⟩
      | some t => exact ⟨_, rfl, iteT ⟨_, rfl, _, _, _, _, _, rfl, a.oC true, T.c_Course, T.a_Course_until, rfl, yes _ _ (.refl _) (by rw [if_neg (by decide), if_neg (by decide), if_neg (by decide), if_pos rfl, fm.til, e, List.map_append]; rfl)⟩⟩
    | i + 2, hx => simp at hx
  have a2 := at0.ke k2
  have hE2 : H2 E = some (.lst ((tilL W).map V.int)) := hE2
  refine ⟨_, rfl, _, _, _, rfl, a2.o0, rfl, _, rfl, Hb, S, L, C, D, W, Pl, rfl, a2, fm.tk k2.tk, bd, fun H3 k3 => ?_⟩
  have hE3 := k3.lst hE2
  have tl : (tilL W).length ≤ 2 := by
    have h1 : ∀ o : Option Int, (optL o).length ≤ 1 := fun o => by cases o <;> simp [optL]
    have h2 := h1 (W.sd false).til
    have h3 := h1 (W.sd true).til
    unfold tilL
    rw [List.length_append]; omega
  apply join fun H4 => Ke H0 H4 ∧ H4 E = some (.lst ((evL S W).map V.int))
  · intro tail
    refine ⟨_, rfl, rfl, ?_⟩
    by_cases e : flowL S W = []
    · have ed : decide (minV (flowL S W) = .non) = true := decide_eq_true (minV_none.mpr e)
      rw [ed]
      refine ⟨_, rfl, iteF (tail _ ⟨k2.trans k3, ?_⟩)⟩
      unfold evL
      rw [if_pos e, List.append_nil]
      exact hE3
    · have ed : decide (minV (flowL S W) = .non) = false := decide_eq_false (fun z => e (minV_none.mp z))
      rw [ed]
      refine ⟨_, rfl, iteT ⟨_, rfl, .inl ⟨rfl, _, SqL.of hE3⟩, _, rfl, E, _, _, rfl, rfl, hE3, by rw [List.length_map]; have := z6000; omega, tail _ ⟨(k2.trans k3).mut hE (noCode_lst hE3), ?_⟩⟩⟩
      rw [upd_same]
      unfold evL minV
      rw [if_neg e, if_neg e, List.map_append]
      rfl
  · rintro H4 ⟨k4, hE4⟩
    have q := q H4 k4
    unfold minV at q
    refine ⟨_, rfl, E, _, rfl, .inl (SqL.of hE4), _, _, rfl, rfl, _, rfl, ?_⟩
    cases e : evL S W with
    | nil =>
      rw [e] at q
      exact iteF q
    | cons x r =>
      rw [e] at q hE4
      refine ite_dec (fun _ => ⟨_, rfl, E, x :: r, rfl, SqL.of hE4, by simp, fun m hm hall => ?_⟩) (fun z => absurd (by simp) z)
      rw [if_neg (by simp), minL_uniq hm hall] at q
      exact q
abbrev N_do_tick : List Str := ["flow", "courses", "tick", "side"]
theorem sc_do_tick : FnScope N_do_tick ["flow", "courses", "tick"] (defScope s_do_tick) := ⟨rfl, rfl, rfl, by decide +kernel, rfl, by decide +kernel, by decide +kernel⟩
theorem ok_do_tick (T : Tx K mg w) : Okf P w K mg base "do_tick" ["flow", "courses", "tick"] 7 (sp3 fun fl cs tk H Q => ∃ Hb S L C D W u t, fl = .ref (L 0) ∧ cs = .ref u ∧ tk = .int t ∧ Hb u = some (.tup [.ref (L 13), .ref (L 14)]) ∧ Fine S ∧ At K Hb H S L C D ∧ FM S H C D W ∧ W.tick ≤ t ∧ (∀ p ∈ W.log, W.tick < p.t + S.way → t ≤ p.t + S.way) ∧ (∀ p ∈ W.log, p.t + S.way = t → W.tick < t) ∧
    Bt S (adv W t) (landing S (adv W t)) ∧ ∀ H' D', At K Hb H' S L C D' → FM S H' C D' (tickW S (adv W t)) → Q .non H') := by
  have O_Flow_begin := ok_begin (P := P) (w := w) (base := base) T
  have O_Flow_leave := ok_leave (P := P) (w := w) (base := base) T
  have O_Course_go_on := ok_go_on (P := P) (w := w) (base := base) T
  refine mkF T ix_do_tick rfl T.g_do_tick sc_do_tick (fun _ _ _ _ _ _ us hl => match us, hl with | [_, _, _], _ => rfl) len3 (fun cdv A outer s0 H0 E vs Q hr h => ?_)
  refine ⟨_, (pss_cons (ps_expr (pe_m K O_Flow_begin (hr.mono (by decide)) (pv 0) (pa_cons (pv 2) pa_nil)))
    (pss_cons (ps_for PassesOwn.never rfl (piT K (pe_tup (pa_cons pe_int (pa_cons pe_int pa_nil)))) (pg_name (i := 3) sc_do_tick.nd rfl (Or.inl rfl))
      (pss_one (ps_expr (pe_m K O_Course_go_on (hr.mono (by decide)) (pe_ix (ixT K) (pv 1) (pv 3) (fun _ _ => rfl)) (pa_cons (pv 0) (pa_cons (pv 3) pa_nil))))))
    (pss_one (ps_expr (pe_m0 K O_Flow_leave (hr.mono (by decide)) (pv 0)))))), ?_⟩
  obtain ⟨_, _, _, rfl, Hb, S, L, C, D, W, c, t, rfl, rfl, rfl, hc, fi, at0, fm, hle, hl, hl2, bt, q⟩ := h
  have l1 := leads_t1 fi bt.good
  have l2 := leads_t2 fi bt.good
  have l3 := leads_t3 fi bt.good
  refine ⟨_, rfl, _, _, _, rfl, at0.o0, rfl, _, rfl, _, _, rfl, Hb, S, L, C, D, W, t, rfl, rfl, fi, at0, fm, hle, hl, hl2, bt.bnd, fun H1 D1 a1 f1 => ?_⟩
  refine ⟨by show 2 ≤ sizeLine; decide, fun u nu => ?_⟩
  have ku : Ke H1 (upd H1 u (.tup [.int 0, .int 1])) := .new nu
  have hu : (upd H1 u (.tup [.int 0, .int 1])) u = some (.tup [.int 0, .int 1]) := upd_same
  generalize upd H1 u _ = H6 at ku hu ⊢
  refine ⟨u, rfl, ⟨_, SqT.of hu⟩, for_tup (K := K) (xs := [.int 0, .int 1]) (fun i σ H => ∃ D' st, σ = [some (.ref (L 0)), some (.ref c), some (.int t), st] ∧ At K Hb H S L C D' ∧ FM S H C D' (if i = 0 then Sm.t1 S (adv W t) else if i = 1 then t2 S (adv W t) else t3 S (adv W t)) ∧ Tk H6 H)
    ⟨_, _, rfl, a1.ke ku, f1.tk ku.tk, .refl _⟩ (fun i σ H _ p => ?_) (fun i v σ H hi p => ?_) (fun σ H p => ?_)⟩
  · obtain ⟨_, _, _, _, _, tk⟩ := p
    exact SqT.of (tk _ _ hu)
  · obtain ⟨D2, st, rfl, a, fm, tk⟩ := p
    have hc2 := SqT.of (K := K) (a.base.tup hc)
    match i, hi with
    | 0, hi =>
      cases hi
      exact ⟨_, rfl, _, rfl, c, _, 0, _, rfl, rfl, hc2, atI0, _, _, _, rfl, a.oC false, rfl, _, rfl, _, rfl, _, _, _, rfl, Hb, S, L, C, D2, _, false, [], rfl, rfl, rfl, fi, a, fm, bt.leads l1, fun H' D'' a' tk' fm' => ⟨D'', _, rfl, a', fm', tk.trans tk'⟩⟩
    | 1, hi =>
      cases hi
      exact ⟨_, rfl, _, rfl, c, _, 1, _, rfl, rfl, hc2, atI1, _, _, _, rfl, a.oC true, rfl, _, rfl, _, rfl, _, _, _, rfl, Hb, S, L, C, D2, _, true, [], rfl, rfl, rfl, fi, a, fm, bt.leads l2, fun H' D'' a' tk' fm' => ⟨D'', _, rfl, a', fm', tk.trans tk'⟩⟩
    | i + 2, hi => simp at hi
  · obtain ⟨D2, st, rfl, a, fm, tk⟩ := p
    have fm : FM S H C D2 (t3 S (adv W t)) := fm
    exact ⟨_, rfl, _, _, _, rfl, a.o0, rfl, _, rfl, Hb, S, L, C, D2, _, [], rfl, fi, a, fm, (bt.leads l3).bnd, fun H' D' a' f' t' => q H' D' a' f'⟩
end
end Sm

/-! sorted(xs, key=lambda p: p[:2]) of pieces. -/
namespace Sm
open PySem PySem.Spec PyProof.Rows L2 LamX
/-- the value is a piece's tuple -/
def PcR (h : Heap) (v : Value) (p : Pc) : Prop := ∃ (t : Addr) (z1 z2 : Tok) (r : List Value), v = .ref t ∧ IsTup h t (Value.int p.t z1 :: Value.int (kI p.k) z2 :: r).toArray ∧ r.length = 2
theorem IsTup.up {h h' : Heap} {t : Addr} {its : Array Value} (x : IsTup h t its) (k : ∀ b o, h.get? b = some o → h'.get? b = some o) : IsTup h' t its := let ⟨o, ho, q⟩ := x; ⟨o, k _ _ ho, q⟩
theorem each_of {X : Cx} {pins : List (Addr × Obj)} {σ : L2.St} {H : Hp} {s : Shared} (I : Inv X pins σ H s) : ∀ {xs : List V} {vs : List Value} {l : List Pc}, Vals xs vs → Paired (PcV H) xs l → PySem.W.EachIs (PcR s.heap) vs l
  | _, _, _, .nil, .nil => .nil
  | _, _, _, .cons r1 r2, .cons h1 h2 => by
    refine .cons ?_ (each_of I r2 h2)
    obtain ⟨a, rfl, ha⟩ := h1
    obtain ⟨its, rv, ht, _⟩ := I.tuple (SqT.of ha)
    cases rv with | cons q0 rv =>
    cases rv with | cons q1 rv =>
    cases rv with | cons q2 rv =>
    cases rv with | cons q3 rv =>
    cases rv
    obtain ⟨z1, rfl⟩ := q0
    obtain ⟨z2, rfl⟩ := q1
    exact ⟨a, z1, z2, _, r1, ht, rfl⟩
theorem vals_of {h : Heap} : ∀ {vs : List Value} {l : List Pc}, PySem.W.EachIs (PcR h) vs l → ∃ ys : List V, Vals ys vs
  | _, _, .nil => ⟨[], .nil⟩
  | _, _, .cons h1 h2 => by
    obtain ⟨ys, hy⟩ := vals_of h2
    obtain ⟨t, _, _, _, rfl, _⟩ := h1
    exact ⟨.ref t :: ys, .cons rfl hy⟩
def pcK (p : Pc) : PyData := .tuple [.int p.t, .int (kI p.k)]
/-- what the call asks: the lambda's table is known -/
def rSortK (K : PySem.W.Frag) (P : Addr) (Q : VK) (vs : List V) (H1 : Hp) : Prop := ∃ a xs l, vs = [V.ref a] ∧ SqL K H1 a xs ∧ Paired (PcV H1) xs l ∧ l.length ≤ sizeLine ∧ TabS H1 P lamQ ∧ ∀ (D : Addr) (H2 : Hp) (ys : List V), Ke H1 H2 → H2 D = none → Q (.ref D) (upd H2 D (.lst ys))
def tSortK (K : PySem.W.Frag) (P : Addr) (t : TA) : TE := fun σ H Q => t σ H (rSortK K P Q)
/-- a table that got one more code object of the name -/
theorem ke_tab {H : Hp} {P c : Addr} {ps more : Array Value} {pos : Pos} (hP : H P = some (.tbl ps)) (hc : H c = none) (em : more = #[rawInt pos.line, rawInt pos.col, .ref c]) : Ke H (upd (upd H P (.tbl (ps ++ more))) c (CodeO c lamQ)) := by
  subst em
  have nPc : P ≠ c := ne_of_none hP hc
  have up : ∀ b o, H b = some o → b ≠ P → upd (upd H P (.tbl (ps ++ #[rawInt pos.line, rawInt pos.col, .ref c]))) c (CodeO c lamQ) b = some o := fun b o e n => by
    rw [upd_ne (ne_of_none e hc), upd_ne n]
    exact e
  have nP : ∀ b o, H b = some o → (∀ qs, o ≠ .tbl qs) → b ≠ P := fun b o e n z => by
    rw [z, hP] at e
    exact n ps (Option.some.inj e).symm
  have atP : upd (upd H P (.tbl (ps ++ #[rawInt pos.line, rawInt pos.col, .ref c]))) c (CodeO c lamQ) P = some (.tbl (ps ++ #[rawInt pos.line, rawInt pos.col, .ref c])) := by rw [upd_ne nPc, upd_same]
  refine ⟨fun b o e n => up b o e (nP b o e n), fun b qs e => ?_, fun b q eq ⟨qs, h1, h2, h3⟩ => ?_⟩
  · by_cases z : b = P
    · exact ⟨_, by rw [z]; exact atP⟩
    · exact ⟨qs, up b _ e z⟩
  · have code : ∀ d, H d = some (CodeO d q) → upd (upd H P (.tbl (ps ++ #[rawInt pos.line, rawInt pos.col, .ref c]))) c (CodeO c lamQ) d = some (CodeO d q) := fun d e => up d _ e (nP d _ e codeO_ne)
    by_cases z : b = P
    · subst z
      rw [hP] at h1
      cases h1
      have el : (ps ++ #[rawInt pos.line, rawInt pos.col, .ref c]).toList = ps.toList ++ [rawInt pos.line, rawInt pos.col, .ref c] := by simp
      refine ⟨_, atP, by rw [el]; exact PySem.TriplesOk_snoc _ _ _ _ h2, fun p' cv hcv => ?_⟩
      rw [el] at hcv
      rcases among_app _ h2 hcv with y | y
      · obtain ⟨d, e1, e2⟩ := h3 p' cv y
        exact ⟨d, e1, code d e2⟩
      · exact ⟨c, y, by rw [eq]; exact upd_same⟩
    · refine ⟨qs, up b _ h1 z, h2, fun p' cv hcv => ?_⟩
      obtain ⟨d, e1, e2⟩ := h3 p' cv hcv
      exact ⟨d, e1, code d e2⟩
section
variable {X : Cx} {pins : List (Addr × Obj)} {σ : L2.St} {H : Hp} {s : Shared}
/-- the lambda comes to be -/
theorem lam_new {c P : Addr} {params : Arguments} {body : Expr} {scope : Scope} {pos : Pos} {E : Value → Shared → Prop} {Q : Value → Shared → Prop} (I : Inv X pins σ H s) (TB : TabB X.base X.mg c P) (hcode : X.env.code = .ref c) (hq : X.env.qual ++ "<lambda>" = lamQ) (hT : TabS H P lamQ)
    (hdef : defaultsOf params X.env = ([], [])) (hfree : ∀ y ∈ scope.names, y.2 = .free → ∃ c, X.env.cells.lookup y.1 = some c)
    (h : ∀ (f c' : Addr) (pm ctv : Value) (H1 : Hp) (s' : Shared), Inv X pins σ H1 s' → Ke H H1 → s'.heap.get? f = some (PySem.W.kla_obj "<lambda>" (X.env.qual ++ "<lambda>") params body scope (cloFrom X.env.cells scope.names []) pm c' ctv) → H1 c' = some (CodeO c' lamQ) → Q (.ref f) s') :
    wpAny (model X.prog X.w) X.A (eval (.Lambda params body scope pos) X.env) Q E s := by
  obtain ⟨ps, hP, htr, hall⟩ := hT
  have nspc := I.mod.glob.keeps I.bk
  have cdh := TB.code.keeps I.bk
  have blt := TB.bm.keeps I.bk
  have oP : s.heap.get? P = some { cls := .none, data := .fields ps } := I.hok P _ hP
  apply PySem.W.kla_eval hdef
  cases hc : codeAmong pos ps.toList with
  | some cv =>
    obtain ⟨c', rfl, hco⟩ := hall pos cv hc
    refine PySem.W.kla_makeFunctionHit (ps := ps) (closure_ok hfree) I.ok.glob nspc hcode cdh oP htr hc blt fun ctv h' tk hx hsz => ?_
    refine h h'.objs.size c' _ ctv H _ (I.kept fun b o e => Heap.get?_push_of_some _ (hx b o e)) (.refl H) (Heap.get?_push_size _ rfl) hco
  | none =>
    refine PySem.W.kla_makeFunction (ps := ps) (closure_ok hfree) I.ok.glob nspc hcode cdh oP htr hc TB.gP blt fun c' ctv h' tk hx hge hlt hrec htb => ?_
    obtain ⟨c2, oc, vs, t, e2, hoc, hd, hv⟩ := hrec
    cases e2
    have nC : H c' = none := I.hok.fresh hge
    rw [hq] at hv
    have J := inv_table (t' := tk) (q := lamQ) (more := #[rawInt pos.line, rawInt pos.col, .ref c']) (h' := h'.push (PySem.W.kla_obj "<lambda>" (X.env.qual ++ "<lambda>") params body scope (cloFrom X.env.cells scope.names []) ((X.mg "__name__").getD .none) c' ctv)) I hP
      (fun b o hb e => Heap.get?_push_of_some _ (hx b o hb e)) (Heap.get?_push_of_some _ htb) hge ⟨oc, vs, t, Heap.get?_push_of_some _ hoc, hd, hv⟩
    exact h h'.objs.size c' _ ctv _ _ J (ke_tab hP nC rfl) (Heap.get?_push_size _ rfl) upd_same
end
section
variable {X : Cx}
theorem pe_sortK {c P : Addr} {x y : Str} {e : Expr} {te : TA} {p pos lpos kp p1 p2 p3 p4 : Pos} {scope : Scope} {params : Arguments} {j : Nat} (hg : Gl X x) (hm : X.mg x = none) (hv : bootBuiltins x = some (.builtin "sorted")) (he : PA X [e] te)
    (TB : TabB X.base X.mg c P) (hcode : X.env.code = .ref c) (hq : X.env.qual ++ "<lambda>" = lamQ) (hr : Room 3 X.A) (hun : X.A.units + 64 < cLine)
    (hdef : defaultsOf params X.env = ([], [])) (hk : scope.kind = .function) (hco : scope.isCoroutine = false) (hgen : scope.isGenerator = false) (hcell : ∀ x ∈ scope.names, x.2 ≠ .cell) (hfr : ∀ x ∈ scope.names, x.2 ≠ .free) (hloc : scope.names.lookup y = some NameKind.local)
    (hbind : ∀ (v pm cv ctv : Value), bindArgs (PySem.W.kla_fn "<lambda>" (X.env.qual ++ "<lambda>") params (.Subscript (.Name y p1) (.Slice none (some (.Constant (.int 2) j p2)) none p3) p4) scope (cloFrom X.env.cells scope.names []) pm cv ctv) ⟨[v], []⟩ = pure [(y, v)])
    (hn : x ≠ "__name__" := by decide) (hdb : (x == ("__debug__" : Str)) = false := by decide) (hdy : (y == ("__debug__" : Str)) = false := by decide)
    (h1 : backTo pos (starEach [e] X.env) = (false, eval e X.env) :: backTo pos (starEach [] X.env) := by rfl) (hpl : (backTo pos (starEach [e] X.env)).any (·.1) = false := by rfl) :
    PE X (.Call (.Name x p) [e] [⟨some (Str.ofString "key"), .Lambda params (.Subscript (.Name y p1) (.Slice none (some (.Constant (.int 2) j p2)) none p3) p4) scope lpos, kp⟩] pos) (tSortK X.K P te) := by
  refine ⟨fun pins s σ H Q I h => ?_⟩
  refine wpAny_Call_Name_kw (ld_blt I hg hm hv ?_ hn hdb)
  refine PyProof.Rows.callWith_kw (thn (he.run pos pins s σ H (rSortK X.K P Q) I h) fun us s1 ⟨vs, H1, I1, r1, q1⟩ => ?_) h1 hpl (by rfl) (by rfl)
  · obtain ⟨a, xs, l, rfl, hx, hp, hl, hT, q⟩ := q1
    obtain rfl := Vals.ref1 r1
    show wpAny _ _ (evalAll [do let v ← eval (.Lambda params (.Subscript (.Name y p1) (.Slice none (some (.Constant (.int 2) j p2)) none p3) p4) scope lpos) X.env; standAt pos; pure v]) _ _ s1
    refine wpAny_evalAll_cons (wpAny_bind (lam_new I1 TB hcode hq hT hdef (fun y hy z => absurd z (hfr y hy)) fun f c' pm ctv H2 s2 I2 eN hf hco' => wpAny_bind (wpAny_standAt (wpAny_pure (wpAny_evalAll_nil ?_)))))
    have hx2 : SqL X.K H2 a xs := eN.sql hx
    have hp2 : Paired (PcV H2) xs l := Paired.mapP hp fun _ _ ⟨b, e1, e2⟩ => ⟨b, e1, eN.tup e2⟩
    obtain ⟨its, rv, hls, hz⟩ := I2.list hx2
    have he2 := each_of I2 rv hp2
    obtain ⟨oc, vsc, tc, hoc, hdc, hvc⟩ : ∃ (oc : Obj) (vs : Array Value) (t : Tok), s2.heap.get? c' = some oc ∧ oc.data = .fields vs ∧ vs[1]? = some (.str (X.env.qual ++ "<lambda>") t) := by
      rw [hq]
      exact (I2.hok c' _ hco').1
    show wpAny _ _ (call (.builtin "sorted") [.ref a] [(Str.ofString "key", .ref f)]) _ _ s2
    refine PySem.W.sorted_key_data (b := false) pcK hls.isList he2 (PySem.W.AllAlike.of fun _ _ => by simp [PySem.W.alike, PySem.W.alikeAll, pcK]) (PySem.W.Sortable.tuples fun _ => ⟨_, _, rfl⟩) hl (fun p _ => ?_) (PyProof.Rows.ksk_s1 _ _) (fun _ => PyProof.Rows.ksk_l1 _ _) (fun _ => PyProof.Rows.ksk_t1 _ _)
      (fun v p hvp _ h tk kp => ?_) fun out co h' tk kp hD hD2 hlo eo => ?_
    · have hd : (pcK p).depth = 1 := by simp [pcK, PyData.depth, PyData.depthAll]
      omega
    · refine wpAny_call ?_
      have rc : codeAny (model X.prog X.w) X.A.in1.in1 (.call (.ref f) ⟨[v], []⟩) (fun r s' => match r with | .ok (.ret u) => PySem.W.KeyPure (pcK p) { s2 with heap := h, toks := tk } u s' | _ => False) { s2 with heap := h, toks := tk } := by
        refine PySem.W.kla_callFunE ?_ (kp _ _ hf) rfl hco hgen rfl ⟨c', oc, vsc, tc, rfl, kp _ _ hoc, hdc, hvc⟩ ?_
        · exact hr.in1.in1.depth
        rw [hbind]
        refine wpAny_pure (wpAny_newFunctionEnv hcell (fun z hz => by rw [List.mem_singleton.mp hz]; exact hloc) (fun h₁ hns hsb => ⟨(I2.nolimit.keeps kp).fresh _ hsb, ?_⟩) hk)
        refine PySem.W.kla_codeExpr ?_
        obtain ⟨t, z1, z2, r, rfl, hit, hrl⟩ := hvp
        have kk : ∀ b o, s2.heap.get? b = some o → h₁.get? b = some o := fun b o e => hsb.extBut b o (Nat.ne_of_lt (Heap.lt_size (kp b o e))) (Heap.get?_push_of_some _ (kp b o e))
        have kh : ∀ b o, h.get? b = some o → h₁.get? b = some o := fun b o e => hsb.extBut b o (Nat.ne_of_lt (Heap.lt_size e)) (Heap.get?_push_of_some _ e)
        refine Subscript_ (wpAny_Name (wpAny_loadName_local (v := .ref t) hk hloc hns ?_ ?_) hdy)
        · simp
        refine wpAny_Slice ?_
        rw [evalPart_none, evalPart_some]
        refine wpAny_pure (wpAny_Constant_int (wpAny_pure ?_))
        match r, hrl with
        | [q1, q2], _ =>
        have ht1 : IsTup h₁ t [Value.int p.t z1, Value.int (kI p.k) z2, q1, q2].toArray := IsTup.up hit kk
        have ht2 : IsTup (h₁.push { cls := .type "slice", data := .fields #[Value.none, Value.int 2 (tk + 1), Value.none] }) t [Value.int p.t z1, Value.int (kI p.k) z2, q1, q2].toArray := IsTup.up ht1 fun b o e => Heap.get?_push_of_some _ e
        refine tail_any (ops := [.ref h₁.objs.size, .ref t]) (T := "tuple") ht2.typeIs PyProof.Rows.slot_tuple_getitem.lookup (HT.getItem_tuple_cut (lo := none) (hi := some 2) ht2 (Heap.IsSliceOf.new ..) .none (.int 2 _) ?_ ?_ ?_) (by with_unfolding_all rfl)
        · show ¬ (HT.sIx 4 0 none = 0 ∧ HT.sIx 4 4 (some 2) = 4)
          decide
        · refine ⟨_, _, rfl, fun b o e => Heap.get?_push_of_some _ (Heap.get?_push_of_some _ (kh b o e)), ?_⟩
          exact .tuple (as := [] ++ ([] ++ [])) (Heap.get?_push_size _ rfl) rfl rfl (.cons (.int _ _) (.cons (.int _ _) .nil))
        · have := z6000
          show 4 ≤ sizeLine
          omega
      refine codeAny_mono rc fun r s' hq => ?_
      cases r with
      | error e => exact hq.elim
      | ok fl =>
        cases fl with
        | ret u => exact hq
        | next => exact hq.elim
        | brk => exact hq.elim
        | cont => exact hq.elim
    · obtain ⟨ys, hys⟩ := vals_of eo
      have hfree : H2 (s2.heap.objs.size + 1) = none := I2.hok.fresh (Nat.le_succ _)
      refine ⟨.ref _, upd H2 (s2.heap.objs.size + 1) (.lst ys), I2.laid (t' := tk) kp (Nat.le_succ _) ⟨?_, _, _, hys, hD2⟩, rfl, q _ _ _ eN hfree⟩
      rw [hys.length, hlo]
      exact hl
end
end Sm

/-! The program: flows and courses are made. -/
namespace Sm
open PySem PySem.Spec PyProof.Rows L2
/-- an object that is being made, and what has been made for it -/
structure Mka (Hb H : Hp) (p C dx : Addr) (fl : List (Str × V)) (fs : List (Addr × HO)) : Prop where
  base : Ke Hb H
  pb : Hb p = none
  ob : H p = some (.ins C dx fl)
  fa : ∀ q ∈ fs, H q.1 = some q.2 ∧ Hb q.1 = none
  nd : (p :: fs.map Prod.fst).Nodup
theorem Mka.new {Hb H : Hp} {p C dx x : Addr} {fl : List (Str × V)} {fs : List (Addr × HO)} {o : HO} (m : Mka Hb H p C dx fl fs) (hx : H x = none) : Mka Hb (upd H x o) p C dx fl ((x, o) :: fs) := by
  have k : Ke H (upd H x o) := .new hx
  refine ⟨m.base.trans k, m.pb, k.ins m.ob, fun q hq => ?_, ?_⟩
  · rcases List.mem_cons.mp hq with rfl | hq
    · exact ⟨upd_same, m.base.free hx⟩
    · obtain ⟨a, b⟩ := m.fa q hq
      exact ⟨by rw [upd_ne (ne_of_none a hx)]; exact a, b⟩
  · have nd := m.nd
    rw [List.nodup_cons] at nd
    obtain ⟨n1, n2⟩ := nd
    have hxm : x ∉ fs.map Prod.fst := fun z => by
      obtain ⟨q, hq, e⟩ := List.mem_map.mp z
      have := (m.fa q hq).1
      rw [e, hx] at this
      cases this
    rw [List.nodup_cons, List.map_cons, List.nodup_cons]
    refine ⟨fun z => ?_, hxm, n2⟩
    rcases List.mem_cons.mp z with e | z
    · have := m.ob
      rw [e, hx] at this
      cases this
    · exact n1 z
theorem Mka.fld {Hb H : Hp} {p C dx : Addr} {fl fl' : List (Str × V)} {fs : List (Addr × HO)} (m : Mka Hb H p C dx fl fs) : Mka Hb (upd H p (.ins C dx fl')) p C dx fl' fs := by
  refine ⟨m.base.mut m.pb (noCode_ins m.ob), m.pb, upd_same, fun q hq => ?_, m.nd⟩
  obtain ⟨a, b⟩ := m.fa q hq
  refine ⟨?_, b⟩
  rw [upd_ne fun z => ?_]
  · exact a
  · have nd := m.nd
    rw [List.nodup_cons] at nd
    exact nd.1 (by rw [← z]; exact List.mem_map_of_mem hq)
section
variable {P : Program} {w : World} {K : PySem.W.Frag} {mg : Str → Option Value} {base : Heap}
abbrev N_Course_init : List Str := ["self", "steps", "again"]
theorem sc_Course_init : FnScope N_Course_init ["self", "steps", "again"] (defScope s_Course_init) := ⟨rfl, rfl, rfl, by decide +kernel, rfl, by decide +kernel, by decide +kernel⟩
theorem ok_Course (T : Tx K mg w) : Okc P w K mg base "Course" ["self", "steps", "again"] 1 (sp3 fun s st ag H Q => ∃ Hb p dx q fv, s = .ref p ∧ st = .ref q ∧ ag = .bl false ∧ H q = some (.lst fv) ∧ q ≠ p ∧ Mka Hb H p (He.ga K "Course") dx [] [] ∧
    ∀ H' b, Mka Hb H' p (He.ga K "Course") dx [("steps", .ref q), ("again", .bl false), ("place", .int 0), ("until", .non), ("ended", if fv.length = 0 then .int 0 else .non), ("begun", .ref b)] [(b, .lst [.int 0])] → Q .non H') := by
  refine mkC T ix_Course_init rfl T.k_Course T.g_Course sc_Course_init (fun _ _ _ _ _ _ us hl => match us, hl with | [_, _, _], _ => rfl) len3 (fun cdv A outer s0 H0 E vs Q hr h => ?_)
  refine ⟨_, (pss_cons (ps_fld (pv 0) (pv 1) rfl)
    (pss_cons (ps_fld (pv 0) (pv 2) rfl)
    (pss_cons (ps_fld (pv 0) pe_int rfl)
    (pss_cons (ps_fld (pv 0) pe_non rfl)
    (pss_cons (ps_fld (pv 0) (pe_ifExp (pt_cmpR op_eq (pe_callB (lenK K) (by rfl) T.n_len (by decide +kernel) (pa_cons (pv 1) pa_nil)) pe_int (nomark _)) pe_int pe_non) rfl)
    (pss_one (ps_fld (pv 0) (pe_lst (pa_cons pe_int pa_nil)) rfl))))))), ?_⟩
  obtain ⟨_, _, _, rfl, Hb, p, dx, st, fv, rfl, rfl, rfl, hq, npq, m, q⟩ := h
  refine ⟨_, rfl, _, rfl, p, _, dx, _, rfl, m.ob, T.c_Course, T.a_Course_steps, by show 0 < 1000; decide, ?_⟩
  have m := m.fld (fl' := putF "steps" (.ref st) [])
  have hq1 : (upd H0 p (.ins (He.ga K "Course") dx (putF "steps" (.ref st) []))) st = some (.lst fv) := by rw [upd_ne npq]; exact hq
  generalize upd H0 p _ = H1 at m hq1 ⊢
  refine ⟨_, rfl, _, rfl, p, _, dx, _, rfl, m.ob, T.c_Course, T.a_Course_again, by show 1 < 1000; decide, ?_⟩
  have m := m.fld (fl' := putF "again" (.bl false) (putF "steps" (.ref st) []))
  have hq2 : (upd H1 p (.ins (He.ga K "Course") dx (putF "again" (.bl false) (putF "steps" (.ref st) [])))) st = some (.lst fv) := by rw [upd_ne npq]; exact hq1
  generalize upd H1 p _ = H2 at m hq2 ⊢
  refine ⟨_, rfl, p, _, dx, _, rfl, m.ob, T.c_Course, T.a_Course_place, by show 2 < 1000; decide, ?_⟩
  have m := m.fld (fl' := putF "place" (.int 0) (putF "again" (.bl false) (putF "steps" (.ref st) [])))
  have hq3 : (upd H2 p (.ins (He.ga K "Course") dx (putF "place" (.int 0) (putF "again" (.bl false) (putF "steps" (.ref st) []))))) st = some (.lst fv) := by rw [upd_ne npq]; exact hq2
  generalize upd H2 p _ = H3 at m hq3 ⊢
  refine ⟨_, rfl, p, _, dx, _, rfl, m.ob, T.c_Course, T.a_Course_until, by show 3 < 1000; decide, ?_⟩
  have m := m.fld (fl' := putF "until" .non (putF "place" (.int 0) (putF "again" (.bl false) (putF "steps" (.ref st) []))))
  have hq4 : (upd H3 p (.ins (He.ga K "Course") dx (putF "until" .non (putF "place" (.int 0) (putF "again" (.bl false) (putF "steps" (.ref st) [])))))) st = some (.lst fv) := by rw [upd_ne npq]; exact hq3
  generalize upd H3 p _ = H4 at m hq4 ⊢
  refine ⟨_, rfl, st, _, rfl, .inl (SqL.of hq4), rfl, _, rfl, ?_⟩
  have ed : decide (V.int (fv.length : Int) = V.int 0) = decide (fv.length = 0) := natI (m := 0)
  rw [ed]
  apply join fun H' => ∃ b, Mka Hb H' p (He.ga K "Course") dx [("steps", .ref st), ("again", .bl false), ("place", .int 0), ("until", .non), ("ended", if fv.length = 0 then .int 0 else .non), ("begun", .ref b)] [(b, .lst [.int 0])]
  · intro tail
    refine ite_dec (fun h1 => ?_) (fun h1 => ?_)
    · refine ⟨_, rfl, p, _, dx, _, rfl, m.ob, T.c_Course, T.a_Course_ended, by show 4 < 1000; decide, ?_⟩
      have m := m.fld (fl' := putF "ended" (.int 0) (putF "until" .non (putF "place" (.int 0) (putF "again" (.bl false) (putF "steps" (.ref st) [])))))
      generalize upd H4 p _ = H5 at m ⊢
      refine ⟨by show 1 ≤ sizeLine; decide, fun b nb => ?_⟩
      have m := m.new (o := .lst [.int 0]) nb
      generalize upd H5 b _ = H6 at m ⊢
      refine ⟨_, rfl, p, _, dx, _, rfl, m.ob, T.c_Course, T.a_Course_begun, by show 5 < 1000; decide, ?_⟩
      refine tail _ ⟨b, ?_⟩
      rw [if_pos h1]
      exact m.fld
    · refine ⟨_, rfl, p, _, dx, _, rfl, m.ob, T.c_Course, T.a_Course_ended, by show 4 < 1000; decide, ?_⟩
      have m := m.fld (fl' := putF "ended" .non (putF "until" .non (putF "place" (.int 0) (putF "again" (.bl false) (putF "steps" (.ref st) [])))))
      generalize upd H4 p _ = H5 at m ⊢
      refine ⟨by show 1 ≤ sizeLine; decide, fun b nb => ?_⟩
      have m := m.new (o := .lst [.int 0]) nb
      generalize upd H5 b _ = H6 at m ⊢
      refine ⟨_, rfl, p, _, dx, _, rfl, m.ob, T.c_Course, T.a_Course_begun, by show 5 < 1000; decide, ?_⟩
      refine tail _ ⟨b, ?_⟩
      rw [if_neg h1]
      exact m.fld
  · rintro H' ⟨b, m⟩
    exact q H' b m
abbrev N_Flow_init : List Str := ["self", "line"]
theorem sc_Flow_init : FnScope N_Flow_init ["self", "line"] (defScope s_Flow_init) := ⟨rfl, rfl, rfl, by decide +kernel, rfl, by decide +kernel, by decide +kernel⟩
theorem ok_Flow (T : Tx K mg w) : Okc P w K mg base "Flow" ["self", "line"] 1 (sp2 fun s ln H Q => ∃ Hb p dx l sz wy near far ldx lt, s = .ref p ∧ ln = .ref l ∧ Hb l = some (.ins (He.ga K "Line") ldx (lineF sz wy near far lt)) ∧ Mka Hb H p (He.ga K "Flow") dx [] [] ∧
    ∀ H' se s0 s1 st ou kn sm co ta fu fi lo fl lg, Mka Hb H' p (He.ga K "Flow") dx [("line", .ref l), ("settings", .ref se), ("tick", .int 0), ("stock", .ref st), ("out", .ref ou), ("known", .ref kn), ("small", .ref sm), ("come", .ref co), ("taken", .ref ta), ("full", .ref fu), ("first", .ref fi), ("long", .ref lo), ("flight", .ref fl), ("log", .ref lg)]
      [(lg, .lst []), (fl, .lst []), (lo, .lst [.int 0, .int 0]), (fi, .lst [.non, .non]), (fu, .lst [.int 0, .int 0]), (ta, .lst [.int 0, .int 0]), (co, .lst [.int 0, .int 0]), (sm, .lst [.int 0, .int 0]), (kn, .lst [.int 0, .int 0]), (ou, .lst [.int 0, .int 0]), (st, .lst [.ref s0, .ref s1]), (s1, .lst []), (s0, .lst []), (se, .tup [.ref near, .ref far])] → Q .non H') := by
  refine mkC T ix_Flow_init rfl T.k_Flow T.g_Flow sc_Flow_init (fun _ _ _ _ _ _ us hl => match us, hl with | [_, _], _ => rfl) len2 (fun cdv A outer s0 H0 E vs Q hr h => ?_)
  refine ⟨_, (pss_cons (ps_fld (pv 0) (pv 1) rfl)
    (pss_cons (ps_fld (pv 0) (pe_tup (pa_cons (fldK K (pv 1)) (pa_cons (fldK K (pv 1)) pa_nil))) rfl)
    (pss_cons (ps_fld (pv 0) pe_int rfl)
    (pss_cons (ps_fld (pv 0) (pe_lst (pa_cons (pe_lst pa_nil) (pa_cons (pe_lst pa_nil) pa_nil))) rfl)
    (pss_cons (ps_fld (pv 0) (pe_lst (pa_cons pe_int (pa_cons pe_int pa_nil))) rfl)
    (pss_cons (ps_fld (pv 0) (pe_lst (pa_cons pe_int (pa_cons pe_int pa_nil))) rfl)
    (pss_cons (ps_fld (pv 0) (pe_lst (pa_cons pe_int (pa_cons pe_int pa_nil))) rfl)
    (pss_cons (ps_fld (pv 0) (pe_lst (pa_cons pe_int (pa_cons pe_int pa_nil))) rfl)
    (pss_cons (ps_fld (pv 0) (pe_lst (pa_cons pe_int (pa_cons pe_int pa_nil))) rfl)
    (pss_cons (ps_fld (pv 0) (pe_lst (pa_cons pe_int (pa_cons pe_int pa_nil))) rfl)
    (pss_cons (ps_fld (pv 0) (pe_lst (pa_cons pe_non (pa_cons pe_non pa_nil))) rfl)
    (pss_cons (ps_fld (pv 0) (pe_lst (pa_cons pe_int (pa_cons pe_int pa_nil))) rfl)
    (pss_cons (ps_fld (pv 0) (pe_lst pa_nil) rfl)
    (pss_one (ps_fld (pv 0) (pe_lst pa_nil) rfl))))))))))))))), ?_⟩
  obtain ⟨_, _, rfl, Hb, p, dx, l, sz, wy, near, far, ldx, lt, rfl, rfl, hl, m, q⟩ := h
  refine ⟨_, rfl, _, rfl, p, _, dx, _, rfl, m.ob, T.c_Flow, T.a_Flow_line, by show 0 < 1000; decide, ?_⟩
  have m := m.fld (fl' := putF "line" (.ref l) ([]))
  generalize upd H0 p _ = H1 at m ⊢
  have hl1 := m.base.ins hl
  refine ⟨_, rfl, _, _, _, _, _, rfl, hl1, T.c_Line, T.a_Line_near, rfl, _, rfl, _, _, _, _, _, rfl, hl1, T.c_Line, T.a_Line_far, rfl, by show 2 ≤ sizeLine; decide, fun se nse => ?_⟩
  have m := m.new (o := .tup [.ref near, .ref far]) nse
  generalize upd H1 se _ = H2 at m ⊢
  refine ⟨_, rfl, p, _, dx, _, rfl, m.ob, T.c_Flow, T.a_Flow_settings, by show 1 < 1000; decide, ?_⟩
  have m := m.fld (fl' := putF "settings" (.ref se) (putF "line" (.ref l) ([])))
  generalize upd H2 p _ = H3 at m ⊢
  refine ⟨_, rfl, p, _, dx, _, rfl, m.ob, T.c_Flow, T.a_Flow_tick, by show 2 < 1000; decide, ?_⟩
  have m := m.fld (fl' := putF "tick" (.int 0) (putF "settings" (.ref se) (putF "line" (.ref l) ([]))))
  generalize upd H3 p _ = H4 at m ⊢
  refine ⟨by show 0 ≤ sizeLine; decide, fun s0 ns0 => ?_⟩
  have m := m.new (o := .lst []) ns0
  generalize upd H4 s0 _ = H5 at m ⊢
  refine ⟨by show 0 ≤ sizeLine; decide, fun s1 ns1 => ?_⟩
  have m := m.new (o := .lst []) ns1
  generalize upd H5 s1 _ = H6 at m ⊢
  refine ⟨by show 2 ≤ sizeLine; decide, fun st nst => ?_⟩
  have m := m.new (o := .lst [.ref s0, .ref s1]) nst
  generalize upd H6 st _ = H7 at m ⊢
  refine ⟨_, rfl, p, _, dx, _, rfl, m.ob, T.c_Flow, T.a_Flow_stock, by show 3 < 1000; decide, ?_⟩
  have m := m.fld (fl' := putF "stock" (.ref st) (putF "tick" (.int 0) (putF "settings" (.ref se) (putF "line" (.ref l) ([])))))
  generalize upd H7 p _ = H8 at m ⊢
  refine ⟨by show 2 ≤ sizeLine; decide, fun x_out nx_out => ?_⟩
  have m := m.new (o := .lst [.int 0, .int 0]) nx_out
  generalize upd H8 x_out _ = H9 at m ⊢
  refine ⟨_, rfl, p, _, dx, _, rfl, m.ob, T.c_Flow, T.a_Flow_out, by show 4 < 1000; decide, ?_⟩
  have m := m.fld (fl' := putF "out" (.ref x_out) (putF "stock" (.ref st) (putF "tick" (.int 0) (putF "settings" (.ref se) (putF "line" (.ref l) ([]))))))
  generalize upd H9 p _ = H10 at m ⊢
  refine ⟨by show 2 ≤ sizeLine; decide, fun x_known nx_known => ?_⟩
  have m := m.new (o := .lst [.int 0, .int 0]) nx_known
  generalize upd H10 x_known _ = H11 at m ⊢
  refine ⟨_, rfl, p, _, dx, _, rfl, m.ob, T.c_Flow, T.a_Flow_known, by show 5 < 1000; decide, ?_⟩
  have m := m.fld (fl' := putF "known" (.ref x_known) (putF "out" (.ref x_out) (putF "stock" (.ref st) (putF "tick" (.int 0) (putF "settings" (.ref se) (putF "line" (.ref l) ([])))))))
  generalize upd H11 p _ = H12 at m ⊢
  refine ⟨by show 2 ≤ sizeLine; decide, fun x_small nx_small => ?_⟩
  have m := m.new (o := .lst [.int 0, .int 0]) nx_small
  generalize upd H12 x_small _ = H13 at m ⊢
  refine ⟨_, rfl, p, _, dx, _, rfl, m.ob, T.c_Flow, T.a_Flow_small, by show 6 < 1000; decide, ?_⟩
  have m := m.fld (fl' := putF "small" (.ref x_small) (putF "known" (.ref x_known) (putF "out" (.ref x_out) (putF "stock" (.ref st) (putF "tick" (.int 0) (putF "settings" (.ref se) (putF "line" (.ref l) ([]))))))))
  generalize upd H13 p _ = H14 at m ⊢
  refine ⟨by show 2 ≤ sizeLine; decide, fun x_come nx_come => ?_⟩
  have m := m.new (o := .lst [.int 0, .int 0]) nx_come
  generalize upd H14 x_come _ = H15 at m ⊢
  refine ⟨_, rfl, p, _, dx, _, rfl, m.ob, T.c_Flow, T.a_Flow_come, by show 7 < 1000; decide, ?_⟩
  have m := m.fld (fl' := putF "come" (.ref x_come) (putF "small" (.ref x_small) (putF "known" (.ref x_known) (putF "out" (.ref x_out) (putF "stock" (.ref st) (putF "tick" (.int 0) (putF "settings" (.ref se) (putF "line" (.ref l) ([])))))))))
  generalize upd H15 p _ = H16 at m ⊢
  refine ⟨by show 2 ≤ sizeLine; decide, fun x_taken nx_taken => ?_⟩
  have m := m.new (o := .lst [.int 0, .int 0]) nx_taken
  generalize upd H16 x_taken _ = H17 at m ⊢
  refine ⟨_, rfl, p, _, dx, _, rfl, m.ob, T.c_Flow, T.a_Flow_taken, by show 8 < 1000; decide, ?_⟩
  have m := m.fld (fl' := putF "taken" (.ref x_taken) (putF "come" (.ref x_come) (putF "small" (.ref x_small) (putF "known" (.ref x_known) (putF "out" (.ref x_out) (putF "stock" (.ref st) (putF "tick" (.int 0) (putF "settings" (.ref se) (putF "line" (.ref l) ([]))))))))))
  generalize upd H17 p _ = H18 at m ⊢
  refine ⟨by show 2 ≤ sizeLine; decide, fun x_full nx_full => ?_⟩
  have m := m.new (o := .lst [.int 0, .int 0]) nx_full
  generalize upd H18 x_full _ = H19 at m ⊢
  refine ⟨_, rfl, p, _, dx, _, rfl, m.ob, T.c_Flow, T.a_Flow_full, by show 9 < 1000; decide, ?_⟩
  have m := m.fld (fl' := putF "full" (.ref x_full) (putF "taken" (.ref x_taken) (putF "come" (.ref x_come) (putF "small" (.ref x_small) (putF "known" (.ref x_known) (putF "out" (.ref x_out) (putF "stock" (.ref st) (putF "tick" (.int 0) (putF "settings" (.ref se) (putF "line" (.ref l) ([])))))))))))
  generalize upd H19 p _ = H20 at m ⊢
  refine ⟨by show 2 ≤ sizeLine; decide, fun x_first nx_first => ?_⟩
  have m := m.new (o := .lst [.non, .non]) nx_first
  generalize upd H20 x_first _ = H21 at m ⊢
  refine ⟨_, rfl, p, _, dx, _, rfl, m.ob, T.c_Flow, T.a_Flow_first, by show 10 < 1000; decide, ?_⟩
  have m := m.fld (fl' := putF "first" (.ref x_first) (putF "full" (.ref x_full) (putF "taken" (.ref x_taken) (putF "come" (.ref x_come) (putF "small" (.ref x_small) (putF "known" (.ref x_known) (putF "out" (.ref x_out) (putF "stock" (.ref st) (putF "tick" (.int 0) (putF "settings" (.ref se) (putF "line" (.ref l) ([]))))))))))))
  generalize upd H21 p _ = H22 at m ⊢
  refine ⟨by show 2 ≤ sizeLine; decide, fun x_long nx_long => ?_⟩
  have m := m.new (o := .lst [.int 0, .int 0]) nx_long
  generalize upd H22 x_long _ = H23 at m ⊢
  refine ⟨_, rfl, p, _, dx, _, rfl, m.ob, T.c_Flow, T.a_Flow_long, by show 11 < 1000; decide, ?_⟩
  have m := m.fld (fl' := putF "long" (.ref x_long) (putF "first" (.ref x_first) (putF "full" (.ref x_full) (putF "taken" (.ref x_taken) (putF "come" (.ref x_come) (putF "small" (.ref x_small) (putF "known" (.ref x_known) (putF "out" (.ref x_out) (putF "stock" (.ref st) (putF "tick" (.int 0) (putF "settings" (.ref se) (putF "line" (.ref l) ([])))))))))))))
  generalize upd H23 p _ = H24 at m ⊢
  refine ⟨by show 0 ≤ sizeLine; decide, fun x_flight nx_flight => ?_⟩
  have m := m.new (o := .lst []) nx_flight
  generalize upd H24 x_flight _ = H25 at m ⊢
  refine ⟨_, rfl, p, _, dx, _, rfl, m.ob, T.c_Flow, T.a_Flow_flight, by show 12 < 1000; decide, ?_⟩
  have m := m.fld (fl' := putF "flight" (.ref x_flight) (putF "long" (.ref x_long) (putF "first" (.ref x_first) (putF "full" (.ref x_full) (putF "taken" (.ref x_taken) (putF "come" (.ref x_come) (putF "small" (.ref x_small) (putF "known" (.ref x_known) (putF "out" (.ref x_out) (putF "stock" (.ref st) (putF "tick" (.int 0) (putF "settings" (.ref se) (putF "line" (.ref l) ([]))))))))))))))
  generalize upd H25 p _ = H26 at m ⊢
  refine ⟨by show 0 ≤ sizeLine; decide, fun x_log nx_log => ?_⟩
  have m := m.new (o := .lst []) nx_log
  generalize upd H26 x_log _ = H27 at m ⊢
  refine ⟨_, rfl, p, _, dx, _, rfl, m.ob, T.c_Flow, T.a_Flow_log, by show 13 < 1000; decide, ?_⟩
  have m := m.fld (fl' := putF "log" (.ref x_log) (putF "flight" (.ref x_flight) (putF "long" (.ref x_long) (putF "first" (.ref x_first) (putF "full" (.ref x_full) (putF "taken" (.ref x_taken) (putF "come" (.ref x_come) (putF "small" (.ref x_small) (putF "known" (.ref x_known) (putF "out" (.ref x_out) (putF "stock" (.ref st) (putF "tick" (.int 0) (putF "settings" (.ref se) (putF "line" (.ref l) ([])))))))))))))))
  generalize upd H27 p _ = H28 at m ⊢
  exact q _ _ _ _ _ _ _ _ _ _ _ _ _ _ _ m
end
end Sm

/-! The program: what has happened in a run. -/
namespace Sm
open PySem PySem.Spec PyProof.Rows L2
/-- the table of the lambda in Run.__init__ -/
def ruP (K : PySem.W.Frag) : Addr := (He.cT K ("Run", some "__init__")).2
def ruC (K : PySem.W.Frag) : Addr := (He.cT K ("Run", some "__init__")).1
section
variable {P : Program} {w : World} {K : PySem.W.Frag} {mg : Str → Option Value} {base : Heap} {C : Str} {q : Str} {st : Stmt} {N ps : List Str} {k : Nat} {sp : Sp}
theorem mkCL (T : Tx K mg w) (i : Nat) (hd : fn[i]? = some ⟨(C, some "__init__"), "__init__", q, defArgs st, defBody st, defScope st, [], []⟩) (hk : Mk K (He.ga K C) (He.ma K (He.ga K C) "__init__")) (hg : mg C = some (.ref (He.ga K C))) (S : FnScope N ps (defScope st)) (hb : BindOf "__init__" q st ps) (len : ∀ vs H Q E, sp vs H Q E → vs.length = ps.length)
    (body : ∀ (cdv : Value) (A : Around) (outer : List Env) (s : Shared) (H : Hp) (E : XK) (vs : List V) (Q : VK), cdv = .ref (He.codeOf K (C, some "__init__")) → Room k (A.deeper (envOfC q (defScope st) s.heap.objs.size (He.ma K (He.ga K C) "__init__") cdv)) → sp vs H Q E →
      ∃ t, PSs (cxF P w K mg base N q st (He.ma K (He.ga K C) "__init__") cdv A outer s H E) (defBody st) t ∧ t (fin Q) (start N vs) H) : Okc P w K mg base C ps (k + 1) sp := by
  obtain ⟨fd, F⟩ := T.def_ i hd
  have F : FunD K "__init__" q (defArgs st) (defBody st) (defScope st) [] [] (He.ma K (He.ga K C) "__init__") fd := F
  refine ⟨⟨fd, ?_, F.bindsN hb⟩, hk, hg⟩
  obtain ⟨oc, od, dV, kV, doc, pm, an, cdv, ct, osl, rfl, lk, hcd, _, _⟩ := F.ex
  obtain ⟨c, rfl⟩ := He.codeIn_ref hcd
  have ec : He.codeOf K (C, some "__init__") = c := He.codeOf_eq (p := (C, some "__init__")) lk rfl
  refine fn_of lk hcd S len fun A outer s H vs Q E hr h => ?_
  obtain ⟨t, h1, h2⟩ := body (.ref c) A outer s H E vs Q (by rw [ec]) hr h
  exact ⟨t, h1.nox, h2⟩
end
def scRunC : Scope := { kind := ScopeKind.function, names := [((".0" : Str), NameKind.local), (("side" : Str), NameKind.cell), (("sum" : Str), NameKind.globalImplicit), (("flow" : Str), NameKind.cell)], isGenerator := false, isCoroutine := false }
theorem Mka.ke {Hb H H' : Hp} {p C dx : Addr} {fl : List (Str × V)} (m : Mka Hb H p C dx fl []) (k : Ke H H') : Mka Hb H' p C dx fl [] := ⟨m.base.trans k, m.pb, k.ins m.ob, (fun _ h => by cases h), m.nd⟩
theorem Mka.two {Hb H : Hp} {p C dx e : Addr} {fl fl' : List (Str × V)} {xs : List V} (m : Mka Hb H p C dx fl [] ∧ H e = some (.tup xs)) : Mka Hb (upd H p (.ins C dx fl')) p C dx fl' [] ∧ (upd H p (.ins C dx fl')) e = some (.tup xs) :=
  ⟨m.1.fld, by rw [upd_ne (fun z => by have := m.1.ob; rw [← z, m.2] at this; cases this)]; exact m.2⟩
theorem Mka.twoK {Hb H H' : Hp} {p C dx e : Addr} {fl : List (Str × V)} {xs : List V} (m : Mka Hb H p C dx fl [] ∧ H e = some (.tup xs)) (k : Ke H H') : Mka Hb H' p C dx fl [] ∧ H' e = some (.tup xs) := ⟨m.1.ke k, k.tup m.2⟩
/-- how many answers -/
def cntL (l : List Pc) (k : Bool) : List Pc := l.filter fun p => decide (kI p.k = kI k) && decide (p.m = 0)
theorem cntL_snoc {l : List Pc} {i : Nat} {p : Pc} {k : Bool} (h : l[i]? = some p) : cntL (l.take (i + 1)) k = cntL (l.take i) k ++ (if (decide (kI p.k = kI k) && decide (p.m = 0)) = true then [p] else []) := by
  unfold cntL
  rw [take_snoc h, List.filter_append]
  congr 1
  rw [List.filter_cons]
  rfl
theorem cntL_len (l : List Pc) (k : Bool) : (cntL l k).length ≤ l.length := List.length_filter_le _ _
theorem flat_oV (o : Option Int) : flatV (oV o) = true := by cases o <;> rfl
section
variable {P : Program} {w : World} {K : PySem.W.Frag} {mg : Str → Option Value} {base : Heap}
abbrev N_Run_init : List Str := ["self", "flow", "courses", "course", "side", "piece"]
theorem sc_Run_init : FnScope N_Run_init ["self", "flow", "courses"] (defScope s_Run_init) := ⟨rfl, rfl, rfl, by decide +kernel, rfl, by decide +kernel, by decide +kernel⟩
theorem ok_Run (T : Tx K mg w) (TB : LamX.TabB base mg (ruC K) (ruP K)) : Okc P w K mg base "Run" ["self", "flow", "courses"] 8 (sp3 fun s fl cs H Q => ∃ Hb0 Hb p dx S L C D W Pl u, s = .ref p ∧ fl = .ref (L 0) ∧ cs = .ref u ∧ Hb u = some (.tup [.ref (L 13), .ref (L 14)]) ∧ At K Hb0 Hb S L C D ∧ FM S Hb C D W ∧ Bnd S W Pl ∧ LamX.TabS Hb (ruP K) lamQ ∧
    Mka Hb H p (He.ga K "Run") dx [] [] ∧ ∀ H' dx' fl' e, Ke Hb H' → H' p = some (.ins (He.ga K "Run") dx' fl') → fl'.lookup ("ends" : Str) = some (V.ref e) → H' e = some (.tup [oV (D.fin false), oV (D.fin true)]) → Q .non H') := by
  have O_Flow_fresh := ok_fresh (P := P) (w := w) (base := base) T
  refine mkCL T ix_Run_init rfl T.k_Run T.g_Run sc_Run_init (fun _ _ _ _ _ _ us hl => match us, hl with | [_, _, _], _ => rfl) len3 (fun cdv A outer s0 H0 E vs Q hcv hr h => ?_)
  have hcd : (cxF P w K mg base N_Run_init "Run.__init__" s_Run_init (He.ma K (He.ga K "Run") "__init__") cdv A outer s0 H0 E).env.code = .ref (ruC K) := hcv
  refine ⟨_, (pss_cons (ps_fld (pv 0) (pe_callTy call_tuple_of (by rfl) T.n_tuple (by decide +kernel) (pa_cons (pe_lc (own := [(("course" : Str), 3)]) (by rfl) sc_Run_init.nd (piT K (pv 2)) (blkOk_by (own := [(("course" : Str), 3)]) (N := N_Run_init) (sc := defScope s_Run_init) (by decide +kernel)) (fun _ _ _ _ _ => pg_name (i := 3) sc_Run_init.nd rfl (Or.inl rfl)) (fun _ _ _ _ _ => pts_nil) (fun _ _ _ _ _ => (fldK K (pv 3)))) pa_nil)) rfl)
    (pss_cons (ps_fld (pv 0) (pe_cmpR (inK K) pe_non (fldK K (pv 0)) (by rfl)) rfl)
    (pss_cons (ps_fld (pv 0) (pe_callTy call_tuple_of (by rfl) T.n_tuple (by decide +kernel) (pa_cons (pe_sortK (by rfl) T.n_sorted (by decide +kernel) (pa_cons (fldK K (pv 1)) pa_nil) TB hcd (by rfl) (hr.mono (by decide)) hr.units (by rfl) (by rfl) (by rfl) (by rfl) (by decide +kernel) (by decide +kernel) (by decide +kernel) (fun _ _ _ _ => by rfl)) pa_nil)) rfl)
    (pss_cons (ps_fld (pv 0) (pe_callTy call_tuple_of (by rfl) T.n_tuple (by decide +kernel) (pa_cons (pe_lc (own := [(("side" : Str), 4)]) (by rfl) sc_Run_init.nd (piT K (pe_tup (pa_cons pe_int (pa_cons pe_int pa_nil)))) (blkOk_by (own := [(("side" : Str), 4)]) (N := N_Run_init) (sc := defScope s_Run_init) (by decide +kernel)) (fun _ _ _ _ _ => pg_name (i := 4) sc_Run_init.nd rfl (Or.inr rfl)) (fun _ _ _ _ _ => pts_nil) (fun _ _ _ _ _ => (pe_callB (sumK K rfl) (by rfl) T.n_sum (by decide +kernel) (pa_cons (pe_lc (own := [(("piece" : Str), 5)]) (by rfl) sc_Run_init.nd (piL K (fldK K (pv 1))) (blkOk_by (own := [(("piece" : Str), 5)]) (N := N_Run_init) (sc := scRunC) (by decide +kernel)) (fun _ _ _ _ _ => pg_name (i := 5) sc_Run_init.nd rfl (Or.inl rfl)) (fun _ _ _ _ _ => pts_one (PW.pt (pw_and (pt_cmpR op_eq (pe_ix (ixT K) (pv 5) pe_int (fun _ _ => rfl)) (pv 4) (nomark _)) (pw_and1 (pt_cmpR op_eq (pe_ix (ixT K) (pv 5) pe_int (fun _ _ => rfl)) pe_int (nomark _)))))) (fun _ _ _ _ _ => pe_int)) pa_nil)))) pa_nil)) rfl)
    (pss_cons (ps_fld (pv 0) (pe_callTy call_tuple_of (by rfl) T.n_tuple (by decide +kernel) (pa_cons (fldK K (pv 1)) pa_nil)) rfl)
    (pss_cons (ps_fld (pv 0) (pe_tup (pa_cons (pe_m K O_Flow_fresh (hr.mono (by decide)) (pv 1) (pa_cons pe_int pa_nil)) (pa_cons (pe_m K O_Flow_fresh (hr.mono (by decide)) (pv 1) (pa_cons pe_int pa_nil)) pa_nil))) rfl)
    (pss_cons (ps_fld (pv 0) (pe_callB (maxK K rfl) (by rfl) T.n_max (by decide +kernel) (pa_cons (pe_lst (pa_cons pe_int (StX.pa_star (pe_lc (own := [(("piece" : Str), 5)]) (by rfl) sc_Run_init.nd (piL K (fldK K (pv 1))) (blkOk_by (own := [(("piece" : Str), 5)]) (N := N_Run_init) (sc := defScope s_Run_init) (by decide +kernel)) (fun _ _ _ _ _ => pg_name (i := 5) sc_Run_init.nd rfl (Or.inl rfl)) (fun _ _ _ _ _ => pts_nil) (fun _ _ _ _ _ => (pe_op op_add (pe_ix (ixT K) (pv 5) pe_int (fun _ _ => rfl)) (fldK K (fldK K (pv 1)))))) pa_nil))) pa_nil)) rfl)
    (pss_one (ps_fld (pv 0) (pe_tup (pa_cons (fldK K (pv 0)) (pa_cons (fldK K (pv 0)) (pa_cons (fldK K (pv 0)) (pa_cons (fldK K (pv 0)) (pa_cons (fldK K (pv 0)) pa_nil)))))) rfl))))))))), ?_⟩
  obtain ⟨_, _, _, rfl, Hb0, Hb, p, dx, S, L, C, D, W, Pl, u, rfl, rfl, rfl, hu, at0, fm, bd, tb, m, q⟩ := h
  have hkc : ∀ (k : Bool) (H' : Hp), Ke Hb H' → H' (L (13 + kN k)) = some (.ins (He.ga K "Course") (C.cdx k) (crsF C D k)) := fun k H' e => e.ins (at0.oC k)
  have hlg : W.log.length ≤ 6000 := bd.log
  have hlgv : D.lgv.length = W.log.length := Paired.length fm.lg
  have z6 := z6000
  -- ends
  refine ⟨_, rfl, u, rfl, ⟨_, SqT.of (m.base.tup hu)⟩, lc_t (fun i => (two2 fun k => oV (D.fin k)).take i) (SqT.of (m.base.tup hu)) rfl (fun i hi => ?_) (fun i x H' hx kH Yes No yes no => ?_) (fun E H1 hE k1 hE1 => ?_)⟩
  · rw [List.length_take]
    have : (two2 fun k => oV (D.fin k)).length = 2 := rfl
    omega
  · have kk := m.base.trans kH
    match i, hx with
    | 0, hx => cases hx; exact ⟨rfl, _, rfl, _, _, _, _, _, rfl, hkc false H' kk, T.c_Course, T.a_Course_ended, rfl, yes _ _ (.refl _) rfl⟩
    | 1, hx => cases hx; exact ⟨rfl, _, rfl, _, _, _, _, _, rfl, hkc true H' kk, T.c_Course, T.a_Course_ended, rfl, yes _ _ (.refl _) rfl⟩
    | i + 2, hx => simp at hx
  have hE1 : H1 E = some (.lst [oV (D.fin false), oV (D.fin true)]) := hE1
  refine ⟨E, _, rfl, .inl ⟨SqL.of hE1, fun e ne => ?_⟩⟩
  have m1 := (m.ke k1).ke (.new (o := .tup [oV (D.fin false), oV (D.fin true)]) ne)
  have he1 : (upd H1 e (.tup [oV (D.fin false), oV (D.fin true)])) e = some (.tup [oV (D.fin false), oV (D.fin true)]) := upd_same
  generalize upd H1 e _ = H2 at m1 he1 ⊢
  have m := Mka.twoK (e := e) (xs := [oV (D.fin false), oV (D.fin true)]) ⟨m1, he1⟩ (.refl _)
  refine ⟨_, rfl, p, _, dx, _, rfl, m1.ob, T.c_Run, T.a_Run_ends, by show 0 < 1000; decide, ?_⟩
  have m := Mka.two (fl' := putF "ends" (.ref e) []) m
  generalize upd H2 p _ = H3 at m ⊢
  -- stuck
  refine ⟨_, rfl, p, _, _, _, _, rfl, m.1.ob, T.c_Run, T.a_Run_ends, rfl, e, _, rfl, .inr (SqT.of m.2), rfl, by simp [flat_oV], ?_⟩
  generalize (if false = true then !inV V.non [oV (D.fin false), oV (D.fin true)] else inV V.non [oV (D.fin false), oV (D.fin true)]) = bb
  refine ⟨_, rfl, p, _, dx, _, rfl, m.1.ob, T.c_Run, T.a_Run_stuck, by show 1 < 1000; decide, ?_⟩
  have m := Mka.two (fl' := putF "stuck" (.bl bb) (putF "ends" (.ref e) [])) m
  generalize upd H3 p _ = H4 at m ⊢
  have a4 := at0.ke m.1.base
  -- pieces
  refine ⟨_, rfl, _, _, _, _, _, rfl, a4.o0, T.c_Flow, T.a_Flow_log, rfl, L 12, D.lgv, W.log, rfl, SqL.of a4.o12, fm.lg.tk m.1.base.tk, by omega, m.1.base.tab _ _ rfl tb, fun Dd H5 ys k5 nD => ⟨Dd, ys, rfl, .inl ⟨SqL.of upd_same, fun l nl => ?_⟩⟩⟩
  have m := (Mka.twoK m (k5.trans (.new (o := .lst ys) nD)))
  generalize upd H5 Dd _ = H6 at m nl ⊢
  have m := Mka.twoK m (.new (o := .tup ys) nl)
  generalize upd H6 l _ = H7 at m ⊢
  refine ⟨_, rfl, p, _, dx, _, rfl, m.1.ob, T.c_Run, T.a_Run_pieces, by show 2 < 1000; decide, ?_⟩
  have m := Mka.two (fl' := putF "pieces" (.ref l) (putF "stuck" (.bl bb) (putF "ends" (.ref e) []))) m
  generalize upd H7 p _ = H8 at m ⊢
  -- answers
  refine ⟨by show 2 ≤ sizeLine; decide, fun t nt => ?_⟩
  have m := Mka.twoK m (.new (o := .tup [.int 0, .int 1]) nt)
  have ht : (upd H8 t (.tup [.int 0, .int 1])) t = some (.tup [.int 0, .int 1]) := upd_same
  generalize upd H8 t _ = H9 at m ht ⊢
  refine ⟨t, rfl, ⟨_, SqT.of ht⟩, lc_t (fun i => ((two2 fun k => ((cntL W.log k).map fun _ => (1 : Int)).sum).map V.int).take i) (SqT.of ht) rfl (fun i hi => ?_) (fun i x H' hx kH Yes No yes no => ?_) (fun E2 H10 hE2 k10 hE3 => ?_)⟩
  · rw [List.length_take, List.length_map]
    have : (two2 fun k => ((cntL W.log k).map fun _ => (1 : Int)).sum).length = 2 := rfl
    omega
  · have kk := m.1.base.trans kH
    have a9 := at0.ke kk
    have inner : ∀ (k : Bool) (H1 : Hp), Ke H' H1 → ∀ E, H1 E = some (.lst ((cntL W.log k).map fun _ => V.int 1)) → SqL K H1 E (((cntL W.log k).map fun _ => (1 : Int)).map V.int) := fun k H1 _ E h => SqL.of (by rw [h, List.map_map]; rfl)
    match i, hx with
    | 0, hx =>
      cases hx
      refine ⟨rfl, _, rfl, _, _, _, _, _, rfl, a9.o0, T.c_Flow, T.a_Flow_log, rfl, L 12, rfl, ⟨_, SqL.of a9.o12⟩, lc_l (fun i => (cntL (W.log.take i) false).map fun _ => V.int 1) (SqL.of a9.o12) rfl (fun i hi => ?_) (fun i x H'' hx kH2 Yes2 No2 yes2 no2 => ?_) (fun E3 H11 hE3 k11 hE4 => ?_)⟩
      · rw [List.length_map]
        have := cntL_len (W.log.take i) false
        rw [List.length_take] at this
        omega
      · obtain ⟨pc, hpc, b, rfl, hb⟩ := pgetV fm.lg hx
        have hb := (kk.trans kH2).tup hb
        have es := cntL_snoc (k := false) hpc
        refine ⟨rfl, _, rfl, b, _, 1, _, rfl, rfl, SqT.of hb, atI1, _, rfl, rfl, _, rfl, ?_⟩
        rw [dec_int']
        refine ite_dec (fun h1 => ?_) (fun h1 => ?_)
        · have h1' : decide (kI pc.k = kI false) = true := decide_eq_true h1
          refine ⟨_, rfl, b, _, 2, _, rfl, rfl, SqT.of hb, atI2, rfl, _, rfl, ?_⟩
          rw [dec_int']
          refine ite_dec (fun h2 => yes2 _ _ (.refl _) ?_) (fun h2 => no2 _ (.refl _) ?_)
          · rw [es, h1', decide_eq_true h2, List.map_append]
            rfl
          · rw [es, h1', decide_eq_false h2]
            exact congrArg _ (List.append_nil _)
        · have h1' : decide (kI pc.k = kI false) = false := decide_eq_false h1
          refine iteF (no2 _ (.refl _) ?_)
          rw [es, h1']
          exact congrArg _ (List.append_nil _)
      · rw [hlgv, List.take_length] at hE4
        exact ⟨E3, _, rfl, inner false _ k11 _ hE4, yes _ _ k11 rfl⟩
    | 1, hx =>
      cases hx
      refine ⟨rfl, _, rfl, _, _, _, _, _, rfl, a9.o0, T.c_Flow, T.a_Flow_log, rfl, L 12, rfl, ⟨_, SqL.of a9.o12⟩, lc_l (fun i => (cntL (W.log.take i) true).map fun _ => V.int 1) (SqL.of a9.o12) rfl (fun i hi => ?_) (fun i x H'' hx kH2 Yes2 No2 yes2 no2 => ?_) (fun E3 H11 hE3 k11 hE4 => ?_)⟩
      · rw [List.length_map]
        have := cntL_len (W.log.take i) true
        rw [List.length_take] at this
        omega
      · obtain ⟨pc, hpc, b, rfl, hb⟩ := pgetV fm.lg hx
        have hb := (kk.trans kH2).tup hb
        have es := cntL_snoc (k := true) hpc
        refine ⟨rfl, _, rfl, b, _, 1, _, rfl, rfl, SqT.of hb, atI1, _, rfl, rfl, _, rfl, ?_⟩
        rw [dec_int']
        refine ite_dec (fun h1 => ?_) (fun h1 => ?_)
        · have h1' : decide (kI pc.k = kI true) = true := decide_eq_true h1
          refine ⟨_, rfl, b, _, 2, _, rfl, rfl, SqT.of hb, atI2, rfl, _, rfl, ?_⟩
          rw [dec_int']
          refine ite_dec (fun h2 => yes2 _ _ (.refl _) ?_) (fun h2 => no2 _ (.refl _) ?_)
          · rw [es, h1', decide_eq_true h2, List.map_append]
            rfl
          · rw [es, h1', decide_eq_false h2]
            exact congrArg _ (List.append_nil _)
        · have h1' : decide (kI pc.k = kI true) = false := decide_eq_false h1
          refine iteF (no2 _ (.refl _) ?_)
          rw [es, h1']
          exact congrArg _ (List.append_nil _)
      · rw [hlgv, List.take_length] at hE4
        exact ⟨E3, _, rfl, inner true _ k11 _ hE4, yes _ _ k11 rfl⟩
    | i + 2, hx => simp at hx
  refine ⟨E2, _, rfl, .inl ⟨SqL.of hE3, fun l2 nl2 => ?_⟩⟩
  have m := Mka.twoK m k10
  have m := Mka.twoK m (.new (o := .tup (((two2 fun k => ((cntL W.log k).map fun _ => (1 : Int)).sum).map V.int).take 2)) nl2)
  generalize upd H10 l2 _ = H12 at m ⊢
  refine ⟨_, rfl, p, _, dx, _, rfl, m.1.ob, T.c_Run, T.a_Run_answers, by show 3 < 1000; decide, ?_⟩
  have m := Mka.two (fl' := putF "answers" (.ref l2) (putF "pieces" (.ref l) (putF "stuck" (.bl bb) (putF "ends" (.ref e) [])))) m
  generalize upd H12 p _ = H13 at m ⊢
  have a13 := at0.ke m.1.base
  -- held
  refine ⟨_, rfl, _, _, _, _, _, rfl, a13.o0, T.c_Flow, T.a_Flow_long, rfl, L 11, _, rfl, .inl ⟨SqL.of a13.o11, fun l3 nl3 => ?_⟩⟩
  have m := Mka.twoK m (.new (o := .tup (two2 fun j => .int (D.long j))) nl3)
  generalize upd H13 l3 _ = H14 at m ⊢
  refine ⟨_, rfl, p, _, dx, _, rfl, m.1.ob, T.c_Run, T.a_Run_held, by show 4 < 1000; decide, ?_⟩
  have m := Mka.two (fl' := putF "held" (.ref l3) (putF "answers" (.ref l2) (putF "pieces" (.ref l) (putF "stuck" (.bl bb) (putF "ends" (.ref e) []))))) m
  generalize upd H14 p _ = H15 at m ⊢
  have a15 := at0.ke m.1.base
  -- unread
  refine ⟨_, rfl, _, _, _, rfl, a15.o0, rfl, _, _, rfl, Hb0, S, L, C, D, false, rfl, rfl, a15, ?_⟩
  refine ⟨_, rfl, _, _, _, rfl, a15.o0, rfl, _, _, rfl, Hb0, S, L, C, D, true, rfl, rfl, a15, ?_⟩
  refine ⟨by show 2 ≤ sizeLine; decide, fun l4 nl4 => ?_⟩
  have m := Mka.twoK m (.new (o := .tup [.int (D.come false - D.taken false), .int (D.come true - D.taken true)]) nl4)
  generalize upd H15 l4 _ = H16 at m ⊢
  refine ⟨_, rfl, p, _, dx, _, rfl, m.1.ob, T.c_Run, T.a_Run_unread, by show 5 < 1000; decide, ?_⟩
  have m := Mka.two (fl' := putF "unread" (.ref l4) (putF "held" (.ref l3) (putF "answers" (.ref l2) (putF "pieces" (.ref l) (putF "stuck" (.bl bb) (putF "ends" (.ref e) [])))))) m
  generalize upd H16 p _ = H17 at m ⊢
  have a17 := at0.ke m.1.base
  have fm17 := fm.tk m.1.base.tk
  -- quiet
  refine ⟨_, rfl, _, _, _, _, _, rfl, a17.o0, T.c_Flow, T.a_Flow_log, rfl, L 12, rfl, ⟨_, SqL.of a17.o12⟩, lc_l (fun i => ((W.log.take i).map fun p => p.t + S.way).map V.int) (SqL.of a17.o12) rfl (fun i hi => ?_) (fun i x H'' hx kH2 Yes2 No2 yes2 no2 => ?_) (fun E3 H18 hE3 k18 hE4 => ?_)⟩
  · rw [List.length_map, List.length_map, List.length_take]
    omega
  · obtain ⟨pc, hpc, b, rfl, hb⟩ := pgetV fm17.lg hx
    have a18 := a17.ke kH2
    obtain ⟨ldx, lt, hline⟩ := a18.line
    refine ⟨rfl, _, rfl, b, _, 0, _, rfl, rfl, SqT.of (kH2.tup hb), atI0, _, rfl, _, _, _, _, _, rfl, a18.o0, T.c_Flow, T.a_Flow_line, rfl, _, _, _, _, _, rfl, hline, T.c_Line, T.a_Line_way, rfl, _, _, rfl, rfl, yes2 _ _ (.refl _) ?_⟩
    rw [take_snoc hpc, List.map_append, List.map_append]
    rfl
  rw [hlgv, List.take_length] at hE4
  refine ⟨E3, _, rfl, .inr (SqL.of hE4), ?_, fun l5 nl5 => ?_⟩
  · show ([V.int 0] ++ (_ ++ [])).length ≤ _
    rw [List.append_nil, List.length_append, List.length_map, List.length_map]
    show 1 + _ ≤ _
    omega
  have m := Mka.twoK m k18
  have m := Mka.twoK m (.new (o := .lst (.int 0 :: (((W.log.map fun p => p.t + S.way).map V.int) ++ []))) nl5)
  have h5 : SqL K (upd H18 l5 (.lst (.int 0 :: (((W.log.map fun p => p.t + S.way).map V.int) ++ [])))) l5 ((0 :: W.log.map fun p => p.t + S.way).map V.int) := SqL.of (by rw [upd_same, List.append_nil]; rfl)
  generalize upd H18 l5 _ = H19 at m h5 ⊢
  refine ⟨l5, 0 :: W.log.map (fun p => p.t + S.way), rfl, h5, by simp, fun mx hm hall => ?_⟩
  refine ⟨_, rfl, p, _, dx, _, rfl, m.1.ob, T.c_Run, T.a_Run_quiet, by show 6 < 1000; decide, ?_⟩
  have m := Mka.two (fl' := putF "quiet" (.int mx) (putF "unread" (.ref l4) (putF "held" (.ref l3) (putF "answers" (.ref l2) (putF "pieces" (.ref l) (putF "stuck" (.bl bb) (putF "ends" (.ref e) []))))))) m
  generalize upd H19 p _ = H20 at m ⊢
  -- all
  refine ⟨_, rfl, p, _, _, _, _, rfl, m.1.ob, T.c_Run, T.a_Run_ends, rfl, _, rfl, p, _, _, _, _, rfl, m.1.ob, T.c_Run, T.a_Run_pieces, rfl, _, rfl, p, _, _, _, _, rfl, m.1.ob, T.c_Run, T.a_Run_held, rfl,
    _, rfl, p, _, _, _, _, rfl, m.1.ob, T.c_Run, T.a_Run_unread, rfl, _, rfl, p, _, _, _, _, rfl, m.1.ob, T.c_Run, T.a_Run_quiet, rfl, by show 5 ≤ sizeLine; decide, fun l6 nl6 => ?_⟩
  have m := Mka.twoK m (.new (o := .tup [.ref e, .ref l, .ref l3, .ref l4, .int mx]) nl6)
  generalize upd H20 l6 _ = H21 at m ⊢
  refine ⟨_, rfl, p, _, dx, _, rfl, m.1.ob, T.c_Run, T.a_Run_all, by show 7 < 1000; decide, ?_⟩
  have m := Mka.two (fl' := putF "all" (.ref l6) (putF "quiet" (.int mx) (putF "unread" (.ref l4) (putF "held" (.ref l3) (putF "answers" (.ref l2) (putF "pieces" (.ref l) (putF "stuck" (.bl bb) (putF "ends" (.ref e) [])))))))) m
  exact q _ dx _ e m.1.base m.1.ob rfl m.2
end
end Sm

/-! The program: a run. -/
namespace Sm
open PySem PySem.Spec PyProof.Rows L2
/-- a heap without the parts that change -/
theorem without {H0 H : Hp} (M : Addr → Prop) (k : Ke H0 H) (out : ∀ a, M a → H0 a = none) (nc : ∀ a, M a → ∀ c q, H a ≠ some (LamX.CodeO c q)) :
    ∃ Hb : Hp, Ke H0 Hb ∧ Ke Hb H ∧ (∀ a, M a → Hb a = none) ∧ ∀ a, ¬ M a → Hb a = H a := by
  classical
  let Hb : Hp := fun a => if M a then none else H a
  have e1 : ∀ a, M a → Hb a = none := fun a h => if_pos h
  have e2 : ∀ a, ¬ M a → Hb a = H a := fun a h => if_neg h
  have som : ∀ a o, H0 a = some o → Hb a = H a := fun a o e => e2 a fun z => by rw [out a z] at e; cases e
  refine ⟨Hb, ⟨fun b o hb n => ?_, fun b ps hb => ?_, fun b q eq hb => ?_⟩, .of fun b o hb => ?_, e1, e2⟩
  · rw [som b o hb]; exact k.keep b o hb n
  · rw [som b _ hb]; exact k.tbl b ps hb
  · obtain ⟨ps0, h0, _⟩ := id hb
    obtain ⟨ps, h1, h2, h3⟩ := k.tab b q eq hb
    refine ⟨ps, by rw [som b _ h0]; exact h1, h2, fun pos cv hc => ?_⟩
    obtain ⟨c, c1, c2⟩ := h3 pos cv hc
    exact ⟨c, c1, by rw [e2 c (fun z => nc c z _ _ c2)]; exact c2⟩
  · by_cases z : M b
    · rw [e1 b z] at hb; cases hb
    · rw [e2 b z] at hb; exact hb
def piL' : List Nat := [2, 13, 15, 14, 12, 11, 10, 9, 8, 7, 6, 5, 3, 1, 0]
def lay (N : List Addr) (i : Nat) : Addr := (N[piL'.getD i 99]?).getD 0
theorem pi_lt : ∀ i, i < 15 → piL'.getD i 99 < 17 := by decide
theorem pi_inj : ∀ i, i < 15 → ∀ j, j < 15 → piL'.getD i 99 = piL'.getD j 99 → i = j := by decide
theorem pi_fl : ∀ i, i < 15 → piL'.getD i 99 ≠ 4 := by decide
theorem lay_at {N : List Addr} (hl : N.length = 17) {i : Nat} (hi : i < 15) : N[piL'.getD i 99]? = some (lay N i) := by
  have h := pi_lt i hi
  unfold lay
  rw [List.getElem?_eq_getElem (by omega)]
  rfl
theorem lay_inj {N : List Addr} (hl : N.length = 17) (nd : N.Nodup) {i j : Nat} (hi : i < 15) (hj : j < 15) (e : lay N i = lay N j) : i = j := by
  have h1 := lay_at hl hi
  have h2 := lay_at hl hj
  rw [e, ← h2] at h1
  have hlt := pi_lt i hi
  exact pi_inj i hi j hj ((List.getElem?_inj (i := piL'.getD i 99) (j := piL'.getD j 99) (by omega) nd).mp h1)
theorem lay_fl {N : List Addr} {fl : Addr} (hl : N.length = 17) (nd : N.Nodup) (hf : N[4]? = some fl) {i : Nat} (hi : i < 15) : lay N i ≠ fl := fun e => by
  have h1 := lay_at hl hi
  rw [e, ← hf] at h1
  have hlt := pi_lt i hi
  exact pi_fl i hi ((List.getElem?_inj (i := piL'.getD i 99) (j := 4) (by omega) nd).mp h1)
theorem made_start {H : Hp} {x dx C : Addr} (nx : H x = none) (nd : H dx = none) : Mka H (upd (upd H dx (.own x)) x (.ins C dx [])) x C dx [] [] := ⟨ke_made nx nd, nx, upd_same, (fun _ h => by cases h), by simp⟩
theorem sum_bound {ps : List Ps} {x : Int} (hx : 1 ≤ x ∧ x ≤ 60) (h : ∀ p ∈ ps, p.ok) : 4 * writes (ps.map (todoOf x)) + pauses (ps.map (todoOf x)) ≤ 240 * ps.length ∧ ∀ q ∈ ps.map (todoOf x), 0 ≤ q.2 ∧ (q.1 = .wr → 1 ≤ q.2) := by
  induction ps with
  | nil => exact ⟨by show (4 * 0 + 0 : Int) ≤ _; simp, fun _ h => nomatch h⟩
  | cons p r ih =>
    obtain ⟨a, b⟩ := ih fun q hq => h q (List.mem_cons_of_mem _ hq)
    have hp := h p List.mem_cons_self
    have one : 4 * (if (todoOf x p).1 = .wr then (todoOf x p).2 else 0) + (if (todoOf x p).1 = .pa then 1 else 0) ≤ 240 ∧ 0 ≤ (todoOf x p).2 ∧ ((todoOf x p).1 = .wr → 1 ≤ (todoOf x p).2) := by
      cases p with
      | pz i j =>
        have hp : 0 ≤ i ∧ i ≤ j ∧ j ≤ 200 := hp
        exact ⟨by show 4 * (if Wd.pa = Wd.wr then _ else (0 : Int)) + (if Wd.pa = Wd.pa then 1 else 0) ≤ 240; rw [if_neg (by decide), if_pos rfl]; omega, hp.1, fun z => by cases z⟩
      | io w n =>
        have hn : 1 ≤ n.getD x ∧ n.getD x ≤ 60 := by
          cases n with
          | none => exact hx
          | some m => exact hp
        cases w with
        | true => exact ⟨by show 4 * (if Wd.wr = Wd.wr then n.getD x else (0 : Int)) + (if Wd.wr = Wd.pa then 1 else 0) ≤ 240; rw [if_pos rfl, if_neg (by decide)]; omega, by show 0 ≤ n.getD x; omega, fun _ => hn.1⟩
        | false => exact ⟨by show 4 * (if Wd.rd = Wd.wr then _ else (0 : Int)) + (if Wd.rd = Wd.pa then 1 else 0) ≤ 240; rw [if_neg (by decide), if_neg (by decide)]; omega, by show 0 ≤ n.getD x; omega, fun z => by cases z⟩
    refine ⟨?_, fun q hq => ?_⟩
    · have e1 : writes ((p :: r).map (todoOf x)) = (if (todoOf x p).1 = .wr then (todoOf x p).2 else 0) + writes (r.map (todoOf x)) := rfl
      have e2 : pauses ((p :: r).map (todoOf x)) = (if (todoOf x p).1 = .pa then 1 else 0) + pauses (r.map (todoOf x)) := rfl
      rw [e1, e2, List.length_cons]
      have := one.1
      omega
    · rcases List.mem_cons.mp hq with rfl | hq
      · exact one.2
      · exact b q hq
theorem crs0 (C : FC) (k : Bool) (n : Nat) : crsL C k 0 none (if n = 0 then some 0 else none) = ([("steps", .ref (C.q k)), ("again", .bl false), ("place", .int 0), ("until", .non), ("ended", if n = 0 then .int 0 else .non), ("begun", .ref (C.bg k))] : List (Str × V)) := by
  by_cases z : n = 0
  · rw [if_pos z, if_pos z]; rfl
  · rw [if_neg z, if_neg z]; rfl
/-- the end of the run of two programs -/
def runE (S : Sh) (ps qs : List Ps) (x : Int) : Wo := runW S 4000 (begin0 (ps.map (todoOf x)) (qs.map (todoOf x)))
section
variable {P : Program} {w : World} {K : PySem.W.Frag} {mg : Str → Option Value} {base : Heap}
abbrev N_run_of : List Str := ["line", "one", "other", "x", "pauses", "flow", "first", "left", "second", "courses", "tick"]
theorem sc_run_of : FnScope N_run_of ["line", "one", "other", "x", "pauses"] (defScope s_run_of) := ⟨rfl, rfl, rfl, by decide +kernel, rfl, by decide +kernel, by decide +kernel⟩
theorem ok_run_of (T : Tx K mg w) (TB : LamX.TabB base mg (ruC K) (ruP K)) : Okf P w K mg base "run_of" ["line", "one", "other", "x", "pauses"] 10 (sp5 fun l a b xv t H Q => ∃ S ps qs x p, LineAt K H p S ∧ l = .ref p ∧ Bd S ∧ Dq K H a (planD ps) ∧ Dq K H b (planD qs) ∧ ps.length ≤ 6 ∧ qs.length ≤ 6 ∧ (∀ p ∈ ps, p.ok) ∧ (∀ p ∈ qs, p.ok) ∧ xv = .int x ∧ (1 ≤ x ∧ x ≤ 60) ∧
    (∃ ta, t = .ref ta ∧ H ta = some (.tup ((leasts ps ++ leasts qs).map V.int))) ∧ LamX.TabS H (ruP K) lamQ ∧
    ∀ H' r dx fl e, Ke H H' → H' r = some (.ins (He.ga K "Run") dx fl) → fl.lookup ("ends" : Str) = some (V.ref e) → H' e = some (.tup [oV ((runE S ps qs x).sd false).fin, oV ((runE S ps qs x).sd true).fin]) → Q (.ref r) H') := by
  have O_Flow := ok_Flow (P := P) (w := w) (base := base) T
  have O_Course := ok_Course (P := P) (w := w) (base := base) T
  have O_plain_steps := ok_plain_steps (P := P) (w := w) (base := base) T
  have O_do_tick := ok_do_tick (P := P) (w := w) (base := base) T
  have O_events := ok_events (P := P) (w := w) (base := base) T
  have O_Run := ok_Run (P := P) (w := w) (base := base) T TB
  refine mkF T ix_run_of rfl T.g_run_of sc_run_of (fun _ _ _ _ _ _ us hl => match us, hl with | [_, _, _, _, _], _ => rfl) len5 (fun cdv A outer s0 H0 E vs Q hr h => ?_)
  refine ⟨_, (pss_cons (ps_set (i := 5) sc_run_of.nd rfl (Or.inl rfl) (pe_new O_Flow (hr.mono (by decide)) (by rfl) (pa_cons (pv 0) pa_nil)))
    (pss_cons (ps_asg (pe_f O_plain_steps (hr.mono (by decide)) (by rfl) (pa_cons (pv 1) (pa_cons (pv 3) (pa_cons (pv 4) pa_nil)))) (pg_tup (by rfl) (pgs_cons (pg_name (i := 6) sc_run_of.nd rfl (Or.inl rfl)) (pgs_cons (pg_name (i := 7) sc_run_of.nd rfl (Or.inl rfl)) pgs_nil))))
    (pss_cons (ps_asg (pe_f O_plain_steps (hr.mono (by decide)) (by rfl) (pa_cons (pv 2) (pa_cons (pv 3) (pa_cons (pv 7) pa_nil)))) (pg_tup (by rfl) (pgs_cons (pg_name (i := 8) sc_run_of.nd rfl (Or.inl rfl)) (pgs_cons (pg_name (i := 7) sc_run_of.nd rfl (Or.inl rfl)) pgs_nil))))
    (pss_cons (ps_set (i := 9) sc_run_of.nd rfl (Or.inl rfl) (pe_tup (pa_cons (pe_new O_Course (hr.mono (by decide)) (by rfl) (pa_cons (pv 6) (pa_cons pe_bl pa_nil))) (pa_cons (pe_new O_Course (hr.mono (by decide)) (by rfl) (pa_cons (pv 8) (pa_cons pe_bl pa_nil))) pa_nil))))
    (pss_cons (ps_set (i := 10) sc_run_of.nd rfl (Or.inl rfl) pe_int)
    (pss_cons (ps_while PassesOwn.never (pt_cmpR op_notN (pv 10) pe_non (nomark _))
      (pss_cons (ps_expr (pe_f O_do_tick (hr.mono (by decide)) (by rfl) (pa_cons (pv 5) (pa_cons (pv 9) (pa_cons (pv 10) pa_nil)))))
    (pss_one (ps_set (i := 10) sc_run_of.nd rfl (Or.inl rfl) (pe_f O_events (hr.mono (by decide)) (by rfl) (pa_cons (pv 5) (pa_cons (pv 9) pa_nil)))))))
    (pss_one (ps_ret (pe_new O_Run (hr.mono (by decide)) (by rfl) (pa_cons (pv 5) (pa_cons (pv 9) pa_nil))))))))))), ?_⟩
  obtain ⟨_, _, _, _, _, rfl, S, ps, qs, x, lp, hline, rfl, B, ha, hb, hl1, hl2, ok1, ok2, rfl, hx, ⟨ta, rfl, hta⟩, tb, q⟩ := h
  obtain ⟨ldx, near, far, lt, hl, hn, hf⟩ := hline
  refine ⟨_, rfl, fun p dx np ndx ne => ?_⟩
  refine ⟨_, _, rfl, H0, p, dx, lp, S.size, S.way, near, far, ldx, lt, rfl, rfl, hl, made_start np ndx, fun H1 se s0 s1 st ou kn sm co ta' fu fi lo fl lg m1 => ⟨rfl, ?_⟩⟩
  have k1 := m1.base
  have hl1' := leasts_len ps
  have hl2' := leasts_len qs
  refine ⟨_, rfl, _, rfl, _, rfl, _, _, _, rfl, ps, x, ta, leasts qs, ha.ke k1, hl1, rfl, rfl, by omega, .inr (SqT.of (k1.tup hta)), fun p1 f1 l1 fv1 H2 np1 nf1 nl1 k2 hp1 hf1 td1 hL1 => ?_⟩
  refine ⟨p1, _, rfl, SqT.of hp1, rfl, _, _, rfl, _, _, rfl, rfl, ?_⟩
  refine ⟨_, rfl, _, rfl, _, rfl, _, _, _, rfl, qs, x, l1, [], hb.ke (k1.trans k2), hl2, rfl, rfl, by simp, .inl (SqL.of (by rw [hL1, List.append_nil])), fun p2 f2 l2 fv2 H3 np2 nf2 nl2 k3 hp2 hf2 td2 hL2 => ?_⟩
  refine ⟨p2, _, rfl, SqT.of hp2, rfl, _, _, rfl, _, _, rfl, rfl, ?_⟩
  -- the courses
  refine ⟨_, rfl, fun c0 d0 nc0 nd0 ne0 => ?_⟩
  have k13 : Ke H1 H3 := k2.trans k3
  have hf13 : H3 f1 = some (.lst fv1) := k3.lst hf1
  have km0 := ke_made (C := He.ga K "Course") nc0 nd0
  refine ⟨_, _, _, rfl, H3, c0, d0, f1, fv1, rfl, rfl, rfl, km0.lst hf13, ne_of_none hf13 nc0, made_start nc0 nd0, fun H4 b0 m4 => ⟨rfl, ?_⟩⟩
  have k4 := m4.base
  refine ⟨_, rfl, fun c1 d1 nc1 nd1 ne1 => ?_⟩
  have hf24 : H4 f2 = some (.lst fv2) := k4.lst hf2
  have km1 := ke_made (C := He.ga K "Course") nc1 nd1
  refine ⟨_, _, _, rfl, H4, c1, d1, f2, fv2, rfl, rfl, rfl, km1.lst hf24, ne_of_none hf24 nc1, made_start nc1 nd1, fun H5 b1 m5 => ⟨rfl, ?_⟩⟩
  have k5 := m5.base
  refine ⟨by show 2 ≤ sizeLine; decide, fun u nu => ?_⟩
  have ku : Ke H5 (upd H5 u (.tup [.ref c0, .ref c1])) := .new nu
  have hu : (upd H5 u (.tup [.ref c0, .ref c1])) u = some (.tup [.ref c0, .ref c1]) := upd_same
  generalize upd H5 u _ = H6 at ku hu ⊢
  have k06 : Ke H0 H6 := k1.trans (k13.trans (k4.trans (k5.trans ku)))
  have k16 : Ke H1 H6 := k13.trans (k4.trans (k5.trans ku))
  have k46 : Ke H4 H6 := k5.trans ku
  -- the parts
  let N17 : List Addr := [c1, c0, p, lg, fl, lo, fi, fu, ta', co, sm, kn, ou, st, s1, s0, se]
  have in1 : ∀ z ∈ [p, lg, fl, lo, fi, fu, ta', co, sm, kn, ou, st, s1, s0, se], ∃ o, H1 z = some o ∧ (∀ ps, o ≠ .tbl ps) ∧ H0 z = none := by
    intro z hz
    rcases List.mem_cons.mp hz with rfl | hz
    · exact ⟨_, m1.ob, (fun ps w => by cases w), np⟩
    · have hz : z ∈ List.map Prod.fst [(lg, HO.lst []), (fl, .lst []), (lo, .lst [.int 0, .int 0]), (fi, .lst [.non, .non]), (fu, .lst [.int 0, .int 0]), (ta', .lst [.int 0, .int 0]), (co, .lst [.int 0, .int 0]), (sm, .lst [.int 0, .int 0]), (kn, .lst [.int 0, .int 0]), (ou, .lst [.int 0, .int 0]), (st, .lst [.ref s0, .ref s1]), (s1, .lst []), (s0, .lst []), (se, .tup [.ref near, .ref far])] := hz
      obtain ⟨⟨y, o⟩, hy, rfl⟩ := List.mem_map.mp hz
      obtain ⟨y1, y2⟩ := m1.fa (y, o) hy
      refine ⟨o, y1, fun ps w => ?_, y2⟩
      rw [w] at hy
      simp at hy
  have nd17 : N17.Nodup := by
    have n1 := m1.nd
    rw [List.nodup_cons, List.nodup_cons]
    refine ⟨fun z => ?_, fun z => ?_, n1⟩
    · rcases List.mem_cons.mp z with z | z
      · have := m4.ob; rw [← z, nc1] at this; cases this
      · obtain ⟨o, y1, y2, _⟩ := in1 _ z
        have := (k13.trans k4).keep _ _ y1 y2
        rw [nc1] at this; cases this
    · obtain ⟨o, y1, y2, _⟩ := in1 _ z
      have := k13.keep _ _ y1 y2
      rw [nc0] at this; cases this
  have hc0 : H0 c0 = none := (k1.trans k13).free nc0
  have hc1 : H0 c1 = none := (k1.trans (k13.trans k4)).free nc1
  let C : FC := ⟨dx, lp, near, far, se, fun k => if k = true then d1 else d0, fun k => if k = true then f2 else f1, fun k => if k = true then b1 else b0, fun k => if k = true then qs.map (todoOf x) else ps.map (todoOf x), fun k => if k = true then fv2 else fv1⟩
  let D : FD := ⟨0, fun _ => [], fun _ => 0, fun _ => 0, fun _ => 0, fun _ => 0, fun _ => 0, fun _ => 0, fun _ => 0, fun _ => none, fl, [], [], fun _ => 0, fun _ => none, fun k => if k = true then (if fv2.length = 0 then some 0 else none) else (if fv1.length = 0 then some 0 else none)⟩
  have at_ : ∀ z o, (z, o) ∈ [(lg, HO.lst []), (fl, .lst []), (lo, .lst [.int 0, .int 0]), (fi, .lst [.non, .non]), (fu, .lst [.int 0, .int 0]), (ta', .lst [.int 0, .int 0]), (co, .lst [.int 0, .int 0]), (sm, .lst [.int 0, .int 0]), (kn, .lst [.int 0, .int 0]), (ou, .lst [.int 0, .int 0]), (st, .lst [.ref s0, .ref s1]), (s1, .lst []), (s0, .lst []), (se, .tup [.ref near, .ref far])] → H6 z = some o := fun z o hz => k16.keep _ _ (m1.fa (z, o) hz).1 (fun ps w => by rw [w] at hz; simp at hz)
  have i2 : ∀ z, z ∈ [lo, fu, ta', co, sm, kn, ou] → H6 z = some (.lst [.int 0, .int 0]) := fun z hz => at_ z _ (by simp at hz ⊢; rcases hz with h | h | h | h | h | h | h <;> simp [h])
  have o_st : H6 st = some (.lst [.ref s0, .ref s1]) := at_ st _ (by simp)
  have o_s0 : H6 s0 = some (.lst []) := at_ s0 _ (by simp)
  have o_s1 : H6 s1 = some (.lst []) := at_ s1 _ (by simp)
  have o_fi : H6 fi = some (.lst [.non, .non]) := at_ fi _ (by simp)
  have o_lg : H6 lg = some (.lst []) := at_ lg _ (by simp)
  have o_se : H6 se = some (.tup [.ref near, .ref far]) := at_ se _ (by simp)
  have o_c0 : H6 c0 = some (.ins (He.ga K "Course") d0 (crsL C false 0 none (if fv1.length = 0 then some 0 else none))) := by rw [crs0]; exact k46.ins m4.ob
  have o_c1 : H6 c1 = some (.ins (He.ga K "Course") d1 (crsL C true 0 none (if fv2.length = 0 then some 0 else none))) := by rw [crs0]; exact ku.ins m5.ob
  have hob : ∀ i o, (conts K (lay N17) C D)[i]? = some o → H6 (lay N17 i) = some o := by
    intro i o hi
    match i, hi with
    | 0, hi => cases hi; exact k16.ins m1.ob
    | 1, hi => cases hi; exact o_st
    | 2, hi => cases hi; exact o_s0
    | 3, hi => cases hi; exact o_s1
    | 4, hi => cases hi; exact i2 ou (by simp)
    | 5, hi => cases hi; exact i2 kn (by simp)
    | 6, hi => cases hi; exact i2 sm (by simp)
    | 7, hi => cases hi; exact i2 co (by simp)
    | 8, hi => cases hi; exact i2 ta' (by simp)
    | 9, hi => cases hi; exact i2 fu (by simp)
    | 10, hi => cases hi; exact o_fi
    | 11, hi => cases hi; exact i2 lo (by simp)
    | 12, hi => cases hi; exact o_lg
    | 13, hi => cases hi; exact o_c0
    | 14, hi => cases hi; exact o_c1
    | i + 15, hi => simp [conts] at hi
  have hfl : H6 fl = some (.lst []) := at_ fl _ (by simp)
  have l17 : N17.length = 17 := rfl
  let M : Addr → Prop := fun a => (∃ i, i < 15 ∧ a = lay N17 i) ∨ a = fl
  have inM : ∀ a, M a → a = c1 ∨ a = c0 ∨ a ∈ [p, lg, fl, lo, fi, fu, ta', co, sm, kn, ou, st, s1, s0, se] := by
    rintro a (⟨i, hi, rfl⟩ | rfl)
    · have h := List.mem_of_getElem? (lay_at l17 hi)
      rcases List.mem_cons.mp h with h | h
      · exact .inl h
      · rcases List.mem_cons.mp h with h | h
        · exact .inr (.inl h)
        · exact .inr (.inr h)
    · exact .inr (.inr (by simp))
  have kindM : ∀ a, M a → (∃ xs, H6 a = some (.lst xs)) ∨ ∃ c d fs, H6 a = some (.ins c d fs) := by
    rintro a (⟨i, hi, rfl⟩ | rfl)
    · have e : (conts K (lay N17) C D)[i]? = some ((conts K (lay N17) C D)[i]'hi) := List.getElem?_eq_getElem hi
      have h := hob i _ e
      rcases conts_kind (List.getElem_mem hi) with ⟨xs, z⟩ | ⟨c, d, fs, z⟩
      · rw [z] at h; exact .inl ⟨xs, h⟩
      · rw [z] at h; exact .inr ⟨c, d, fs, h⟩
    · exact .inl ⟨_, hfl⟩
  have outM : ∀ a, M a → H0 a = none := fun a h => by
    rcases inM a h with rfl | rfl | h
    · exact hc1
    · exact hc0
    · obtain ⟨o, _, _, z⟩ := in1 a h; exact z
  obtain ⟨Hb, kb, kb6, e1, e2⟩ := without M k06 outM (fun a h => by
    rcases kindM a h with ⟨xs, z⟩ | ⟨c, d, fs, z⟩
    · exact noCode_lst z
    · exact noCode_ins z)
  have notT : ∀ a xs, H6 a = some (.tup xs) → Hb a = some (.tup xs) := fun a xs h => by
    rw [e2 a fun z => ?_]
    · exact h
    · rcases kindM a z with ⟨_, w⟩ | ⟨_, _, _, w⟩ <;> rw [w] at h <;> cases h
  have q1 : Hb f1 = some (.lst fv1) := by
    rw [e2 f1 fun z => ?_]
    · exact (k4.trans k46).lst hf13
    · rcases inM f1 z with w | w | w
      · rw [← w] at nc1; rw [k4.lst hf13] at nc1; cases nc1
      · rw [← w, hf13] at nc0; cases nc0
      · obtain ⟨o, y, _⟩ := in1 f1 w
        rw [nf1] at y; cases y
  have q2 : Hb f2 = some (.lst fv2) := by
    rw [e2 f2 fun z => ?_]
    · exact k46.lst hf24
    · rcases inM f2 z with w | w | w
      · rw [← w, hf24] at nc1; cases nc1
      · rw [← w, hf2] at nc0; cases nc0
      · obtain ⟨o, y, y2, _⟩ := in1 f2 w
        rw [k2.keep _ _ y y2] at nf2; cases nf2
  have okC : FCok K Hb S C := by
    refine ⟨⟨ldx, lt, kb.ins hl⟩, hn.ke kb, hf.ke kb, notT _ _ o_se, fun k => ?_, fun k => ?_, fun k => ?_⟩
    · cases k
      · exact q1
      · exact q2
    · cases k
      · exact Paired.mapP (td1.tk (k3.trans (k4.trans k46)).tk) fun _ _ ⟨a, y, z⟩ => ⟨a, y, notT a _ z⟩
      · exact Paired.mapP (td2.tk (k4.trans k46).tk) fun _ _ ⟨a, y, z⟩ => ⟨a, y, notT a _ z⟩
    · cases k
      · show (ps.map (todoOf x)).length ≤ 6; rw [List.length_map]; exact hl1
      · show (qs.map (todoOf x)).length ≤ 6; rw [List.length_map]; exact hl2
  have a0 : At K Hb H6 S (lay N17) C D := ⟨okC, kb6, fun i j hi hj e => lay_inj l17 nd17 hi hj e, fun i hi => e1 _ (.inl ⟨i, hi, rfl⟩), hob, hfl, e1 _ (.inr rfl), fun i hi => lay_fl l17 nd17 rfl hi⟩
  have lv1 : fv1.length = (ps.map (todoOf x)).length := Paired.length td1
  have lv2 : fv2.length = (qs.map (todoOf x)).length := Paired.length td2
  have fm0 : FM S H6 C D (begin0 (ps.map (todoOf x)) (qs.map (todoOf x))) := by
    refine ⟨rfl, fun k => by cases k <;> rfl, fun k => by cases k <;> rfl, fun k => by cases k <;> rfl, fun k => by cases k <;> rfl, fun k => by cases k <;> rfl, fun k => by cases k <;> rfl, fun k => by cases k <;> rfl, fun k => ⟨[], .nil, (fun _ h => by cases h), by cases k <;> rfl⟩, .nil, .nil, fun k => by cases k <;> rfl, fun k => ?_, fun k => ⟨0, rfl, by cases k <;> rfl, Nat.zero_le _⟩⟩
    cases k
    · show (if fv1.length = 0 then some 0 else none) = if ps.map (todoOf x) = [] then some (0 : Int) else none
      rw [lv1]
      by_cases z : ps.map (todoOf x) = []
      · rw [if_pos z, if_pos (by rw [z]; rfl)]
      · rw [if_neg z, if_neg (fun w => z (List.eq_nil_of_length_eq_zero w))]
    · show (if fv2.length = 0 then some 0 else none) = if qs.map (todoOf x) = [] then some (0 : Int) else none
      rw [lv2]
      by_cases z : qs.map (todoOf x) = []
      · rw [if_pos z, if_pos (by rw [z]; rfl)]
      · rw [if_neg z, if_neg (fun w => z (List.eq_nil_of_length_eq_zero w))]
  have huB : Hb u = some (.tup [.ref (lay N17 13), .ref (lay N17 14)]) := notT _ _ hu
  obtain ⟨sb1, sp1⟩ := sum_bound hx ok1
  obtain ⟨sb2, sp2⟩ := sum_bound hx ok2
  have fine := B.fine
  have g0 := begin_good (S := S) sp1 sp2
  have ph := begin_phi (S := S) (a := ps.map (todoOf x)) (b := qs.map (todoOf x))
  have dn := begin_done (S := S) fine sp1 sp2 (by omega)
  clear_value C D
  generalize hR : runE S ps qs x = R at q
  have hR : runW S 4000 (begin0 (ps.map (todoOf x)) (qs.map (todoOf x))) = R := hR
  generalize 4000 = n0 at hR dn
  have nt : ∀ W V : Wo, ∀ t : Int, Bt S (adv V t) (landing S (adv V t)) → W = tickW S (adv V t) → Bt S W [] := fun W V t b e => by
    rw [e]
    exact b.leads (leads_tick fine b.good)
  refine ⟨fun n σ H => ∃ D V tv, σ = [some (.ref lp), some _, some _, some (.int x), some (.ref ta), some (.ref p), some (.ref f1), some (.ref l2), some (.ref f2), some (.ref u), some tv] ∧ At K Hb H S (lay N17) C D ∧ FM S H C D V ∧
      ((∃ t, tv = .int t ∧ V.tick ≤ t ∧ (∀ p ∈ V.log, V.tick < p.t + S.way → t ≤ p.t + S.way) ∧ (∀ p ∈ V.log, p.t + S.way = t → V.tick < t) ∧ Bt S (adv V t) (landing S (adv V t)) ∧ Done S n (adv V t) ∧ runW S n (adv V t) = R) ∨ (tv = .non ∧ n = 0 ∧ V = R ∧ Bnd S R [])),
    ⟨n0, D, _, .int 0, rfl, a0, fm0, .inl ⟨0, rfl, Int.le_refl _, (fun _ h => by cases h), (fun _ h => by cases h), ⟨g0, ?_⟩, dn, hR⟩⟩, ?_⟩
  · have e : (adv (begin0 (ps.map (todoOf x)) (qs.map (todoOf x))) 0) = begin0 (ps.map (todoOf x)) (qs.map (todoOf x)) := rfl
    rw [e, ph]
    show _ + ((([] : List Pc).length : Nat) : Int) ≤ 3000
    rw [List.length_nil]
    omega
  rintro n σ H ⟨D, V, tv, rfl, a, fm, ⟨t, rfl, h1, h2, h3, bt, dn, hr⟩ | ⟨rfl, rfl, rfl, bd⟩⟩
  · refine ⟨_, rfl, rfl, _, rfl, iteT ⟨_, fun _ _ h => h, ?_⟩⟩
    refine ⟨_, rfl, _, rfl, _, rfl, _, _, _, rfl, Hb, S, lay N17, C, D, V, u, t, rfl, rfl, rfl, huB, fine, a, fm, h1, h2, h3, bt, fun H' D' a' f' => ?_⟩
    have bt' := nt _ V t bt rfl
    refine ⟨_, rfl, _, rfl, _, _, rfl, Hb, S, lay N17, C, D', _, [], u, rfl, rfl, a'.base.tup huB, a', f', bt'.bnd, fun H'' kk => ?_⟩
    cases n with
    | zero => exact dn.elim
    | succ m =>
      rw [runW_succ] at hr
      by_cases e : later S (tickW S (adv V t)) = []
      · rw [if_pos e] at hr
        refine ⟨0, Nat.succ_pos _, D', _, .non, ?_, a'.ke kk, f'.tk kk.tk, .inr ⟨rfl, rfl, hr, ?_⟩⟩
        · unfold minV
          rw [if_pos e]
          rfl
        · rw [← hr]
          exact bt'.bnd
      · rw [if_neg e] at hr
        have dn : Done S m (next S (adv V t)) := dn.elim (fun z => absurd z e) id
        obtain ⟨g2, p2, t2⟩ := next_ok fine bt.good e
        refine ⟨m, Nat.lt_succ_self _, D', _, .int (minL (later S (tickW S (adv V t)))), ?_, a'.ke kk, f'.tk kk.tk, .inl ⟨minL (later S (tickW S (adv V t))), rfl, Int.le_of_lt t2, fun p hp hq => minL_le (mem_later.mpr (.inr (.inr ⟨p, hp, hq, rfl⟩))), fun _ _ _ => t2, ⟨g2, ?_⟩, dn, hr⟩⟩
        · unfold minV
          rw [if_neg e]
          rfl
        · have e3 : (adv (tickW S (adv V t)) (minL (later S (tickW S (adv V t))))) = next S (adv V t) := rfl
          have e4 : (next S (adv V t)).log = (tickW S (adv V t)).log := rfl
          rw [e3, p2, e4]
          exact bt'.le
  · refine ⟨_, rfl, rfl, _, rfl, iteF ?_⟩
    refine ⟨_, rfl, _, rfl, fun r dr nr ndr ner => ?_⟩
    refine ⟨_, _, _, rfl, Hb, H, r, dr, S, lay N17, C, D, V, [], u, rfl, rfl, rfl, a.base.tup huB, a, fm, bd, (kb.trans a.base).tab _ _ rfl tb, made_start nr ndr, fun H' dx' fl' e kk he1 he2 he3 => ⟨rfl, ?_⟩⟩
    refine q H' r dx' fl' e ((kb.trans a.base).trans kk) he1 he2 ?_
    rw [← fm.fin, ← fm.fin]
    exact he3
abbrev N_ends_of : List Str := ["line", "one", "other", "x"]
theorem sc_ends_of : FnScope N_ends_of ["line", "one", "other", "x"] (defScope s_ends_of) := ⟨rfl, rfl, rfl, by decide +kernel, rfl, by decide +kernel, by decide +kernel⟩
theorem ok_ends_of (T : Tx K mg w) (TB : LamX.TabB base mg (ruC K) (ruP K)) : Okf P w K mg base "ends_of" ["line", "one", "other", "x"] 11 (sp4 fun l a b xv H Q => ∃ S ps qs x p, LineAt K H p S ∧ l = .ref p ∧ Bd S ∧ Dq K H a (planD ps) ∧ Dq K H b (planD qs) ∧ ps.length ≤ 6 ∧ qs.length ≤ 6 ∧ (∀ p ∈ ps, p.ok) ∧ (∀ p ∈ qs, p.ok) ∧ xv = .int x ∧ (1 ≤ x ∧ x ≤ 60) ∧ LamX.TabS H (ruP K) lamQ ∧
    ∀ H' e, Ke H H' → H' e = some (.tup [oV ((runE S ps qs x).sd false).fin, oV ((runE S ps qs x).sd true).fin]) → Q (.ref e) H') := by
  have O_run_of := ok_run_of (P := P) (w := w) (base := base) T TB
  have O_shortest := ok_shortest (P := P) (w := w) (base := base) T
  refine mkF T ix_ends_of rfl T.g_ends_of sc_ends_of (fun _ _ _ _ _ _ us hl => match us, hl with | [_, _, _, _], _ => rfl) len4 (fun cdv A outer s0 H0 E vs Q hr h => ?_)
  refine ⟨_, (pss_one (ps_ret (fldK K (pe_f O_run_of (hr.mono (by decide)) (by rfl) (pa_cons (pv 0) (pa_cons (pv 1) (pa_cons (pv 2) (pa_cons (pv 3) (pa_cons (pe_f O_shortest (hr.mono (by decide)) (by rfl) (pa_cons (pv 1) (pa_cons (pv 2) pa_nil))) pa_nil))))))))), ?_⟩
  obtain ⟨_, _, _, _, rfl, S, ps, qs, x, lp, hline, rfl, B, ha, hb, hl1, hl2, ok1, ok2, rfl, hx, tb, q⟩ := h
  refine ⟨_, rfl, _, rfl, _, rfl, _, rfl, _, rfl, _, rfl, _, _, rfl, ps, qs, ha, hb, hl1, hl2, fun t H1 nt k1 ht => ?_⟩
  refine ⟨_, _, _, _, _, rfl, S, ps, qs, x, lp, hline.ke k1, rfl, B, ha.ke k1, hb.ke k1, hl1, hl2, ok1, ok2, rfl, hx, ⟨t, rfl, ht⟩, k1.tab _ _ rfl tb, fun H2 r dx fl e k2 hr hlk he => ?_⟩
  exact ⟨r, _, dx, fl, _, rfl, hr, T.c_Run, T.a_Run_ends, hlk, q H2 e (k1.trans k2) he⟩
end
end Sm

/-! The program: the checker. -/
namespace Sm
open PySem PySem.Spec PyProof.Rows L2
def oD : Option Int → PyData
  | none => .none
  | some t => .int t
def pairD (a b : Option Int) : PyData := .tuple [oD a, oD b]
/-- the ends of an own run -/
def endsD (S : Sh) (ps qs : List Ps) (x : Int) : PyData := pairD ((runE S ps qs x).sd false).fin ((runE S ps qs x).sd true).fin
def emptyB (d : PyData) : Bool := match d with
  | .tuple [] => true
  | _ => false
theorem waysOk_inv {d : PyData} (h : waysOk d = true) : ∃ r e y, d = wayD r e y ∧ (1 ≤ e ∧ e ≤ 4) ∧ (0 ≤ y ∧ y ≤ 200) := by
  unfold waysOk at h
  split at h
  · rename_i r a b
    obtain ⟨h1, h2⟩ := Bool.and_eq_true_iff.mp h
    obtain ⟨h3, h4⟩ := Bool.and_eq_true_iff.mp h2
    obtain ⟨i, rfl, i1, i2⟩ := btw_inv h3
    obtain ⟨j, rfl, j1, j2⟩ := btw_inv h4
    unfold isRule at h1
    rcases Bool.or_eq_true_iff.mp h1 with h | h
    · rw [of_decide_eq_true h]; exact ⟨.plain, i, j, rfl, ⟨i1, i2⟩, j1, j2⟩
    · rcases Bool.or_eq_true_iff.mp h with h | h
      · rw [of_decide_eq_true h]; exact ⟨.hold, i, j, rfl, ⟨i1, i2⟩, j1, j2⟩
      · rw [of_decide_eq_true h]; exact ⟨.few, i, j, rfl, ⟨i1, i2⟩, j1, j2⟩
  · cases h
theorem toldOk_inv {d : PyData} (h : toldOk d = true) : ∃ S, d = lineD S ∧ Bd S := by
  unfold toldOk at h
  split at h
  · rename_i a b c e
    obtain ⟨h1, h2⟩ := Bool.and_eq_true_iff.mp h
    obtain ⟨h3, h4⟩ := Bool.and_eq_true_iff.mp h1
    obtain ⟨h5, h6⟩ := Bool.and_eq_true_iff.mp h2
    obtain ⟨i, rfl, i1, i2⟩ := btw_inv h3
    obtain ⟨j, rfl, j1, j2⟩ := btw_inv h4
    obtain ⟨r1, e1, y1, rfl, q1, q2⟩ := waysOk_inv h5
    obtain ⟨r2, e2, y2, rfl, q3, q4⟩ := waysOk_inv h6
    exact ⟨⟨i, j, fun k => if k = true then r2 else r1, fun k => if k = true then e2 else e1, fun k => if k = true then y2 else y1⟩, rfl, ⟨i1, i2⟩, ⟨j1, j2⟩, fun k => by cases k; exact q1; exact q3, fun k => by cases k; exact q2; exact q4⟩
  · cases h
theorem endOk_inv {d : PyData} (h : endOk d = true) : ∃ o, d = oD o := by
  cases d with
  | none => exact ⟨none, rfl⟩
  | int i => exact ⟨some i, rfl⟩
  | _ => cases h
theorem pairOk_inv {d : PyData} (h : pairOk d = true) : ∃ a b, d = pairD a b := by
  unfold pairOk at h
  split at h
  · obtain ⟨h1, h2⟩ := Bool.and_eq_true_iff.mp h
    obtain ⟨a, rfl⟩ := endOk_inv h1
    obtain ⟨b, rfl⟩ := endOk_inv h2
    exact ⟨a, b, rfl⟩
  · cases h
theorem claimOk_inv {d : PyData} (h : claimOk d = true) : ∃ S ps qs x a b, d = .tuple [.str "ends", lineD S, planD ps, planD qs, .int x, pairD a b] ∧ Bd S ∧ ps.length ≤ 6 ∧ qs.length ≤ 6 ∧ (∀ p ∈ ps, p.ok) ∧ (∀ p ∈ qs, p.ok) ∧ 1 ≤ x ∧ x ≤ 2000 := by
  unfold claimOk at h
  split at h
  · rename_i z l p q x e
    obtain ⟨h0, h⟩ := Bool.and_eq_true_iff.mp h
    obtain ⟨h1, h⟩ := Bool.and_eq_true_iff.mp h
    obtain ⟨h2, h⟩ := Bool.and_eq_true_iff.mp h
    obtain ⟨h3, h⟩ := Bool.and_eq_true_iff.mp h
    obtain ⟨h4, h5⟩ := Bool.and_eq_true_iff.mp h
    have h0 := of_decide_eq_true h0
    subst h0
    obtain ⟨S, rfl, B⟩ := toldOk_inv h1
    obtain ⟨ps, rfl, l1, o1⟩ := planOk_inv h2
    obtain ⟨qs, rfl, l2, o2⟩ := planOk_inv h3
    obtain ⟨i, rfl, i1, i2⟩ := btw_inv h4
    obtain ⟨a, b, rfl⟩ := pairOk_inv h5
    exact ⟨S, ps, qs, i, a, b, rfl, B, l1, l2, o1, o2, i1, i2⟩
  · cases h
theorem oD_inj {a b : Option Int} (h : oD a = oD b) : a = b := by
  cases a <;> cases b <;> first | rfl | cases h | skip
  all_goals rfl
theorem pair_eqv (a b c d : Option Int) : PyData.eqv (pairD a b) (pairD c d) = decide (a = c ∧ b = d) := by
  have one : ∀ a c : Option Int, PyData.eqv (oD a) (oD c) = decide (a = c) := fun a c => by
    cases a <;> cases c <;> simp [oD, PyData.eqv]
    rw [Bool.eq_iff_iff]
    simp
  show (PyData.eqv (oD a) (oD c) && (PyData.eqv (oD b) (oD d) && true)) = _
  rw [one, one, Bool.and_true]
  by_cases h1 : a = c <;> by_cases h2 : b = d <;> simp [h1, h2]
theorem pair_shaped (a b : Option Int) : SeqAt.shaped (pairD a b) = true := by
  cases a <;> cases b <;> simp [SeqAt.shaped, pairD, oD, PyData.canLay0, PyData.canLayAll0, PyData.depth, PyData.depthAll]
theorem oV_dp {K : PySem.W.Frag} {H : Hp} (o : Option Int) : Dp K H (oV o) (oD o) := by cases o; exact .non; exact .int _
theorem pair_dp {K : PySem.W.Frag} {H : Hp} {e : Addr} {a b : Option Int} (h : H e = some (.tup [oV a, oV b])) : Dp K H (.ref e) (pairD a b) := .tup (SqT.of h) (.cons (oV_dp a) (.cons (oV_dp b) .nil))
theorem oD_dq {K : PySem.W.Frag} {H : Hp} {v : V} {o : Option Int} (h : Dq K H v (oD o)) : v = oV o := by
  cases o with
  | none => cases h; rfl
  | some t => cases h; rfl
theorem pair_dq {K : PySem.W.Frag} {H : Hp} {v : V} {a b : Option Int} (h : Dq K H v (pairD a b)) : Dp K H v (pairD a b) := by
  have h : Dq K H v (.tuple [oD a, oD b]) := h
  cases h with
  | @tup c xs _ hs ha =>
  cases ha with | @cons x0 xr _ _ h0 ha =>
  cases ha with | @cons x1 xr _ _ h1 ha =>
  cases ha
  rw [oD_dq h0, oD_dq h1] at hs
  exact .tup hs (.cons (oV_dp a) (.cons (oV_dp b) .nil))
section
variable {P : Program} {w : World} {K : PySem.W.Frag} {mg : Str → Option Value} {base : Heap}
abbrev N_one_shown : List Str := ["word", "parts", "paper", "line", "one", "other", "x", "told"]
theorem sc_one_shown : FnScope N_one_shown ["word", "parts", "paper"] (defScope s_one_shown) := ⟨rfl, rfl, rfl, by decide +kernel, rfl, by decide +kernel, by decide +kernel⟩
theorem ok_one_shown (T : Tx K mg w) (TB : LamX.TabB base mg (ruC K) (ruP K)) : Okf P w K mg base "one_shown" ["word", "parts", "paper"] 12 (sp3 fun z v pv H Q => ∃ S ps qs x a b dp t l p q y e, z = .str "ends" ∧ v = .ref t ∧ SqT K H t [l, p, q, y, e] ∧ Dq K H l (lineD S) ∧ Dq K H p (planD ps) ∧ Dq K H q (planD qs) ∧ y = .int x ∧ Dq K H e (pairD a b) ∧ Dq K H pv dp ∧
    Bd S ∧ ps.length ≤ 6 ∧ qs.length ≤ 6 ∧ (∀ p ∈ ps, p.ok) ∧ (∀ p ∈ qs, p.ok) ∧ (1 ≤ x ∧ x ≤ 60) ∧ LamX.TabS H (ruP K) lamQ ∧
    ∀ H', Ke H H' → Q (.bl (emptyB dp && decide (((runE S ps qs x).sd false).fin = a ∧ ((runE S ps qs x).sd true).fin = b))) H') := by
  have O_line_of := ok_line_of (P := P) (w := w) (base := base) T
  have O_is_empty := ok_is_empty (P := P) (w := w) (base := base) T
  have O_ends_of := ok_ends_of (P := P) (w := w) (base := base) T TB
  refine mkF T ix_one_shown rfl T.g_one_shown sc_one_shown (fun _ _ _ _ _ _ us hl => match us, hl with | [_, _, _], _ => rfl) len3 (fun cdv A outer s0 H0 E vs Q hr h => ?_)
  refine ⟨_, (pss_cons (ps_asg (pe_tup (pa_cons (pe_f O_line_of (hr.mono (by decide)) (by rfl) (pa_cons (pe_ix (ixT K) (pv 1) pe_int (fun _ _ => rfl)) pa_nil)) (pa_cons (pe_ix (ixT K) (pv 1) pe_int (fun _ _ => rfl)) (pa_cons (pe_ix (ixT K) (pv 1) pe_int (fun _ _ => rfl)) (pa_cons (pe_ix (ixT K) (pv 1) pe_int (fun _ _ => rfl)) (pa_cons (pe_ix (ixT K) (pv 1) pe_int (fun _ _ => rfl)) pa_nil)))))) (pg_tup (by rfl) (pgs_cons (pg_name (i := 3) sc_one_shown.nd rfl (Or.inl rfl)) (pgs_cons (pg_name (i := 4) sc_one_shown.nd rfl (Or.inl rfl)) (pgs_cons (pg_name (i := 5) sc_one_shown.nd rfl (Or.inl rfl)) (pgs_cons (pg_name (i := 6) sc_one_shown.nd rfl (Or.inl rfl)) (pgs_cons (pg_name (i := 7) sc_one_shown.nd rfl (Or.inl rfl)) pgs_nil)))))))
    (pss_cons (ps_if (pt_not (pt_val (pe_f O_is_empty (hr.mono (by decide)) (by rfl) (pa_cons (pv 2) pa_nil))))
      (pss_one (ps_ret pe_bl))
      pss_nil)
    (pss_cons (ps_if (pt_cmpR op_eq (pv 0) pe_str (nomark _))
      (pss_one (ps_ret (pe_cmpR (op_eqD hr.units) (pe_f O_ends_of (hr.mono (by decide)) (by rfl) (pa_cons (pv 3) (pa_cons (pv 4) (pa_cons (pv 5) (pa_cons (pv 6) pa_nil))))) (pv 7) (nomark _))))
      pss_nil)
    (pss_one ps_never)))), ?_⟩
  obtain ⟨_, _, _, rfl, S, ps, qs, x, a, b, dp, t, l, p, q', y, e, rfl, rfl, ht, hl, hp, hq, rfl, he, hdp, B, l1, l2, o1, o2, hx, tb, q⟩ := h
  refine ⟨_, rfl, t, _, 0, _, rfl, rfl, ht, atI0, _, rfl, S, hl, B, fun lp H1 nlp k1 hline => ?_⟩
  have ht1 := k1.sqt ht
  refine ⟨_, rfl, t, _, 1, _, rfl, rfl, ht1, atI1, _, rfl, t, _, 2, _, rfl, rfl, ht1, atI2, _, rfl, t, _, 3, _, rfl, rfl, ht1, atI3, _, rfl, t, _, 4, _, rfl, rfl, ht1, atI4, by show 5 ≤ sizeLine; decide, fun u nu => ?_⟩
  have ku : Ke H1 (upd H1 u (.tup [.ref lp, p, q', .int x, e])) := .new nu
  have hu : (upd H1 u (.tup [.ref lp, p, q', .int x, e])) u = some (.tup [.ref lp, p, q', .int x, e]) := upd_same
  generalize upd H1 u _ = H2 at ku hu ⊢
  have k02 := k1.trans ku
  refine ⟨u, _, rfl, SqT.of hu, rfl, _, _, rfl, _, _, rfl, _, _, rfl, _, _, rfl, _, _, rfl, rfl, ?_⟩
  refine ⟨_, rfl, _, rfl, dp, hdp.ke k02, emptyB dp, rfl, ?_⟩
  have q := fun H' (k : Ke H2 H') => q H' (k02.trans k)
  cases z : emptyB dp with
  | false =>
    rw [z] at q
    exact iteT (q _ (.refl _))
  | true =>
    rw [z] at q
    refine iteF ⟨_, rfl, rfl, _, rfl, iteT ?_⟩
    refine ⟨_, rfl, _, rfl, _, rfl, _, rfl, _, _, _, _, rfl, S, ps, qs, x, lp, hline.ke ku, rfl, B, hp.ke k02, hq.ke k02, l1, l2, o1, o2, rfl, hx, k02.tab _ _ rfl tb, fun H3 e' k3 he' => ?_⟩
    refine ⟨_, rfl, _, _, pair_dp he', pair_dq ((he.ke k02).ke k3), pair_shaped _ _, pair_shaped _ _, ?_⟩
    rw [pair_eqv]
    exact q _ k3
/-- what the checker answers -/
def Shown (d dp : PyData) : Prop := emptyB dp = true ∧ ∃ S ps qs x, d = .tuple [.str "ends", lineD S, planD ps, planD qs, .int x, endsD S ps qs x] ∧ claimOk d = true
theorem lineD_inj {S S' : Sh} (h : lineD S = lineD S') : S = S' := by
  obtain ⟨s, y, r, e, d⟩ := S
  obtain ⟨s', y', r', e', d'⟩ := S'
  have ru : ∀ a b : Ru, ruS a = ruS b → a = b := fun a b h => by cases a <;> cases b <;> first | rfl | (exact absurd h (by decide))
  unfold lineD wayD at h
  simp only [PyData.tuple.injEq, List.cons.injEq, PyData.int.injEq, PyData.str.injEq, and_true] at h
  obtain ⟨h1, h2, ⟨h3, h4, h5⟩, h6, h7, h8⟩ := h
  have e1 : r = r' := funext fun k => by cases k; exact ru _ _ h3; exact ru _ _ h6
  have e2 : e = e' := funext fun k => by cases k; exact h4; exact h7
  have e3 : d = d' := funext fun k => by cases k; exact h5; exact h8
  rw [h1, h2, e1, e2, e3]
theorem planD_inj {ps qs : List Ps} (h : planD ps = planD qs) : ps = qs := by
  have one : ∀ a b : Ps, a.d = b.d → a = b := fun a b h => by
    cases a with
    | io w n => cases b with
      | io v m =>
        unfold Ps.d at h
        simp only [PyData.tuple.injEq, List.cons.injEq, PyData.str.injEq, and_true] at h
        have e1 : w = v := by
          have := h.1
          cases w <;> cases v <;> first | rfl | (exact absurd (show ("read" : Str) = "write" from this) (by decide)) | (exact absurd (show ("write" : Str) = "read" from this) (by decide))
        have e2 : n = m := by
          have := h.2
          cases n <;> cases m <;> simp [amtD] at this ⊢ <;> exact this
        rw [e1, e2]
      | pz i j => simp [Ps.d] at h
    | pz i j => cases b with
      | io v m => simp [Ps.d] at h
      | pz i' j' =>
        unfold Ps.d at h
        simp only [PyData.tuple.injEq, List.cons.injEq, PyData.int.injEq, and_true] at h
        rw [h.2.1, h.2.2]
  have h : ps.map Ps.d = qs.map Ps.d := by
    unfold planD at h
    exact PyData.tuple.inj h
  induction ps generalizing qs with
  | nil => cases qs with
    | nil => rfl
    | cons _ _ => cases h
  | cons p r ih => cases qs with
    | nil => cases h
    | cons q s =>
      have h := List.cons.inj h
      rw [one p q h.1, ih (by unfold planD; rw [h.2]) h.2]
abbrev N_holds : List Str := ["claim", "paper", "word", "parts"]
theorem sc_holds : FnScope N_holds ["claim", "paper"] (defScope s_holds) := ⟨rfl, rfl, rfl, by decide +kernel, rfl, by decide +kernel, by decide +kernel⟩
theorem ok_holds (T : Tx K mg w) (TB : LamX.TabB base mg (ruC K) (ruP K)) : Okf P w K mg base "holds" ["claim", "paper"] 13 (sp2 fun v pv H Q => ∃ d dp, Dq K H v d ∧ Dq K H pv dp ∧ (∀ s r, d = .tuple (.str s :: r) → s = "ends" ∨ s = "end") ∧ (∀ a b c e x f, d = .tuple [a, b, c, e, .int x, f] → claimOk d = true → x ≤ 60) ∧ LamX.TabS H (ruP K) lamQ ∧
    ∀ b H', (b = true ↔ Shown d dp) → Ke H H' → Q (.bl b) H') := by
  have O_is_claim := ok_is_claim (P := P) (w := w) (base := base) T
  have O_one_shown := ok_one_shown (P := P) (w := w) (base := base) T TB
  refine mkF T ix_holds rfl T.g_holds sc_holds (fun _ _ _ _ _ _ us hl => match us, hl with | [_, _], _ => rfl) len2 (fun cdv A outer s0 H0 E vs Q hr h => ?_)
  refine ⟨_, (pss_cons (ps_if (pt_not (pt_val (pe_f O_is_claim (hr.mono (by decide)) (by rfl) (pa_cons (pv 0) pa_nil))))
      (pss_one (ps_ret pe_bl))
      pss_nil)
    (pss_cons (ps_par (i := 2) (j := 3) (by rfl) sc_holds.nd rfl rfl (by decide) rfl rfl (pa_cons (pe_ix (ixT K) (pv 0) pe_int (fun _ _ => rfl)) (pa_cons (pe_slice (slT K) (pv 0) (po_some pe_int) po_none) pa_nil)) (by rfl))
    (pss_cons (ps_if (pt_cmpR (inK K) (pv 2) (pe_tup (pa_cons pe_str (pa_cons pe_str pa_nil))) (by rfl))
      (pss_one ps_never)
      pss_nil)
    (pss_cons (ps_if (pt_cmpR (inK K) (pv 2) (pe_tup (pa_cons pe_str (pa_cons pe_str pa_nil))) (by rfl))
      (pss_one ps_never)
      pss_nil)
    (pss_cons (ps_if (pt_cmpR (inK K) (pv 2) (pe_tup (pa_cons pe_str (pa_cons pe_str pa_nil))) (by rfl))
      (pss_one ps_never)
      pss_nil)
    (pss_one (ps_ret (pe_f O_one_shown (hr.mono (by decide)) (by rfl) (pa_cons (pv 2) (pa_cons (pv 3) (pa_cons (pv 1) pa_nil))))))))))), ?_⟩
  obtain ⟨v, pv, rfl, d, dp, hd, hdp, hh, hsz, tb, q⟩ := h
  refine ⟨_, rfl, _, rfl, d, hd, hh, fun H1 k1 => ⟨_, rfl, ?_⟩⟩
  cases z : claimOk d with
  | false =>
    refine iteT (q false H1 ⟨(fun h => by cases h), ?_⟩ k1)
    rintro ⟨_, S, ps, qs, x, _, h⟩
    rw [z] at h
    cases h
  | true =>
    refine iteF ?_
    obtain ⟨S, ps, qs, x, a, b, rfl, B, l1, l2, o1, o2, i1, i2⟩ := claimOk_inv z
    have hx := hsz _ _ _ _ x _ rfl z
    cases hd with
    | @tup c xs _ hs ha =>
    cases ha with | @cons x0 xr _ _ h0 ha =>
    cases ha with | @cons x1 xr _ _ h1 ha =>
    cases ha with | @cons x2 xr _ _ h2 ha =>
    cases ha with | @cons x3 xr _ _ h3 ha =>
    cases ha with | @cons x4 xr _ _ h4 ha =>
    cases ha with | @cons x5 xr _ _ h5 ha =>
    cases ha
    cases h0
    cases h4
    have hs1 := k1.sqt hs
    refine ⟨_, rfl, c, _, 0, _, rfl, rfl, hs1, atI0, ?_⟩
    refine ⟨_, rfl, 1, rfl, c, _, rfl, hs1, fun hw => absurd hw.1 (by show ¬ HT.sIx 6 0 (some 1) = 0; decide), fun hw t nt => ?_⟩
    have kt : Ke H1 (upd H1 t (.tup (cutV [.str "ends", x1, x2, x3, .int x, x5] (some 1) none))) := .new nt
    have ht : (upd H1 t (.tup (cutV [.str "ends", x1, x2, x3, .int x, x5] (some 1) none))) t = some (.tup [x1, x2, x3, .int x, x5]) := by rw [upd_same, cut1]
    generalize upd H1 t _ = H2 at kt ht ⊢
    refine ⟨_, _, rfl, ?_⟩
    refine ⟨_, rfl, by show 2 ≤ sizeLine; decide, fun u1 n1 => ?_⟩
    have ku1 : Ke H2 (upd H2 u1 (.tup [.str "later", .str "never later"])) := .new n1
    refine ⟨u1, _, rfl, .inr (SqT.of upd_same), rfl, rfl, _, rfl, ?_⟩
    generalize upd H2 u1 _ = H3 at ku1 ⊢
    refine iteF ⟨_, rfl, by show 2 ≤ sizeLine; decide, fun u2 n2 => ?_⟩
    have ku2 : Ke H3 (upd H3 u2 (.tup [.str "beyond", .str "within"])) := .new n2
    refine ⟨u2, _, rfl, .inr (SqT.of upd_same), rfl, rfl, _, rfl, ?_⟩
    generalize upd H3 u2 _ = H4 at ku2 ⊢
    refine iteF ⟨_, rfl, by show 2 ≤ sizeLine; decide, fun u3 n3 => ?_⟩
    have ku3 : Ke H4 (upd H4 u3 (.tup [.str "late choice", .str "no late choice"])) := .new n3
    refine ⟨u3, _, rfl, .inr (SqT.of upd_same), rfl, rfl, _, rfl, ?_⟩
    generalize upd H4 u3 _ = H5 at ku3 ⊢
    have k25 := ku1.trans (ku2.trans ku3)
    have k5 := k1.trans (kt.trans k25)
    refine iteF ⟨_, rfl, _, rfl, _, rfl, _, _, _, rfl, S, ps, qs, x, a, b, dp, t, x1, x2, x3, .int x, x5, rfl, rfl, SqT.of (k25.tup ht), h1.ke k5, h2.ke k5, h3.ke k5, rfl, h5.ke k5, hdp.ke k5, B, l1, l2, o1, o2, ⟨i1, hx⟩, k5.tab _ _ rfl tb, fun H6 k6 => ?_⟩
    refine q _ H6 ?_ (k5.trans k6)
    rw [Bool.and_eq_true, decide_eq_true_eq]
    constructor
    · rintro ⟨e1, e2, e3⟩
      refine ⟨e1, S, ps, qs, x, ?_, z⟩
      unfold endsD
      rw [e2, e3]
    · rintro ⟨e1, S', ps', qs', x', e, _⟩
      have e := List.cons.inj (PyData.tuple.inj e)
      have e2 := List.cons.inj e.2
      have e3 := List.cons.inj e2.2
      have e4 := List.cons.inj e3.2
      have e5 := List.cons.inj e4.2
      have e6 := List.cons.inj e5.2
      rw [← lineD_inj e2.1, ← planD_inj e3.1, ← planD_inj e4.1, ← PyData.int.inj e5.1] at e6
      have e7 := List.cons.inj (PyData.tuple.inj e6.1)
      exact ⟨e1, (oD_inj e7.1).symm, (oD_inj (List.cons.inj e7.2).1).symm⟩
end
end Sm

/-! The law: the urn and what is drawn. -/
namespace Sm
open PySem PySem.Spec PyProof.Rows L2
/-- the urn's list at U; Hb: the heap without it -/
structure Ur (U : Addr) (Hb H : Hp) : Prop where
  k : Ke Hb H
  nu : Hb U = none
  u : ∃ g m n : Int, H U = some (.lst [.int g, .int m, .int n])
theorem Ur.make {U : Addr} {H0 H : Hp} (k : Ke H0 H) (nu : H0 U = none) (u : ∃ g m n : Int, H U = some (.lst [.int g, .int m, .int n])) : ∃ Hb, Ke H0 Hb ∧ Ur U Hb H ∧ ∀ a o, H a = some o → a ≠ U → Hb a = some o := by
  obtain ⟨Hb, k1, k2, e1, e2⟩ := without (fun a => a = U) k (fun a h => by rw [h]; exact nu) (fun a h => by
    obtain ⟨g, m, n, e⟩ := u
    rw [h]
    exact noCode_lst e)
  exact ⟨Hb, k1, ⟨k2, e1 _ rfl, u⟩, fun a o h n => by rw [e2 a n]; exact h⟩
/-- the urn stays, other things may be new -/
theorem Ur.re {U : Addr} {Hb H H' : Hp} (r : Ur U Hb H) (k : Ke H H') : ∃ Hb', Ke Hb Hb' ∧ Ur U Hb' H' ∧ ∀ a o, H' a = some o → a ≠ U → Hb' a = some o :=
  Ur.make (r.k.trans k) r.nu (let ⟨g, m, n, e⟩ := r.u; ⟨g, m, n, k.lst e⟩)
theorem Ur.ne {U : Addr} {Hb H : Hp} {x : Addr} (r : Ur U Hb H) (h : H x = none) : x ≠ U := fun z => by
  obtain ⟨g, m, n, e⟩ := r.u
  rw [z, e] at h
  cases h
/-- what is new in the heap is new in the base -/
theorem Ur.new {U : Addr} {Hb H : Hp} {x : Addr} {o : HO} (r : Ur U Hb H) (h : H x = none) : ∃ Hb', Ke Hb Hb' ∧ Ur U Hb' (upd H x o) ∧ Hb' x = some o ∧ ∀ a o', (upd H x o) a = some o' → a ≠ U → Hb' a = some o' := by
  obtain ⟨Hb', k, r', st⟩ := r.re (.new (o := o) h)
  exact ⟨Hb', k, r', st x o upd_same (r.ne h), st⟩
theorem joinV {A : Prop} {R : V → Hp → Prop} (G : V → Hp → Prop) (h : (∀ v H, G v H → R v H) → A) (tail : ∀ v H, G v H → R v H) : A := h tail
theorem atI_int {xs : List V} {k : Int} (h0 : 0 ≤ k) (h : k < xs.length) : ∃ x, x ∈ xs ∧ atI xs k = some x := by
  obtain ⟨n, rfl⟩ := Int.eq_ofNat_of_zero_le h0
  have hn : n < xs.length := by omega
  exact ⟨xs[n], List.getElem_mem hn, atI_nat (List.getElem?_eq_getElem hn)⟩
theorem cmul_r {i j : Int} (h : 0 ≤ j ∧ j < 2 ^ 64) : CMul i j := .inr ⟨by omega, h.2⟩
theorem cmul_l {i j : Int} (h : 0 ≤ i ∧ i < 2 ^ 64) : CMul i j := .inl ⟨by omega, h.2⟩
section
variable {P : Program} {w : World} {K : PySem.W.Frag} {mg : Str → Option Value} {base : Heap}
abbrev N_law_urn : List Str := ["_law_script", "_law_k", "_law_mixed", "_law_each", "_law_own"]
theorem sc_law_urn : FnScope N_law_urn ["_law_script", "_law_k"] (defScope s_law_urn) := ⟨rfl, rfl, rfl, by decide +kernel, rfl, by decide +kernel, by decide +kernel⟩
theorem ok_law_urn (T : Tx K mg w) : Okf P w K mg base "_law_urn" ["_law_script", "_law_k"] 1 (sp2 fun s kv H Q => ∃ a, ∃ ns : List Int, ∃ k, s = .ref a ∧ kv = .int k ∧ 0 ≤ k ∧ k < 2 ^ 32 ∧ SqL K H a (ns.map V.int) ∧ ns.length ≤ 63 ∧
    ∀ H' U g m n, H U = none → Ke H H' → H' U = some (.lst [.int g, .int m, .int n]) → Q (.ref U) H') := by
  refine mkF T ix_law_urn rfl T.g_law_urn sc_law_urn (fun _ _ _ _ _ _ us hl => match us, hl with | [_, _], _ => rfl) len2 (fun cdv A outer s0 H0 E vs Q hr h => ?_)
  refine ⟨_, (pss_cons (ps_set (i := 2) sc_law_urn.nd rfl (Or.inl rfl) (pe_op op_add pe_int (pe_op op_mul pe_int (pv 1))))
    (pss_cons (ps_for PassesOwn.never rfl (piL K (pe_slice (slL K) (pv 0) po_none (po_some pe_int))) (pg_name (i := 3) sc_law_urn.nd rfl (Or.inl rfl))
      (pss_one (ps_set (i := 2) sc_law_urn.nd rfl (Or.inl rfl) (pe_op op_mod (pe_callTy call_int1 (by rfl) T.n_int (by decide +kernel) (pa_cons (pe_op op_add (pe_op op_mul (pv 2) pe_int) (pe_callTy call_int1 (by rfl) T.n_int (by decide +kernel) (pa_cons (pv 3) pa_nil))) pa_nil)) pe_int))))
    (pss_cons (ps_set (i := 4) sc_law_urn.nd rfl (Or.inl rfl) (pe_ifExp (pt_cmpR op_lt (pv 1) (pe_callB (lenK K) (by rfl) T.n_len (by decide +kernel) (pa_cons (pv 0) pa_nil)) (nomark _)) (pe_callTy call_int1 (by rfl) T.n_int (by decide +kernel) (pa_cons (pe_ix (ixL K) (pv 0) (pv 1) (fun _ _ => rfl)) pa_nil)) (pv 2)))
    (pss_one (ps_ret (pe_lst (pa_cons (pe_ifExp (pt_cmpR op_ge (pe_callB call_abs (by rfl) T.n_abs (by decide +kernel) (pa_cons (pv 4) pa_nil)) (pe_op op_pow pe_int pe_int) (nomark _)) (pe_callB call_abs (by rfl) T.n_abs (by decide +kernel) (pa_cons (pv 4) pa_nil)) pe_int) (pa_cons (pe_op op_mod (pe_callTy call_int1 (by rfl) T.n_int (by decide +kernel) (pa_cons (pe_op op_add (pe_op op_mul (pv 2) pe_int) (pv 4)) pa_nil)) pe_int) (pa_cons pe_int pa_nil))))))))), ?_⟩
  obtain ⟨_, _, rfl, a, ns, k, rfl, rfl, hk, hk2, hs, hl, q⟩ := h
  refine ⟨_, rfl, 4099, k, rfl, rfl, cmul_l (by decide), _, _, rfl, rfl, ?_⟩
  refine ⟨_, rfl, 6, rfl, a, _, rfl, hs, fun l nl => ?_⟩
  have kl : Ke H0 (upd H0 l (.lst (cutV (ns.map V.int) none (some 6)))) := .new nl
  have hl2 : (upd H0 l (.lst (cutV (ns.map V.int) none (some 6)))) l = some (.lst (cutV (ns.map V.int) none (some 6))) := upd_same
  generalize upd H0 l _ = H1 at kl hl2 ⊢
  have areI : ∀ (i : Nat) (v : V), (cutV (ns.map V.int) none (some 6))[i]? = some v → ∃ n, v = .int n := fun i v h => by
    have h := List.mem_of_mem_drop (List.mem_of_mem_take (List.mem_of_getElem? h))
    obtain ⟨n, _, e⟩ := List.mem_map.mp h
    exact ⟨n, e.symm⟩
  refine ⟨l, rfl, ⟨_, SqL.of hl2⟩, for_list (K := K) (xs := cutV (ns.map V.int) none (some 6)) (fun i σ H => ∃ m st, σ = [some (.ref a), some (.int k), some (.int m), st, none] ∧ H = H1) ⟨_, _, rfl, rfl⟩ (fun i σ H _ p => ?_) (fun i v σ H hi p => ?_) (fun σ H p => ?_)⟩
  · obtain ⟨m, st, rfl, rfl⟩ := p
    exact SqL.of hl2
  · obtain ⟨m, st, rfl, rfl⟩ := p
    obtain ⟨n, rfl⟩ := areI i v hi
    exact ⟨_, rfl, m, 51001, rfl, rfl, cmul_r (by decide), _, rfl, .inl ⟨_, rfl, _, _, rfl, rfl, .inl ⟨_, rfl, _, _, rfl, rfl, by show (0 : Int) < 2147483423; decide, _, _, rfl, rfl⟩⟩⟩
  · obtain ⟨m, st, rfl, rfl⟩ := p
    have hs1 := kl.sql hs
    refine ⟨_, rfl, _, rfl, a, _, rfl, .inl hs1, k, _, rfl, rfl, _, rfl, ?_⟩
    refine ite_dec (fun h1 => ?_) (fun h1 => ?_)
    · obtain ⟨y, hy, e⟩ := atI_int hk h1
      obtain ⟨own, _, rfl⟩ := List.mem_map.mp hy
      refine ⟨_, rfl, _, rfl, a, _, k, _, rfl, rfl, hs1, e, .inl ⟨own, rfl, ?_⟩⟩
      refine ⟨_, rfl, own, rfl, 10, 18, rfl, rfl, ⟨by decide, by decide, by decide⟩, _, _, rfl, rfl, _, rfl, ?_⟩
      refine ite_dec (fun h1 => ?_) (fun h1 => ?_)
      · refine ⟨_, rfl, own, rfl, ?_⟩
        refine ⟨_, rfl, m, 44017, rfl, rfl, cmul_r (by decide), _, rfl, _, _, rfl, rfl, .inl ⟨_, rfl, _, _, rfl, rfl, by show (0 : Int) < 2147483423; decide, by show 3 ≤ sizeLine; decide, fun U nU => ?_⟩⟩
        exact q _ U _ _ _ (kl.free nU) (kl.trans (.new nU)) upd_same
      · have _ := h1
        refine ⟨_, rfl, m, 44017, rfl, rfl, cmul_r (by decide), _, rfl, _, _, rfl, rfl, .inl ⟨_, rfl, _, _, rfl, rfl, by show (0 : Int) < 2147483423; decide, by show 3 ≤ sizeLine; decide, fun U nU => ?_⟩⟩
        exact q _ U _ _ _ (kl.free nU) (kl.trans (.new nU)) upd_same
    · refine ⟨_, rfl, ?_⟩
      refine ⟨_, rfl, m, rfl, 10, 18, rfl, rfl, ⟨by decide, by decide, by decide⟩, _, _, rfl, rfl, _, rfl, ?_⟩
      refine ite_dec (fun h1 => ?_) (fun h1 => ?_)
      · refine ⟨_, rfl, m, rfl, ?_⟩
        refine ⟨_, rfl, m, 44017, rfl, rfl, cmul_r (by decide), _, rfl, _, _, rfl, rfl, .inl ⟨_, rfl, _, _, rfl, rfl, by show (0 : Int) < 2147483423; decide, by show 3 ≤ sizeLine; decide, fun U nU => ?_⟩⟩
        exact q _ U _ _ _ (kl.free nU) (kl.trans (.new nU)) upd_same
      · have _ := h1
        refine ⟨_, rfl, m, 44017, rfl, rfl, cmul_r (by decide), _, rfl, _, _, rfl, rfl, .inl ⟨_, rfl, _, _, rfl, rfl, by show (0 : Int) < 2147483423; decide, by show 3 ≤ sizeLine; decide, fun U nU => ?_⟩⟩
        exact q _ U _ _ _ (kl.free nU) (kl.trans (.new nU)) upd_same
abbrev N_law_dip : List Str := ["_law_urn_here", "_law_many", "_law_state", "_law_factor", "_law_digit"]
theorem sc_law_dip : FnScope N_law_dip ["_law_urn_here", "_law_many"] (defScope s_law_dip) := ⟨rfl, rfl, rfl, by decide +kernel, rfl, by decide +kernel, by decide +kernel⟩
theorem ok_law_dip (T : Tx K mg w) : Okf P w K mg base "_law_dip" ["_law_urn_here", "_law_many"] 1 (sp2 fun uv mv H Q => ∃ U Hb n, uv = .ref U ∧ mv = .int n ∧ 1 ≤ n ∧ n < 1000000 ∧ Ur U Hb H ∧
    ∀ Hb' H' r, Ke Hb Hb' → Ur U Hb' H' → 0 ≤ r → r < n → Q (.int r) H') := by
  refine mkF T ix_law_dip rfl T.g_law_dip sc_law_dip (fun _ _ _ _ _ _ us hl => match us, hl with | [_, _], _ => rfl) len2 (fun cdv A outer s0 H0 E vs Q hr h => ?_)
  refine ⟨_, (pss_cons (ps_asg (pe_op op_add (pe_ix (ixL K) (pv 0) pe_int (fun _ _ => rfl)) pe_int) (pg_sub (pv 0) pe_int set_list))
    (pss_cons (ps_if (pt_cmpR op_gt (pe_ix (ixL K) (pv 0) pe_int (fun _ _ => rfl)) pe_int (nomark _))
      (pss_cons (ps_asg (pe_callB call_divmodW (by rfl) T.n_divmod (by decide +kernel) (pa_cons (pe_ix (ixL K) (pv 0) pe_int (fun _ _ => rfl)) (pa_cons (pv 1) pa_nil))) (pg_tup (by rfl) (pgs_cons (pg_sub (pv 0) pe_int set_list) (pgs_cons (pg_name (i := 4) sc_law_dip.nd rfl (Or.inl rfl)) pgs_nil))))
    (pss_one (ps_ret (pv 4))))
      pss_nil)
    (pss_cons (ps_set (i := 2) sc_law_dip.nd rfl (Or.inl rfl) (pe_callTy call_int1 (by rfl) T.n_int (by decide +kernel) (pa_cons (pe_ix (ixL K) (pv 0) pe_int (fun _ _ => rfl)) pa_nil)))
    (pss_cons (ps_set (i := 3) sc_law_dip.nd rfl (Or.inl rfl) (pe_op op_add pe_int (pe_op op_mul pe_int (pe_op op_mod (pe_callTy call_int1 (by rfl) T.n_int (by decide +kernel) (pa_cons (pv 2) pa_nil)) pe_int))))
    (pss_cons (ps_asg (pe_op op_mod (pe_callTy call_int1 (by rfl) T.n_int (by decide +kernel) (pa_cons (pe_op op_add (pe_op op_add (pe_op op_mul (pv 2) (pv 3)) (pe_op op_mul pe_int (pe_ix (ixL K) (pv 0) pe_int (fun _ _ => rfl)))) pe_int) pa_nil)) pe_int) (pg_sub (pv 0) pe_int set_list))
    (pss_one (ps_ret (pe_op op_mod (pe_callTy call_int1 (by rfl) T.n_int (by decide +kernel) (pa_cons (pe_op op_fdiv (pe_ix (ixL K) (pv 0) pe_int (fun _ _ => rfl)) pe_int) pa_nil)) (pv 1))))))))), ?_⟩
  obtain ⟨_, _, rfl, U, Hb, n, rfl, rfl, hn, hn2, ur, q⟩ := h
  obtain ⟨g, m, d, hu⟩ := ur.u
  refine ⟨_, rfl, U, _, 2, _, rfl, rfl, SqL.of hu, atI2, _, _, rfl, rfl, _, rfl, U, _, 2, 2, rfl, rfl, hu, (show ixN 3 2 = some 2 from rfl), ?_⟩
  have k1 := ur.k.mut (o := .lst ([V.int g, .int m, .int d].set 2 (.int (d + 1)))) ur.nu (noCode_lst hu)
  have hu1 : (upd H0 U (.lst ([V.int g, .int m, .int d].set 2 (.int (d + 1))))) U = some (.lst [.int g, .int m, .int (d + 1)]) := upd_same
  generalize upd H0 U _ = H1 at k1 hu1 ⊢
  refine ⟨_, rfl, U, _, 0, _, rfl, rfl, SqL.of hu1, atI0, _, _, rfl, rfl, _, rfl, ?_⟩
  refine ite_dec (fun h1 => ?_) (fun h1 => ?_)
  · refine ⟨_, rfl, U, _, 0, _, rfl, rfl, SqL.of hu1, atI0, _, rfl, g, n, rfl, ⟨by omega, PyProof.noPylong_small (by omega)⟩, fun t nt => ?_⟩
    have k2 : Ke H1 (upd H1 t (.tup [.int (g / n), .int (g % n)])) := .new nt
    have ht : (upd H1 t (.tup [.int (g / n), .int (g % n)])) t = some (.tup [.int (g / n), .int (g % n)]) := upd_same
    generalize upd H1 t _ = H2 at k2 ht ⊢
    have hu2 := k2.lst hu1
    refine ⟨t, _, rfl, SqT.of ht, rfl, _, _, rfl, _, rfl, U, _, 0, 0, rfl, rfl, hu2, ix0, _, _, rfl, rfl, ?_⟩
    have k3 := (k1.trans k2).mut (o := .lst ([V.int g, .int m, .int (d + 1)].set 0 (.int (g / n)))) ur.nu (noCode_lst hu2)
    obtain ⟨Hb', kb, ur', _⟩ := Ur.make k3 ur.nu ⟨g / n, m, d + 1, upd_same⟩
    exact ⟨_, rfl, q Hb' _ _ kb ur' (Int.emod_nonneg _ (by omega)) (Int.emod_lt_of_pos _ (by omega))⟩
  · refine ⟨_, rfl, U, _, 1, _, rfl, rfl, SqL.of hu1, atI1, .inl ⟨_, rfl, ?_⟩⟩
    refine ⟨_, rfl, .inl ⟨_, rfl, _, _, rfl, rfl, by show (0 : Int) < 9001; decide, 2, _, rfl, rfl, cmul_l (by decide), _, _, rfl, rfl, ?_⟩⟩
    have f1 : 0 ≤ 40111 + 2 * (m % 9001) ∧ 40111 + 2 * (m % 9001) < 2 ^ 64 := by
      have := Int.emod_nonneg m (show (9001 : Int) ≠ 0 by decide)
      have := Int.emod_lt_of_pos m (show (0 : Int) < 9001 by decide)
      omega
    refine ⟨_, rfl, _, rfl, m, _, rfl, rfl, cmul_r f1, _, rfl, U, _, 2, _, rfl, rfl, SqL.of hu1, atI2, 911, _, rfl, rfl, cmul_l (by decide), _, _, rfl, rfl, _, _, rfl, rfl, .inl ⟨_, rfl, _, _, rfl, rfl, by show (0 : Int) < 2147483423; decide, _, rfl, U, _, 1, 1, rfl, rfl, hu1, (show ixN 3 1 = some 1 from rfl), ?_⟩⟩
    obtain ⟨mm, hmm⟩ : ∃ mm, mm = (m * (40111 + 2 * (m % 9001)) + 911 * (d + 1) + 17) % 2147483423 := ⟨_, rfl⟩
    have k3 := k1.mut (o := .lst ([V.int g, .int m, .int (d + 1)].set 1 (.int mm))) ur.nu (noCode_lst hu1)
    obtain ⟨Hb', kb, ur', _⟩ := Ur.make (H := upd H1 U (.lst ([V.int g, .int m, .int (d + 1)].set 1 (.int mm)))) k3 ur.nu ⟨g, mm, d + 1, upd_same⟩
    have hu3 : (upd H1 U (.lst ([V.int g, .int m, .int (d + 1)].set 1 (.int mm)))) U = some (.lst [.int g, .int mm, .int (d + 1)]) := upd_same
    rw [hmm] at ur' hu3
    exact ⟨_, rfl, U, _, 1, _, rfl, rfl, SqL.of hu3, atI1, _, 97, rfl, rfl, ⟨by decide, by decide⟩, .inl ⟨_, rfl, _, rfl, _, _, rfl, rfl, by show 0 < n; omega, q Hb' _ _ kb ur' (Int.emod_nonneg _ (by omega)) (Int.emod_lt_of_pos _ (by omega))⟩⟩
abbrev N_law_one : List Str := ["_law_urn_here", "_law_some"]
theorem sc_law_one : FnScope N_law_one ["_law_urn_here", "_law_some"] (defScope s_law_one) := ⟨rfl, rfl, rfl, by decide +kernel, rfl, by decide +kernel, by decide +kernel⟩
theorem ok_law_one (T : Tx K mg w) : Okf P w K mg base "_law_one" ["_law_urn_here", "_law_some"] 2 (sp2 fun uv sv H Q => ∃ U Hb l xs, uv = .ref U ∧ sv = .ref l ∧ Ur U Hb H ∧ Hb l = some (.lst xs) ∧ 1 ≤ xs.length ∧ xs.length < 1000 ∧
    ∀ Hb' H' x, Ke Hb Hb' → Ur U Hb' H' → x ∈ xs → Q x H') := by
  have O_law_dip := ok_law_dip (P := P) (w := w) (base := base) T
  refine mkF T ix_law_one rfl T.g_law_one sc_law_one (fun _ _ _ _ _ _ us hl => match us, hl with | [_, _], _ => rfl) len2 (fun cdv A outer s0 H0 E vs Q hr h => ?_)
  refine ⟨_, (pss_one (ps_ret (pe_ix (ixL K) (pv 1) (pe_f O_law_dip (hr.mono (by decide)) (by rfl) (pa_cons (pv 0) (pa_cons (pe_callB (lenK K) (by rfl) T.n_len (by decide +kernel) (pa_cons (pv 1) pa_nil)) pa_nil))) (fun _ _ => rfl)))), ?_⟩
  obtain ⟨_, _, rfl, U, Hb, l, xs, rfl, rfl, ur, hx, h1, h2, q⟩ := h
  refine ⟨_, rfl, _, rfl, _, rfl, l, _, rfl, .inl (SqL.of (ur.k.lst hx)), _, _, rfl, U, Hb, _, rfl, rfl, by omega, by omega, ur, fun Hb' H' r kb ur' r0 r1 => ?_⟩
  obtain ⟨x, hxm, e⟩ := atI_int (xs := xs) r0 r1
  exact ⟨l, _, r, _, rfl, rfl, SqL.of (ur'.k.lst (kb.lst hx)), e, q Hb' H' _ kb ur' hxm⟩
end
end Sm

/-! The law: drawn lines and programs. -/
namespace Sm
open PySem PySem.Spec PyProof.Rows L2
section
variable {P : Program} {w : World} {K : PySem.W.Frag} {mg : Str → Option Value} {base : Heap}
abbrev N_law_ways : List Str := ["_law_urn_here", "_law_word"]
theorem sc_law_ways : FnScope N_law_ways ["_law_urn_here"] (defScope s_law_ways) := ⟨rfl, rfl, rfl, by decide +kernel, rfl, by decide +kernel, by decide +kernel⟩
theorem ok_law_ways (T : Tx K mg w) : Okf P w K mg base "_law_ways" ["_law_urn_here"] 3 (sp1 fun uv H Q => ∃ U Hb, uv = .ref U ∧ Ur U Hb H ∧
    ∀ Hb' H' v r e y, Ke Hb Hb' → Ur U Hb' H' → Dq K Hb' v (wayD r e y) → (1 ≤ e ∧ e ≤ 4) → (0 ≤ y ∧ y ≤ 200) → Q v H') := by
  have O_law_dip := ok_law_dip (P := P) (w := w) (base := base) T
  have O_law_one := ok_law_one (P := P) (w := w) (base := base) T
  refine mkF T ix_law_ways rfl T.g_law_ways sc_law_ways (fun _ _ _ _ _ _ us hl => match us, hl with | [_], _ => rfl) len1 (fun cdv A outer s0 H0 E vs Q hr h => ?_)
  refine ⟨_, (pss_cons (ps_set (i := 1) sc_law_ways.nd rfl (Or.inl rfl) (pe_f O_law_one (hr.mono (by decide)) (by rfl) (pa_cons (pv 0) (pa_cons (pe_lst (pa_cons pe_str (pa_cons pe_str (pa_cons pe_str (pa_cons pe_str pa_nil))))) pa_nil))))
    (pss_one (ps_ret (pe_tup (pa_cons (pv 1) (pa_cons (pe_op op_add pe_int (pe_f O_law_dip (hr.mono (by decide)) (by rfl) (pa_cons (pv 0) (pa_cons pe_int pa_nil)))) (pa_cons (pe_f O_law_one (hr.mono (by decide)) (by rfl) (pa_cons (pv 0) (pa_cons (pe_lst (pa_cons pe_int (pa_cons pe_int (pa_cons pe_int (pa_cons pe_int (pa_cons (pe_f O_law_dip (hr.mono (by decide)) (by rfl) (pa_cons (pv 0) (pa_cons pe_int pa_nil))) pa_nil)))))) pa_nil))) pa_nil))))))), ?_⟩
  obtain ⟨_, rfl, U, Hb, rfl, ur, q⟩ := h
  refine ⟨_, rfl, by show 4 ≤ sizeLine; decide, fun l nl => ?_⟩
  obtain ⟨Hb1, kb1, ur1, hl1, _⟩ := ur.new (o := .lst [.str "plain", .str "hold", .str "few", .str "hold"]) nl
  refine ⟨_, _, rfl, U, Hb1, l, _, rfl, rfl, ur1, hl1, by decide, by decide, fun Hb2 H2 x kb2 ur2 hx => ?_⟩
  have hr : ∃ r : Ru, x = .str (ruS r) := by
    simp only [List.mem_cons, List.not_mem_nil, or_false] at hx
    rcases hx with rfl | rfl | rfl | rfl
    · exact ⟨.plain, rfl⟩
    · exact ⟨.hold, rfl⟩
    · exact ⟨.few, rfl⟩
    · exact ⟨.hold, rfl⟩
  obtain ⟨r, rfl⟩ := hr
  refine ⟨_, rfl, _, rfl, _, _, rfl, U, Hb2, 4, rfl, rfl, by decide, by decide, ur2, fun Hb3 H3 e kb3 ur3 e0 e1 => ?_⟩
  refine ⟨_, _, rfl, rfl, _, rfl, _, rfl, _, _, rfl, U, Hb3, 40, rfl, rfl, by decide, by decide, ur3, fun Hb4 H4 y kb4 ur4 y0 y1 => ?_⟩
  refine ⟨by show 5 ≤ sizeLine; decide, fun l2 nl2 => ?_⟩
  obtain ⟨Hb5, kb5, ur5, hl5, _⟩ := ur4.new (o := .lst [.int 0, .int 1, .int 4, .int 20, .int y]) nl2
  refine ⟨_, _, rfl, U, Hb5, l2, _, rfl, rfl, ur5, hl5, by simp, by simp, fun Hb6 H6 z kb6 ur6 hz => ?_⟩
  have hz2 : ∃ n, z = .int n ∧ 0 ≤ n ∧ n ≤ 200 := by
    simp only [List.mem_cons, List.not_mem_nil, or_false] at hz
    rcases hz with rfl | rfl | rfl | rfl | rfl
    · exact ⟨0, rfl, by decide, by decide⟩
    · exact ⟨1, rfl, by decide, by decide⟩
    · exact ⟨4, rfl, by decide, by decide⟩
    · exact ⟨20, rfl, by decide, by decide⟩
    · exact ⟨y, rfl, by omega, by omega⟩
  obtain ⟨n, rfl, n0, n1⟩ := hz2
  refine ⟨by show 3 ≤ sizeLine; decide, fun t nt => ?_⟩
  obtain ⟨Hb7, kb7, ur7, ht7, _⟩ := ur6.new (o := .tup [.str (ruS r), .int (1 + e), .int n]) nt
  exact q Hb7 _ _ r (1 + e) n (kb1.trans (kb2.trans (kb3.trans (kb4.trans (kb5.trans (kb6.trans kb7)))))) ur7 (.tup (SqT.of ht7) (.cons (.str _) (.cons (.int _) (.cons (.int _) .nil)))) ⟨by omega, by omega⟩ ⟨n0, n1⟩
abbrev N_law_told : List Str := ["_law_urn_here", "_law_big", "_law_far_off"]
theorem sc_law_told : FnScope N_law_told ["_law_urn_here"] (defScope s_law_told) := ⟨rfl, rfl, rfl, by decide +kernel, rfl, by decide +kernel, by decide +kernel⟩
theorem ok_law_told (T : Tx K mg w) : Okf P w K mg base "_law_told" ["_law_urn_here"] 4 (sp1 fun uv H Q => ∃ U Hb, uv = .ref U ∧ Ur U Hb H ∧
    ∀ Hb' H' v S, Ke Hb Hb' → Ur U Hb' H' → Dq K Hb' v (lineD S) → Bd S → Q v H') := by
  have O_law_dip := ok_law_dip (P := P) (w := w) (base := base) T
  have O_law_one := ok_law_one (P := P) (w := w) (base := base) T
  have O_law_ways := ok_law_ways (P := P) (w := w) (base := base) T
  refine mkF T ix_law_told rfl T.g_law_told sc_law_told (fun _ _ _ _ _ _ us hl => match us, hl with | [_], _ => rfl) len1 (fun cdv A outer s0 H0 E vs Q hr h => ?_)
  refine ⟨_, (pss_cons (ps_par (i := 1) (j := 2) (by rfl) sc_law_told.nd rfl rfl (by decide) rfl rfl (pa_cons (pe_f O_law_one (hr.mono (by decide)) (by rfl) (pa_cons (pv 0) (pa_cons (pe_lst (pa_cons pe_int (pa_cons pe_int (pa_cons pe_int (pa_cons pe_int (pa_cons pe_int (pa_cons pe_int pa_nil))))))) pa_nil))) (pa_cons (pe_op op_add pe_int (pe_f O_law_dip (hr.mono (by decide)) (by rfl) (pa_cons (pv 0) (pa_cons (pe_f O_law_one (hr.mono (by decide)) (by rfl) (pa_cons (pv 0) (pa_cons (pe_lst (pa_cons pe_int (pa_cons pe_int pa_nil))) pa_nil))) pa_nil)))) pa_nil)) (by rfl))
    (pss_one (ps_ret (pe_tup (pa_cons (pv 1) (pa_cons (pv 2) (pa_cons (pe_f O_law_ways (hr.mono (by decide)) (by rfl) (pa_cons (pv 0) pa_nil)) (pa_cons (pe_f O_law_ways (hr.mono (by decide)) (by rfl) (pa_cons (pv 0) pa_nil)) pa_nil)))))))), ?_⟩
  obtain ⟨_, rfl, U, Hb, rfl, ur, q⟩ := h
  refine ⟨_, rfl, by show 6 ≤ sizeLine; decide, fun l nl => ?_⟩
  obtain ⟨Hb1, kb1, ur1, hl1, _⟩ := ur.new (o := .lst [.int 1, .int 2, .int 3, .int 4, .int 5, .int 10]) nl
  refine ⟨_, _, rfl, U, Hb1, l, _, rfl, rfl, ur1, hl1, by decide, by decide, fun Hb2 H2 x kb2 ur2 hx => ?_⟩
  have hx2 : ∃ n, x = .int n ∧ 1 ≤ n ∧ n ≤ 40 := by
    simp only [List.mem_cons, List.not_mem_nil, or_false] at hx
    rcases hx with rfl | rfl | rfl | rfl | rfl | rfl
    · exact ⟨1, rfl, by decide, by decide⟩
    · exact ⟨2, rfl, by decide, by decide⟩
    · exact ⟨3, rfl, by decide, by decide⟩
    · exact ⟨4, rfl, by decide, by decide⟩
    · exact ⟨5, rfl, by decide, by decide⟩
    · exact ⟨10, rfl, by decide, by decide⟩
  obtain ⟨s, rfl, s0', s1⟩ := hx2
  refine ⟨_, rfl, _, rfl, by show 2 ≤ sizeLine; decide, fun l2 nl2 => ?_⟩
  obtain ⟨Hb3, kb3, ur3, hl3, _⟩ := ur2.new (o := .lst [.int 3, .int 12]) nl2
  refine ⟨_, _, rfl, U, Hb3, l2, _, rfl, rfl, ur3, hl3, by decide, by decide, fun Hb4 H4 x kb4 ur4 hx => ?_⟩
  have hx2 : ∃ n, x = .int n ∧ 1 ≤ n ∧ n ≤ 12 := by
    simp only [List.mem_cons, List.not_mem_nil, or_false] at hx
    rcases hx with rfl | rfl
    · exact ⟨3, rfl, by decide, by decide⟩
    · exact ⟨12, rfl, by decide, by decide⟩
  obtain ⟨m, rfl, m0, m1⟩ := hx2
  refine ⟨_, _, rfl, U, Hb4, m, rfl, rfl, m0, by omega, ur4, fun Hb5 H5 y kb5 ur5 y0 y1 => ?_⟩
  refine ⟨_, _, rfl, rfl, _, _, rfl, ?_⟩
  refine ⟨_, rfl, _, rfl, _, rfl, _, rfl, U, Hb5, rfl, ur5, fun Hb6 H6 v1 r1 e1 d1 kb6 ur6 hv1 b1 b2 => ?_⟩
  refine ⟨_, rfl, _, rfl, U, Hb6, rfl, ur6, fun Hb7 H7 v2 r2 e2 d2 kb7 ur7 hv2 b3 b4 => ?_⟩
  refine ⟨by show 4 ≤ sizeLine; decide, fun t nt => ?_⟩
  obtain ⟨Hb8, kb8, ur8, ht8, _⟩ := ur7.new (o := .tup [.int s, .int (1 + y), v1, v2]) nt
  refine q Hb8 _ _ ⟨s, 1 + y, fun k => if k = true then r2 else r1, fun k => if k = true then e2 else e1, fun k => if k = true then d2 else d1⟩ (kb1.trans (kb2.trans (kb3.trans (kb4.trans (kb5.trans (kb6.trans (kb7.trans kb8))))))) ur8
    (.tup (SqT.of ht8) (.cons (.int _) (.cons (.int _) (.cons (hv1.ke (kb7.trans kb8)) (.cons (hv2.ke kb8) .nil))))) ⟨⟨s0', s1⟩, ⟨by show 1 ≤ 1 + y; omega, by show 1 + y ≤ 200; omega⟩, fun k => by cases k; exact b1; exact b3, fun k => by cases k; exact b2; exact b4⟩
def stepVs : Ps → List V
  | .io b n => [.str (Ps.word (.io b n)), amtV n]
  | .pz a b => [.str "pause", .int a, .int b]
def StepV (H : Hp) (vs : List V) (ps : List Ps) : Prop := Paired (fun v p => ∃ a, v = V.ref a ∧ H a = some (.tup (stepVs p))) vs ps
theorem StepV.dq {H : Hp} {vs : List V} {ps : List Ps} (h : StepV H vs ps) : DqAll K H vs (ps.map Ps.d) := by
  induction h with
  | nil => exact .nil
  | @cons v p _ _ h1 _ ih =>
    obtain ⟨a, rfl, ha⟩ := h1
    refine .cons ?_ ih
    cases p with
    | io b n => cases n with
      | none => exact .tup (SqT.of ha) (.cons (.str _) (.cons (.str _) .nil))
      | some m => exact .tup (SqT.of ha) (.cons (.str _) (.cons (.int _) .nil))
    | pz i j => exact .tup (SqT.of ha) (.cons (.str _) (.cons (.int _) (.cons (.int _) .nil)))
theorem StepV.up {H H' : Hp} {vs : List V} {ps : List Ps} (h : StepV H vs ps) (t : Tk H H') : StepV H' vs ps := Paired.mapP h fun _ _ ⟨a, e, q⟩ => ⟨a, e, t _ _ q⟩
/-- two programs being drawn -/
structure PlS (U : Addr) (HbS Hb H : Hp) (tp : Addr) (pp : Bool → Addr) (xs : Bool → List V) (pl : Bool → List Ps) : Prop where
  kS : Ke HbS Hb
  ur : Ur U Hb H
  tpH : Hb tp = some (.tup (two2 fun k => .ref (pp k)))
  ls : ∀ k, Hb (pp k) = some (.lst (xs k))
  st : ∀ k, StepV Hb (xs k) (pl k)
  ok : ∀ k, ∀ p ∈ pl k, p.ok
  nS : ∀ k, HbS (pp k) = none
  ne : ∀ k, pp k ≠ pp (!k)
theorem PlS.ke {U tp : Addr} {HbS Hb H Hb' H' : Hp} {pp : Bool → Addr} {xs : Bool → List V} {pl : Bool → List Ps} (p : PlS U HbS Hb H tp pp xs pl) (k : Ke Hb Hb') (r : Ur U Hb' H') : PlS U HbS Hb' H' tp pp xs pl :=
  ⟨p.kS.trans k, r, k.tup p.tpH, fun j => k.lst (p.ls j), fun j => (p.st j).up k.tk, p.ok, p.nS, p.ne⟩
theorem PlS.app {U tp t : Addr} {HbS Hb H : Hp} {pp : Bool → Addr} {xs : Bool → List V} {pl : Bool → List Ps} {q : Ps} (p : PlS U HbS Hb H tp pp xs pl) (k : Bool) (nu : HbS U = none) (ht : Hb t = some (.tup (stepVs q))) (hq : q.ok) :
    ∃ Hb', PlS U HbS Hb' (upd H (pp k) (.lst (xs k ++ [.ref t]))) tp pp (setB xs k (xs k ++ [.ref t])) (setB pl k (pl k ++ [q])) := by
  have h1 := p.ur.k.lst (p.ls k)
  have kH := (p.kS.trans p.ur.k).mut (o := .lst (xs k ++ [.ref t])) (p.nS k) (noCode_lst h1)
  obtain ⟨g, m, n, hu⟩ := p.ur.u
  have neU : ∀ a o, Hb a = some o → a ≠ U := fun a o h z => by rw [z, p.ur.nu] at h; cases h
  obtain ⟨Hb', kb, ur', st⟩ := Ur.make (U := U) kH nu ⟨g, m, n, by rw [upd_ne (fun z => neU _ _ (p.ls k) z.symm)]; exact hu⟩
  have tk : Tk Hb Hb' := fun a ys h => st a _ (by rw [upd_ne (fun z => by rw [z, p.ls k] at h; cases h)]; exact p.ur.k.tup h) (neU _ _ h)
  refine ⟨Hb', kb, ur', tk _ _ p.tpH, fun j => ?_, fun j => ?_, fun j => ?_, p.nS, p.ne⟩
  · rcases Sm.two k j with rfl | rfl
    · rw [setB_same]; exact st _ _ upd_same (neU _ _ (p.ls _))
    · rw [setB_other]; exact st _ _ (by rw [upd_ne (fun z => p.ne k z.symm)]; exact p.ur.k.lst (p.ls _)) (neU _ _ (p.ls _))
  · rcases Sm.two k j with rfl | rfl
    · rw [setB_same, setB_same]; exact psnoc ((p.st _).up tk) ⟨t, rfl, tk _ _ ht⟩
    · rw [setB_other, setB_other]; exact (p.st _).up tk
  · rcases Sm.two k j with rfl | rfl
    · rw [setB_same]
      intro y hy
      rcases List.mem_append.mp hy with hy | hy
      · exact p.ok _ y hy
      · rw [List.mem_singleton.mp hy]; exact hq
    · rw [setB_other]; exact p.ok _
theorem kI_of {r : Int} (h0 : 0 ≤ r) (h1 : r < 2) : ∃ k, r = kI k := by
  by_cases h : r = 0
  · exact ⟨false, h⟩
  · exact ⟨true, by show r = 1; omega⟩
def menuV : List V := [.int 1, .int 2, .int 3, .int 7, .int 12, .str "x"]
theorem menu_amt {x : V} (h : x ∈ menuV) : ∃ n, x = amtV n ∧ ∀ b, (Ps.io b n).ok := by
  unfold menuV at h
  simp only [List.mem_cons, List.not_mem_nil, or_false] at h
  rcases h with rfl | rfl | rfl | rfl | rfl | rfl
  · exact ⟨some 1, rfl, fun _ => ⟨by decide, by decide⟩⟩
  · exact ⟨some 2, rfl, fun _ => ⟨by decide, by decide⟩⟩
  · exact ⟨some 3, rfl, fun _ => ⟨by decide, by decide⟩⟩
  · exact ⟨some 7, rfl, fun _ => ⟨by decide, by decide⟩⟩
  · exact ⟨some 12, rfl, fun _ => ⟨by decide, by decide⟩⟩
  · exact ⟨none, rfl, fun _ => trivial⟩
abbrev N_law_plans : List Str := ["_law_urn_here", "_law_menu", "_law_plans_here", "_law_turn", "_law_k", "_law_many", "_law_least_here"]
theorem sc_law_plans : FnScope N_law_plans ["_law_urn_here", "_law_menu"] (defScope s_law_plans) := ⟨rfl, rfl, rfl, by decide +kernel, rfl, by decide +kernel, by decide +kernel⟩
theorem ok_law_plans (T : Tx K mg w) : Okf P w K mg base "_law_plans" ["_law_urn_here", "_law_menu"] 3 (sp2 fun uv mv H Q => ∃ U Hb m, uv = .ref U ∧ mv = .ref m ∧ Ur U Hb H ∧ Hb m = some (.lst menuV) ∧
    ∀ Hb' H' t v1 v2 ps qs, Ke Hb Hb' → Ur U Hb' H' → Hb' t = some (.tup [v1, v2]) → Dq K Hb' v1 (planD ps) → Dq K Hb' v2 (planD qs) → ps.length ≤ 6 → qs.length ≤ 6 → (∀ p ∈ ps, p.ok) → (∀ p ∈ qs, p.ok) → Q (.ref t) H') := by
  have O_law_dip := ok_law_dip (P := P) (w := w) (base := base) T
  have O_law_one := ok_law_one (P := P) (w := w) (base := base) T
  refine mkF T ix_law_plans rfl T.g_law_plans sc_law_plans (fun _ _ _ _ _ _ us hl => match us, hl with | [_, _], _ => rfl) len2 (fun cdv A outer s0 H0 E vs Q hr h => ?_)
  refine ⟨_, (pss_cons (ps_set (i := 2) sc_law_plans.nd rfl (Or.inl rfl) (pe_tup (pa_cons (pe_lst pa_nil) (pa_cons (pe_lst pa_nil) pa_nil))))
    (pss_cons (ps_for PassesOwn.never rfl (pi_range1 (by rfl) T.n_range (pa_cons (pe_op op_add pe_int (pe_f O_law_dip (hr.mono (by decide)) (by rfl) (pa_cons (pv 0) (pa_cons pe_int pa_nil)))) pa_nil)) (pg_name (i := 3) sc_law_plans.nd rfl (Or.inl rfl))
      (pss_cons (ps_par (i := 4) (j := 5) (by rfl) sc_law_plans.nd rfl rfl (by decide) rfl rfl (pa_cons (pe_f O_law_dip (hr.mono (by decide)) (by rfl) (pa_cons (pv 0) (pa_cons pe_int pa_nil))) (pa_cons (pe_f O_law_one (hr.mono (by decide)) (by rfl) (pa_cons (pv 0) (pa_cons (pv 1) pa_nil))) pa_nil)) (by rfl))
    (pss_cons (ps_expr (pe_bm PySem.F.plainAttrs_list PySem.F.slot_list_append PySem.F.type_list_append mt_append (pe_ix (ixT K) (pv 2) (pv 4) (fun _ _ => rfl)) (pa_cons (pe_tup (pa_cons pe_str (pa_cons (pv 5) pa_nil))) pa_nil)))
    (pss_cons (ps_if (pt_cmpR op_gt (pe_f O_law_dip (hr.mono (by decide)) (by rfl) (pa_cons (pv 0) (pa_cons pe_int pa_nil))) pe_int (nomark _))
      (pss_one (ps_expr (pe_bm PySem.F.plainAttrs_list PySem.F.slot_list_append PySem.F.type_list_append mt_append (pe_ix (ixT K) (pv 2) (pe_op op_sub pe_int (pv 4)) (fun _ _ => rfl)) (pa_cons (pe_tup (pa_cons pe_str (pa_cons (pe_f O_law_one (hr.mono (by decide)) (by rfl) (pa_cons (pv 0) (pa_cons (pe_lst (pa_cons (pv 5) (pa_cons (pv 5) (pa_cons (pv 5) (pa_cons (pe_f O_law_one (hr.mono (by decide)) (by rfl) (pa_cons (pv 0) (pa_cons (pv 1) pa_nil))) pa_nil))))) pa_nil))) pa_nil))) pa_nil))))
      pss_nil)
    (pss_one (ps_if (pt_cmpR op_eq (pe_f O_law_dip (hr.mono (by decide)) (by rfl) (pa_cons (pv 0) (pa_cons pe_int pa_nil))) pe_int (nomark _))
      (pss_cons (ps_set (i := 6) sc_law_plans.nd rfl (Or.inl rfl) (pe_f O_law_dip (hr.mono (by decide)) (by rfl) (pa_cons (pv 0) (pa_cons pe_int pa_nil))))
    (pss_one (ps_expr (pe_bm PySem.F.plainAttrs_list PySem.F.slot_list_append PySem.F.type_list_append mt_append (pe_ix (ixT K) (pv 2) (pe_f O_law_dip (hr.mono (by decide)) (by rfl) (pa_cons (pv 0) (pa_cons pe_int pa_nil))) (fun _ _ => rfl)) (pa_cons (pe_tup (pa_cons pe_str (pa_cons (pv 6) (pa_cons (pe_op op_add (pv 6) (pe_f O_law_dip (hr.mono (by decide)) (by rfl) (pa_cons (pv 0) (pa_cons pe_int pa_nil)))) pa_nil)))) pa_nil)))))
      pss_nil))))))
    (pss_one (ps_ret (pe_tup (pa_cons (pe_callTy call_tuple_of (by rfl) T.n_tuple (by decide +kernel) (pa_cons (pe_slice (slL K) (pe_ix (ixT K) (pv 2) pe_int (fun _ _ => rfl)) po_none (po_some pe_int)) pa_nil)) (pa_cons (pe_callTy call_tuple_of (by rfl) T.n_tuple (by decide +kernel) (pa_cons (pe_slice (slL K) (pe_ix (ixT K) (pv 2) pe_int (fun _ _ => rfl)) po_none (po_some pe_int)) pa_nil)) pa_nil))))))), ?_⟩
  obtain ⟨_, _, rfl, U, HbS, m, rfl, rfl, ur, hm, q⟩ := h
  have nu := ur.nu
  refine ⟨Nat.zero_le _, fun p0 n0 => ⟨Nat.zero_le _, fun p1 n1 => ⟨by show 2 ≤ sizeLine; decide, fun tp ntp => ?_⟩⟩⟩
  obtain ⟨Hb1, kb1, ur1, h0, _⟩ := ur.new (o := .lst []) n0
  have np0 : HbS p0 = none := ur.k.free n0
  generalize upd H0 p0 _ = H1 at n1 ntp ur1 ⊢
  obtain ⟨Hb2, kb2, ur2, h1, _⟩ := ur1.new (o := .lst []) n1
  have np1 : HbS p1 = none := (kb1.trans ur1.k).free n1
  have ne01 : p0 ≠ p1 := ne_of_none (ur1.k.lst h0) n1
  generalize upd H1 p1 _ = H2 at ntp ur2 ⊢
  obtain ⟨Hb3, kb3, ur3, htp, _⟩ := ur2.new (o := .tup [.ref p0, .ref p1]) ntp
  generalize upd H2 tp _ = H3 at ur3 ⊢
  have pl0 : PlS U HbS Hb3 H3 tp (fun k => if k = true then p1 else p0) (fun _ => []) (fun _ => []) :=
    ⟨kb1.trans (kb2.trans kb3), ur3, htp, fun k => by cases k; exact (kb2.trans kb3).lst h0; exact kb3.lst h1, fun _ => .nil, (fun _ _ h => by cases h), fun k => by cases k; exact np0; exact np1, fun k => by cases k; exact ne01; exact ne01.symm⟩
  generalize (fun k : Bool => if k = true then p1 else p0) = pp at pl0
  refine ⟨_, rfl, _, _, rfl, U, Hb3, 4, rfl, rfl, by decide, by decide, ur3, fun Hb4 H4 r kb4 ur4 r0 r1 => ?_⟩
  have pl4 := pl0.ke kb4 ur4
  refine ⟨_, _, rfl, rfl, _, rfl, by omega, by omega, for_range (lo := 0) (n := (1 + r).toNat) (fun i σ H => ∃ Hb xs pl s3 s4 s5 s6, σ = [some (.ref U), some (.ref m), some (.ref tp), s3, s4, s5, s6] ∧ PlS U HbS Hb H tp pp xs pl ∧ ∀ k, (pl k).length ≤ 3 * i) ⟨Hb4, _, _, _, _, _, _, rfl, pl4, fun _ => Nat.zero_le _⟩ (fun i σ H hi p => ?_) (fun σ H p => ?_)⟩
  · obtain ⟨Hb, xs, pl, s3, s4, s5, s6, rfl, pS, hlen⟩ := p
    have hi4 : i < 4 := by omega
    have z6 := z6000
    refine ⟨_, rfl, _, _, rfl, U, Hb, 2, rfl, rfl, by decide, by decide, pS.ur, fun Hb5 H5 kk kb5 ur5 k0 k1 => ?_⟩
    obtain ⟨k, rfl⟩ := kI_of k0 k1
    have pS := pS.ke kb5 ur5
    refine ⟨_, rfl, _, rfl, _, _, rfl, U, Hb5, m, menuV, rfl, rfl, ur5, pS.kS.lst hm, by decide, by decide, fun Hb6 H6 x kb6 ur6 hx => ?_⟩
    have pS := pS.ke kb6 ur6
    obtain ⟨n, rfl, hok⟩ := menu_amt hx
    refine ⟨_, _, rfl, ?_⟩
    have ll : ∀ (k : Bool) (j : Nat) (xs : Bool → List V) (pl : Bool → List Ps) (Hb : Hp), StepV Hb (xs k) (pl k) → (pl k).length ≤ j → j ≤ 20 → (xs k).length < sizeLine := fun k j xs pl Hb h h2 h3 => by rw [Paired.length h]; omega
    -- write
    refine ⟨_, rfl, _, rfl, tp, _, _, _, rfl, rfl, SqT.of (ur6.k.tup pS.tpH), atK _ k, .inl ⟨rfl, _, SqL.of (ur6.k.lst (pS.ls k))⟩, _, rfl, by show 2 ≤ sizeLine; decide, fun t nt => ?_⟩
    obtain ⟨Hb7, kb7, ur7, ht7, _⟩ := ur6.new (o := .tup (stepVs (.io true n))) nt
    have pS := pS.ke kb7 ur7
    have et : (HO.tup [V.str "write", amtV n]) = .tup (stepVs (.io true n)) := rfl
    rw [et]
    generalize upd H6 t _ = H7 at ur7 pS ⊢
    refine ⟨pp k, _, _, rfl, rfl, ur7.k.lst (pS.ls k), ll k _ _ _ _ (pS.st k) (hlen k) (by omega), ?_⟩
    obtain ⟨Hb8, pS⟩ := pS.app (q := .io true n) k nu ht7 (hok true)
    have hlen : ∀ j, (setB pl k (pl k ++ [.io true n]) j).length ≤ 3 * i + 1 := fun j => by
      rcases Sm.two k j with rfl | rfl
      · rw [setB_same, List.length_append]; have := hlen j; show _ + 1 ≤ _; omega
      · rw [setB_other]; have := hlen (!k); omega
    generalize setB xs k (xs k ++ [.ref t]) = xs at pS
    generalize setB pl k (pl k ++ [.io true n]) = pl at pS hlen
    generalize upd H7 (pp k) _ = H8 at pS ⊢
    -- read
    refine ⟨_, rfl, _, _, rfl, U, Hb8, 7, rfl, rfl, by decide, by decide, pS.ur, fun Hb9 H9 r7 kb9 ur9 _ _ => ?_⟩
    have pS := pS.ke kb9 ur9
    refine ⟨_, _, rfl, rfl, _, rfl, ?_⟩
    apply join fun H' => ∃ Hb' xs' pl', PlS U HbS Hb' H' tp pp xs' pl' ∧ ∀ j, (pl' j).length ≤ 3 * i + 2
    · intro tail
      refine ite_dec (fun h1 => ?_) (fun h1 => tail _ ⟨Hb9, xs, pl, pS, fun j => by have := hlen j; omega⟩)
      have e1 : (1 : Int) - kI k = kI (!k) := by cases k <;> rfl
      refine ⟨_, rfl, _, rfl, 1, kI k, rfl, rfl, tp, _, _, .ref (pp (!k)), rfl, rfl, SqT.of (ur9.k.tup pS.tpH), by rw [e1]; exact atK _ (!k), .inl ⟨rfl, _, SqL.of (ur9.k.lst (pS.ls (!k)))⟩, ?_⟩
      refine ⟨_, rfl, _, rfl, _, rfl, _, rfl, _, rfl, _, rfl, _, _, rfl, U, Hb9, m, menuV, rfl, rfl, ur9, pS.kS.lst hm, by decide, by decide, fun Hb10 H10 x kb10 ur10 hx => ?_⟩
      have pS := pS.ke kb10 ur10
      obtain ⟨n2, rfl, hok2⟩ := menu_amt hx
      refine ⟨by show 4 ≤ sizeLine; decide, fun l nl => ?_⟩
      obtain ⟨Hb11, kb11, ur11, hl11, _⟩ := ur10.new (o := .lst [amtV n, amtV n, amtV n, amtV n2]) nl
      have pS := pS.ke kb11 ur11
      refine ⟨_, _, rfl, U, Hb11, l, _, rfl, rfl, ur11, hl11, by simp, by simp, fun Hb12 H12 x kb12 ur12 hx => ?_⟩
      have pS := pS.ke kb12 ur12
      have hx3 : ∃ n, x = amtV n ∧ ∀ b, (Ps.io b n).ok := by
        simp only [List.mem_cons, List.not_mem_nil, or_false] at hx
        rcases hx with rfl | rfl | rfl | rfl
        · exact ⟨n, rfl, hok⟩
        · exact ⟨n, rfl, hok⟩
        · exact ⟨n, rfl, hok⟩
        · exact ⟨n2, rfl, hok2⟩
      obtain ⟨n3, rfl, hok3⟩ := hx3
      refine ⟨by show 2 ≤ sizeLine; decide, fun t nt => ?_⟩
      obtain ⟨Hb13, kb13, ur13, ht13, _⟩ := ur12.new (o := .tup (stepVs (.io false n3))) nt
      have pS := pS.ke kb13 ur13
      have et : (HO.tup [V.str "read", amtV n3]) = .tup (stepVs (.io false n3)) := rfl
      rw [et]
      generalize upd H12 t _ = H13 at ur13 pS ⊢
      refine ⟨pp (!k), _, _, rfl, rfl, ur13.k.lst (pS.ls (!k)), ll (!k) _ _ _ _ (pS.st (!k)) (hlen (!k)) (by omega), tail _ ?_⟩
      obtain ⟨Hb14, pS⟩ := pS.app (q := .io false n3) (!k) nu ht13 (hok3 false)
      refine ⟨Hb14, _, _, pS, fun j => ?_⟩
      rcases Sm.two (!k) j with rfl | rfl
      · rw [setB_same, List.length_append]; have := hlen (!k); show _ + 1 ≤ _; omega
      · rw [setB_other]; have := hlen (!(!k)); omega
    · rintro H10 ⟨Hb10, xs, pl, pS, hlen⟩
      refine ⟨_, rfl, _, _, rfl, U, Hb10, 4, rfl, rfl, by decide, by decide, pS.ur, fun Hb11 H11 r4 kb11 ur11 _ _ => ?_⟩
      have pS := pS.ke kb11 ur11
      refine ⟨rfl, _, rfl, ?_⟩
      rw [dec_int']
      refine ite_dec (fun h1 => ?_) (fun h1 => ⟨Hb11, xs, pl, _, _, _, _, rfl, pS, fun j => by have := hlen j; omega⟩)
      refine ⟨_, rfl, _, _, rfl, U, Hb11, 6, rfl, rfl, by decide, by decide, ur11, fun Hb12 H12 le kb12 ur12 l0 l1 => ?_⟩
      have pS := pS.ke kb12 ur12
      refine ⟨_, rfl, _, rfl, _, _, rfl, U, Hb12, 2, rfl, rfl, by decide, by decide, ur12, fun Hb13 H13 kk kb13 ur13 k0 k1 => ?_⟩
      have pS := pS.ke kb13 ur13
      obtain ⟨k, rfl⟩ := kI_of k0 k1
      refine ⟨tp, _, _, _, rfl, rfl, SqT.of (ur13.k.tup pS.tpH), atK _ k, .inl ⟨rfl, _, SqL.of (ur13.k.lst (pS.ls k))⟩, _, rfl, _, rfl, _, rfl, _, _, rfl, U, Hb13, 3, rfl, rfl, by decide, by decide, ur13, fun Hb14 H14 g kb14 ur14 g0 g1 => ?_⟩
      have pS := pS.ke kb14 ur14
      refine ⟨_, _, rfl, rfl, by show 3 ≤ sizeLine; decide, fun t nt => ?_⟩
      obtain ⟨Hb15, kb15, ur15, ht15, _⟩ := ur14.new (o := .tup (stepVs (.pz le (le + g)))) nt
      have pS := pS.ke kb15 ur15
      have et : (HO.tup [V.str "pause", .int le, .int (le + g)]) = .tup (stepVs (.pz le (le + g))) := rfl
      rw [et]
      generalize upd H14 t _ = H15 at ur15 pS ⊢
      refine ⟨pp k, _, _, rfl, rfl, ur15.k.lst (pS.ls k), ll k _ _ _ _ (pS.st k) (hlen k) (by omega), ?_⟩
      obtain ⟨Hb16, pS⟩ := pS.app (q := .pz le (le + g)) k nu ht15 ⟨l0, by omega, by omega⟩
      refine ⟨Hb16, _, _, _, _, _, _, rfl, pS, fun j => ?_⟩
      rcases Sm.two k j with rfl | rfl
      · rw [setB_same, List.length_append]; have := hlen j; show _ + 1 ≤ _; omega
      · rw [setB_other]; have := hlen (!k); omega
  · obtain ⟨Hb, xs, pl, s3, s4, s5, s6, rfl, pS, hlen⟩ := p
    have ur := pS.ur
    have cutS : ∀ (vs : List V) (ps : List Ps) (H : Hp), StepV H vs ps → StepV H (cutV vs none (some 6)) (ps.take 6) := fun vs ps H h => by
      have e : cutV vs none (some 6) = vs.take 6 := by
        unfold cutV
        rw [show HT.sIx vs.length vs.length (some 6) = min 6 vs.length from HT.sIx_nat vs.length vs.length 6, HT.sIx_none]
        show List.take (min 6 vs.length - 0) (List.drop 0 vs) = _
        rw [List.drop_zero, Nat.sub_zero]
        by_cases z : 6 ≤ vs.length
        · rw [Nat.min_eq_left z]
        · rw [Nat.min_eq_right (by omega), List.take_length, List.take_of_length_le (by omega)]
      rw [e]
      have tk : ∀ (n : Nat) {vs : List V} {ps : List Ps}, StepV H vs ps → StepV H (vs.take n) (ps.take n) := fun n => by
        induction n with
        | zero => exact fun _ => .nil
        | succ n ih => exact fun h => by cases h with
          | nil => exact .nil
          | cons a b => exact .cons a (ih b)
      exact tk 6 h
    refine ⟨_, rfl, tp, _, 0, _, rfl, rfl, SqT.of (ur.k.tup pS.tpH), atI0, 6, rfl, pp false, _, rfl, SqL.of (ur.k.lst (pS.ls false)), fun l nl => ⟨l, _, rfl, .inl ⟨SqL.of upd_same, fun t1 nt1 => ?_⟩⟩⟩
    obtain ⟨Hb1, kb1, ur1, _, _⟩ := ur.new (o := .lst (cutV (xs false) none (some 6))) nl
    generalize upd H l _ = H1 at nt1 ur1 ⊢
    obtain ⟨Hb2, kb2, ur2, ht1, _⟩ := ur1.new (o := .tup (cutV (xs false) none (some 6))) nt1
    generalize upd H1 t1 _ = H2 at ur2 ⊢
    have pS := pS.ke (kb1.trans kb2) ur2
    refine ⟨_, rfl, tp, _, 1, _, rfl, rfl, SqT.of (ur2.k.tup pS.tpH), atI1, 6, rfl, pp true, _, rfl, SqL.of (ur2.k.lst (pS.ls true)), fun l nl => ⟨l, _, rfl, .inl ⟨SqL.of upd_same, fun t2 nt2 => ?_⟩⟩⟩
    obtain ⟨Hb3, kb3, ur3, _, _⟩ := ur2.new (o := .lst (cutV (xs true) none (some 6))) nl
    generalize upd H2 l _ = H3 at nt2 ur3 ⊢
    obtain ⟨Hb4, kb4, ur4, ht2, _⟩ := ur3.new (o := .tup (cutV (xs true) none (some 6))) nt2
    generalize upd H3 t2 _ = H4 at ur4 ⊢
    refine ⟨by show 2 ≤ sizeLine; decide, fun t nt => ?_⟩
    obtain ⟨Hb5, kb5, ur5, ht, _⟩ := ur4.new (o := .tup [.ref t1, .ref t2]) nt
    have k25 := kb3.trans (kb4.trans kb5)
    have d1 := cutS _ _ _ ((pS.st false).up k25.tk)
    have d2 := cutS _ _ _ ((pS.st true).up k25.tk)
    exact q Hb5 _ t _ _ ((pl false).take 6) ((pl true).take 6) (pS.kS.trans k25) ur5 ht (.tup (SqT.of (k25.tup ht1)) d1.dq) (.tup (SqT.of (kb5.tup ht2)) d2.dq) (by rw [List.length_take]; omega) (by rw [List.length_take]; omega)
      (fun p hp => pS.ok false p (List.mem_of_mem_take hp)) (fun p hp => pS.ok true p (List.mem_of_mem_take hp))
end
end Sm

/-! The law: its own world in the heap. -/
namespace Sm
open PySem PySem.Spec PyProof.Rows L2
/-- d.update(other dict) -/
def rUpdD : V → List V → Hp → VK → Prop := fun x vs H Q => ∃ d o kvs more, x = .ref d ∧ vs = [.ref o] ∧ d ≠ o ∧ H d = some (.dK kvs) ∧ H o = some (.dK more) ∧ kvs.length + more.length ≤ sizeLine ∧ Q .non (upd H d (.dK (mergeK kvs more)))
theorem mt_update {X : Cx} : MtR X "dict.update" rUpdD := by
  intro pins s σ H x xs v us Q I rx rxs h
  obtain ⟨d, o, kvs, more, rfl, rfl, ne, ed, eo, hsz, q⟩ := h
  obtain rfl : v = Value.ref d := rx
  obtain rfl := Vals.ref1 rxs
  obtain ⟨z, hd, vs, rel, dd⟩ := dk_of I.hok ed
  obtain ⟨z2, hd2, vs2, rel2, dd2⟩ := dk_of I.hok eo
  have l1 : kvs.length = vs.length := Paired.length rel
  have l2 : more.length = vs2.length := Paired.length rel2
  refine call_meetsIn PySem.F.slot_dict_update dd.typeIs PySem.F.entry_dict_update (PySem.F.args_dict_update_2 _ _) (meets_dict_update (mixKind X.prog X.w) d o ne hd2) ⟨vs, vs2, dd, dd2, by omega, fun h' dd' _ hs => ?_⟩
  have he : ∃ q, h'.get? d = some q := let ⟨q, _, _, hq, _⟩ := dd'; ⟨q, hq⟩
  exact ⟨.non, upd H d (.dK (mergeK kvs more)), d_write I (by rw [ed]; exact True.intro) hs he (dk_new (Nat.le_trans (length_mergeK _ _) hsz) hd (KV.merge rel2 rel) dd'), rfl, q⟩
def sideL (a b c d e f g h i j l : V) : List (Key × V) := [(.inr "todo", a), (.inr "kept", b), (.inr "out", c), (.inr "known", d), (.inr "small", e), (.inr "come", f), (.inr "used", g), (.inr "full", h), (.inr "since", i), (.inr "until", j), (.inr "end", l)]
theorem gS_todo {H : Hp} {x : Addr} {a b c d e f g h i j l : V} (q : H x = some (.dK (sideL a b c d e f g h i j l))) : DGet H x (.str "todo") (some a) := DGet.k (k := .inr "todo") q
theorem pS_todo {H : Hp} {x : Addr} {a b c d e f g h i j l : V} (q : H x = some (.dK (sideL a b c d e f g h i j l))) (v : V) : DPut H x (.str "todo") v (upd H x (.dK (sideL v b c d e f g h i j l))) := DPut.k (k := .inr "todo") (v := v) q (by show 11 < sizeLine; decide)
theorem gS_kept {H : Hp} {x : Addr} {a b c d e f g h i j l : V} (q : H x = some (.dK (sideL a b c d e f g h i j l))) : DGet H x (.str "kept") (some b) := DGet.k (k := .inr "kept") q
theorem pS_kept {H : Hp} {x : Addr} {a b c d e f g h i j l : V} (q : H x = some (.dK (sideL a b c d e f g h i j l))) (v : V) : DPut H x (.str "kept") v (upd H x (.dK (sideL a v c d e f g h i j l))) := DPut.k (k := .inr "kept") (v := v) q (by show 11 < sizeLine; decide)
theorem gS_out {H : Hp} {x : Addr} {a b c d e f g h i j l : V} (q : H x = some (.dK (sideL a b c d e f g h i j l))) : DGet H x (.str "out") (some c) := DGet.k (k := .inr "out") q
theorem pS_out {H : Hp} {x : Addr} {a b c d e f g h i j l : V} (q : H x = some (.dK (sideL a b c d e f g h i j l))) (v : V) : DPut H x (.str "out") v (upd H x (.dK (sideL a b v d e f g h i j l))) := DPut.k (k := .inr "out") (v := v) q (by show 11 < sizeLine; decide)
theorem gS_known {H : Hp} {x : Addr} {a b c d e f g h i j l : V} (q : H x = some (.dK (sideL a b c d e f g h i j l))) : DGet H x (.str "known") (some d) := DGet.k (k := .inr "known") q
theorem pS_known {H : Hp} {x : Addr} {a b c d e f g h i j l : V} (q : H x = some (.dK (sideL a b c d e f g h i j l))) (v : V) : DPut H x (.str "known") v (upd H x (.dK (sideL a b c v e f g h i j l))) := DPut.k (k := .inr "known") (v := v) q (by show 11 < sizeLine; decide)
theorem gS_small {H : Hp} {x : Addr} {a b c d e f g h i j l : V} (q : H x = some (.dK (sideL a b c d e f g h i j l))) : DGet H x (.str "small") (some e) := DGet.k (k := .inr "small") q
theorem pS_small {H : Hp} {x : Addr} {a b c d e f g h i j l : V} (q : H x = some (.dK (sideL a b c d e f g h i j l))) (v : V) : DPut H x (.str "small") v (upd H x (.dK (sideL a b c d v f g h i j l))) := DPut.k (k := .inr "small") (v := v) q (by show 11 < sizeLine; decide)
theorem gS_come {H : Hp} {x : Addr} {a b c d e f g h i j l : V} (q : H x = some (.dK (sideL a b c d e f g h i j l))) : DGet H x (.str "come") (some f) := DGet.k (k := .inr "come") q
theorem pS_come {H : Hp} {x : Addr} {a b c d e f g h i j l : V} (q : H x = some (.dK (sideL a b c d e f g h i j l))) (v : V) : DPut H x (.str "come") v (upd H x (.dK (sideL a b c d e v g h i j l))) := DPut.k (k := .inr "come") (v := v) q (by show 11 < sizeLine; decide)
theorem gS_used {H : Hp} {x : Addr} {a b c d e f g h i j l : V} (q : H x = some (.dK (sideL a b c d e f g h i j l))) : DGet H x (.str "used") (some g) := DGet.k (k := .inr "used") q
theorem pS_used {H : Hp} {x : Addr} {a b c d e f g h i j l : V} (q : H x = some (.dK (sideL a b c d e f g h i j l))) (v : V) : DPut H x (.str "used") v (upd H x (.dK (sideL a b c d e f v h i j l))) := DPut.k (k := .inr "used") (v := v) q (by show 11 < sizeLine; decide)
theorem gS_full {H : Hp} {x : Addr} {a b c d e f g h i j l : V} (q : H x = some (.dK (sideL a b c d e f g h i j l))) : DGet H x (.str "full") (some h) := DGet.k (k := .inr "full") q
theorem pS_full {H : Hp} {x : Addr} {a b c d e f g h i j l : V} (q : H x = some (.dK (sideL a b c d e f g h i j l))) (v : V) : DPut H x (.str "full") v (upd H x (.dK (sideL a b c d e f g v i j l))) := DPut.k (k := .inr "full") (v := v) q (by show 11 < sizeLine; decide)
theorem gS_since {H : Hp} {x : Addr} {a b c d e f g h i j l : V} (q : H x = some (.dK (sideL a b c d e f g h i j l))) : DGet H x (.str "since") (some i) := DGet.k (k := .inr "since") q
theorem pS_since {H : Hp} {x : Addr} {a b c d e f g h i j l : V} (q : H x = some (.dK (sideL a b c d e f g h i j l))) (v : V) : DPut H x (.str "since") v (upd H x (.dK (sideL a b c d e f g h v j l))) := DPut.k (k := .inr "since") (v := v) q (by show 11 < sizeLine; decide)
theorem gS_until {H : Hp} {x : Addr} {a b c d e f g h i j l : V} (q : H x = some (.dK (sideL a b c d e f g h i j l))) : DGet H x (.str "until") (some j) := DGet.k (k := .inr "until") q
theorem pS_until {H : Hp} {x : Addr} {a b c d e f g h i j l : V} (q : H x = some (.dK (sideL a b c d e f g h i j l))) (v : V) : DPut H x (.str "until") v (upd H x (.dK (sideL a b c d e f g h i v l))) := DPut.k (k := .inr "until") (v := v) q (by show 11 < sizeLine; decide)
theorem gS_end {H : Hp} {x : Addr} {a b c d e f g h i j l : V} (q : H x = some (.dK (sideL a b c d e f g h i j l))) : DGet H x (.str "end") (some l) := DGet.k (k := .inr "end") q
theorem pS_end {H : Hp} {x : Addr} {a b c d e f g h i j l : V} (q : H x = some (.dK (sideL a b c d e f g h i j l))) (v : V) : DPut H x (.str "end") v (upd H x (.dK (sideL a b c d e f g h i j v))) := DPut.k (k := .inr "end") (v := v) q (by show 11 < sizeLine; decide)
def wrlL (a b c d : V) : List (Key × V) := [(.inr "shape", a), (.inr "tick", b), (.inr "log", c), (.inr "sides", d)]
theorem gW_shape {H : Hp} {x : Addr} {a b c d : V} (q : H x = some (.dK (wrlL a b c d))) : DGet H x (.str "shape") (some a) := DGet.k (k := .inr "shape") q
theorem gW_tick {H : Hp} {x : Addr} {a b c d : V} (q : H x = some (.dK (wrlL a b c d))) : DGet H x (.str "tick") (some b) := DGet.k (k := .inr "tick") q
theorem gW_log {H : Hp} {x : Addr} {a b c d : V} (q : H x = some (.dK (wrlL a b c d))) : DGet H x (.str "log") (some c) := DGet.k (k := .inr "log") q
theorem gW_sides {H : Hp} {x : Addr} {a b c d : V} (q : H x = some (.dK (wrlL a b c d))) : DGet H x (.str "sides") (some d) := DGet.k (k := .inr "sides") q
theorem pW_tick {H : Hp} {x : Addr} {a b c d : V} (q : H x = some (.dK (wrlL a b c d))) (v : V) : DPut H x (.str "tick") v (upd H x (.dK (wrlL a v c d))) := DPut.k (k := .inr "tick") (v := v) q (by show 4 < sizeLine; decide)

/-- where the parts that never change lie -/
structure LC where
  shp : Addr
  wa : Bool → Addr
structure LD where
  tick : Int
  lgv : List V
  td : Bool → Addr
  tdv : Bool → List V
  kept : Bool → Int
  out : Bool → Int
  known : Bool → Int
  small : Bool → Int
  come : Bool → Int
  used : Bool → Int
  full : Bool → Int
  since : Bool → Option Int
  til : Bool → Option Int
  fin : Bool → Option Int
structure LCok (K : PySem.W.Frag) (Hb : Hp) (S : Sh) (C : LC) : Prop where
  shp : SqT K Hb C.shp [.int S.size, .int S.way, .ref (C.wa false), .ref (C.wa true)]
  wa : ∀ k, SqT K Hb (C.wa k) [.str (ruS (S.rule k)), .int (S.every k), .int (S.delay k)]
def sideD (D : LD) (k : Bool) : List (Key × V) := sideL (.ref (D.td k)) (.int (D.kept k)) (.int (D.out k)) (.int (D.known k)) (.int (D.small k)) (.int (D.come k)) (.int (D.used k)) (.int (D.full k)) (oV (D.since k)) (oV (D.til k)) (oV (D.fin k))
def contL (L : Nat → Addr) (C : LC) (D : LD) : List HO := [
  .dK (wrlL (.ref C.shp) (.int D.tick) (.ref (L 1)) (.ref (L 2))),
  .lst D.lgv,
  .lst (two2 fun k => .ref (L (3 + kN k))),
  .dK (sideD D false), .dK (sideD D true)]
structure AtL (K : PySem.W.Frag) (Hb H : Hp) (S : Sh) (L : Nat → Addr) (C : LC) (D : LD) : Prop where
  ok : LCok K Hb S C
  base : Ke Hb H
  inj : ∀ i j, i < 5 → j < 5 → L i = L j → i = j
  nb : ∀ i, i < 5 → Hb (L i) = none
  ob : ∀ i o, (contL L C D)[i]? = some o → H (L i) = some o
  td : ∀ k, H (D.td k) = some (.lst (D.tdv k))
  xtd : ∀ i k, i < 5 → L i ≠ D.td k
section
variable {K : PySem.W.Frag} {Hb H H' : Hp} {S : Sh} {L : Nat → Addr} {C : LC} {D D' : LD}
theorem contL_kind {o : HO} (h : o ∈ contL L C D) : (∃ xs, o = .lst xs) ∨ ∃ xs, o = .dK xs := by
  unfold contL at h
  simp only [List.mem_cons, List.not_mem_nil, or_false] at h
  rcases h with h | h | h | h | h <;> subst h <;> first | exact .inl ⟨_, rfl⟩ | exact .inr ⟨_, rfl⟩
theorem AtL.kind (h : AtL K Hb H S L C D) {i : Nat} (hi : i < 5) : (∃ xs, H (L i) = some (.lst xs)) ∨ ∃ xs, H (L i) = some (.dK xs) := by
  have e : (contL L C D)[i]? = some ((contL L C D)[i]'hi) := List.getElem?_eq_getElem hi
  rcases contL_kind (List.getElem_mem hi) with ⟨xs, z⟩ | ⟨xs, z⟩
  · exact .inl ⟨xs, by rw [← z]; exact h.ob i _ e⟩
  · exact .inr ⟨xs, by rw [← z]; exact h.ob i _ e⟩
theorem AtL.noCode (h : AtL K Hb H S L C D) {i : Nat} (hi : i < 5) : ∀ c q, H (L i) ≠ some (LamX.CodeO c q) := by
  rcases h.kind hi with ⟨xs, z⟩ | ⟨xs, z⟩
  · exact noCode_lst z
  · exact noCode_dK z
theorem AtL.noTup (h : AtL K Hb H S L C D) {i : Nat} (hi : i < 5) : ∀ xs, H (L i) ≠ some (.tup xs) := by
  rcases h.kind hi with ⟨xs, z⟩ | ⟨xs, z⟩
  · exact notTup_lst z
  · exact notTup_dK z
theorem AtL.mut (h : AtL K Hb H S L C D) (i : Nat) {o : HO} (hi : i < 5) (e : contL L C D' = (contL L C D).set i o) (e1 : D'.td = D.td) (e2 : D'.tdv = D.tdv) : AtL K Hb (upd H (L i) o) S L C D' ∧ Tk H (upd H (L i) o) := by
  refine ⟨⟨h.ok, h.base.mut (h.nb i hi) (h.noCode hi), h.inj, h.nb, fun j u hj => ?_, fun k => ?_, fun j k hj => by rw [e1]; exact h.xtd j k hj⟩, Tk.mut (h.noTup hi)⟩
  · rw [e, List.getElem?_set] at hj
    split at hj
    · rename_i z
      subst z
      split at hj
      · cases hj
        exact upd_same
      · cases hj
    · rename_i z
      have lj : j < 5 := (List.getElem?_eq_some_iff.mp hj).1
      rw [upd_ne (fun q => z (h.inj _ _ hi lj q.symm))]
      exact h.ob j u hj
  · rw [e1, e2, upd_ne (fun q => h.xtd i k hi q.symm)]
    exact h.td k
theorem AtL.ke (h : AtL K Hb H S L C D) (k : Ke H H') : AtL K Hb H' S L C D := by
  refine ⟨h.ok, h.base.trans k, h.inj, h.nb, fun i o e => ?_, fun j => k.lst (h.td j), h.xtd⟩
  have q := h.ob i o e
  rcases contL_kind (List.mem_of_getElem? e) with ⟨xs, rfl⟩ | ⟨xs, rfl⟩
  · exact k.lst q
  · exact k.dK q
theorem AtL.o0 (h : AtL K Hb H S L C D) : H (L 0) = some (.dK (wrlL (.ref C.shp) (.int D.tick) (.ref (L 1)) (.ref (L 2)))) := h.ob 0 _ rfl
theorem AtL.o1 (h : AtL K Hb H S L C D) : H (L 1) = some (.lst D.lgv) := h.ob 1 _ rfl
theorem AtL.o2 (h : AtL K Hb H S L C D) : H (L 2) = some (.lst (two2 fun k => .ref (L (3 + kN k)))) := h.ob 2 _ rfl
theorem AtL.oS (h : AtL K Hb H S L C D) (k : Bool) : H (L (3 + kN k)) = some (.dK (sideD D k)) := by cases k; exact h.ob 3 _ rfl; exact h.ob 4 _ rfl
theorem AtL.shp (h : AtL K Hb H S L C D) : SqT K H C.shp [.int S.size, .int S.way, .ref (C.wa false), .ref (C.wa true)] := h.base.sqt h.ok.shp
theorem AtL.wa (h : AtL K Hb H S L C D) (k : Bool) : SqT K H (C.wa k) [.str (ruS (S.rule k)), .int (S.every k), .int (S.delay k)] := h.base.sqt (h.ok.wa k)
theorem AtL.mS (h : AtL K Hb H S L C D) (k : Bool) (D' : LD) (e : contL L C D' = (contL L C D).set (3 + kN k) (.dK (sideD D' k))) (e1 : D'.td = D.td) (e2 : D'.tdv = D.tdv) : AtL K Hb (upd H (L (3 + kN k)) (.dK (sideD D' k))) S L C D' ∧ Tk H (upd H (L (3 + kN k)) (.dK (sideD D' k))) := h.mut (3 + kN k) (by cases k <;> decide) e e1 e2
theorem AtL.mL (h : AtL K Hb H S L C D) (v : List V) : AtL K Hb (upd H (L 1) (.lst v)) S L C { D with lgv := v } ∧ Tk H (upd H (L 1) (.lst v)) := h.mut 1 (by decide) rfl rfl rfl
theorem AtL.mT (h : AtL K Hb H S L C D) (t : Int) : AtL K Hb (upd H (L 0) (.dK (wrlL (.ref C.shp) (.int t) (.ref (L 1)) (.ref (L 2))))) S L C { D with tick := t } ∧ Tk H (upd H (L 0) (.dK (wrlL (.ref C.shp) (.int t) (.ref (L 1)) (.ref (L 2))))) := h.mut 0 (by decide) rfl rfl rfl
end
structure LM (S : Sh) (H : Hp) (D : LD) (W : Wo) : Prop where
  tick : D.tick = W.tick
  kept : ∀ k, D.kept k = (W.sd k).kept
  out : ∀ k, D.out k = (W.sd k).out
  known : ∀ k, D.known k = (W.sd k).known
  small : ∀ k, D.small k = (W.sd k).small
  come : ∀ k, D.come k = (W.sd k).come
  used : ∀ k, D.used k = (W.sd k).used
  full : ∀ k, D.full k = (W.sd k).full
  since : ∀ k, D.since k = (W.sd k).since
  til : ∀ k, D.til k = (W.sd k).til
  fin : ∀ k, D.fin k = (W.sd k).fin
  td : ∀ k, TodoV H (D.tdv k) (W.sd k).todo
  lg : LogV H D.lgv W.log
theorem LM.tk {S : Sh} {H H' : Hp} {D : LD} {W : Wo} (h : LM S H D W) (t : Tk H H') : LM S H' D W :=
  ⟨h.tick, h.kept, h.out, h.known, h.small, h.come, h.used, h.full, h.since, h.til, h.fin, fun k => (h.td k).tk t, h.lg.tk t⟩
end Sm

/-! The law: a piece goes, bytes are released. -/
namespace Sm
open PySem PySem.Spec PyProof.Rows L2
section
variable {K : PySem.W.Frag} {Hb H H' : Hp} {S : Sh} {L : Nat → Addr} {C : LC} {D D' : LD}
theorem AtL.m_kept (h : AtL K Hb H S L C D) (k : Bool) (v : Int) : AtL K Hb (upd H (L (3 + kN k)) (.dK (sideL (.ref (D.td k)) (.int v) (.int (D.out k)) (.int (D.known k)) (.int (D.small k)) (.int (D.come k)) (.int (D.used k)) (.int (D.full k)) (oV (D.since k)) (oV (D.til k)) (oV (D.fin k))))) S L C { D with kept := setB D.kept k v } ∧ Tk H (upd H (L (3 + kN k)) (.dK (sideL (.ref (D.td k)) (.int v) (.int (D.out k)) (.int (D.known k)) (.int (D.small k)) (.int (D.come k)) (.int (D.used k)) (.int (D.full k)) (oV (D.since k)) (oV (D.til k)) (oV (D.fin k))))) := by cases k; exact h.mut 3 (by decide) rfl rfl rfl; exact h.mut 4 (by decide) rfl rfl rfl
theorem AtL.m_out (h : AtL K Hb H S L C D) (k : Bool) (v : Int) : AtL K Hb (upd H (L (3 + kN k)) (.dK (sideL (.ref (D.td k)) (.int (D.kept k)) (.int v) (.int (D.known k)) (.int (D.small k)) (.int (D.come k)) (.int (D.used k)) (.int (D.full k)) (oV (D.since k)) (oV (D.til k)) (oV (D.fin k))))) S L C { D with out := setB D.out k v } ∧ Tk H (upd H (L (3 + kN k)) (.dK (sideL (.ref (D.td k)) (.int (D.kept k)) (.int v) (.int (D.known k)) (.int (D.small k)) (.int (D.come k)) (.int (D.used k)) (.int (D.full k)) (oV (D.since k)) (oV (D.til k)) (oV (D.fin k))))) := by cases k; exact h.mut 3 (by decide) rfl rfl rfl; exact h.mut 4 (by decide) rfl rfl rfl
theorem AtL.m_known (h : AtL K Hb H S L C D) (k : Bool) (v : Int) : AtL K Hb (upd H (L (3 + kN k)) (.dK (sideL (.ref (D.td k)) (.int (D.kept k)) (.int (D.out k)) (.int v) (.int (D.small k)) (.int (D.come k)) (.int (D.used k)) (.int (D.full k)) (oV (D.since k)) (oV (D.til k)) (oV (D.fin k))))) S L C { D with known := setB D.known k v } ∧ Tk H (upd H (L (3 + kN k)) (.dK (sideL (.ref (D.td k)) (.int (D.kept k)) (.int (D.out k)) (.int v) (.int (D.small k)) (.int (D.come k)) (.int (D.used k)) (.int (D.full k)) (oV (D.since k)) (oV (D.til k)) (oV (D.fin k))))) := by cases k; exact h.mut 3 (by decide) rfl rfl rfl; exact h.mut 4 (by decide) rfl rfl rfl
theorem AtL.m_small (h : AtL K Hb H S L C D) (k : Bool) (v : Int) : AtL K Hb (upd H (L (3 + kN k)) (.dK (sideL (.ref (D.td k)) (.int (D.kept k)) (.int (D.out k)) (.int (D.known k)) (.int v) (.int (D.come k)) (.int (D.used k)) (.int (D.full k)) (oV (D.since k)) (oV (D.til k)) (oV (D.fin k))))) S L C { D with small := setB D.small k v } ∧ Tk H (upd H (L (3 + kN k)) (.dK (sideL (.ref (D.td k)) (.int (D.kept k)) (.int (D.out k)) (.int (D.known k)) (.int v) (.int (D.come k)) (.int (D.used k)) (.int (D.full k)) (oV (D.since k)) (oV (D.til k)) (oV (D.fin k))))) := by cases k; exact h.mut 3 (by decide) rfl rfl rfl; exact h.mut 4 (by decide) rfl rfl rfl
theorem AtL.m_come (h : AtL K Hb H S L C D) (k : Bool) (v : Int) : AtL K Hb (upd H (L (3 + kN k)) (.dK (sideL (.ref (D.td k)) (.int (D.kept k)) (.int (D.out k)) (.int (D.known k)) (.int (D.small k)) (.int v) (.int (D.used k)) (.int (D.full k)) (oV (D.since k)) (oV (D.til k)) (oV (D.fin k))))) S L C { D with come := setB D.come k v } ∧ Tk H (upd H (L (3 + kN k)) (.dK (sideL (.ref (D.td k)) (.int (D.kept k)) (.int (D.out k)) (.int (D.known k)) (.int (D.small k)) (.int v) (.int (D.used k)) (.int (D.full k)) (oV (D.since k)) (oV (D.til k)) (oV (D.fin k))))) := by cases k; exact h.mut 3 (by decide) rfl rfl rfl; exact h.mut 4 (by decide) rfl rfl rfl
theorem AtL.m_used (h : AtL K Hb H S L C D) (k : Bool) (v : Int) : AtL K Hb (upd H (L (3 + kN k)) (.dK (sideL (.ref (D.td k)) (.int (D.kept k)) (.int (D.out k)) (.int (D.known k)) (.int (D.small k)) (.int (D.come k)) (.int v) (.int (D.full k)) (oV (D.since k)) (oV (D.til k)) (oV (D.fin k))))) S L C { D with used := setB D.used k v } ∧ Tk H (upd H (L (3 + kN k)) (.dK (sideL (.ref (D.td k)) (.int (D.kept k)) (.int (D.out k)) (.int (D.known k)) (.int (D.small k)) (.int (D.come k)) (.int v) (.int (D.full k)) (oV (D.since k)) (oV (D.til k)) (oV (D.fin k))))) := by cases k; exact h.mut 3 (by decide) rfl rfl rfl; exact h.mut 4 (by decide) rfl rfl rfl
theorem AtL.m_full (h : AtL K Hb H S L C D) (k : Bool) (v : Int) : AtL K Hb (upd H (L (3 + kN k)) (.dK (sideL (.ref (D.td k)) (.int (D.kept k)) (.int (D.out k)) (.int (D.known k)) (.int (D.small k)) (.int (D.come k)) (.int (D.used k)) (.int v) (oV (D.since k)) (oV (D.til k)) (oV (D.fin k))))) S L C { D with full := setB D.full k v } ∧ Tk H (upd H (L (3 + kN k)) (.dK (sideL (.ref (D.td k)) (.int (D.kept k)) (.int (D.out k)) (.int (D.known k)) (.int (D.small k)) (.int (D.come k)) (.int (D.used k)) (.int v) (oV (D.since k)) (oV (D.til k)) (oV (D.fin k))))) := by cases k; exact h.mut 3 (by decide) rfl rfl rfl; exact h.mut 4 (by decide) rfl rfl rfl
theorem AtL.m_since (h : AtL K Hb H S L C D) (k : Bool) (v : Option Int) : AtL K Hb (upd H (L (3 + kN k)) (.dK (sideL (.ref (D.td k)) (.int (D.kept k)) (.int (D.out k)) (.int (D.known k)) (.int (D.small k)) (.int (D.come k)) (.int (D.used k)) (.int (D.full k)) (oV v) (oV (D.til k)) (oV (D.fin k))))) S L C { D with since := setB D.since k v } ∧ Tk H (upd H (L (3 + kN k)) (.dK (sideL (.ref (D.td k)) (.int (D.kept k)) (.int (D.out k)) (.int (D.known k)) (.int (D.small k)) (.int (D.come k)) (.int (D.used k)) (.int (D.full k)) (oV v) (oV (D.til k)) (oV (D.fin k))))) := by cases k; exact h.mut 3 (by decide) rfl rfl rfl; exact h.mut 4 (by decide) rfl rfl rfl
theorem AtL.m_until (h : AtL K Hb H S L C D) (k : Bool) (v : Option Int) : AtL K Hb (upd H (L (3 + kN k)) (.dK (sideL (.ref (D.td k)) (.int (D.kept k)) (.int (D.out k)) (.int (D.known k)) (.int (D.small k)) (.int (D.come k)) (.int (D.used k)) (.int (D.full k)) (oV (D.since k)) (oV v) (oV (D.fin k))))) S L C { D with til := setB D.til k v } ∧ Tk H (upd H (L (3 + kN k)) (.dK (sideL (.ref (D.td k)) (.int (D.kept k)) (.int (D.out k)) (.int (D.known k)) (.int (D.small k)) (.int (D.come k)) (.int (D.used k)) (.int (D.full k)) (oV (D.since k)) (oV v) (oV (D.fin k))))) := by cases k; exact h.mut 3 (by decide) rfl rfl rfl; exact h.mut 4 (by decide) rfl rfl rfl
theorem AtL.m_end (h : AtL K Hb H S L C D) (k : Bool) (v : Option Int) : AtL K Hb (upd H (L (3 + kN k)) (.dK (sideL (.ref (D.td k)) (.int (D.kept k)) (.int (D.out k)) (.int (D.known k)) (.int (D.small k)) (.int (D.come k)) (.int (D.used k)) (.int (D.full k)) (oV (D.since k)) (oV (D.til k)) (oV v)))) S L C { D with fin := setB D.fin k v } ∧ Tk H (upd H (L (3 + kN k)) (.dK (sideL (.ref (D.td k)) (.int (D.kept k)) (.int (D.out k)) (.int (D.known k)) (.int (D.small k)) (.int (D.come k)) (.int (D.used k)) (.int (D.full k)) (oV (D.since k)) (oV (D.til k)) (oV v)))) := by cases k; exact h.mut 3 (by decide) rfl rfl rfl; exact h.mut 4 (by decide) rfl rfl rfl

theorem AtL.m_todo (h : AtL K Hb H S L C D) (k : Bool) {a : Addr} {vs : List V} (ha : H a = some (.lst vs)) (xa : ∀ i, i < 5 → L i ≠ a) : AtL K Hb (upd H (L (3 + kN k)) (.dK (sideL (.ref a) (.int (D.kept k)) (.int (D.out k)) (.int (D.known k)) (.int (D.small k)) (.int (D.come k)) (.int (D.used k)) (.int (D.full k)) (oV (D.since k)) (oV (D.til k)) (oV (D.fin k))))) S L C { D with td := setB D.td k a, tdv := setB D.tdv k vs } ∧
    Tk H (upd H (L (3 + kN k)) (.dK (sideL (.ref a) (.int (D.kept k)) (.int (D.out k)) (.int (D.known k)) (.int (D.small k)) (.int (D.come k)) (.int (D.used k)) (.int (D.full k)) (oV (D.since k)) (oV (D.til k)) (oV (D.fin k))))) := by
  have lt : 3 + kN k < 5 := by cases k <;> decide
  let D1 : LD := { D with td := setB D.td k a, tdv := setB D.tdv k vs }
  have e : (contL L C D1) = (contL L C D).set (3 + kN k) (.dK (sideL (.ref a) (.int (D.kept k)) (.int (D.out k)) (.int (D.known k)) (.int (D.small k)) (.int (D.come k)) (.int (D.used k)) (.int (D.full k)) (oV (D.since k)) (oV (D.til k)) (oV (D.fin k)))) := by cases k <;> rfl
  refine ⟨⟨h.ok, h.base.mut (h.nb _ lt) (h.noCode lt), h.inj, h.nb, fun j u hj => ?_, fun j => ?_, fun i j hi => ?_⟩, Tk.mut (h.noTup lt)⟩
  · have h2 : (contL L C D1)[j]? = some u := hj
    clear hj
    rw [e, List.getElem?_set] at h2
    split at h2
    · rename_i z
      subst z
      split at h2
      · cases h2
        exact upd_same
      · cases h2
    · rename_i z
      have hj := h2
      have lj : j < 5 := (List.getElem?_eq_some_iff.mp hj).1
      rw [upd_ne (fun q => z (h.inj _ _ lt lj q.symm))]
      exact h.ob j u hj
  · show upd H _ _ (setB D.td k a j) = some (.lst (setB D.tdv k vs j))
    rcases Sm.two k j with rfl | rfl
    · rw [setB_same, setB_same, upd_ne (fun q => xa _ lt q.symm)]; exact ha
    · rw [setB_other, setB_other, upd_ne (fun q => h.xtd _ _ lt q.symm)]; exact h.td _
  · show L i ≠ setB D.td k a j
    rcases Sm.two k j with rfl | rfl
    · rw [setB_same]; exact xa i hi
    · rw [setB_other]; exact h.xtd i _ hi
end
theorem LM.send {S : Sh} {H : Hp} {D : LD} {W : Wo} {k : Bool} {m : Int} {u : V} (fm : LM S H D W) (hu : PcV H u ⟨W.tick, k, m, (W.sd k).come⟩) :
    LM S H { D with kept := setB D.kept k (D.kept k - m), out := setB D.out k (D.out k + m), small := setB D.small k (if 0 < m ∧ m < S.size then D.out k + m else D.small k), lgv := D.lgv ++ [u], full := setB D.full k 0, since := setB D.since k none } (Sm.send S W k m) := by
  have ev : ∀ {α : Type} (f : Sd → α) (g : Bool → α), (∀ j, g j = f (W.sd j)) → (∀ s ke ou sm fu si, f { s with kept := ke, out := ou, small := sm, full := fu, since := si } = f s) → ∀ j, g j = f ((Sm.send S W k m).sd j) := fun f g h e j => by
    rcases Sm.two k j with rfl | rfl
    · rw [send_same]; exact (h j).trans (e _ _ _ _ _ _).symm
    · rw [send_other]; exact h _
  have eu : ∀ {α : Type} (f : Sd → α) (g : Bool → α) (v : α), (∀ j, g j = f (W.sd j)) → v = f ((Sm.send S W k m).sd k) → ∀ j, setB g k v j = f ((Sm.send S W k m).sd j) := fun f g v h1 h2 j => by
    rcases Sm.two k j with rfl | rfl
    · rw [setB_same]; exact h2
    · rw [setB_other, send_other]
      exact h1 _
  refine ⟨fm.tick, eu Sd.kept _ _ fm.kept ?_, eu Sd.out _ _ fm.out ?_, ev Sd.known _ fm.known (fun _ _ _ _ _ _ => rfl), eu Sd.small _ _ fm.small ?_, ev Sd.come _ fm.come (fun _ _ _ _ _ _ => rfl), ev Sd.used _ fm.used (fun _ _ _ _ _ _ => rfl), eu Sd.full _ _ fm.full ?_, eu Sd.since _ _ fm.since ?_, ev Sd.til _ fm.til (fun _ _ _ _ _ _ => rfl), ev Sd.fin _ fm.fin (fun _ _ _ _ _ _ => rfl), fun j => ?_, psnoc fm.lg hu⟩
  · rw [send_same, fm.kept]
  · rw [send_same, fm.out]
  · rw [send_same, fm.out, fm.small]
  · rw [send_same]
  · rw [send_same]
  · rcases Sm.two k j with rfl | rfl
    · rw [send_same]; exact fm.td j
    · rw [send_other]; exact fm.td _
section
variable {P : Program} {w : World} {K : PySem.W.Frag} {mg : Str → Option Value} {base : Heap}
abbrev N_law_send : List Str := ["_law_world", "_law_k", "_law_many", "_law_here"]
theorem sc_law_send : FnScope N_law_send ["_law_world", "_law_k", "_law_many"] (defScope s_law_send) := ⟨rfl, rfl, rfl, by decide +kernel, rfl, by decide +kernel, by decide +kernel⟩
theorem ok_law_send (T : Tx K mg w) : Okf P w K mg base "_law_send" ["_law_world", "_law_k", "_law_many"] 1 (sp3 fun wv kv mv H Q => ∃ Hb S L C D W k m, wv = .ref (L 0) ∧ kv = .int (kI k) ∧ mv = .int m ∧ AtL K Hb H S L C D ∧ LM S H D W ∧ W.log.length ≤ 6000 ∧
    ∀ H' D', AtL K Hb H' S L C D' → LM S H' D' (Sm.send S W k m) → Tk H H' → Q .non H') := by
  refine mkF T ix_law_send rfl T.g_law_send sc_law_send (fun _ _ _ _ _ _ us hl => match us, hl with | [_, _, _], _ => rfl) len3 (fun cdv A outer s0 H0 E vs Q hr h => ?_)
  refine ⟨_, (pss_cons (ps_set (i := 3) sc_law_send.nd rfl (Or.inl rfl) (pe_ix (ixL K) (pe_dget (hu_of hr) (pv 0) pe_str (fun _ _ => rfl)) (pv 1) (fun _ _ => rfl)))
    (pss_cons (ps_asg (pe_tup (pa_cons (pe_op op_sub (pe_dget (hu_of hr) (pv 3) pe_str (fun _ _ => rfl)) (pv 2)) (pa_cons (pe_op op_add (pe_dget (hu_of hr) (pv 3) pe_str (fun _ _ => rfl)) (pv 2)) pa_nil))) (pg_tup (by rfl) (pgs_cons (pg_sub (pv 3) pe_str (set_dict (hu_of hr))) (pgs_cons (pg_sub (pv 3) pe_str (set_dict (hu_of hr))) pgs_nil))))
    (pss_cons (ps_if (pt_chain op_lt op_lt pe_int (pv 2) (pe_ix (ixT K) (pe_dget (hu_of hr) (pv 0) pe_str (fun _ _ => rfl)) pe_int (fun _ _ => rfl)))
      (pss_one (ps_dput (hu_of hr) (pv 3) pe_str (pe_dget (hu_of hr) (pv 3) pe_str (fun _ _ => rfl)) rfl))
      pss_nil)
    (pss_cons (ps_expr (pe_bm PySem.F.plainAttrs_list PySem.F.slot_list_append PySem.F.type_list_append mt_append (pe_dget (hu_of hr) (pv 0) pe_str (fun _ _ => rfl)) (pa_cons (pe_tup (pa_cons (pe_dget (hu_of hr) (pv 0) pe_str (fun _ _ => rfl)) (pa_cons (pv 1) (pa_cons (pv 2) (pa_cons (pe_dget (hu_of hr) (pv 3) pe_str (fun _ _ => rfl)) pa_nil))))) pa_nil)))
    (pss_one (ps_asg (pe_tup (pa_cons pe_int (pa_cons pe_non pa_nil))) (pg_tup (by rfl) (pgs_cons (pg_sub (pv 3) pe_str (set_dict (hu_of hr))) (pgs_cons (pg_sub (pv 3) pe_str (set_dict (hu_of hr))) pgs_nil))))))))), ?_⟩
  obtain ⟨_, _, _, rfl, Hb, S, L, C, D, W, k, m, rfl, rfl, rfl, at0, fm, hlg, q⟩ := h
  refine ⟨_, rfl, _, _, rfl, gW_sides at0.o0, _, rfl, _, _, _, _, rfl, rfl, SqL.of at0.o2, atK _ k, ?_⟩
  refine ⟨_, rfl, _, _, rfl, gS_kept (at0.oS k), _, rfl, _, _, rfl, rfl, _, rfl, _, _, rfl, gS_out (at0.oS k), _, rfl, _, _, rfl, rfl, by show 2 ≤ sizeLine; decide, fun t nt => ?_⟩
  have kt : Ke H0 (upd H0 t (.tup [.int (D.kept k - m), .int (D.out k + m)])) := .new nt
  have ht : (upd H0 t (.tup [.int (D.kept k - m), .int (D.out k + m)])) t = some (.tup [.int (D.kept k - m), .int (D.out k + m)]) := upd_same
  generalize upd H0 t _ = H1 at kt ht ⊢
  have a1 := at0.ke kt
  refine ⟨t, _, rfl, SqT.of ht, rfl, _, _, rfl, _, rfl, _, _, rfl, pS_kept (a1.oS k) _, ?_⟩
  obtain ⟨a2, t2⟩ := a1.m_kept k (D.kept k - m)
  generalize upd H1 (L (3 + kN k)) _ = H2 at a2 t2 ⊢
  refine ⟨_, _, rfl, _, rfl, _, _, rfl, pS_out (a2.oS k) _, ?_⟩
  obtain ⟨a3, t3⟩ := a2.m_out k (D.out k + m)
  dsimp only at a3 t3 ⊢
  generalize upd H2 (L (3 + kN k)) _ = H3 at a3 t3 ⊢
  refine ⟨rfl, ?_⟩
  apply join fun H4 => AtL K Hb H4 S L C { D with kept := setB D.kept k (D.kept k - m), out := setB D.out k (D.out k + m), small := setB D.small k (if 0 < m ∧ m < S.size then D.out k + m else D.small k) } ∧ Tk H3 H4
  · intro tail
    refine ⟨_, rfl, _, _, rfl, rfl, _, rfl, ?_⟩
    refine ite_dec (fun h1 => ?_) (fun h1 => ?_)
    · refine ⟨_, rfl, _, _, rfl, gW_shape a3.o0, _, _, 0, _, rfl, rfl, a3.shp, atI0, _, _, rfl, rfl, _, rfl, ?_⟩
      refine ite_dec (fun h2 => ?_) (fun h2 => ?_)
      · refine ⟨_, rfl, _, _, rfl, gS_out (a3.oS k), _, rfl, _, _, rfl, pS_small (a3.oS k) _, ?_⟩
        have e4 : setB D.out k (D.out k + m) k = D.out k + m := setB_same
        obtain ⟨a4, t4⟩ := a3.m_small k (setB D.out k (D.out k + m) k)
        dsimp only at a4 t4 ⊢
        refine tail _ ⟨?_, t4⟩
        rw [if_pos ⟨h1, h2⟩]
        rw [e4] at a4 ⊢
        exact a4
      · refine tail _ ⟨?_, .refl _⟩
        rw [if_neg (fun z => h2 z.2), setB_self]
        exact a3
    · refine ⟨_, rfl, iteF (tail _ ⟨?_, .refl _⟩)⟩
      rw [if_neg (fun z => h1 z.1), setB_self]
      exact a3
  · rintro H4 ⟨a4, t4⟩
    have hlgl : D.lgv.length ≤ 6000 := by rw [Paired.length fm.lg]; exact hlg
    have z6 := z6000
    refine ⟨_, rfl, _, _, rfl, gW_log a4.o0, .inl ⟨rfl, _, SqL.of a4.o1⟩, _, rfl, _, _, rfl, gW_tick a4.o0, _, rfl, _, rfl, _, rfl, _, _, rfl, gS_come (a4.oS k), by show 4 ≤ sizeLine; decide, fun u nu => ?_⟩
    have ku : Ke H4 (upd H4 u (.tup [.int D.tick, .int (kI k), .int m, .int (D.come k)])) := .new nu
    have hu : (upd H4 u (.tup [.int D.tick, .int (kI k), .int m, .int (D.come k)])) u = some (.tup [.int D.tick, .int (kI k), .int m, .int (D.come k)]) := upd_same
    generalize upd H4 u _ = H5 at ku hu ⊢
    have a5 := a4.ke ku
    refine ⟨L 1, _, _, rfl, rfl, a5.o1, by show D.lgv.length < _; omega, ?_⟩
    obtain ⟨a6, t6⟩ := a5.mL (D.lgv ++ [.ref u])
    dsimp only at a6 t6
    generalize upd H5 (L 1) _ = H6 at a6 t6 ⊢
    refine ⟨by show 2 ≤ sizeLine; decide, fun t' nt' => ?_⟩
    have kt2 : Ke H6 (upd H6 t' (.tup [.int 0, .non])) := .new nt'
    have ht2 : (upd H6 t' (.tup [.int 0, .non])) t' = some (.tup [.int 0, .non]) := upd_same
    generalize upd H6 t' _ = H7 at kt2 ht2 ⊢
    have a7 := a6.ke kt2
    refine ⟨t', _, rfl, SqT.of ht2, rfl, _, _, rfl, _, rfl, _, _, rfl, pS_full (a7.oS k) _, ?_⟩
    obtain ⟨a8, t8⟩ := a7.m_full k 0
    dsimp only at a8 t8 ⊢
    generalize upd H7 (L (3 + kN k)) _ = H8 at a8 t8 ⊢
    refine ⟨_, _, rfl, _, rfl, _, _, rfl, pS_since (a8.oS k) _, ?_⟩
    obtain ⟨a9, t9⟩ := a8.m_since k none
    have e9 : oV none = V.non := rfl
    rw [e9] at a9 t9
    dsimp only at a9 t9 ⊢
    generalize upd H8 (L (3 + kN k)) _ = H9 at a9 t9 ⊢
    have t19 : Tk H0 H9 := kt.tk.trans (t2.trans (t3.trans (t4.trans (ku.tk.trans (t6.trans (kt2.tk.trans (t8.trans t9)))))))
    refine ⟨rfl, q H9 _ a9 ?_ t19⟩
    exact LM.send (fm.tk t19) ⟨u, rfl, by show H9 u = some (HO.tup [.int W.tick, .int (kI k), .int m, .int (W.sd k).come]); rw [← fm.tick, ← fm.come]; exact (t6.trans (kt2.tk.trans (t8.trans t9))) _ _ hu⟩
end
end Sm

/-! The law: bytes are released. -/
namespace Sm
open PySem PySem.Spec PyProof.Rows L2
section
variable {P : Program} {w : World} {K : PySem.W.Frag} {mg : Str → Option Value} {base : Heap}
def ruN : Ru → Nat
  | .plain => 0
  | .hold => 1
  | .few => 2
abbrev ruL : List V := [.str "plain", .str "hold", .str "few"]
theorem ru_at (r : Ru) : ruL[ruN r]? = some (.str (ruS r)) := by cases r <;> rfl
theorem ru_no (r : Ru) : ∀ (m : Nat) (z : V), m < ruN r → ruL[m]? = some z → eqV z (.str (ruS r)) = false := by
  intro m z hm hz
  cases r with
  | plain => exact absurd hm (Nat.not_lt_zero _)
  | hold =>
    have : m = 0 := by have hm : m < 1 := hm; omega
    subst this
    cases hz
    decide +kernel
  | few =>
    have hm : m < 2 := hm
    have : m = 0 ∨ m = 1 := by omega
    rcases this with rfl | rfl
    · cases hz; decide +kernel
    · cases hz; decide +kernel
theorem ru_eq (r : Ru) : eqV (.str (ruS r)) (.str (ruS r)) = true := by cases r <;> decide +kernel
theorem mark_at (S : Sh) (W : Wo) (k : Bool) : atI [V.int 0, .int (W.sd k).out, .int (W.sd k).small] ((ruN (S.rule k) : Nat) : Int) = some (.int (mark S W k)) := by
  unfold mark
  cases S.rule k <;> rfl
abbrev N_law_free : List Str := ["_law_world", "_law_k", "_law_here", "_law_big", "_law_turn", "_law_mark"]
theorem sc_law_free : FnScope N_law_free ["_law_world", "_law_k"] (defScope s_law_free) := ⟨rfl, rfl, rfl, by decide +kernel, rfl, by decide +kernel, by decide +kernel⟩
theorem ok_law_free (T : Tx K mg w) : Okf P w K mg base "_law_free" ["_law_world", "_law_k"] 2 (sp2 fun wv kv H Q => ∃ Hb S L C D W k Pl, wv = .ref (L 0) ∧ kv = .int (kI k) ∧ Bd S ∧ AtL K Hb H S L C D ∧ LM S H D W ∧ Bnd S W Pl ∧
    ∀ H' D', AtL K Hb H' S L C D' → LM S H' D' (free S W k) → Tk H H' → Q .non H') := by
  have O_law_send := ok_law_send (P := P) (w := w) (base := base) T
  refine mkF T ix_law_free rfl T.g_law_free sc_law_free (fun _ _ _ _ _ _ us hl => match us, hl with | [_, _], _ => rfl) len2 (fun cdv A outer s0 H0 E vs Q hr h => ?_)
  refine ⟨_, (pss_cons (ps_par (i := 2) (j := 3) (by rfl) sc_law_free.nd rfl rfl (by decide) rfl rfl (pa_cons (pe_ix (ixL K) (pe_dget (hu_of hr) (pv 0) pe_str (fun _ _ => rfl)) (pv 1) (fun _ _ => rfl)) (pa_cons (pe_ix (ixT K) (pe_dget (hu_of hr) (pv 0) pe_str (fun _ _ => rfl)) pe_int (fun _ _ => rfl)) pa_nil)) (by rfl))
    (pss_cons (ps_for PassesOwn.never rfl (pi_range1 (by rfl) T.n_range (pa_cons (pe_op op_fdiv (pe_dget (hu_of hr) (pv 2) pe_str (fun _ _ => rfl)) (pv 3)) pa_nil)) (pg_name (i := 4) sc_law_free.nd rfl (Or.inl rfl))
      (pss_one (ps_expr (pe_f O_law_send (hr.mono (by decide)) (by rfl) (pa_cons (pv 0) (pa_cons (pv 1) (pa_cons (pv 3) pa_nil)))))))
    (pss_cons (ps_set (i := 5) sc_law_free.nd rfl (Or.inl rfl) (pe_ix (ixL K) (pe_lst (pa_cons pe_int (pa_cons (pe_dget (hu_of hr) (pv 2) pe_str (fun _ _ => rfl)) (pa_cons (pe_dget (hu_of hr) (pv 2) pe_str (fun _ _ => rfl)) pa_nil)))) (pe_bm PySem.F.plainAttrs_list PySem.F.slot_list_index PySem.F.type_list_index mt_index (pe_lst (pa_cons pe_str (pa_cons pe_str (pa_cons pe_str pa_nil)))) (pa_cons (pe_ix (ixT K) (pe_ix (ixT K) (pe_dget (hu_of hr) (pv 0) pe_str (fun _ _ => rfl)) (pe_op op_add pe_int (pv 1)) (fun _ _ => rfl)) pe_int (fun _ _ => rfl)) pa_nil)) (fun _ _ => rfl)))
    (pss_one (ps_if (PW.pt (pw_and (pt_cmpR op_gt (pe_dget (hu_of hr) (pv 2) pe_str (fun _ _ => rfl)) pe_int (nomark _)) (pw_and1 (pt_cmpR op_ge (pe_dget (hu_of hr) (pv 2) pe_str (fun _ _ => rfl)) (pv 5) (nomark _)))))
      (pss_one (ps_expr (pe_f O_law_send (hr.mono (by decide)) (by rfl) (pa_cons (pv 0) (pa_cons (pv 1) (pa_cons (pe_dget (hu_of hr) (pv 2) pe_str (fun _ _ => rfl)) pa_nil))))))
      pss_nil))))), ?_⟩
  obtain ⟨_, _, rfl, Hb, S, L, C, D, W, k, Pl, rfl, rfl, B, at0, fm, bd, q⟩ := h
  have fi := B.fine
  refine ⟨_, rfl, _, _, rfl, gW_sides at0.o0, _, rfl, _, _, _, _, rfl, rfl, SqL.of at0.o2, atK _ k, _, rfl, _, _, rfl, gW_shape at0.o0, _, _, 0, _, rfl, rfl, at0.shp, atI0, _, _, rfl, ?_⟩
  have hk0 := bd.good.kept k
  have hk1 := bd.kept k
  have hd0 : 0 ≤ (W.sd k).kept / S.size := Int.ediv_nonneg hk0 (by have := fi.size; omega)
  have hd1 : (W.sd k).kept / S.size ≤ (W.sd k).kept := Int.ediv_le_self _ hk0
  refine ⟨_, rfl, _, _, rfl, gS_kept (at0.oS k), _, rfl, _, _, rfl, rfl, ⟨by have := fi.size; omega, by have := B.size.2; omega⟩, (W.sd k).kept / S.size, by rw [fm.kept], by omega, by omega, for_range (lo := 0) (n := ((W.sd k).kept / S.size).toNat) (fun i σ H => ∃ D st, σ = [some (.ref (L 0)), some (.int (kI k)), some (.ref (L (3 + kN k))), some (.int S.size), st, none] ∧ AtL K Hb H S L C D ∧ LM S H D (fulls S W k i) ∧ Tk H0 H) ⟨D, _, rfl, at0, fm, .refl _⟩ (fun i σ H hi p => ?_) (fun σ H p => ?_)⟩
  · obtain ⟨D, st, rfl, a, f, tk⟩ := p
    have hm : i < many S W k := hi
    have ld := Leads.fulls (k := k) fi bd.good i (by omega)
    exact ⟨_, rfl, _, rfl, _, rfl, _, _, _, rfl, Hb, S, L, C, D, _, k, S.size, rfl, rfl, rfl, a, f, (bd.leads ld).log, fun H' D' a' f' t' => ⟨D', _, rfl, a', f', tk.trans t'⟩⟩
  · obtain ⟨D, st, rfl, a, f, tk⟩ := p
    have ld := Leads.fulls (k := k) fi bd.good _ (Nat.le_refl (many S W k))
    have bd1 := bd.leads ld
    have f : LM S H D (fulls S W k (many S W k)) := f
    have ef : free S W k = rest S (fulls S W k (many S W k)) k := rfl
    rw [ef] at q
    generalize fulls S W k (many S W k) = Y at f bd1 q
    refine ⟨_, rfl, _, _, rfl, gS_out (a.oS k), _, rfl, _, _, rfl, gS_small (a.oS k), by show 3 ≤ sizeLine; decide, fun l1 n1 => ?_⟩
    have k1 : Ke H (upd H l1 (.lst [.int 0, .int (D.out k), .int (D.small k)])) := .new n1
    have h1 : (upd H l1 (.lst [.int 0, .int (D.out k), .int (D.small k)])) l1 = some (.lst [.int 0, .int (D.out k), .int (D.small k)]) := upd_same
    generalize upd H l1 _ = H1 at k1 h1 ⊢
    refine ⟨by show 3 ≤ sizeLine; decide, fun l2 n2 => ?_⟩
    have k2 : Ke H1 (upd H1 l2 (.lst ruL)) := .new n2
    have h2 : (upd H1 l2 (.lst ruL)) l2 = some (.lst ruL) := upd_same
    refine ⟨.inl ⟨rfl, _, SqL.of h2⟩, ?_⟩
    generalize upd H1 l2 _ = H2 at k2 h2 ⊢
    have a2 := a.ke (k1.trans k2)
    have tk2 := tk.trans (k1.tk.trans k2.tk)
    have f2 := f.tk (k1.tk.trans k2.tk)
    have e2 : atI [V.int S.size, .int S.way, .ref (C.wa false), .ref (C.wa true)] (2 + kI k) = some (.ref (C.wa k)) := by cases k <;> rfl
    refine ⟨_, rfl, _, _, rfl, gW_shape a2.o0, _, rfl, _, _, rfl, rfl, C.shp, _, _, _, rfl, rfl, a2.shp, e2, C.wa k, _, 0, _, rfl, rfl, a2.wa k, atI0, l2, ruL, _, ruN (S.rule k), _, rfl, rfl, SqL.of h2, rfl, rfl, ru_at _, ru_eq _, ru_no _, ?_⟩
    refine ⟨l1, _, _, .int (mark S Y k), rfl, rfl, SqL.of (k2.lst h1), by rw [f2.out, f2.small]; exact mark_at S Y k, ?_⟩
    refine ⟨_, rfl, _, _, rfl, gS_kept (a2.oS k), _, _, rfl, rfl, _, rfl, ?_⟩
    unfold rest at q
    have hkl := bd1.kept k
    rw [f2.kept]
    refine ite_dec (fun c1 => ?_) (fun c1 => ?_)
    · refine ⟨_, rfl, _, _, rfl, gS_known (a2.oS k), _, rfl, _, _, rfl, rfl, _, rfl, ?_⟩
      rw [f2.known]
      refine ite_dec (fun c2 => ?_) (fun c2 => ?_)
      · rw [if_pos ⟨c1, c2⟩] at q
        exact ⟨_, rfl, _, rfl, _, rfl, _, _, rfl, gS_kept (a2.oS k), _, _, _, rfl, Hb, S, L, C, D, Y, k, (Y.sd k).kept, rfl, rfl, by rw [f2.kept], a2, f2, bd1.log, fun H' D' a' f' t' => q H' D' a' f' (tk2.trans t')⟩
      · rw [if_neg (fun z => c2 z.2)] at q
        exact q H2 D a2 f2 tk2
    · rw [if_neg (fun z => c1 z.1)] at q
      exact q H2 D a2 f2 tk2
end
end Sm

/-! The law: a program goes on. -/
namespace Sm
open PySem PySem.Spec PyProof.Rows L2
theorem todo_shaped (l : List (Wd × Int)) : SeqAt.shaped (.list (l.map tdD)) = true := by
  have h : ∀ l : List (Wd × Int), PyData.canLayAll0 (l.map tdD) = true ∧ PyData.depthAll (l.map tdD) ≤ 1 := by
    intro l
    induction l with
    | nil => exact ⟨rfl, by simp [PyData.depthAll]⟩
    | cons p r ih =>
      obtain ⟨wd, n⟩ := p
      refine ⟨?_, ?_⟩
      · simp [tdD, PyData.canLayAll0, PyData.canLay0, ih.1]
        cases wd <;> decide +kernel
      · have := ih.2
        simp [tdD, PyData.depthAll, PyData.depth]
        omega
  obtain ⟨h1, h2⟩ := h l
  unfold SeqAt.shaped
  rw [Bool.and_eq_true, decide_eq_true_eq]
  refine ⟨?_, ?_⟩
  · simp [PyData.canLay0, h1]
  · simp [PyData.depth]; omega
theorem todo_dp {K : PySem.W.Frag} {H : Hp} {a : Addr} {vs : List V} {l : List (Wd × Int)} (h : H a = some (.lst vs)) (t : TodoV H vs l) : Dp K H (.ref a) (.list (l.map tdD)) := by
  refine .lst (SqL.of h) ?_
  clear h
  induction t with
  | nil => exact .nil
  | cons h1 _ ih =>
    obtain ⟨b, rfl, hb⟩ := h1
    exact .cons (.tup (SqT.of hb) (.cons (.str _) (.cons (.int _) .nil))) ih
theorem todo_eqv (l : List (Wd × Int)) : PyData.eqv (.list (l.map tdD)) (.list []) = decide (l = []) := by
  cases l <;> simp [PyData.eqv, PyData.eqvAll]
theorem LM.keep {W : Wo} {k : Bool} {s : Sd} {α : Type} (f : Sd → α) {g : Bool → α} (h : ∀ j, g j = f (W.sd j)) (e : f s = f (W.sd k)) : ∀ j, g j = f ((W.put k s).sd j) := fun j => by
  rcases Sm.two k j with rfl | rfl
  · rw [Wo.put_same, e]; exact h _
  · rw [Wo.put_other]; exact h _
theorem LM.set {W : Wo} {k : Bool} {s : Sd} {α : Type} (f : Sd → α) {g : Bool → α} {v : α} (h : ∀ j, g j = f (W.sd j)) (e : v = f s) : ∀ j, setB g k v j = f ((W.put k s).sd j) := fun j => by
  rcases Sm.two k j with rfl | rfl
  · rw [setB_same, Wo.put_same, e]
  · rw [setB_other, Wo.put_other]; exact h _
section
variable {S : Sh} {H : Hp} {D : LD} {W : Wo} {k : Bool}
theorem LM.kept' (fm : LM S H D W) (v : Int) : LM S H { D with kept := setB D.kept k v } (W.put k { W.sd k with kept := v }) :=
  ⟨fm.tick, LM.set Sd.kept fm.kept rfl, LM.keep Sd.out fm.out rfl, LM.keep Sd.known fm.known rfl, LM.keep Sd.small fm.small rfl, LM.keep Sd.come fm.come rfl, LM.keep Sd.used fm.used rfl, LM.keep Sd.full fm.full rfl, LM.keep Sd.since fm.since rfl, LM.keep Sd.til fm.til rfl, LM.keep Sd.fin fm.fin rfl,
    fun j => by rw [← LM.keep (k := k) (s := { W.sd k with kept := v }) Sd.todo (fun _ => rfl) rfl j]; exact fm.td j, fm.lg⟩
theorem LM.til' (fm : LM S H D W) (v : Option Int) : LM S H { D with til := setB D.til k v } (W.put k { W.sd k with til := v }) :=
  ⟨fm.tick, LM.keep Sd.kept fm.kept rfl, LM.keep Sd.out fm.out rfl, LM.keep Sd.known fm.known rfl, LM.keep Sd.small fm.small rfl, LM.keep Sd.come fm.come rfl, LM.keep Sd.used fm.used rfl, LM.keep Sd.full fm.full rfl, LM.keep Sd.since fm.since rfl, LM.set Sd.til fm.til rfl, LM.keep Sd.fin fm.fin rfl,
    fun j => by rw [← LM.keep (k := k) (s := { W.sd k with til := v }) Sd.todo (fun _ => rfl) rfl j]; exact fm.td j, fm.lg⟩
theorem LM.pass (fm : LM S H D W) {u : Int} {a : Addr} {vs : List V} {f : Option Int} (ht : TodoV H vs (W.sd k).todo.tail) (hf : f = if (W.sd k).todo.tail = [] then some W.tick else none) :
    LM S H { D with used := setB D.used k (D.used k + u), til := setB D.til k none, td := setB D.td k a, tdv := setB D.tdv k vs, fin := setB D.fin k f } (Sm.pass W k u) := by
  refine ⟨fm.tick, LM.keep Sd.kept fm.kept rfl, LM.keep Sd.out fm.out rfl, LM.keep Sd.known fm.known rfl, LM.keep Sd.small fm.small rfl, LM.keep Sd.come fm.come rfl, LM.set Sd.used fm.used (by rw [fm.used]), LM.keep Sd.full fm.full rfl, LM.keep Sd.since fm.since rfl, LM.set Sd.til fm.til rfl, LM.set Sd.fin fm.fin hf, fun j => ?_, fm.lg⟩
  rcases Sm.two k j with rfl | rfl
  · rw [pass_at]
    show TodoV H (setB D.tdv j vs j) _
    rw [setB_same]; exact ht
  · show TodoV H (setB D.tdv k vs (!k)) ((W.put k _).sd (!k)).todo
    rw [setB_other, Wo.put_other]; exact fm.td _
end
section
variable {P : Program} {w : World} {K : PySem.W.Frag} {mg : Str → Option Value} {base : Heap}
abbrev N_law_steps : List Str := ["_law_world", "_law_k", "_law_here", "_law_tick_here", "_law_turn", "_law_word", "_law_many"]
theorem sc_law_steps : FnScope N_law_steps ["_law_world", "_law_k"] (defScope s_law_steps) := ⟨rfl, rfl, rfl, by decide +kernel, rfl, by decide +kernel, by decide +kernel⟩
theorem ok_law_steps (T : Tx K mg w) : Okf P w K mg base "_law_steps" ["_law_world", "_law_k"] 3 (sp2 fun wv kv H Q => ∃ Hb S L C D W k Pl, wv = .ref (L 0) ∧ kv = .int (kI k) ∧ Bd S ∧ AtL K Hb H S L C D ∧ LM S H D W ∧ Bt S W Pl ∧ (W.sd k).todo.length ≤ 6 ∧
    ∀ H' D', AtL K Hb H' S L C D' → LM S H' D' (goes S W k) → Tk H H' → Q .non H') := by
  have O_law_free := ok_law_free (P := P) (w := w) (base := base) T
  refine mkF T ix_law_steps rfl T.g_law_steps sc_law_steps (fun _ _ _ _ _ _ us hl => match us, hl with | [_, _], _ => rfl) len2 (fun cdv A outer s0 H0 E vs Q hr h => ?_)
  refine ⟨_, (pss_cons (ps_par (i := 2) (j := 3) (by rfl) sc_law_steps.nd rfl rfl (by decide) rfl rfl (pa_cons (pe_ix (ixL K) (pe_dget (hu_of hr) (pv 0) pe_str (fun _ _ => rfl)) (pv 1) (fun _ _ => rfl)) (pa_cons (pe_dget (hu_of hr) (pv 0) pe_str (fun _ _ => rfl)) pa_nil)) (by rfl))
    (pss_one (ps_for PassesOwn.never rfl (pi_range1 (by rfl) T.n_range (pa_cons (pe_callB (lenK K) (by rfl) T.n_len (by decide +kernel) (pa_cons (pe_dget (hu_of hr) (pv 2) pe_str (fun _ _ => rfl)) pa_nil)) pa_nil)) (pg_name (i := 4) sc_law_steps.nd rfl (Or.inl rfl))
      (pss_cons (ps_asg (pe_ix (ixL K) (pe_dget (hu_of hr) (pv 2) pe_str (fun _ _ => rfl)) pe_int (fun _ _ => rfl)) (pg_tup (by rfl) (pgs_cons (pg_name (i := 5) sc_law_steps.nd rfl (Or.inl rfl)) (pgs_cons (pg_name (i := 6) sc_law_steps.nd rfl (Or.inl rfl)) pgs_nil))))
    (pss_cons (ps_if (PW.pt (pw_and (pt_cmpR op_eq (pv 5) pe_str (nomark _)) (pw_and1 (pt_cmpR op_isN (pe_dget (hu_of hr) (pv 2) pe_str (fun _ _ => rfl)) pe_non (nomark _)))))
      (pss_one (ps_dput (hu_of hr) (pv 2) pe_str (pe_op op_add (pv 3) (pv 6)) rfl))
      pss_nil)
    (pss_cons (ps_if (PW.pt (pw_or (PW.pt (pw_and (pt_cmpR op_eq (pv 5) pe_str (nomark _)) (pw_and1 (pt_cmpR op_lt (pv 3) (pe_dget (hu_of hr) (pv 2) pe_str (fun _ _ => rfl)) (nomark _))))) (pw_or1 (PW.pt (pw_and (pt_cmpR op_eq (pv 5) pe_str (nomark _)) (pw_and1 (pt_cmpR op_lt (pe_op op_sub (pe_dget (hu_of hr) (pv 2) pe_str (fun _ _ => rfl)) (pe_dget (hu_of hr) (pv 2) pe_str (fun _ _ => rfl))) (pv 6) (nomark _))))))))
      (pss_one ps_break)
      pss_nil)
    (pss_cons (ps_if (pt_cmpR op_eq (pv 5) pe_str (nomark _))
      (pss_cons (ps_dput (hu_of hr) (pv 2) pe_str (pe_op op_add (pe_dget (hu_of hr) (pv 2) pe_str (fun _ _ => rfl)) (pv 6)) rfl)
    (pss_one (ps_expr (pe_f O_law_free (hr.mono (by decide)) (by rfl) (pa_cons (pv 0) (pa_cons (pv 1) pa_nil))))))
      pss_nil)
    (pss_cons (ps_dput (hu_of hr) (pv 2) pe_str (pe_op op_add (pe_dget (hu_of hr) (pv 2) pe_str (fun _ _ => rfl)) (pe_ifExp (pt_cmpR op_eq (pv 5) pe_str (nomark _)) (pv 6) pe_int)) rfl)
    (pss_cons (ps_asg (pe_tup (pa_cons pe_non (pa_cons (pe_slice (slL K) (pe_dget (hu_of hr) (pv 2) pe_str (fun _ _ => rfl)) (po_some pe_int) po_none) pa_nil))) (pg_tup (by rfl) (pgs_cons (pg_sub (pv 2) pe_str (set_dict (hu_of hr))) (pgs_cons (pg_sub (pv 2) pe_str (set_dict (hu_of hr))) pgs_nil))))
    (pss_one (ps_dput (hu_of hr) (pv 2) pe_str (pe_ifExp (pt_cmpR (op_eqD hr.units) (pe_dget (hu_of hr) (pv 2) pe_str (fun _ _ => rfl)) (pe_lst pa_nil) (nomark _)) (pv 3) pe_non) rfl))))))))))), ?_⟩
  obtain ⟨_, _, rfl, Hb, S, L, C, D, W, k, Pl, rfl, rfl, B, at0, fm, bt, hl6, q⟩ := h
  have fi := B.fine
  refine ⟨_, rfl, _, _, rfl, gW_sides at0.o0, _, rfl, _, _, _, _, rfl, rfl, SqL.of at0.o2, atK _ k, _, rfl, _, _, rfl, gW_tick at0.o0, _, _, rfl, ?_⟩
  have hlen : (D.tdv k).length = (W.sd k).todo.length := Paired.length (fm.td k)
  refine ⟨_, rfl, _, _, rfl, gS_todo (at0.oS k), _, _, rfl, .inl (SqL.of (at0.td k)), ((W.sd k).todo.length : Int), by rw [hlen], by omega, by omega, for_range (lo := 0) (n := ((W.sd k).todo.length : Int).toNat) (fun i σ H => ∃ Y D s4 s5 s6, σ = [some (.ref (L 0)), some (.int (kI k)), some (.ref (L (3 + kN k))), some (.int W.tick), s4, s5, s6] ∧ AtL K Hb H S L C D ∧ LM S H D Y ∧ Bt S Y Pl ∧ Tk H0 H ∧ Y.tick = W.tick ∧ i + (Y.sd k).todo.length = (W.sd k).todo.length ∧ steps S Y k (Y.sd k).todo.length = goes S W k)
    ⟨W, D, _, _, _, by rw [fm.tick]; rfl, at0, fm, bt, .refl _, rfl, Nat.zero_add _, rfl⟩ (fun i σ H hi p => ?_) (fun σ H p => ?_)⟩
  · obtain ⟨Y, D, s4, s5, s6, rfl, a, f, b, tk, et, el, es⟩ := p
    rw [Int.toNat_natCast] at hi
    have htd := f.td k
    cases hc : (Y.sd k).todo with
    | nil => rw [hc] at el; simp at el; omega
    | cons wn r =>
    obtain ⟨wd, n⟩ := wn
    rw [hc] at htd
    have htk := f.tick
    have hfin : (Y.sd k).fin = none := (b.good.fin k).mpr (by rw [hc]; simp)
    have til0 : wd ≠ .pa → (Y.sd k).til = none := fun hne => by
      cases z : (Y.sd k).til with
      | none => rfl
      | some v =>
        obtain ⟨n', r', e'⟩ := b.good.til k (by rw [z]; simp)
        rw [hc] at e'; cases e'; exact absurd rfl hne
    obtain ⟨vs, hvs⟩ : ∃ vs, D.tdv k = vs := ⟨_, rfl⟩
    have hta := a.td k
    rw [hvs] at htd hta
    cases htd with
    | @cons v _ vr _ hv htd =>
    obtain ⟨ta, rfl, hta2⟩ := hv
    refine ⟨_, rfl, _, _, rfl, gS_todo (a.oS k), _, _, 0, _, rfl, rfl, SqL.of hta, atI0, ta, _, rfl, SqT.of hta2, rfl, _, _, rfl, _, _, rfl, rfl, ?_⟩
    have ld := Leads.step (k := k) fi b.good
    have stp := step_def (S := S) (W := Y) (k := k)
    rw [hc] at stp es
    have es2 : (if (step S Y k).2 = true then steps S (step S Y k).1 k r.length else (step S Y k).1) = goes S W k := es
    clear es
    -- what is left of a turn that goes on
    have tail : ∀ (H1 : Hp) (D1 : LD) (Y1 : Wo) (u : Int) (R : Hp → Prop), AtL K Hb H1 S L C D1 → LM S H1 D1 Y1 → Tk H H1 → (Y1.sd k).todo = (wd, n) :: r → Y1.tick = Y.tick → step S Y k = (Sm.pass Y1 k u, true) →
        (∀ H' D', AtL K Hb H' S L C D' → LM S H' D' (Sm.pass Y1 k u) → Tk H0 H' → ∃ Y' D'' , AtL K Hb H' S L C D'' ∧ LM S H' D'' Y' ∧ Bt S Y' Pl ∧ Tk H0 H' ∧ Y'.tick = W.tick ∧ i + 1 + (Y'.sd k).todo.length = (W.sd k).todo.length ∧ steps S Y' k (Y'.sd k).todo.length = goes S W k) := by
      intro H1 D1 Y1 u R a1 f1 t1 h1 h2 h3 H' D' a' f' tk'
      rw [h3] at es2 ld
      have es : steps S (Sm.pass Y1 k u) k r.length = goes S W k := es2
      have et2 : ((Sm.pass Y1 k u).sd k).todo = r := by rw [pass_at, h1]; rfl
      rw [hc, List.length_cons] at el
      exact ⟨_, D', a', f', b.leads ld, tk', h2.trans et, by rw [et2]; omega, by rw [et2]; exact es⟩
    cases wd with
    | pa =>
      have T0 : ∃ T, T = (Y.sd k).til.getD (Y.tick + n) := ⟨_, rfl⟩
      obtain ⟨T', hT⟩ := T0
      apply join fun H1 => AtL K Hb H1 S L C { D with til := setB D.til k (some T') } ∧ Tk H H1
      · intro tl
        refine ⟨_, rfl, rfl, _, rfl, iteT ⟨_, rfl, _, _, rfl, gS_until (a.oS k), rfl, ?_⟩⟩
        rw [isN_oV2]
        have etil := f.til k
        cases e : D.til k with
        | none =>
          rw [e] at etil
          refine ⟨_, rfl, iteT ⟨_, rfl, _, rfl, _, _, rfl, rfl, _, rfl, _, _, rfl, pS_until (a.oS k) _, ?_⟩⟩
          obtain ⟨a1, t1⟩ := a.m_until k (some (W.tick + n))
          have eo : oV (some (W.tick + n)) = V.int (W.tick + n) := rfl
          rw [eo] at a1 t1
          refine tl _ ⟨?_, t1⟩
          rw [hT, ← etil, et]
          exact a1
        | some v =>
          rw [e] at etil
          refine ⟨_, rfl, iteF (tl _ ⟨?_, .refl _⟩)⟩
          rw [hT, ← etil]
          show AtL K Hb H S L C { D with til := setB D.til k (some v) }
          rw [← e, setB_self]
          exact a
      · rintro H1 ⟨a1, t1⟩
        have f1 := (f.tk t1).til' (k := k) (some T')
        have eu : setB D.til k (some T') k = some T' := setB_same
        refine ⟨_, rfl, rfl, _, rfl, iteT ⟨_, rfl, _, rfl, _, _, rfl, gS_until (a1.oS k), W.tick, T', rfl, by dsimp only; rw [eu]; rfl, _, rfl, ?_⟩⟩
        refine ite_dec (fun c1 => ?_) (fun c1 => ?_)
        · have stp : step S Y k = (Y.put k { Y.sd k with til := some T' }, false) := by
            rw [stp]
            show (if Y.tick < (Y.sd k).til.getD (Y.tick + n) then (Y.put k { Y.sd k with til := some ((Y.sd k).til.getD (Y.tick + n)) }, false) else (Sm.pass Y k 0, true)) = _
            rw [← hT, et, if_pos c1]
          rw [stp] at es2
          have es : Y.put k { Y.sd k with til := some T' } = goes S W k := es2
          exact iteT (q H1 _ a1 (es ▸ f1) (tk.trans t1))
        · have stp : step S Y k = (Sm.pass (Y.put k { Y.sd k with til := some T' }) k 0, true) := by
            rw [stp]
            show (if Y.tick < (Y.sd k).til.getD (Y.tick + n) then (Y.put k { Y.sd k with til := some ((Y.sd k).til.getD (Y.tick + n)) }, false) else (Sm.pass Y k 0, true)) = _
            rw [← hT, et, if_neg c1, put_pass]
            rfl
          refine ⟨_, rfl, rfl, _, rfl, iteF (iteF ⟨_, rfl, rfl, _, rfl, iteF ?_⟩)⟩
          have h1 : ((Y.put k { Y.sd k with til := some T' }).sd k).todo = (.pa, n) :: r := by rw [Wo.put_same]; exact hc
          have h2 : (Y.put k { Y.sd k with til := some T' }).tick = Y.tick := rfl
          have h3 := stp
          have h4 : ({ D with til := setB D.til k (some T') } : LD).tdv k = .ref ta :: vr := hvs
          generalize Y.put k { Y.sd k with til := some T' } = Y1 at f1 h1 h2 h3
          generalize { D with til := setB D.til k (some T') } = D1 at a1 f1 h4
          refine ⟨_, rfl, _, _, rfl, gS_used (a1.oS k), _, rfl, rfl, _, rfl, iteF ⟨_, _, rfl, rfl, ?_⟩⟩
          refine ⟨_, rfl, _, _, rfl, pS_used (a1.oS k) _, ?_⟩
          obtain ⟨a2, t2⟩ := a1.m_used k (D1.used k + 0)
          generalize upd H1 (L (3 + kN k)) _ = H2 at a2 t2 ⊢
          have hta1 := a2.td k
          have e4 : ({ D1 with used := setB D1.used k (D1.used k + 0) } : LD).tdv k = .ref ta :: vr := h4
          rw [e4] at hta1
          refine ⟨_, rfl, _, _, rfl, gS_todo (a2.oS k), 1, rfl, _, _, rfl, SqL.of hta1, fun l nl => ?_⟩
          have kl : Ke H2 (upd H2 l (.lst (cutV (.ref ta :: vr) (some 1) none))) := .new nl
          have hl : (upd H2 l (.lst (cutV (.ref ta :: vr) (some 1) none))) l = some (.lst vr) := by rw [upd_same, cut1]
          have xl : ∀ i, i < 5 → L i ≠ l := fun i hi => by
            rcases a2.kind hi with ⟨_, z⟩ | ⟨_, z⟩ <;> exact ne_of_none z nl
          generalize upd H2 l _ = H3 at kl hl ⊢
          have a3 := a2.ke kl
          refine ⟨by show 2 ≤ sizeLine; decide, fun t nt => ?_⟩
          have kt : Ke H3 (upd H3 t (.tup [.non, .ref l])) := .new nt
          have ht : (upd H3 t (.tup [.non, .ref l])) t = some (.tup [.non, .ref l]) := upd_same
          generalize upd H3 t _ = H4 at kt ht ⊢
          have a4 := a3.ke kt
          refine ⟨t, _, rfl, SqT.of ht, rfl, _, _, rfl, _, rfl, _, _, rfl, pS_until (a4.oS k) _, ?_⟩
          obtain ⟨a5, t5⟩ := a4.m_until k none
          have e9 : oV none = V.non := rfl
          rw [e9] at a5 t5
          dsimp only at a5 t5 ⊢
          have hl5 : (upd H4 (L (3 + kN k)) (.dK (sideL (.ref (D1.td k)) (.int (D1.kept k)) (.int (D1.out k)) (.int (D1.known k)) (.int (D1.small k)) (.int (D1.come k)) (.int (setB D1.used k (D1.used k + 0) k)) (.int (D1.full k)) (oV (D1.since k)) .non (oV (D1.fin k))))) l = some (.lst vr) := by
            rw [upd_ne (fun q => xl _ (by cases k <;> decide) q.symm)]
            exact kt.lst hl
          generalize upd H4 (L (3 + kN k)) _ = H5 at a5 t5 hl5 ⊢
          refine ⟨_, _, rfl, _, rfl, _, _, rfl, pS_todo (a5.oS k) _, ?_⟩
          obtain ⟨a6, t6⟩ := a5.m_todo k hl5 xl
          dsimp only at a6 t6 ⊢
          generalize upd H5 (L (3 + kN k)) _ = H6 at a6 t6 ⊢
          have t16 : Tk H1 H6 := t2.trans (kl.tk.trans (kt.tk.trans (t5.trans t6)))
          have td6 : TodoV H6 vr r := TodoV.tk htd (t1.trans t16)
          have h6 := a6.td k
          have e6 : setB D1.td k l k = l := setB_same
          have e7 : setB D1.tdv k vr k = vr := setB_same
          dsimp only at h6
          rw [e6, e7] at h6
          refine ⟨rfl, _, rfl, _, _, rfl, gS_todo (a6.oS k), Nat.zero_le _, fun em nem => ?_⟩
          have ke : Ke H6 (upd H6 em (.lst [])) := .new nem
          have hem : (upd H6 em (.lst [])) em = some (.lst []) := upd_same
          generalize upd H6 em _ = H7 at ke hem ⊢
          have a7 := a6.ke ke
          refine ⟨_, _, by dsimp only; rw [e6]; exact todo_dp (ke.lst h6) (td6.tk ke.tk), Dp.lst (SqL.of hem) .nil, todo_shaped r, by decide +kernel, _, rfl, ?_⟩
          rw [todo_eqv]
          have f7 := f1.tk (t16.trans ke.tk)
          have t07 := tk.trans (t1.trans (t16.trans ke.tk))
          refine ite_dec (fun c1 => ?_) (fun c1 => ?_)
          · refine ⟨_, rfl, _, rfl, _, _, rfl, pS_end (a7.oS k) _, ?_⟩
            obtain ⟨a8, t8⟩ := a7.m_end k (some W.tick)
            dsimp only at a8
            refine (fun ⟨Y', D'', z1, z2, z3, z4, z5, z6, z7⟩ => ⟨Y', D'', _, _, _, rfl, z1, z2, z3, z4, z5, z6, z7⟩) (tail _ D1 Y1 0 (fun _ => True) a1 f1 t1 h1 h2 h3 _ _ a8 (LM.pass (f7.tk t8) (by rw [h1]; exact (td6.tk ke.tk).tk t8) (by rw [h1]; show some W.tick = if r = [] then some Y1.tick else none; rw [if_pos c1, h2, et])) (t07.trans t8))
          · refine ⟨_, rfl, _, _, rfl, pS_end (a7.oS k) _, ?_⟩
            obtain ⟨a8, t8⟩ := a7.m_end k none
            dsimp only at a8
            refine (fun ⟨Y', D'', z1, z2, z3, z4, z5, z6, z7⟩ => ⟨Y', D'', _, _, _, rfl, z1, z2, z3, z4, z5, z6, z7⟩) (tail _ D1 Y1 0 (fun _ => True) a1 f1 t1 h1 h2 h3 _ _ a8 (LM.pass (f7.tk t8) (by rw [h1]; exact (td6.tk ke.tk).tk t8) (by rw [h1]; show none = if r = [] then some Y1.tick else none; rw [if_neg c1])) (t07.trans t8))
    | rd =>
      refine ⟨_, rfl, rfl, _, rfl, iteF ⟨_, rfl, rfl, _, rfl, iteF (iteF ⟨_, rfl, rfl, _, rfl, iteT ⟨_, rfl, _, _, rfl, gS_come (a.oS k), _, rfl, _, _, rfl, gS_used (a.oS k), _, _, rfl, rfl, _, rfl, _, _, rfl, rfl, _, rfl, ?_⟩⟩)⟩⟩
      rw [f.come, f.used]
      refine ite_dec (fun c1 => ?_) (fun c1 => ?_)
      · have stp : step S Y k = (Y, false) := by
          rw [stp]
          show (if (Y.sd k).come - (Y.sd k).used < n then _ else _) = _
          rw [if_pos c1]
        rw [stp] at es2
        have es : Y = goes S W k := es2
        exact q H _ a (es ▸ f) tk
      · have h3 : step S Y k = (Sm.pass Y k n, true) := by
          rw [stp]
          show (if (Y.sd k).come - (Y.sd k).used < n then _ else _) = _
          rw [if_neg c1]
        refine ⟨_, rfl, rfl, _, rfl, iteF ?_⟩
        have h1 := hc
        have h2 : Y.tick = Y.tick := rfl
        have h4 := hvs
        have t1 : Tk H H := .refl H
        have a1 := a
        have f1 := f
        obtain ⟨H1, eH⟩ : ∃ H1, H1 = H := ⟨_, rfl⟩
        obtain ⟨D1, eD⟩ : ∃ D1, D1 = D := ⟨_, rfl⟩
        obtain ⟨Y1, eY⟩ : ∃ Y1, Y1 = Y := ⟨_, rfl⟩
        have t1 : Tk H H1 := by rw [eH]; exact t1
        rw [← eH, ← eD] at a1
        rw [← eH, ← eD, ← eY] at f1
        rw [← eD] at h4
        have h1 : (Y1.sd k).todo = (.rd, n) :: r := by rw [eY]; exact h1
        have h2 : Y1.tick = Y.tick := by rw [eY]
        have h3 : step S Y k = (Sm.pass Y1 k n, true) := by rw [h3, eY]
        rw [← eH]
        refine ⟨_, rfl, _, _, rfl, gS_used (a1.oS k), _, rfl, rfl, _, rfl, iteT ⟨_, rfl, _, _, rfl, rfl, ?_⟩⟩
        refine ⟨_, rfl, _, _, rfl, pS_used (a1.oS k) _, ?_⟩
        obtain ⟨a2, t2⟩ := a1.m_used k (D1.used k + n)
        generalize upd H1 (L (3 + kN k)) _ = H2 at a2 t2 ⊢
        have hta1 := a2.td k
        have e4 : ({ D1 with used := setB D1.used k (D1.used k + n) } : LD).tdv k = .ref ta :: vr := h4
        rw [e4] at hta1
        refine ⟨_, rfl, _, _, rfl, gS_todo (a2.oS k), 1, rfl, _, _, rfl, SqL.of hta1, fun l nl => ?_⟩
        have kl : Ke H2 (upd H2 l (.lst (cutV (.ref ta :: vr) (some 1) none))) := .new nl
        have hl : (upd H2 l (.lst (cutV (.ref ta :: vr) (some 1) none))) l = some (.lst vr) := by rw [upd_same, cut1]
        have xl : ∀ i, i < 5 → L i ≠ l := fun i hi => by
          rcases a2.kind hi with ⟨_, z⟩ | ⟨_, z⟩ <;> exact ne_of_none z nl
        generalize upd H2 l _ = H3 at kl hl ⊢
        have a3 := a2.ke kl
        refine ⟨by show 2 ≤ sizeLine; decide, fun t nt => ?_⟩
        have kt : Ke H3 (upd H3 t (.tup [.non, .ref l])) := .new nt
        have ht : (upd H3 t (.tup [.non, .ref l])) t = some (.tup [.non, .ref l]) := upd_same
        generalize upd H3 t _ = H4 at kt ht ⊢
        have a4 := a3.ke kt
        refine ⟨t, _, rfl, SqT.of ht, rfl, _, _, rfl, _, rfl, _, _, rfl, pS_until (a4.oS k) _, ?_⟩
        obtain ⟨a5, t5⟩ := a4.m_until k none
        have e9 : oV none = V.non := rfl
        rw [e9] at a5 t5
        dsimp only at a5 t5 ⊢
        have hl5 : (upd H4 (L (3 + kN k)) (.dK (sideL (.ref (D1.td k)) (.int (D1.kept k)) (.int (D1.out k)) (.int (D1.known k)) (.int (D1.small k)) (.int (D1.come k)) (.int (setB D1.used k (D1.used k + n) k)) (.int (D1.full k)) (oV (D1.since k)) .non (oV (D1.fin k))))) l = some (.lst vr) := by
          rw [upd_ne (fun q => xl _ (by cases k <;> decide) q.symm)]
          exact kt.lst hl
        generalize upd H4 (L (3 + kN k)) _ = H5 at a5 t5 hl5 ⊢
        refine ⟨_, _, rfl, _, rfl, _, _, rfl, pS_todo (a5.oS k) _, ?_⟩
        obtain ⟨a6, t6⟩ := a5.m_todo k hl5 xl
        dsimp only at a6 t6 ⊢
        generalize upd H5 (L (3 + kN k)) _ = H6 at a6 t6 ⊢
        have t16 : Tk H1 H6 := t2.trans (kl.tk.trans (kt.tk.trans (t5.trans t6)))
        have td6 : TodoV H6 vr r := TodoV.tk htd (t1.trans t16)
        have h6 := a6.td k
        have e6 : setB D1.td k l k = l := setB_same
        have e7 : setB D1.tdv k vr k = vr := setB_same
        dsimp only at h6
        rw [e6, e7] at h6
        refine ⟨rfl, _, rfl, _, _, rfl, gS_todo (a6.oS k), Nat.zero_le _, fun em nem => ?_⟩
        have ke : Ke H6 (upd H6 em (.lst [])) := .new nem
        have hem : (upd H6 em (.lst [])) em = some (.lst []) := upd_same
        generalize upd H6 em _ = H7 at ke hem ⊢
        have a7 := a6.ke ke
        refine ⟨_, _, by dsimp only; rw [e6]; exact todo_dp (ke.lst h6) (td6.tk ke.tk), Dp.lst (SqL.of hem) .nil, todo_shaped r, by decide +kernel, _, rfl, ?_⟩
        rw [todo_eqv]
        have f7 := f1.tk (t16.trans ke.tk)
        have t07 := tk.trans (t1.trans (t16.trans ke.tk))
        refine ite_dec (fun c1 => ?_) (fun c1 => ?_)
        · refine ⟨_, rfl, _, rfl, _, _, rfl, pS_end (a7.oS k) _, ?_⟩
          obtain ⟨a8, t8⟩ := a7.m_end k (some W.tick)
          dsimp only at a8
          refine (fun ⟨Y', D'', z1, z2, z3, z4, z5, z6, z7⟩ => ⟨Y', D'', _, _, _, rfl, z1, z2, z3, z4, z5, z6, z7⟩) (tail _ D1 Y1 n (fun _ => True) a1 f1 t1 h1 h2 h3 _ _ a8 (LM.pass (f7.tk t8) (by rw [h1]; exact (td6.tk ke.tk).tk t8) (by rw [h1]; show some W.tick = if r = [] then some Y1.tick else none; rw [if_pos c1, h2, et])) (t07.trans t8))
        · refine ⟨_, rfl, _, _, rfl, pS_end (a7.oS k) _, ?_⟩
          obtain ⟨a8, t8⟩ := a7.m_end k none
          dsimp only at a8
          refine (fun ⟨Y', D'', z1, z2, z3, z4, z5, z6, z7⟩ => ⟨Y', D'', _, _, _, rfl, z1, z2, z3, z4, z5, z6, z7⟩) (tail _ D1 Y1 n (fun _ => True) a1 f1 t1 h1 h2 h3 _ _ a8 (LM.pass (f7.tk t8) (by rw [h1]; exact (td6.tk ke.tk).tk t8) (by rw [h1]; show none = if r = [] then some Y1.tick else none; rw [if_neg c1])) (t07.trans t8))
    | wr =>
      refine ⟨_, rfl, rfl, _, rfl, iteF ⟨_, rfl, rfl, _, rfl, iteF (iteF ⟨_, rfl, rfl, _, rfl, iteF (iteF ⟨_, rfl, rfl, _, rfl, iteT ⟨_, rfl, _, _, rfl, gS_kept (a.oS k), _, rfl, _, _, rfl, rfl, _, rfl, _, _, rfl, pS_kept (a.oS k) _, ?_⟩⟩)⟩)⟩⟩
      obtain ⟨a0, t0⟩ := a.m_kept k (D.kept k + n)
      generalize upd H (L (3 + kN k)) _ = H0' at a0 t0 ⊢
      have f0 := (f.tk t0).kept' (k := k) (D.kept k + n)
      rw [f.kept] at f0 a0
      refine ⟨_, rfl, _, rfl, _, _, rfl, Hb, S, L, C, _, _, k, Pl, rfl, rfl, B, a0, f0, b.write hc, fun H1 D1 a1 f1 t1' => ?_⟩
      have t1 := t0.trans t1'
      obtain ⟨r1, r2, r3, _, _, _, _, r8⟩ := free_rest (S := S) (W := Y.put k { Y.sd k with kept := (Y.sd k).kept + n }) (k := k)
      have h1 : ((free S (Y.put k { Y.sd k with kept := (Y.sd k).kept + n }) k).sd k).todo = (.wr, n) :: r := by rw [r1, Wo.put_same]; exact hc
      have h2 : (free S (Y.put k { Y.sd k with kept := (Y.sd k).kept + n }) k).tick = Y.tick := r8
      have h3 : step S Y k = (Sm.pass (free S (Y.put k { Y.sd k with kept := (Y.sd k).kept + n }) k) k 0, true) := stp
      have htd1 := f1.td k
      rw [h1] at htd1
      obtain ⟨vs1, h4⟩ : ∃ vs1, D1.tdv k = vs1 := ⟨_, rfl⟩
      rw [h4] at htd1
      cases htd1 with
      | @cons v1 _ vr _ hv1 htd1 =>
      obtain ⟨ta, rfl, _⟩ := hv1
      generalize free S (Y.put k { Y.sd k with kept := (Y.sd k).kept + n }) k = Y1 at f1 h1 h2 h3
      refine ⟨_, rfl, _, _, rfl, gS_used (a1.oS k), _, rfl, rfl, _, rfl, iteF ⟨_, _, rfl, rfl, ?_⟩⟩
      refine ⟨_, rfl, _, _, rfl, pS_used (a1.oS k) _, ?_⟩
      obtain ⟨a2, t2⟩ := a1.m_used k (D1.used k + 0)
      generalize upd H1 (L (3 + kN k)) _ = H2 at a2 t2 ⊢
      have hta1 := a2.td k
      have e4 : ({ D1 with used := setB D1.used k (D1.used k + 0) } : LD).tdv k = .ref ta :: vr := h4
      rw [e4] at hta1
      refine ⟨_, rfl, _, _, rfl, gS_todo (a2.oS k), 1, rfl, _, _, rfl, SqL.of hta1, fun l nl => ?_⟩
      have kl : Ke H2 (upd H2 l (.lst (cutV (.ref ta :: vr) (some 1) none))) := .new nl
      have hl : (upd H2 l (.lst (cutV (.ref ta :: vr) (some 1) none))) l = some (.lst vr) := by rw [upd_same, cut1]
      have xl : ∀ i, i < 5 → L i ≠ l := fun i hi => by
        rcases a2.kind hi with ⟨_, z⟩ | ⟨_, z⟩ <;> exact ne_of_none z nl
      generalize upd H2 l _ = H3 at kl hl ⊢
      have a3 := a2.ke kl
      refine ⟨by show 2 ≤ sizeLine; decide, fun t nt => ?_⟩
      have kt : Ke H3 (upd H3 t (.tup [.non, .ref l])) := .new nt
      have ht : (upd H3 t (.tup [.non, .ref l])) t = some (.tup [.non, .ref l]) := upd_same
      generalize upd H3 t _ = H4 at kt ht ⊢
      have a4 := a3.ke kt
      refine ⟨t, _, rfl, SqT.of ht, rfl, _, _, rfl, _, rfl, _, _, rfl, pS_until (a4.oS k) _, ?_⟩
      obtain ⟨a5, t5⟩ := a4.m_until k none
      have e9 : oV none = V.non := rfl
      rw [e9] at a5 t5
      dsimp only at a5 t5 ⊢
      have hl5 : (upd H4 (L (3 + kN k)) (.dK (sideL (.ref (D1.td k)) (.int (D1.kept k)) (.int (D1.out k)) (.int (D1.known k)) (.int (D1.small k)) (.int (D1.come k)) (.int (setB D1.used k (D1.used k + 0) k)) (.int (D1.full k)) (oV (D1.since k)) .non (oV (D1.fin k))))) l = some (.lst vr) := by
        rw [upd_ne (fun q => xl _ (by cases k <;> decide) q.symm)]
        exact kt.lst hl
      generalize upd H4 (L (3 + kN k)) _ = H5 at a5 t5 hl5 ⊢
      refine ⟨_, _, rfl, _, rfl, _, _, rfl, pS_todo (a5.oS k) _, ?_⟩
      obtain ⟨a6, t6⟩ := a5.m_todo k hl5 xl
      dsimp only at a6 t6 ⊢
      generalize upd H5 (L (3 + kN k)) _ = H6 at a6 t6 ⊢
      have t16 : Tk H1 H6 := t2.trans (kl.tk.trans (kt.tk.trans (t5.trans t6)))
      have td6 : TodoV H6 vr r := TodoV.tk htd1 t16
      have h6 := a6.td k
      have e6 : setB D1.td k l k = l := setB_same
      have e7 : setB D1.tdv k vr k = vr := setB_same
      dsimp only at h6
      rw [e6, e7] at h6
      refine ⟨rfl, _, rfl, _, _, rfl, gS_todo (a6.oS k), Nat.zero_le _, fun em nem => ?_⟩
      have ke : Ke H6 (upd H6 em (.lst [])) := .new nem
      have hem : (upd H6 em (.lst [])) em = some (.lst []) := upd_same
      generalize upd H6 em _ = H7 at ke hem ⊢
      have a7 := a6.ke ke
      refine ⟨_, _, by dsimp only; rw [e6]; exact todo_dp (ke.lst h6) (td6.tk ke.tk), Dp.lst (SqL.of hem) .nil, todo_shaped r, by decide +kernel, _, rfl, ?_⟩
      rw [todo_eqv]
      have f7 := f1.tk (t16.trans ke.tk)
      have t07 := tk.trans (t1.trans (t16.trans ke.tk))
      refine ite_dec (fun c1 => ?_) (fun c1 => ?_)
      · refine ⟨_, rfl, _, rfl, _, _, rfl, pS_end (a7.oS k) _, ?_⟩
        obtain ⟨a8, t8⟩ := a7.m_end k (some W.tick)
        dsimp only at a8
        refine (fun ⟨Y', D'', z1, z2, z3, z4, z5, z6, z7⟩ => ⟨Y', D'', _, _, _, rfl, z1, z2, z3, z4, z5, z6, z7⟩) (tail _ D1 Y1 0 (fun _ => True) a1 f1 t1 h1 h2 h3 _ _ a8 (LM.pass (f7.tk t8) (by rw [h1]; exact (td6.tk ke.tk).tk t8) (by rw [h1]; show some W.tick = if r = [] then some Y1.tick else none; rw [if_pos c1, h2, et])) (t07.trans t8))
      · refine ⟨_, rfl, _, _, rfl, pS_end (a7.oS k) _, ?_⟩
        obtain ⟨a8, t8⟩ := a7.m_end k none
        dsimp only at a8
        refine (fun ⟨Y', D'', z1, z2, z3, z4, z5, z6, z7⟩ => ⟨Y', D'', _, _, _, rfl, z1, z2, z3, z4, z5, z6, z7⟩) (tail _ D1 Y1 0 (fun _ => True) a1 f1 t1 h1 h2 h3 _ _ a8 (LM.pass (f7.tk t8) (by rw [h1]; exact (td6.tk ke.tk).tk t8) (by rw [h1]; show none = if r = [] then some Y1.tick else none; rw [if_neg c1])) (t07.trans t8))

  · obtain ⟨Y, D, s4, s5, s6, rfl, a, f, b, tk, et, el, es⟩ := p
    have e0 : (Y.sd k).todo.length = 0 := by
      rw [Int.toNat_natCast] at el
      omega
    rw [e0] at es
    have es : Y = goes S W k := es
    exact q H D a (es ▸ f) tk
end
end Sm

/-! The law: a tick. -/
namespace Sm
open PySem PySem.Spec PyProof.Rows L2
section
variable {K : PySem.W.Frag} {Hb H H' : Hp} {S : Sh} {L : Nat → Addr} {C : LC} {D D' : LD}
theorem LCok.ke {Hb' : Hp} (h : LCok K Hb S C) (k : Ke Hb Hb') : LCok K Hb' S C := ⟨k.sqt h.shp, fun j => k.sqt (h.wa j)⟩
theorem AtL.re (h : AtL K Hb H S L C D) (k : Ke H H') : ∃ Hb', AtL K Hb' H' S L C D ∧ Ke Hb Hb' ∧ ∀ a o, H' a = some o → (∀ i, i < 5 → a ≠ L i) → Hb' a = some o := by
  have h' := h.ke k
  obtain ⟨Hb', k1, k2, e1, e2⟩ := without (fun a => ∃ i, i < 5 ∧ a = L i) h'.base (fun a ⟨i, hi, e⟩ => e ▸ h.nb i hi) (fun a ⟨i, hi, e⟩ => e ▸ h'.noCode hi)
  exact ⟨Hb', ⟨h.ok.ke k1, k2, h.inj, fun i hi => e1 _ ⟨i, hi, rfl⟩, h'.ob, h'.td, h.xtd⟩, k1, fun a o ha n => by rw [e2 a (fun ⟨i, hi, e⟩ => n i hi e)]; exact ha⟩
theorem AtL.back {Hb' : Hp} {H0 : Hp} {D0 : LD} (h : AtL K Hb' H S L C D) (h0 : AtL K Hb H0 S L C D0) (kb : Ke Hb Hb') : AtL K Hb H S L C D :=
  ⟨h0.ok, kb.trans h.base, h.inj, h0.nb, h.ob, h.td, h.xtd⟩
theorem AtL.new (h : AtL K Hb H S L C D) {x : Addr} {o : HO} (hx : H x = none) : ∃ Hb', AtL K Hb' (upd H x o) S L C D ∧ Ke Hb Hb' ∧ Hb' x = some o := by
  obtain ⟨Hb', a, k, st⟩ := h.re (.new (o := o) hx)
  exact ⟨Hb', a, k, st x o upd_same fun i hi e => by rcases h.kind hi with ⟨_, z⟩ | ⟨_, z⟩ <;> rw [e, z] at hx <;> cases hx⟩
end
theorem LM.land {S : Sh} {H : Hp} {D : LD} {W : Wo} (p : Pc) {k : Bool} {kn co fu : Int} {si : Option Int} (hk : k = !p.k) (fm : LM S H D W) (e1 : kn = max (W.sd k).known p.a) (e2 : co = (W.sd k).come + p.m) (e3 : fu = (W.sd k).full + (if p.m = S.size then 1 else 0)) (e4 : si = if 0 < p.m ∧ (W.sd k).since = none then some W.tick else (W.sd k).since) :
    LM S H { D with known := setB D.known k kn, come := setB D.come k co, full := setB D.full k fu, since := setB D.since k si } (Sm.land S W p) := by
  subst hk
  subst e1 e2 e3 e4
  refine ⟨fm.tick, LM.keep Sd.kept fm.kept rfl, LM.keep Sd.out fm.out rfl, LM.set Sd.known fm.known rfl, LM.keep Sd.small fm.small rfl, LM.set Sd.come fm.come rfl, LM.keep Sd.used fm.used rfl, LM.set Sd.full fm.full rfl, LM.set Sd.since fm.since rfl, LM.keep Sd.til fm.til rfl, LM.keep Sd.fin fm.fin rfl, fun j => ?_, fm.lg⟩
  have e : ((Sm.land S W p).sd j).todo = (W.sd j).todo := (LM.keep (W := W) (k := !p.k) (s := { W.sd (!p.k) with known := max (W.sd (!p.k)).known p.a, come := (W.sd (!p.k)).come + p.m, full := (W.sd (!p.k)).full + (if p.m = S.size then 1 else 0), since := if 0 < p.m ∧ (W.sd (!p.k)).since = none then some W.tick else (W.sd (!p.k)).since }) Sd.todo (fun _ => rfl) rfl j).symm
  rw [e]
  exact fm.td j
theorem two_of {i : Nat} {v : V} (h : [V.int 0, V.int 1][i]? = some v) : ∃ k, v = .int (kI k) ∧ i = kN k := by
  match i, h with
  | 0, h => cases h; exact ⟨false, rfl, rfl⟩
  | 1, h => cases h; exact ⟨true, rfl, rfl⟩
  | i + 2, h => simp at h
theorem lands_tick {S : Sh} : ∀ (l : List Pc) {W : Wo}, (l.foldl (land S) W).tick = W.tick
  | [], _ => rfl
  | p :: l, W => by
    show (l.foldl (land S) (Sm.land S W p)).tick = _
    rw [lands_tick l]
    rfl
theorem lands_todo {S : Sh} : ∀ (l : List Pc) {W : Wo} (k : Bool), ((l.foldl (land S) W).sd k).todo = (W.sd k).todo
  | [], _, _ => rfl
  | p :: l, W, k => by
    show ((l.foldl (land S) (Sm.land S W p)).sd k).todo = _
    rw [lands_todo l k]
    show ((W.put (!p.k) _).sd k).todo = _
    rcases Sm.two (!p.k) k with rfl | rfl
    · rw [Wo.put_same]
    · rw [Wo.put_other]
section
variable {P : Program} {w : World} {K : PySem.W.Frag} {mg : Str → Option Value} {base : Heap}
abbrev N_law_tick : List Str := ["_law_world", "_law_tick_here", "_law_shape", "_law_later", "_law_born", "_law_k", "_law_many", "_law_known", "_law_there", "_law_here", "_law_ways_here", "_law_piece"]
theorem sc_law_tick : FnScope N_law_tick ["_law_world"] (defScope s_law_tick) := ⟨rfl, rfl, rfl, by decide +kernel, rfl, by decide +kernel, by decide +kernel⟩
theorem ok_law_tick (T : Tx K mg w) : Okf P w K mg base "_law_tick" ["_law_world"] 4 (sp1 fun wv H Q => ∃ Hb S L C D W, wv = .ref (L 0) ∧ Bd S ∧ AtL K Hb H S L C D ∧ LM S H D W ∧ Bt S W (landing S W) ∧ (∀ k, (W.sd k).todo.length ≤ 6) ∧
    ∀ H' D' r, AtL K Hb H' S L C D' → LM S H' D' (tickW S W) → H' r = some (.lst ((later S (tickW S W)).map V.int)) → (∀ i, i < 5 → r ≠ L i) → Q (.ref r) H') := by
  have O_law_free := ok_law_free (P := P) (w := w) (base := base) T
  have O_law_steps := ok_law_steps (P := P) (w := w) (base := base) T
  have O_law_send := ok_law_send (P := P) (w := w) (base := base) T
  refine mkF T ix_law_tick rfl T.g_law_tick sc_law_tick (fun _ _ _ _ _ _ us hl => match us, hl with | [_], _ => rfl) len1 (fun cdv A outer s0 H0 E vs Q hr h => ?_)
  refine ⟨_, (pss_cons (ps_asg (pe_tup (pa_cons (pe_dget (hu_of hr) (pv 0) pe_str (fun _ _ => rfl)) (pa_cons (pe_dget (hu_of hr) (pv 0) pe_str (fun _ _ => rfl)) (pa_cons (pe_lst pa_nil) pa_nil)))) (pg_tup (by rfl) (pgs_cons (pg_name (i := 1) sc_law_tick.nd rfl (Or.inr rfl)) (pgs_cons (pg_name (i := 2) sc_law_tick.nd rfl (Or.inr rfl)) (pgs_cons (pg_name (i := 3) sc_law_tick.nd rfl (Or.inl rfl)) pgs_nil)))))
    (pss_cons (ps_for PassesOwn.never rfl (piL K (pe_lc (own := [(("_law_piece" : Str), 11)]) (by rfl) sc_law_tick.nd (piL K (pe_dget (hu_of hr) (pv 0) pe_str (fun _ _ => rfl))) (blkOk_by (own := [(("_law_piece" : Str), 11)]) (N := N_law_tick) (sc := defScope s_law_tick) (by decide +kernel)) (fun _ _ _ _ _ => pg_name (i := 11) sc_law_tick.nd rfl (Or.inl rfl)) (fun _ _ _ _ _ => pts_one (pt_cmpR op_eq (pe_op op_add (pe_ix (ixT K) (pv 11) pe_int (fun _ _ => rfl)) (pe_ix (ixT K) (pv 2) pe_int (fun _ _ => rfl))) (pv 1) (nomark _))) (fun _ _ _ _ _ => (pv 11)))) (pg_tup (by rfl) (pgs_cons (pg_name (i := 4) sc_law_tick.nd rfl (Or.inl rfl)) (pgs_cons (pg_name (i := 5) sc_law_tick.nd rfl (Or.inl rfl)) (pgs_cons (pg_name (i := 6) sc_law_tick.nd rfl (Or.inl rfl)) (pgs_cons (pg_name (i := 7) sc_law_tick.nd rfl (Or.inl rfl)) pgs_nil)))))
      (pss_cons (ps_set (i := 8) sc_law_tick.nd rfl (Or.inl rfl) (pe_ix (ixL K) (pe_dget (hu_of hr) (pv 0) pe_str (fun _ _ => rfl)) (pe_op op_sub pe_int (pv 5)) (fun _ _ => rfl)))
    (pss_cons (ps_dput (hu_of hr) (pv 8) pe_str (pe_callB (call_max2 rfl) (by rfl) T.n_max (by decide +kernel) (pa_cons (pe_dget (hu_of hr) (pv 8) pe_str (fun _ _ => rfl)) (pa_cons (pv 7) pa_nil))) rfl)
    (pss_cons (ps_dput (hu_of hr) (pv 8) pe_str (pe_op op_add (pe_dget (hu_of hr) (pv 8) pe_str (fun _ _ => rfl)) (pv 6)) rfl)
    (pss_cons (ps_dput (hu_of hr) (pv 8) pe_str (pe_op op_add (pe_dget (hu_of hr) (pv 8) pe_str (fun _ _ => rfl)) (pe_callTy call_int1 (by rfl) T.n_int (by decide +kernel) (pa_cons (pe_cmpR op_eq (pv 6) (pe_ix (ixT K) (pv 2) pe_int (fun _ _ => rfl)) (nomark _)) pa_nil))) rfl)
    (pss_one (ps_dput (hu_of hr) (pv 8) pe_str (pe_ifExp (PW.pt (pw_and (pt_cmpR op_gt (pv 6) pe_int (nomark _)) (pw_and1 (pt_cmpR op_isN (pe_dget (hu_of hr) (pv 8) pe_str (fun _ _ => rfl)) pe_non (nomark _))))) (pv 1) (pe_dget (hu_of hr) (pv 8) pe_str (fun _ _ => rfl))) rfl)))))))
    (pss_cons (ps_for PassesOwn.never rfl (piL K (pe_lst (pa_cons pe_int (pa_cons pe_int pa_nil)))) (pg_name (i := 5) sc_law_tick.nd rfl (Or.inl rfl))
      (pss_one (ps_expr (pe_f O_law_free (hr.mono (by decide)) (by rfl) (pa_cons (pv 0) (pa_cons (pv 5) pa_nil))))))
    (pss_cons (ps_for PassesOwn.never rfl (piL K (pe_lst (pa_cons pe_int (pa_cons pe_int pa_nil)))) (pg_name (i := 5) sc_law_tick.nd rfl (Or.inl rfl))
      (pss_one (ps_expr (pe_f O_law_steps (hr.mono (by decide)) (by rfl) (pa_cons (pv 0) (pa_cons (pv 5) pa_nil))))))
    (pss_cons (ps_for PassesOwn.never rfl (piL K (pe_lst (pa_cons pe_int (pa_cons pe_int pa_nil)))) (pg_name (i := 5) sc_law_tick.nd rfl (Or.inl rfl))
      (pss_cons (ps_par (i := 9) (j := 10) (by rfl) sc_law_tick.nd rfl rfl (by decide) rfl rfl (pa_cons (pe_ix (ixL K) (pe_dget (hu_of hr) (pv 0) pe_str (fun _ _ => rfl)) (pv 5) (fun _ _ => rfl)) (pa_cons (pe_ix (ixT K) (pv 2) (pe_op op_add pe_int (pv 5)) (fun _ _ => rfl)) pa_nil)) (by rfl))
    (pss_cons (ps_if (PW.pt (pw_or (pt_cmpR op_ge (pe_dget (hu_of hr) (pv 9) pe_str (fun _ _ => rfl)) (pe_ix (ixT K) (pv 10) pe_int (fun _ _ => rfl)) (nomark _)) (pw_or1 (PW.pt (pw_and (pt_cmpR op_notN (pe_dget (hu_of hr) (pv 9) pe_str (fun _ _ => rfl)) pe_non (nomark _)) (pw_and1 (pt_cmpR op_ge (pv 1) (pe_op op_add (pe_dget (hu_of hr) (pv 9) pe_str (fun _ _ => rfl)) (pe_ix (ixT K) (pv 10) pe_int (fun _ _ => rfl))) (nomark _))))))))
      (pss_one (ps_expr (pe_f O_law_send (hr.mono (by decide)) (by rfl) (pa_cons (pv 0) (pa_cons (pv 5) (pa_cons pe_int pa_nil))))))
      pss_nil)
    (pss_cons (ps_set (i := 3) sc_law_tick.nd rfl (Or.inl rfl) (pe_op op_cat (pv 3) (pe_ifExp (pt_cmpR op_notN (pe_dget (hu_of hr) (pv 9) pe_str (fun _ _ => rfl)) pe_non (nomark _)) (pe_lst (pa_cons (pe_op op_add (pe_dget (hu_of hr) (pv 9) pe_str (fun _ _ => rfl)) (pe_ix (ixT K) (pv 10) pe_int (fun _ _ => rfl))) pa_nil)) (pe_lst pa_nil))))
    (pss_one (ps_set (i := 3) sc_law_tick.nd rfl (Or.inl rfl) (pe_op op_cat (pv 3) (pe_ifExp (pt_cmpR op_notN (pe_dget (hu_of hr) (pv 9) pe_str (fun _ _ => rfl)) pe_non (nomark _)) (pe_lst (pa_cons (pe_dget (hu_of hr) (pv 9) pe_str (fun _ _ => rfl)) pa_nil)) (pe_lst pa_nil)))))))))
    (pss_one (ps_ret (pe_op op_cat (pv 3) (pe_lc (own := [(("_law_piece" : Str), 11)]) (by rfl) sc_law_tick.nd (piL K (pe_dget (hu_of hr) (pv 0) pe_str (fun _ _ => rfl))) (blkOk_by (own := [(("_law_piece" : Str), 11)]) (N := N_law_tick) (sc := defScope s_law_tick) (by decide +kernel)) (fun _ _ _ _ _ => pg_name (i := 11) sc_law_tick.nd rfl (Or.inl rfl)) (fun _ _ _ _ _ => pts_one (pt_cmpR op_gt (pe_op op_add (pe_ix (ixT K) (pv 11) pe_int (fun _ _ => rfl)) (pe_ix (ixT K) (pv 2) pe_int (fun _ _ => rfl))) (pv 1) (nomark _))) (fun _ _ _ _ _ => (pe_op op_add (pe_ix (ixT K) (pv 11) pe_int (fun _ _ => rfl)) (pe_ix (ixT K) (pv 2) pe_int (fun _ _ => rfl))))))))))))), ?_⟩
  obtain ⟨_, rfl, Hb, S, L, C, D, W, rfl, B, at0, fm, bt, htd, q⟩ := h
  have fi := B.fine
  have z6 := z6000
  refine ⟨_, rfl, _, _, rfl, gW_tick at0.o0, _, rfl, _, _, rfl, gW_shape at0.o0, Nat.zero_le _, fun lt nlt => ?_⟩
  obtain ⟨Hb1, a1, kb1, hlt⟩ := at0.new (o := .lst []) nlt
  have kn1 : Ke H0 (upd H0 lt (.lst [])) := .new nlt
  generalize upd H0 lt _ = H1 at a1 kn1 ⊢
  refine ⟨by show 3 ≤ sizeLine; decide, fun t nt => ?_⟩
  have kt : Ke H1 (upd H1 t (.tup [.int D.tick, .ref C.shp, .ref lt])) := .new nt
  have ht : (upd H1 t (.tup [.int D.tick, .ref C.shp, .ref lt])) t = some (.tup [.int D.tick, .ref C.shp, .ref lt]) := upd_same
  generalize upd H1 t _ = H2 at kt ht ⊢
  have a2 := a1.ke kt
  refine ⟨t, _, rfl, SqT.of ht, rfl, _, _, rfl, _, _, rfl, _, _, rfl, rfl, ?_⟩
  have fm2 := fm.tk (kn1.tk.trans kt.tk)
  rw [fm.tick]
  have hlg := bt.bnd.log
  have hln : D.lgv.length = W.log.length := Paired.length fm.lg
  -- what arrives
  refine ⟨_, rfl, _, _, rfl, gW_log a2.o0, L 1, rfl, ⟨_, SqL.of a2.o1⟩, lc_l (fun i => selV (fun p : Pc => decide (p.t + S.way = W.tick)) (D.lgv.take i) (W.log.take i)) (SqL.of a2.o1) rfl (fun i hi => ?_) (fun i x H' hx kH Yes No yes no => ?_) (fun E H3 hE k3 hE3 => ?_)⟩
  · have := selV_len (fun p : Pc => decide (p.t + S.way = W.tick)) (D.lgv.take i) (W.log.take i)
    rw [List.length_take] at this
    omega
  · obtain ⟨p, hp, b, rfl, hb⟩ := pgetV fm2.lg hx
    have aH := a2.ke kH
    refine ⟨rfl, _, rfl, b, _, 0, _, rfl, rfl, SqT.of (kH.tup hb), atI0, _, rfl, C.shp, _, 1, _, rfl, rfl, aH.shp, atI1, _, _, rfl, rfl, _, rfl, rfl, _, rfl, ?_⟩
    rw [dec_int']
    have e := selV_take (fun p : Pc => decide (p.t + S.way = W.tick)) _ _ i _ p hx hp
    refine ite_dec (fun hc => ?_) (fun hc => ?_)
    · rw [decide_eq_true hc] at e
      exact ⟨_, rfl, yes _ _ (.refl _) e⟩
    · rw [decide_eq_false hc] at e
      exact no _ (.refl _) (by rw [e]; exact List.append_nil _)
  have hE3 : H3 E = some (.lst (selV (fun p : Pc => decide (p.t + S.way = W.tick)) D.lgv W.log)) := by
    rw [hE3, List.take_length, hln, List.take_length]
  obtain ⟨Hb3, a3, kb3, st3⟩ := a2.re k3
  have hEb := st3 E _ hE3 (fun i hi e => by rcases a2.kind hi with ⟨_, z⟩ | ⟨_, z⟩ <;> rw [← e, hE] at z <;> cases z)
  have fm3 := fm2.tk k3.tk
  have hland : LogV H3 (selV (fun p : Pc => decide (p.t + S.way = W.tick)) D.lgv W.log) (landing S W) := selV_pair _ fm3.lg
  generalize selV (fun p : Pc => decide (p.t + S.way = W.tick)) D.lgv W.log = ev at hE3 hEb hland
  have hlen : ev.length = (landing S W).length := Paired.length hland
  have hlt3 : Hb3 lt = some (.lst []) := kb3.lst hlt
  refine ⟨E, rfl, ⟨_, SqL.of hE3⟩, for_list (K := K) (xs := ev) (fun i σ H => ∃ D' s4 s5 s6 s7 s8 s9 s10 s11, σ = [some (.ref (L 0)), some (.int W.tick), some (.ref C.shp), some (.ref lt), s4, s5, s6, s7, s8, s9, s10, s11] ∧ AtL K Hb3 H S L C D' ∧ LM S H D' (((landing S W).take i).foldl (land S) W) ∧ Tk H3 H)
    ⟨_, _, _, _, _, _, _, _, _, rfl, a3, fm3, .refl _⟩ (fun i σ H _ p => ?_) (fun i v σ H hi p => ?_) (fun σ H p => ?_)⟩
  · obtain ⟨D', s4, s5, s6, s7, s8, s9, s10, s11, rfl, a, _⟩ := p
    exact SqL.of (a.base.lst hEb)
  · obtain ⟨D', s4, s5, s6, s7, s8, s9, s10, s11, rfl, a, f, tk⟩ := p
    obtain ⟨p, hp, b, rfl, hb⟩ := pgetV hland hi
    have hpm := (bt.good.ans p (.inr (List.mem_of_getElem? hp))).2
    obtain ⟨k, ek⟩ : ∃ k, k = !p.k := ⟨_, rfl⟩
    have e1 : (1 : Int) - kI p.k = kI k := by rw [ek]; cases p.k <;> rfl
    refine ⟨b, _, rfl, SqT.of (tk _ _ hb), rfl, _, _, rfl, _, _, rfl, _, _, rfl, _, _, rfl, rfl, ?_⟩
    refine ⟨_, rfl, _, _, rfl, gW_sides a.o0, _, rfl, _, _, rfl, rfl, L 2, _, _, .ref (L (3 + kN k)), rfl, rfl, SqL.of a.o2, by rw [e1]; exact atK _ k, ?_⟩
    have hYt := lands_tick (S := S) ((landing S W).take i) (W := W)
    obtain ⟨Y, eY⟩ : ∃ Y, Y = (((landing S W).take i).foldl (land S) W) := ⟨_, rfl⟩
    rw [← eY] at f hYt
    refine ⟨_, rfl, _, _, rfl, gS_known (a.oS k), _, rfl, _, _, rfl, _, rfl, _, _, rfl, pS_known (a.oS k) _, ?_⟩
    obtain ⟨a1, t1⟩ := a.m_known k (if p.a > D'.known k then p.a else D'.known k)
    generalize upd H (L (3 + kN k)) _ = G1 at a1 t1 ⊢
    refine ⟨_, rfl, _, _, rfl, gS_come (a1.oS k), _, rfl, _, _, rfl, rfl, _, rfl, _, _, rfl, pS_come (a1.oS k) _, ?_⟩
    obtain ⟨a2, t2⟩ := a1.m_come k (D'.come k + p.m)
    dsimp only at a2 t2 ⊢
    generalize upd G1 (L (3 + kN k)) _ = G2 at a2 t2 ⊢
    refine ⟨_, rfl, _, _, rfl, gS_full (a2.oS k), _, rfl, _, rfl, C.shp, _, 0, _, rfl, rfl, a2.shp, atI0, rfl, .inr ⟨_, rfl, _, _, rfl, rfl, _, rfl, _, _, rfl, pS_full (a2.oS k) _, ?_⟩⟩
    rw [dec_int']
    obtain ⟨a3', t3⟩ := a2.m_full k (D'.full k + (if decide (p.m = S.size) = true then 1 else 0))
    dsimp only at a3' t3 ⊢
    generalize upd G2 (L (3 + kN k)) _ = G3 at a3' t3 ⊢
    have t03 : Tk H G3 := t1.trans (t2.trans t3)
    have done : ∀ si G4, AtL K Hb3 G4 S L C { D' with known := setB D'.known k (if p.a > D'.known k then p.a else D'.known k), come := setB D'.come k (D'.come k + p.m), full := setB D'.full k (D'.full k + (if decide (p.m = S.size) = true then 1 else 0)), since := setB D'.since k si } → Tk G3 G4 → si = (if 0 < p.m ∧ (Y.sd k).since = none then some Y.tick else (Y.sd k).since) → LM S G4 { D' with known := setB D'.known k (if p.a > D'.known k then p.a else D'.known k), come := setB D'.come k (D'.come k + p.m), full := setB D'.full k (D'.full k + (if decide (p.m = S.size) = true then 1 else 0)), since := setB D'.since k si } (Sm.land S Y p) := fun si G4 _ t4 e4 =>
      LM.land p ek (f.tk (t03.trans t4)) (by rw [f.known]; split <;> omega) (by rw [f.come]) (by rw [f.full]; congr 1; by_cases z : p.m = S.size <;> simp [z]) e4
    refine ⟨_, rfl, _, _, rfl, rfl, _, rfl, ?_⟩
    refine ite_dec (fun h1 => ?_) (fun h1 => ?_)
    · refine ⟨_, rfl, _, _, rfl, gS_since (a3'.oS k), rfl, ?_⟩
      rw [isN_oV2]
      have ef := f.since k
      cases e : D'.since k with
      | none =>
        rw [e] at ef
        refine ⟨_, rfl, iteT ⟨_, rfl, _, rfl, _, _, rfl, pS_since (a3'.oS k) _, ?_⟩⟩
        obtain ⟨a4, t4⟩ := a3'.m_since k (some W.tick)
        dsimp only at a4 t4 ⊢
        refine ⟨_, _, _, _, _, _, _, _, _, rfl, a4, ?_, tk.trans (t03.trans t4)⟩
        rw [take_snoc hp, List.foldl_append, ← eY]
        exact done _ _ a4 t4 (by rw [if_pos ⟨h1, ef.symm⟩, hYt])
      | some v =>
        rw [e] at ef
        refine ⟨_, rfl, iteF ⟨_, rfl, _, _, rfl, gS_since (a3'.oS k), _, rfl, _, _, rfl, pS_since (a3'.oS k) _, ?_⟩⟩
        obtain ⟨a4, t4⟩ := a3'.m_since k (D'.since k)
        dsimp only at a4 t4 ⊢
        refine ⟨_, _, _, _, _, _, _, _, _, rfl, a4, ?_, tk.trans (t03.trans t4)⟩
        rw [take_snoc hp, List.foldl_append, ← eY]
        exact done _ _ a4 t4 (by rw [if_neg (fun z => by rw [z.2] at ef; cases ef), f.since])
    · refine iteF ⟨_, rfl, _, _, rfl, gS_since (a3'.oS k), _, rfl, _, _, rfl, pS_since (a3'.oS k) _, ?_⟩
      obtain ⟨a4, t4⟩ := a3'.m_since k (D'.since k)
      dsimp only at a4 t4 ⊢
      refine ⟨_, _, _, _, _, _, _, _, _, rfl, a4, ?_, tk.trans (t03.trans t4)⟩
      rw [take_snoc hp, List.foldl_append, ← eY]
      exact done _ _ a4 t4 (by rw [if_neg (fun z => h1 z.1), f.since])
  · obtain ⟨D1, s4, s5, s6, s7, s8, s9, s10, s11, rfl, a, f, tk⟩ := p
    rw [hlen, List.take_length] at f
    have f : LM S H D1 (arrive S W) := f
    have ld : Leads S W (landing S W) (arrive S W) [] := (leads_lands fi _ bt.good).1
    have bt1 := bt.leads ld
    have bt1' := bt1.leads (Leads.free (k := false) fi bt1.good)
    have btA := bt.leads (leads_t1 fi bt.good)
    have btB := bt.leads (leads_t2 fi bt.good)
    have btC := bt.leads (leads_t3 fi bt.good)
    have btD := bt.leads (leads_t4 fi bt.good)
    have kbx := kb1.trans kb3
    -- free
    refine ⟨by show 2 ≤ sizeLine; decide, fun l nl => ?_⟩
    obtain ⟨Hb4, a4, kb4, hl⟩ := a.new (o := .lst [.int 0, .int 1]) nl
    have kn := (Ke.new (o := .lst [.int 0, .int 1]) nl)
    generalize upd H l _ = H4 at a4 kn ⊢
    refine ⟨l, rfl, ⟨_, SqL.of (a4.base.lst hl)⟩, for_list (K := K) (xs := [.int 0, .int 1]) (fun i σ H => ∃ D' s5, σ = [some (.ref (L 0)), some (.int W.tick), some (.ref C.shp), some (.ref lt), s4, s5, s6, s7, s8, s9, s10, s11] ∧ AtL K Hb4 H S L C D' ∧ LM S H D' (if i = 0 then arrive S W else if i = 1 then free S (arrive S W) false else Sm.t1 S W) ∧ Tk H4 H)
      ⟨_, _, rfl, a4, f.tk kn.tk, .refl _⟩ (fun i σ H _ p => ?_) (fun i v σ H hi p => ?_) (fun σ H p => ?_)⟩
    · obtain ⟨_, _, _, a, _⟩ := p
      exact SqL.of (a.base.lst hl)
    · obtain ⟨D2, s5, rfl, a, f, tk⟩ := p
      obtain ⟨k, rfl, rfl⟩ := two_of hi
      cases k
      · exact ⟨_, rfl, _, rfl, _, _, rfl, Hb4, S, L, C, D2, _, false, [], rfl, rfl, B, a, f, bt1.bnd, fun H' D' a' f' t' => ⟨D', _, rfl, a', f', tk.trans t'⟩⟩
      · exact ⟨_, rfl, _, rfl, _, _, rfl, Hb4, S, L, C, D2, _, true, [], rfl, rfl, B, a, f, bt1'.bnd, fun H' D' a' f' t' => ⟨D', _, rfl, a', f', tk.trans t'⟩⟩
    obtain ⟨D2, s5', rfl, a, f, tk4⟩ := p
    have f : LM S H D2 (Sm.t1 S W) := f
    -- steps
    refine ⟨by show 2 ≤ sizeLine; decide, fun l nl => ?_⟩
    obtain ⟨Hb5, a5, kb5, hl⟩ := a.new (o := .lst [.int 0, .int 1]) nl
    have kn := (Ke.new (o := .lst [.int 0, .int 1]) nl)
    generalize upd H l _ = H5 at a5 kn ⊢
    have td1 : ∀ k, ((Sm.t1 S W).sd k).todo.length ≤ 6 := fun k => by rw [(t1_til k).2.1]; exact htd k
    have td2 : ((t2 S W).sd true).todo.length ≤ 6 := by
      have e : (t2 S W).sd true = (Sm.t1 S W).sd true := goes_other (k := false)
      rw [e]; exact td1 true
    refine ⟨l, rfl, ⟨_, SqL.of (a5.base.lst hl)⟩, for_list (K := K) (xs := [.int 0, .int 1]) (fun i σ H => ∃ D' s5, σ = [some (.ref (L 0)), some (.int W.tick), some (.ref C.shp), some (.ref lt), s4, s5, s6, s7, s8, s9, s10, s11] ∧ AtL K Hb5 H S L C D' ∧ LM S H D' (if i = 0 then Sm.t1 S W else if i = 1 then t2 S W else t3 S W) ∧ Tk H5 H)
      ⟨_, _, rfl, a5, f.tk kn.tk, .refl _⟩ (fun i σ H _ p => ?_) (fun i v σ H hi p => ?_) (fun σ H p => ?_)⟩
    · obtain ⟨_, _, _, a, _⟩ := p
      exact SqL.of (a.base.lst hl)
    · obtain ⟨D2, s5, rfl, a, f, tk⟩ := p
      obtain ⟨k, rfl, rfl⟩ := two_of hi
      cases k
      · exact ⟨_, rfl, _, rfl, _, _, rfl, Hb5, S, L, C, D2, _, false, [], rfl, rfl, B, a, f, btA, td1 false, fun H' D' a' f' t' => ⟨D', _, rfl, a', f', tk.trans t'⟩⟩
      · exact ⟨_, rfl, _, rfl, _, _, rfl, Hb5, S, L, C, D2, _, true, [], rfl, rfl, B, a, f, btB, td2, fun H' D' a' f' t' => ⟨D', _, rfl, a', f', tk.trans t'⟩⟩
    obtain ⟨D3, s5'', rfl, a, f, tk5⟩ := p
    have f : LM S H D3 (t3 S W) := f
    -- answers
    refine ⟨by show 2 ≤ sizeLine; decide, fun l nl => ?_⟩
    obtain ⟨Hb6, a6, kb6, hl⟩ := a.new (o := .lst [.int 0, .int 1]) nl
    have kn := (Ke.new (o := .lst [.int 0, .int 1]) nl)
    generalize upd H l _ = H6 at a6 kn ⊢
    have hlt6 : Hb6 lt = some (.lst []) := (kb4.trans (kb5.trans kb6)).lst hlt3
    refine ⟨l, rfl, ⟨_, SqL.of (a6.base.lst hl)⟩, for_list (K := K) (xs := [.int 0, .int 1]) (fun i σ H => ∃ D' Hb' m0 ls s5 s9 s10, σ = [some (.ref (L 0)), some (.int W.tick), some (.ref C.shp), some (.ref m0), s4, s5, s6, s7, s8, s9, s10, s11] ∧ AtL K Hb' H S L C D' ∧ Ke Hb6 Hb' ∧ LM S H D' (if i = 0 then t3 S W else if i = 1 then t4 S W else tickW S W) ∧ Tk H6 H ∧ Hb' m0 = some (.lst (ls.map V.int)) ∧
        ls = (if i = 0 then [] else if i = 1 then laterSd S (tickW S W) false else laterSd S (tickW S W) false ++ laterSd S (tickW S W) true))
      ⟨_, _, lt, [], _, _, _, rfl, a6, .refl _, f.tk kn.tk, .refl _, hlt6, rfl⟩ (fun i σ H _ p => ?_) (fun i v σ H hi p => ?_) (fun σ H p => ?_)⟩
    · obtain ⟨_, _, _, _, _, _, _, _, a, kb, _⟩ := p
      exact SqL.of (a.base.lst (kb.lst hl))
    · obtain ⟨D4, Hb7, m0, ls, s5, s9, s10, rfl, a, kb, f, tk, hm0, els⟩ := p
      obtain ⟨k, rfl, rfl⟩ := two_of hi
      have lls : ls.length ≤ 2 := by
        have o1 : ∀ o : Option Int, (optL o).length ≤ 1 := fun o => by cases o <;> simp [optL]
        rw [els]
        cases k
        · simp [kN]
        · show (laterSd S (tickW S W) false).length ≤ 2
          unfold laterSd
          rw [List.length_append]
          have := o1 (((tickW S W).sd false).since.map (· + S.delay false))
          have := o1 ((tickW S W).sd false).til
          omega
      obtain ⟨Y, eY⟩ : ∃ Y, Y = (if kN k = 0 then t3 S W else if kN k = 1 then t4 S W else tickW S W) := ⟨_, rfl⟩
      rw [← eY] at f
      have btY : Bt S Y [] := by rw [eY]; cases k; exact btC; exact btD
      have hYt : Y.tick = W.tick := by rw [eY]; cases k; exact t3_tick; exact t4_tick
      have eY2 : answer S Y k = (if kN k + 1 = 0 then t3 S W else if kN k + 1 = 1 then t4 S W else tickW S W) := by rw [eY]; cases k <;> rfl
      have eLs : ls ++ laterSd S (answer S Y k) k = (if kN k + 1 = 0 then [] else if kN k + 1 = 1 then laterSd S (tickW S W) false else laterSd S (tickW S W) false ++ laterSd S (tickW S W) true) := by
        rw [els, eY2]
        cases k
        · show [] ++ laterSd S (t4 S W) false = laterSd S (tickW S W) false
          have e : (tickW S W).sd false = (t4 S W).sd false := answer_other (k := true)
          unfold laterSd
          rw [e]
          rfl
        · rfl
      have e2 : atI [V.int S.size, .int S.way, .ref (C.wa false), .ref (C.wa true)] (2 + kI k) = some (.ref (C.wa k)) := by cases k <;> rfl
      refine ⟨_, rfl, _, _, rfl, gW_sides a.o0, _, rfl, L 2, _, _, _, rfl, rfl, SqL.of a.o2, atK _ k, _, rfl, _, rfl, _, _, rfl, rfl, C.shp, _, _, _, rfl, rfl, a.shp, e2, _, _, rfl, ?_⟩
      apply join fun G5 => ∃ D5, AtL K Hb7 G5 S L C D5 ∧ LM S G5 D5 (answer S Y k) ∧ Tk H G5
      · intro tail
        have du : due S Y k = (decide (S.every k ≤ (Y.sd k).full) || (match (Y.sd k).since with | none => false | some t => decide (t + S.delay k ≤ Y.tick))) := rfl
        have yes : due S Y k = true → ∀ G5 D5, AtL K Hb7 G5 S L C D5 → LM S G5 D5 (Sm.send S Y k 0) → Tk H G5 → ∃ D5, AtL K Hb7 G5 S L C D5 ∧ LM S G5 D5 (answer S Y k) ∧ Tk H G5 := fun e G5 D5 x y z => ⟨D5, x, by unfold answer; rw [if_pos e]; exact y, z⟩
        have no : due S Y k = false → ∃ D5, AtL K Hb7 H S L C D5 ∧ LM S H D5 (answer S Y k) ∧ Tk H H := fun e => ⟨D4, a, by unfold answer; rw [if_neg (by rw [e]; decide)]; exact f, .refl _⟩
        refine ⟨_, rfl, _, _, rfl, gS_full (a.oS k), _, rfl, C.wa k, _, 1, _, rfl, rfl, a.wa k, atI1, _, _, rfl, rfl, _, rfl, ?_⟩
        rw [f.full]
        refine ite_dec (fun c1 => ?_) (fun c1 => ?_)
        · have hd : due S Y k = true := by rw [du, decide_eq_true c1]; rfl
          exact iteT ⟨_, rfl, _, rfl, _, _, _, rfl, Hb7, S, L, C, D4, Y, k, 0, rfl, rfl, rfl, a, f, btY.bnd.log, fun H' D' a' f' t' => tail _ (yes hd _ _ a' f' t')⟩
        · rw [decide_eq_false c1, Bool.false_or] at du
          refine ⟨_, rfl, _, _, rfl, gS_since (a.oS k), rfl, ?_⟩
          rw [isN_oV2, f.since]
          cases e : (Y.sd k).since with
          | none =>
            rw [e] at du
            exact ⟨_, rfl, iteF (iteF (tail _ (no du)))⟩
          | some v =>
            rw [e] at du
            have du : due S Y k = decide (v + S.delay k ≤ Y.tick) := du
            refine ⟨_, rfl, iteT ⟨_, rfl, _, rfl, _, _, rfl, gS_since (a.oS k), _, rfl, C.wa k, _, 2, _, rfl, rfl, a.wa k, atI2, v, S.delay k, by rw [f.since, e]; rfl, rfl, _, _, rfl, rfl, _, rfl, ?_⟩⟩
            rw [hYt] at du
            refine ite_dec (fun c2 => ?_) (fun c2 => ?_)
            · rw [decide_eq_true c2] at du
              exact ⟨_, rfl, _, rfl, _, _, _, rfl, Hb7, S, L, C, D4, Y, k, 0, rfl, rfl, rfl, a, f, btY.bnd.log, fun H' D' a' f' t' => tail _ (yes du _ _ a' f' t')⟩
            · rw [decide_eq_false c2] at du
              exact tail _ (no du)
      rintro G5 ⟨D5, a5, f5, tk5⟩
      have tkG := tk.trans tk5
      obtain ⟨Y2, eY3⟩ : ∃ Y2, Y2 = answer S Y k := ⟨_, rfl⟩
      rw [← eY3] at f5 eY2 eLs
      have fin : ∀ (H' : Hp) (m2 : Addr) (Hb8 : Hp) (D' : LD), AtL K Hb8 H' S L C D' → Ke Hb7 Hb8 → LM S H' D' Y2 → Tk H6 H' → Hb8 m2 = some (.lst ((ls ++ laterSd S Y2 k).map V.int)) →
          AtL K Hb8 H' S L C D' ∧ Ke Hb6 Hb8 ∧ LM S H' D' (if kN k + 1 = 0 then t3 S W else if kN k + 1 = 1 then t4 S W else tickW S W) ∧ Tk H6 H' ∧ Hb8 m2 = some (.lst ((ls ++ laterSd S Y2 k).map V.int)) ∧ ls ++ laterSd S Y2 k = (if kN k + 1 = 0 then [] else if kN k + 1 = 1 then laterSd S (tickW S W) false else laterSd S (tickW S W) false ++ laterSd S (tickW S W) true) := fun H' m2 Hb8 D' x1 x2 x3 x4 x5 => ⟨x1, kb.trans x2, by rw [← eY2]; exact x3, x4, x5, eLs⟩
      clear eY eY2 eY3 eLs els
      cases e1 : (Y2.sd k).since with
      | none =>
        refine ⟨_, rfl, _, rfl, _, _, rfl, gS_since (a5.oS k), rfl, ?_⟩
        rw [isN_oV2, f5.since, e1]
        refine ⟨_, rfl, iteF ⟨Nat.zero_le _, fun l1 nl1 => ?_⟩⟩
        have kl1 : Ke G5 (upd G5 l1 (.lst ([]))) := .new nl1
        have hl1 : (upd G5 l1 (.lst ([]))) l1 = some (.lst ([])) := upd_same
        generalize upd G5 l1 _ = G5' at kl1 hl1 ⊢
        refine ⟨m0, l1, _, _, rfl, rfl, kl1.lst (a5.base.lst hm0), hl1, by rw [List.length_map]; simp only [List.length_cons, List.length_nil]; omega, fun m1 nm1 => ?_⟩
        obtain ⟨Hb9, a6, kb9, hm1⟩ := (a5.ke kl1).new (o := .lst (ls.map V.int ++ [])) nm1
        have k56 : Ke G5 (upd G5' m1 (.lst (ls.map V.int ++ []))) := kl1.trans (.new nm1)
        generalize upd G5' m1 _ = G6 at a6 k56 ⊢
        have f6 := f5.tk k56.tk
        have tk6 := tkG.trans k56.tk
        have hm1 : G6 m1 = some (.lst ((ls).map V.int)) := by rw [a6.base.lst hm1]; simp
        have g2 : laterSd S Y2 k = [] ++ optL (Y2.sd k).til := by unfold laterSd; rw [e1]; rfl
        cases e2 : (Y2.sd k).til with
        | none =>
          refine ⟨_, rfl, _, rfl, _, _, rfl, gS_until (a6.oS k), rfl, ?_⟩
          rw [isN_oV2, f6.til, e2]
          refine ⟨_, rfl, iteF ⟨Nat.zero_le _, fun l3 nl3 => ?_⟩⟩
          have kl3 : Ke G6 (upd G6 l3 (.lst ([]))) := .new nl3
          have hl3 : (upd G6 l3 (.lst ([]))) l3 = some (.lst ([])) := upd_same
          generalize upd G6 l3 _ = G7 at kl3 hl3 ⊢
          refine ⟨m1, l3, _, _, rfl, rfl, kl3.lst hm1, hl3, by rw [List.length_map]; simp only [List.length_append, List.length_cons, List.length_nil]; omega, fun m2 nm2 => ?_⟩
          obtain ⟨Hb10, a8, kb10, hm2⟩ := (a6.ke kl3).new (o := .lst ((ls).map V.int ++ [])) nm2
          have k68 : Ke G6 (upd G7 m2 (.lst ((ls).map V.int ++ []))) := kl3.trans (.new nm2)
          refine ⟨_, Hb10, m2, ls ++ laterSd S Y2 k, _, _, _, rfl, fin _ m2 Hb10 _ a8 (kb9.trans kb10) (f6.tk k68.tk) (tk6.trans k68.tk) ?_⟩
          rw [hm2, g2, e2]
          simp [optL]
        | some v2 =>
          refine ⟨_, rfl, _, rfl, _, _, rfl, gS_until (a6.oS k), rfl, ?_⟩
          rw [isN_oV2, f6.til, e2]
          refine ⟨_, rfl, iteT ⟨_, rfl, _, _, rfl, gS_until (a6.oS k), by show 1 ≤ sizeLine; decide, fun l3 nl3 => ?_⟩⟩
          have ov : oV (D5.til k) = V.int v2 := by rw [f6.til, e2]; rfl
          rw [ov]
          have kl3 : Ke G6 (upd G6 l3 (.lst ([V.int v2]))) := .new nl3
          have hl3 : (upd G6 l3 (.lst ([V.int v2]))) l3 = some (.lst ([V.int v2])) := upd_same
          generalize upd G6 l3 _ = G7 at kl3 hl3 ⊢
          refine ⟨m1, l3, _, _, rfl, rfl, kl3.lst hm1, hl3, by rw [List.length_map]; simp only [List.length_append, List.length_cons, List.length_nil]; omega, fun m2 nm2 => ?_⟩
          obtain ⟨Hb10, a8, kb10, hm2⟩ := (a6.ke kl3).new (o := .lst ((ls).map V.int ++ [V.int v2])) nm2
          have k68 : Ke G6 (upd G7 m2 (.lst ((ls).map V.int ++ [V.int v2]))) := kl3.trans (.new nm2)
          refine ⟨_, Hb10, m2, ls ++ laterSd S Y2 k, _, _, _, rfl, fin _ m2 Hb10 _ a8 (kb9.trans kb10) (f6.tk k68.tk) (tk6.trans k68.tk) ?_⟩
          rw [hm2, g2, e2]
          simp [optL]
      | some v1 =>
        refine ⟨_, rfl, _, rfl, _, _, rfl, gS_since (a5.oS k), rfl, ?_⟩
        rw [isN_oV2, f5.since, e1]
        refine ⟨_, rfl, iteT ⟨_, rfl, _, _, rfl, gS_since (a5.oS k), _, rfl, C.wa k, _, 2, _, rfl, rfl, a5.wa k, atI2, v1, S.delay k, by rw [f5.since, e1]; rfl, rfl, by show 1 ≤ sizeLine; decide, fun l1 nl1 => ?_⟩⟩
        have kl1 : Ke G5 (upd G5 l1 (.lst ([V.int (v1 + S.delay k)]))) := .new nl1
        have hl1 : (upd G5 l1 (.lst ([V.int (v1 + S.delay k)]))) l1 = some (.lst ([V.int (v1 + S.delay k)])) := upd_same
        generalize upd G5 l1 _ = G5' at kl1 hl1 ⊢
        refine ⟨m0, l1, _, _, rfl, rfl, kl1.lst (a5.base.lst hm0), hl1, by rw [List.length_map]; simp only [List.length_cons, List.length_nil]; omega, fun m1 nm1 => ?_⟩
        obtain ⟨Hb9, a6, kb9, hm1⟩ := (a5.ke kl1).new (o := .lst (ls.map V.int ++ [V.int (v1 + S.delay k)])) nm1
        have k56 : Ke G5 (upd G5' m1 (.lst (ls.map V.int ++ [V.int (v1 + S.delay k)]))) := kl1.trans (.new nm1)
        generalize upd G5' m1 _ = G6 at a6 k56 ⊢
        have f6 := f5.tk k56.tk
        have tk6 := tkG.trans k56.tk
        have hm1 : G6 m1 = some (.lst ((ls ++ [v1 + S.delay k]).map V.int)) := by rw [a6.base.lst hm1]; simp
        have g2 : laterSd S Y2 k = [v1 + S.delay k] ++ optL (Y2.sd k).til := by unfold laterSd; rw [e1]; rfl
        cases e2 : (Y2.sd k).til with
        | none =>
          refine ⟨_, rfl, _, rfl, _, _, rfl, gS_until (a6.oS k), rfl, ?_⟩
          rw [isN_oV2, f6.til, e2]
          refine ⟨_, rfl, iteF ⟨Nat.zero_le _, fun l3 nl3 => ?_⟩⟩
          have kl3 : Ke G6 (upd G6 l3 (.lst ([]))) := .new nl3
          have hl3 : (upd G6 l3 (.lst ([]))) l3 = some (.lst ([])) := upd_same
          generalize upd G6 l3 _ = G7 at kl3 hl3 ⊢
          refine ⟨m1, l3, _, _, rfl, rfl, kl3.lst hm1, hl3, by rw [List.length_map]; simp only [List.length_append, List.length_cons, List.length_nil]; omega, fun m2 nm2 => ?_⟩
          obtain ⟨Hb10, a8, kb10, hm2⟩ := (a6.ke kl3).new (o := .lst ((ls ++ [v1 + S.delay k]).map V.int ++ [])) nm2
          have k68 : Ke G6 (upd G7 m2 (.lst ((ls ++ [v1 + S.delay k]).map V.int ++ []))) := kl3.trans (.new nm2)
          refine ⟨_, Hb10, m2, ls ++ laterSd S Y2 k, _, _, _, rfl, fin _ m2 Hb10 _ a8 (kb9.trans kb10) (f6.tk k68.tk) (tk6.trans k68.tk) ?_⟩
          rw [hm2, g2, e2]
          simp [optL]
        | some v2 =>
          refine ⟨_, rfl, _, rfl, _, _, rfl, gS_until (a6.oS k), rfl, ?_⟩
          rw [isN_oV2, f6.til, e2]
          refine ⟨_, rfl, iteT ⟨_, rfl, _, _, rfl, gS_until (a6.oS k), by show 1 ≤ sizeLine; decide, fun l3 nl3 => ?_⟩⟩
          have ov : oV (D5.til k) = V.int v2 := by rw [f6.til, e2]; rfl
          rw [ov]
          have kl3 : Ke G6 (upd G6 l3 (.lst ([V.int v2]))) := .new nl3
          have hl3 : (upd G6 l3 (.lst ([V.int v2]))) l3 = some (.lst ([V.int v2])) := upd_same
          generalize upd G6 l3 _ = G7 at kl3 hl3 ⊢
          refine ⟨m1, l3, _, _, rfl, rfl, kl3.lst hm1, hl3, by rw [List.length_map]; simp only [List.length_append, List.length_cons, List.length_nil]; omega, fun m2 nm2 => ?_⟩
          obtain ⟨Hb10, a8, kb10, hm2⟩ := (a6.ke kl3).new (o := .lst ((ls ++ [v1 + S.delay k]).map V.int ++ [V.int v2])) nm2
          have k68 : Ke G6 (upd G7 m2 (.lst ((ls ++ [v1 + S.delay k]).map V.int ++ [V.int v2]))) := kl3.trans (.new nm2)
          refine ⟨_, Hb10, m2, ls ++ laterSd S Y2 k, _, _, _, rfl, fin _ m2 Hb10 _ a8 (kb9.trans kb10) (f6.tk k68.tk) (tk6.trans k68.tk) ?_⟩
          rw [hm2, g2, e2]
          simp [optL]
    · obtain ⟨D5, Hb7, m0, ls, s5, s9, s10, rfl, a, kb, f, tk, hm0, els⟩ := p
      have f : LM S H D5 (tickW S W) := f
      have els : ls = laterSd S (tickW S W) false ++ laterSd S (tickW S W) true := els
      have btT := bt.leads (leads_tick fi bt.good)
      have hlg2 := btT.bnd.log
      have hln2 : D5.lgv.length = (tickW S W).log.length := Paired.length f.lg
      have ett := tickW_tick (S := S) (W := W)
      obtain ⟨Y, eY⟩ : ∃ Y, Y = tickW S W := ⟨_, rfl⟩
      rw [← eY] at f els hlg2 hln2 ett q
      refine ⟨_, rfl, _, rfl, _, _, rfl, gW_log a.o0, L 1, rfl, ⟨_, SqL.of a.o1⟩, lc_l (fun i => (((Y.log.take i).filter fun p => decide (W.tick < p.t + S.way)).map fun p => p.t + S.way).map V.int) (SqL.of a.o1) rfl (fun i hi => ?_) (fun i x H' hx kH Yes No yes no => ?_) (fun E H7 hE k7 hE7 => ?_)⟩
      · rw [List.length_map, List.length_map]
        have := List.length_filter_le (fun p : Pc => decide (W.tick < p.t + S.way)) (Y.log.take i)
        rw [List.length_take] at this
        omega
      · obtain ⟨p, hp, b, rfl, hb⟩ := pgetV f.lg hx
        have aH := a.ke kH
        have hb := kH.tup hb
        have e : ((((Y.log.take (i + 1)).filter fun p => decide (W.tick < p.t + S.way)).map fun p => p.t + S.way).map V.int) = ((((Y.log.take i).filter fun p => decide (W.tick < p.t + S.way)).map fun p => p.t + S.way).map V.int) ++ (if W.tick < p.t + S.way then [V.int (p.t + S.way)] else []) := by
          rw [take_snoc hp, List.filter_append, List.map_append, List.map_append]
          congr 1
          by_cases z : W.tick < p.t + S.way
          · rw [if_pos z, List.filter_cons, if_pos (decide_eq_true z)]; rfl
          · rw [if_neg z, List.filter_cons, if_neg (fun y => z (of_decide_eq_true y))]; rfl
        refine ⟨rfl, _, rfl, b, _, 0, _, rfl, rfl, SqT.of hb, atI0, _, rfl, C.shp, _, 1, _, rfl, rfl, aH.shp, atI1, _, _, rfl, rfl, _, rfl, _, _, rfl, rfl, _, rfl, ?_⟩
        refine ite_dec (fun hc => ?_) (fun hc => ?_)
        · refine ⟨_, rfl, b, _, 0, _, rfl, rfl, SqT.of hb, atI0, _, rfl, C.shp, _, 1, _, rfl, rfl, aH.shp, atI1, _, _, rfl, rfl, yes _ _ (.refl _) ?_⟩
          rw [e, if_pos hc]
        · refine no _ (.refl _) ?_
          rw [e, if_neg hc, List.append_nil]
      rw [hln2, List.take_length] at hE7
      have lls : ls.length ≤ 4 := by
        have o1 : ∀ o : Option Int, (optL o).length ≤ 1 := fun o => by cases o <;> simp [optL]
        have o2 : ∀ k, (laterSd S Y k).length ≤ 2 := fun k => by
          unfold laterSd
          rw [List.length_append]
          have := o1 ((Y.sd k).since.map (· + S.delay k))
          have := o1 (Y.sd k).til
          omega
        rw [els, List.length_append]
        have := o2 false
        have := o2 true
        omega
      refine ⟨m0, E, _, _, rfl, rfl, k7.lst (a.base.lst hm0), hE7, ?_, fun r nr => ?_⟩
      · rw [List.length_map, List.length_map, List.length_map]
        have := List.length_filter_le (fun p : Pc => decide (W.tick < p.t + S.way)) Y.log
        omega
      · have k8 : Ke H (upd H7 r (.lst (ls.map V.int ++ ((Y.log.filter fun p => decide (W.tick < p.t + S.way)).map fun p => p.t + S.way).map V.int))) := k7.trans (.new nr)
        have a8 := a.ke k8
        refine q _ D5 r (a8.back at0 (kb1.trans (kb3.trans (kb4.trans (kb5.trans (kb6.trans kb)))))) (f.tk k8.tk) ?_ fun i hi e => ?_
        · rw [upd_same, ← List.map_append, els]
          unfold later laterLog
          rw [ett]
        · rcases (a.ke k7).kind hi with ⟨_, z⟩ | ⟨_, z⟩ <;> rw [← e, nr] at z <;> cases z
end
end Sm

/-! The law: the shortest pauses, its world at the beginning. -/
namespace Sm
open PySem PySem.Spec PyProof.Rows L2
/-- t + u of tuples, told once -/
def rCatQ (K : PySem.W.Frag) : R2 := fun x y H Q => ∃ a b xs ys, x = .ref a ∧ y = .ref b ∧ SqT K H a xs ∧ SqT K H b ys ∧ xs.length + ys.length ≤ sizeLine ∧ ∀ t H', Ke H H' → SqT K H' t (xs ++ ys) → Q (.ref t) H'
theorem catK {X : Cx} (K : PySem.W.Frag) (hK : X.K = K := by rfl) : OpR X (binaryOp .Add) (rCatQ K) := by
  subst hK
  intro pins s σ H x y v u Q I rx ry h
  obtain ⟨a, b, xs, ys, rfl, rfl, ha, hb, hz, q⟩ := h
  refine op_catA pins s σ H _ _ v u Q I rx ry ⟨a, b, xs, ys, rfl, rfl, ha, hb, hz, fun e => ?_, fun _ e => ?_, fun _ _ p hp => ?_⟩
  · subst e; exact q b H (.refl _) hb
  · subst e; exact q a H (.refl _) (by rw [List.append_nil]; exact ha)
  · exact q p _ (.new hp) (SqT.of upd_same)
section
variable {P : Program} {w : World} {K : PySem.W.Frag} {mg : Str → Option Value} {base : Heap}
abbrev N_law_least : List Str := ["_law_plans_here", "_law_step"]
theorem sc_law_least : FnScope N_law_least ["_law_plans_here"] (defScope s_law_least) := ⟨rfl, rfl, rfl, by decide +kernel, rfl, by decide +kernel, by decide +kernel⟩
theorem ok_law_least (T : Tx K mg w) : Okf P w K mg base "_law_least" ["_law_plans_here"] 1 (sp1 fun a H Q => ∃ t v1 v2 ps qs, a = .ref t ∧ SqT K H t [v1, v2] ∧ Dq K H v1 (planD ps) ∧ Dq K H v2 (planD qs) ∧ ps.length ≤ 6 ∧ qs.length ≤ 6 ∧
    ∀ D H', H D = none → Ke H H' → H' D = some (.lst ((leasts ps ++ leasts qs).map V.int)) → Q (.ref D) H') := by
  refine mkF T ix_law_least rfl T.g_law_least sc_law_least (fun _ _ _ _ _ _ us hl => match us, hl with | [_], _ => rfl) len1 (fun cdv A outer s0 H0 E vs Q hr h => ?_)
  refine ⟨_, (pss_one (ps_ret (pe_lc (own := [(("_law_step" : Str), 1)]) (by rfl) sc_law_least.nd (piT K (pe_op (catK K) (pe_ix (ixT K) (pv 0) pe_int (fun _ _ => rfl)) (pe_ix (ixT K) (pv 0) pe_int (fun _ _ => rfl)))) (blkOk_by (own := [(("_law_step" : Str), 1)]) (N := N_law_least) (sc := defScope s_law_least) (by decide +kernel)) (fun _ _ _ _ _ => pg_name (i := 1) sc_law_least.nd rfl (Or.inl rfl)) (fun _ _ _ _ _ => pts_one (pt_cmpR op_eq (pe_ix (ixT K) (pv 1) pe_int (fun _ _ => rfl)) pe_str (nomark _))) (fun _ _ _ _ _ => (pe_ix (ixT K) (pv 1) pe_int (fun _ _ => rfl)))))), ?_⟩
  obtain ⟨_, rfl, t, v1, v2, ps, qs, rfl, ht, h1, h2, l1, l2, q⟩ := h
  obtain ⟨a, xs, rfl, ha, hxs⟩ := h1.plan
  obtain ⟨b, zs, rfl, hb, hzs⟩ := h2.plan
  have hl1 : xs.length = ps.length := by rw [hxs.length, List.length_map]
  have hl2 : zs.length = qs.length := by rw [hzs.length, List.length_map]
  have z6 := z6000
  refine ⟨_, rfl, t, _, 0, _, rfl, rfl, ht, atI0, _, rfl, t, _, 1, _, rfl, rfl, ht, atI1, a, b, xs, zs, rfl, rfl, ha, hb, by omega, fun u H1 k1 hu => ?_⟩
  have hall : DqAll K H1 (xs ++ zs) ((ps ++ qs).map Ps.d) := by
    rw [List.map_append]
    exact (hxs.ke k1).append (hzs.ke k1)
  have hlen : (xs ++ zs).length = (ps ++ qs).length := by rw [hall.length, List.length_map]
  refine ⟨u, rfl, ⟨_, hu⟩, lc_t (fun i => (leasts ((ps ++ qs).take i)).map V.int) hu rfl (fun i hi => ?_) (fun i x H' hx kH Yes No yes no => ?_) (fun D' H' hD kH hE => ?_)⟩
  · rw [List.length_map]
    have := leasts_len ((ps ++ qs).take i)
    rw [List.length_take, List.length_append] at this
    exact Nat.lt_of_le_of_lt (show _ ≤ 12 by omega) (by decide)
  · obtain ⟨d, hd, hq⟩ := hall.getV hx
    rw [List.getElem?_map] at hd
    obtain ⟨p, hp, rfl⟩ := Option.map_eq_some_iff.mp hd
    obtain ⟨c, y, r, rfl, hc, hy⟩ := (hq.ke kH).step
    refine ⟨rfl, _, rfl, c, _, 0, _, rfl, rfl, hc, atI0, rfl, _, rfl, ?_⟩
    cases p with
    | io w n =>
      rw [dec_str', word_pz]
      refine iteF (no _ (.refl _) ?_)
      rw [take_snoc hp, leasts_append]
      simp [leasts]
    | pz i1 i2 =>
      have hy : y = .int i1 := hy
      subst hy
      rw [dec_str', word_pz]
      refine iteT ⟨_, rfl, c, _, 1, _, rfl, rfl, hc, atI1, yes _ _ (.refl _) ?_⟩
      rw [take_snoc hp, leasts_append, List.map_append]
      rfl
  · rw [hlen, List.take_length, leasts_append] at hE
    exact q D' H' (k1.free hD) (k1.trans kH) hE
/-- a side at the beginning, in the heap -/
def SdAt (H : Hp) (d : Addr) (l : List (Wd × Int)) : Prop := ∃ td vs, H d = some (.dK (sideL (.ref td) (.int 0) (.int 0) (.int 0) (.int 0) (.int 0) (.int 0) (.int 0) .non .non (oV (if l = [] then some 0 else none)))) ∧ H td = some (.lst vs) ∧ TodoV H vs l
theorem SdAt.ke {H H' : Hp} {d : Addr} {l : List (Wd × Int)} (h : SdAt H d l) (k : Ke H H') : SdAt H' d l := let ⟨td, vs, a, b, c⟩ := h; ⟨td, vs, k.dK a, k.lst b, c.tk k.tk⟩
/-- and its list is another one -/
def SdAx (H : Hp) (d : Addr) (l : List (Wd × Int)) (lg sd : Addr) : Prop := ∃ td vs, H d = some (.dK (sideL (.ref td) (.int 0) (.int 0) (.int 0) (.int 0) (.int 0) (.int 0) (.int 0) .non .non (oV (if l = [] then some 0 else none)))) ∧ H td = some (.lst vs) ∧ TodoV H vs l ∧ td ≠ lg ∧ td ≠ sd
abbrev kv8 (td : Addr) : List (Key × V) := [(.inr "todo", .ref td), (.inr "kept", .int 0), (.inr "out", .int 0), (.inr "known", .int 0), (.inr "small", .int 0), (.inr "come", .int 0), (.inr "used", .int 0), (.inr "full", .int 0)]
abbrev kv3 (e : V) : List (Key × V) := [(.inr "since", .non), (.inr "until", .non), (.inr "end", e)]
theorem merge8 (td : Addr) : mergeK [] (kv8 td) = kv8 td := rfl
theorem merge3 (e : V) : mergeK [] (kv3 e) = kv3 e := rfl
theorem merge11 (td : Addr) (e : V) : mergeK (kv8 td) (kv3 e) = sideL (.ref td) (.int 0) (.int 0) (.int 0) (.int 0) (.int 0) (.int 0) (.int 0) .non .non e := rfl
theorem atI_last (xs : List V) (v : V) : atI (xs ++ [v]) (-1) = some v := by
  unfold atI ixN
  rw [if_neg (by decide), if_pos (by rw [List.length_append, List.length_singleton]; omega)]
  show (xs ++ [v])[(-1 + ((xs ++ [v]).length : Int)).toNat]? = _
  have e : (-1 + ((xs ++ [v]).length : Int)).toNat = xs.length := by rw [List.length_append, List.length_singleton]; omega
  rw [e]
  simp
/-- the sides that are made -/
def DS (ps qs : List Ps) (x : Int) (H : Hp) : Nat → List Addr → Prop
  | 0, ds => ds = []
  | 1, ds => ∃ d0, ds = [d0] ∧ SdAt H d0 (ps.map (todoOf x))
  | _, ds => ∃ d0 d1, ds = [d0, d1] ∧ d0 ≠ d1 ∧ SdAt H d0 (ps.map (todoOf x)) ∧ SdAt H d1 (qs.map (todoOf x))
def LT (ps qs : List Ps) : Nat → List Int
  | 0 => leasts ps ++ leasts qs
  | 1 => leasts qs
  | _ => []
theorem ds_turn {K : PySem.W.Frag} {H0 : Hp} {ps qs : List Ps} {x : Int} {v1 v2 v : V} {i : Nat} (h : [v1, v2][i]? = some v) (h1 : Dq K H0 v1 (planD ps)) (h2 : Dq K H0 v2 (planD qs)) (l1 : ps.length ≤ 6) (l2 : qs.length ≤ 6) :
    ∃ pl, Dq K H0 v (planD pl) ∧ pl.length ≤ 6 ∧ LT ps qs i = leasts pl ++ LT ps qs (i + 1) ∧ (LT ps qs (i + 1)).length ≤ 12 ∧ i < 2 ∧
      ∀ Hx Hx' ds d, DS ps qs x Hx i ds → Ke Hx Hx' → d ∉ ds → SdAt Hx' d (pl.map (todoOf x)) → DS ps qs x Hx' (i + 1) (ds ++ [d]) := by
  have := leasts_len ps
  have := leasts_len qs
  match i, h with
  | 0, h =>
    cases h
    refine ⟨ps, h1, l1, rfl, by show (leasts qs).length ≤ 12; omega, by decide, fun Hx Hx' ds d e k _ s => ?_⟩
    have e : ds = [] := e
    subst e
    exact ⟨d, rfl, s⟩
  | 1, h =>
    cases h
    refine ⟨qs, h2, l2, (List.append_nil _).symm, Nat.zero_le _, by decide, fun Hx Hx' ds d e k n s => ?_⟩
    obtain ⟨d0, rfl, e⟩ := e
    exact ⟨d0, d, rfl, fun z => n (by rw [z]; exact List.mem_cons_self), e.ke k, s⟩
  | i + 2, h => simp at h
abbrev N_law_begin : List Str := ["_law_shape", "_law_plans_here", "_law_amount", "_law_ticks", "_law_sides", "_law_left", "_law_plan", "_law_todo", "_law_step"]
theorem sc_law_begin : FnScope N_law_begin ["_law_shape", "_law_plans_here", "_law_amount", "_law_ticks"] (defScope s_law_begin) := ⟨rfl, rfl, rfl, by decide +kernel, rfl, by decide +kernel, by decide +kernel⟩
theorem ok_law_begin (T : Tx K mg w) : Okf P w K mg base "_law_begin" ["_law_shape", "_law_plans_here", "_law_amount", "_law_ticks"] 1 (sp4 fun sv pv av tv H Q => ∃ shp t v1 v2 ps qs x tk, sv = .ref shp ∧ pv = .ref t ∧ av = .int x ∧ tv = .ref tk ∧ SqT K H t [v1, v2] ∧ Dq K H v1 (planD ps) ∧ Dq K H v2 (planD qs) ∧ ps.length ≤ 6 ∧ qs.length ≤ 6 ∧
    H tk = some (.lst ((leasts ps ++ leasts qs).map V.int)) ∧ ∀ H' wd lg sd d0 d1, Ke H H' → H wd = none → H lg = none → H sd = none → H d0 = none → H d1 = none → [wd, lg, sd, d0, d1].Nodup → H' wd = some (.dK (wrlL (.ref shp) (.int 0) (.ref lg) (.ref sd))) → H' lg = some (.lst []) → H' sd = some (.lst [.ref d0, .ref d1]) →
      SdAx H' d0 (ps.map (todoOf x)) lg sd → SdAx H' d1 (qs.map (todoOf x)) lg sd → Q (.ref wd) H') := by
  refine mkF T ix_law_begin rfl T.g_law_begin sc_law_begin (fun _ _ _ _ _ _ us hl => match us, hl with | [_, _, _, _], _ => rfl) len4 (fun cdv A outer s0 H0 E vs Q hr h => ?_)
  refine ⟨_, (pss_cons (ps_par (i := 4) (j := 5) (by rfl) sc_law_begin.nd rfl rfl (by decide) rfl rfl (pa_cons (pe_lst pa_nil) (pa_cons (pe_callTy call_list_of (by rfl) T.n_list (by decide +kernel) (pa_cons (pv 3) pa_nil)) pa_nil)) (by rfl))
    (pss_cons (ps_for PassesOwn.never rfl (piT K (pv 1)) (pg_name (i := 6) sc_law_begin.nd rfl (Or.inl rfl))
      (pss_cons (ps_set (i := 7) sc_law_begin.nd rfl (Or.inl rfl) (pe_lst pa_nil))
    (pss_cons (ps_for PassesOwn.never rfl (piT K (pv 6)) (pg_name (i := 8) sc_law_begin.nd rfl (Or.inl rfl))
      (pss_one (ps_if (pt_cmpR op_eq (pe_ix (ixT K) (pv 8) pe_int (fun _ _ => rfl)) pe_str (nomark _))
      (pss_cons (ps_expr (pe_bm PySem.F.plainAttrs_list PySem.F.slot_list_append PySem.F.type_list_append mt_append (pv 7) (pa_cons (pe_tup (pa_cons pe_str (pa_cons (pe_ix (ixL K) (pv 5) pe_int (fun _ _ => rfl)) pa_nil))) pa_nil)))
    (pss_one (ps_set (i := 5) sc_law_begin.nd rfl (Or.inl rfl) (pe_slice (slL K) (pv 5) (po_some pe_int) po_none))))
      (pss_one (ps_expr (pe_bm PySem.F.plainAttrs_list PySem.F.slot_list_append PySem.F.type_list_append mt_append (pv 7) (pa_cons (pe_tup (pa_cons (pe_ix (ixT K) (pv 8) pe_int (fun _ _ => rfl)) (pa_cons (pe_ifExp (pt_cmpR op_eq (pe_ix (ixT K) (pv 8) pe_int (fun _ _ => rfl)) pe_str (nomark _)) (pv 2) (pe_ix (ixT K) (pv 8) pe_int (fun _ _ => rfl))) pa_nil))) pa_nil)))))))
    (pss_cons (ps_expr (pe_bm PySem.F.plainAttrs_list PySem.F.slot_list_append PySem.F.type_list_append mt_append (pv 4) (pa_cons (pe_disp (pps_cons pe_str (pv 7) (pps_cons pe_str pe_int (pps_cons pe_str pe_int (pps_cons pe_str pe_int (pps_cons pe_str pe_int (pps_cons pe_str pe_int (pps_cons pe_str pe_int (pps_cons pe_str pe_int pps_nil)))))))) (by rfl) (by rfl) (fun z => by cases z) (by decide)) pa_nil)))
    (pss_one (ps_expr (pe_bm PySem.F.plainAttrs_dict PySem.F.slot_dict_update PySem.F.type_dict_update mt_update (pe_ix (ixL K) (pv 4) (pe_un un_neg pe_int) (fun _ _ => rfl)) (pa_cons (pe_disp (pps_cons pe_str pe_non (pps_cons pe_str pe_non (pps_cons pe_str (pe_ifExp (pt_cmpR (op_neD hr.units) (pv 7) (pe_lst pa_nil) (nomark _)) pe_non pe_int) pps_nil))) (by rfl) (by rfl) (fun z => by cases z) (by decide)) pa_nil))))))))
    (pss_one (ps_ret (pe_disp (pps_cons pe_str (pv 0) (pps_cons pe_str pe_int (pps_cons pe_str (pe_lst pa_nil) (pps_cons pe_str (pv 4) pps_nil)))) (by rfl) (by rfl) (fun z => by cases z) (by decide)))))), ?_⟩
  obtain ⟨_, _, _, _, rfl, shp, t, v1, v2, ps, qs, x, tk, rfl, rfl, rfl, rfl, ht, h1, h2, l1, l2, htk, q⟩ := h
  refine ⟨Nat.zero_le _, fun sd nsd => ?_⟩
  have ksd : Ke H0 (upd H0 sd (.lst [])) := .new nsd
  have hsd : (upd H0 sd (.lst [])) sd = some (.lst []) := upd_same
  generalize upd H0 sd _ = H1 at ksd hsd ⊢
  refine ⟨_, rfl, tk, _, rfl, .inl (SqL.of (ksd.lst htk)), fun lf nlf => ⟨_, _, rfl, ?_⟩⟩
  have klf : Ke H1 (upd H1 lf (.lst ((leasts ps ++ leasts qs).map V.int))) := .new nlf
  have hlf : (upd H1 lf (.lst ((leasts ps ++ leasts qs).map V.int))) lf = some (.lst ((leasts ps ++ leasts qs).map V.int)) := upd_same
  have nels : lf ≠ sd := fun e => by rw [e, hsd] at nlf; cases nlf
  generalize upd H1 lf _ = H2 at klf hlf ⊢
  have k02 := ksd.trans klf
  obtain ⟨Hx0, kx, kx2, ex1, _⟩ := without (fun a => a = sd) k02 (fun a h => by rw [h]; exact nsd) (fun a h => by rw [h]; exact noCode_lst (klf.lst hsd))
  refine ⟨_, rfl, t, rfl, ⟨_, k02.sqt ht⟩, for_tup (K := K) (xs := [v1, v2]) (fun i σ H => ∃ Hx lf s6 s7 s8 ds, σ = [some (.ref shp), some (.ref t), some (.int x), some (.ref tk), some (.ref sd), some (.ref lf), s6, s7, s8] ∧ Ke H0 Hx ∧ Ke Hx H ∧ Hx sd = none ∧ H sd = some (.lst (ds.map V.ref)) ∧ H lf = some (.lst ((LT ps qs i).map V.int)) ∧ lf ≠ sd ∧ DS ps qs x Hx i ds ∧ (∀ d ∈ ds, H0 d = none) ∧ ds.length ≤ i)
    ⟨Hx0, lf, _, _, _, [], rfl, kx, kx2, ex1 _ rfl, klf.lst hsd, hlf, nels, rfl, (fun _ h => by cases h), Nat.le_refl _⟩ (fun i σ H _ p => ?_) (fun i v σ H hi p => ?_) (fun σ H p => ?_)⟩
  · obtain ⟨Hx, lf, s6, s7, s8, ds, rfl, k0, k1, _⟩ := p
    exact (k0.trans k1).sqt ht
  · obtain ⟨Hx, lf, s6, s7, s8, ds, rfl, k0, k1, nx, hs, hl, nls, hds, hfr, hdl⟩ := p
    obtain ⟨pl, hd, hl6, eLT, hr12, hi2, nextD⟩ := ds_turn (x := x) hi h1 h2 l1 l2
    have k0H := k0.trans k1
    obtain ⟨a, xs, rfl, ha, hxs⟩ := (hd.ke k0H).plan
    have hlen : xs.length = pl.length := by rw [hxs.length, List.length_map]
    rw [eLT] at hl
    generalize LT ps qs (i + 1) = rest at hl hr12
    refine ⟨Nat.zero_le _, fun td ntd => ?_⟩
    have ktd : Ke H (upd H td (.lst [])) := .new ntd
    have ntd0 : td ≠ sd := fun e => by rw [e, hs] at ntd; cases ntd
    have nltd : lf ≠ td := ne_of_none hl ntd
    have hl2' : (upd H td (.lst [])) lf = some (.lst ((leasts pl ++ rest).map V.int)) := ktd.lst hl
    have htd2 : (upd H td (.lst [])) td = some (.lst []) := upd_same
    generalize upd H td _ = G0 at ktd hl2' htd2 ⊢
    refine ⟨_, rfl, a, rfl, ⟨_, ktd.sqt ha⟩, for_tup (K := K) (xs := xs) (fun j σ H' => ∃ l' st fv, σ = [some (.ref shp), some (.ref t), some (.int x), some (.ref tk), some (.ref sd), some (.ref l'), some (.ref a), some (.ref td), st] ∧ Ke H H' ∧ l' ≠ td ∧ l' ≠ sd ∧ H' td = some (.lst fv) ∧
      TodoV H' fv ((pl.take j).map (todoOf x)) ∧ H' l' = some (.lst ((leasts (pl.drop j) ++ rest).map V.int))) ⟨lf, _, [], rfl, ktd, nltd, nls, htd2, .nil, hl2'⟩ (fun j σ H' _ p => ?_) (fun j v σ H' hj p => ?_) (fun σ H' p => ?_)⟩
    · obtain ⟨l', st, fv, rfl, k, _⟩ := p
      exact k.sqt ha
    · obtain ⟨l', st, fv, rfl, k, nlf, nlsd, hf, hfv, hl'⟩ := p
      obtain ⟨d, hdd, hqq⟩ := hxs.getV hj
      rw [List.getElem?_map] at hdd
      obtain ⟨p, hp, rfl⟩ := Option.map_eq_some_iff.mp hdd
      obtain ⟨u, y, r, rfl, hu, hy⟩ := (hqq.ke k).step
      have ed := drop_at hp
      have hfl : fv.length ≤ 6 := by
        rw [Paired.length hfv, List.length_map, List.length_take]
        omega
      have hfl2 : fv.length < sizeLine := Nat.lt_of_le_of_lt hfl (by decide)
      have et' : (pl.take (j + 1)).map (todoOf x) = (pl.take j).map (todoOf x) ++ [todoOf x p] := by rw [take_snoc hp, List.map_append]; rfl
      have kf1 : ∀ {H1 : Hp} {o : HO}, Ke H' H1 → Ke H (upd H1 td o) := fun {H1 o} k1 => (k.trans k1).mut ntd (noCode_lst (k1.lst hf))
      cases p with
      | io b n =>
        have hy : y = amtV n := by cases n <;> exact hy
        subst hy
        have enp : decide (V.str (Ps.word (.io b n)) = V.str "pause") = false := by rw [dec_str', word_pz]; rfl
        refine ⟨_, rfl, u, _, 0, _, rfl, rfl, hu, atI0, rfl, _, rfl, ?_⟩
        rw [enp]
        have ew : Ps.word (.io b n) = wdS (todoOf x (.io b n)).1 := by cases b <;> rfl
        have ex2 : (todoOf x (.io b n)).2 = n.getD x := by cases b <;> rfl
        have tail : ∀ u2, H' u2 = none →
            ∃ l xs y, V.ref td = .ref l ∧ [V.ref u2] = [y] ∧ (upd H' u2 (.tup [.str (Ps.word (.io b n)), .int (n.getD x)])) l = some (.lst xs) ∧ xs.length < sizeLine ∧
              ∃ l'_1 st_1 fv, [some (V.ref shp), some (V.ref t), some (V.int x), some (V.ref tk), some (V.ref sd), some (V.ref l'), some (V.ref a), some (V.ref td), some (V.ref u)] = [some (.ref shp), some (.ref t), some (.int x), some (.ref tk), some (.ref sd), some (.ref l'_1), some (.ref a), some (.ref td), st_1] ∧ Ke H (upd (upd H' u2 (.tup [.str (Ps.word (.io b n)), .int (n.getD x)])) l (.lst (xs ++ [y]))) ∧ l'_1 ≠ td ∧ l'_1 ≠ sd ∧
                (upd (upd H' u2 (.tup [.str (Ps.word (.io b n)), .int (n.getD x)])) l (.lst (xs ++ [y]))) td = some (.lst fv) ∧ TodoV (upd (upd H' u2 (.tup [.str (Ps.word (.io b n)), .int (n.getD x)])) l (.lst (xs ++ [y]))) fv ((pl.take (j + 1)).map (todoOf x)) ∧
                (upd (upd H' u2 (.tup [.str (Ps.word (.io b n)), .int (n.getD x)])) l (.lst (xs ++ [y]))) l'_1 = some (.lst ((leasts (pl.drop (j + 1)) ++ rest).map V.int)) := by
          intro u2 n2
          have k2 : Ke H' (upd H' u2 (.tup [.str (Ps.word (.io b n)), .int (n.getD x)])) := .new n2
          have h2 := k2.lst hf
          have hT : TodoV (upd (upd H' u2 (.tup [.str (Ps.word (.io b n)), .int (n.getD x)])) td (.lst (fv ++ [.ref u2]))) (fv ++ [.ref u2]) ((pl.take (j + 1)).map (todoOf x)) := by
            rw [et']
            refine (hfv.tk (k2.tk.trans (Tk.mut (notTup_lst h2)))).snoc ?_
            rw [upd_ne (ne_of_none hf n2).symm, upd_same, ew, ex2]
          refine ⟨td, fv, _, rfl, rfl, h2, hfl2, l', _, _, rfl, kf1 k2, nlf, nlsd, upd_same, hT, ?_⟩
          rw [upd_ne nlf, k2.lst hl', ed]
          rfl
        refine iteF ⟨_, rfl, .inl ⟨rfl, _, SqL.of hf⟩, _, rfl, u, _, 0, _, rfl, rfl, hu, atI0, _, rfl, u, _, 1, _, rfl, rfl, hu, atI1, ?_⟩
        cases n with
        | none => exact ⟨rfl, _, rfl, iteT ⟨_, rfl, by show 2 ≤ sizeLine; decide, fun u2 n2 => tail u2 n2⟩⟩
        | some m => exact ⟨rfl, _, rfl, iteF ⟨_, rfl, u, _, 1, _, rfl, rfl, hu, atI1, by show 2 ≤ sizeLine; decide, fun u2 n2 => tail u2 n2⟩⟩
      | pz i1 i2 =>
        have hy : y = .int i1 := hy
        subst hy
        refine ⟨_, rfl, u, _, 0, _, rfl, rfl, hu, atI0, rfl, _, rfl, iteT ?_⟩
        have el : (leasts (pl.drop j) ++ rest).map V.int = V.int i1 :: (leasts (pl.drop (j + 1)) ++ rest).map V.int := by rw [ed]; rfl
        rw [el] at hl'
        refine ⟨_, rfl, .inl ⟨rfl, _, SqL.of hf⟩, _, rfl, l', _, 0, _, rfl, rfl, SqL.of hl', atI0, by show 2 ≤ sizeLine; decide, fun u2 n2 => ?_⟩
        have k2 : Ke H' (upd H' u2 (.tup [.str "pause", .int i1])) := .new n2
        have h2 := k2.lst hf
        refine ⟨td, fv, _, rfl, rfl, h2, hfl2, ?_⟩
        have hT : TodoV (upd (upd H' u2 (.tup [.str "pause", .int i1])) td (.lst (fv ++ [.ref u2]))) (fv ++ [.ref u2]) ((pl.take (j + 1)).map (todoOf x)) := by
          rw [et']
          refine (hfv.tk (k2.tk.trans (Tk.mut (notTup_lst h2)))).snoc ?_
          rw [upd_ne (ne_of_none hf n2).symm, upd_same]
          rfl
        have k3 := kf1 (o := .lst (fv ++ [.ref u2])) k2
        have hlz : (upd (upd H' u2 (.tup [.str "pause", .int i1])) td (.lst (fv ++ [.ref u2]))) l' = some (.lst (V.int i1 :: (leasts (pl.drop (j + 1)) ++ rest).map V.int)) := by
          rw [upd_ne nlf]
          exact k2.lst hl'
        have hfz : (upd (upd H' u2 (.tup [.str "pause", .int i1])) td (.lst (fv ++ [.ref u2]))) td = some (.lst (fv ++ [.ref u2])) := upd_same
        generalize upd (upd H' u2 (.tup [.str "pause", .int i1])) td (.lst (fv ++ [.ref u2])) = H3 at hT k3 hlz hfz ⊢
        refine ⟨_, rfl, 1, rfl, l', _, rfl, SqL.of hlz, fun l2 n2' => ?_⟩
        have k4 : Ke H3 (upd H3 l2 (.lst (cutV (V.int i1 :: (leasts (pl.drop (j + 1)) ++ rest).map V.int) (some 1) none))) := .new n2'
        refine ⟨l2, _, _, rfl, k3.trans k4, fun e => ?_, fun e => ?_, k4.lst hfz, hT.tk k4.tk, by rw [upd_same, cut1]⟩
        · rw [e, hfz] at n2'
          cases n2'
        · rw [e, k3.lst hs] at n2'
          cases n2'
    · obtain ⟨l', st, fv, rfl, k, nlf, nlsd, hf, hfv, hl'⟩ := p
      rw [hlen, List.take_length] at hfv
      rw [hlen, List.drop_length] at hl'
      have hl' : H' l' = some (.lst (rest.map V.int)) := hl'
      -- the side's dict
      refine ⟨_, rfl, .inl ⟨rfl, _, SqL.of (k.lst hs)⟩, fun d nd => ?_⟩
      have z6 := z6000
      refine ⟨_, rfl, upd_same, kv8 td, rfl, by show 8 ≤ 15; decide, ?_⟩
      rw [upd_upd, merge8]
      have hsd' := k.lst hs
      have ntdd : td ≠ d := ne_of_none hf nd
      have nlfd : l' ≠ d := ne_of_none hl' nd
      have nsdd : sd ≠ d := ne_of_none hsd' nd
      have kd : Ke H' (upd H' d (.dK (kv8 td))) := .new nd
      have hd8 : (upd H' d (.dK (kv8 td))) d = some (.dK (kv8 td)) := upd_same
      generalize upd H' d _ = J1 at kd hd8 ⊢
      refine ⟨sd, _, _, rfl, rfl, kd.lst hsd', by rw [List.length_map]; omega, ?_⟩
      have kx1 : Ke Hx (upd J1 sd (.lst (ds.map V.ref ++ [.ref d]))) := (k1.trans (k.trans kd)).mut nx (noCode_lst (kd.lst hsd'))
      have q1 : (upd J1 sd (.lst (ds.map V.ref ++ [.ref d]))) sd = some (.lst (ds.map V.ref ++ [.ref d])) := upd_same
      have q2 : (upd J1 sd (.lst (ds.map V.ref ++ [.ref d]))) d = some (.dK (kv8 td)) := by rw [upd_ne nsdd.symm]; exact hd8
      have q3 : (upd J1 sd (.lst (ds.map V.ref ++ [.ref d]))) td = some (.lst fv) := by rw [upd_ne ntd0]; exact kd.lst hf
      have q4 : (upd J1 sd (.lst (ds.map V.ref ++ [.ref d]))) l' = some (.lst (rest.map V.int)) := by rw [upd_ne nlsd]; exact kd.lst hl'
      have q5 : TodoV (upd J1 sd (.lst (ds.map V.ref ++ [.ref d]))) fv (pl.map (todoOf x)) := hfv.tk (kd.tk.trans (Tk.mut (notTup_lst (kd.lst hsd'))))
      generalize upd J1 sd _ = J2 at kx1 q1 q2 q3 q4 q5 ⊢
      refine ⟨_, rfl, 1, rfl, sd, _, -1, _, rfl, rfl, SqL.of q1, atI_last _ _, .inr (.inr (.inl ⟨rfl, .inl ⟨_, q2⟩⟩)), fun o no => ?_⟩
      have nx_d : Hx d = none := (k1.trans k).free nd
      have nx_o : Hx o = none := kx1.free no
      have ko1 : Ke J2 (upd J2 o (.dK [])) := .new no
      have ho1 : (upd J2 o (.dK [])) o = some (.dK []) := upd_same
      have ndo : d ≠ o := ne_of_none q2 no
      generalize upd J2 o _ = J3 at ko1 ho1 ⊢
      refine ⟨_, rfl, Nat.zero_le _, fun em nem => ?_⟩
      have ke : Ke J3 (upd J3 em (.lst [])) := .new nem
      have hem : (upd J3 em (.lst [])) em = some (.lst []) := upd_same
      generalize upd J3 em _ = J4 at ke hem ⊢
      have k24 := ko1.trans ke
      have done : ∀ e : V, e = oV (if pl.map (todoOf x) = [] then some 0 else none) → ∃ d' o' kvs more, V.ref d = .ref d' ∧ [V.ref o] = [.ref o'] ∧ d' ≠ o' ∧ (upd J4 o (.dK (mergeK [] (kv3 e)))) d' = some (.dK kvs) ∧ (upd J4 o (.dK (mergeK [] (kv3 e)))) o' = some (.dK more) ∧ kvs.length + more.length ≤ sizeLine ∧
          ∃ Hx_1 lf s6 s7 s8 ds, [some (V.ref shp), some (V.ref t), some (V.int x), some (V.ref tk), some (V.ref sd), some (V.ref l'), some (V.ref a), some (V.ref td), st] = [some (.ref shp), some (.ref t), some (.int x), some (.ref tk), some (.ref sd), some (.ref lf), s6, s7, s8] ∧ Ke H0 Hx_1 ∧ Ke Hx_1 (upd (upd J4 o (.dK (mergeK [] (kv3 e)))) d' (.dK (mergeK kvs more))) ∧ Hx_1 sd = none ∧ (upd (upd J4 o (.dK (mergeK [] (kv3 e)))) d' (.dK (mergeK kvs more))) sd = some (.lst (ds.map V.ref)) ∧ (upd (upd J4 o (.dK (mergeK [] (kv3 e)))) d' (.dK (mergeK kvs more))) lf = some (.lst (rest.map V.int)) ∧ lf ≠ sd ∧ DS ps qs x Hx_1 (i + 1) ds ∧ (∀ d ∈ ds, H0 d = none) ∧ ds.length ≤ i + 1 := by
        intro e ee
        rw [merge3]
        have m1 : Ke Hx (upd J4 o (.dK (kv3 e))) := (kx1.trans k24).mut nx_o (noCode_dK (ke.dK ho1))
        have w1 : (upd J4 o (.dK (kv3 e))) o = some (.dK (kv3 e)) := upd_same
        have w2 : (upd J4 o (.dK (kv3 e))) d = some (.dK (kv8 td)) := by rw [upd_ne ndo]; exact k24.dK q2
        have w3 : (upd J4 o (.dK (kv3 e))) td = some (.lst fv) := by rw [upd_ne (ne_of_none q3 no)]; exact k24.lst q3
        have w4 : (upd J4 o (.dK (kv3 e))) l' = some (.lst (rest.map V.int)) := by rw [upd_ne (ne_of_none q4 no)]; exact k24.lst q4
        have w5 : (upd J4 o (.dK (kv3 e))) sd = some (.lst (ds.map V.ref ++ [.ref d])) := by rw [upd_ne (ne_of_none q1 no)]; exact k24.lst q1
        have w6 : TodoV (upd J4 o (.dK (kv3 e))) fv (pl.map (todoOf x)) := q5.tk (k24.tk.trans (Tk.mut (notTup_dK (ke.dK ho1))))
        generalize upd J4 o _ = J5 at m1 w1 w2 w3 w4 w5 w6
        refine ⟨d, o, _, _, rfl, rfl, ndo, w2, w1, by show 8 + 3 ≤ sizeLine; decide, ?_⟩
        rw [merge11]
        have m2 : Ke Hx (upd J5 d (.dK (sideL (.ref td) (.int 0) (.int 0) (.int 0) (.int 0) (.int 0) (.int 0) (.int 0) .non .non e))) := m1.mut nx_d (noCode_dK w2)
        have y1 : (upd J5 d (.dK (sideL (.ref td) (.int 0) (.int 0) (.int 0) (.int 0) (.int 0) (.int 0) (.int 0) .non .non e))) d = some (.dK (sideL (.ref td) (.int 0) (.int 0) (.int 0) (.int 0) (.int 0) (.int 0) (.int 0) .non .non e)) := upd_same
        have y3 : (upd J5 d (.dK (sideL (.ref td) (.int 0) (.int 0) (.int 0) (.int 0) (.int 0) (.int 0) (.int 0) .non .non e))) td = some (.lst fv) := by rw [upd_ne ntdd]; exact w3
        have y4 : (upd J5 d (.dK (sideL (.ref td) (.int 0) (.int 0) (.int 0) (.int 0) (.int 0) (.int 0) (.int 0) .non .non e))) l' = some (.lst (rest.map V.int)) := by rw [upd_ne nlfd]; exact w4
        have y5 : (upd J5 d (.dK (sideL (.ref td) (.int 0) (.int 0) (.int 0) (.int 0) (.int 0) (.int 0) (.int 0) .non .non e))) sd = some (.lst (ds.map V.ref ++ [.ref d])) := by rw [upd_ne nsdd]; exact w5
        have y6 : TodoV (upd J5 d (.dK (sideL (.ref td) (.int 0) (.int 0) (.int 0) (.int 0) (.int 0) (.int 0) (.int 0) .non .non e))) fv (pl.map (todoOf x)) := w6.tk (Tk.mut (notTup_dK w2))
        generalize upd J5 d _ = J6 at m2 y1 y3 y4 y5 y6 ⊢
        obtain ⟨Hx', c1, c2, c3, c4⟩ := without (fun a => a = sd) m2 (fun a h => by rw [h]; exact nx) (fun a h => by rw [h]; exact noCode_lst y5)
        refine ⟨Hx', l', _, _, _, ds ++ [d], rfl, k0.trans c1, c2, c3 _ rfl, by rw [y5, List.map_append]; rfl, y4, nlsd, nextD Hx Hx' ds d hds c1 (fun hm => ?_) ⟨td, fv, by rw [c4 d (fun z => nsdd z.symm), ← ee]; exact y1, by rw [c4 td ntd0]; exact y3, Paired.mapP y6 fun _ _ ⟨b, e1, e2⟩ => ⟨b, e1, by rw [c4 b (fun z => by rw [z, y5] at e2; cases e2)]; exact e2⟩⟩, fun d' hd' => ?_, by rw [List.length_append, List.length_singleton]; omega⟩
        · -- d is new: it is not among those made before
          have : ∃ o', Hx d = some o' := by
            match i, hds with
            | 0, hds => have e : ds = [] := hds; rw [e] at hm; cases hm
            | 1, hds =>
              obtain ⟨d0, rfl, _, _, h1, _⟩ := hds
              rw [List.mem_singleton.mp hm]
              exact ⟨_, h1⟩
            | i + 2, hds => omega
          obtain ⟨o', z⟩ := this
          rw [nx_d] at z
          cases z
        · rcases List.mem_append.mp hd' with z | z
          · exact hfr d' z
          · rw [List.mem_singleton.mp z]
            exact k0.free nx_d
      have t4 : Dp K J4 (.ref td) (.list ((pl.map (todoOf x)).map tdD)) := todo_dp (k24.lst q3) (q5.tk k24.tk)
      refine ⟨_, _, t4, Dp.lst (SqL.of hem) .nil, todo_shaped _, by decide +kernel, _, rfl, ?_⟩
      rw [todo_eqv]
      by_cases z : pl.map (todoOf x) = []
      · rw [decide_eq_true z]
        exact iteF ⟨ke.dK ho1, kv3 (.int 0), rfl, by show 3 ≤ 15; decide, done _ (by rw [if_pos z]; rfl)⟩
      · rw [decide_eq_false z]
        exact iteT ⟨ke.dK ho1, kv3 .non, rfl, by show 3 ≤ 15; decide, done _ (by rw [if_neg z]; rfl)⟩
  · obtain ⟨Hx, lf, s6, s7, s8, ds, rfl, k0, k1, nx, hs, hl, nls, hds, hfr, hdl⟩ := p
    obtain ⟨d0, d1, rfl, nd, s0, s1⟩ := hds
    refine fun wd nwd => ⟨_, rfl, Nat.zero_le _, fun lg nlg => ⟨_, rfl, ?_⟩⟩
    have kw : Ke H (upd H wd (.dK [])) := .new nwd
    have hw : (upd H wd (.dK [])) wd = some (.dK []) := upd_same
    generalize upd H wd _ = G1 at kw hw nlg ⊢
    have kg : Ke G1 (upd G1 lg (.lst [])) := .new nlg
    have hg : (upd G1 lg (.lst [])) lg = some (.lst []) := upd_same
    generalize upd G1 lg _ = G2 at kg hg ⊢
    refine ⟨kg.dK hw, [(.inr "shape", .ref shp), (.inr "tick", .int 0), (.inr "log", .ref lg), (.inr "sides", .ref sd)], rfl, by show 4 ≤ 15; decide, ?_⟩
    have em : mergeK [] ([(.inr "shape", .ref shp), (.inr "tick", .int 0), (.inr "log", .ref lg), (.inr "sides", .ref sd)] : List (Key × V)) = wrlL (.ref shp) (.int 0) (.ref lg) (.ref sd) := rfl
    rw [em]
    have kxw : Hx wd = none := k1.free nwd
    have kf : Ke Hx (upd G2 wd (.dK (wrlL (.ref shp) (.int 0) (.ref lg) (.ref sd)))) := (k1.trans (kw.trans kg)).mut kxw (noCode_dK (kg.dK hw))
    have ne1 : lg ≠ wd := fun e => by rw [e, hw] at nlg; cases nlg
    have ne2 : sd ≠ wd := ne_of_none hs nwd
    have ne3 : sd ≠ lg := ne_of_none (kw.lst hs) nlg
    have z1 := k1
    obtain ⟨td0, vs0, y0, _, _⟩ := id s0
    obtain ⟨td1, vs1, y1, _, _⟩ := id s1
    have e0 := k1.dK y0
    have e1 := k1.dK y1
    have n0w : d0 ≠ wd := ne_of_none e0 nwd
    have n1w : d1 ≠ wd := ne_of_none e1 nwd
    have n0g : d0 ≠ lg := ne_of_none (kw.dK e0) nlg
    have n1g : d1 ≠ lg := ne_of_none (kw.dK e1) nlg
    have n0s : d0 ≠ sd := fun e => by rw [e, nx] at y0; cases y0
    have n1s : d1 ≠ sd := fun e => by rw [e, nx] at y1; cases y1
    have ax : ∀ {d l}, SdAt Hx d l → SdAx (upd G2 wd (.dK (wrlL (.ref shp) (.int 0) (.ref lg) (.ref sd)))) d l lg sd := fun ⟨td, vs, a, b, c⟩ => ⟨td, vs, kf.dK a, kf.lst b, c.tk kf.tk, ne_of_none (kw.lst (k1.lst b)) nlg, fun e => by rw [e, nx] at b; cases b⟩
    refine q _ wd lg sd d0 d1 (k0.trans kf) (k0.free kxw) ((k0.trans k1).free (kw.free nlg)) nsd (hfr d0 (by simp)) (hfr d1 (by simp)) ?_ upd_same (by rw [upd_ne ne1]; exact hg) (by rw [upd_ne ne2]; exact kg.lst (kw.lst hs)) (ax s0) (ax s1)
    simp only [List.nodup_cons, List.mem_cons, List.not_mem_nil, or_false, not_or, List.nodup_nil, and_true, not_false_eq_true]
    exact ⟨⟨ne1.symm, ne2.symm, n0w.symm, n1w.symm⟩, ⟨ne3.symm, n0g.symm, n1g.symm⟩, ⟨n0s.symm, n1s.symm⟩, nd⟩
end
end Sm

/-! The law: a run of its own world. -/
namespace Sm
open PySem PySem.Spec PyProof.Rows L2
def TriV (H : Hp) (v : V) (q : Int × Int × Int) : Prop := ∃ u, v = V.ref u ∧ H u = some (.tup [.int q.1, .int q.2.1, .int q.2.2])
def triD (q : Int × Int × Int) : PyData := .tuple [.int q.1, .int q.2.1, .int q.2.2]
/-- sorted(..) of triples of ints: the same ones in some order -/
def rSortQ (K : PySem.W.Frag) : List V → Hp → VK → Prop := fun vs H Q => ∃ a xs l, vs = [V.ref a] ∧ SqL K H a xs ∧ Paired (TriV H) xs l ∧ l.length ≤ sizeLine ∧ ∀ D ys l', Paired (TriV H) ys l' → (∀ q ∈ l', q ∈ l) → ys.length = xs.length → H D = none → Q (.ref D) (upd H D (.lst ys))
theorem tri_each {X : Cx} {pins : List (Addr × Obj)} {σ : L2.St} {H : Hp} {s : Shared} (I : Inv X pins σ H s) : ∀ {xs : List V} {vs : List Value} {l : List (Int × Int × Int)}, Vals xs vs → Paired (TriV H) xs l →
    PySem.W.EachIs (fun (v : Value) (q : Int × Int × Int) => ∃ u : Addr, v = .ref u ∧ H u = some (.tup [.int q.1, .int q.2.1, .int q.2.2])) vs l ∧ PySem.W.EachIs (fun (v : Value) (q : Int × Int × Int) => ∃ as, Reads s.heap v (triD q) as) vs l
  | _, _, _, .nil, .nil => ⟨.nil, .nil⟩
  | _, _, _, .cons r1 r2, .cons h1 h2 => by
    obtain ⟨a, b⟩ := tri_each I r2 h2
    obtain ⟨u, rfl, hu⟩ := h1
    exact ⟨.cons ⟨u, r1, hu⟩ a, .cons (Dp.reads I _ _ _ (.tup (SqT.of hu) (.cons (.int _) (.cons (.int _) (.cons (.int _) .nil)))) r1) b⟩
theorem tri_back {H : Hp} : ∀ {vs : List Value} {l : List (Int × Int × Int)}, PySem.W.EachIs (fun (v : Value) (q : Int × Int × Int) => ∃ u : Addr, v = .ref u ∧ H u = some (.tup [.int q.1, .int q.2.1, .int q.2.2])) vs l → ∃ ys, Vals ys vs ∧ Paired (TriV H) ys l
  | _, _, .nil => ⟨[], .nil, .nil⟩
  | _, _, .cons h1 h2 => by
    obtain ⟨ys, a, b⟩ := tri_back h2
    obtain ⟨u, rfl, hu⟩ := h1
    exact ⟨.ref u :: ys, .cons rfl a, .cons ⟨u, rfl, hu⟩ b⟩
theorem cr_sortedQ {X : Cx} (K : PySem.W.Frag) (hun : X.A.units + 64 < cLine) (hK : X.K = K := by rfl) : CallR X (.builtin "sorted") (rSortQ K) := by
  subst hK
  intro pins s σ H vs us Q I r h
  obtain ⟨a, xs, l, rfl, hs, hp, hl, q⟩ := h
  obtain rfl := Vals.ref1 r
  obtain ⟨its, rv, hls, hz⟩ := I.list hs
  obtain ⟨e1, e2⟩ := tri_each I rv hp
  refine PySem.W.sorted_data (enc := triD) hls.isList e1 e2 (PySem.W.AllAlike.of fun _ _ => by simp [PySem.W.alike, PySem.W.alikeAll, triD]) (PySem.W.Sortable.tuples fun _ => ⟨_, _, rfl⟩) hl (fun b _ => ?_) fun out ho eo => ?_
  · have hd : (triD b).depth = 1 := by simp [triD, PyData.depth, PyData.depthAll]
    omega
  · obtain ⟨ys, hys, hpy⟩ := tri_back eo
    obtain ⟨ep, he'⟩ := PyProof.Rows.sortedAll_at s.heap its (List.toArray out)
    have hlen : ys.length = xs.length := by rw [hys.length, ho, Paired.length hp]
    refine ⟨.ref _, upd H (s.heap.objs.size + 1) (.lst ys), I.laid (t' := s.toks) (fun _ _ => PyProof.Rows.sortedAll_old) (Nat.le_succ _) ⟨by rw [hlen]; exact hz, _, ep, hys, he'⟩, rfl, q _ _ _ hpy (fun x hx => ?_) hlen (I.hok.fresh (Nat.le_succ _))⟩
    exact List.mem_mergeSort.mp hx
theorem ints_shaped (l : List Int) : SeqAt.shaped (.list (l.map PyData.int)) = true := by
  have h : ∀ l : List Int, PyData.canLayAll0 (l.map PyData.int) = true ∧ PyData.depthAll (l.map PyData.int) = 0 := by
    intro l
    induction l with
    | nil => exact ⟨rfl, by simp [PyData.depthAll]⟩
    | cons p r ih => exact ⟨by simp [PyData.canLayAll0, PyData.canLay0, ih.1], by simp [PyData.depthAll, PyData.depth, ih.2]⟩
  obtain ⟨h1, h2⟩ := h l
  unfold SeqAt.shaped
  rw [Bool.and_eq_true, decide_eq_true_eq]
  exact ⟨by simp [PyData.canLay0, h1], by simp [PyData.depth, h2]⟩
theorem ints_dp {K : PySem.W.Frag} {H : Hp} {a : Addr} {l : List Int} (h : H a = some (.lst (l.map V.int))) : Dp K H (.ref a) (.list (l.map PyData.int)) := by
  refine .lst (SqL.of h) ?_
  clear h
  induction l with
  | nil => exact .nil
  | cons x r ih => exact .cons (.int x) ih
theorem ints_eqv (l : List Int) : PyData.eqv (.list (l.map PyData.int)) (.list []) = decide (l = []) := by
  cases l <;> simp [PyData.eqv, PyData.eqvAll]
/-! todo only gets shorter -/
theorem step_len {S : Sh} {W : Wo} {k : Bool} : ((step S W k).1.sd k).todo.length ≤ (W.sd k).todo.length := by
  by_cases h : (step S W k).2 = true
  · rw [(step_todo h).1, List.length_tail]; omega
  · unfold step at h ⊢
    split
    · exact Nat.le_refl _
    · rename_i n r e
      split
      · rw [Wo.put_same]; exact Nat.le_refl _
      · rename_i q
        simp only [e, if_neg q] at h
        exact absurd trivial h
    · rename_i n r e
      split
      · exact Nat.le_refl _
      · rename_i q
        simp only [e, if_neg q] at h
        exact absurd trivial h
    · rename_i n r e
      simp only [e] at h
      exact absurd trivial h
theorem steps_len {S : Sh} {k : Bool} : ∀ (n : Nat) {W : Wo}, ((steps S W k n).sd k).todo.length ≤ (W.sd k).todo.length
  | 0, _ => Nat.le_refl _
  | n + 1, W => by
    show ((if (step S W k).2 = true then steps S (step S W k).1 k n else (step S W k).1).sd k).todo.length ≤ _
    split
    · exact Nat.le_trans (steps_len n) step_len
    · exact step_len
theorem answer_todo {S : Sh} {W : Wo} {k j : Bool} : ((answer S W k).sd j).todo = (W.sd j).todo := by
  unfold answer
  split
  · rcases Sm.two k j with rfl | rfl
    · rw [send_same]
    · rw [send_other]
  · rfl
theorem tick_len {S : Sh} {W : Wo} (k : Bool) : ((tickW S W).sd k).todo.length ≤ (W.sd k).todo.length := by
  show ((answer S (answer S (t3 S W) false) true).sd k).todo.length ≤ _
  rw [answer_todo, answer_todo]
  have e1 := (t1_til (S := S) (W := W) k).2.1
  cases k
  · have e : (t3 S W).sd false = (t2 S W).sd false := goes_other (k := true)
    rw [e, ← e1]
    exact steps_len _
  · have e : (t2 S W).sd true = (t1 S W).sd true := goes_other (k := false)
    have h : ((t3 S W).sd true).todo.length ≤ ((t2 S W).sd true).todo.length := steps_len _
    rw [e, e1] at h
    exact h
end Sm

/-! The law: a run and its ends. -/
namespace Sm
open PySem PySem.Spec PyProof.Rows L2
theorem told_sq {K : PySem.W.Frag} {H : Hp} {v : V} {S : Sh} (h : Dq K H v (lineD S)) : ∃ a, v = .ref a ∧ ∃ C : LC, C.shp = a ∧ LCok K H S C := by
  have h : Dq K H v (.tuple [.int S.size, .int S.way, wayD (S.rule false) (S.every false) (S.delay false), wayD (S.rule true) (S.every true) (S.delay true)]) := h
  cases h with
  | @tup a xs _ hs ha =>
  cases ha with | @cons x0 xr _ _ h0 ha =>
  cases ha with | @cons x1 xr _ _ h1 ha =>
  cases ha with | @cons x2 xr _ _ h2 ha =>
  cases ha with | @cons x3 xr _ _ h3 ha =>
  cases ha
  cases h0
  cases h1
  obtain ⟨n, rfl, hn⟩ := wayAt h2
  obtain ⟨f, rfl, hf⟩ := wayAt h3
  exact ⟨a, rfl, ⟨a, fun k => if k = true then f else n⟩, rfl, ⟨hs, fun k => by cases k; exact hn; exact hf⟩⟩
def lay5 (N : List Addr) (i : Nat) : Addr := (N[i]?).getD 0
theorem lay5_inj {N : List Addr} (hl : N.length = 5) (nd : N.Nodup) {i j : Nat} (hi : i < 5) (hj : j < 5) (e : lay5 N i = lay5 N j) : i = j := by
  have a : N[i]? = some (lay5 N i) := by unfold lay5; rw [List.getElem?_eq_getElem (by omega)]; rfl
  have b : N[j]? = some (lay5 N j) := by unfold lay5; rw [List.getElem?_eq_getElem (by omega)]; rfl
  rw [e, ← b] at a
  exact (List.getElem?_inj (i := i) (j := j) (by omega) nd).mp a
section
variable {P : Program} {w : World} {K : PySem.W.Frag} {mg : Str → Option Value} {base : Heap}
abbrev N_law_run : List Str := ["_law_shape", "_law_plans_here", "_law_amount", "_law_ticks", "_law_world", "_law_turn", "_law_log", "_law_order", "_law_later", "_law_at", "_law_here", "_law_each"]
theorem sc_law_run : FnScope N_law_run ["_law_shape", "_law_plans_here", "_law_amount", "_law_ticks"] (defScope s_law_run) := ⟨rfl, rfl, rfl, by decide +kernel, rfl, by decide +kernel, by decide +kernel⟩
theorem ok_law_run (T : Tx K mg w) : Okf P w K mg base "_law_run" ["_law_shape", "_law_plans_here", "_law_amount", "_law_ticks"] 5 (sp4 fun sv pv av tv H Q => ∃ S t v1 v2 ps qs x tk, Dq K H sv (lineD S) ∧ Bd S ∧ pv = .ref t ∧ av = .int x ∧ tv = .ref tk ∧ SqT K H t [v1, v2] ∧ Dq K H v1 (planD ps) ∧ Dq K H v2 (planD qs) ∧ ps.length ≤ 6 ∧ qs.length ≤ 6 ∧ (∀ p ∈ ps, p.ok) ∧ (∀ p ∈ qs, p.ok) ∧ (1 ≤ x ∧ x ≤ 60) ∧
    H tk = some (.lst ((leasts ps ++ leasts qs).map V.int)) ∧ ∀ H' r e y, Ke H H' → H' r = some (.lst [.ref e, y]) → H' e = some (.tup [oV ((runE S ps qs x).sd false).fin, oV ((runE S ps qs x).sd true).fin]) → Q (.ref r) H') := by
  have O_law_begin := ok_law_begin (P := P) (w := w) (base := base) T
  have O_law_tick := ok_law_tick (P := P) (w := w) (base := base) T
  refine mkF T ix_law_run rfl T.g_law_run sc_law_run (fun _ _ _ _ _ _ us hl => match us, hl with | [_, _, _, _], _ => rfl) len4 (fun cdv A outer s0 H0 E vs Q hr h => ?_)
  refine ⟨_, (pss_cons (ps_set (i := 4) sc_law_run.nd rfl (Or.inl rfl) (pe_f O_law_begin (hr.mono (by decide)) (by rfl) (pa_cons (pv 0) (pa_cons (pv 1) (pa_cons (pv 2) (pa_cons (pv 3) pa_nil))))))
    (pss_cons (ps_for PassesOwn.never rfl (pi_range1 (by rfl) T.n_range (pa_cons pe_int pa_nil)) (pg_name (i := 5) sc_law_run.nd rfl (Or.inl rfl))
      (pss_cons (ps_set (i := 8) sc_law_run.nd rfl (Or.inl rfl) (pe_f O_law_tick (hr.mono (by decide)) (by rfl) (pa_cons (pv 4) pa_nil)))
    (pss_cons (ps_if (pt_cmpR (op_eqD hr.units) (pv 8) (pe_lst pa_nil) (nomark _))
      (pss_one ps_break)
      pss_nil)
    (pss_one (ps_dput (hu_of hr) (pv 4) pe_str (pe_callB (minK K rfl) (by rfl) T.n_min (by decide +kernel) (pa_cons (pv 8) pa_nil)) rfl)))))
    (pss_cons (ps_set (i := 6) sc_law_run.nd rfl (Or.inr rfl) (pe_dget (hu_of hr) (pv 4) pe_str (fun _ _ => rfl)))
    (pss_cons (ps_set (i := 7) sc_law_run.nd rfl (Or.inl rfl) (pe_callB (cr_sortedQ K hr.units) (by rfl) T.n_sorted (by decide +kernel) (pa_cons (pe_lc (own := [(("_law_at" : Str), 9)]) (by rfl) sc_law_run.nd (pi_range1 (by rfl) T.n_range (pa_cons (pe_callB (lenK K) (by rfl) T.n_len (by decide +kernel) (pa_cons (pv 6) pa_nil)) pa_nil)) (blkOk_by (own := [(("_law_at" : Str), 9)]) (N := N_law_run) (sc := defScope s_law_run) (by decide +kernel)) (fun _ _ _ _ _ => pg_name (i := 9) sc_law_run.nd rfl (Or.inl rfl)) (fun _ _ _ _ _ => pts_nil) (fun _ _ _ _ _ => (pe_tup (pa_cons (pe_ix (ixT K) (pe_ix (ixL K) (pv 6) (pv 9) (fun _ _ => rfl)) pe_int (fun _ _ => rfl)) (pa_cons (pe_ix (ixT K) (pe_ix (ixL K) (pv 6) (pv 9) (fun _ _ => rfl)) pe_int (fun _ _ => rfl)) (pa_cons (pv 9) pa_nil)))))) pa_nil)))
    (pss_one (ps_ret (pe_lst (pa_cons (pe_callTy call_tuple_of (by rfl) T.n_tuple (by decide +kernel) (pa_cons (pe_lc (own := [(("_law_here" : Str), 10)]) (by rfl) sc_law_run.nd (piL K (pe_dget (hu_of hr) (pv 4) pe_str (fun _ _ => rfl))) (blkOk_by (own := [(("_law_here" : Str), 10)]) (N := N_law_run) (sc := defScope s_law_run) (by decide +kernel)) (fun _ _ _ _ _ => pg_name (i := 10) sc_law_run.nd rfl (Or.inl rfl)) (fun _ _ _ _ _ => pts_nil) (fun _ _ _ _ _ => (pe_dget (hu_of hr) (pv 10) pe_str (fun _ _ => rfl)))) pa_nil)) (pa_cons (pe_callTy call_tuple_of (by rfl) T.n_tuple (by decide +kernel) (pa_cons (pe_lc (own := [(("_law_each" : Str), 11)]) (by rfl) sc_law_run.nd (piL K (pv 7)) (blkOk_by (own := [(("_law_each" : Str), 11)]) (N := N_law_run) (sc := defScope s_law_run) (by decide +kernel)) (fun _ _ _ _ _ => pg_name (i := 11) sc_law_run.nd rfl (Or.inl rfl)) (fun _ _ _ _ _ => pts_nil) (fun _ _ _ _ _ => (pe_ix (ixL K) (pv 6) (pe_ix (ixT K) (pv 11) pe_int (fun _ _ => rfl)) (fun _ _ => rfl)))) pa_nil)) pa_nil))))))))), ?_⟩
  obtain ⟨_, _, _, _, rfl, S, t, v1, v2, ps, qs, x, tk, hsh, B, rfl, rfl, rfl, ht, h1, h2, l1, l2, o1, o2, hx, htk, q⟩ := h
  obtain ⟨shp, rfl, C, rfl, okC⟩ := told_sq hsh
  refine ⟨_, rfl, _, rfl, _, rfl, _, rfl, _, _, _, _, rfl, C.shp, t, v1, v2, ps, qs, x, tk, rfl, rfl, rfl, rfl, ht, h1, h2, l1, l2, htk, fun H1 wd lg sd d0 d1 k1 nwd nlg nsd nd0 nd1 nod hwd hlg hsd s0' s1 => ?_⟩
  obtain ⟨td0, vs0, y0, z0, u0, x0, w0⟩ := s0'
  obtain ⟨td1, vs1, y1, z1, u1, x1, w1⟩ := s1
  let N5 : List Addr := [wd, lg, sd, d0, d1]
  let D : LD := ⟨0, [], fun k => if k = true then td1 else td0, fun k => if k = true then vs1 else vs0, fun _ => 0, fun _ => 0, fun _ => 0, fun _ => 0, fun _ => 0, fun _ => 0, fun _ => 0, fun _ => none, fun _ => none, fun k => if k = true then (if qs.map (todoOf x) = [] then some 0 else none) else (if ps.map (todoOf x) = [] then some 0 else none)⟩
  have a1 : AtL K H0 H1 S (lay5 N5) C D := by
    refine ⟨okC, k1, fun i j hi hj e => lay5_inj rfl nod hi hj e, fun i hi => ?_, fun i o hi => ?_, fun k => ?_, fun i k hi => ?_⟩
    · match i, hi with
      | 0, _ => exact nwd
      | 1, _ => exact nlg
      | 2, _ => exact nsd
      | 3, _ => exact nd0
      | 4, _ => exact nd1
      | i + 5, hi => exact absurd hi (by omega)
    · match i, hi with
      | 0, hi => cases hi; exact hwd
      | 1, hi => cases hi; exact hlg
      | 2, hi => cases hi; exact hsd
      | 3, hi => cases hi; exact y0
      | 4, hi => cases hi; exact y1
      | i + 5, hi => simp [contL] at hi
    · cases k
      · exact z0
      · exact z1
    · have g : ∀ (td : Addr) (vs : List V), H1 td = some (.lst vs) → td ≠ lg → td ≠ sd → lay5 N5 i ≠ td := fun td vs ht g1 g2 e => by
        match i, hi with
        | 0, _ => have e : wd = td := e; rw [← e, hwd] at ht; cases ht
        | 1, _ => exact g1 (show lg = td from e).symm
        | 2, _ => exact g2 (show sd = td from e).symm
        | 3, _ => have e : d0 = td := e; rw [← e, y0] at ht; cases ht
        | 4, _ => have e : d1 = td := e; rw [← e, y1] at ht; cases ht
        | i + 5, hi => exact absurd hi (by omega)
      cases k
      · exact g td0 vs0 z0 x0 w0
      · exact g td1 vs1 z1 x1 w1
  have f1 : LM S H1 D (begin0 (ps.map (todoOf x)) (qs.map (todoOf x))) := by
    refine ⟨rfl, fun k => by cases k <;> rfl, fun k => by cases k <;> rfl, fun k => by cases k <;> rfl, fun k => by cases k <;> rfl, fun k => by cases k <;> rfl, fun k => by cases k <;> rfl, fun k => by cases k <;> rfl, fun k => by cases k <;> rfl, fun k => by cases k <;> rfl, fun k => by cases k <;> rfl, fun k => ?_, .nil⟩
    cases k
    · exact u0
    · exact u1
  obtain ⟨sb1, sp1⟩ := sum_bound hx o1
  obtain ⟨sb2, sp2⟩ := sum_bound hx o2
  have fine := B.fine
  have g0 := begin_good (S := S) sp1 sp2
  have ph := begin_phi (S := S) (a := ps.map (todoOf x)) (b := qs.map (todoOf x))
  have dn := begin_done (S := S) fine sp1 sp2 (by omega)
  have htd : ∀ k, ((begin0 (ps.map (todoOf x)) (qs.map (todoOf x))).sd k).todo.length ≤ 6 := fun k => by
    cases k
    · show (ps.map (todoOf x)).length ≤ 6; rw [List.length_map]; exact l1
    · show (qs.map (todoOf x)).length ≤ 6; rw [List.length_map]; exact l2
  have bt0 : Bt S (begin0 (ps.map (todoOf x)) (qs.map (todoOf x))) (landing S (begin0 (ps.map (todoOf x)) (qs.map (todoOf x)))) := ⟨g0, by
    rw [ph]
    show _ + ((([] : List Pc).length : Nat) : Int) ≤ 3000
    rw [List.length_nil]
    omega⟩
  clear_value D
  generalize hR : runE S ps qs x = R at q
  have hR : runW S 4000 (begin0 (ps.map (todoOf x)) (qs.map (todoOf x))) = R := hR
  generalize begin0 (ps.map (todoOf x)) (qs.map (todoOf x)) = W0 at f1 bt0 dn hR htd
  have e4 : (4000 : Nat) = (4000 : Int).toNat := rfl
  rw [e4] at dn hR
  generalize hL : lay5 N5 = L at a1
  have hwL : wd = L 0 := by rw [← hL]; rfl
  refine ⟨4000, rfl, by decide, by decide, ?_⟩
  generalize (4000 : Int).toNat = n0 at dn hR ⊢
  have z6 := z6000
  refine for_range (lo := 0) (n := n0) (fun i σ H => ∃ Y D s5 s8, σ = [some (.ref C.shp), some (.ref t), some (.int x), some (.ref tk), some (.ref wd), s5, none, none, s8, none, none, none] ∧ AtL K H0 H S L C D ∧ LM S H D Y ∧ Bt S Y (landing S Y) ∧ (∀ k, (Y.sd k).todo.length ≤ 6) ∧ Done S (n0 - i) Y ∧ runW S (n0 - i) Y = R)
    ⟨W0, D, _, _, rfl, a1, f1, bt0, htd, dn, hR⟩ (fun i σ H hi p => ?_) (fun σ H p => ?_)
  · obtain ⟨Y, D, s5, s8, rfl, a, f, bt, htd, dn, hR⟩ := p
    refine ⟨_, rfl, _, rfl, H0, S, L, C, D, Y, by rw [hwL], B, a, f, bt, htd, fun H' D' r a' f' hr hrL => ?_⟩
    have bt' := bt.leads (leads_tick fine bt.good)
    obtain ⟨m, hm⟩ : ∃ m, n0 - i = m + 1 := ⟨n0 - i - 1, by omega⟩
    rw [hm] at dn hR
    rw [runW_succ] at hR
    refine ⟨_, rfl, Nat.zero_le _, fun em nem => ?_⟩
    have ke : Ke H' (upd H' em (.lst [])) := .new nem
    have hem : (upd H' em (.lst [])) em = some (.lst []) := upd_same
    generalize upd H' em _ = H2 at ke hem ⊢
    have a2 := a'.ke ke
    have f2 := f'.tk ke.tk
    refine ⟨_, _, ints_dp (ke.lst hr), Dp.lst (SqL.of hem) .nil, ints_shaped _, by decide +kernel, _, rfl, ?_⟩
    rw [ints_eqv]
    refine ite_dec (fun e => ?_) (fun e => ?_)
    · rw [if_pos e] at hR
      rw [hR] at f2 bt'
      have hlg := bt'.bnd.log
      have hln : D'.lgv.length = R.log.length := Paired.length f2.lg
      refine ⟨_, rfl, _, _, rfl, by rw [hwL]; exact gW_log a2.o0, ?_⟩
      -- the order of the pieces
      refine ⟨_, rfl, L 1, _, rfl, .inl (SqL.of a2.o1), (D'.lgv.length : Int), rfl, by omega, by omega, fun E hE => ?_⟩
      refine lc_range (lo := 0) (n := ((D'.lgv.length : Nat) : Int).toNat) (fun j G => Ke H2 G ∧ j ≤ D'.lgv.length ∧ ∃ vs l, G E = some (.lst vs) ∧ Paired (TriV G) vs l ∧ l.length = j ∧ ∀ q ∈ l, 0 ≤ q.2.2 ∧ q.2.2 < D'.lgv.length) ⟨.new hE, Nat.zero_le _, [], [], upd_same, .nil, rfl, (fun _ h => by cases h)⟩ (fun j G hj p => ?_) (fun G p => ?_)
      · obtain ⟨kG, hjl, vs, l, hvs, htr, hll, hq⟩ := p
        have hj' : j < D'.lgv.length := by rw [Int.toNat_natCast] at hj; exact hj
        have aG := a2.ke kG
        obtain ⟨v, hv⟩ : ∃ v, D'.lgv[j]? = some v := ⟨_, List.getElem?_eq_getElem hj'⟩
        obtain ⟨pc, hpc, b, rfl, hb⟩ := pgetV (f2.tk kG.tk).lg hv
        have ej : atI D'.lgv (0 + (j : Int)) = some (.ref b) := by rw [Int.zero_add]; exact atI_nat hv
        refine ⟨rfl, _, rfl, _, rfl, L 1, _, _, _, rfl, rfl, SqL.of aG.o1, ej, b, _, 0, _, rfl, rfl, SqT.of hb, atI0, _, rfl, _, rfl, L 1, _, _, _, rfl, rfl, SqL.of aG.o1, ej, b, _, 1, _, rfl, rfl, SqT.of hb, atI1, _, rfl, by show 3 ≤ sizeLine; decide, fun u nu => ?_⟩
        have ku : Ke G (upd G u (.tup [.int pc.t, .int (kI pc.k), .int (0 + (j : Int))])) := .new nu
        have hu : (upd G u (.tup [.int pc.t, .int (kI pc.k), .int (0 + (j : Int))])) u = some (.tup [.int pc.t, .int (kI pc.k), .int (0 + (j : Int))]) := upd_same
        generalize upd G u _ = G2 at ku hu ⊢
        have tE : Tk G (upd G2 E (.lst (vs ++ [.ref u]))) := ku.tk.trans (Tk.mut (notTup_lst (ku.lst hvs)))
        refine ⟨vs, ku.lst hvs, by rw [Paired.length htr]; omega, (kG.trans ku).mut hE (noCode_lst (ku.lst hvs)), hj', vs ++ [.ref u], l ++ [(pc.t, kI pc.k, 0 + (j : Int))], upd_same, psnoc (Paired.mapP htr fun _ _ ⟨c, e1, e2⟩ => ⟨c, e1, tE _ _ e2⟩) ⟨u, rfl, (Tk.mut (notTup_lst (ku.lst hvs))) _ _ hu⟩, by rw [List.length_append, hll]; rfl, fun q hq' => ?_⟩
        rcases List.mem_append.mp hq' with z | z
        · exact hq q z
        · rw [List.mem_singleton.mp z]
          show 0 ≤ 0 + (j : Int) ∧ 0 + (j : Int) < _
          omega
      · obtain ⟨kG, hjl, vs, l, hvs, htr, hll, hq⟩ := p
        refine ⟨E, vs, l, rfl, SqL.of hvs, htr, by omega, fun O ys l' htr' hmem hlen' nO => ?_⟩
        have kO : Ke G (upd G O (.lst ys)) := .new nO
        have hO : (upd G O (.lst ys)) O = some (.lst ys) := upd_same
        generalize upd G O _ = G2 at kO hO ⊢
        have k22 := kG.trans kO
        have a3 := a2.ke k22
        have htr2 : Paired (TriV G2) ys l' := Paired.mapP htr' fun _ _ ⟨c, e1, e2⟩ => ⟨c, e1, kO.tup e2⟩
        -- the ends
        refine ⟨_, rfl, _, _, rfl, by rw [hwL]; exact gW_sides a3.o0, L 2, rfl, ⟨_, SqL.of a3.o2⟩, lc_l (fun j => (two2 fun k => oV (D'.fin k)).take j) (SqL.of a3.o2) rfl (fun j hj => ?_) (fun j v G3 hj kH Yes No yes no => ?_) (fun E2 G3 hE2 k3 hE3 => ?_)⟩
        · rw [List.length_take]
          have : (two2 fun k => oV (D'.fin k)).length = 2 := rfl
          omega
        · have aH := a3.ke kH
          match j, hj with
          | 0, hj => cases hj; exact ⟨rfl, _, rfl, _, _, rfl, gS_end (aH.oS false), yes _ _ (.refl _) rfl⟩
          | 1, hj => cases hj; exact ⟨rfl, _, rfl, _, _, rfl, gS_end (aH.oS true), yes _ _ (.refl _) rfl⟩
          | j + 2, hj => simp [two2] at hj
        have hE3 : G3 E2 = some (.lst [oV (D'.fin false), oV (D'.fin true)]) := hE3
        refine ⟨E2, _, rfl, .inl ⟨SqL.of hE3, fun e1 ne1 => ?_⟩⟩
        have ke1 : Ke G3 (upd G3 e1 (.tup [oV (D'.fin false), oV (D'.fin true)])) := .new ne1
        have he1 : (upd G3 e1 (.tup [oV (D'.fin false), oV (D'.fin true)])) e1 = some (.tup [oV (D'.fin false), oV (D'.fin true)]) := upd_same
        generalize upd G3 e1 _ = G4 at ke1 he1 ⊢
        have k24 := k3.trans ke1
        have a4 := a3.ke k24
        have lys : ys.length = l'.length := Paired.length htr2
        -- the pieces
        refine ⟨_, rfl, O, rfl, ⟨_, SqL.of (k24.lst hO)⟩, lc_l (fun j => (l'.take j).map fun q => (D'.lgv[q.2.2.toNat]?).getD .non) (SqL.of (k24.lst hO)) rfl (fun j hj => ?_) (fun j v G5 hj kH Yes No yes no => ?_) (fun E4 G5 hE4 k5 hE5 => ?_)⟩
        · rw [List.length_map, List.length_take]
          have hvl : vs.length = l.length := Paired.length htr
          omega
        · obtain ⟨qq, hqq, b, rfl, hb⟩ := pgetV htr2 hj
          have hb := (k24.trans kH).tup hb
          have aH := a4.ke kH
          obtain ⟨q0, q1⟩ := hq qq (hmem qq (List.mem_of_getElem? hqq))
          have hlt : qq.2.2.toNat < D'.lgv.length := by omega
          have ee : atI D'.lgv qq.2.2 = some ((D'.lgv[qq.2.2.toNat]?).getD .non) := by
            have e2 : atI D'.lgv ((qq.2.2.toNat : Nat) : Int) = some ((D'.lgv[qq.2.2.toNat]?).getD .non) := atI_nat (by rw [List.getElem?_eq_getElem hlt]; rfl)
            rw [Int.toNat_of_nonneg q0] at e2
            exact e2
          refine ⟨rfl, _, rfl, _, rfl, b, _, 2, _, rfl, rfl, SqT.of hb, atI2, L 1, _, _, _, rfl, rfl, SqL.of aH.o1, ee, yes _ _ (.refl _) ?_⟩
          rw [take_snoc hqq, List.map_append]
          rfl
        refine ⟨E4, _, rfl, .inl ⟨SqL.of hE5, fun e2 ne2 => ?_⟩⟩
        have ke2 := Ke.new (H := G5) (p := e2) (o := .tup ((l'.take ys.length).map fun q => (D'.lgv[q.2.2.toNat]?).getD .non)) ne2
        generalize upd G5 e2 _ = G6 at ke2 ⊢
        refine ⟨by show 2 ≤ sizeLine; decide, fun r' nr => ?_⟩
        have k46 := k5.trans (ke2.trans (.new (o := .lst [.ref e1, .ref e2]) nr))
        refine q _ r' e1 (.ref e2) (a4.base.trans k46) upd_same ?_
        rw [← f2.fin, ← f2.fin]
        exact k46.tup he1
    · rw [if_neg e] at hR
      have dn : Done S m (next S Y) := dn.elim (fun z => absurd z e) id
      obtain ⟨g2, p2, t2⟩ := next_ok fine bt.good e
      have hr2 := ke.lst hr
      refine ⟨_, rfl, r, _, rfl, SqL.of hr2, by cases z : later S (tickW S Y) with | nil => exact absurd z e | cons a b => simp, fun mn hm1 hm2 => ?_⟩
      have emn := minL_uniq hm1 hm2
      refine ⟨_, rfl, _, _, rfl, by rw [hwL]; exact pW_tick a2.o0 _, ?_⟩
      obtain ⟨a3, t3⟩ := a2.mT mn
      rw [hwL]
      refine ⟨next S Y, _, _, _, rfl, a3, ?_, ⟨g2, ?_⟩, fun k => Nat.le_trans (tick_len k) (htd k), ?_, ?_⟩
      · have z := f2.tk t3
        exact ⟨emn.symm, z.kept, z.out, z.known, z.small, z.come, z.used, z.full, z.since, z.til, z.fin, z.td, z.lg⟩
      · have e4 : (next S Y).log = (tickW S Y).log := rfl
        rw [p2, e4]
        exact bt'.le
      · have : n0 - (i + 1) = m := by omega
        rw [this]; exact dn
      · have : n0 - (i + 1) = m := by omega
        rw [this]; exact hR
  · obtain ⟨Y, D, s5, s8, rfl, a, f, bt, htd, dn, hR⟩ := p
    rw [Nat.sub_self] at dn
    exact dn.elim
abbrev N_law_ends : List Str := ["_law_shape", "_law_plans_here", "_law_amount"]
theorem sc_law_ends : FnScope N_law_ends ["_law_shape", "_law_plans_here", "_law_amount"] (defScope s_law_ends) := ⟨rfl, rfl, rfl, by decide +kernel, rfl, by decide +kernel, by decide +kernel⟩
theorem ok_law_ends (T : Tx K mg w) : Okf P w K mg base "_law_ends" ["_law_shape", "_law_plans_here", "_law_amount"] 6 (sp3 fun sv pv av H Q => ∃ S t v1 v2 ps qs x, Dq K H sv (lineD S) ∧ Bd S ∧ pv = .ref t ∧ av = .int x ∧ SqT K H t [v1, v2] ∧ Dq K H v1 (planD ps) ∧ Dq K H v2 (planD qs) ∧ ps.length ≤ 6 ∧ qs.length ≤ 6 ∧ (∀ p ∈ ps, p.ok) ∧ (∀ p ∈ qs, p.ok) ∧ (1 ≤ x ∧ x ≤ 60) ∧
    ∀ H' e, Ke H H' → H' e = some (.tup [oV ((runE S ps qs x).sd false).fin, oV ((runE S ps qs x).sd true).fin]) → Q (.ref e) H') := by
  have O_law_run := ok_law_run (P := P) (w := w) (base := base) T
  have O_law_least := ok_law_least (P := P) (w := w) (base := base) T
  refine mkF T ix_law_ends rfl T.g_law_ends sc_law_ends (fun _ _ _ _ _ _ us hl => match us, hl with | [_, _, _], _ => rfl) len3 (fun cdv A outer s0 H0 E vs Q hr h => ?_)
  refine ⟨_, (pss_one (ps_ret (pe_ix (ixL K) (pe_f O_law_run (hr.mono (by decide)) (by rfl) (pa_cons (pv 0) (pa_cons (pv 1) (pa_cons (pv 2) (pa_cons (pe_f O_law_least (hr.mono (by decide)) (by rfl) (pa_cons (pv 1) pa_nil)) pa_nil))))) pe_int (fun _ _ => rfl)))), ?_⟩
  obtain ⟨_, _, _, rfl, S, t, v1, v2, ps, qs, x, hsh, B, rfl, rfl, ht, h1, h2, l1, l2, o1, o2, hx, q⟩ := h
  refine ⟨_, rfl, _, rfl, _, rfl, _, rfl, _, rfl, t, v1, v2, ps, qs, rfl, ht, h1, h2, l1, l2, fun D H1 nD k1 hD => ?_⟩
  refine ⟨_, _, _, _, rfl, S, t, v1, v2, ps, qs, x, D, hsh.ke k1, B, rfl, rfl, rfl, k1.sqt ht, h1.ke k1, h2.ke k1, l1, l2, o1, o2, hx, hD, fun H2 r e y k2 hr he => ?_⟩
  exact ⟨r, _, 0, _, rfl, rfl, SqL.of hr, atI0, q H2 e (k1.trans k2) he⟩
end
end Sm

/-! The law: what it holds for a line, a program, a size. -/
namespace Sm
open PySem PySem.Spec PyProof.Rows L2
section
variable {P : Program} {w : World} {K : PySem.W.Frag} {mg : Str → Option Value} {base : Heap}
abbrev N_law_is_whole : List Str := ["_law_thing", "_law_low", "_law_high"]
theorem sc_law_is_whole : FnScope N_law_is_whole ["_law_thing", "_law_low", "_law_high"] (defScope s_law_is_whole) := ⟨rfl, rfl, rfl, by decide +kernel, rfl, by decide +kernel, by decide +kernel⟩
theorem ok_law_is_whole (T : Tx K mg w) : Okf P w K mg base "_law_is_whole" ["_law_thing", "_law_low", "_law_high"] 1 (sp3 fun v l u H Q => ∃ d lo hi, Dq K H v d ∧ l = .int lo ∧ u = .int hi ∧ Q (.bl (btw d lo hi)) H) := by
  refine mkF T ix_law_is_whole rfl T.g_law_is_whole sc_law_is_whole (fun _ _ _ _ _ _ us hl => match us, hl with | [_, _, _], _ => rfl) len3 (fun cdv A outer s0 H0 E vs Q hr h => ?_)
  refine ⟨_, (pss_one (ps_ret (pe_and (pe_callB (isiK K) (by rfl) T.n_isinstance (by decide +kernel) (pa_cons (pv 0) (pa_cons (pe_bltn (v := .ty "int") (by rfl) T.n_int (by decide +kernel) rfl) pa_nil))) (pe_and (pe_not (pe_callB (isiK K) (by rfl) T.n_isinstance (by decide +kernel) (pa_cons (pv 0) (pa_cons (pe_bltn (v := .ty "bool") (by rfl) T.n_bool (by decide +kernel) rfl) pa_nil)))) (pe_one (pe_chain op_le op_le (pv 1) (pv 0) (pv 2))))))), ?_⟩
  obtain ⟨_, _, _, rfl, d, lo, hi, hd, rfl, rfl, q⟩ := h
  refine ⟨_, rfl, _, _, _, _, _, rfl, .ty _, hd.ty, isi_ok (by decide) hd, _, rfl, ?_⟩
  cases hd with
  | int i =>
    refine iteT ⟨_, rfl, _, _, _, _, _, rfl, .ty _, (Dq.int (K := K) (H := H0) i).ty, isi_ok (H := H0) (by decide) (.int i), _, rfl, _, rfl, iteT ⟨_, rfl, _, rfl, _, _, rfl, rfl, _, rfl, ?_⟩⟩
    have q : Q (.bl (decide (lo ≤ i) && decide (i ≤ hi))) H0 := q
    cases e : decide (lo ≤ i) with
    | false => rw [e] at q; exact iteF q
    | true => rw [e] at q; exact iteT ⟨_, rfl, _, _, rfl, rfl, q⟩
  | bl b => exact iteT ⟨_, rfl, _, _, _, _, _, rfl, .ty _, (Dq.bl (K := K) (H := H0) b).ty, isi_ok (H := H0) (by decide) (.bl b), _, rfl, _, rfl, iteF q⟩
  | _ => exact iteF q
theorem tup_inv {K : PySem.W.Frag} {H : Hp} {v : V} {ds : List PyData} (h : Dq K H v (.tuple ds)) : ∃ a xs, v = .ref a ∧ SqT K H a xs ∧ DqAll K H xs ds := by
  cases h with | tup hs ha => exact ⟨_, _, rfl, hs, ha⟩
abbrev N_law_is_step : List Str := ["_law_thing"]
theorem sc_law_is_step : FnScope N_law_is_step ["_law_thing"] (defScope s_law_is_step) := ⟨rfl, rfl, rfl, by decide +kernel, rfl, by decide +kernel, by decide +kernel⟩
theorem ok_law_is_step (T : Tx K mg w) : Okf P w K mg base "_law_is_step" ["_law_thing"] 2 (sp1 fun v H Q => ∃ d, Dq K H v d ∧ ∀ H', Ke H H' → Q (.bl (stepOk d)) H') := by
  have O_law_is_whole := ok_law_is_whole (P := P) (w := w) (base := base) T
  refine mkF T ix_law_is_step rfl T.g_law_is_step sc_law_is_step (fun _ _ _ _ _ _ us hl => match us, hl with | [_], _ => rfl) len1 (fun cdv A outer s0 H0 E vs Q hr h => ?_)
  refine ⟨_, (pss_cons (ps_if (PW.pt (pw_or (pt_not (pt_val (pe_callB (isiK K) (by rfl) T.n_isinstance (by decide +kernel) (pa_cons (pv 0) (pa_cons (pe_bltn (v := .ty "tuple") (by rfl) T.n_tuple (by decide +kernel) rfl) pa_nil))))) (pw_or (pt_cmpR op_lt (pe_callB (lenK K) (by rfl) T.n_len (by decide +kernel) (pa_cons (pv 0) pa_nil)) pe_int (nomark _)) (pw_or1 (pt_not (pt_val (pe_callB (isiK K) (by rfl) T.n_isinstance (by decide +kernel) (pa_cons (pe_ix (ixT K) (pv 0) pe_int (fun _ _ => rfl)) (pa_cons (pe_bltn (v := .ty "str") (by rfl) T.n_str (by decide +kernel) rfl) pa_nil)))))))))
      (pss_one (ps_ret pe_bl))
      pss_nil)
    (pss_cons (ps_if (pt_cmpR op_eq (pe_ix (ixT K) (pv 0) pe_int (fun _ _ => rfl)) pe_str (nomark _))
      (pss_one (ps_ret (pe_and (pe_cmpR op_eq (pe_callB (lenK K) (by rfl) T.n_len (by decide +kernel) (pa_cons (pv 0) pa_nil)) pe_int (nomark _)) (pe_and (pe_f O_law_is_whole (hr.mono (by decide)) (by rfl) (pa_cons (pe_ix (ixT K) (pv 0) pe_int (fun _ _ => rfl)) (pa_cons pe_int (pa_cons pe_int pa_nil)))) (pe_one (pe_f O_law_is_whole (hr.mono (by decide)) (by rfl) (pa_cons (pe_ix (ixT K) (pv 0) pe_int (fun _ _ => rfl)) (pa_cons (pe_ix (ixT K) (pv 0) pe_int (fun _ _ => rfl)) (pa_cons pe_int pa_nil)))))))))
      pss_nil)
    (pss_cons (ps_if (PW.pt (pw_or (pt_cmpR (ninK K) (pe_ix (ixT K) (pv 0) pe_int (fun _ _ => rfl)) (pe_lst (pa_cons pe_str (pa_cons pe_str pa_nil))) (by rfl)) (pw_or1 (pt_cmpR op_ne (pe_callB (lenK K) (by rfl) T.n_len (by decide +kernel) (pa_cons (pv 0) pa_nil)) pe_int (nomark _)))))
      (pss_one (ps_ret pe_bl))
      pss_nil)
    (pss_one (ps_ret (pe_or (pe_f O_law_is_whole (hr.mono (by decide)) (by rfl) (pa_cons (pe_ix (ixT K) (pv 0) pe_int (fun _ _ => rfl)) (pa_cons pe_int (pa_cons pe_int pa_nil)))) (pe_one (pe_and (pe_callB (isiK K) (by rfl) T.n_isinstance (by decide +kernel) (pa_cons (pe_ix (ixT K) (pv 0) pe_int (fun _ _ => rfl)) (pa_cons (pe_bltn (v := .ty "str") (by rfl) T.n_str (by decide +kernel) rfl) pa_nil))) (pe_one (pe_cmpR op_eq (pe_ix (ixT K) (pv 0) pe_int (fun _ _ => rfl)) pe_str (nomark _))))))))))), ?_⟩
  obtain ⟨v, rfl, d, hd, q⟩ := h
  refine ⟨_, rfl, _, _, _, _, _, rfl, .ty _, hd.ty, isi_ok (by decide) hd, _, rfl, ?_⟩
  rw [isTy_tup]
  cases hd with
  | @tup a xs ds hs ha =>
    have hl := ha.length
    refine iteF ⟨_, rfl, a, xs, rfl, .inr hs, _, _, rfl, rfl, _, rfl, ?_⟩
    refine ite_dec (fun h2 => ?_) (fun h2 => ?_)
    · have q := q _ (.refl _)
      have e : stepOk (.tuple ds) = false := by
        unfold stepOk
        split
        · rename_i z; cases z; rw [hl] at h2; simp at h2
        · rename_i z; cases z; rw [hl] at h2; simp at h2
        · rfl
      rw [e] at q
      exact iteT q
    · cases ha with
      | nil => exact absurd (show ((0 : Nat) : Int) < 2 by decide) h2
      | @cons x0 xr d0 dr h0 hr0 =>
      cases hr0 with
      | nil => exact absurd (show ((1 : Nat) : Int) < 2 by decide) h2
      | @cons x1 xr d1 dr h1 hr1 =>
      refine ⟨_, rfl, a, _, 0, _, rfl, rfl, hs, atI0, _, _, _, _, _, rfl, .ty _, h0.ty, isi_ok (by decide) h0, _, rfl, ?_⟩
      rw [isTy_str]
      cases h0 with
      | str s =>
        refine iteF ⟨_, rfl, a, _, 0, _, rfl, rfl, hs, atI0, rfl, _, rfl, ?_⟩
        rw [dec_str']
        refine ite_dec (fun ep => ?_) (fun ep => ?_)
        · subst ep
          refine ⟨_, rfl, a, _, rfl, .inr hs, rfl, _, rfl, ?_⟩
          rw [dec_int']
          refine ite_dec (fun h3 => ?_) (fun h3 => ?_)
          · cases hr1 with
            | nil => exact absurd (show ((2 : Nat) : Int) = 3 from h3) (by decide)
            | @cons x2 xr d2 dr h2' hr2 =>
            cases hr2 with
            | @cons x3 xr d3 dr h3' hr3 => simp at h3; omega
            | nil =>
            refine ⟨_, rfl, a, _, 1, _, rfl, rfl, hs, atI1, _, _, _, rfl, d1, 0, 200, h1, rfl, rfl, _, rfl, ?_⟩
            have q := q _ (.refl _)
            cases e : btw d1 0 200 with
            | false =>
              have e2 : stepOk (.tuple [.str "pause", d1, d2]) = false := by
                show (decide (("pause" : Str) = "pause") && pzOk d1 d2) = false
                cases d1 with
                | int i => show (true && (btw (.int i) 0 200 && btw d2 i 200)) = false; rw [e]; rfl
                | _ => rfl
              rw [e2] at q
              exact iteF q
            | true =>
              obtain ⟨i, rfl, i1, i2⟩ := btw_inv e
              cases h1
              have e2 : stepOk (.tuple [.str "pause", .int i, d2]) = btw d2 i 200 := by
                show (decide (("pause" : Str) = "pause") && (btw (.int i) 0 200 && btw d2 i 200)) = _
                rw [e]
                rfl
              rw [e2] at q
              exact iteT ⟨_, rfl, a, _, 2, _, rfl, rfl, hs, atI2, _, rfl, a, _, 1, _, rfl, rfl, hs, atI1, _, _, _, rfl, d2, i, 200, h2', rfl, rfl, q⟩
          · have q := q _ (.refl _)
            have e2 : stepOk (.tuple (.str "pause" :: d1 :: dr)) = false := by
              unfold stepOk
              split
              · rename_i z
                cases z
                rfl
              · rename_i z
                cases z
                exact absurd (by simp [hl]) h3
              · rfl
            rw [e2] at q
            exact q
        · refine ⟨_, rfl, a, _, 0, _, rfl, rfl, hs, atI0, by show 2 ≤ sizeLine; decide, fun l nl => ?_⟩
          have kl : Ke H0 (upd H0 l (.lst [.str "write", .str "read"])) := .new nl
          have hl2 : (upd H0 l (.lst [.str "write", .str "read"])) l = some (.lst [.str "write", .str "read"]) := upd_same
          generalize upd H0 l _ = H1 at kl hl2 ⊢
          have hs1 := kl.sqt hs
          have q := q H1 kl
          have ein : inV (.str s) [.str "write", .str "read"] = (decide (s = "write") || decide (s = "read")) := by
            show ((_ == s) || ((_ == s) || false)) = _
            rw [beq_dec, beq_dec, Bool.or_false]
          refine ⟨l, _, rfl, .inl (SqL.of hl2), rfl, rfl, _, rfl, ?_⟩
          rw [if_pos rfl, ein]
          cases e : (decide (s = "write") || decide (s = "read")) with
          | false =>
            have e2 : stepOk (.tuple (.str s :: d1 :: dr)) = false := by
              unfold stepOk
              split
              · rename_i z
                cases z
                rw [e]; rfl
              · rename_i z
                cases z
                rw [decide_eq_false ep]; rfl
              · rfl
            rw [e2] at q
            exact iteT (iteT q)
          | true =>
            refine iteF ⟨_, rfl, a, _, rfl, .inr hs1, rfl, _, rfl, ?_⟩
            rw [dec_int']
            cases dr with
            | cons d2 dr =>
              have e2 : stepOk (.tuple (.str s :: d1 :: d2 :: dr)) = false := by
                unfold stepOk
                split
                · rename_i z; cases z
                · rename_i z
                  cases z
                  rw [decide_eq_false ep]; rfl
                · rfl
              rw [e2] at q
              cases hr1 with | @cons x2 xr _ _ _ _ =>
              rw [decide_eq_false (by simp; omega)]
              exact iteT q
            | nil =>
              cases hr1
              rw [decide_eq_true (show ((([V.str s, x1] : List V).length : Nat) : Int) = 2 from rfl)]
              refine iteF ⟨_, rfl, a, _, 1, _, rfl, rfl, hs1, atI1, _, _, _, rfl, d1, 1, 60, h1.ke kl, rfl, rfl, _, rfl, ?_⟩
              have e2 : stepOk (.tuple [.str s, d1]) = amtOk d1 := by
                show ((decide (s = "write") || decide (s = "read")) && amtOk d1) = _
                rw [e]; rfl
              rw [e2] at q
              unfold amtOk at q
              cases e3 : btw d1 1 60 with
              | true => rw [e3] at q; exact iteT q
              | false =>
                rw [e3] at q
                refine iteF ⟨_, rfl, a, _, 1, _, rfl, rfl, hs1, atI1, _, _, _, _, _, rfl, .ty _, (h1.ke kl).ty, isi_ok (by decide) (h1.ke kl), _, rfl, ?_⟩
                rw [isTy_str]
                cases h1 with
                | str z =>
                  refine iteT ⟨_, rfl, a, _, 1, _, rfl, rfl, hs1, atI1, rfl, ?_⟩
                  rw [dec_str']
                  exact q
                | _ => exact iteF q
      | _ => exact iteT (q _ (.refl _))
  | _ => exact iteT (q _ (.refl _))
end
end Sm

/-! The law: what it holds for a line and a program. -/
namespace Sm
open PySem PySem.Spec PyProof.Rows L2
section
variable {P : Program} {w : World} {K : PySem.W.Frag} {mg : Str → Option Value} {base : Heap}
abbrev N_law_is_ways : List Str := ["_law_thing"]
theorem sc_law_is_ways : FnScope N_law_is_ways ["_law_thing"] (defScope s_law_is_ways) := ⟨rfl, rfl, rfl, by decide +kernel, rfl, by decide +kernel, by decide +kernel⟩
theorem ok_law_is_ways (T : Tx K mg w) : Okf P w K mg base "_law_is_ways" ["_law_thing"] 2 (sp1 fun v H Q => ∃ r e y, Dq K H v (wayD r e y) ∧ (1 ≤ e ∧ e ≤ 4) ∧ (0 ≤ y ∧ y ≤ 200) ∧ ∀ H', Ke H H' → Q (.bl true) H') := by
  have O_law_is_whole := ok_law_is_whole (P := P) (w := w) (base := base) T
  refine mkF T ix_law_is_ways rfl T.g_law_is_ways sc_law_is_ways (fun _ _ _ _ _ _ us hl => match us, hl with | [_], _ => rfl) len1 (fun cdv A outer s0 H0 E vs Q hr h => ?_)
  refine ⟨_, (pss_cons (ps_if (PW.pt (pw_or (pt_not (pt_val (pe_callB (isiK K) (by rfl) T.n_isinstance (by decide +kernel) (pa_cons (pv 0) (pa_cons (pe_bltn (v := .ty "tuple") (by rfl) T.n_tuple (by decide +kernel) rfl) pa_nil))))) (pw_or (pt_cmpR op_ne (pe_callB (lenK K) (by rfl) T.n_len (by decide +kernel) (pa_cons (pv 0) pa_nil)) pe_int (nomark _)) (pw_or1 (pt_cmpR (ninK K) (pe_ix (ixT K) (pv 0) pe_int (fun _ _ => rfl)) (pe_lst (pa_cons pe_str (pa_cons pe_str (pa_cons pe_str pa_nil)))) (by rfl))))))
      (pss_one (ps_ret pe_bl))
      pss_nil)
    (pss_one (ps_ret (pe_and (pe_f O_law_is_whole (hr.mono (by decide)) (by rfl) (pa_cons (pe_ix (ixT K) (pv 0) pe_int (fun _ _ => rfl)) (pa_cons pe_int (pa_cons pe_int pa_nil)))) (pe_one (pe_f O_law_is_whole (hr.mono (by decide)) (by rfl) (pa_cons (pe_ix (ixT K) (pv 0) pe_int (fun _ _ => rfl)) (pa_cons pe_int (pa_cons pe_int pa_nil))))))))), ?_⟩
  obtain ⟨v, rfl, r, e, y, hd, he, hy, q⟩ := h
  have hd' := hd.ty
  obtain ⟨n, rfl, hn⟩ := wayAt hd
  refine ⟨_, rfl, _, _, _, _, _, rfl, .ty _, hd', isi_ok (by decide) hd, _, rfl, iteF ⟨_, rfl, n, _, rfl, .inr hn, rfl, _, rfl, iteF ⟨_, rfl, n, _, 0, _, rfl, rfl, hn, atI0, by show 3 ≤ sizeLine; decide, fun l nl => ?_⟩⟩⟩
  have kl : Ke H0 (upd H0 l (.lst [.str "plain", .str "hold", .str "few"])) := .new nl
  have hl : (upd H0 l (.lst [.str "plain", .str "hold", .str "few"])) l = some (.lst [.str "plain", .str "hold", .str "few"]) := upd_same
  generalize upd H0 l _ = H1 at kl hl ⊢
  have hn1 := kl.sqt hn
  refine ⟨l, _, rfl, .inl (SqL.of hl), rfl, rfl, _, rfl, ?_⟩
  rw [if_pos rfl, inV_rules, isRule_ruS]
  have b1 : btw (.int e) 1 4 = true := by show (decide (1 ≤ e) && decide (e ≤ 4)) = true; rw [decide_eq_true he.1, decide_eq_true he.2]; rfl
  have b2 : btw (.int y) 0 200 = true := by show (decide (0 ≤ y) && decide (y ≤ 200)) = true; rw [decide_eq_true hy.1, decide_eq_true hy.2]; rfl
  refine iteF ⟨_, rfl, n, _, 1, _, rfl, rfl, hn1, atI1, _, _, _, rfl, .int e, 1, 4, .int e, rfl, rfl, _, rfl, ?_⟩
  rw [b1]
  refine iteT ⟨_, rfl, n, _, 2, _, rfl, rfl, hn1, atI2, _, _, _, rfl, .int y, 0, 200, .int y, rfl, rfl, ?_⟩
  rw [b2]
  exact q H1 kl
/-- what stands where a line is told -/
def LineLike (d : PyData) : Prop := (∃ S, d = lineD S ∧ Bd S) ∨ ∀ a b c e, d ≠ .tuple [a, b, c, e]
abbrev N_law_is_told : List Str := ["_law_thing"]
theorem sc_law_is_told : FnScope N_law_is_told ["_law_thing"] (defScope s_law_is_told) := ⟨rfl, rfl, rfl, by decide +kernel, rfl, by decide +kernel, by decide +kernel⟩
theorem ok_law_is_told (T : Tx K mg w) : Okf P w K mg base "_law_is_told" ["_law_thing"] 3 (sp1 fun v H Q => ∃ d, Dq K H v d ∧ LineLike d ∧ ∀ b H', (b = true ↔ ∃ S, d = lineD S ∧ Bd S) → Ke H H' → Q (.bl b) H') := by
  have O_law_is_whole := ok_law_is_whole (P := P) (w := w) (base := base) T
  have O_law_is_ways := ok_law_is_ways (P := P) (w := w) (base := base) T
  refine mkF T ix_law_is_told rfl T.g_law_is_told sc_law_is_told (fun _ _ _ _ _ _ us hl => match us, hl with | [_], _ => rfl) len1 (fun cdv A outer s0 H0 E vs Q hr h => ?_)
  refine ⟨_, (pss_cons (ps_if (PW.pt (pw_or (pt_not (pt_val (pe_callB (isiK K) (by rfl) T.n_isinstance (by decide +kernel) (pa_cons (pv 0) (pa_cons (pe_bltn (v := .ty "tuple") (by rfl) T.n_tuple (by decide +kernel) rfl) pa_nil))))) (pw_or (pt_cmpR op_ne (pe_callB (lenK K) (by rfl) T.n_len (by decide +kernel) (pa_cons (pv 0) pa_nil)) pe_int (nomark _)) (pw_or1 (pt_not (pt_val (pe_f O_law_is_whole (hr.mono (by decide)) (by rfl) (pa_cons (pe_ix (ixT K) (pv 0) pe_int (fun _ _ => rfl)) (pa_cons pe_int (pa_cons pe_int pa_nil))))))))))
      (pss_one (ps_ret pe_bl))
      pss_nil)
    (pss_one (ps_ret (pe_and (pe_f O_law_is_whole (hr.mono (by decide)) (by rfl) (pa_cons (pe_ix (ixT K) (pv 0) pe_int (fun _ _ => rfl)) (pa_cons pe_int (pa_cons pe_int pa_nil)))) (pe_and (pe_f O_law_is_ways (hr.mono (by decide)) (by rfl) (pa_cons (pe_ix (ixT K) (pv 0) pe_int (fun _ _ => rfl)) pa_nil)) (pe_one (pe_f O_law_is_ways (hr.mono (by decide)) (by rfl) (pa_cons (pe_ix (ixT K) (pv 0) pe_int (fun _ _ => rfl)) pa_nil)))))))), ?_⟩
  obtain ⟨v, rfl, d, hd, hL, q⟩ := h
  refine ⟨_, rfl, _, _, _, _, _, rfl, .ty _, hd.ty, isi_ok (by decide) hd, _, rfl, ?_⟩
  rw [isTy_tup]
  rcases hL with ⟨S, rfl, B⟩ | hno
  · have hd : Dq K H0 v (.tuple [.int S.size, .int S.way, wayD (S.rule false) (S.every false) (S.delay false), wayD (S.rule true) (S.every true) (S.delay true)]) := hd
    cases hd with
    | @tup a xs _ hs ha =>
    cases ha with | @cons x0 xr _ _ h0 ha =>
    cases ha with | @cons x1 xr _ _ h1 ha =>
    cases ha with | @cons x2 xr _ _ h2 ha =>
    cases ha with | @cons x3 xr _ _ h3 ha =>
    cases ha
    have b1 : btw (.int S.size) 1 40 = true := by show (decide (1 ≤ S.size) && decide (S.size ≤ 40)) = true; rw [decide_eq_true B.size.1, decide_eq_true B.size.2]; rfl
    have b2 : btw (.int S.way) 1 200 = true := by show (decide (1 ≤ S.way) && decide (S.way ≤ 200)) = true; rw [decide_eq_true B.way.1, decide_eq_true B.way.2]; rfl
    refine iteF ⟨_, rfl, a, _, rfl, .inr hs, rfl, _, rfl, iteF ⟨_, rfl, a, _, 0, _, rfl, rfl, hs, atI0, _, _, _, rfl, .int S.size, 1, 40, h0, rfl, rfl, _, rfl, ?_⟩⟩
    rw [b1]
    refine iteF ⟨_, rfl, a, _, 1, _, rfl, rfl, hs, atI1, _, _, _, rfl, .int S.way, 1, 200, h1, rfl, rfl, _, rfl, ?_⟩
    rw [b2]
    refine iteT ⟨_, rfl, a, _, 2, _, rfl, rfl, hs, atI2, _, rfl, _, _, _, h2, B.every false, B.delay false, fun H1 k1 => ⟨_, rfl, iteT ?_⟩⟩
    have hs1 := k1.sqt hs
    exact ⟨_, rfl, a, _, 3, _, rfl, rfl, hs1, atI3, _, rfl, _, _, _, h3.ke k1, B.every true, B.delay true, fun H2 k2 => q true H2 ⟨fun _ => ⟨S, rfl, B⟩, fun _ => rfl⟩ (k1.trans k2)⟩
  · have no : (false = true ↔ ∃ S, d = lineD S ∧ Bd S) := ⟨(fun z => by cases z), fun ⟨S, e, _⟩ => absurd e (hno _ _ _ _)⟩
    cases hd with
    | @tup a xs ds hs ha =>
      refine iteF ⟨_, rfl, a, _, rfl, .inr hs, rfl, _, rfl, ?_⟩
      have e : decide (V.int (xs.length : Int) = V.int 4) = false := by
        rw [dec_int']
        refine decide_eq_false fun z => ?_
        rw [ha.length] at z
        match ds, hno, z with
        | [a, b, c, e], hno, _ => exact hno a b c e rfl
        | [], _, z => simp at z
        | [_], _, z => simp at z
        | [_, _], _, z => simp at z
        | [_, _, _], _, z => simp at z
        | _ :: _ :: _ :: _ :: _ :: _, _, z => simp at z; omega
      rw [e]
      exact iteT (iteT (q false _ no (.refl _)))
    | _ => exact iteT (q false _ no (.refl _))
end
end Sm

/-! The law: whether a value is a program. -/
namespace Sm
open PySem PySem.Spec PyProof.Rows L2
/-- a fault as the law tells it -/
def FltV (H : Hp) (v : V) (i : Int) : Prop := ∃ u, v = V.ref u ∧ H u = some (.tup [.str "program", .str (toString i)])
def fltD (i : Int) : PyData := .tuple [.str "program", .str (toString i)]
theorem flt_dp {K : PySem.W.Frag} {H : Hp} : ∀ {vs : List V} {l : List Int}, Paired (FltV H) vs l → DpAll K H vs (l.map fltD)
  | _, _, .nil => .nil
  | _, _, .cons ⟨u, e, h⟩ t => by subst e; exact .cons (.tup (SqT.of h) (.cons (.str _) (.cons (.str _) .nil))) (flt_dp t)
section
variable {P : Program} {w : World} {K : PySem.W.Frag} {mg : Str → Option Value} {base : Heap}
abbrev N_law_plan_fault : List Str := ["_law_thing", "_law_at"]
theorem sc_law_plan_fault : FnScope N_law_plan_fault ["_law_thing"] (defScope s_law_plan_fault) := ⟨rfl, rfl, rfl, by decide +kernel, rfl, by decide +kernel, by decide +kernel⟩
theorem ok_law_plan_fault (T : Tx K mg w) : Okf P w K mg base "_law_plan_fault" ["_law_thing"] 3 (sp1 fun v H Q => ∃ d, Dq K H v d ∧ ∀ H' r fs, Ke H H' → Dp K H' (.ref r) (.list fs) → SeqAt.shaped (.list fs) = true → (fs = [] ↔ planOk d = true) → Q (.ref r) H') := by
  have O_law_is_step := ok_law_is_step (P := P) (w := w) (base := base) T
  refine mkF T ix_law_plan_fault rfl T.g_law_plan_fault sc_law_plan_fault (fun _ _ _ _ _ _ us hl => match us, hl with | [_], _ => rfl) len1 (fun cdv A outer s0 H0 E vs Q hr h => ?_)
  refine ⟨_, (pss_cons (ps_if (PW.pt (pw_or (pt_not (pt_val (pe_callB (isiK K) (by rfl) T.n_isinstance (by decide +kernel) (pa_cons (pv 0) (pa_cons (pe_bltn (v := .ty "tuple") (by rfl) T.n_tuple (by decide +kernel) rfl) pa_nil))))) (pw_or1 (pt_cmpR op_gt (pe_callB (lenK K) (by rfl) T.n_len (by decide +kernel) (pa_cons (pv 0) pa_nil)) pe_int (nomark _)))))
      (pss_one (ps_ret (pe_lst (pa_cons (pe_tup (pa_cons pe_str (pa_cons pe_str pa_nil))) pa_nil))))
      pss_nil)
    (pss_one (ps_ret (pe_slice (slL K) (pe_lc (own := [(("_law_at" : Str), 1)]) (by rfl) sc_law_plan_fault.nd (pi_range1 (by rfl) T.n_range (pa_cons (pe_callB (lenK K) (by rfl) T.n_len (by decide +kernel) (pa_cons (pv 0) pa_nil)) pa_nil)) (blkOk_by (own := [(("_law_at" : Str), 1)]) (N := N_law_plan_fault) (sc := defScope s_law_plan_fault) (by decide +kernel)) (fun _ _ _ _ _ => pg_name (i := 1) sc_law_plan_fault.nd rfl (Or.inl rfl)) (fun _ _ _ _ _ => pts_one (pt_not (pt_val (pe_f O_law_is_step (hr.mono (by decide)) (by rfl) (pa_cons (pe_ix (ixT K) (pv 0) (pv 1) (fun _ _ => rfl)) pa_nil))))) (fun _ _ _ _ _ => (pe_tup (pa_cons pe_str (pa_cons (pe_callB SkE.call_repr_int (by rfl) T.n_repr (by decide +kernel) (pa_cons (pv 1) pa_nil)) pa_nil))))) po_none (po_some pe_int))))), ?_⟩
  obtain ⟨v, rfl, d, hd, q⟩ := h
  refine ⟨_, rfl, _, _, _, _, _, rfl, .ty _, hd.ty, isi_ok (by decide) hd, _, rfl, ?_⟩
  rw [isTy_tup]
  have bad : planOk d = false → ∀ t, H0 t = none → ∀ r, (upd H0 t (.tup [.str "program", .str "None"])) r = none → Q (.ref r) (upd (upd H0 t (.tup [.str "program", .str "None"])) r (.lst [.ref t])) := fun e t nt r nr => by
    have k1 : Ke H0 (upd H0 t (.tup [.str "program", .str "None"])) := .new nt
    have h1 : (upd H0 t (.tup [.str "program", .str "None"])) t = some (.tup [.str "program", .str "None"]) := upd_same
    generalize upd H0 t _ = H1 at k1 h1 nr ⊢
    have k2 : Ke H1 (upd H1 r (.lst [.ref t])) := .new nr
    exact q _ r [.tuple [.str "program", .str "None"]] (k1.trans k2) (.lst (SqL.of upd_same) (.cons (.tup (SqT.of (k2.tup h1)) (.cons (.str _) (.cons (.str _) .nil))) .nil)) (by decide +kernel) ⟨(fun z => by cases z), (fun z => by rw [e] at z; cases z)⟩
  cases hd with
  | @tup a xs ds hs ha =>
    have hl := ha.length
    have z6 := z6000
    refine iteF ⟨_, rfl, a, _, rfl, .inr hs, _, _, rfl, rfl, _, rfl, ?_⟩
    refine ite_dec (fun h6 => ?_) (fun h6 => ?_)
    · have e : planOk (.tuple ds) = false := by
        show (decide (ds.length ≤ 6) && _) = false
        rw [decide_eq_false (by omega)]
        rfl
      exact ⟨by show 2 ≤ sizeLine; decide, fun t nt => ⟨by show 1 ≤ sizeLine; decide, fun r nr => bad e t nt r nr⟩⟩
    · refine ⟨_, rfl, a, _, rfl, .inr hs, (xs.length : Int), rfl, by omega, by omega, fun E hE => ?_⟩
      refine lc_range (lo := 0) (n := ((xs.length : Nat) : Int).toNat) (fun j G => Ke H0 G ∧ j ≤ xs.length ∧ ∃ vs l, G E = some (.lst vs) ∧ Paired (FltV G) vs l ∧ l.length ≤ j ∧ (∀ i ∈ l, 0 ≤ i ∧ i < 6) ∧ (l = [] ↔ (ds.take j).all stepOk = true)) ⟨.new hE, Nat.zero_le _, [], [], upd_same, .nil, Nat.le_refl _, (fun _ h => by cases h), by simp⟩ (fun j G hj p => ?_) (fun G p => ?_)
      · obtain ⟨kG, hjl, vs, l, hvs, htr, hll, hq, hiff⟩ := p
        have hj' : j < xs.length := by rw [Int.toNat_natCast] at hj; exact hj
        obtain ⟨x, hx⟩ : ∃ x, xs[j]? = some x := ⟨_, List.getElem?_eq_getElem hj'⟩
        obtain ⟨dx, hdx, hqx⟩ := ha.getV hx
        have ej : atI xs (0 + (j : Int)) = some x := by rw [Int.zero_add]; exact atI_nat hx
        have et : (ds.take (j + 1)).all stepOk = ((ds.take j).all stepOk && stepOk dx) := by rw [take_snoc hdx, List.all_append]; simp
        refine ⟨rfl, _, rfl, _, rfl, a, _, _, _, rfl, rfl, kG.sqt hs, ej, _, rfl, dx, hqx.ke kG, fun G2 k2 => ⟨_, rfl, ?_⟩⟩
        have hvs2 := k2.lst hvs
        cases e : stepOk dx with
        | true =>
          refine iteF ⟨kG.trans k2, hj', vs, l, hvs2, Paired.mapP htr fun _ _ ⟨c, e1, e2⟩ => ⟨c, e1, k2.tup e2⟩, by omega, hq, ?_⟩
          rw [et, e, Bool.and_true]
          exact hiff
        | false =>
          refine iteT ⟨_, rfl, 0 + (j : Int), rfl, ?_, by show 2 ≤ sizeLine; decide, fun u nu => ?_⟩
          · have : j = 0 ∨ j = 1 ∨ j = 2 ∨ j = 3 ∨ j = 4 ∨ j = 5 := by omega
            rcases this with rfl | rfl | rfl | rfl | rfl | rfl <;> decide +kernel
          · have ku : Ke G2 (upd G2 u (.tup [.str "program", .str (toString (0 + (j : Int)))])) := .new nu
            have hu : (upd G2 u (.tup [.str "program", .str (toString (0 + (j : Int)))])) u = some (.tup [.str "program", .str (toString (0 + (j : Int)))]) := upd_same
            generalize upd G2 u _ = G3 at ku hu ⊢
            have hvs3 := ku.lst hvs2
            have tE : Tk G (upd G3 E (.lst (vs ++ [.ref u]))) := k2.tk.trans (ku.tk.trans (Tk.mut (notTup_lst hvs3)))
            refine ⟨vs, hvs3, by rw [Paired.length htr]; omega, (kG.trans (k2.trans ku)).mut hE (noCode_lst hvs3), hj', vs ++ [.ref u], l ++ [0 + (j : Int)], upd_same, psnoc (Paired.mapP htr fun _ _ ⟨c, e1, e2⟩ => ⟨c, e1, tE _ _ e2⟩) ⟨u, rfl, (Tk.mut (notTup_lst hvs3)) _ _ hu⟩, by rw [List.length_append]; show _ + 1 ≤ _; omega, fun i hi => ?_, ?_⟩
            · rcases List.mem_append.mp hi with z | z
              · exact hq i z
              · rw [List.mem_singleton.mp z]; omega
            · rw [et, e, Bool.and_false]
              exact ⟨(fun z => by simp at z), (fun z => by cases z)⟩
      · obtain ⟨kG, hjl, vs, l, hvs, htr, hll, hq, hiff⟩ := p
        refine ⟨1, rfl, E, _, rfl, SqL.of hvs, fun r nr => ?_⟩
        have kr : Ke G (upd G r (.lst (cutV vs none (some 1)))) := .new nr
        have hr2 : (upd G r (.lst (cutV vs none (some 1)))) r = some (.lst (cutV vs none (some 1))) := upd_same
        generalize upd G r _ = G2 at kr hr2 ⊢
        have htr2 : Paired (FltV G2) vs l := Paired.mapP htr fun _ _ ⟨c, e1, e2⟩ => ⟨c, e1, kr.tup e2⟩
        have hxl : ((xs.length : Nat) : Int).toNat = ds.length := by rw [Int.toNat_natCast]; exact hl
        rw [hxl, List.take_length] at hiff
        have ep : planOk (.tuple ds) = ds.all stepOk := by
          show (decide (ds.length ≤ 6) && ds.all stepOk) = _
          rw [decide_eq_true (by omega)]
          rfl
        cases htr2 with
        | nil =>
          have ec : cutV ([] : List V) none (some 1) = [] := rfl
          rw [ec] at hr2
          exact q G2 r [] (kG.trans kr) (.lst (SqL.of hr2) .nil) (by decide +kernel) (by rw [ep]; exact ⟨fun _ => hiff.mp rfl, fun _ => rfl⟩)
        | @cons v i vr lr hv htl =>
          have ec : cutV (v :: vr) none (some 1) = [v] := by
            unfold cutV
            rw [show HT.sIx (v :: vr).length (v :: vr).length (some 1) = min 1 (v :: vr).length from HT.sIx_nat _ _ 1, HT.sIx_none]
            rw [show min 1 (v :: vr).length = 1 by rw [List.length_cons]; omega]
            rfl
          rw [ec] at hr2
          have hi := hq i List.mem_cons_self
          refine q G2 r [fltD i] (kG.trans kr) (.lst (SqL.of hr2) (flt_dp (.cons hv .nil))) ?_ ⟨(fun z => by cases z), fun z => ?_⟩
          · have : i = 0 ∨ i = 1 ∨ i = 2 ∨ i = 3 ∨ i = 4 ∨ i = 5 := by omega
            rcases this with rfl | rfl | rfl | rfl | rfl | rfl <;> decide +kernel
          · rw [ep] at z
            have := hiff.mpr z
            cases this
  | _ => exact iteT ⟨by show 2 ≤ sizeLine; decide, fun t nt => ⟨by show 1 ≤ sizeLine; decide, fun r nr => bad rfl t nt r nr⟩⟩
mutual
theorem Dp.ke {K : PySem.W.Frag} {H H' : Hp} (e : Ke H H') : ∀ (d : PyData) (v : V), Dp K H v d → Dp K H' v d
  | .none, _, h => by cases h; exact .non
  | .bool b, _, h => by cases h; exact .bl b
  | .int i, _, h => by cases h; exact .int i
  | .str x, _, h => by cases h; exact .str x
  | .list ds, _, h => by cases h with | lst hs ha => exact .lst (e.sql hs) (DpAll.ke e ds _ ha)
  | .tuple ds, _, h => by cases h with | tup hs ha => exact .tup (e.sqt hs) (DpAll.ke e ds _ ha)
  | .dict _, _, h => by cases h
theorem DpAll.ke {K : PySem.W.Frag} {H H' : Hp} (e : Ke H H') : ∀ (ds : List PyData) (vs : List V), DpAll K H vs ds → DpAll K H' vs ds
  | [], _, h => by cases h; exact .nil
  | d :: ds, _, h => by cases h with | cons h1 h2 => exact .cons (Dp.ke e d _ h1) (DpAll.ke e ds _ h2)
end
theorem eqv_nil (fs : List PyData) : PyData.eqv (.list fs) (.list []) = decide (fs = []) := by
  cases fs <;> simp [PyData.eqv, PyData.eqvAll]
abbrev N_law_is_plan : List Str := ["_law_thing"]
theorem sc_law_is_plan : FnScope N_law_is_plan ["_law_thing"] (defScope s_law_is_plan) := ⟨rfl, rfl, rfl, by decide +kernel, rfl, by decide +kernel, by decide +kernel⟩
theorem ok_law_is_plan (T : Tx K mg w) : Okf P w K mg base "_law_is_plan" ["_law_thing"] 4 (sp1 fun v H Q => ∃ d, Dq K H v d ∧ ∀ H', Ke H H' → Q (.bl (planOk d)) H') := by
  have O_law_plan_fault := ok_law_plan_fault (P := P) (w := w) (base := base) T
  refine mkF T ix_law_is_plan rfl T.g_law_is_plan sc_law_is_plan (fun _ _ _ _ _ _ us hl => match us, hl with | [_], _ => rfl) len1 (fun cdv A outer s0 H0 E vs Q hr h => ?_)
  refine ⟨_, (pss_one (ps_ret (pe_cmpR (op_eqD hr.units) (pe_f O_law_plan_fault (hr.mono (by decide)) (by rfl) (pa_cons (pv 0) pa_nil)) (pe_lst pa_nil) (nomark _)))), ?_⟩
  obtain ⟨v, rfl, d, hd, q⟩ := h
  refine ⟨_, rfl, _, rfl, d, hd, fun H1 r fs k1 hr hsh hiff => ⟨Nat.zero_le _, fun em nem => ?_⟩⟩
  have ke : Ke H1 (upd H1 em (.lst [])) := .new nem
  have hem : (upd H1 em (.lst [])) em = some (.lst []) := upd_same
  generalize upd H1 em _ = H2 at ke hem ⊢
  have e : decide (fs = []) = planOk d := by
    by_cases z : fs = []
    · rw [decide_eq_true z, hiff.mp z]
    · rw [decide_eq_false z]
      cases y : planOk d with
      | false => rfl
      | true => exact absurd (hiff.mpr y) z
  refine ⟨_, .list [], Dp.ke ke _ _ hr, .lst (SqL.of hem) .nil, hsh, by decide +kernel, ?_⟩
  rw [eqv_nil, e]
  exact q H2 (k1.trans ke)
end
end Sm

/-! Defs that are called where nothing is being printed: the guards are known to be none. -/
namespace Sm
open PySem PySem.Spec PyProof.Rows L2
/-- a def keeps its promise where no repr goes on -/
structure FnG (P : Program) (w : World) (K : PySem.W.Frag) (mg : Str → Option Value) (base : Heap) (k : Nat) (f : Addr) (fd : FuncData) (ps : List Str) (sp : Sp) : Prop where
  len : ∀ vs H Q E, sp vs H Q E → vs.length = ps.length
  run : ∀ (A : Around) (outer : List Env) (s : Shared) (H : Hp) (args : Args) (us : List Value) (vs : List V) (Q : VK) (E : XK), A.guards = some [] → Room k A → Env0 P w K mg base A outer s H → BindsTo s fd args (ps.zip us) → Vals vs us → sp vs H Q E →
    codeAny (model P w) A (.call (.ref f) args) (CR CX0 outer P w H s Q E) s
section
variable {X : Cx} {k : Nat} {ps : List Str} {sp : Sp} {f : Addr} {fd : FuncData} {x : Str} {p pos : Pos} {e : Expr} {es : List Expr} {t : TA}
theorem run_g {pins : List (Addr × Obj)} {σ : L2.St} {H : Hp} {s : Shared} {Q : VK} {us : List Value} {vs : List V} (F : FnG X.prog X.w X.K X.mg X.base k f fd ps sp) (hg : X.A.guards = some []) (hr : Room k X.A) (hb : Binds X.K fd ps []) (I : Inv X pins σ H s) (r : Vals vs us) (h : sp vs H Q E0) :
    wpAny (model X.prog X.w) X.A (call (.ref f) us) (EP X pins σ Q) X.xe s := by
  have hl : us.length = ps.length := by rw [← r.length]; exact F.len _ _ _ _ h
  have bt := hb s us I.kIn (by rw [List.append_nil]; exact hl)
  rw [List.append_nil] at bt
  refine wpAny_call (codeAny_mono (F.run X.A X.stack s H ⟨us, []⟩ us vs Q E0 hg hr I.env0 bt r h) fun r s' hq => ?_)
  cases r with
  | error e => exact pass0 pins σ H s e s' I hq
  | ok fl =>
    cases fl with
    | ret u => exact I.after hq
    | next => exact hq.elim
    | brk => exact hq.elim
    | cont => exact hq.elim
end
/-- the making of such a promise -/
theorem fnG_of {P : Program} {w : World} {K : PySem.W.Frag} {mg : Str → Option Value} {base : Heap} {k : Nat} {f : Addr} {x q : Str} {pa : Arguments} {body : List Stmt} {sc : Scope} {fd : FuncData} {N ps : List Str} {sp : Sp} (F : FunD K x q pa body sc [] [] f fd) (S : FnScope N ps sc)
    (len : ∀ vs H Q E, sp vs H Q E → vs.length = ps.length)
    (hbody : ∀ (cdv : Value) (A : Around) (outer : List Env) (s : Shared) (H : Hp) (vs : List V) (Q : VK) (E : XK), A.guards = some [] → Room k (A.deeper (envOfC q sc s.heap.objs.size f cdv)) → sp vs H Q E →
      ∃ t, PSs (cxOf CX0 P w K mg base N q sc f cdv A outer s H E) body t ∧ t (fin Q) (start N vs) H) : FnG P w K mg base (k + 1) f fd ps sp := by
  obtain ⟨oc, od, dV, kV, doc, pm, an, cdv, ct, osl, rfl, lk, hcd, _, _⟩ := F.ex
  refine ⟨len, fun A outer s H args us vs Q E hgd hr e0 hb r hsp => ?_⟩
  have kp : ∀ b o, base.get? b = some o → s.heap.get? b = some o := fun b o e => (e0.bs b o e).1
  have inK' : K.In s.heap := e0.mod.kin.keeps kp
  have nol := e0.mod.nolimit.keeps kp
  have kinds : ∀ y ∈ ps.zip us, sc.names.lookup y.1 = some NameKind.local ∨ (sc.names.lookup y.1 = some NameKind.cell ∧ ((cellsFrom (s.heap.objs.size + 1) sc.names []).lookup y.1).isSome = true) := by
    rintro ⟨n, v⟩ hy
    rcases S.par n (List.of_mem_zip hy).1 with h | h
    · exact .inl h
    · exact .inr ⟨h, PySem.W.cellsFrom_some _ _ _ (.inl h)⟩
  apply codeAny_call_function hr.depth (inK' _ _ lk) rfl S.co S.gen rfl (PySem.W.codeRec_of inK' hcd)
  apply hb
  apply wpAny_newFunctionEnv_cells S.kind kinds
  intro env he s1 inC
  subst he
  refine ⟨nol.keeps inC.toInCall.keep, codeAny_func ?_⟩
  obtain ⟨t, ht, hq⟩ := hbody cdv A outer s H vs Q E hgd (hr.deeper _) hsp
  have I0 := inv_start (CX := CX0) (P := P) (w := w) (K := K) (mg := mg) (base := base) (E := E) S hr.hd e0 (len _ _ _ _ hsp) r inC
  apply wpAny_mono (ht.run [] s1 (start N vs) H _ I0 hq)
  · intro fl s' hs
    cases fl with
    | ret u => exact let ⟨v, σ', H', J, rv, z⟩ := hs; ⟨v, H', J.os, J.bare, J.base, J.hok, rv, z⟩
    | next => exact let ⟨σ', H', J, z⟩ := hs; ⟨V.non, H', J.os, J.bare, J.base, J.hok, rfl, z⟩
    | brk => exact hs.elim fun _ ⟨_, _, z⟩ => z.elim
    | cont => exact hs.elim fun _ ⟨_, _, z⟩ => z.elim
  · exact fun _ _ z => z
structure Okg (P : Program) (w : World) (K : PySem.W.Frag) (mg : Str → Option Value) (base : Heap) (x : Str) (ps : List Str) (k : Nat) (sp : Sp) : Prop where
  ex : ∃ fd, FnG P w K mg base k (He.ga K x) fd ps sp ∧ Binds K fd ps []
  gl : mg x = some (.ref (He.ga K x))
  kp : PySem.W.keepIn K (.ref (He.ga K x)) = true
def tG (sp : Sp) (t : TA) : TE := fun σ H Q => t σ H fun vs H1 => sp vs H1 Q E0
section
variable {X : Cx} {k : Nat} {ps : List Str} {sp : Sp} {x : Str} {p pos : Pos} {e : Expr} {es : List Expr} {t : TA}
theorem pe_g (O : Okg X.prog X.w X.K X.mg X.base x ps k sp) (hgd : X.A.guards = some []) (hr : Room k X.A) (hg : Gl X x) (ha : PA X (e :: es) t) (hdb : (x == ("__debug__" : Str)) = false := by decide)
    (he : starEach (e :: es) X.env = (false, eval e X.env) :: starEach es X.env := by rfl) (hpl : (backTo pos (starEach es X.env)).any (·.1) = false := by rfl) : PE X (.Call (.Name x p) (e :: es) [] pos) (tG sp t) := by
  obtain ⟨fd, F, b⟩ := O.ex
  refine ⟨fun pins s σ H Q I h => ?_⟩
  apply wpAny_Call_Name_kw (ld_glob I hg O.gl ?_ hdb)
  apply PySem.W.callWith_K (h₀ := X.base) I.ok.mod.kin O.kp (thn (ha.run pos pins s σ H _ I h) fun us s1 ⟨vs, H1, I1, r, q⟩ => ⟨I1.kIn, run_g F hgd hr b I1 r q⟩) he hpl
end
theorem mkG {P : Program} {w : World} {K : PySem.W.Frag} {mg : Str → Option Value} {base : Heap} {x : Str} {st : Stmt} {N ps : List Str} {k : Nat} {sp : Sp} (T : Tx K mg w) (i : Nat) (hd : fn[i]? = some ⟨(x, none), x, x, defArgs st, defBody st, defScope st, [], []⟩) (hg : mg x = some (.ref (He.ga K x))) (S : FnScope N ps (defScope st)) (hb : BindOf x x st ps) (len : ∀ vs H Q E, sp vs H Q E → vs.length = ps.length)
    (body : ∀ (cdv : Value) (A : Around) (outer : List Env) (s : Shared) (H : Hp) (E : XK) (vs : List V) (Q : VK), A.guards = some [] → Room k (A.deeper (envOfC x (defScope st) s.heap.objs.size (He.ga K x) cdv)) → sp vs H Q E →
      ∃ t, PSs (cxF P w K mg base N x st (He.ga K x) cdv A outer s H E) (defBody st) t ∧ t (fin Q) (start N vs) H) : Okg P w K mg base x ps (k + 1) sp := by
  obtain ⟨fd, F⟩ := T.def_ i hd
  have F : FunD K x x (defArgs st) (defBody st) (defScope st) [] [] (He.ga K x) fd := F
  refine ⟨⟨fd, fnG_of F S len (fun cdv A outer s H vs Q E hgd hr h => ?_), F.bindsN hb⟩, hg, F.kp⟩
  obtain ⟨t, h1, h2⟩ := body cdv A outer s H E vs Q hgd hr h
  exact ⟨t, h1.nox, h2⟩
end Sm

/-! repr of data. -/
namespace Sm
open PySem PySem.Spec PyProof.Rows L2
mutual
/-- no dict anywhere: as the kit's data -/
theorem Dq.dp {K : PySem.W.Frag} {H : Hp} : ∀ (d : PyData) (v : V), Dq K H v d → d.hasDict = false → Dp K H v d
  | .none, _, h, _ => by cases h; exact .non
  | .bool b, _, h, _ => by cases h; exact .bl b
  | .int i, _, h, _ => by cases h; exact .int i
  | .str x, _, h, _ => by cases h; exact .str x
  | .list ds, _, h, n => by cases h with | lst hs ha => exact .lst (SqL.of hs) (DqAll.dp ds _ ha (by simpa [PyData.hasDict] using n))
  | .tuple ds, _, h, n => by cases h with | tup hs ha => exact .tup hs (DqAll.dp ds _ ha (by simpa [PyData.hasDict] using n))
  | .dict _, _, _, n => by simp [PyData.hasDict] at n
theorem DqAll.dp {K : PySem.W.Frag} {H : Hp} : ∀ (ds : List PyData) (vs : List V), DqAll K H vs ds → PyData.hasDictAll ds = false → DpAll K H vs ds
  | [], _, h, _ => by cases h; exact .nil
  | d :: ds, _, h, n => by
    cases h with
    | cons h1 h2 =>
      have n : (d.hasDict || PyData.hasDictAll ds) = false := by simpa [PyData.hasDictAll] using n
      obtain ⟨n1, n2⟩ := Bool.or_eq_false_iff.mp n
      exact .cons (Dq.dp d _ h1 n1) (DqAll.dp ds _ h2 n2)
end
def rReprQ (K : PySem.W.Frag) : List V → Hp → VK → Prop := fun vs H Q => ∃ x d, vs = [x] ∧ Dq K H x d ∧ d.showable = true ∧ d.hasDict = false ∧ d.shown.length ≤ sizeLine ∧ d.depth ≤ 60 ∧ Q (.str d.shown) H
theorem cr_reprQ {X : Cx} (K : PySem.W.Frag) (hg : X.A.guards = some []) (hun : X.A.units + 64 < cLine) (hK : X.K = K := by rfl) : CallR X (.builtin "repr") (rReprQ K) := by
  subst hK
  intro pins s σ H vs us Q I r h
  obtain ⟨x, d, rfl, hd, hs, hn, hz, hdp, q⟩ := h
  obtain ⟨u, rfl, ru⟩ := vals1 r
  have dp := Dq.dp d x hd hn
  obtain ⟨as, rd⟩ := Dp.reads I d x u dp ru
  cases hd with
  | non => cases ru; exact PySem.P.repr_of_none ⟨.str _, H, I.tok _, ⟨_, rfl⟩, q⟩
  | bl b => cases ru; exact PySem.P.repr_of_bool ⟨.str _, H, I.tok _, ⟨_, rfl⟩, q⟩
  | int i => obtain ⟨t, rfl⟩ := ru; exact PySem.P.repr_of_int (of_decide_eq_true hs) ⟨.str _, H, I.tok _, ⟨_, rfl⟩, q⟩
  | str y => obtain ⟨t, rfl⟩ := ru; exact PySem.P.repr_of_str ⟨.str _, H, I.tok _, ⟨_, rfl⟩, q⟩ hz
  | lst _ _ =>
    cases ru
    exact repr_of_reads' rd hs (fun z => by rw [hn] at z; cases z) hg (by omega) (fun _ _ e => e) (fun h' u tk k => ⟨.str _, H, I.kept k, ⟨_, rfl⟩, q⟩) hz
  | tup _ _ =>
    cases ru
    exact repr_of_reads' rd hs (fun z => by rw [hn] at z; cases z) hg (by omega) (fun _ _ e => e) (fun h' u tk k => ⟨.str _, H, I.kept k, ⟨_, rfl⟩, q⟩) hz
  | dic _ => simp [PyData.hasDict] at hn
end Sm

/-! All numbers of time in a run are small. -/
namespace Sm
structure LimS (T : Int) (s : Sd) : Prop where
  si : ∀ t, s.since = some t → 0 ≤ t ∧ t ≤ T + 200
  ti : ∀ t, s.til = some t → 0 ≤ t ∧ t ≤ T + 200
  fi : ∀ t, s.fin = some t → 0 ≤ t ∧ t ≤ T + 200
  td : ∀ q ∈ s.todo, 0 ≤ q.2 ∧ (q.1 = .pa → q.2 ≤ 200)
structure Lim (T : Int) (W : Wo) : Prop where
  t : 0 ≤ W.tick ∧ W.tick ≤ T
  lg : ∀ p ∈ W.log, 0 ≤ p.t ∧ p.t ≤ T + 200
  sd : ∀ k, LimS T (W.sd k)
structure Small (S : Sh) : Prop where
  way : 0 ≤ S.way ∧ S.way ≤ 200
  delay : ∀ k, 0 ≤ S.delay k ∧ S.delay k ≤ 200
variable {S : Sh} {W : Wo} {T : Int} {k : Bool}
theorem Lim.put (l : Lim T W) {s : Sd} (h : LimS T s) : Lim T (W.put k s) := by
  refine ⟨l.t, l.lg, fun j => ?_⟩
  rcases two k j with rfl | rfl
  · rw [Wo.put_same]; exact h
  · rw [Wo.put_other]; exact l.sd _
theorem Lim.send (l : Lim T W) {m : Int} : Lim T (send S W k m) := by
  refine ⟨l.t, fun p hp => ?_, fun j => ?_⟩
  · rw [send_log] at hp
    rcases List.mem_append.mp hp with hp | hp
    · exact l.lg p hp
    · rw [List.mem_singleton.mp hp]
      have := l.t
      exact ⟨this.1, by show W.tick ≤ T + 200; omega⟩
  · rcases two k j with rfl | rfl
    · rw [send_same]; exact ⟨(fun _ h => by cases h), (l.sd _).ti, (l.sd _).fi, (l.sd _).td⟩
    · rw [send_other]; exact l.sd _
theorem Lim.fulls (l : Lim T W) : ∀ n, Lim T (fulls S W k n)
  | 0 => l
  | n + 1 => (Lim.fulls l n).send
theorem Lim.free (l : Lim T W) : Lim T (free S W k) := by
  unfold Sm.free rest
  split
  · exact (l.fulls _).send
  · exact l.fulls _
theorem Lim.pass (l : Lim T W) {u : Int} : Lim T (pass W k u) := by
  refine l.put ⟨(l.sd k).si, (fun _ h => by cases h), fun t h => ?_, fun q hq => (l.sd k).td q (List.mem_of_mem_tail hq)⟩
  have h : (if (W.sd k).todo.tail = [] then some W.tick else none) = some t := h
  have := l.t
  split at h
  · cases h; omega
  · cases h
theorem Lim.step (l : Lim T W) : Lim T (step S W k).1 := by
  unfold Sm.step
  split
  · exact l
  · rename_i n r e
    split
    · refine l.put ⟨(l.sd k).si, fun t h => ?_, (l.sd k).fi, (l.sd k).td⟩
      have h : some ((W.sd k).til.getD (W.tick + n)) = some t := h
      cases h
      have := l.t
      have q := (l.sd k).td (.pa, n) (by rw [e]; exact List.mem_cons_self)
      have q1 := q.1
      have q2 := q.2 rfl
      have z : 0 ≤ n ∧ n ≤ 200 := ⟨q1, q2⟩
      cases h2 : (W.sd k).til with
      | none => show 0 ≤ W.tick + n ∧ W.tick + n ≤ T + 200; omega
      | some u => exact (l.sd k).ti u h2
    · exact l.pass
  · split
    · exact l
    · exact l.pass
  · rename_i n r e
    have a : LimS T { W.sd k with kept := (W.sd k).kept + n } := ⟨(l.sd k).si, (l.sd k).ti, (l.sd k).fi, (l.sd k).td⟩
    exact Lim.pass (Lim.free (l.put a))
theorem Lim.steps : ∀ (n : Nat) {W : Wo}, Lim T W → Lim T (steps S W k n)
  | 0, _, l => l
  | n + 1, W, l => by
    show Lim T (if (Sm.step S W k).2 = true then Sm.steps S (Sm.step S W k).1 k n else (Sm.step S W k).1)
    split
    · exact Lim.steps n l.step
    · exact l.step
theorem Lim.land (l : Lim T W) {p : Pc} : Lim T (land S W p) := by
  refine l.put ⟨fun t h => ?_, (l.sd _).ti, (l.sd _).fi, (l.sd _).td⟩
  have h : (if 0 < p.m ∧ (W.sd (!p.k)).since = none then some W.tick else (W.sd (!p.k)).since) = some t := h
  have := l.t
  split at h
  · cases h; omega
  · exact (l.sd _).si t h
theorem Lim.lands : ∀ (L : List Pc) {W : Wo}, Lim T W → Lim T (L.foldl (Sm.land S) W)
  | [], _, l => l
  | p :: L, _, l => Lim.lands L l.land
theorem Lim.answer (l : Lim T W) : Lim T (answer S W k) := by
  unfold Sm.answer
  split
  · exact l.send
  · exact l
theorem Lim.tick (l : Lim T W) : Lim T (tickW S W) :=
  Lim.answer (Lim.answer (Lim.steps _ (Lim.steps _ (Lim.free (Lim.free (Lim.lands _ l))))))
theorem Lim.next (s : Small S) (l : Lim T W) (h : later S (tickW S W) ≠ []) : Lim (T + 400) (next S W) := by
  have l := Lim.tick (S := S) l
  have m := minL_mem h
  have hw := s.way
  have b : 0 ≤ minL (later S (tickW S W)) ∧ minL (later S (tickW S W)) ≤ T + 400 := by
    rcases mem_later.mp m with ⟨k, u, h, e⟩ | ⟨k, h⟩ | ⟨p, h1, h2, e⟩
    · have := (l.sd k).si u h
      have := s.delay k
      omega
    · have := (l.sd k).ti _ h
      omega
    · have := l.lg p h1
      omega
  refine ⟨b, fun p hp => ?_, fun k => ⟨fun t h => ?_, fun t h => ?_, fun t h => ?_, (l.sd k).td⟩⟩
  · have := l.lg p hp
    omega
  · have := (l.sd k).si t h
    omega
  · have := (l.sd k).ti t h
    omega
  · have := (l.sd k).fi t h
    omega
theorem Lim.run (s : Small S) : ∀ (n : Nat) {W : Wo} {T : Int}, Lim T W → Lim (T + 400 * n) (runW S n W)
  | 0, _, T, l => by
    have e : T + 400 * ((0 : Nat) : Int) = T := by omega
    rw [e]
    exact l
  | n + 1, W, T, l => by
    rw [runW_succ]
    split
    · have l := Lim.tick (S := S) l
      have z := l.t
      refine ⟨⟨z.1, by omega⟩, fun p hp => ?_, fun k => ⟨fun t h => ?_, fun t h => ?_, fun t h => ?_, (l.sd k).td⟩⟩
      · have := l.lg p hp
        omega
      · have := (l.sd k).si t h
        omega
      · have := (l.sd k).ti t h
        omega
      · have := (l.sd k).fi t h
        omega
    · rename_i h
      have := Lim.run s n (l.next s h)
      have e : T + 400 + 400 * (n : Int) = T + 400 * ((n + 1 : Nat) : Int) := by omega
      rw [← e]
      exact this
theorem Lim.begin {a b : List (Wd × Int)} (ha : ∀ q ∈ a, 0 ≤ q.2 ∧ (q.1 = .pa → q.2 ≤ 200)) (hb : ∀ q ∈ b, 0 ≤ q.2 ∧ (q.1 = .pa → q.2 ≤ 200)) : Lim 0 (begin0 a b) := by
  have one : ∀ c : List (Wd × Int), (∀ q ∈ c, 0 ≤ q.2 ∧ (q.1 = .pa → q.2 ≤ 200)) → LimS 0 (sd0 c) := fun c h => by
    refine ⟨(fun _ h => by cases h), (fun _ h => by cases h), fun t h => ?_, h⟩
    have h : (if c = [] then some (0 : Int) else none) = some t := h
    split at h
    · cases h; omega
    · cases h
  refine ⟨⟨Int.le_refl _, Int.le_refl _⟩, (fun _ h => by cases h), fun k => ?_⟩
  cases k
  · exact one a ha
  · exact one b hb
end Sm

/-! What a pair of ends looks like when it is shown; the size of the ends. -/
namespace Sm
open PySem PySem.Spec PyProof.Rows L2
abbrev cp (s : Str) : List Nat := s.cps.toList
theorem split44 : ∀ {a b r s : List Nat}, 44 ∉ a → 44 ∉ b → a ++ 44 :: r = b ++ 44 :: s → a = b ∧ r = s
  | [], [], _, _, _, _, h => ⟨rfl, (List.cons.inj h).2⟩
  | [], y :: b, _, _, _, hb, h => absurd (List.cons.inj h).1 (fun e => hb (by rw [e]; exact List.mem_cons_self))
  | x :: a, [], _, _, ha, _, h => absurd (List.cons.inj h).1 (fun e => ha (by rw [e]; exact List.mem_cons_self))
  | x :: a, y :: b, r, s, ha, hb, h => by
    obtain ⟨e, h⟩ := List.cons.inj h
    obtain ⟨e1, e2⟩ := split44 (fun z => ha (List.mem_cons_of_mem _ z)) (fun z => hb (List.mem_cons_of_mem _ z)) h
    exact ⟨by rw [e, e1], e2⟩
def Sc (d : PyData) : Prop := d = .none ∨ (∃ b, d = .bool b) ∨ ∃ i, d = .int i
theorem Sc.oD (o : Option Int) : Sc (oD o) := by
  cases o with
  | none => exact .inl rfl
  | some t => exact .inr (.inr ⟨t, rfl⟩)
theorem Sc.free {d : PyData} (h : Sc d) {k : Nat} (hk : k < 45 ∨ (45 < k ∧ k < 48) ∨ k = 91 ∨ k = 93) : k ∉ cp d.shown := by
  rcases h with rfl | ⟨b, rfl⟩ | ⟨i, rfl⟩
  · exact shown_none_free hk
  · exact shown_bool_free hk b
  · exact shown_int_free hk i
theorem nat_repr_inj {m n : Nat} (h : (Nat.repr m).toList = (Nat.repr n).toList) : m = n := by
  rw [Nat.toList_repr, Nat.toList_repr] at h
  have e := congrArg (fun l => Nat.ofDigitChars 10 l 0) h
  simp only [Nat.ofDigitChars_ten_toDigits] at e
  exact e
theorem int_repr_inj {i j : Int} (h : (toString i).toList = (toString j).toList) : i = j := by
  have nm : ∀ n : Nat, '-' ∉ (Nat.repr n).toList := fun n hm => by
    rw [Nat.toList_repr] at hm
    exact absurd (Nat.isDigit_of_mem_toDigits (by decide) (by decide) hm) (by decide)
  rw [Int.toString_eq_repr, Int.repr_eq_if, Int.toString_eq_repr, Int.repr_eq_if] at h
  by_cases h1 : 0 ≤ i <;> by_cases h2 : 0 ≤ j
  · rw [if_pos h1, if_pos h2] at h
    have := nat_repr_inj h
    omega
  · rw [if_pos h1, if_neg h2, String.toList_append] at h
    exact absurd (show '-' ∈ (Nat.repr i.toNat).toList by rw [h]; exact List.mem_append_left _ (by decide)) (nm _)
  · rw [if_neg h1, if_pos h2, String.toList_append] at h
    exact absurd (show '-' ∈ (Nat.repr j.toNat).toList by rw [← h]; exact List.mem_append_left _ (by decide)) (nm _)
  · rw [if_neg h1, if_neg h2, String.toList_append, String.toList_append] at h
    have := nat_repr_inj (List.append_cancel_left h)
    omega
theorem int_shown_inj {i j : Int} (h : cp (PyData.int i).shown = cp (PyData.int j).shown) : i = j := by
  unfold cp at h
  rw [PyData.shown_int, PyData.shown_int, signs_ofString, signs_ofString] at h
  refine int_repr_inj ?_
  refine List.map_inj_right (fun a b e => ?_) |>.mp h
  exact Char.toNat_inj.mp e
theorem sc_none_int (i : Int) : cp (PyData.none).shown ≠ cp (PyData.int i).shown := fun h => by
  have e : (111 : Nat) ∈ cp (PyData.none).shown := by decide +kernel
  rw [h] at e
  exact shown_int_free' (k := 111) (by decide) i e
theorem sc_bool_int (b : Bool) (i : Int) : cp (PyData.bool b).shown ≠ cp (PyData.int i).shown := fun h => by
  have e : (101 : Nat) ∈ cp (PyData.bool b).shown := by cases b <;> decide +kernel
  rw [h] at e
  exact shown_int_free' (k := 101) (by decide) i e
theorem sc_bool_none (b : Bool) : cp (PyData.bool b).shown ≠ cp (PyData.none).shown := by cases b <;> decide +kernel
theorem sc_inj {x : PyData} (h : Sc x) {o : Option Int} (e : cp (oD o).shown = cp x.shown) : x = oD o := by
  rcases h with rfl | ⟨b, rfl⟩ | ⟨i, rfl⟩
  · cases o with
    | none => rfl
    | some t => exact absurd e.symm (sc_none_int t)
  · cases o with
    | none => exact absurd e.symm (sc_bool_none b)
    | some t => exact absurd e.symm (sc_bool_int b t)
  · cases o with
    | none => exact absurd e (sc_none_int i)
    | some t => rw [int_shown_inj (show cp (PyData.int t).shown = _ from e)]; rfl
theorem cp_app (a b : Str) : cp (a ++ b) = cp a ++ cp b := cps_toList_append a b
theorem two_shown (x y : PyData) : cp (PyData.tuple [x, y]).shown = 40 :: (cp x.shown ++ 44 :: (32 :: (cp y.shown ++ [41]))) := by
  have e : (PyData.tuple [x, y]).shown = ("(" : Str) ++ (x.shown ++ ", " ++ y.shown) ++ (")" : String) := by
    simp only [PyData.shown, PyData.shownAll]
    rfl
  rw [e, cp_app, cp_app, cp_app, cp_app]
  have e1 : cp (("(" : String) : Str) = [40] := by decide +kernel
  have e2 : cp ((", " : String) : Str) = [44, 32] := by decide +kernel
  have e3 : cp ((")" : String) : Str) = [41] := by decide +kernel
  rw [e1, e2, e3]
  simp
theorem one_shown' (x : PyData) : cp (PyData.tuple [x]).shown = 40 :: (cp x.shown ++ 44 :: [41]) := by
  have e : (PyData.tuple [x]).shown = ("(" : Str) ++ x.shown ++ (",)" : String) := by
    simp only [PyData.shown, PyData.shownAll]
    rfl
  rw [e, cp_app, cp_app]
  have e1 : cp (("(" : String) : Str) = [40] := by decide +kernel
  have e2 : cp ((",)" : String) : Str) = [44, 41] := by decide +kernel
  rw [e1, e2]
  simp
theorem list_shown' (ds : List PyData) : ∃ r, cp (PyData.list ds).shown = 91 :: r := by
  have e : (PyData.list ds).shown = listText (PyData.shownAll ds) := by simp only [PyData.shown]
  rw [e, listText_eq_join, cp_app, cp_app]
  have e1 : cp (("[" : String) : Str) = [91] := by decide +kernel
  exact ⟨_, by rw [e1]; rfl⟩
/-- what may stand where the ends are told -/
def Fam5 (d : PyData) : Prop := (∃ x y, d = .tuple [x, y] ∧ Sc x ∧ Sc y) ∨ (∃ ds, d = .list ds) ∨ (∃ x, d = .tuple [x] ∧ 44 ∉ cp x.shown) ∨ 44 ∉ cp d.shown
theorem fam_iff {d : PyData} (f : Fam5 d) {a b : Option Int} : (pairD a b).shown = d.shown ↔ d = pairD a b := by
  constructor
  · intro h
    have h : cp (PyData.tuple [oD a, oD b]).shown = cp d.shown := congrArg cp h
    rw [two_shown] at h
    have fa := (Sc.oD a).free (k := 44) (by decide)
    rcases f with ⟨x, y, rfl, hx, hy⟩ | ⟨ds, rfl⟩ | ⟨x, rfl, hx⟩ | hd
    · rw [two_shown] at h
      obtain ⟨e1, e2⟩ := split44 fa (hx.free (by decide)) (List.cons.inj h).2
      have e2 := List.append_cancel_right (List.cons.inj e2).2
      rw [sc_inj hx e1, sc_inj hy e2]
      rfl
    · obtain ⟨r, e⟩ := list_shown' ds
      rw [e] at h
      exact absurd (List.cons.inj h).1 (by decide)
    · rw [one_shown'] at h
      obtain ⟨e1, e2⟩ := split44 fa hx (List.cons.inj h).2
      exact absurd (List.cons.inj e2).1 (by decide)
    · rw [← h] at hd
      exact absurd (List.mem_cons_of_mem _ (List.mem_append_right _ List.mem_cons_self)) hd
  · intro h
    rw [h]
theorem str_eqb {a b : Str} : decide (a = b) = true ↔ a = b := decide_eq_true_iff
theorem small_of {S : Sh} (B : Bd S) : Small S := ⟨⟨by have := B.way; omega, by have := B.way; omega⟩, B.delay⟩
theorem ends_small {S : Sh} {ps qs : List Ps} {x : Int} (B : Bd S) (o1 : ∀ p ∈ ps, p.ok) (o2 : ∀ p ∈ qs, p.ok) (hx : 1 ≤ x ∧ x ≤ 60) (k : Bool) : ∀ t, ((runE S ps qs x).sd k).fin = some t → 0 ≤ t ∧ t ≤ 2000000 := by
  have one : ∀ ps : List Ps, (∀ p ∈ ps, p.ok) → ∀ q ∈ ps.map (todoOf x), 0 ≤ q.2 ∧ (q.1 = .pa → q.2 ≤ 200) := fun ps h q hq => by
    obtain ⟨p, hp, rfl⟩ := List.mem_map.mp hq
    have hk := h p hp
    cases p with
    | io w n => cases n with
      | none => cases w <;> exact ⟨by show 0 ≤ x; omega, fun z => by cases z⟩
      | some m =>
        have hk : 1 ≤ m ∧ m ≤ 60 := hk
        cases w <;> exact ⟨by show 0 ≤ m; omega, fun z => by cases z⟩
    | pz i j =>
      have hk : 0 ≤ i ∧ i ≤ j ∧ j ≤ 200 := hk
      exact ⟨by show 0 ≤ i; omega, fun _ => by show i ≤ 200; omega⟩
  have l := Lim.run (small_of B) 4000 (Lim.begin (one ps o1) (one qs o2))
  intro t h
  have := (l.sd k).fi t h
  omega
def OkI (d : PyData) : Prop := d.showable = true ∧ d.shown.length ≤ 10 ∧ d.depth ≤ 60
theorem int_okI {t : Int} (h : -10000000 ≤ t ∧ t ≤ 10000000) : (PyData.int t).showable = true ∧ (PyData.int t).shown.length ≤ 10 := by
  have h2 : t.natAbs < 10 ^ 8 := by
    show t.natAbs < 100000000
    omega
  constructor
  · show decide (t.natAbs.log2 < 1920) = true
    refine decide_eq_true ?_
    by_cases z : t.natAbs = 0
    · rw [z]; decide
    · refine (Nat.log2_lt z).mpr ?_
      exact Nat.lt_of_lt_of_le h2 (by decide +kernel)
  · rw [PyData.shown_int, PySem.ofString_length]
    have := int_text_length_le10 (k := 8) (a := t) (by decide) h2
    omega
theorem pair_okI {x y : PyData} (hx : x.showable = true ∧ x.shown.length ≤ 10 ∧ x.hasDict = false ∧ x.depth ≤ 1) (hy : y.showable = true ∧ y.shown.length ≤ 10 ∧ y.hasDict = false ∧ y.depth ≤ 1) :
    ((PyData.tuple [x, y]).showable = true ∧ (PyData.tuple [x, y]).hasDict = false ∧ (PyData.tuple [x, y]).shown.length ≤ sizeLine ∧ (PyData.tuple [x, y]).depth ≤ 60) ∧
    ((PyData.list [x, y]).showable = true ∧ (PyData.list [x, y]).hasDict = false ∧ (PyData.list [x, y]).shown.length ≤ sizeLine ∧ (PyData.list [x, y]).depth ≤ 60) ∧
    (PyData.tuple [x]).showable = true ∧ (PyData.tuple [x]).hasDict = false ∧ (PyData.tuple [x]).shown.length ≤ sizeLine ∧ (PyData.tuple [x]).depth ≤ 60 := by
  obtain ⟨x1, x2, x3, x4⟩ := hx
  obtain ⟨y1, y2, y3, y4⟩ := hy
  have z6 := z6000
  have e1 : (PyData.tuple [x, y]).shown = ("(" : Str) ++ (x.shown ++ ", " ++ y.shown) ++ (")" : String) := by
    simp only [PyData.shown, PyData.shownAll]; rfl
  have e2 : (PyData.list [x, y]).shown = ("[" : Str) ++ (x.shown ++ ", " ++ y.shown) ++ ("]" : String) := by
    simp only [PyData.shown, PyData.shownAll, listText_eq_join]; rfl
  have e3 : (PyData.tuple [x]).shown = ("(" : Str) ++ x.shown ++ (",)" : String) := by
    simp only [PyData.shown, PyData.shownAll]; rfl
  have l1 : (("(" : String) : Str).length = 1 := rfl
  have l2 : ((")" : String) : Str).length = 1 := rfl
  have l3 : ((", " : String) : Str).length = 2 := rfl
  have l4 : (("[" : String) : Str).length = 1 := rfl
  have l5 : (("]" : String) : Str).length = 1 := rfl
  have l6 : ((",)" : String) : Str).length = 2 := rfl
  refine ⟨⟨?_, ?_, ?_, ?_⟩, ⟨?_, ?_, ?_, ?_⟩, ?_, ?_, ?_, ?_⟩
  · simp [PyData.showable, PyData.showableAll, x1, y1]
  · simp [PyData.hasDict, PyData.hasDictAll, x3, y3]
  · rw [e1, strLen_append, strLen_append, strLen_append, strLen_append]; omega
  · simp only [PyData.depth, PyData.depthAll]; omega
  · simp [PyData.showable, PyData.showableAll, x1, y1]
  · simp [PyData.hasDict, PyData.hasDictAll, x3, y3]
  · rw [e2, strLen_append, strLen_append, strLen_append, strLen_append]; omega
  · simp only [PyData.depth, PyData.depthAll]; omega
  · simp [PyData.showable, PyData.showableAll, x1]
  · simp [PyData.hasDict, PyData.hasDictAll, x3]
  · rw [e3, strLen_append, strLen_append]; omega
  · simp only [PyData.depth, PyData.depthAll]; omega
/-- a small part of a pair -/
def Part (d : PyData) : Prop := d = .none ∨ (∃ b, d = .bool b) ∨ ∃ i : Int, d = .int i ∧ -10000000 ≤ i ∧ i ≤ 10000000
theorem Part.sc {d : PyData} (h : Part d) : Sc d := by
  rcases h with h | h | ⟨i, h, _⟩
  · exact .inl h
  · exact .inr (.inl h)
  · exact .inr (.inr ⟨i, h⟩)
theorem Part.ok {d : PyData} (h : Part d) : d.showable = true ∧ d.shown.length ≤ 10 ∧ d.hasDict = false ∧ d.depth ≤ 1 := by
  rcases h with rfl | ⟨b, rfl⟩ | ⟨i, rfl, h⟩
  · exact ⟨rfl, by decide +kernel, rfl, by decide +kernel⟩
  · cases b
    · exact ⟨rfl, by decide +kernel, rfl, by decide +kernel⟩
    · exact ⟨rfl, by decide +kernel, rfl, by decide +kernel⟩
  · obtain ⟨h1, h2⟩ := int_okI h
    exact ⟨h1, h2, rfl, by simp [PyData.depth]⟩
/-- repr of it goes -/
def ShowOk (d : PyData) : Prop := d.showable = true ∧ d.hasDict = false ∧ d.shown.length ≤ sizeLine ∧ d.depth ≤ 60
structure Ok5 (d : PyData) : Prop where
  fam : Fam5 d
  ok : ShowOk d ∨ d = .dict []
theorem Ok5.pair {x y : PyData} (hx : Part x) (hy : Part y) : Ok5 (.tuple [x, y]) := ⟨.inl ⟨x, y, rfl, hx.sc, hy.sc⟩, .inl (pair_okI hx.ok hy.ok).1⟩
theorem Ok5.lst {x y : PyData} (hx : Part x) (hy : Part y) : Ok5 (.list [x, y]) := ⟨.inr (.inl ⟨_, rfl⟩), .inl (pair_okI hx.ok hy.ok).2.1⟩
theorem Ok5.one {x : PyData} (hx : Part x) : Ok5 (.tuple [x]) := ⟨.inr (.inr (.inl ⟨x, rfl, hx.sc.free (by decide)⟩)), .inl (pair_okI hx.ok hx.ok).2.2⟩
theorem Ok5.sc {x : PyData} (hx : Part x) : Ok5 x := by
  refine ⟨.inr (.inr (.inr (hx.sc.free (by decide)))), .inl ?_⟩
  obtain ⟨a, b, c, d⟩ := hx.ok
  have z6 := z6000
  exact ⟨a, c, by omega, by omega⟩
theorem Part.fin {o : Option Int} (h : ∀ t, o = some t → 0 ≤ t ∧ t ≤ 2000000) : Part (oD o) := by
  cases o with
  | none => exact .inl rfl
  | some t =>
    have := h t rfl
    exact .inr (.inr ⟨t, rfl, by omega, by omega⟩)
theorem Ok5.ends {S : Sh} {ps qs : List Ps} {x : Int} (B : Bd S) (o1 : ∀ p ∈ ps, p.ok) (o2 : ∀ p ∈ qs, p.ok) (hx : 1 ≤ x ∧ x ≤ 60) : Ok5 (endsD S ps qs x) :=
  Ok5.pair (Part.fin (ends_small B o1 o2 hx false)) (Part.fin (ends_small B o1 o2 hx true))
/-- repr of data, the empty dict too -/
def rReprA (K : PySem.W.Frag) : List V → Hp → VK → Prop := fun vs H Q => ∃ x d, vs = [x] ∧ Dq K H x d ∧ (ShowOk d ∨ d = .dict []) ∧ Q (.str d.shown) H
theorem cr_reprA {X : Cx} (K : PySem.W.Frag) (hg : X.A.guards = some []) (hun : X.A.units + 64 < cLine) (hK : X.K = K := by rfl) : CallR X (.builtin "repr") (rReprA K) := by
  subst hK
  intro pins s σ H vs us Q I r h
  obtain ⟨x, d, rfl, hd, hs, q⟩ := h
  rcases hs with ⟨h1, h2, h3, h4⟩ | rfl
  · exact cr_reprQ X.K hg hun rfl pins s σ H _ us Q I r ⟨x, d, rfl, hd, h1, h2, h3, h4, q⟩
  · obtain ⟨u, rfl, ru⟩ := vals1 r
    cases hd with
    | @dic a e =>
    cases ru
    obtain ⟨_, hne, vs, kv, ⟨o, es, ep, e1, e2, e3, _, e5, _⟩⟩ := dk_of I.hok e
    cases kv
    have el : es.toList = [] := List.eq_nil_of_length_eq_zero (by rw [e5.length]; rfl)
    have rd : Reads s.heap (.ref a) (.dict []) (a :: [] ++ []) := by
      refine .dict e1 e2.1 e3 ?_ ?_
      · rw [el]; exact .nil
      · rw [el]; exact .nil
    exact repr_of_reads' rd rfl (fun _ z => by
      have z : sysModules ∈ [a] := z
      rw [List.mem_singleton.mp z] at hne
      simp at hne) hg (by show X.A.units + (1 + 1) < cLine; omega) (fun _ _ e => e) (fun h' u tk k => ⟨.str _, H, I.kept k, ⟨_, rfl⟩, q⟩) (by decide +kernel)
end Sm

/-! The law: odd values and bent programs. -/
namespace Sm
open PySem PySem.Spec PyProof.Rows L2
/-- t[lo:hi] of a tuple, told once -/
def rSlQ (K : PySem.W.Frag) : V → Option Int → Option Int → Hp → VK → Prop := fun x lo hi H Q => ∃ a xs, x = .ref a ∧ SqT K H a xs ∧ ∀ t H', Ke H H' → SqT K H' t (cutV xs lo hi) → Q (.ref t) H'
theorem cutV_whole {xs : List V} {lo hi : Option Int} (h1 : HT.sIx xs.length 0 lo = 0) (h2 : HT.sIx xs.length xs.length hi = xs.length) : cutV xs lo hi = xs := by
  unfold cutV
  rw [h1, h2, List.drop_zero, Nat.sub_zero, List.take_length]
theorem slQ {X : Cx} (K : PySem.W.Frag) (hK : X.K = K := by rfl) : SlR X (rSlQ K) := by
  subst hK
  intro pins s σ H x v vl vu lo hi sl Q I rx hs pl pu h
  obtain ⟨a, xs, rfl, ha, q⟩ := h
  exact sl_tupA pins s σ H _ v vl vu lo hi sl Q I rx hs pl pu ⟨a, xs, rfl, ha, fun e => q a H (.refl _) (by rw [cutV_whole e.1 e.2]; exact ha), fun _ p hp => q p _ (.new hp) (SqT.of upd_same)⟩
section
variable {K : PySem.W.Frag} {U : Addr} {Hb H : Hp}
theorem DqAll.snoc {vs : List V} {ds : List PyData} {v : V} {d : PyData} (h : DqAll K H vs ds) (q : Dq K H v d) : DqAll K H (vs ++ [v]) (ds ++ [d]) := h.append (.cons q .nil)
theorem DqAll.mem : ∀ {vs : List V} {ds : List PyData} {x : V}, DqAll K H vs ds → x ∈ vs → ∃ d, d ∈ ds ∧ Dq K H x d
  | _, _, _, .nil, h => by cases h
  | _, _, _, .cons q t, h => by
    rcases List.mem_cons.mp h with rfl | h
    · exact ⟨_, List.mem_cons_self, q⟩
    · obtain ⟨d, hd, hq⟩ := DqAll.mem t h
      exact ⟨d, List.mem_cons_of_mem _ hd, hq⟩
theorem DqAll.cut {vs : List V} {ds : List PyData} (h : DqAll K H vs ds) (lo hi : Option Int) : ∃ es, DqAll K H (cutV vs lo hi) es := ⟨_, (h.drop _).take _⟩
theorem Ur.tup {t : Addr} {xs vs : List V} {ds es : List PyData} (r : Ur U Hb H) (n : H t = none) (acc : DqAll K Hb vs ds) (h : DqAll K Hb xs es) : ∃ Hb', Ke Hb Hb' ∧ Ur U Hb' (upd H t (.tup xs)) ∧ DqAll K Hb' (vs ++ [.ref t]) (ds ++ [.tuple es]) := by
  obtain ⟨Hb', k, r', e, _⟩ := r.new (o := .tup xs) n
  exact ⟨Hb', k, r', (acc.ke k).snoc (.tup (SqT.of e) (h.ke k))⟩
theorem Ur.lst {t : Addr} {xs vs : List V} {ds es : List PyData} (r : Ur U Hb H) (n : H t = none) (acc : DqAll K Hb vs ds) (h : DqAll K Hb xs es) : ∃ Hb', Ke Hb Hb' ∧ Ur U Hb' (upd H t (.lst xs)) ∧ DqAll K Hb' (vs ++ [.ref t]) (ds ++ [.list es]) ∧ Hb' t = some (.lst xs) := by
  obtain ⟨Hb', k, r', e, _⟩ := r.new (o := .lst xs) n
  exact ⟨Hb', k, r', (acc.ke k).snoc (.lst e (h.ke k)), e⟩
theorem Ur.dic {t : Addr} {vs : List V} {ds : List PyData} (r : Ur U Hb H) (n : H t = none) (acc : DqAll K Hb vs ds) : ∃ Hb', Ke Hb Hb' ∧ Ur U Hb' (upd H t (.dK [])) ∧ DqAll K Hb' (vs ++ [.ref t]) (ds ++ [.dict []]) := by
  obtain ⟨Hb', k, r', e, _⟩ := r.new (o := .dK []) n
  exact ⟨Hb', k, r', (acc.ke k).snoc (.dic e)⟩
end
theorem Ur.re2 {U : Addr} {Hb H H' : Hp} (r : Ur U Hb H) (k : Ke H H') : ∃ Hb', Ke Hb Hb' ∧ Ur U Hb' H' ∧ ∀ (K : PySem.W.Frag) (t : Addr) (xs : List V), SqT K H' t xs → SqT K Hb' t xs := by
  obtain ⟨Hb', k1, r1, st⟩ := r.re k
  refine ⟨Hb', k1, r1, fun K t xs h => ?_⟩
  obtain ⟨g, m, n, hu⟩ := r.u
  have hu := k.lst hu
  rcases h with (h | ⟨o, h⟩) | h
  · exact .inl (.inl (st _ _ h fun z => by rw [z, hu] at h; cases h))
  · exact .inl (.inr ⟨o, st _ _ h fun z => by rw [z, hu] at h; cases h⟩)
  · exact .inr h
/-- the odd values -/
def oddL : List PyData := [.none, .bool true, .bool false, .int (-1), .int 0, .int 2, .str "", .str "x", .str "hold", .tuple [], .list [], .dict [], .tuple [.int 1], .list [.str "write", .int 1], .int (10 ^ 19), .tuple [.tuple []], .int 2001, .int (10 ^ 6 + 1)]
section
variable {P : Program} {w : World} {K : PySem.W.Frag} {mg : Str → Option Value} {base : Heap}
abbrev N_law_odd : List Str := ["_law_urn_here", "_law_some"]
theorem sc_law_odd : FnScope N_law_odd ["_law_urn_here"] (defScope s_law_odd) := ⟨rfl, rfl, rfl, by decide +kernel, rfl, by decide +kernel, by decide +kernel⟩
theorem ok_law_odd (T : Tx K mg w) : Okf P w K mg base "_law_odd" ["_law_urn_here"] 3 (sp1 fun uv H Q => ∃ U Hb, uv = .ref U ∧ Ur U Hb H ∧
    ∀ Hb' H' v d, Ke Hb Hb' → Ur U Hb' H' → d ∈ oddL → Dq K Hb' v d → Q v H') := by
  have O_law_one := ok_law_one (P := P) (w := w) (base := base) T
  refine mkF T ix_law_odd rfl T.g_law_odd sc_law_odd (fun _ _ _ _ _ _ us hl => match us, hl with | [_], _ => rfl) len1 (fun cdv A outer s0 H0 E vs Q hr h => ?_)
  refine ⟨_, (pss_cons (ps_set (i := 1) sc_law_odd.nd rfl (Or.inl rfl) (pe_lst (pa_cons pe_non (pa_cons pe_bl (pa_cons pe_bl (pa_cons (pe_un un_neg pe_int) (pa_cons pe_int (pa_cons pe_int (pa_cons pe_str (pa_cons pe_str (pa_cons pe_str (pa_cons (pe_tup pa_nil) (pa_cons (pe_lst pa_nil) (pa_cons pe_dnewK (pa_cons (pe_tup (pa_cons pe_int pa_nil)) (pa_cons (pe_lst (pa_cons pe_str (pa_cons pe_int pa_nil))) (pa_cons (pe_op op_pow pe_int pe_int) (pa_cons (pe_tup (pa_cons (pe_tup pa_nil) pa_nil)) (pa_cons pe_int (pa_cons (pe_op op_add (pe_op op_pow pe_int pe_int) pe_int) pa_nil))))))))))))))))))))
    (pss_one (ps_ret (pe_f O_law_one (hr.mono (by decide)) (by rfl) (pa_cons (pv 0) (pa_cons (pv 1) pa_nil)))))), ?_⟩
  obtain ⟨_, rfl, U, Hb, rfl, ur, q⟩ := h
  refine ⟨1, rfl, Nat.zero_le _, fun t1 n1 => ?_⟩
  obtain ⟨Hb1, k1, ur1, acc⟩ := ur.tup (K := K) n1 .nil .nil
  generalize upd H0 t1 _ = H1 at ur1 ⊢
  refine ⟨Nat.zero_le _, fun l1 m1 => ?_⟩
  obtain ⟨Hb2, k2, ur2, acc, _⟩ := ur1.lst m1 acc .nil
  generalize upd H1 l1 _ = H2 at ur2 ⊢
  refine fun d1 nd => ?_
  obtain ⟨Hb3, k3, ur3, acc⟩ := ur2.dic nd acc
  generalize upd H2 d1 _ = H3 at ur3 ⊢
  refine ⟨by show 1 ≤ sizeLine; decide, fun t2 n2 => ?_⟩
  obtain ⟨Hb4, k4, ur4, acc⟩ := ur3.tup n2 acc (.cons (.int 1) .nil)
  generalize upd H3 t2 _ = H4 at ur4 ⊢
  refine ⟨by show 2 ≤ sizeLine; decide, fun l2 m2 => ?_⟩
  obtain ⟨Hb5, k5, ur5, acc, _⟩ := ur4.lst m2 acc (.cons (.str "write") (.cons (.int 1) .nil))
  generalize upd H4 l2 _ = H5 at ur5 ⊢
  refine ⟨10, 19, rfl, rfl, ⟨by decide, by decide, by decide⟩, Nat.zero_le _, fun t3 n3 => ?_⟩
  obtain ⟨Hb6, k6, ur6, acc⟩ := ur5.tup n3 acc .nil
  generalize upd H5 t3 _ = H6 at ur6 ⊢
  refine ⟨by show 1 ≤ sizeLine; decide, fun t4 n4 => ?_⟩
  obtain ⟨Hb7, k7, ur7, acc⟩ := ur6.tup n4 acc (xs := [.ref t3]) (es := [.tuple []]) (acc.drop 5)
  generalize upd H6 t4 _ = H7 at ur7 ⊢
  refine ⟨10, 6, rfl, rfl, ⟨by decide, by decide, by decide⟩, _, _, rfl, rfl, by show 18 ≤ sizeLine; decide, fun l nl => ?_⟩
  obtain ⟨Hb8, k8, ur8, hl, _⟩ := ur7.new nl
  generalize upd H7 l _ = H8 at ur8 ⊢
  refine ⟨_, rfl, _, rfl, _, _, rfl, U, Hb8, l, _, rfl, rfl, ur8, hl, by simp, by simp, fun Hb' H' x kb ur' hx => ?_⟩
  have acc : DqAll K Hb7 [.ref t1, .ref l1, .ref d1, .ref t2, .ref l2, .ref t3, .ref t4] [.tuple [], .list [], .dict [], .tuple [.int 1], .list [.str "write", .int 1], .tuple [], .tuple [.tuple []]] := acc
  have all : DqAll K Hb7 [.non, .bl true, .bl false, .int (-1), .int 0, .int 2, .str "", .str "x", .str "hold", .ref t1, .ref l1, .ref d1, .ref t2, .ref l2, .int (10 ^ 19), .ref t4, .int 2001, .int (10 ^ 6 + 1)] oddL :=
    match acc with
    | .cons a1 (.cons a2 (.cons a3 (.cons a4 (.cons a5 (.cons a6 (.cons a7 .nil)))))) =>
      .cons .non (.cons (.bl true) (.cons (.bl false) (.cons (.int _) (.cons (.int _) (.cons (.int _) (.cons (.str _) (.cons (.str _) (.cons (.str _) (.cons a1 (.cons a2 (.cons a3 (.cons a4 (.cons a5 (.cons (.int _) (.cons a7 (.cons (.int _) (.cons (.int _) .nil)))))))))))))))))
  obtain ⟨d, hd, hq⟩ := (all.ke (k8.trans kb)).mem hx
  exact q _ _ _ d (k1.trans (k2.trans (k3.trans (k4.trans (k5.trans (k6.trans (k7.trans (k8.trans kb)))))))) ur' hd hq
abbrev N_law_bent_plan : List Str := ["_law_urn_here", "_law_plan", "_law_step", "_law_at", "_law_bent"]
theorem sc_law_bent_plan : FnScope N_law_bent_plan ["_law_urn_here", "_law_plan"] (defScope s_law_bent_plan) := ⟨rfl, rfl, rfl, by decide +kernel, rfl, by decide +kernel, by decide +kernel⟩
theorem ok_law_bent_plan (T : Tx K mg w) : Okf P w K mg base "_law_bent_plan" ["_law_urn_here", "_law_plan"] 4 (sp2 fun uv pv H Q => ∃ U Hb ds, uv = .ref U ∧ Ur U Hb H ∧ Dq K Hb pv (.tuple ds) ∧ ds.length ≤ 6 ∧
    ∀ Hb' H' v d, Ke Hb Hb' → Ur U Hb' H' → Dq K Hb' v d → Q v H') := by
  have O_law_dip := ok_law_dip (P := P) (w := w) (base := base) T
  have O_law_one := ok_law_one (P := P) (w := w) (base := base) T
  have O_law_odd := ok_law_odd (P := P) (w := w) (base := base) T
  refine mkF T ix_law_bent_plan rfl T.g_law_bent_plan sc_law_bent_plan (fun _ _ _ _ _ _ us hl => match us, hl with | [_, _], _ => rfl) len2 (fun cdv A outer s0 H0 E vs Q hr h => ?_)
  refine ⟨_, (pss_cons (ps_set (i := 2) sc_law_bent_plan.nd rfl (Or.inl rfl) (pe_f O_law_one (hr.mono (by decide)) (by rfl) (pa_cons (pv 0) (pa_cons (pe_lst (pa_cons (pe_tup (pa_cons pe_str (pa_cons pe_int pa_nil))) (pa_cons (pe_tup (pa_cons pe_str (pa_cons pe_int pa_nil))) (pa_cons (pe_tup (pa_cons pe_str (pa_cons pe_str pa_nil))) (pa_cons (pe_tup (pa_cons pe_str (pa_cons pe_bl pa_nil))) (pa_cons (pe_tup (pa_cons pe_str (pa_cons pe_int (pa_cons pe_int pa_nil)))) (pa_cons (pe_tup (pa_cons pe_str (pa_cons pe_int pa_nil))) pa_nil))))))) pa_nil))))
    (pss_cons (ps_set (i := 2) sc_law_bent_plan.nd rfl (Or.inl rfl) (pe_f O_law_one (hr.mono (by decide)) (by rfl) (pa_cons (pv 0) (pa_cons (pe_lst (pa_cons (pv 2) (pa_cons (pv 2) (pa_cons (pe_tup (pa_cons pe_str pa_nil)) (pa_cons (pe_tup (pa_cons pe_str (pa_cons pe_int pa_nil))) (pa_cons (pe_lst (pa_cons pe_str (pa_cons pe_int pa_nil))) (pa_cons (pe_tup (pa_cons pe_str (pa_cons pe_int (pa_cons pe_int pa_nil)))) (pa_cons (pe_tup (pa_cons pe_str (pa_cons pe_int (pa_cons pe_int pa_nil)))) (pa_cons (pe_f O_law_odd (hr.mono (by decide)) (by rfl) (pa_cons (pv 0) pa_nil)) pa_nil))))))))) pa_nil))))
    (pss_cons (ps_set (i := 3) sc_law_bent_plan.nd rfl (Or.inl rfl) (pe_f O_law_dip (hr.mono (by decide)) (by rfl) (pa_cons (pv 0) (pa_cons (pe_op op_add (pe_callB (lenK K) (by rfl) T.n_len (by decide +kernel) (pa_cons (pv 1) pa_nil)) pe_int) pa_nil))))
    (pss_cons (ps_set (i := 4) sc_law_bent_plan.nd rfl (Or.inl rfl) (pe_op (catK K) (pe_op (catK K) (pe_slice (slQ K) (pv 1) po_none (po_some (pv 3))) (pe_tup (pa_cons (pv 2) pa_nil))) (pe_slice (slQ K) (pv 1) (po_some (pv 3)) po_none)))
    (pss_one (ps_ret (pe_f O_law_one (hr.mono (by decide)) (by rfl) (pa_cons (pv 0) (pa_cons (pe_lst (pa_cons (pv 1) (pa_cons (pv 1) (pa_cons (pv 1) (pa_cons (pv 1) (pa_cons (pv 4) (pa_cons (pv 4) (pa_cons (pe_callTy call_list_of (by rfl) T.n_list (by decide +kernel) (pa_cons (pv 1) pa_nil)) (pa_cons (pe_op op_repT (pe_tup (pa_cons (pe_tup (pa_cons pe_str (pa_cons pe_int pa_nil))) pa_nil)) pe_int) (pa_cons pe_non (pa_cons pe_str pa_nil))))))))))) pa_nil))))))))), ?_⟩
  obtain ⟨_, _, rfl, U, Hb, ds, rfl, ur, hp, hl, q⟩ := h
  cases hp with
  | @tup a xs _ hs ha =>
  have hxl := ha.length
  have z6 := z6000
  have s1 : 1 ≤ sizeLine := by omega
  have s2 : 2 ≤ sizeLine := by omega
  have s3 : 3 ≤ sizeLine := by omega
  refine ⟨_, rfl, s2, fun t1 n1 => ?_⟩
  obtain ⟨Hb1, k1, ur1, acc⟩ := ur.tup (K := K) n1 .nil (.cons (.str "write") (.cons (.int 0) .nil))
  generalize upd H0 t1 _ = H1 at ur1 ⊢
  refine ⟨s2, fun t2 n2 => ?_⟩
  obtain ⟨Hb2, k2, ur2, acc⟩ := ur1.tup n2 acc (.cons (.str "write") (.cons (.int 61) .nil))
  generalize upd H1 t2 _ = H2 at ur2 ⊢
  refine ⟨s2, fun t3 n3 => ?_⟩
  obtain ⟨Hb3, k3, ur3, acc⟩ := ur2.tup n3 acc (.cons (.str "read") (.cons (.str "y") .nil))
  generalize upd H2 t3 _ = H3 at ur3 ⊢
  refine ⟨s2, fun t4 n4 => ?_⟩
  obtain ⟨Hb4, k4, ur4, acc⟩ := ur3.tup n4 acc (.cons (.str "read") (.cons (.bl true) .nil))
  generalize upd H3 t4 _ = H4 at ur4 ⊢
  refine ⟨s3, fun t5 n5 => ?_⟩
  obtain ⟨Hb5, k5, ur5, acc⟩ := ur4.tup n5 acc (.cons (.str "pause") (.cons (.int 3) (.cons (.int 2) .nil)))
  generalize upd H4 t5 _ = H5 at ur5 ⊢
  refine ⟨s2, fun t6 n6 => ?_⟩
  obtain ⟨Hb6, k6, ur6, acc⟩ := ur5.tup n6 acc (.cons (.str "pause") (.cons (.int 1) .nil))
  generalize upd H5 t6 _ = H6 at ur6 ⊢
  refine ⟨by show 6 ≤ sizeLine; decide, fun l nl => ?_⟩
  obtain ⟨Hb7, k7, ur7, hl7, _⟩ := ur6.new nl
  generalize upd H6 l _ = H7 at ur7 ⊢
  refine ⟨_, _, rfl, U, Hb7, l, _, rfl, rfl, ur7, hl7, by simp, by simp, fun Hb8 H8 x k8 ur8 hx => ?_⟩
  obtain ⟨dx, _, hdx⟩ := DqAll.mem (acc.ke (k7.trans k8)) hx
  have k08 : Ke Hb Hb8 := k1.trans (k2.trans (k3.trans (k4.trans (k5.trans (k6.trans (k7.trans k8))))))
  clear acc k1 k2 k3 k4 k5 k6 k7 k8 hl7 ur ur1 ur2 ur3 ur4 ur5 ur6 ur7 hx
  -- the second choice
  refine ⟨_, rfl, _, rfl, _, rfl, s1, fun t1 n1 => ?_⟩
  obtain ⟨Hb1, k1, ur1, acc⟩ := ur8.tup n1 (.cons hdx (.cons hdx .nil)) (.cons (.str "write") .nil)
  generalize upd H8 t1 _ = H1 at ur1 ⊢
  refine ⟨s2, fun t2 n2 => ?_⟩
  obtain ⟨Hb2, k2, ur2, acc⟩ := ur1.tup n2 acc (.cons (.str "wait") (.cons (.int 1) .nil))
  generalize upd H1 t2 _ = H2 at ur2 ⊢
  refine ⟨s2, fun t3 n3 => ?_⟩
  obtain ⟨Hb3, k3, ur3, acc, _⟩ := ur2.lst n3 acc (.cons (.str "write") (.cons (.int 1) .nil))
  generalize upd H2 t3 _ = H3 at ur3 ⊢
  refine ⟨s3, fun t4 n4 => ?_⟩
  obtain ⟨Hb4, k4, ur4, acc⟩ := ur3.tup n4 acc (.cons (.str "pause") (.cons (.int 0) (.cons (.int 201) .nil)))
  generalize upd H3 t4 _ = H4 at ur4 ⊢
  refine ⟨s3, fun t5 n5 => ?_⟩
  obtain ⟨Hb5, k5, ur5, acc⟩ := ur4.tup n5 acc (.cons (.str "write") (.cons (.int 1) (.cons (.int 1) .nil)))
  generalize upd H4 t5 _ = H5 at ur5 ⊢
  refine ⟨_, rfl, _, rfl, U, Hb5, rfl, ur5, fun Hb6 H6 vo do_ k6 ur6 _ hvo => ?_⟩
  have acc := (acc.ke k6).snoc hvo
  refine ⟨by show 8 ≤ sizeLine; decide, fun l nl => ?_⟩
  obtain ⟨Hb7, k7, ur7, hl7, _⟩ := ur6.new nl
  generalize upd H6 l _ = H7 at ur7 ⊢
  refine ⟨_, _, rfl, U, Hb7, l, _, rfl, rfl, ur7, hl7, by simp, by simp, fun Hb8' H8' y k8 ur8' hy => ?_⟩
  obtain ⟨dy, _, hdy⟩ := DqAll.mem (acc.ke (k7.trans k8)) hy
  have k09 : Ke Hb Hb8' := k08.trans (k1.trans (k2.trans (k3.trans (k4.trans (k5.trans (k6.trans (k7.trans k8)))))))
  clear acc k1 k2 k3 k4 k5 k6 k7 k8 hl7 ur1 ur2 ur3 ur4 ur5 ur6 ur7 hy ur8
  -- the place
  have hsH := ur8'.k.sqt (k09.sqt hs)
  refine ⟨_, rfl, _, rfl, a, _, rfl, .inr hsH, _, _, rfl, rfl, _, _, rfl, U, Hb8', (xs.length : Int) + 1, rfl, rfl, by omega, by omega, ur8', fun Hb9 H9 r k9 ur9 r0 r1 => ?_⟩
  have hs9 := ur9.k.sqt (k9.sqt (k09.sqt hs))
  refine ⟨_, rfl, _, rfl, r, rfl, a, xs, rfl, hs9, fun ta Ha ka hta => ?_⟩
  obtain ⟨e1, he1⟩ := ha.cut none (some r)
  obtain ⟨e2, he2⟩ := ha.cut (some r) none
  have c1 := cutV_length xs none (some r)
  have c2 := cutV_length xs (some r) none
  refine ⟨_, rfl, s1, fun tb ntb => ?_⟩
  have kb : Ke Ha (upd Ha tb (.tup [y])) := .new ntb
  have htb : (upd Ha tb (.tup [y])) tb = some (.tup [y]) := upd_same
  generalize upd Ha tb _ = Hq at kb htb ⊢
  refine ⟨ta, tb, _, _, rfl, rfl, kb.sqt hta, SqT.of htb, by show _ + 1 ≤ _; omega, fun tc Hc kc htc => ?_⟩
  have k9c : Ke H9 Hc := ka.trans (kb.trans kc)
  refine ⟨_, rfl, _, rfl, r, rfl, a, xs, rfl, k9c.sqt hs9, fun td Hd kd htd => ?_⟩
  refine ⟨tc, td, _, _, rfl, rfl, kd.sqt htc, htd, by rw [List.length_append]; show _ + 1 + _ ≤ _; omega, fun te He ke hte => ?_⟩
  have k9e : Ke H9 He := k9c.trans (kd.trans ke)
  obtain ⟨Hbe, kbe, ure, sqe⟩ := ur9.re2 k9e
  have k0e : Ke Hb Hbe := k09.trans (k9.trans kbe)
  have dte : DqAll K Hbe [.ref te] [.tuple (e1 ++ [dy] ++ e2)] :=
    .cons (.tup (sqe K te _ hte) (((he1.ke k0e).snoc (hdy.ke (k9.trans kbe))).append (he2.ke k0e))) .nil
  have dpl : Dq K Hbe (.ref a) (.tuple ds) := .tup (k0e.sqt hs) (ha.ke k0e)
  refine ⟨_, rfl, _, rfl, _, rfl, _, rfl, _, rfl, _, rfl, _, rfl, _, rfl, a, xs, rfl, .inr (ure.k.sqt (k0e.sqt hs)), fun l1 nl1 => ?_⟩
  obtain ⟨Hb1, k1, ur1, acc, _⟩ := ure.lst nl1 dte (ha.ke k0e)
  generalize upd He l1 _ = H1 at ur1 ⊢
  refine ⟨s2, fun t1 n1 => ?_⟩
  obtain ⟨Hb2, k2, ur2, acc⟩ := ur1.tup n1 acc (.cons (.str "write") (.cons (.int 1) .nil))
  generalize upd H1 t1 _ = H2 at ur2 ⊢
  refine ⟨s1, fun t2 n2 => ?_⟩
  obtain ⟨Hb3, k3, ur3, ht2, _⟩ := ur2.new n2
  have kH : Ke H2 (upd H2 t2 (.tup [.ref t1])) := .new n2
  generalize upd H2 t2 _ = H3 at ur3 kH ⊢
  have acc := acc.ke k3
  refine ⟨t2, 7, [.ref t1], rfl, rfl, SqT.of (ur3.k.tup ht2), by simp, by decide, by decide, by simp, fun t3 n3 => ?_⟩
  obtain ⟨Hb4, k4, ur4, acc⟩ := ur3.tup n3 acc (xs := [.ref t1, .ref t1, .ref t1, .ref t1, .ref t1, .ref t1, .ref t1]) (match acc.drop 2 with
    | .cons z .nil => .cons z (.cons z (.cons z (.cons z (.cons z (.cons z (.cons z .nil)))))))
  have er : (List.replicate (7 : Int).toNat [V.ref t1]).flatten = [.ref t1, .ref t1, .ref t1, .ref t1, .ref t1, .ref t1, .ref t1] := rfl
  rw [er]
  generalize upd H3 t3 _ = H4 at ur4 ⊢
  have k04 : Ke Hbe Hb4 := k1.trans (k2.trans (k3.trans k4))
  refine ⟨by show 10 ≤ sizeLine; decide, fun l nl => ?_⟩
  obtain ⟨Hb5, k5, ur5, hl5, _⟩ := ur4.new nl
  generalize upd H4 l _ = H5 at ur5 ⊢
  refine ⟨_, _, rfl, U, Hb5, l, _, rfl, rfl, ur5, hl5, by simp, by simp, fun Hb6 H6 v k6 ur6 hv => ?_⟩
  have k46 := k5.trans k6
  have hpl := dpl.ke (k04.trans k46)
  have all : ∃ d, Dq K Hb6 v d := by
    match acc.ke k46 with
    | .cons a1 (.cons a2 (.cons a3 (.cons a4 .nil))) =>
      simp only [List.mem_cons, List.not_mem_nil, or_false] at hv
      rcases hv with rfl | rfl | rfl | rfl | rfl | rfl | rfl | rfl | rfl | rfl
      · exact ⟨_, hpl⟩
      · exact ⟨_, hpl⟩
      · exact ⟨_, hpl⟩
      · exact ⟨_, hpl⟩
      · exact ⟨_, a1⟩
      · exact ⟨_, a1⟩
      · exact ⟨_, a2⟩
      · exact ⟨_, a4⟩
      · exact ⟨_, .non⟩
      · exact ⟨_, .str _⟩
  obtain ⟨d, hd⟩ := all
  exact q _ _ _ d (k0e.trans (k04.trans k46)) ur6 hd
end
end Sm

/-! The law: a claim with something otherwise. -/
namespace Sm
open PySem PySem.Spec PyProof.Rows L2
/-- a claim of ends at t, by its parts -/
def Six (K : PySem.W.Frag) (H : Hp) (t : Addr) (d1 d2 d3 d4 d5 : PyData) : Prop := ∃ v1 v2 v3 v4 v5, SqT K H t [.str "ends", v1, v2, v3, v4, v5] ∧ Dq K H v1 d1 ∧ Dq K H v2 d2 ∧ Dq K H v3 d3 ∧ Dq K H v4 d4 ∧ Dq K H v5 d5
theorem Six.ke {K : PySem.W.Frag} {H H' : Hp} {t : Addr} {d1 d2 d3 d4 d5 : PyData} (s : Six K H t d1 d2 d3 d4 d5) (k : Ke H H') : Six K H' t d1 d2 d3 d4 d5 := by
  obtain ⟨v1, v2, v3, v4, v5, h, a, b, c, d, e⟩ := s
  exact ⟨v1, v2, v3, v4, v5, k.sqt h, a.ke k, b.ke k, c.ke k, d.ke k, e.ke k⟩
theorem Six.dq {K : PySem.W.Frag} {H : Hp} {t : Addr} {d1 d2 d3 d4 d5 : PyData} (s : Six K H t d1 d2 d3 d4 d5) : Dq K H (.ref t) (.tuple [.str "ends", d1, d2, d3, d4, d5]) := by
  obtain ⟨v1, v2, v3, v4, v5, h, a, b, c, d, e⟩ := s
  exact .tup h (.cons (.str _) (.cons a (.cons b (.cons c (.cons d (.cons e .nil))))))
/-- what the drawn parts keep -/
structure Okd (d1 d4 d5 : PyData) : Prop where
  line : LineLike d1
  size : ∀ x, d4 = .int x → x ≤ 60 ∨ 2000 < x
  ends : Ok5 d5
theorem odd_line {d : PyData} (h : d ∈ oddL) : LineLike d := by
  refine .inr fun a b c e z => ?_
  subst z
  unfold oddL at h
  simp at h
theorem odd_size {d : PyData} (h : d ∈ oddL) : ∀ x, d = .int x → x ≤ 60 ∨ 2000 < x := by
  rintro x rfl
  unfold oddL at h
  simp at h
  omega
theorem shut {d : PyData} (h1 : 44 ∉ cp d.shown) (h2 : d.showable = true) (h3 : d.hasDict = false) (h4 : d.shown.length ≤ sizeLine) (h5 : d.depth ≤ 60) : Ok5 d := ⟨.inr (.inr (.inr h1)), .inl ⟨h2, h3, h4, h5⟩⟩
theorem odd_ends {d : PyData} (h : d ∈ oddL) : Ok5 d := by
  unfold oddL at h
  simp only [List.mem_cons, List.not_mem_nil, or_false] at h
  rcases h with rfl | rfl | rfl | rfl | rfl | rfl | rfl | rfl | rfl | rfl | rfl | rfl | rfl | rfl | rfl | rfl | rfl | rfl
  · exact .sc (.inl rfl)
  · exact .sc (.inr (.inl ⟨_, rfl⟩))
  · exact .sc (.inr (.inl ⟨_, rfl⟩))
  · exact .sc (.inr (.inr ⟨_, rfl, by decide, by decide⟩))
  · exact .sc (.inr (.inr ⟨_, rfl, by decide, by decide⟩))
  · exact .sc (.inr (.inr ⟨_, rfl, by decide, by decide⟩))
  · exact shut (by decide +kernel) (by decide +kernel) (by decide +kernel) (by decide +kernel) (by decide +kernel)
  · exact shut (by decide +kernel) (by decide +kernel) (by decide +kernel) (by decide +kernel) (by decide +kernel)
  · exact shut (by decide +kernel) (by decide +kernel) (by decide +kernel) (by decide +kernel) (by decide +kernel)
  · exact shut (by decide +kernel) (by decide +kernel) (by decide +kernel) (by decide +kernel) (by decide +kernel)
  · exact ⟨.inr (.inl ⟨_, rfl⟩), .inl ⟨by decide +kernel, by decide +kernel, by decide +kernel, by decide +kernel⟩⟩
  · exact ⟨.inr (.inr (.inr (by decide +kernel))), .inr rfl⟩
  · exact .one (.inr (.inr ⟨_, rfl, by decide, by decide⟩))
  · exact ⟨.inr (.inl ⟨_, rfl⟩), .inl ⟨by decide +kernel, by decide +kernel, by decide +kernel, by decide +kernel⟩⟩
  · exact shut (by decide +kernel) (by decide +kernel) (by decide +kernel) (by decide +kernel) (by decide +kernel)
  · exact ⟨.inr (.inr (.inl ⟨_, rfl, by decide +kernel⟩)), .inl ⟨by decide +kernel, by decide +kernel, by decide +kernel, by decide +kernel⟩⟩
  · exact .sc (.inr (.inr ⟨_, rfl, by decide, by decide⟩))
  · exact .sc (.inr (.inr ⟨_, rfl, by decide, by decide⟩))
theorem part_val {K : PySem.W.Frag} {H : Hp} {o : Option Int} : Dq K H (oV o) (oD o) := by
  cases o with
  | none => exact .non
  | some t => exact .int t
/-- the sides' times with the line of another -/
def mixS (S S' : Sh) : Sh := ⟨S'.size, S'.way, S.rule, S.every, S.delay⟩
theorem mix_bd {S S' : Sh} (B : Bd S) (B' : Bd S') : Bd (mixS S S') := ⟨B'.size, B'.way, B.every, B.delay⟩
/-- a scalar, the same in every heap -/
def ScV (v : V) (d : PyData) : Prop := (v = .non ∧ d = .none) ∨ (∃ b, v = .bl b ∧ d = .bool b) ∨ ∃ i, v = .int i ∧ d = .int i
theorem ScV.dq {K : PySem.W.Frag} {H : Hp} {v : V} {d : PyData} (h : ScV v d) : Dq K H v d := by
  rcases h with ⟨rfl, rfl⟩ | ⟨b, rfl, rfl⟩ | ⟨i, rfl, rfl⟩
  · exact .non
  · exact .bl b
  · exact .int i
theorem scV_oD (o : Option Int) : ScV (oV o) (oD o) := by
  cases o with
  | none => exact .inl ⟨rfl, rfl⟩
  | some t => exact .inr (.inr ⟨t, rfl, rfl⟩)
theorem pairAt {K : PySem.W.Frag} {H : Hp} {v : V} {a b : Option Int} (h : Dq K H v (pairD a b)) : ∃ e, v = .ref e ∧ SqT K H e [oV a, oV b] := by
  have h : Dq K H v (.tuple [oD a, oD b]) := h
  cases h with
  | @tup c xs _ hs ha =>
  cases ha with | @cons x0 xr _ _ h0 ha =>
  cases ha with | @cons x1 xr _ _ h1 ha =>
  cases ha
  rw [oD_dq h0, oD_dq h1] at hs
  exact ⟨c, rfl, hs⟩
theorem lineAt4 {K : PySem.W.Frag} {H : Hp} {v : V} {S : Sh} (h : Dq K H v (lineD S)) : ∃ t w1 w2, v = .ref t ∧ SqT K H t [.int S.size, .int S.way, w1, w2] ∧ Dq K H w1 (wayD (S.rule false) (S.every false) (S.delay false)) ∧ Dq K H w2 (wayD (S.rule true) (S.every true) (S.delay true)) := by
  have h : Dq K H v (.tuple [.int S.size, .int S.way, wayD (S.rule false) (S.every false) (S.delay false), wayD (S.rule true) (S.every true) (S.delay true)]) := h
  cases h with
  | @tup c xs _ hs ha =>
  cases ha with | @cons x0 xr _ _ h0 ha =>
  cases ha with | @cons x1 xr _ _ h1 ha =>
  cases ha with | @cons x2 xr _ _ h2 ha =>
  cases ha with | @cons x3 xr _ _ h3 ha =>
  cases ha
  cases h0
  cases h1
  exact ⟨c, x2, x3, rfl, hs, h2, h3⟩
theorem atS5 {a b c d e f : V} : atI [a, b, c, d, e, f] 5 = some f := atI_nat (n := 5) rfl
theorem back {K : PySem.W.Frag} {U t : Addr} {Hb H Hc : Hp} {v1 v2 v3 v4 v5 : V} {d1 d2 d3 d4 d5 : PyData} (ur : Ur U Hb H) (k : Ke H Hc) (h : SqT K Hc t [.str "ends", v1, v2, v3, v4, v5]) (a1 : Dq K Hb v1 d1) (a2 : Dq K Hb v2 d2) (a3 : Dq K Hb v3 d3) (a4 : Dq K Hb v4 d4) (a5 : Dq K Hb v5 d5) :
    ∃ Hb', Ke Hb Hb' ∧ Ur U Hb' Hc ∧ Six K Hb' t d1 d2 d3 d4 d5 := by
  obtain ⟨Hb', kb, ur', sq⟩ := ur.re2 k
  exact ⟨Hb', kb, ur', v1, v2, v3, v4, v5, sq K t _ h, a1.ke kb, a2.ke kb, a3.ke kb, a4.ke kb, a5.ke kb⟩
section
variable {P : Program} {w : World} {K : PySem.W.Frag} {mg : Str → Option Value} {base : Heap}
abbrev N_law_other : List Str := ["_law_urn_here", "_law_said", "_law_shape", "_law_way", "_law_at", "_law_stop", "_law_menu"]
theorem sc_law_other : FnScope N_law_other ["_law_urn_here", "_law_said", "_law_shape"] (defScope s_law_other) := ⟨rfl, rfl, rfl, by decide +kernel, rfl, by decide +kernel, by decide +kernel⟩
theorem ok_law_other (T : Tx K mg w) : Okf P w K mg base "_law_other" ["_law_urn_here", "_law_said", "_law_shape"] 5 (sp3 fun uv tv sv H Q => ∃ U Hb t S ps qs x a b, uv = .ref U ∧ tv = .ref t ∧ Ur U Hb H ∧ Six K Hb t (lineD S) (planD ps) (planD qs) (.int x) (pairD a b) ∧ Dq K Hb sv (lineD S) ∧ Bd S ∧
    ps.length ≤ 6 ∧ (1 ≤ x ∧ x ≤ 60) ∧ Part (oD a) ∧ Part (oD b) ∧ ∀ Hb' H' t' d1 d2 d3 d4 d5, Ke Hb Hb' → Ur U Hb' H' → Six K Hb' t' d1 d2 d3 d4 d5 → Okd d1 d4 d5 → Q (.ref t') H') := by
  have O_law_dip := ok_law_dip (P := P) (w := w) (base := base) T
  have O_law_one := ok_law_one (P := P) (w := w) (base := base) T
  have O_law_odd := ok_law_odd (P := P) (w := w) (base := base) T
  have O_law_told := ok_law_told (P := P) (w := w) (base := base) T
  have O_law_bent_plan := ok_law_bent_plan (P := P) (w := w) (base := base) T
  refine mkF T ix_law_other rfl T.g_law_other sc_law_other (fun _ _ _ _ _ _ us hl => match us, hl with | [_, _, _], _ => rfl) len3 (fun cdv A outer s0 H0 E vs Q hr h => ?_)
  refine ⟨_, (pss_cons (ps_par (i := 3) (j := 4) (by rfl) sc_law_other.nd rfl rfl (by decide) rfl rfl (pa_cons (pe_f O_law_dip (hr.mono (by decide)) (by rfl) (pa_cons (pv 0) (pa_cons pe_int pa_nil))) (pa_cons (pe_op op_add pe_int (pe_f O_law_dip (hr.mono (by decide)) (by rfl) (pa_cons (pv 0) (pa_cons pe_int pa_nil)))) pa_nil)) (by rfl))
    (pss_cons (ps_if (pt_cmpR op_lt (pv 3) pe_int (nomark _))
      (pss_cons (ps_set (i := 5) sc_law_other.nd rfl (Or.inl rfl) (pe_f O_law_one (hr.mono (by decide)) (by rfl) (pa_cons (pv 0) (pa_cons (pe_lst (pa_cons pe_non (pa_cons pe_bl (pa_cons pe_int (pa_cons (pe_ix (ixT K) (pe_ix (ixT K) (pv 1) pe_int (fun _ _ => rfl)) pe_int (fun _ _ => rfl)) (pa_cons (pe_ix (ixT K) (pe_ix (ixT K) (pv 1) pe_int (fun _ _ => rfl)) pe_int (fun _ _ => rfl)) (pa_cons (pe_f O_law_dip (hr.mono (by decide)) (by rfl) (pa_cons (pv 0) (pa_cons pe_int pa_nil))) pa_nil))))))) pa_nil))))
    (pss_cons (ps_set (i := 6) sc_law_other.nd rfl (Or.inl rfl) (pe_lst (pa_cons (pe_tup (pa_cons (pv 5) (pa_cons (pe_ix (ixT K) (pe_ix (ixT K) (pv 1) pe_int (fun _ _ => rfl)) pe_int (fun _ _ => rfl)) pa_nil))) (pa_cons (pe_tup (pa_cons (pe_ix (ixT K) (pe_ix (ixT K) (pv 1) pe_int (fun _ _ => rfl)) pe_int (fun _ _ => rfl)) (pa_cons (pv 5) pa_nil))) (pa_cons (pe_lst (pa_cons (pv 5) (pa_cons (pv 5) pa_nil))) (pa_cons (pe_tup (pa_cons (pv 5) pa_nil)) (pa_cons (pv 5) pa_nil)))))))
    (pss_one (ps_ret (pe_op (catK K) (pe_slice (slQ K) (pv 1) po_none (po_some pe_int)) (pe_tup (pa_cons (pe_f O_law_one (hr.mono (by decide)) (by rfl) (pa_cons (pv 0) (pa_cons (pv 6) pa_nil))) pa_nil)))))))
      pss_nil)
    (pss_cons (ps_if (pt_cmpR op_eq (pv 3) pe_int (nomark _))
      (pss_one (ps_ret (pe_op (catK K) (pe_op (catK K) (pe_slice (slQ K) (pv 1) po_none (po_some pe_int)) (pe_tup (pa_cons (pe_f O_law_one (hr.mono (by decide)) (by rfl) (pa_cons (pv 0) (pa_cons (pe_lst (pa_cons pe_int (pa_cons pe_int (pa_cons pe_int (pa_cons pe_bl (pa_cons pe_int (pa_cons pe_int (pa_cons pe_str pa_nil)))))))) pa_nil))) pa_nil))) (pe_slice (slQ K) (pv 1) (po_some pe_int) po_none))))
      pss_nil)
    (pss_cons (ps_if (pt_cmpR op_eq (pv 3) pe_int (nomark _))
      (pss_one (ps_ret (pe_op (catK K) (pe_op (catK K) (pe_slice (slQ K) (pv 1) po_none (po_some pe_int)) (pe_tup (pa_cons (pe_op (catK K) (pe_slice (slQ K) (pe_f O_law_told (hr.mono (by decide)) (by rfl) (pa_cons (pv 0) pa_nil)) po_none (po_some pe_int)) (pe_slice (slQ K) (pv 2) (po_some pe_int) po_none)) pa_nil))) (pe_slice (slQ K) (pv 1) (po_some pe_int) po_none))))
      pss_nil)
    (pss_cons (ps_if (pt_cmpR op_eq (pv 3) pe_int (nomark _))
      (pss_one (ps_ret (pe_op (catK K) (pe_op (catK K) (pe_slice (slQ K) (pv 1) po_none (po_some pe_int)) (pe_tup (pa_cons (pe_ix (ixT K) (pv 1) pe_int (fun _ _ => rfl)) (pa_cons (pe_ix (ixT K) (pv 1) pe_int (fun _ _ => rfl)) pa_nil)))) (pe_slice (slQ K) (pv 1) (po_some pe_int) po_none))))
      pss_nil)
    (pss_cons (ps_if (pt_cmpR op_eq (pv 3) pe_int (nomark _))
      (pss_one (ps_ret (pe_op (catK K) (pe_op (catK K) (pe_slice (slQ K) (pv 1) po_none (po_some pe_int)) (pe_tup (pa_cons (pe_f O_law_bent_plan (hr.mono (by decide)) (by rfl) (pa_cons (pv 0) (pa_cons (pe_ix (ixT K) (pv 1) pe_int (fun _ _ => rfl)) pa_nil))) pa_nil))) (pe_slice (slQ K) (pv 1) (po_some pe_int) po_none))))
      pss_nil)
    (pss_one (ps_ret (pe_ifExp (pt_cmpR op_eq (pv 3) pe_int (nomark _)) (pe_op (catK K) (pe_op (catK K) (pe_slice (slQ K) (pv 1) po_none (po_some (pv 4))) (pe_tup (pa_cons (pe_f O_law_odd (hr.mono (by decide)) (by rfl) (pa_cons (pv 0) pa_nil)) pa_nil))) (pe_slice (slQ K) (pv 1) (po_some (pe_op op_add (pv 4) pe_int)) po_none)) (pv 1)))))))))), ?_⟩
  obtain ⟨_, _, _, rfl, U, Hb, t, S, ps, qs, x, a, b, rfl, rfl, ur, six, hsh, B, lp, hx, pa, pb, q⟩ := h
  have lineL : LineLike (lineD S) := .inl ⟨S, rfl, B⟩
  have sizeL : ∀ y, PyData.int x = .int y → y ≤ 60 ∨ 2000 < y := fun y z => by cases z; omega
  have endL : Ok5 (pairD a b) := .pair pa pb
  refine ⟨_, rfl, _, _, rfl, U, Hb, 8, rfl, rfl, by decide, by decide, ur, fun Hb1 H1 r k1 ur1 r0 r1 => ?_⟩
  refine ⟨_, rfl, _, _, rfl, U, Hb1, 5, rfl, rfl, by decide, by decide, ur1, fun Hb2 H2 m k2 ur2 m0 m1 => ⟨_, _, rfl, rfl, _, _, rfl, ?_⟩⟩
  have k02 := k1.trans k2
  obtain ⟨v1, v2, v3, v4, v5, hs, a1, a2, a3, a4, a5⟩ := six.ke k02
  have q := fun Hb' H' t' d1 d2 d3 d4 d5 (k : Ke Hb2 Hb') => q Hb' H' t' d1 d2 d3 d4 d5 (k02.trans k)
  have hsh := hsh.ke k02
  clear six ur ur1 k1 k2 k02
  have hsH := ur2.k.sqt hs
  have e5 : v4 = .int x := by cases a4; rfl
  subst e5
  obtain ⟨e, rfl, he⟩ := pairAt a5
  have z6 := z6000
  have s1 : 1 ≤ sizeLine := by omega
  have s2 : 2 ≤ sizeLine := by omega
  refine ⟨_, rfl, _, _, rfl, rfl, _, rfl, ?_⟩
  refine ite_dec (fun w2 => ?_) (fun w2 => ?_)
  · -- an end
    have heH := ur2.k.sqt he
    refine ⟨_, rfl, _, rfl, t, _, 5, _, rfl, rfl, hsH, atS5, e, _, 0, _, rfl, rfl, heH, atI0, _, rfl, t, _, 5, _, rfl, rfl, hsH, atS5, e, _, 1, _, rfl, rfl, heH, atI1, _, rfl, _, _, rfl, U, Hb2, 50, rfl, rfl, by decide, by decide, ur2, fun Hb3 H3 n k3 ur3 n0 n1 => ?_⟩
    refine ⟨by show 6 ≤ sizeLine; decide, fun l nl => ?_⟩
    obtain ⟨Hb4, k4, ur4, hl4, _⟩ := ur3.new nl
    generalize upd H3 l _ = H4 at ur4 ⊢
    refine ⟨_, _, rfl, U, Hb4, l, _, rfl, rfl, ur4, hl4, by simp, by simp, fun Hb5 H5 v k5 ur5 hv => ?_⟩
    obtain ⟨d, pd, sv⟩ : ∃ d, Part d ∧ ScV v d := by
      simp only [List.mem_cons, List.not_mem_nil, or_false] at hv
      rcases hv with rfl | rfl | rfl | rfl | rfl | rfl
      · exact ⟨.none, .inl rfl, .inl ⟨rfl, rfl⟩⟩
      · exact ⟨.bool true, .inr (.inl ⟨_, rfl⟩), .inr (.inl ⟨_, rfl, rfl⟩)⟩
      · exact ⟨.int 0, .inr (.inr ⟨_, rfl, by decide, by decide⟩), .inr (.inr ⟨_, rfl, rfl⟩)⟩
      · exact ⟨oD a, pa, scV_oD a⟩
      · exact ⟨oD b, pb, scV_oD b⟩
      · exact ⟨.int n, .inr (.inr ⟨_, rfl, by omega, by omega⟩), .inr (.inr ⟨_, rfl, rfl⟩)⟩
    have k25 : Ke Hb2 Hb5 := k3.trans (k4.trans k5)
    clear k3 k4 k5 ur3 ur4 hl4 hv
    have hs5 := ur5.k.sqt (k25.sqt hs)
    have he5 := ur5.k.sqt (k25.sqt he)
    refine ⟨_, rfl, _, rfl, t, _, 5, _, rfl, rfl, hs5, atS5, e, _, 1, _, rfl, rfl, he5, atI1, s2, fun t1 n1 => ?_⟩
    obtain ⟨Hb6, k6, ur6, acc⟩ := ur5.tup (K := K) n1 .nil (.cons sv.dq (.cons (scV_oD b).dq .nil))
    generalize upd H5 t1 _ = H6 at ur6 ⊢
    have hs6 := ur6.k.sqt (k6.sqt (k25.sqt hs))
    have he6 := ur6.k.sqt (k6.sqt (k25.sqt he))
    refine ⟨_, rfl, t, _, 5, _, rfl, rfl, hs6, atS5, e, _, 0, _, rfl, rfl, he6, atI0, _, rfl, s2, fun t2 n2 => ?_⟩
    obtain ⟨Hb7, k7, ur7, acc⟩ := ur6.tup n2 acc (.cons (scV_oD a).dq (.cons sv.dq .nil))
    generalize upd H6 t2 _ = H7 at ur7 ⊢
    refine ⟨_, rfl, _, rfl, s2, fun l3 n3 => ?_⟩
    obtain ⟨Hb8, k8, ur8, acc, _⟩ := ur7.lst n3 acc (.cons sv.dq (.cons sv.dq .nil))
    generalize upd H7 l3 _ = H8 at ur8 ⊢
    refine ⟨_, rfl, s1, fun t4 n4 => ?_⟩
    obtain ⟨Hb9, k9, ur9, acc⟩ := ur8.tup n4 acc (.cons sv.dq .nil)
    generalize upd H8 t4 _ = H9 at ur9 ⊢
    refine ⟨_, rfl, by show 5 ≤ sizeLine; decide, fun l5 n5 => ?_⟩
    obtain ⟨Hba, ka, ura, hl5, _⟩ := ur9.new n5
    generalize upd H9 l5 _ = Ha at ura ⊢
    have k2a : Ke Hb2 Hba := k25.trans (k6.trans (k7.trans (k8.trans (k9.trans ka))))
    have acc := acc.ke ka
    refine ⟨_, rfl, 5, rfl, t, _, rfl, ura.k.sqt (k2a.sqt hs), fun ta Hc kc hta => ?_⟩
    obtain ⟨Hbc, kbc, urc, sqc⟩ := ura.re2 kc
    have hta := sqc K ta _ hta
    refine ⟨_, rfl, _, rfl, _, _, rfl, U, Hbc, l5, _, rfl, rfl, urc, kbc.lst hl5, by simp, by simp, fun Hbd Hd y kd urd hy => ?_⟩
    obtain ⟨dy, hdy, oky⟩ : ∃ dy, Dq K Hbd y dy ∧ Ok5 dy := by
      have acc := (acc.ke kbc).ke kd
      match acc with
      | .cons b1 (.cons b2 (.cons b3 (.cons b4 .nil))) =>
        simp only [List.mem_cons, List.not_mem_nil, or_false] at hy
        rcases hy with rfl | rfl | rfl | rfl | rfl
        · exact ⟨_, b1, .pair pd pb⟩
        · exact ⟨_, b2, .pair pa pd⟩
        · exact ⟨_, b3, .lst pd pd⟩
        · exact ⟨_, b4, .one pd⟩
        · exact ⟨_, sv.dq, .sc pd⟩
    have k2d : Ke Hb2 Hbd := k2a.trans (kbc.trans kd)
    refine ⟨s1, fun tb ntb => ?_⟩
    have kb : Ke Hd (upd Hd tb (.tup [y])) := .new ntb
    have htb : (upd Hd tb (.tup [y])) tb = some (.tup [y]) := upd_same
    generalize upd Hd tb _ = Hf at kb htb ⊢
    refine ⟨ta, tb, _, _, rfl, rfl, kb.sqt (urd.k.sqt (kd.sqt hta)), SqT.of htb, by show 5 + 1 ≤ sizeLine; decide, fun tc Hg kg htc => ?_⟩
    obtain ⟨Hbg, kbg, urg, sx⟩ := back urd (kb.trans kg) htc (a1.ke k2d) (a2.ke k2d) (a3.ke k2d) (a4.ke k2d) hdy
    exact q _ _ _ _ _ _ _ _ (k2d.trans kbg) urg sx ⟨lineL, sizeL, oky⟩
  refine ⟨_, rfl, rfl, _, rfl, ?_⟩
  rw [dec_int']
  refine ite_dec (fun w3 => ?_) (fun w3 => ?_)
  · -- a size
    refine ⟨_, rfl, 4, rfl, t, _, rfl, hsH, fun ta Ha ka hta => ?_⟩
    obtain ⟨Hb3, k3, ur3, sq3⟩ := ur2.re2 ka
    have hta := sq3 K ta _ hta
    refine ⟨_, rfl, by show 7 ≤ sizeLine; decide, fun l nl => ?_⟩
    obtain ⟨Hb4, k4, ur4, hl4, _⟩ := ur3.new nl
    generalize upd Ha l _ = H4 at ur4 ⊢
    refine ⟨_, _, rfl, U, Hb4, l, _, rfl, rfl, ur4, hl4, by simp, by simp, fun Hb5 H5 v k5 ur5 hv => ?_⟩
    obtain ⟨d, hd, hsz⟩ : ∃ d, Dq K Hb5 v d ∧ ∀ y, d = .int y → y ≤ 60 ∨ 2000 < y := by
      simp only [List.mem_cons, List.not_mem_nil, or_false] at hv
      rcases hv with rfl | rfl | rfl | rfl | rfl | rfl | rfl
      · exact ⟨_, .int 1, fun y z => by cases z; omega⟩
      · exact ⟨_, .int 2, fun y z => by cases z; omega⟩
      · exact ⟨_, .int 7, fun y z => by cases z; omega⟩
      · exact ⟨_, .bl true, fun y z => by cases z⟩
      · exact ⟨_, .int 0, fun y z => by cases z; omega⟩
      · exact ⟨_, .int 2001, fun y z => by cases z; omega⟩
      · exact ⟨_, .str "x", fun y z => by cases z⟩
    refine ⟨s1, fun tb ntb => ?_⟩
    have kb : Ke H5 (upd H5 tb (.tup [v])) := .new ntb
    have htb : (upd H5 tb (.tup [v])) tb = some (.tup [v]) := upd_same
    generalize upd H5 tb _ = Hf at kb htb ⊢
    have k45 := k4.trans k5
    refine ⟨ta, tb, _, _, rfl, rfl, kb.sqt (ur5.k.sqt (k45.sqt hta)), SqT.of htb, by show 4 + 1 ≤ sizeLine; decide, fun tc Hg kg htc => ?_⟩
    have k25 : Ke Hb2 Hb5 := k3.trans k45
    have hsg := (kb.trans kg).sqt (ur5.k.sqt (k25.sqt hs))
    refine ⟨_, rfl, 5, rfl, t, _, rfl, hsg, fun td Hh kh htd => ?_⟩
    refine ⟨tc, td, _, _, rfl, rfl, kh.sqt htc, htd, by show 5 + 1 ≤ sizeLine; decide, fun te Hi ki hte => ?_⟩
    obtain ⟨Hbi, kbi, uri, sx⟩ := back ur5 (kb.trans (kg.trans (kh.trans ki))) hte (a1.ke k25) (a2.ke k25) (a3.ke k25) hd (a5.ke k25)
    exact q _ _ _ _ _ _ _ _ (k25.trans kbi) uri sx ⟨lineL, hsz, endL⟩
  refine ⟨_, rfl, rfl, _, rfl, ?_⟩
  rw [dec_int']
  refine ite_dec (fun w4 => ?_) (fun w4 => ?_)
  · -- the line
    refine ⟨_, rfl, 1, rfl, t, _, rfl, hsH, fun ta Ha ka hta => ?_⟩
    obtain ⟨Hb3, k3, ur3, sq3⟩ := ur2.re2 ka
    have hta := sq3 K ta _ hta
    refine ⟨_, rfl, _, rfl, U, Hb3, rfl, ur3, fun Hb4 H4 lv S' k4 ur4 hlv B' => ?_⟩
    obtain ⟨lt, w1, w2, rfl, hlt, _, _⟩ := lineAt4 hlv
    have k24 := k3.trans k4
    refine ⟨2, rfl, lt, _, rfl, ur4.k.sqt hlt, fun t1 H5 k5 ht1 => ?_⟩
    obtain ⟨st, u1, u2, rfl, hst, hu1, hu2⟩ := lineAt4 (hsh.ke k24)
    refine ⟨_, rfl, 2, rfl, st, _, rfl, k5.sqt (ur4.k.sqt hst), fun t2 H6 k6 ht2 => ?_⟩
    refine ⟨t1, t2, _, _, rfl, rfl, k6.sqt ht1, ht2, by show 2 + 2 ≤ sizeLine; decide, fun t3 H7 k7 ht3 => ?_⟩
    obtain ⟨Hb7, k47, ur7, sq7⟩ := ur4.re2 (k5.trans (k6.trans k7))
    have k27 := k24.trans k47
    have dq3 : Dq K Hb7 (.ref t3) (lineD (mixS S S')) := .tup (sq7 K t3 _ ht3) (.cons (.int _) (.cons (.int _) (.cons (hu1.ke k47) (.cons (hu2.ke k47) .nil))))
    refine ⟨s1, fun tb ntb => ?_⟩
    have kb : Ke H7 (upd H7 tb (.tup [.ref t3])) := .new ntb
    have htb : (upd H7 tb (.tup [.ref t3])) tb = some (.tup [.ref t3]) := upd_same
    generalize upd H7 tb _ = Hf at kb htb ⊢
    refine ⟨ta, tb, _, _, rfl, rfl, kb.sqt (ur7.k.sqt ((k4.trans k47).sqt hta)), SqT.of htb, by show 1 + 1 ≤ sizeLine; decide, fun tc Hg kg htc => ?_⟩
    have hsg := (kb.trans kg).sqt (ur7.k.sqt (k27.sqt hs))
    refine ⟨_, rfl, 2, rfl, t, _, rfl, hsg, fun td Hh kh htd => ?_⟩
    refine ⟨tc, td, _, _, rfl, rfl, kh.sqt htc, htd, by show 2 + 4 ≤ sizeLine; decide, fun te Hi ki hte => ?_⟩
    obtain ⟨Hbi, kbi, uri, sx⟩ := back ur7 (kb.trans (kg.trans (kh.trans ki))) hte dq3 (a2.ke k27) (a3.ke k27) (a4.ke k27) (a5.ke k27)
    exact q _ _ _ _ _ _ _ _ (k27.trans kbi) uri sx ⟨.inl ⟨_, rfl, mix_bd B B'⟩, sizeL, endL⟩
  refine ⟨_, rfl, rfl, _, rfl, ?_⟩
  rw [dec_int']
  refine ite_dec (fun w5 => ?_) (fun w5 => ?_)
  · -- the programs
    refine ⟨_, rfl, 2, rfl, t, _, rfl, hsH, fun ta Ha ka hta => ?_⟩
    have hsa := ka.sqt hsH
    refine ⟨_, rfl, t, _, 3, _, rfl, rfl, hsa, atI3, _, rfl, t, _, 2, _, rfl, rfl, hsa, atI2, s2, fun tb ntb => ?_⟩
    have kb : Ke Ha (upd Ha tb (.tup [v3, v2])) := .new ntb
    have htb : (upd Ha tb (.tup [v3, v2])) tb = some (.tup [v3, v2]) := upd_same
    generalize upd Ha tb _ = Hf at kb htb ⊢
    refine ⟨ta, tb, _, _, rfl, rfl, kb.sqt hta, SqT.of htb, by show 2 + 2 ≤ sizeLine; decide, fun tc Hg kg htc => ?_⟩
    refine ⟨_, rfl, 4, rfl, t, _, rfl, (kb.trans kg).sqt hsa, fun td Hh kh htd => ?_⟩
    refine ⟨tc, td, _, _, rfl, rfl, kh.sqt htc, htd, by show 4 + 2 ≤ sizeLine; decide, fun te Hi ki hte => ?_⟩
    obtain ⟨Hbi, kbi, uri, sx⟩ := back ur2 (ka.trans (kb.trans (kg.trans (kh.trans ki)))) hte a1 a3 a2 a4 a5
    exact q _ _ _ _ _ _ _ _ kbi uri sx ⟨lineL, sizeL, endL⟩
  refine ⟨_, rfl, rfl, _, rfl, ?_⟩
  rw [dec_int']
  refine ite_dec (fun w6 => ?_) (fun w6 => ?_)
  · -- one program
    refine ⟨_, rfl, 2, rfl, t, _, rfl, hsH, fun ta Ha ka hta => ?_⟩
    obtain ⟨Hb3, k3, ur3, sq3⟩ := ur2.re2 ka
    have hta := sq3 K ta _ hta
    refine ⟨_, rfl, _, rfl, t, _, 2, _, rfl, rfl, ur3.k.sqt (k3.sqt hs), atI2, _, _, rfl, U, Hb3, ps.map Ps.d, rfl, ur3, a2.ke k3, by rw [List.length_map]; exact lp, fun Hb4 H4 v d k4 ur4 hd => ?_⟩
    have k24 := k3.trans k4
    refine ⟨s1, fun tb ntb => ?_⟩
    have kb : Ke H4 (upd H4 tb (.tup [v])) := .new ntb
    have htb : (upd H4 tb (.tup [v])) tb = some (.tup [v]) := upd_same
    generalize upd H4 tb _ = Hf at kb htb ⊢
    refine ⟨ta, tb, _, _, rfl, rfl, kb.sqt (ur4.k.sqt (k4.sqt hta)), SqT.of htb, by show 2 + 1 ≤ sizeLine; decide, fun tc Hg kg htc => ?_⟩
    have hsg := (kb.trans kg).sqt (ur4.k.sqt (k24.sqt hs))
    refine ⟨_, rfl, 3, rfl, t, _, rfl, hsg, fun td Hh kh htd => ?_⟩
    refine ⟨tc, td, _, _, rfl, rfl, kh.sqt htc, htd, by show 3 + 3 ≤ sizeLine; decide, fun te Hi ki hte => ?_⟩
    obtain ⟨Hbi, kbi, uri, sx⟩ := back ur4 (kb.trans (kg.trans (kh.trans ki))) hte (a1.ke k24) hd (a3.ke k24) (a4.ke k24) (a5.ke k24)
    exact q _ _ _ _ _ _ _ _ (k24.trans kbi) uri sx ⟨lineL, sizeL, endL⟩
  refine ⟨_, rfl, rfl, _, rfl, ?_⟩
  rw [dec_int']
  refine ite_dec (fun w7 => ?_) (fun w7 => ?_)
  · -- a part of another kind
    refine ⟨_, rfl, _, rfl, _, rfl, t, _, rfl, hsH, fun ta Ha ka hta => ?_⟩
    obtain ⟨Hb3, k3, ur3, sq3⟩ := ur2.re2 ka
    have hta := sq3 K ta _ hta
    refine ⟨_, rfl, _, rfl, U, Hb3, rfl, ur3, fun Hb4 H4 v d k4 ur4 hod hd => ?_⟩
    have k24 := k3.trans k4
    refine ⟨s1, fun tb ntb => ?_⟩
    have kb : Ke H4 (upd H4 tb (.tup [v])) := .new ntb
    have htb : (upd H4 tb (.tup [v])) tb = some (.tup [v]) := upd_same
    generalize upd H4 tb _ = Hf at kb htb ⊢
    have c1 := cutV_length [V.str "ends", v1, v2, v3, .int x, .ref e] none (some (1 + m))
    have c2 := cutV_length [V.str "ends", v1, v2, v3, .int x, .ref e] (some (1 + m + 1)) none
    have c3 : [V.str "ends", v1, v2, v3, .int x, .ref e].length = 6 := rfl
    refine ⟨ta, tb, _, _, rfl, rfl, kb.sqt (ur4.k.sqt (k4.sqt hta)), SqT.of htb, by show _ + 1 ≤ sizeLine; omega, fun tc Hg kg htc => ?_⟩
    have hsg := (kb.trans kg).sqt (ur4.k.sqt (k24.sqt hs))
    refine ⟨_, rfl, _, rfl, _, _, rfl, rfl, _, rfl, t, _, rfl, hsg, fun td Hh kh htd => ?_⟩
    refine ⟨tc, td, _, _, rfl, rfl, kh.sqt htc, htd, by rw [List.length_append]; show _ + 1 + _ ≤ sizeLine; omega, fun te Hi ki hte => ?_⟩
    have kk := kb.trans (kg.trans (kh.trans ki))
    have hm : m = 0 ∨ m = 1 ∨ m = 2 ∨ m = 3 ∨ m = 4 := by omega
    have b1 := a1.ke k24
    have b2 := a2.ke k24
    have b3 := a3.ke k24
    have b4 := a4.ke k24
    have b5 := a5.ke k24
    rcases hm with rfl | rfl | rfl | rfl | rfl
    · obtain ⟨Hbi, kbi, uri, sx⟩ := back ur4 kk hte hd b2 b3 b4 b5
      exact q _ _ _ _ _ _ _ _ (k24.trans kbi) uri sx ⟨odd_line hod, sizeL, endL⟩
    · obtain ⟨Hbi, kbi, uri, sx⟩ := back ur4 kk hte b1 hd b3 b4 b5
      exact q _ _ _ _ _ _ _ _ (k24.trans kbi) uri sx ⟨lineL, sizeL, endL⟩
    · obtain ⟨Hbi, kbi, uri, sx⟩ := back ur4 kk hte b1 b2 hd b4 b5
      exact q _ _ _ _ _ _ _ _ (k24.trans kbi) uri sx ⟨lineL, sizeL, endL⟩
    · obtain ⟨Hbi, kbi, uri, sx⟩ := back ur4 kk hte b1 b2 b3 hd b5
      exact q _ _ _ _ _ _ _ _ (k24.trans kbi) uri sx ⟨lineL, odd_size hod, endL⟩
    · obtain ⟨Hbi, kbi, uri, sx⟩ := back ur4 kk hte b1 b2 b3 b4 hd
      exact q _ _ _ _ _ _ _ _ (k24.trans kbi) uri sx ⟨lineL, sizeL, odd_ends hod⟩
  · exact ⟨_, rfl, q _ _ _ _ _ _ _ _ (.refl _) ur2 ⟨v1, v2, v3, _, _, hs, a1, a2, a3, a4, a5⟩ ⟨lineL, sizeL, endL⟩⟩
end
end Sm

/-! The law: whether a claim is shown. -/
namespace Sm
open PySem PySem.Spec PyProof.Rows L2
theorem eqv_nilT (ds : List PyData) : PyData.eqv (.tuple ds) (.tuple []) = decide (ds = []) := by
  cases ds <;> simp [PyData.eqv, PyData.eqvAll]
theorem emptyB_tup (ds : List PyData) : emptyB (.tuple ds) = decide (ds = []) := by
  cases ds <;> simp [emptyB]
theorem btw_of {i lo hi : Int} (h1 : lo ≤ i) (h2 : i ≤ hi) : btw (.int i) lo hi = true := by
  show (decide (lo ≤ i) && decide (i ≤ hi)) = true
  rw [decide_eq_true h1, decide_eq_true h2]
  rfl
theorem step_ok {p : Ps} (h : p.ok) : stepOk p.d = true := by
  cases p with
  | io w n =>
    have e : amtOk (amtD n) = true := by
      cases n with
      | none => decide +kernel
      | some m =>
        have h : 1 ≤ m ∧ m ≤ 60 := h
        show (btw (.int m) 1 60 || _) = true
        rw [btw_of h.1 h.2]
        rfl
    cases w
    · show ((decide (("read" : Str) = "write") || decide (("read" : Str) = "read")) && amtOk (amtD n)) = true
      rw [e]
      decide
    · show ((decide (("write" : Str) = "write") || decide (("write" : Str) = "read")) && amtOk (amtD n)) = true
      rw [e]
      decide
  | pz i j =>
    have h : 0 ≤ i ∧ i ≤ j ∧ j ≤ 200 := h
    show (decide (("pause" : Str) = "pause") && (btw (.int i) 0 200 && btw (.int j) i 200)) = true
    rw [btw_of h.1 (by omega), btw_of h.2.1 h.2.2]
    decide
theorem plan_ok {ps : List Ps} (l : ps.length ≤ 6) (o : ∀ p ∈ ps, p.ok) : planOk (planD ps) = true := by
  show (decide ((ps.map Ps.d).length ≤ 6) && (ps.map Ps.d).all stepOk) = true
  rw [decide_eq_true (by rw [List.length_map]; exact l), Bool.true_and, List.all_eq_true]
  intro d hd
  obtain ⟨p, hp, rfl⟩ := List.mem_map.mp hd
  exact step_ok (o p hp)
theorem ways_ok {r : Ru} {e y : Int} (he : 1 ≤ e ∧ e ≤ 4) (hy : 0 ≤ y ∧ y ≤ 200) : waysOk (wayD r e y) = true := by
  show (isRule (ruS r) && (btw (.int e) 1 4 && btw (.int y) 0 200)) = true
  rw [isRule_ruS, btw_of he.1 he.2, btw_of hy.1 hy.2]
  rfl
theorem told_ok {S : Sh} (B : Bd S) : toldOk (lineD S) = true := by
  show ((btw (.int S.size) 1 40 && btw (.int S.way) 1 200) && (waysOk (wayD (S.rule false) (S.every false) (S.delay false)) && waysOk (wayD (S.rule true) (S.every true) (S.delay true)))) = true
  rw [btw_of B.size.1 B.size.2, btw_of B.way.1 B.way.2, ways_ok (B.every false) (B.delay false), ways_ok (B.every true) (B.delay true)]
  rfl
theorem end_ok (o : Option Int) : endOk (oD o) = true := by cases o <;> rfl
theorem pair_ok (a b : Option Int) : pairOk (pairD a b) = true := by
  show (endOk (oD a) && endOk (oD b)) = true
  rw [end_ok, end_ok]
  rfl
theorem claim_ok {S : Sh} {ps qs : List Ps} {x : Int} {a b : Option Int} (B : Bd S) (l1 : ps.length ≤ 6) (l2 : qs.length ≤ 6) (o1 : ∀ p ∈ ps, p.ok) (o2 : ∀ p ∈ qs, p.ok) (x1 : 1 ≤ x) (x2 : x ≤ 2000) : claimOk (.tuple [.str "ends", lineD S, planD ps, planD qs, .int x, pairD a b]) = true := by
  show (decide (("ends" : Str) = "ends") && (toldOk (lineD S) && (planOk (planD ps) && (planOk (planD qs) && (btw (.int x) 1 2000 && pairOk (pairD a b)))))) = true
  rw [told_ok B, plan_ok l1 o1, plan_ok l2 o2, btw_of x1 x2, pair_ok]
  decide
theorem shown_six {d1 d2 d3 d4 d5 dp : PyData} : Shown (.tuple [.str "ends", d1, d2, d3, d4, d5]) dp ↔ emptyB dp = true ∧ ∃ S ps qs x, Bd S ∧ ps.length ≤ 6 ∧ qs.length ≤ 6 ∧ (∀ p ∈ ps, p.ok) ∧ (∀ p ∈ qs, p.ok) ∧ 1 ≤ x ∧ x ≤ 2000 ∧ d1 = lineD S ∧ d2 = planD ps ∧ d3 = planD qs ∧ d4 = .int x ∧ d5 = endsD S ps qs x := by
  constructor
  · rintro ⟨he, S, ps, qs, x, e, ok⟩
    simp only [PyData.tuple.injEq, List.cons.injEq, true_and, and_true] at e
    obtain ⟨rfl, rfl, rfl, rfl, rfl⟩ := e
    obtain ⟨S', ps', qs', x', a, b, e, B, l1, l2, o1, o2, x1, x2⟩ := claimOk_inv ok
    simp only [PyData.tuple.injEq, List.cons.injEq, true_and, and_true] at e
    obtain ⟨e1, e2, e3, e4, _⟩ := e
    cases lineD_inj e1
    cases planD_inj e2
    cases planD_inj e3
    cases e4
    exact ⟨he, S, ps, qs, x, B, l1, l2, o1, o2, x1, x2, rfl, rfl, rfl, rfl, rfl⟩
  · rintro ⟨he, S, ps, qs, x, B, l1, l2, o1, o2, x1, x2, rfl, rfl, rfl, rfl, rfl⟩
    exact ⟨he, S, ps, qs, x, rfl, claim_ok B l1 l2 o1 o2 x1 x2⟩
section
variable {P : Program} {w : World} {K : PySem.W.Frag} {mg : Str → Option Value} {base : Heap}
abbrev N_law_judge : List Str := ["_law_said", "_law_sheet"]
theorem sc_law_judge : FnScope N_law_judge ["_law_said", "_law_sheet"] (defScope s_law_judge) := ⟨rfl, rfl, rfl, by decide +kernel, rfl, by decide +kernel, by decide +kernel⟩
theorem ok_law_judge (T : Tx K mg w) : Okg P w K mg base "_law_judge" ["_law_said", "_law_sheet"] 7 (sp2 fun tv sv H Q => ∃ t d1 d2 d3 d4 d5 dp, tv = .ref t ∧ Six K H t d1 d2 d3 d4 d5 ∧ Dq K H sv dp ∧ (∀ ds, dp = .tuple ds → SeqAt.shaped dp = true) ∧ Okd d1 d4 d5 ∧
    ∀ b H', (b = true ↔ Shown (.tuple [.str "ends", d1, d2, d3, d4, d5]) dp) → Ke H H' → Q (.bl b) H') := by
  have O_law_is_told := ok_law_is_told (P := P) (w := w) (base := base) T
  have O_law_is_plan := ok_law_is_plan (P := P) (w := w) (base := base) T
  have O_law_is_whole := ok_law_is_whole (P := P) (w := w) (base := base) T
  have O_law_ends := ok_law_ends (P := P) (w := w) (base := base) T
  refine mkG T ix_law_judge rfl T.g_law_judge sc_law_judge (fun _ _ _ _ _ _ us hl => match us, hl with | [_, _], _ => rfl) len2 (fun cdv A outer s0 H0 E vs Q hgd hr h => ?_)
  refine ⟨_, (pss_cons (ps_if (PW.pt (pw_or (pt_not (pt_val (pe_f O_law_is_told (hr.mono (by decide)) (by rfl) (pa_cons (pe_ix (ixT K) (pv 0) pe_int (fun _ _ => rfl)) pa_nil)))) (pw_or (pt_not (pt_val (pe_f O_law_is_plan (hr.mono (by decide)) (by rfl) (pa_cons (pe_ix (ixT K) (pv 0) pe_int (fun _ _ => rfl)) pa_nil)))) (pw_or1 (pt_not (pt_val (pe_f O_law_is_plan (hr.mono (by decide)) (by rfl) (pa_cons (pe_ix (ixT K) (pv 0) pe_int (fun _ _ => rfl)) pa_nil))))))))
      (pss_one (ps_ret pe_bl))
      pss_nil)
    (pss_cons (ps_if (PW.pt (pw_or (pt_not (pt_val (pe_f O_law_is_whole (hr.mono (by decide)) (by rfl) (pa_cons (pe_ix (ixT K) (pv 0) pe_int (fun _ _ => rfl)) (pa_cons pe_int (pa_cons pe_int pa_nil)))))) (pw_or (pt_not (pt_val (pe_callB (isiK K) (by rfl) T.n_isinstance (by decide +kernel) (pa_cons (pv 1) (pa_cons (pe_bltn (v := .ty "tuple") (by rfl) T.n_tuple (by decide +kernel) rfl) pa_nil))))) (pw_or1 (pt_cmpR (op_neD hr.units) (pv 1) (pe_tup pa_nil) (nomark _))))))
      (pss_one (ps_ret pe_bl))
      pss_nil)
    (pss_one (ps_ret (pe_cmpR op_eq (pe_callB (cr_reprA K hgd hr.units) (by rfl) T.n_repr (by decide +kernel) (pa_cons (pe_f O_law_ends (hr.mono (by decide)) (by rfl) (pa_cons (pe_ix (ixT K) (pv 0) pe_int (fun _ _ => rfl)) (pa_cons (pe_slice (slQ K) (pv 0) (po_some pe_int) (po_some pe_int)) (pa_cons (pe_ix (ixT K) (pv 0) pe_int (fun _ _ => rfl)) pa_nil)))) pa_nil)) (pe_callB (cr_reprA K hgd hr.units) (by rfl) T.n_repr (by decide +kernel) (pa_cons (pe_ix (ixT K) (pv 0) pe_int (fun _ _ => rfl)) pa_nil)) (nomark _)))))), ?_⟩
  obtain ⟨_, _, rfl, t, d1, d2, d3, d4, d5, dp, rfl, six, hdp, hsp, okd, q⟩ := h
  obtain ⟨v1, v2, v3, v4, v5, hs, a1, a2, a3, a4, a5⟩ := six
  have q := fun b H' (e : b = true ↔ _) => q b H' (e.trans shown_six.symm)
  refine ⟨_, rfl, t, _, 1, _, rfl, rfl, hs, atI1, _, rfl, d1, a1, okd.line, fun b1 H1 h1 k1 => ⟨_, rfl, ?_⟩⟩
  cases b1 with
  | false =>
    refine iteT (q false H1 ⟨(fun z => by cases z), ?_⟩ k1)
    rintro ⟨_, S, ps, qs, x, B, _, _, _, _, _, _, e, _⟩
    exact h1.mpr ⟨S, e, B⟩
  | true =>
  obtain ⟨S, rfl, B⟩ := h1.mp rfl
  refine iteF ⟨_, rfl, t, _, 2, _, rfl, rfl, k1.sqt hs, atI2, _, rfl, d2, a2.ke k1, fun H2 k2 => ⟨_, rfl, ?_⟩⟩
  cases z2 : planOk d2 with
  | false =>
    refine iteT (q false H2 ⟨(fun z => by cases z), ?_⟩ (k1.trans k2))
    rintro ⟨_, S, ps, qs, x, B, l1, l2, o1, o2, _, _, _, e, _⟩
    rw [e, plan_ok l1 o1] at z2
    cases z2
  | true =>
  obtain ⟨ps, rfl, l1, o1⟩ := planOk_inv z2
  have k12 := k1.trans k2
  refine iteF ⟨_, rfl, t, _, 3, _, rfl, rfl, k12.sqt hs, atI3, _, rfl, d3, a3.ke k12, fun H3 k3 => ⟨_, rfl, ?_⟩⟩
  have k13 := k12.trans k3
  cases z3 : planOk d3 with
  | false =>
    refine iteT (q false H3 ⟨(fun z => by cases z), ?_⟩ k13)
    rintro ⟨_, S, ps, qs, x, B, l1, l2, o1, o2, _, _, _, _, e, _⟩
    rw [e, plan_ok l2 o2] at z3
    cases z3
  | true =>
  obtain ⟨qs, rfl, l2, o2⟩ := planOk_inv z3
  have hs3 := k13.sqt hs
  refine iteF ⟨_, rfl, t, _, 4, _, rfl, rfl, hs3, atI4, _, _, _, rfl, d4, 1, 2000, a4.ke k13, rfl, rfl, _, rfl, ?_⟩
  cases z4 : btw d4 1 2000 with
  | false =>
    refine iteT (q false H3 ⟨(fun z => by cases z), ?_⟩ k13)
    rintro ⟨_, S, ps, qs, x, B, l1, l2, o1, o2, x1, x2, _, _, _, e, _⟩
    rw [e] at z4
    have z4 : (decide (1 ≤ x) && decide (x ≤ 2000)) = false := z4
    rw [decide_eq_true x1, decide_eq_true x2] at z4
    cases z4
  | true =>
  obtain ⟨x, rfl, x1, x2⟩ := btw_inv z4
  have hx60 : x ≤ 60 := by
    rcases okd.size x rfl with h | h <;> omega
  refine iteF ⟨_, rfl, _, _, _, _, _, rfl, .ty _, (hdp.ke k13).ty, isi_ok (by decide) (hdp.ke k13), _, rfl, ?_⟩
  rw [isTy_tup]
  have notE : emptyB dp = false → (false = true ↔ emptyB dp = true ∧ ∃ S' ps' qs' x', Bd S' ∧ ps'.length ≤ 6 ∧ qs'.length ≤ 6 ∧ (∀ p ∈ ps', p.ok) ∧ (∀ p ∈ qs', p.ok) ∧ 1 ≤ x' ∧ x' ≤ 2000 ∧ lineD S = lineD S' ∧ planD ps = planD ps' ∧ planD qs = planD qs' ∧ PyData.int x = .int x' ∧ d5 = endsD S' ps' qs' x') := fun e => ⟨(fun z => by cases z), fun z => by rw [e] at z; cases z.1⟩
  cases hdp with
  | @tup ap xp ds hsp' hap =>
    refine iteF ⟨_, rfl, Nat.zero_le _, fun em nem => ?_⟩
    have ke : Ke H3 (upd H3 em (.tup [])) := .new nem
    have hem : (upd H3 em (.tup [])) em = some (.tup []) := upd_same
    generalize upd H3 em _ = H4 at ke hem ⊢
    have k14 := k13.trans ke
    have dpq : Dq K H4 (.ref ap) (.tuple ds) := .tup (k14.sqt hsp') (hap.ke k14)
    have sh := hsp ds rfl
    refine ⟨.tuple ds, .tuple [], Dq.dp _ _ dpq (PyData.hasDict_of_canLay _ (SeqAt.canLay_of_shaped sh)), .tup (SqT.of hem) .nil, sh, by decide +kernel, ?_⟩
    rw [eqv_nilT]
    by_cases hd : ds = []
    · rw [decide_eq_true hd]
      refine ⟨_, rfl, iteF ?_⟩
      have hs4 := k14.sqt hs
      refine ⟨_, rfl, t, _, 1, _, rfl, rfl, hs4, atI1, _, rfl, 2, rfl, 4, rfl, t, _, rfl, hs4, fun tp H5 k5 htp => ?_⟩
      have k15 := k14.trans k5
      refine ⟨_, rfl, t, _, 4, _, rfl, rfl, k15.sqt hs, atI4, ?_⟩
      have hx := a4
      have ev : v4 = .int x := by cases hx; rfl
      subst ev
      refine ⟨_, _, _, rfl, S, tp, v2, v3, ps, qs, x, a1.ke k15, B, rfl, rfl, htp, a2.ke k15, a3.ke k15, l1, l2, o1, o2, ⟨x1, hx60⟩, fun H6 e k6 he => ?_⟩
      have k16 := k15.trans k6
      have ok1 := Ok5.ends B o1 o2 ⟨x1, hx60⟩
      refine ⟨_, endsD S ps qs x, rfl, .tup (SqT.of he) (.cons part_val (.cons part_val .nil)), ok1.ok, _, rfl, t, _, 5, _, rfl, rfl, k16.sqt hs, atS5, _, d5, rfl, a5.ke k16, okd.ends.ok, rfl, ?_⟩
      show Q (.bl (decide (V.str (endsD S ps qs x).shown = V.str d5.shown))) H6
      refine q _ H6 ?_ k16
      rw [decide_eq_true_iff, emptyB_tup, decide_eq_true_iff]
      have fam : (endsD S ps qs x).shown = d5.shown ↔ d5 = endsD S ps qs x := fam_iff okd.ends.fam
      constructor
      · intro z
        exact ⟨hd, S, ps, qs, x, B, l1, l2, o1, o2, x1, x2, rfl, rfl, rfl, rfl, fam.mp (V.str.inj z)⟩
      · rintro ⟨_, S', ps', qs', x', _, _, _, _, _, _, _, e1, e2, e3, e4, e5⟩
        cases lineD_inj e1
        cases planD_inj e2
        cases planD_inj e3
        cases e4
        rw [fam.mpr e5]
    · rw [decide_eq_false hd]
      refine ⟨_, rfl, iteT (q false H4 (notE ?_) k14)⟩
      rw [emptyB_tup]
      exact decide_eq_false hd
  | _ => exact iteT (q false H3 (notE rfl) k13)
end
end Sm

/-! Two more rules: f(k = v, ..), t[::-1] of six. -/
namespace Sm
open PySem PySem.Spec PyProof.Rows L2
section
variable {X : Cx} {k : Nat} {ps ks : List Str} {sp : Sp} {x : Str} {p pos : Pos} {kws : List Keyword} {tk : TA} {g : List Value → List Value → List Value} {gV : List V → List V → List V}
/-- only keywords -/
theorem pe_fk (O : Okf X.prog X.w X.K X.mg X.base x ps k sp) (hr : Room k X.A) (hg : Gl X x) (hb : ∀ fd, Held X.K (He.ga X.K x) fd → KBinds X.K fd ps ks g gV) (hkw : PK X kws tk) (ha : (backToKw pos (keywordEach kws X.env)).all (·.1.isSome) = true := by rfl)
    (hks : (backToKw pos (keywordEach kws X.env)).filterMap (·.1) = ks := by rfl) (hd : (x == ("__debug__" : Str)) = false := by decide) (hp : ((backTo pos (starEach [] X.env)).any (·.1) || (backToKw pos (keywordEach kws X.env)).any (·.1.isNone)) = false := by rfl) :
    PE X (.Call (.Name x p) [] kws pos) (tCallK sp gV E0 tNil tk) := by
  obtain ⟨fd, F, _, held⟩ := O.ex
  have B := hb fd held
  refine ⟨fun pins s σ H Q I h => wpAny_Call_Name_kw (ld_glob I hg O.gl (PySem.W.callWith_KW0 (h₀ := X.base) I.ok.mod.kin O.kp ha ?_ hp) hd)⟩
  refine thn (hkw.run pos pins s σ H _ I h) fun ws s' ⟨zs, H', I', rz, q⟩ => ⟨I'.kIn, ?_⟩
  rw [hks]
  exact run_fnk (us := []) (vs := []) F hr B pass0 I' .nil rz q
end
/-- the two arguments of the checker by their names, in the other order -/
def two_ {α : Type} (us ws : List α) : List α := match us, ws with
  | [], [b, a] => [a, b]
  | _, _ => []
theorem holdsK {K : PySem.W.Frag} {mg : Str → Option Value} {w : World} (T : Tx K mg w) (fd : FuncData) (h : Held K (He.ga K "holds") fd) : KBinds K fd ["claim", "paper"] ["paper", "claim"] two_ two_ := by
  obtain ⟨fd', F⟩ := T.def_ ix_holds rfl
  have F : FunD K "holds" "holds" (defArgs s_holds) (defBody s_holds) (defScope s_holds) [] [] (He.ga K "holds") fd' := F
  have e := Held.eq h (Held.of F)
  subst e
  obtain ⟨oc, od, dV, kV, doc, pm, an, cdv, ct, osl, rfl, lk, hcd, hD, _⟩ := F.ex
  rcases hD with ⟨_, rfl⟩ | ⟨e, _⟩
  · refine ⟨fun s us ws _ hl => ?_, fun r rz => ?_⟩
    · match us, ws, hl with
      | [], [b, a], _ => exact .of_eq rfl
      | [], [], h => cases h
      | [], [_], h => cases h
      | [], _ :: _ :: _ :: _, h => cases h
      | _ :: _, _, h => cases h
    · cases r with
      | nil =>
        cases rz with
        | nil => exact .nil
        | cons b rz =>
          cases rz with
          | nil => exact .nil
          | cons a rz =>
            cases rz with
            | nil => exact .cons a (.cons b .nil)
            | cons _ _ => exact .nil
      | cons _ _ => exact .nil
  · exact absurd rfl e
end Sm
namespace HT
open PySem PyProof.Rows
section
variable {prog : Program} {w : World} {A : Around} {E : Value → Shared → Prop} {s : Shared}
theorem back6 {sl : Addr} {u : Tok} {Q : Int × Int × Nat → Shared → Prop} (hs : s.heap.IsSliceOf sl .none .none (.int (-1) u)) (h : Q (5, -1, 6) s) : wpAny (model prog w) A (Builtin.Slice.sliceApplied (.ref sl) (pure ((6 : Nat) : Int))) Q E s := by
  obtain ⟨o6, ho6, hc6, hd6⟩ := id hs
  unfold Builtin.Slice.sliceApplied
  unfold Builtin.Slice.sliceFields
  have fin6 : wpAny (model prog w) A (pure (5, -1, 6)) Q E s := wpAny_pure h
  refine wpAny_bind (wpAny_bind (wpAny_field ho6 hd6 (x := .none) rfl (wpAny_bind (wpAny_field ho6 hd6 (x := .none) rfl (wpAny_bind (wpAny_field ho6 hd6 (x := .int (-1) u) rfl (wpAny_pure ?_)))))))
  refine wpAny_bind (slicePart_int ?_)
  show wpAny (model prog w) A (if ((-1 : Int) == 0) = true then _ else _) Q E s
  rw [if_neg (show ¬ (((-1 : Int) == 0) = true) by decide)]
  refine wpAny_bind (slicePart_none (wpAny_bind (slicePart_none (wpAny_bind (wpAny_pure ?_)))))
  exact fin6
theorem get_back6 {t sl : Addr} {y0 y1 y2 y3 y4 y5 : Value} {u : Tok} {Q : Value → Shared → Prop} (ht : IsTup s.heap t #[y0, y1, y2, y3, y4, y5]) (hs : s.heap.IsSliceOf sl .none .none (.int (-1) u))
    (h : Q (.ref s.heap.objs.size) { s with heap := s.heap.push { cls := .type "tuple", data := .seq #[y5, y4, y3, y2, y1, y0] } }) : wpAny (model prog w) A (getItem (.ref t) (.ref sl)) Q E s := by
  have fit : sizeOk (.seq #[y5, y4, y3, y2, y1, y0]) := by
    show 6 ≤ sizeLine
    decide
  obtain ⟨o6, ho6, hc6, _⟩ := id hs
  have ty6 : s.TypeIs (.ref sl) "slice" := ⟨o6, ho6, hc6⟩
  unfold getItem
  try with_reducible refine wpAny_holding ?_
  first | refine wpAny_bind (wpAny_pure ?_) | skip
  refine wpAny_bind (wpAny_sequenceKey (IsTup.typeIs ht) (by decide) (wpAny_bind (wpAny_callSpecial?_slot (name := Str.ofString "__getitem__") (IsTup.typeIs ht) slot_tuple_getitem (wpAny_call_entry slot_tuple_getitem (IsTup.typeIs ht) entry_tuple_getitem ?_ (args_tuple_getitem _ _)))))
  show wpAny (model prog w) _ (Builtin.Tuple.tupleItemsOf (.ref t) >>= _) _ E s
  refine wpAny_bind (tupleItemsOf_ ht (wpAny_bind (wpAny_typeOf ty6 ?_)))
  rw [if_pos (show ((Value.type "slice") == (Value.type "slice")) = true by decide)]
  refine wpAny_bind (back6 hs ?_)
  have no6 : ¬ (((5 : Int) == 0 && (-1 : Int) == 1 && (6 : Nat) == 6) = true) := by decide
  have it6 : ((List.range 6).filterMap fun k : Nat => #[y0, y1, y2, y3, y4, y5][((5 : Int) + (k : Int) * (-1)).toNat]?).toArray = #[y5, y4, y3, y2, y1, y0] := rfl
  show wpAny (model prog w) _ (if ((5 : Int) == 0 && (-1 : Int) == 1 && (6 : Nat) == 6) = true then _ else (Builtin.Tuple.tupleExact ((List.range 6).filterMap fun k : Nat => #[y0, y1, y2, y3, y4, y5][((5 : Int) + (k : Int) * (-1)).toNat]?).toArray >>= _)) _ E s
  rw [if_neg no6, it6]
  first
    | exact wpAny_bind (m := Builtin.Tuple.tupleExact #[y5, y4, y3, y2, y1, y0]) (wpAny_newObj_type (wpAny_pure ⟨_, rfl, wpAny_pure h⟩) fit)
    | exact wpAny_bind (m := Builtin.Tuple.tupleExact #[y5, y4, y3, y2, y1, y0]) (wpAny_newObj_type (wpAny_bind (wpAny_pure (wpAny_pure ⟨_, rfl, wpAny_pure h⟩))) fit)
    | exact wpAny_bind (wpAny_bind (m := Builtin.Tuple.tupleExact #[y5, y4, y3, y2, y1, y0]) (wpAny_newObj_type (wpAny_pure (wpAny_pure ⟨_, rfl, wpAny_pure h⟩)) fit))
end
end HT
namespace Sm
open PySem PySem.Spec PyProof.Rows L2
/-- t[::-1] of six -/
def tRev6 (K : PySem.W.Frag) (te : TE) : TE := fun σ H Q => te σ H fun x H1 => ∃ a x0 x1 x2 x3 x4 x5, x = .ref a ∧ SqT K H1 a [x0, x1, x2, x3, x4, x5] ∧ ∀ p H', Ke H1 H' → SqT K H' p [x5, x4, x3, x2, x1, x0] → Q (.ref p) H'
theorem pe_rev6 {X : Cx} {e : Expr} {te : TE} {k : Nat} {p1 p2 p3 pos : Pos} (K : PySem.W.Frag) (he : PE X e te) (hK : X.K = K := by rfl) : PE X (.Subscript e (.Slice none none (some (.UnaryOp .USub (.Constant (.int 1) k p1) p2)) p3) pos) (tRev6 K te) := by
  subst hK
  refine ⟨fun pins s σ H Q I h => Subscript_ (thn (he.run pins s σ H _ I h) fun v s1 ⟨x, H1, I1, r1, q1⟩ => ?_)⟩
  obtain ⟨a, x0, x1, x2, x3, x4, x5, rfl, hx, q⟩ := q1
  cases r1
  have st : PO X (some (.UnaryOp .USub (.Constant (.int 1) k p1) p2)) (tPart (tUn (rU fun i => .int (-i)) (tC (.int 1)))) := po_some (pe_un un_neg pe_int)
  refine wpAny_Slice (thn (po_none.run pins s1 σ H1 (fun o H2 => o = none ∧ H2 = H1) I1 ⟨rfl, rfl⟩) fun vl s2 ⟨lo, H2, I2, pl, e1, e2⟩ => thn (po_none.run pins s2 σ H2 (fun o H3 => o = none ∧ H3 = H2) I2 ⟨rfl, rfl⟩) fun vu s3 ⟨hi, H3, I3, pu, e3, e4⟩ => thn (st.run pins s3 σ H3 (fun o H4 => o = some (-1) ∧ H4 = H3) I3 ⟨1, rfl, -1, rfl, rfl, rfl⟩) fun vs s4 ⟨o, H4, I4, ps, e5, e6⟩ => ?_)
  subst e1 e2 e3 e4 e5 e6
  cases pl
  cases pu
  cases ps with
  | int _ u =>
  have I5 : L2.Inv X pins σ H4 { s4 with heap := s4.heap.push { cls := .type "slice", data := .fields #[.none, .none, .int (-1) u] } } := I4.kept (t' := s4.toks) fun b ob z => Heap.get?_push_of_some _ z
  obtain ⟨its, r, ht, _⟩ := I5.tuple hx
  cases r with | @cons _ y0 _ _ r0 r =>
  cases r with | @cons _ y1 _ _ r1 r =>
  cases r with | @cons _ y2 _ _ r2 r =>
  cases r with | @cons _ y3 _ _ r3 r =>
  cases r with | @cons _ y4 _ _ r4 r =>
  cases r with | @cons _ y5 _ _ r5 r =>
  cases r
  show wpAny (model X.prog X.w) X.A (subscriptTail e (.Slice none none (some (.UnaryOp .USub (.Constant (.int 1) k p1) p2)) p3) (.ref a) (.ref s4.heap.objs.size)) (EP X pins σ Q) X.xe
    { s4 with heap := s4.heap.push { cls := .type "slice", data := .fields #[.none, .none, .int (-1) u] } }
  have hT := ht.typeIs
  have slot := PyProof.Rows.slot_tuple_getitem.lookup
  refine tail_any (ops := [.ref a, .ref s4.heap.objs.size]) hT slot ?_ ?_
  · refine HT.get_back6 ht (Heap.IsSliceOf.new _ _ _ _) ?_
    refine ⟨.ref _, _, I5.laid (t' := s4.toks) (o := .tup [x5, x4, x3, x2, x1, x0]) (fun b ob z => Heap.get?_push_of_some _ z) (Nat.le_refl _) ?_, rfl, q _ _ (.new (I5.hok.fresh (Nat.le_refl _))) (SqT.of upd_same)⟩
    exact ⟨by show 6 ≤ sizeLine; decide, [y5, y4, y3, y2, y1, y0], .cons r5 (.cons r4 (.cons r3 (.cons r2 (.cons r1 (.cons r0 .nil))))), IsTup.new _ _⟩
  · with_unfolding_all rfl
end Sm

/-! The law: all that is asked of one number. -/
namespace Sm
open PySem PySem.Spec PyProof.Rows L2
/-- the table's code objects are not the urn -/
theorem Ur.tabs {U : Addr} {Hb H : Hp} {P : Addr} {q : Str} (r : Ur U Hb H) (t : LamX.TabS H P q) : ∃ Hb', Ke Hb Hb' ∧ Ur U Hb' H ∧ LamX.TabS Hb' P q := by
  obtain ⟨Hb', k, r', st⟩ := r.re (.refl _)
  obtain ⟨g, m, n, hu⟩ := r.u
  obtain ⟨ps, h1, h2, h3⟩ := t
  refine ⟨Hb', k, r', ps, st _ _ h1 (fun z => by rw [z, hu] at h1; cases h1), h2, fun pos cv hc => ?_⟩
  obtain ⟨c, e1, e2⟩ := h3 pos cv hc
  refine ⟨c, e1, st _ _ e2 fun z => ?_⟩
  rw [z, hu] at e2
  unfold LamX.CodeO at e2
  cases e2
/-- what the checker asks of a claim ahead -/
def Pre (d : PyData) : Prop := (∀ s r, d = .tuple (.str s :: r) → s = "ends" ∨ s = "end") ∧ (∀ a b c e x f, d = .tuple [a, b, c, e, .int x, f] → claimOk d = true → x ≤ 60)
theorem pre_six {d1 d2 d3 d4 d5 : PyData} (ok : Okd d1 d4 d5) : Pre (.tuple [.str "ends", d1, d2, d3, d4, d5]) := by
  refine ⟨fun s r e => ?_, fun a b c e x f z ok' => ?_⟩
  · simp only [PyData.tuple.injEq, List.cons.injEq, PyData.str.injEq] at e
    exact .inl e.1.symm
  · obtain ⟨S, ps, qs, i, a', b', e', _, _, _, _, _, i1, i2⟩ := claimOk_inv ok'
    simp only [PyData.tuple.injEq, List.cons.injEq, true_and, and_true] at z e'
    obtain ⟨_, _, _, _, z5, _⟩ := z
    obtain ⟨_, _, _, e5, _⟩ := e'
    rw [e5] at z5
    cases z5
    rcases ok.size _ e5 with h | h <;> omega
/-- a claim that is none -/
def Neg (d : PyData) : Prop := Pre d ∧ ∀ dp, ¬ Shown d dp
theorem neg_of {d : PyData} (h : claimOk d = false) (h1 : ∀ s r, d = .tuple (.str s :: r) → s = "ends" ∨ s = "end") : Neg d := by
  refine ⟨⟨h1, fun a b c e x f z ok => ?_⟩, ?_⟩
  · rw [h] at ok
    cases ok
  · rintro dp ⟨_, S, ps, qs, x, _, ok⟩
    rw [h] at ok
    cases ok
theorem neg5 {l : List PyData} {b c d e : PyData} : Neg (.tuple [.tuple l, b, c, d, e]) := neg_of rfl fun s r z => by simp at z
theorem neg7 {a b c d e f : PyData} : Neg (.tuple [.str "ends", a, b, c, d, e, f]) := neg_of rfl fun s r z => by
  simp only [PyData.tuple.injEq, List.cons.injEq, PyData.str.injEq] at z
  exact .inl z.1.symm
theorem negL {l : List PyData} : Neg (.list l) := neg_of rfl fun s r z => by cases z
theorem negE {a b c d e : PyData} : Neg (.tuple [.str "end", a, b, c, d, e]) := by
  refine neg_of ?_ fun s r z => ?_
  · show (decide (("end" : Str) = "ends") && (toldOk a && (planOk b && (planOk c && (sizeOk d && pairOk e))))) = false
    rw [decide_eq_false (by decide)]
    rfl
  · simp only [PyData.tuple.injEq, List.cons.injEq, PyData.str.injEq] at z
    exact .inr z.1.symm
theorem negN {a b c d e : PyData} : Neg (.tuple [.none, a, b, c, d, e]) := neg_of rfl fun s r z => by simp at z
theorem neg6 {l : List PyData} {b c d e f : PyData} : Neg (.tuple [.tuple l, b, c, d, e, f]) := neg_of rfl fun s r z => by simp at z
theorem neg0 : Neg .none := neg_of rfl fun s r z => by cases z
theorem negT : Neg (.tuple []) := neg_of rfl fun s r z => by cases z
/-- a sheet that may be compared -/
def Sheet (d : PyData) : Prop := ∀ ds, d = .tuple ds → SeqAt.shaped d = true
theorem lay_steps : ∀ ps : List Ps, PyData.canLayAll0 (ps.map Ps.d) = true ∧ PyData.depthAll (ps.map Ps.d) ≤ 1
  | [] => ⟨rfl, Nat.zero_le _⟩
  | p :: r => by
    obtain ⟨h1, h2⟩ := lay_steps r
    have one : p.d.canLay0 = true ∧ p.d.depth ≤ 1 := by
      cases p with
      | io w n => cases w <;> cases n <;> exact ⟨by simp [Ps.d, Ps.word, amtD, PyData.canLay0, PyData.canLayAll0]; try decide +kernel, by simp [Ps.d, Ps.word, amtD, PyData.depth, PyData.depthAll]⟩
      | pz i j => exact ⟨by simp [Ps.d, Ps.word, PyData.canLay0, PyData.canLayAll0]; try decide +kernel, by simp [Ps.d, Ps.word, PyData.depth, PyData.depthAll]⟩
    refine ⟨?_, ?_⟩
    · show (p.d.canLay0 && PyData.canLayAll0 (r.map Ps.d)) = true
      rw [one.1, h1]
      rfl
    · show max p.d.depth (PyData.depthAll (r.map Ps.d)) ≤ 1
      omega
theorem lay_way (r : Ru) (e y : Int) : (wayD r e y).canLay0 = true ∧ (wayD r e y).depth ≤ 1 := by
  cases r <;> exact ⟨by simp [wayD, ruS, PyData.canLay0, PyData.canLayAll0]; try decide +kernel, by simp [wayD, PyData.depth, PyData.depthAll]⟩
theorem sheet_six {S : Sh} {ps qs : List Ps} {x : Int} {a b : Option Int} : Sheet (.tuple [.str "ends", lineD S, planD ps, planD qs, .int x, pairD a b]) := by
  intro _ _
  obtain ⟨p1, p2⟩ := lay_steps ps
  obtain ⟨q1, q2⟩ := lay_steps qs
  obtain ⟨u1, u2⟩ := lay_way (S.rule false) (S.every false) (S.delay false)
  obtain ⟨v1, v2⟩ := lay_way (S.rule true) (S.every true) (S.delay true)
  have e1 : (lineD S).canLay0 = true := by
    show (true && (true && ((wayD _ _ _).canLay0 && ((wayD _ _ _).canLay0 && true)))) = true
    rw [u1, v1]
    rfl
  have e2 : (lineD S).depth ≤ 2 := by
    show max 0 (max 0 (max (wayD _ _ _).depth (max (wayD _ _ _).depth 0))) + 1 ≤ 2
    omega
  have f1 : (pairD a b).canLay0 = true := SeqAt.canLay_of_shaped (pair_shaped a b)
  have f2 : (pairD a b).depth ≤ 1 := by cases a <;> cases b <;> simp [pairD, oD, PyData.depth, PyData.depthAll]
  have s1 : (PyData.str "ends").canLay0 = true := by decide +kernel
  unfold SeqAt.shaped
  rw [Bool.and_eq_true]
  constructor
  · show ((PyData.str "ends").canLay0 && ((lineD S).canLay0 && (PyData.canLayAll0 (ps.map Ps.d) && (PyData.canLayAll0 (qs.map Ps.d) && (true && ((pairD a b).canLay0 && true)))))) = true
    rw [s1, e1, p1, q1, f1]
    rfl
  · refine decide_eq_true ?_
    show max 0 (max (lineD S).depth (max (PyData.depthAll (ps.map Ps.d) + 1) (max (PyData.depthAll (qs.map Ps.d) + 1) (max 0 (max (pairD a b).depth 0))))) + 1 ≤ 64
    omega
theorem bool_show (b : Bool) : ShowOk (.bool b) := by cases b <;> exact ⟨by decide +kernel, by decide +kernel, by decide +kernel, by decide +kernel⟩
end Sm

/-! The law: one number. -/
namespace Sm
open PySem PySem.Spec PyProof.Rows L2
section
variable {P : Program} {w : World} {K : PySem.W.Frag} {mg : Str → Option Value} {base : Heap}
abbrev N_law_right : List Str := ["_law_urn_here", "_law_shape", "_law_plans_here", "_law_amount", "_law_said", "_law_turn", "_law_asked", "_law_sheet"]
theorem sc_law_right : FnScope N_law_right ["_law_urn_here"] (defScope s_law_right) := ⟨rfl, rfl, rfl, by decide +kernel, rfl, by decide +kernel, by decide +kernel⟩
theorem ok_law_right (T : Tx K mg w) (TB : LamX.TabB base mg (ruC K) (ruP K)) : Okg P w K mg base "_law_right" ["_law_urn_here"] 14 (sp1 fun uv H Q => ∃ U Hb, uv = .ref U ∧ Ur U Hb H ∧ LamX.TabS H (ruP K) lamQ ∧
    ∀ Hb' H', Ke Hb Hb' → Ur U Hb' H' → Q (.bl true) H') := by
  have O_law_dip := ok_law_dip (P := P) (w := w) (base := base) T
  have O_law_one := ok_law_one (P := P) (w := w) (base := base) T
  have O_law_told := ok_law_told (P := P) (w := w) (base := base) T
  have O_law_plans := ok_law_plans (P := P) (w := w) (base := base) T
  have O_law_ends := ok_law_ends (P := P) (w := w) (base := base) T
  have O_law_other := ok_law_other (P := P) (w := w) (base := base) T
  have O_law_judge := ok_law_judge (P := P) (w := w) (base := base) T
  have O_holds := ok_holds (P := P) (w := w) (base := base) T TB
  refine mkG T ix_law_right rfl T.g_law_right sc_law_right (fun _ _ _ _ _ _ us hl => match us, hl with | [_], _ => rfl) len1 (fun cdv A outer s0 H0 E vs Q hgd hr h => ?_)
  refine ⟨_, (pss_cons (ps_par (i := 1) (j := 2) (by rfl) sc_law_right.nd rfl rfl (by decide) rfl rfl (pa_cons (pe_f O_law_told (hr.mono (by decide)) (by rfl) (pa_cons (pv 0) pa_nil)) (pa_cons (pe_f O_law_plans (hr.mono (by decide)) (by rfl) (pa_cons (pv 0) (pa_cons (pe_lst (pa_cons pe_int (pa_cons pe_int (pa_cons pe_int (pa_cons pe_int (pa_cons pe_int (pa_cons pe_str pa_nil))))))) pa_nil))) pa_nil)) (by rfl))
    (pss_cons (ps_set (i := 3) sc_law_right.nd rfl (Or.inl rfl) (pe_op op_add pe_int (pe_f O_law_dip (hr.mono (by decide)) (by rfl) (pa_cons (pv 0) (pa_cons pe_int pa_nil)))))
    (pss_cons (ps_set (i := 4) sc_law_right.nd rfl (Or.inl rfl) (pe_tup (pa_cons pe_str (pa_cons (pv 1) (pa_cons (pe_ix (ixT K) (pv 2) pe_int (fun _ _ => rfl)) (pa_cons (pe_ix (ixT K) (pv 2) pe_int (fun _ _ => rfl)) (pa_cons (pv 3) (pa_cons (pe_f O_law_ends (hr.mono (by decide)) (by rfl) (pa_cons (pv 1) (pa_cons (pv 2) (pa_cons (pv 3) pa_nil)))) pa_nil))))))))
    (pss_cons (ps_if (PW.pt (pw_or (pt_cmpR op_notBl (pe_f O_holds (hr.mono (by decide)) (by rfl) (pa_cons (pv 4) (pa_cons (pe_tup pa_nil) pa_nil))) pe_bl (nomark _)) (pw_or1 (pt_cmpR op_notBl (pe_fk O_holds (hr.mono (by decide)) (by rfl) (holdsK T) (pk_cons (pe_tup pa_nil) (pk_cons (pv 4) pk_nil))) pe_bl (nomark _)))))
      (pss_one (ps_ret pe_bl))
      pss_nil)
    (pss_cons (ps_for PassesOwn.never rfl (pi_range1 (by rfl) T.n_range (pa_cons pe_int pa_nil)) (pg_name (i := 5) sc_law_right.nd rfl (Or.inl rfl))
      (pss_cons (ps_par (i := 6) (j := 7) (by rfl) sc_law_right.nd rfl rfl (by decide) rfl rfl (pa_cons (pe_f O_law_other (hr.mono (by decide)) (by rfl) (pa_cons (pv 0) (pa_cons (pv 4) (pa_cons (pv 1) pa_nil)))) (pa_cons (pe_tup pa_nil) pa_nil)) (by rfl))
    (pss_cons (ps_if (pt_cmpR op_eq (pe_f O_law_dip (hr.mono (by decide)) (by rfl) (pa_cons (pv 0) (pa_cons pe_int pa_nil))) pe_int (nomark _))
      (pss_one (ps_set (i := 7) sc_law_right.nd rfl (Or.inl rfl) (pe_f O_law_one (hr.mono (by decide)) (by rfl) (pa_cons (pv 0) (pa_cons (pe_lst (pa_cons pe_non (pa_cons (pe_lst pa_nil) (pa_cons (pe_tup pa_nil) (pa_cons (pe_tup (pa_cons (pe_tup pa_nil) pa_nil)) (pa_cons pe_int (pa_cons pe_str (pa_cons (pv 4) (pa_cons pe_dnewK pa_nil))))))))) pa_nil)))))
      pss_nil)
    (pss_one (ps_if (pt_cmpR op_ne (pe_callB (cr_reprA K hgd hr.units) (by rfl) T.n_repr (by decide +kernel) (pa_cons (pe_f O_holds (hr.mono (by decide)) (by rfl) (pa_cons (pv 6) (pa_cons (pv 7) pa_nil))) pa_nil)) (pe_callB (cr_reprA K hgd hr.units) (by rfl) T.n_repr (by decide +kernel) (pa_cons (pe_g O_law_judge hgd (hr.mono (by decide)) (by rfl) (pa_cons (pv 6) (pa_cons (pv 7) pa_nil))) pa_nil)) (nomark _))
      (pss_one (ps_ret pe_bl))
      pss_nil)))))
    (pss_cons (ps_for PassesOwn.never rfl (piL K (pe_lst (pa_cons (pe_slice (slQ K) (pv 4) (po_some pe_int) po_none) (pa_cons (pe_op (catK K) (pv 4) (pe_tup (pa_cons (pe_tup pa_nil) pa_nil))) (pa_cons (pe_callTy call_list_of (by rfl) T.n_list (by decide +kernel) (pa_cons (pv 4) pa_nil)) (pa_cons (pe_op (catK K) (pe_tup (pa_cons pe_str pa_nil)) (pe_slice (slQ K) (pv 4) (po_some pe_int) po_none)) (pa_cons (pe_op (catK K) (pe_tup (pa_cons pe_non pa_nil)) (pe_slice (slQ K) (pv 4) (po_some pe_int) po_none)) (pa_cons (pe_rev6 K (pv 4)) (pa_cons pe_non (pa_cons (pe_tup pa_nil) pa_nil)))))))))) (pg_name (i := 6) sc_law_right.nd rfl (Or.inl rfl))
      (pss_one (ps_if (pt_cmpR op_notBl (pe_f O_holds (hr.mono (by decide)) (by rfl) (pa_cons (pv 6) (pa_cons (pe_tup pa_nil) pa_nil))) pe_bl (nomark _))
      (pss_one (ps_ret pe_bl))
      pss_nil)))
    (pss_one (ps_ret pe_bl)))))))), ?_⟩
  obtain ⟨_, rfl, U, HbZ, rfl, urZ, tbZ, q⟩ := h
  obtain ⟨Hb, kZ, ur, tb⟩ := urZ.tabs tbZ
  have q := fun Hb' H' (k : Ke Hb Hb') => q Hb' H' (kZ.trans k)
  clear urZ tbZ
  have z6 := z6000
  have s1 : 1 ≤ sizeLine := by omega
  -- the line, the programs
  refine ⟨_, rfl, _, rfl, U, Hb, rfl, ur, fun Hb1 H1 shv S k1 ur1 hsh B => ?_⟩
  refine ⟨_, rfl, by show 6 ≤ sizeLine; decide, fun m nm => ?_⟩
  obtain ⟨Hb2, k2, ur2, hm, _⟩ := ur1.new (o := .lst menuV) nm
  have em : HO.lst [V.int 1, .int 2, .int 3, .int 7, .int 12, .str "x"] = .lst menuV := rfl
  rw [em]
  generalize upd H1 m _ = H2 at ur2 ⊢
  refine ⟨_, _, rfl, U, Hb2, m, rfl, rfl, ur2, hm, fun Hb3 H3 t v1 v2 ps qs k3 ur3 ht h1 h2 l1 l2 o1 o2 => ⟨_, _, rfl, ?_⟩⟩
  -- the size
  refine ⟨_, rfl, _, _, rfl, U, Hb3, 40, rfl, rfl, by decide, by decide, ur3, fun Hb4 H4 y k4 ur4 y0 y1 => ⟨_, _, rfl, rfl, ?_⟩⟩
  have hx : 1 ≤ 1 + y ∧ 1 + y ≤ 60 := by omega
  -- the claim
  have k24 := k3.trans k4
  have htH := SqT.of (K := K) (ur4.k.tup (k4.tup ht))
  have hshH := (hsh.ke (k2.trans k24)).ke ur4.k
  refine ⟨_, rfl, _, rfl, t, _, 0, _, rfl, rfl, htH, atI0, _, rfl, t, _, 1, _, rfl, rfl, htH, atI1, _, rfl, _, rfl, _, rfl, _, rfl, _, _, _, rfl, S, t, v1, v2, ps, qs, 1 + y, hshH, B, rfl, rfl, htH, (h1.ke k4).ke ur4.k, (h2.ke k4).ke ur4.k, l1, l2, o1, o2, hx, fun H5 e k5 he => ?_⟩
  obtain ⟨Hb5, k45, ur5, sq5⟩ := ur4.re2 k5
  have he5 := sq5 K e _ (SqT.of he)
  refine ⟨by show 6 ≤ sizeLine; decide, fun sd nsd => ?_⟩
  have kall : Ke Hb Hb5 := k1.trans (k2.trans (k24.trans k45))
  obtain ⟨Hb6, k6, ur6, hsd, _⟩ := ur5.new nsd
  generalize upd H5 sd _ = H6 at ur6 ⊢
  have six : Six K Hb6 sd (lineD S) (planD ps) (planD qs) (.int (1 + y)) (endsD S ps qs (1 + y)) :=
    ⟨_, _, _, _, _, SqT.of hsd, ((hsh.ke (k2.trans k24)).ke k45).ke k6, ((h1.ke k4).ke k45).ke k6, ((h2.ke k4).ke k45).ke k6, .int _, .tup (k6.sqt he5) (.cons part_val (.cons part_val .nil))⟩
  have hsh6 : Dq K Hb6 shv (lineD S) := ((hsh.ke (k2.trans k24)).ke k45).ke k6
  have k06 := kall.trans k6
  have q := fun Hb' H' (k : Ke Hb6 Hb') => q Hb' H' (k06.trans k)
  have tb6 : LamX.TabS Hb6 (ruP K) lamQ := k06.tab _ _ rfl tb
  have pa := Part.fin (ends_small B o1 o2 hx false)
  have pb := Part.fin (ends_small B o1 o2 hx true)
  have okd : Okd (lineD S) (.int (1 + y)) (endsD S ps qs (1 + y)) := ⟨.inl ⟨S, rfl, B⟩, fun z h => by cases h; omega, .pair pa pb⟩
  have true6 : Shown (.tuple [.str "ends", lineD S, planD ps, planD qs, .int (1 + y), endsD S ps qs (1 + y)]) (.tuple []) :=
    shown_six.mpr ⟨rfl, S, ps, qs, 1 + y, B, l1, l2, o1, o2, hx.1, by omega, rfl, rfl, rfl, rfl, rfl⟩
  clear ur ur1 ur2 ur3 ur4 ur5 k1 k2 k3 k4 k5 k24 k45 k6 kall k06 hm he he5 hsd hsh hshH htH h1 h2 ht tb kZ sq5 nsd nm em
  -- the claim itself, twice
  have pre := pre_six (d2 := planD ps) (d3 := planD qs) okd
  refine ⟨_, rfl, Nat.zero_le _, fun em nem => ?_⟩
  have ke : Ke H6 (upd H6 em (.tup [])) := .new nem
  have hem : (upd H6 em (.tup [])) em = some (.tup []) := upd_same
  generalize upd H6 em _ = H7 at ke hem ⊢
  have k7 := ur6.k.trans ke
  refine ⟨_, _, rfl, _, _, six.dq.ke k7, .tup (SqT.of hem) .nil, pre.1, pre.2, k7.tab _ _ rfl tb6, fun b H8 hb k8 => ?_⟩
  have hb := hb.mpr true6
  subst hb
  have k8 := ke.trans k8
  refine ⟨_, true, rfl, rfl, _, rfl, iteF ?_⟩
  refine ⟨Nat.zero_le _, fun em nem => ?_⟩
  have ke : Ke H8 (upd H8 em (.tup [])) := .new nem
  have hem : (upd H8 em (.tup [])) em = some (.tup []) := upd_same
  generalize upd H8 em _ = H9 at ke hem ⊢
  have k9 := ur6.k.trans (k8.trans ke)
  refine ⟨_, rfl, _, _, rfl, _, _, six.dq.ke k9, .tup (SqT.of hem) .nil, pre.1, pre.2, k9.tab _ _ rfl tb6, fun b H10 hb k10 => ?_⟩
  have hb := hb.mpr true6
  subst hb
  refine ⟨_, true, rfl, rfl, _, rfl, iteF ?_⟩
  obtain ⟨Hb7, kb7, ur7, _⟩ := ur6.re2 (k8.trans (ke.trans k10))
  clear ke k8 k9 k10 k7 hem nem ur6
  -- sixteen times
  refine ⟨16, rfl, by decide, by decide, for_range (lo := 0) (n := 16) (fun i σ H => ∃ Hb' s5 s6 s7, σ = [some (.ref U), some shv, some (.ref t), some (.int (1 + y)), some (.ref sd), s5, s6, s7] ∧ Ke Hb6 Hb' ∧ Ur U Hb' H) ⟨Hb7, _, _, _, rfl, kb7, ur7⟩ (fun i σ H hi p => ?_) (fun σ H p => ?_)⟩
  · obtain ⟨Hb1, s5, s6, s7, rfl, k1, ur1⟩ := p
    refine ⟨_, rfl, _, rfl, _, rfl, _, _, _, rfl, U, Hb1, sd, S, ps, qs, 1 + y, _, _, rfl, rfl, ur1, six.ke k1, hsh6.ke k1, B, l1, hx, pa, pb, fun Hb2 H2 t' d1 d2 d3 d4 d5 k2 ur2 six2 okd2 => ?_⟩
    have k12 := k1.trans k2
    refine ⟨Nat.zero_le _, fun em nem => ?_⟩
    obtain ⟨Hb3, k3, ur3, acc⟩ := ur2.tup (K := K) nem .nil .nil
    generalize upd H2 em _ = H3 at ur3 ⊢
    refine ⟨_, _, rfl, ?_⟩
    refine ⟨_, rfl, _, _, rfl, U, Hb3, 6, rfl, rfl, by decide, by decide, ur3, fun Hb4 H4 r k4 ur4 _ _ => ?_⟩
    have k24 := k3.trans k4
    have six4 := six2.ke k24
    have acc := acc.ke k4
    refine ⟨rfl, _, rfl, ?_⟩
    rw [dec_int']
    apply joinV fun v H' => ∃ Hb' dp, Ke Hb4 Hb' ∧ Ur U Hb' H' ∧ Dq K Hb' v dp ∧ Sheet dp
    · intro tail
      refine ite_dec (fun h1 => ?_) (fun h1 => ?_)
      · refine ⟨_, rfl, Nat.zero_le _, fun l1 n1 => ?_⟩
        obtain ⟨Hb5, k5, ur5, acc, _⟩ := ur4.lst n1 acc .nil
        generalize upd H4 l1 _ = H5 at ur5 ⊢
        refine ⟨Nat.zero_le _, fun t2 n2 => ?_⟩
        obtain ⟨Hb6', k6, ur6, acc⟩ := ur5.tup n2 acc .nil
        generalize upd H5 t2 _ = H6' at ur6 ⊢
        refine ⟨Nat.zero_le _, fun t3 n3 => ?_⟩
        obtain ⟨Hb7', k7, ur7', acc⟩ := ur6.tup n3 acc .nil
        generalize upd H6' t3 _ = H7' at ur7' ⊢
        refine ⟨s1, fun t4 n4 => ?_⟩
        obtain ⟨Hb8, k8, ur8, acc⟩ := ur7'.tup n4 acc (xs := [.ref t3]) (es := [.tuple []]) (acc.drop 3)
        generalize upd H7' t4 _ = H8' at ur8 ⊢
        refine ⟨_, rfl, fun d5' n5 => ?_⟩
        obtain ⟨Hb9, k9, ur9, acc⟩ := ur8.dic n5 acc
        generalize upd H8' d5' _ = H9' at ur9 ⊢
        refine ⟨by show 8 ≤ sizeLine; decide, fun L nL => ?_⟩
        obtain ⟨Hba, ka, ura, hL, _⟩ := ur9.new nL
        generalize upd H9' L _ = Ha at ura ⊢
        refine ⟨_, _, rfl, U, Hba, L, _, rfl, rfl, ura, hL, by simp, by simp, fun Hbb Hc v kb urb hv => ?_⟩
        have kab := ka.trans kb
        have k4b : Ke Hb4 Hbb := k5.trans (k6.trans (k7.trans (k8.trans (k9.trans kab))))
        have k6b : Ke Hb6 Hbb := k12.trans (k24.trans k4b)
        obtain ⟨dp, hdp, shp⟩ : ∃ dp, Dq K Hbb v dp ∧ Sheet dp := by
          match acc.ke kab with
          | .cons b0 (.cons b1 (.cons b2 (.cons b3 (.cons b4 (.cons b5 .nil))))) =>
            simp only [List.mem_cons, List.not_mem_nil, or_false] at hv
            rcases hv with rfl | rfl | rfl | rfl | rfl | rfl | rfl | rfl
            · exact ⟨_, .non, fun ds z => by cases z⟩
            · exact ⟨_, b1, fun ds z => by cases z⟩
            · exact ⟨_, b2, fun ds z => by decide +kernel⟩
            · exact ⟨_, b4, fun ds z => by decide +kernel⟩
            · exact ⟨_, .int 0, fun ds z => by cases z⟩
            · exact ⟨_, .str "", fun ds z => by cases z⟩
            · exact ⟨_, six.dq.ke k6b, sheet_six⟩
            · exact ⟨_, b5, fun ds z => by cases z⟩
        exact tail v Hc ⟨Hbb, dp, k4b, urb, hdp, shp⟩
      · match acc with
        | .cons b0 .nil => exact tail (.ref em) H4 ⟨Hb4, _, .refl _, ur4, b0, fun ds z => by decide +kernel⟩
    · rintro v H5 ⟨Hb5, dp, k5, ur5, hdp, shp⟩
      have k15 : Ke Hb6 Hb5 := k12.trans (k24.trans k5)
      have six5 := six4.ke k5
      have pre2 := pre_six (d2 := d2) (d3 := d3) okd2
      refine ⟨_, rfl, _, rfl, _, _, rfl, _, dp, six5.dq.ke ur5.k, hdp.ke ur5.k, pre2.1, pre2.2, ur5.k.tab _ _ rfl (k15.tab _ _ rfl tb6), fun b H6' hb k6 => ?_⟩
      refine ⟨_, .bool b, rfl, .bl b, .inl (bool_show b), ?_⟩
      have kk := ur5.k.trans k6
      refine ⟨_, rfl, _, rfl, _, _, rfl, t', d1, d2, d3, d4, d5, dp, rfl, six5.ke kk, hdp.ke kk, shp, okd2, fun b2 H7' hb2 k7 => ?_⟩
      have eb : b = b2 := Bool.eq_iff_iff.mpr (hb.trans hb2.symm)
      subst eb
      refine ⟨_, .bool b, rfl, .bl b, .inl (bool_show b), rfl, _, rfl, ?_⟩
      rw [decide_eq_true rfl]
      refine iteF ?_
      obtain ⟨Hb8, k8, ur8, _⟩ := ur5.re2 (k6.trans k7)
      exact ⟨Hb8, _, _, _, rfl, k15.trans k8, ur8⟩
  · obtain ⟨Hb1, s5, s6, s7, rfl, k1, ur1⟩ := p
    clear ur7 kb7
    obtain ⟨v1, v2, v3, v4, v5, hs, a1, a2, a3, a4, a5⟩ := (six.ke k1).ke ur1.k
    obtain ⟨lL, a1⟩ : ∃ l, Dq K H v1 (.tuple l) := ⟨_, a1⟩
    obtain ⟨dp1, a2⟩ : ∃ d, Dq K H v2 d := ⟨_, a2⟩
    obtain ⟨dp2, a3⟩ : ∃ d, Dq K H v3 d := ⟨_, a3⟩
    obtain ⟨dx, a4⟩ : ∃ d, Dq K H v4 d := ⟨_, a4⟩
    obtain ⟨lE, a5⟩ : ∃ l, Dq K H v5 (.tuple l) := ⟨_, a5⟩
    have five : DqAll K H [v1, v2, v3, v4, v5] [.tuple lL, dp1, dp2, dx, .tuple lE] := .cons a1 (.cons a2 (.cons a3 (.cons a4 (.cons a5 .nil))))
    have sixD : DqAll K H [.str "ends", v1, v2, v3, v4, v5] [.str "ends", .tuple lL, dp1, dp2, dx, .tuple lE] := .cons (.str _) five
    have revD : DqAll K H [v5, v4, v3, v2, v1, .str "ends"] [.tuple lE, dx, dp2, dp1, .tuple lL, .str "ends"] := .cons a5 (.cons a4 (.cons a3 (.cons a2 (.cons a1 (.cons (.str _) .nil)))))
    -- eight that are none
    refine ⟨_, rfl, 1, rfl, sd, _, rfl, hs, fun ta Ha ka hta => ?_⟩
    have acc : DqAll K Ha [.ref ta] [.tuple [.tuple lL, dp1, dp2, dx, .tuple lE]] := .cons (.tup hta (five.ke ka)) .nil
    have kR := ka
    refine ⟨_, rfl, Nat.zero_le _, fun e1 n_e1 => ?_⟩
    have k_e1 : Ke Ha (upd Ha e1 (.tup [])) := .new n_e1
    have h_e1 : (upd Ha e1 (.tup [])) e1 = some (.tup []) := upd_same
    generalize upd Ha e1 _ = Hc at k_e1 h_e1 ⊢
    refine ⟨s1, fun e2 n_e2 => ?_⟩
    have k_e2 : Ke Hc (upd Hc e2 (.tup [.ref e1])) := .new n_e2
    have h_e2 : (upd Hc e2 (.tup [.ref e1])) e2 = some (.tup [.ref e1]) := upd_same
    generalize upd Hc e2 _ = Hd at k_e2 h_e2 ⊢
    have kR := kR.trans (k_e1.trans k_e2)
    have acc := acc.ke (k_e1.trans k_e2)
    have de1 : Dq K Hd (.ref e1) (.tuple []) := .tup (k_e2.sqt (SqT.of h_e1)) .nil
    refine ⟨sd, e2, _, _, rfl, rfl, kR.sqt hs, SqT.of h_e2, by show 6 + 1 ≤ sizeLine; decide, fun tb Hf kf htb => ?_⟩
    have kR := kR.trans kf
    have acc := (acc.ke kf).snoc (.tup htb ((sixD.ke kR).snoc (de1.ke kf)))
    refine ⟨_, rfl, sd, _, rfl, .inr (kR.sqt hs), fun lc n_lc => ?_⟩
    have k_lc : Ke Hf (upd Hf lc (.lst [.str "ends", v1, v2, v3, v4, v5])) := .new n_lc
    have h_lc : (upd Hf lc (.lst [.str "ends", v1, v2, v3, v4, v5])) lc = some (.lst [.str "ends", v1, v2, v3, v4, v5]) := upd_same
    generalize upd Hf lc _ = Hg at k_lc h_lc ⊢
    have kR := kR.trans k_lc
    have acc := (acc.ke k_lc).snoc (.lst h_lc (sixD.ke kR))
    refine ⟨s1, fun e3 n_e3 => ?_⟩
    have k_e3 : Ke Hg (upd Hg e3 (.tup [.str "end"])) := .new n_e3
    have h_e3 : (upd Hg e3 (.tup [.str "end"])) e3 = some (.tup [.str "end"]) := upd_same
    generalize upd Hg e3 _ = Hh at k_e3 h_e3 ⊢
    have kR := kR.trans k_e3
    refine ⟨_, rfl, 1, rfl, sd, _, rfl, kR.sqt hs, fun td Hi ki htd => ?_⟩
    have kR := kR.trans ki
    have acc := acc.ke (k_e3.trans ki)
    refine ⟨e3, td, _, _, rfl, rfl, ki.sqt (SqT.of h_e3), htd, by show 1 + 5 ≤ sizeLine; decide, fun te Hj kj hte => ?_⟩
    have kR := kR.trans kj
    have acc := (acc.ke kj).snoc (.tup hte (.cons (.str "end") (five.ke kR)))
    refine ⟨s1, fun e4 n_e4 => ?_⟩
    have k_e4 : Ke Hj (upd Hj e4 (.tup [.non])) := .new n_e4
    have h_e4 : (upd Hj e4 (.tup [.non])) e4 = some (.tup [.non]) := upd_same
    generalize upd Hj e4 _ = Hk at k_e4 h_e4 ⊢
    have kR := kR.trans k_e4
    refine ⟨_, rfl, 1, rfl, sd, _, rfl, kR.sqt hs, fun tf Hl kl htf => ?_⟩
    have kR := kR.trans kl
    have acc := acc.ke (k_e4.trans kl)
    refine ⟨e4, tf, _, _, rfl, rfl, kl.sqt (SqT.of h_e4), htf, by show 1 + 5 ≤ sizeLine; decide, fun tg Hm km htg => ?_⟩
    have kR := kR.trans km
    have acc := (acc.ke km).snoc (.tup htg (.cons .non (five.ke kR)))
    refine ⟨_, rfl, sd, _, _, _, _, _, _, rfl, kR.sqt hs, fun th Hn kn hth => ?_⟩
    have kR := kR.trans kn
    have acc := (acc.ke kn).snoc (.tup hth (revD.ke kR))
    refine ⟨Nat.zero_le _, fun e5 n_e5 => ?_⟩
    have k_e5 : Ke Hn (upd Hn e5 (.tup [])) := .new n_e5
    have h_e5 : (upd Hn e5 (.tup [])) e5 = some (.tup []) := upd_same
    generalize upd Hn e5 _ = Ho at k_e5 h_e5 ⊢
    have kR := kR.trans k_e5
    have acc := (acc.ke k_e5).snoc (.tup (SqT.of h_e5) .nil)
    refine ⟨by show 8 ≤ sizeLine; decide, fun L n_L => ?_⟩
    have k_L : Ke Ho (upd Ho L (.lst [.ref ta, .ref tb, .ref lc, .ref te, .ref tg, .ref th, .non, .ref e5])) := .new n_L
    have h_L : (upd Ho L (.lst [.ref ta, .ref tb, .ref lc, .ref te, .ref tg, .ref th, .non, .ref e5])) L = some (.lst [.ref ta, .ref tb, .ref lc, .ref te, .ref tg, .ref th, .non, .ref e5]) := upd_same
    generalize upd Ho L _ = Hp at k_L h_L ⊢
    have kR := kR.trans k_L
    have acc := acc.ke k_L
    have negs : ∀ v ∈ [V.ref ta, .ref tb, .ref lc, .ref te, .ref tg, .ref th, .non, .ref e5], ∃ d, Dq K Hp v d ∧ Neg d := by
      intro v hv
      have acc : DqAll K Hp [.ref ta, .ref tb, .ref lc, .ref te, .ref tg, .ref th, .ref e5] [.tuple [.tuple lL, dp1, dp2, dx, .tuple lE], .tuple [.str "ends", .tuple lL, dp1, dp2, dx, .tuple lE, .tuple []], .list [.str "ends", .tuple lL, dp1, dp2, dx, .tuple lE], .tuple [.str "end", .tuple lL, dp1, dp2, dx, .tuple lE], .tuple [.none, .tuple lL, dp1, dp2, dx, .tuple lE], .tuple [.tuple lE, dx, dp2, dp1, .tuple lL, .str "ends"], .tuple []] := acc
      match acc with
      | .cons b1 (.cons b2 (.cons b3 (.cons b4 (.cons b5 (.cons b6 (.cons b7 .nil)))))) =>
        simp only [List.mem_cons, List.not_mem_nil, or_false] at hv
        rcases hv with rfl | rfl | rfl | rfl | rfl | rfl | rfl | rfl
        · exact ⟨_, b1, neg5⟩
        · exact ⟨_, b2, neg7⟩
        · exact ⟨_, b3, negL⟩
        · exact ⟨_, b4, negE⟩
        · exact ⟨_, b5, negN⟩
        · exact ⟨_, b6, neg6⟩
        · exact ⟨_, .non, neg0⟩
        · exact ⟨_, b7, negT⟩
    have tbp : LamX.TabS Hp (ruP K) lamQ := (ur1.k.trans kR).tab _ _ rfl (k1.tab _ _ rfl tb6)
    refine ⟨L, rfl, ⟨_, SqL.of h_L⟩, for_list (K := K) (xs := [V.ref ta, .ref tb, .ref lc, .ref te, .ref tg, .ref th, .non, .ref e5]) (fun i σ G => ∃ s6, σ = [some (.ref U), some shv, some (.ref t), some (.int (1 + y)), some (.ref sd), s5, s6, s7] ∧ Ke Hp G) ⟨s6, rfl, .refl _⟩ (fun i σ G _ p => ?_) (fun i v σ G hi p => ?_) (fun σ G p => ?_)⟩
    · obtain ⟨s6, rfl, kG⟩ := p
      exact SqL.of (kG.lst h_L)
    · obtain ⟨s6, rfl, kG⟩ := p
      obtain ⟨d, hd, ng⟩ := negs v (List.mem_of_getElem? hi)
      refine ⟨_, rfl, Nat.zero_le _, fun em nem => ?_⟩
      have ke : Ke G (upd G em (.tup [])) := .new nem
      have hem : (upd G em (.tup [])) em = some (.tup []) := upd_same
      generalize upd G em _ = G2 at ke hem ⊢
      have kG2 := kG.trans ke
      refine ⟨_, _, rfl, d, _, hd.ke kG2, .tup (SqT.of hem) .nil, ng.1.1, ng.1.2, kG2.tab _ _ rfl tbp, fun b G3 hb k3 => ?_⟩
      have eb : b = false := by
        cases b with
        | false => rfl
        | true => exact absurd (hb.mp rfl) (ng.2 _)
      subst eb
      exact ⟨_, false, rfl, rfl, _, rfl, iteF ⟨_, rfl, kG2.trans k3⟩⟩
    · obtain ⟨s6, rfl, kG⟩ := p
      obtain ⟨Hbz, kz, urz, _⟩ := ur1.re2 (kR.trans kG)
      exact q Hbz G (k1.trans kz) urz
end
end Sm

/-! The law: the whole. -/
namespace Sm
open PySem PySem.Spec PyProof.Rows L2
section
variable {P : Program} {w : World} {K : PySem.W.Frag} {mg : Str → Option Value} {base : Heap}
theorem mkGd {x : Str} {st : Stmt} {N ps : List Str} {k : Nat} {sp : Sp} {fd : FuncData} (F : FunD K x x (defArgs st) (defBody st) (defScope st) [] [] (He.ga K x) fd) (S : FnScope N ps (defScope st)) (len : ∀ vs H Q E, sp vs H Q E → vs.length = ps.length)
    (body : ∀ (cdv : Value) (A : Around) (outer : List Env) (s : Shared) (H : Hp) (E : XK) (vs : List V) (Q : VK), A.guards = some [] → Room k (A.deeper (envOfC x (defScope st) s.heap.objs.size (He.ga K x) cdv)) → sp vs H Q E →
      ∃ t, PSs (cxF P w K mg base N x st (He.ga K x) cdv A outer s H E) (defBody st) t ∧ t (fin Q) (start N vs) H) : FnG P w K mg base (k + 1) (He.ga K x) fd ps sp :=
  fnG_of F S len fun cdv A outer s H vs Q E hgd hr h => by
    obtain ⟨t, h1, h2⟩ := body cdv A outer s H E vs Q hgd hr h
    exact ⟨t, h1.nox, h2⟩
abbrev N_law : List Str := ["_law_script", "_law_k"]
theorem sc_law : FnScope N_law ["_law_script"] (defScope s_law) := ⟨rfl, rfl, rfl, by decide +kernel, rfl, by decide +kernel, by decide +kernel⟩
def spLaw (K : PySem.W.Frag) : Sp := sp1 fun av H Q => ∃ a, ∃ ns : List Int, av = .ref a ∧ SqL K H a (ns.map V.int) ∧ ns.length ≤ 63 ∧ LamX.TabS H (ruP K) lamQ ∧ ∀ H', Q (.bl true) H'
theorem ok_law (T : Tx K mg w) (TB : LamX.TabB base mg (ruC K) (ruP K)) {fd : FuncData} (F : FunD K "law" "law" (defArgs s_law) (defBody s_law) (defScope s_law) [] [] (He.ga K "law") fd) : FnG P w K mg base 16 (He.ga K "law") fd ["_law_script"] (spLaw K) := by
  have O_law_urn := ok_law_urn (P := P) (w := w) (base := base) T
  have O_law_right := ok_law_right (P := P) (w := w) (base := base) T TB
  refine mkGd F sc_law len1 (fun cdv A outer s0 H0 E vs Q hgd hr h => ?_)
  refine ⟨_, (pss_one (ps_ret (pe_callB (allK K rfl) (by rfl) T.n_all (by decide +kernel) (pa_cons (pe_lc (own := [(("_law_k" : Str), 1)]) (by rfl) sc_law.nd (pi_range1 (by rfl) T.n_range (pa_cons (pe_callB (call_max2 rfl) (by rfl) T.n_max (by decide +kernel) (pa_cons pe_int (pa_cons (pe_callB (call_min2 rfl) (by rfl) T.n_min (by decide +kernel) (pa_cons (pe_callB (lenK K) (by rfl) T.n_len (by decide +kernel) (pa_cons (pv 0) pa_nil)) (pa_cons pe_int pa_nil))) pa_nil))) pa_nil)) (blkOk_by (own := [(("_law_k" : Str), 1)]) (N := N_law) (sc := defScope s_law) (by decide +kernel)) (fun _ _ _ _ _ => pg_name (i := 1) sc_law.nd rfl (Or.inl rfl)) (fun _ _ _ _ _ => pts_nil) (fun _ _ _ _ _ => (pe_g O_law_right hgd (hr.mono (by decide)) (by rfl) (pa_cons (pe_f O_law_urn (hr.mono (by decide)) (by rfl) (pa_cons (pv 0) (pa_cons (pv 1) pa_nil))) pa_nil)))) pa_nil)))), ?_⟩
  obtain ⟨_, rfl, a, ns, rfl, hs, hl, tb, q⟩ := h
  refine ⟨_, rfl, a, _, rfl, .inl hs, _, _, rfl, _, _, rfl, _, rfl, ?_⟩
  have bnd : ∀ z : Int, 0 ≤ (if (if (3 : Int) < z then 3 else z) > 2 then (if (3 : Int) < z then 3 else z) else 2) ∧ (if (if (3 : Int) < z then 3 else z) > 2 then (if (3 : Int) < z then 3 else z) else 2) ≤ 3 := fun z => by
    split <;> (try split) <;> omega
  have b := bnd ((ns.map V.int).length : Int)
  generalize (if (if (3 : Int) < ((ns.map V.int).length : Int) then 3 else ((ns.map V.int).length : Int)) > 2 then (if (3 : Int) < ((ns.map V.int).length : Int) then 3 else ((ns.map V.int).length : Int)) else 2) = cnt at b ⊢
  refine ⟨by omega, by omega, fun D hD => ?_⟩
  refine lc_range (lo := 0) (n := cnt.toNat) (fun j G => Ke H0 G ∧ G D = some (.lst ((List.replicate j true).map V.bl))) ⟨.new hD, upd_same⟩ (fun j G hj p => ?_) (fun G p => ?_)
  · obtain ⟨kG, hE⟩ := p
    have z6 := z6000
    refine ⟨rfl, _, rfl, _, rfl, _, _, rfl, a, ns, _, rfl, rfl, by omega, by omega, kG.sql hs, hl, fun H1 U g m n nU k1 hU => ?_⟩
    obtain ⟨Hb, kb, ur, _⟩ := Ur.make k1 nU ⟨g, m, n, hU⟩
    have k01 := kG.trans k1
    refine ⟨_, rfl, U, Hb, rfl, ur, k01.tab _ _ rfl tb, fun Hb' H2 kb' ur' => ?_⟩
    have kk : Ke G H2 := kb.trans (kb'.trans ur'.k)
    have hE2 := kk.lst hE
    refine ⟨_, hE2, by rw [List.length_map, List.length_replicate]; omega, (kG.trans kk).mut hD (noCode_lst hE2), ?_⟩
    rw [List.replicate_succ', List.map_append]
    exact upd_same
  · obtain ⟨kG, hE⟩ := p
    refine ⟨D, List.replicate cnt.toNat true, rfl, SqL.of hE, ?_⟩
    have e : (List.replicate cnt.toNat true).all id = true := by simp
    rw [e]
    exact q _
end
end Sm

/-! The end for a law whose promise knows that no repr goes on, with one table of code objects. -/
namespace Sm
open PySem PySem.Spec PyProof.Rows L2 LamX
abbrev scriptO (us : List Value) : Obj := { cls := .type "list", data := .seq us.toArray }
abbrev tabO : Obj := { cls := .none, data := .fields #[] }
/-- what is looked at when the law begins: the table, the script -/
structure Seen (T a : Addr) (us : List Value) (xs : List V) (H : Hp) : Prop where
  tab : H T = some (.tbl #[])
  all : ∀ b u, H b = some u → (b = T ∧ u = .tbl #[]) ∨ (b = a ∧ u = .frz (scriptO us) (.lst xs))
/-- the objects of the head that are told by their data -/
def Other (o : Obj) : Prop := (∀ ys n, o.data ≠ .seq ys n) ∧ o.data ≠ .fields #[]
section
variable {P : Program} {w : World} {K : PySem.W.Frag} {mg mb : Str → Option Value} {k : Nat} {fa a T c : Addr} {fd : FuncData} {x : Str} {sp : Sp} {s1 : Shared} {us : List Value} {xs : List V} {H : Hp}
theorem Seen.none (S : Seen T a us xs H) (ha : s1.heap.get? a = some (scriptO us)) (hT : s1.heap.get? T = some tabO) {b : Addr} {o : Obj} (e : s1.heap.get? b = some o) (d : Other o) : H b = none := by
  cases q : H b with
  | none => rfl
  | some u =>
    exfalso
    rcases S.all b u q with ⟨rfl, _⟩ | ⟨rfl, _⟩
    · rw [hT] at e
      cases e
      exact d.2 rfl
    · rw [ha] at e
      cases e
      exact d.1 _ _ rfl
theorem Seen.keep (S : Seen T a us xs H) (ha : s1.heap.get? a = some (scriptO us)) (hT : s1.heap.get? T = some tabO) {b : Addr} {o : Obj} (e : s1.heap.get? b = some o) (d : Other o) : (hidT s1.heap H).get? b = some o :=
  hidT_get e (S.none ha hT e d)
theorem other_dict {o : Obj} {es : Array DictEntry} {n : Nat} (e : o.data = .dict es n) : Other o := ⟨(fun _ _ z => by rw [e] at z; cases z), (fun z => by rw [e] at z; cases z)⟩
theorem other_plain {o : Obj} (e : o.data = .plain) : Other o := ⟨(fun _ _ z => by rw [e] at z; cases z), (fun z => by rw [e] at z; cases z)⟩
theorem other_code {o : Obj} {vs : Array Value} {v : Value} (e : o.data = .fields vs) (h : vs[11]? = some v) : Other o := by
  refine ⟨(fun _ _ z => by rw [e] at z; cases z), fun z => ?_⟩
  rw [e] at z
  cases z
  simp at h
theorem Seen.ns (S : Seen T a us xs H) (ha : s1.heap.get? a = some (scriptO us)) (hT : s1.heap.get? T = some tabO) {b : Addr} {m : Str → Option Value} (h : s1.heap.Ns b m) : (hidT s1.heap H).Ns b m := by
  obtain ⟨o, es, n, e, d, r⟩ := h
  exact ⟨o, es, n, S.keep ha hT e (other_dict d), d, r⟩
theorem Seen.code (S : Seen T a us xs H) (ha : s1.heap.get? a = some (scriptO us)) (hT : s1.heap.get? T = some tabO) (h : PySem.W.CodeHd s1.heap c T) : PySem.W.CodeHd (hidT s1.heap H) c T := by
  obtain ⟨o, vs, file, tf, fl, tg, inF, te, tt, e, h1, h2, h3, r⟩ := h
  exact ⟨o, vs, file, tf, fl, tg, inF, te, tt, S.keep ha hT e (other_code h2 h3), h1, h2, h3, r⟩
/-- the call -/
theorem Seen.go (S : Seen T a us xs H) (ha : s1.heap.get? a = some (scriptO us)) (hT : s1.heap.get? T = some tabO) (hK : ∀ b, H b ≠ .none → K.lookup b = .none)
    (KX : K.In s1.heap) (hns : s1.heap.Ns mainGlobals mg) (hb : s1.heap.Ns builtinsNs mb) (hbb : ∀ x : Str, x ≠ "__name__" → mb x = bootBuiltins x) (hl : s1.heap.NoLimit) (hg : s1.gens = #[]) (hC : PySem.W.CodeHd s1.heap c T)
    (hbm : ∃ (bm : Addr) (ob : Obj), mg "__builtins__" = some (.ref bm) ∧ bm ≠ builtinsNs ∧ s1.heap.get? bm = some ob ∧ ob.cls = .type "module" ∧ ob.dict = some builtinsNs ∧ ob.data = .plain)
    (hok : HOk P w H s1.heap) (hr : Room k callerA) (F : ∀ base : Heap, K.In base → base.Ns mainGlobals mg → TabB base mg c T → FnG P w K mg base k fa fd [x] sp)
    (hbd : ∀ (s : Shared) (u : Value), BindsTo s fd ⟨[u], []⟩ [(x, u)]) (hsp : sp [.ref a] H (fun v _ => v = .bl true) E0) :
    codeAny (model P w) callerA (.call (.ref fa) ⟨[.ref a], []⟩) (fun r s' => r = .ok (.ret (.bool true)) ∧ OldK s1.heap s'.heap ∧ s'.os = s1.os ∧ AllBare s'.gens) s1 := by
  have inB : K.In (hidT s1.heap H) := fun b o e => hidT_get (KX b o e) (by
    cases q : H b with
    | none => rfl
    | some u =>
      have z := hK b (by rw [q]; simp)
      rw [e] at z
      cases z)
  have nsB := S.ns ha hT hns
  have modB : L2.Mod K mg (hidT s1.heap H) := by
    refine ⟨inB, nsB, ⟨mb, S.ns ha hT hb, hbb⟩, ?_⟩
    obtain ⟨mc, h1, h2⟩ := hl
    exact ⟨mc, S.ns ha hT h1, h2⟩
  have tabB : TabB (hidT s1.heap H) mg c T := by
    refine ⟨S.code ha hT hC, ?_, fun z => ?_⟩
    · obtain ⟨bm, ob, b1, b2, b3, b4, b5, b6⟩ := hbm
      have o6 := other_plain b6
      refine ⟨bm, ob, b1, b2, fun q => ?_, fun q => ?_, S.keep ha hT b3 o6, b4, b5, b6⟩
      · obtain ⟨o, es, n, e, d, _⟩ := hns
        rw [q, e] at b3
        cases b3
        rw [d] at b6
        cases b6
      · rw [q, hT] at b3
        cases b3
        cases b6
    · obtain ⟨o, es, n, e, d, _⟩ := hns
      rw [z, hT] at e
      cases e
      cases d
  have env : Env0 P w K mg (hidT s1.heap H) callerA [] s1 H :=
    ⟨rfl, modB, fun _ _ e => of_hidT e, Nat.le_of_eq (hidT_size _ _), trivial, fun _ h => absurd h List.not_mem_nil, hok, .of_eq hg⟩
  refine codeAny_mono ((F _ inB nsB tabB).run callerA [] s1 H ⟨[.ref a], []⟩ [.ref a] [.ref a] _ _ rfl hr env (hbd s1 (.ref a)) (.cons rfl .nil) hsp) fun r s' h => ?_
  cases r with
  | error e => exact absurd h (fun z => by cases z)
  | ok fl =>
    cases fl with
    | next => exact absurd h (fun z => by cases z)
    | brk => exact absurd h (fun z => by cases z)
    | cont => exact absurd h (fun z => by cases z)
    | ret u =>
      obtain ⟨v, H', os, bare, un, hok', rv, e⟩ := h
      have e : v = .bl true := e
      subst e
      cases rv
      obtain ⟨more, hm⟩ := un.tbls T #[] S.tab
      have hm : s'.heap.get? T = some { cls := .none, data := .fields (#[] ++ more) } := hok' T _ hm
      have same : ∀ b o, b ≠ T → s1.heap.get? b = some o → s'.heap.get? b = some o := fun b o n e => by
        cases q : H b with
        | none => exact un.keep b o e q List.not_mem_nil List.not_mem_nil
        | some u =>
          rcases S.all b u q with ⟨z, _⟩ | ⟨rfl, rfl⟩
          · exact absurd z n
          · have o2 := (hok' _ _ (un.frzs _ _ _ q)).1
            rw [ha] at e
            cases e
            exact o2
      refine ⟨rfl, ⟨fun b o e => ?_, fun b o e => ?_⟩, os, bare⟩
      · by_cases z : b = T
        · subst z
          rw [hT] at e
          cases e
          exact .inr (.inl ⟨(hC.tab hT).isCodeTable, rfl, #[], more, rfl, hm⟩)
        · exact .inl (same b o z e)
      · by_cases z : b = T
        · subst z
          exact ⟨_, hm⟩
        · exact ⟨o, same b o z e⟩
theorem callG {ns : List Int} (ha : s1.heap.get? a = some (scriptO us)) (hT : s1.heap.get? T = some tabO) (nT : K.lookup T = .none)
    (KX : K.In s1.heap) (hns : s1.heap.Ns mainGlobals mg) (hb : s1.heap.Ns builtinsNs mb) (hbb : ∀ x : Str, x ≠ "__name__" → mb x = bootBuiltins x) (hl : s1.heap.NoLimit) (hg : s1.gens = #[]) (hC : PySem.W.CodeHd s1.heap c T)
    (hbm : ∃ (bm : Addr) (ob : Obj), mg "__builtins__" = some (.ref bm) ∧ bm ≠ builtinsNs ∧ s1.heap.get? bm = some ob ∧ ob.cls = .type "module" ∧ ob.dict = some builtinsNs ∧ ob.data = .plain)
    (hi : IntsAre us ns) (hz : ns.length ≤ sizeLine) (hr : Room k callerA) (F : ∀ base : Heap, K.In base → base.Ns mainGlobals mg → TabB base mg c T → FnG P w K mg base k fa fd [x] sp)
    (hbd : ∀ (s : Shared) (u : Value), BindsTo s fd ⟨[u], []⟩ [(x, u)]) (hsp : ∀ H : Hp, H T = some (.tbl #[]) → SqL K H a (ns.map V.int) → sp [.ref a] H (fun v _ => v = .bl true) E0) :
    codeAny (model P w) callerA (.call (.ref fa) ⟨[.ref a], []⟩) (fun r s' => r = .ok (.ret (.bool true)) ∧ OldK s1.heap s'.heap ∧ s'.os = s1.os ∧ AllBare s'.gens) s1 := by
  have rv := vals_ints hi
  have ne : T ≠ a := fun z => by
    rw [z, ha] at hT
    cases hT
  cases hk : K.lookup a with
  | some o =>
    have e := KX a o hk
    rw [ha] at e
    cases e
    let H : Hp := fun b => if b = T then some (.tbl #[]) else .none
    have hH : H T = some (.tbl #[]) := if_pos rfl
    have at_ : ∀ b u, H b = some u → b = T ∧ u = .tbl #[] := fun b u q => by
      by_cases z : b = T
      · have q : (if b = T then some (HO.tbl #[]) else .none) = some u := q
        rw [if_pos z] at q
        cases q
        exact ⟨z, rfl⟩
      · have q : (if b = T then some (HO.tbl #[]) else .none) = some u := q
        rw [if_neg z] at q
        cases q
    have S : Seen T a us (ns.map V.int) H := ⟨hH, fun b u q => .inl (at_ b u q)⟩
    refine S.go ha hT (fun b q => ?_) KX hns hb hbb hl hg hC hbm (fun b u q => ?_) hr F hbd (hsp H hH (.inr ⟨_, us.toArray, _, hk, rfl, rfl, rfl, by rw [List.size_toArray, hi.length]; exact hz, rv⟩))
    · cases r : H b with
      | none => exact absurd r q
      | some u => rw [(at_ b u r).1]; exact nT
    · obtain ⟨z1, z2⟩ := at_ b u q
      rw [z1, z2]
      exact hT
  | none =>
    let H : Hp := fun b => if b = T then some (.tbl #[]) else if b = a then some (.frz (scriptO us) (.lst (ns.map V.int))) else .none
    have hH : H T = some (.tbl #[]) := if_pos rfl
    have hA : H a = some (.frz (scriptO us) (.lst (ns.map V.int))) := (if_neg ne.symm).trans (if_pos rfl)
    have at_ : ∀ b u, H b = some u → (b = T ∧ u = .tbl #[]) ∨ (b = a ∧ u = .frz (scriptO us) (.lst (ns.map V.int))) := fun b u q => by
      have q : (if b = T then some (HO.tbl #[]) else if b = a then some (HO.frz (scriptO us) (.lst (ns.map V.int))) else .none) = some u := q
      by_cases z : b = T
      · rw [if_pos z] at q
        cases q
        exact .inl ⟨z, rfl⟩
      · rw [if_neg z] at q
        by_cases y : b = a
        · rw [if_pos y] at q
          cases q
          exact .inr ⟨y, rfl⟩
        · rw [if_neg y] at q
          cases q
    have S : Seen T a us (ns.map V.int) H := ⟨hH, at_⟩
    refine S.go ha hT (fun b q => ?_) KX hns hb hbb hl hg hC hbm (fun b u q => ?_) hr F hbd (hsp H hH (.inl (.inr ⟨_, hA⟩)))
    · cases r : H b with
      | none => exact absurd r q
      | some u =>
        rcases at_ b u r with ⟨z, _⟩ | ⟨z, _⟩
        · rw [z]; exact nT
        · rw [z]; exact hk
    · rcases at_ b u q with ⟨z1, z2⟩ | ⟨z1, z2⟩
      · rw [z1, z2]
        exact hT
      · rw [z1, z2]
        exact ⟨ha, by rw [List.length_map]; exact hz, us, _, rv, ha⟩
end
end Sm

/-! The end. -/
namespace Sm
open PySem PySem.Spec PyProof.Rows L2 LamX
theorem walkG {l : PySem.W.OpenLaw} {n k : Nat} {q : Program} {loose : List Str} {XP : (Str → Option Value) → Heap → Prop} {YP : World → Heap → Prop} {d : DefRec} {x : Str} (hn : l.most = some n) (hz : n ≤ sizeLine) (hdf : d.params.defaults = []) (hr : Room k callerA)
    (F : ∀ (w : World) (mg : Str → Option Value) (fa : Addr) (h : Heap), YP w h → h.Ns mainGlobals mg → mg d.name = some (.ref fa) → ∃ (K : PySem.W.Frag) (fd : FuncData) (c T : Addr) (sp : Sp), K.In h ∧ h.get? T = some tabO ∧ K.lookup T = none ∧ PySem.W.CodeHd h c T ∧
      (∀ (s : Shared) (u : Value), BindsTo s fd ⟨[u], []⟩ [(x, u)]) ∧ (∀ (H : Hp) (a : Addr) (ns : List Int), ns.length ≤ n → H T = some (.tbl #[]) → SqL K H a (ns.map V.int) → sp [.ref a] H (fun v _ => v = .bl true) E0) ∧
      ∀ base : Heap, K.In base → base.Ns mainGlobals mg → TabB base mg c T → FnG l.prog w K mg base k fa fd [x] sp) :
    PySem.W.WalkO q loose XP YP l.row.toRowW d [] (fun f vs => PySem.call f vs) := by
  refine Att.attach_callB hn hdf fun w s0 s1 mg mb fa o pm cd doc a vs ns G Y _ _ _ hmg ho hi hl _ hg => ?_
  obtain ⟨K, fd, c, T, sp, KX, hT, nT, C, hb, hsp, hF⟩ := F w mg fa _ Y G.T.g hmg
  exact callG ho hT nT KX G.T.g G.T.b G.T.builtins G.T.nolimit hg C G.T.bmain hi (Nat.le_trans hl hz) hr hF hb fun H hH hS => hsp H a ns hl hH hS
theorem at_law (w : World) (mg : Str → Option Value) (fa : Addr) (h : Heap) (Y : hkM.says w h) (G : h.Ns mainGlobals mg) (hf : mg "law" = some (.ref fa)) : ∃ (K : PySem.W.Frag) (fd : FuncData) (c T : Addr) (sp : Sp), K.In h ∧ h.get? T = some tabO ∧ K.lookup T = none ∧ PySem.W.CodeHd h c T ∧
      (∀ (s : Shared) (u : Value), BindsTo s fd ⟨[u], []⟩ [("_law_script", u)]) ∧ (∀ (H : Hp) (a : Addr) (ns : List Int), ns.length ≤ 63 → H T = some (.tbl #[]) → SqL K H a (ns.map V.int) → sp [.ref a] H (fun v _ => v = .bl true) E0) ∧
      ∀ base : Heap, K.In base → base.Ns mainGlobals mg → TabB base mg c T → FnG (PySem.Challenge.rw_smallheld_k50_whole_claims_of_ends).prog w K mg base 16 fa fd ["_law_script"] sp := by
  obtain ⟨K, KX, c⟩ := Y
  have T : Tx K mg w := ⟨c.t, c.more, h, KX, G⟩
  have ea : He.ga K "law" = fa := by
    have e := T.g_law.symm.trans hf
    cases e
    rfl
  obtain ⟨fd, F⟩ := T.def_ ix_law rfl
  have F : FunD K "law" "law" (defArgs s_law) (defBody s_law) (defScope s_law) [] [] (He.ga K "law") fd := F
  have bnd := F.bindsA (ps := ["_law_script"]) fun _ _ _ _ _ _ us hl => match us, hl with | [_], _ => rfl
  subst ea
  refine ⟨K, fd, ruC K, ruP K, spLaw K, KX, c.empty _ List.mem_cons_self, c.out _ List.mem_cons_self, PySem.W.codeHd_of_K KX (c.hd _ List.mem_cons_self), fun s u => bnd s [u] rfl, fun H a ns hl hH hS => ⟨_, rfl, a, ns, rfl, hS, hl, TabS.nil hH, fun _ => rfl⟩, fun base _ _ TB => ok_law T TB F⟩
end Sm
theorem PySem.Challenge.cw_smallheld_k50_whole_claims_of_ends_holds : PySem.Challenge.rw_smallheld_k50_whole_claims_of_ends.Holds := by
  refine Sm.of_walk (Sm.walkG (l := PySem.Challenge.rw_smallheld_k50_whole_claims_of_ends) (n := 63) (k := 16) (x := "_law_script") rfl (by decide) Sm.no_dflt ⟨rfl, by decide, by decide⟩ fun w mg fa h Y G hm => ?_)
  rw [Sm.law_name] at hm
  exact Sm.at_law w mg fa h Y G hm

