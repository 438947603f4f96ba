import PyProof.Rows.All
import Wide.All
import OpenK.AllK
import Wide.FinOn
import KE.KStateDown
import Lean
import HandS.ForMost
import HandS.Defaults
import HandS.Head0
import HandS.Head1
import HandS.Head2
import HandS.HeadEnd
import HandS.HeadHook1
import HandS.HeadHook2
import HandS.Deep
import HandS.IsInst
import HandS.Star
import HandS.TupAny
import HandS.TupMul
import HandS.Conv
import HandS.Style
import HandS.Small
import HandS.SortOrd
import HandS.TupSets
import HandS.NoneIn
import HandS.Codes
import PySem.Challenge.RW_helpedcalls_k06_whole_other_ways
set_option Elab.async false
set_option linter.all false
set_option maxRecDepth 100000
set_option maxHeartbeats 4000000
namespace H6
open PySem PySem.Spec PyProof.Rows L2
def top (i : Nat) : Stmt := PySem.Challenge.pw_helpedcalls_k06_whole_other_ways.main.body.getD i (.Pass ⟨0, 0, 0, 0⟩)
abbrev s_is_small : Stmt := top 10
abbrev s_is_table : Stmt := top 11
abbrev s_is_bank : Stmt := top 12
abbrev s_is_kind : Stmt := top 13
abbrev s_first_in : Stmt := top 14
abbrev s_calls_in : Stmt := top 15
abbrev s_bank_calls : Stmt := top 16
abbrev s_applied_in : Stmt := top 17
abbrev s_on_stack : Stmt := top 18
abbrev s_on_queue : Stmt := top 19
abbrev s_on_set : Stmt := top 20
abbrev s_on_bank : Stmt := top 21
abbrev s_need_object : Stmt := top 31
abbrev s_is_plain_tuple : Stmt := top 32
abbrev s_is_call_of : Stmt := top 33
abbrev s_need_call : Stmt := top 34
abbrev s_are_plans : Stmt := top 43
abbrev s_need_plans : Stmt := top 44
abbrev s_need_weaving : Stmt := top 45
abbrev s_made : Stmt := top 47
abbrev s_line_of : Stmt := top 48
abbrev s_history_of : Stmt := top 49
abbrev s_own_steps : Stmt := top 50
abbrev s_state_behind : Stmt := top 51
abbrev s_going : Stmt := top 52
abbrev s_applied_order : Stmt := top 53
abbrev s_alone : Stmt := top 54
abbrev s_starving : Stmt := top 55
abbrev s_L_taken : Stmt := top 57
abbrev s_L_pick : Stmt := top 58
abbrev s_L_alike : Stmt := top 59
abbrev s_L_object : Stmt := top 60
abbrev s_L_calls : Stmt := top 61
abbrev s_L_first : Stmt := top 62
abbrev s_L_do : Stmt := top 63
abbrev s_L_step : Stmt := top 66
abbrev s_L_ends : Stmt := top 67
abbrev s_L_fresh : Stmt := top 68
abbrev s_L_run : Stmt := top 69
abbrev s_L_plans : Stmt := top 70
abbrev s_L_weave : Stmt := top 71
abbrev s_L_alone : Stmt := top 72
abbrev s_law : Stmt := top 73
abbrev s_M_init : Stmt := inClass (top 23) 0
abbrev s_M_first : Stmt := inClass (top 23) 2
abbrev s_M_can_go : Stmt := inClass (top 23) 3
abbrev s_M_going : Stmt := inClass (top 23) 4
abbrev s_M_is_busy : Stmt := inClass (top 23) 5
abbrev s_M_stepped : Stmt := inClass (top 23) 7
abbrev s_M_line : Stmt := inClass (top 23) 8
abbrev s_Retried_first_cells : Stmt := inClass (top 36) 0
abbrev s_Retried_step : Stmt := inClass (top 36) 1
abbrev s_Retried_object_state : Stmt := inClass (top 36) 2
abbrev s_Retried_newly : Stmt := inClass (top 36) 3
abbrev s_Locked_first_cells : Stmt := inClass (top 37) 0
abbrev s_Locked_step : Stmt := inClass (top 37) 1
abbrev s_Locked_object_state : Stmt := inClass (top 37) 2
abbrev s_Locked_newly : Stmt := inClass (top 37) 3
abbrev s_Naive_first_cells : Stmt := inClass (top 38) 0
abbrev s_Naive_step : Stmt := inClass (top 38) 1
abbrev s_Naive_object_state : Stmt := inClass (top 38) 2
abbrev s_Naive_newly : Stmt := inClass (top 38) 3
def d_is_small : He.DefD := ⟨("is_small", none), "is_small", "is_small", defArgs s_is_small, defBody s_is_small, defScope s_is_small, [], []⟩
def d_is_table : He.DefD := ⟨("is_table", none), "is_table", "is_table", defArgs s_is_table, defBody s_is_table, defScope s_is_table, [], []⟩
def d_is_bank : He.DefD := ⟨("is_bank", none), "is_bank", "is_bank", defArgs s_is_bank, defBody s_is_bank, defScope s_is_bank, [], []⟩
def d_is_kind : He.DefD := ⟨("is_kind", none), "is_kind", "is_kind", defArgs s_is_kind, defBody s_is_kind, defScope s_is_kind, [], []⟩
def d_first_in : He.DefD := ⟨("first_in", none), "first_in", "first_in", defArgs s_first_in, defBody s_first_in, defScope s_first_in, [], []⟩
def d_calls_in : He.DefD := ⟨("calls_in", none), "calls_in", "calls_in", defArgs s_calls_in, defBody s_calls_in, defScope s_calls_in, [], []⟩
def d_bank_calls : He.DefD := ⟨("bank_calls", none), "bank_calls", "bank_calls", defArgs s_bank_calls, defBody s_bank_calls, defScope s_bank_calls, [], []⟩
def d_applied_in : He.DefD := ⟨("applied_in", none), "applied_in", "applied_in", defArgs s_applied_in, defBody s_applied_in, defScope s_applied_in, [], []⟩
def d_on_stack : He.DefD := ⟨("on_stack", none), "on_stack", "on_stack", defArgs s_on_stack, defBody s_on_stack, defScope s_on_stack, [], []⟩
def d_on_queue : He.DefD := ⟨("on_queue", none), "on_queue", "on_queue", defArgs s_on_queue, defBody s_on_queue, defScope s_on_queue, [], []⟩
def d_on_set : He.DefD := ⟨("on_set", none), "on_set", "on_set", defArgs s_on_set, defBody s_on_set, defScope s_on_set, [], []⟩
def d_on_bank : He.DefD := ⟨("on_bank", none), "on_bank", "on_bank", defArgs s_on_bank, defBody s_on_bank, defScope s_on_bank, [], []⟩
def d_need_object : He.DefD := ⟨("need_object", none), "need_object", "need_object", defArgs s_need_object, defBody s_need_object, defScope s_need_object, [], []⟩
def d_is_plain_tuple : He.DefD := ⟨("is_plain_tuple", none), "is_plain_tuple", "is_plain_tuple", defArgs s_is_plain_tuple, defBody s_is_plain_tuple, defScope s_is_plain_tuple, [], []⟩
def d_is_call_of : He.DefD := ⟨("is_call_of", none), "is_call_of", "is_call_of", defArgs s_is_call_of, defBody s_is_call_of, defScope s_is_call_of, [], []⟩
def d_need_call : He.DefD := ⟨("need_call", none), "need_call", "need_call", defArgs s_need_call, defBody s_need_call, defScope s_need_call, [], []⟩
def d_are_plans : He.DefD := ⟨("are_plans", none), "are_plans", "are_plans", defArgs s_are_plans, defBody s_are_plans, defScope s_are_plans, [], []⟩
def d_need_plans : He.DefD := ⟨("need_plans", none), "need_plans", "need_plans", defArgs s_need_plans, defBody s_need_plans, defScope s_need_plans, [], []⟩
def d_need_weaving : He.DefD := ⟨("need_weaving", none), "need_weaving", "need_weaving", defArgs s_need_weaving, defBody s_need_weaving, defScope s_need_weaving, [], []⟩
def d_made : He.DefD := ⟨("made", none), "made", "made", defArgs s_made, defBody s_made, defScope s_made, [], []⟩
def d_line_of : He.DefD := ⟨("line_of", none), "line_of", "line_of", defArgs s_line_of, defBody s_line_of, defScope s_line_of, [], []⟩
def d_history_of : He.DefD := ⟨("history_of", none), "history_of", "history_of", defArgs s_history_of, defBody s_history_of, defScope s_history_of, [], []⟩
def d_own_steps : He.DefD := ⟨("own_steps", none), "own_steps", "own_steps", defArgs s_own_steps, defBody s_own_steps, defScope s_own_steps, [], []⟩
def d_state_behind : He.DefD := ⟨("state_behind", none), "state_behind", "state_behind", defArgs s_state_behind, defBody s_state_behind, defScope s_state_behind, [], []⟩
def d_going : He.DefD := ⟨("going", none), "going", "going", defArgs s_going, defBody s_going, defScope s_going, [], []⟩
def d_applied_order : He.DefD := ⟨("applied_order", none), "applied_order", "applied_order", defArgs s_applied_order, defBody s_applied_order, defScope s_applied_order, [], []⟩
def d_alone : He.DefD := ⟨("alone", none), "alone", "alone", defArgs s_alone, defBody s_alone, defScope s_alone, [], []⟩
def d_starving : He.DefD := ⟨("starving", none), "starving", "starving", defArgs s_starving, defBody s_starving, defScope s_starving, [], []⟩
def d_L_taken : He.DefD := ⟨("_law_taken", none), "_law_taken", "_law_taken", defArgs s_L_taken, defBody s_L_taken, defScope s_L_taken, [], []⟩
def d_L_pick : He.DefD := ⟨("_law_pick", none), "_law_pick", "_law_pick", defArgs s_L_pick, defBody s_L_pick, defScope s_L_pick, [], []⟩
def d_L_alike : He.DefD := ⟨("_law_alike", none), "_law_alike", "_law_alike", defArgs s_L_alike, defBody s_L_alike, defScope s_L_alike, [], []⟩
def d_L_object : He.DefD := ⟨("_law_object", none), "_law_object", "_law_object", defArgs s_L_object, defBody s_L_object, defScope s_L_object, [], []⟩
def d_L_calls : He.DefD := ⟨("_law_calls", none), "_law_calls", "_law_calls", defArgs s_L_calls, defBody s_L_calls, defScope s_L_calls, [], []⟩
def d_L_first : He.DefD := ⟨("_law_first", none), "_law_first", "_law_first", defArgs s_L_first, defBody s_L_first, defScope s_L_first, [], []⟩
def d_L_do : He.DefD := ⟨("_law_do", none), "_law_do", "_law_do", defArgs s_L_do, defBody s_L_do, defScope s_L_do, [], []⟩
def d_L_step : He.DefD := ⟨("_law_step", none), "_law_step", "_law_step", defArgs s_L_step, defBody s_L_step, defScope s_L_step, [], []⟩
def d_L_ends : He.DefD := ⟨("_law_ends", none), "_law_ends", "_law_ends", defArgs s_L_ends, defBody s_L_ends, defScope s_L_ends, [], []⟩
def d_L_fresh : He.DefD := ⟨("_law_fresh", none), "_law_fresh", "_law_fresh", defArgs s_L_fresh, defBody s_L_fresh, defScope s_L_fresh, [], []⟩
def d_L_run : He.DefD := ⟨("_law_run", none), "_law_run", "_law_run", defArgs s_L_run, defBody s_L_run, defScope s_L_run, [], []⟩
def d_L_plans : He.DefD := ⟨("_law_plans", none), "_law_plans", "_law_plans", defArgs s_L_plans, defBody s_L_plans, defScope s_L_plans, [], []⟩
def d_L_weave : He.DefD := ⟨("_law_weave", none), "_law_weave", "_law_weave", defArgs s_L_weave, defBody s_L_weave, defScope s_L_weave, [], []⟩
def d_L_alone : He.DefD := ⟨("_law_alone", none), "_law_alone", "_law_alone", defArgs s_L_alone, defBody s_L_alone, defScope s_L_alone, [], []⟩
def d_law : He.DefD := ⟨("law", none), "law", "law", defArgs s_law, defBody s_law, defScope s_law, [], []⟩
def d_Retried_init : He.DefD := ⟨("Retried", some "__init__"), "__init__", "Machine.__init__", defArgs s_M_init, defBody s_M_init, defScope s_M_init, [], []⟩
def d_Retried_first : He.DefD := ⟨("Retried", some "first"), "first", "Machine.first", defArgs s_M_first, defBody s_M_first, defScope s_M_first, [], []⟩
def d_Retried_can_go : He.DefD := ⟨("Retried", some "can_go"), "can_go", "Machine.can_go", defArgs s_M_can_go, defBody s_M_can_go, defScope s_M_can_go, [], []⟩
def d_Retried_going : He.DefD := ⟨("Retried", some "going"), "going", "Machine.going", defArgs s_M_going, defBody s_M_going, defScope s_M_going, [], []⟩
def d_Retried_is_busy : He.DefD := ⟨("Retried", some "is_busy"), "is_busy", "Machine.is_busy", defArgs s_M_is_busy, defBody s_M_is_busy, defScope s_M_is_busy, [], []⟩
def d_Retried_stepped : He.DefD := ⟨("Retried", some "stepped"), "stepped", "Machine.stepped", defArgs s_M_stepped, defBody s_M_stepped, defScope s_M_stepped, [], []⟩
def d_Retried_line : He.DefD := ⟨("Retried", some "line"), "line", "Machine.line", defArgs s_M_line, defBody s_M_line, defScope s_M_line, [], []⟩
def d_Retried_first_cells : He.DefD := ⟨("Retried", some "first_cells"), "first_cells", "Retried.first_cells", defArgs s_Retried_first_cells, defBody s_Retried_first_cells, defScope s_Retried_first_cells, [], []⟩
def d_Retried_step : He.DefD := ⟨("Retried", some "step"), "step", "Retried.step", defArgs s_Retried_step, defBody s_Retried_step, defScope s_Retried_step, [], []⟩
def d_Retried_object_state : He.DefD := ⟨("Retried", some "object_state"), "object_state", "Retried.object_state", defArgs s_Retried_object_state, defBody s_Retried_object_state, defScope s_Retried_object_state, [], []⟩
def d_Retried_newly : He.DefD := ⟨("Retried", some "newly"), "newly", "Retried.newly", defArgs s_Retried_newly, defBody s_Retried_newly, defScope s_Retried_newly, [], []⟩
def d_Locked_init : He.DefD := ⟨("Locked", some "__init__"), "__init__", "Machine.__init__", defArgs s_M_init, defBody s_M_init, defScope s_M_init, [], []⟩
def d_Locked_first : He.DefD := ⟨("Locked", some "first"), "first", "Machine.first", defArgs s_M_first, defBody s_M_first, defScope s_M_first, [], []⟩
def d_Locked_can_go : He.DefD := ⟨("Locked", some "can_go"), "can_go", "Machine.can_go", defArgs s_M_can_go, defBody s_M_can_go, defScope s_M_can_go, [], []⟩
def d_Locked_going : He.DefD := ⟨("Locked", some "going"), "going", "Machine.going", defArgs s_M_going, defBody s_M_going, defScope s_M_going, [], []⟩
def d_Locked_is_busy : He.DefD := ⟨("Locked", some "is_busy"), "is_busy", "Machine.is_busy", defArgs s_M_is_busy, defBody s_M_is_busy, defScope s_M_is_busy, [], []⟩
def d_Locked_stepped : He.DefD := ⟨("Locked", some "stepped"), "stepped", "Machine.stepped", defArgs s_M_stepped, defBody s_M_stepped, defScope s_M_stepped, [], []⟩
def d_Locked_line : He.DefD := ⟨("Locked", some "line"), "line", "Machine.line", defArgs s_M_line, defBody s_M_line, defScope s_M_line, [], []⟩
def d_Locked_first_cells : He.DefD := ⟨("Locked", some "first_cells"), "first_cells", "Locked.first_cells", defArgs s_Locked_first_cells, defBody s_Locked_first_cells, defScope s_Locked_first_cells, [], []⟩
def d_Locked_step : He.DefD := ⟨("Locked", some "step"), "step", "Locked.step", defArgs s_Locked_step, defBody s_Locked_step, defScope s_Locked_step, [], []⟩
def d_Locked_object_state : He.DefD := ⟨("Locked", some "object_state"), "object_state", "Locked.object_state", defArgs s_Locked_object_state, defBody s_Locked_object_state, defScope s_Locked_object_state, [], []⟩
def d_Locked_newly : He.DefD := ⟨("Locked", some "newly"), "newly", "Locked.newly", defArgs s_Locked_newly, defBody s_Locked_newly, defScope s_Locked_newly, [], []⟩
def d_Naive_init : He.DefD := ⟨("Naive", some "__init__"), "__init__", "Machine.__init__", defArgs s_M_init, defBody s_M_init, defScope s_M_init, [], []⟩
def d_Naive_first : He.DefD := ⟨("Naive", some "first"), "first", "Machine.first", defArgs s_M_first, defBody s_M_first, defScope s_M_first, [], []⟩
def d_Naive_can_go : He.DefD := ⟨("Naive", some "can_go"), "can_go", "Machine.can_go", defArgs s_M_can_go, defBody s_M_can_go, defScope s_M_can_go, [], []⟩
def d_Naive_going : He.DefD := ⟨("Naive", some "going"), "going", "Machine.going", defArgs s_M_going, defBody s_M_going, defScope s_M_going, [], []⟩
def d_Naive_is_busy : He.DefD := ⟨("Naive", some "is_busy"), "is_busy", "Machine.is_busy", defArgs s_M_is_busy, defBody s_M_is_busy, defScope s_M_is_busy, [], []⟩
def d_Naive_stepped : He.DefD := ⟨("Naive", some "stepped"), "stepped", "Machine.stepped", defArgs s_M_stepped, defBody s_M_stepped, defScope s_M_stepped, [], []⟩
def d_Naive_line : He.DefD := ⟨("Naive", some "line"), "line", "Machine.line", defArgs s_M_line, defBody s_M_line, defScope s_M_line, [], []⟩
def d_Naive_first_cells : He.DefD := ⟨("Naive", some "first_cells"), "first_cells", "Naive.first_cells", defArgs s_Naive_first_cells, defBody s_Naive_first_cells, defScope s_Naive_first_cells, [], []⟩
def d_Naive_step : He.DefD := ⟨("Naive", some "step"), "step", "Naive.step", defArgs s_Naive_step, defBody s_Naive_step, defScope s_Naive_step, [], []⟩
def d_Naive_object_state : He.DefD := ⟨("Naive", some "object_state"), "object_state", "Naive.object_state", defArgs s_Naive_object_state, defBody s_Naive_object_state, defScope s_Naive_object_state, [], []⟩
def d_Naive_newly : He.DefD := ⟨("Naive", some "newly"), "newly", "Naive.newly", defArgs s_Naive_newly, defBody s_Naive_newly, defScope s_Naive_newly, [], []⟩
def fn0 : List He.DefD := [d_is_small, d_is_table, d_is_bank, d_is_kind, d_first_in, d_calls_in, d_bank_calls, d_applied_in, d_on_stack, d_on_queue, d_on_set, d_on_bank, d_need_object, d_is_plain_tuple, d_is_call_of, d_need_call, d_are_plans, d_need_plans, d_need_weaving, d_made, d_line_of, d_history_of, d_own_steps, d_state_behind, d_going, d_applied_order, d_alone, d_starving, d_L_taken, d_L_pick]
def fn1 : List He.DefD := [d_L_alike, d_L_object, d_L_calls, d_L_first, d_L_do, d_L_step, d_L_ends, d_L_fresh, d_L_run, d_L_plans, d_L_weave, d_L_alone, d_law, d_Retried_init, d_Retried_first, d_Retried_can_go, d_Retried_going, d_Retried_is_busy, d_Retried_stepped, d_Retried_line, d_Retried_first_cells, d_Retried_step, d_Retried_object_state, d_Retried_newly, d_Locked_init, d_Locked_first, d_Locked_can_go, d_Locked_going, d_Locked_is_busy, d_Locked_stepped]
def fn2 : List He.DefD := [d_Locked_line, d_Locked_first_cells, d_Locked_step, d_Locked_object_state, d_Locked_newly, d_Naive_init, d_Naive_first, d_Naive_can_go, d_Naive_going, d_Naive_is_busy, d_Naive_stepped, d_Naive_line, d_Naive_first_cells, d_Naive_step, d_Naive_object_state, d_Naive_newly]
def fn : List He.DefD := fn0 ++ fn1 ++ fn2
def fa0 : List He.Fa := [.glo "is_small", .glo "is_table", .glo "is_bank", .glo "is_kind", .glo "first_in", .glo "calls_in", .glo "bank_calls", .glo "applied_in", .glo "on_stack", .glo "on_queue", .glo "on_set", .glo "on_bank", .glo "need_object", .glo "is_plain_tuple", .glo "is_call_of", .glo "need_call", .glo "are_plans", .glo "need_plans", .glo "need_weaving", .glo "made", .glo "line_of", .glo "history_of", .glo "own_steps", .glo "state_behind", .glo "going", .glo "applied_order", .glo "alone", .glo "starving", .glo "_law_taken", .glo "_law_pick"]
def fa1 : List He.Fa := [.glo "_law_alike", .glo "_law_object", .glo "_law_calls", .glo "_law_first", .glo "_law_do", .glo "_law_step", .glo "_law_ends", .glo "_law_fresh", .glo "_law_run", .glo "_law_plans", .glo "_law_weave", .glo "_law_alone", .glo "law", .free "len", .free "isinstance", .free "int", .free "bool", .free "str", .free "tuple", .free "list", .free "all", .free "range", .free "sorted", .int "MOST_VALUES" 5, .int "MOST_ROOM" 3, .int "MOST_THREADS" 4, .int "MOST_CALLS" 8, .int "MOST_STEPS" 400, .glo "Retried", .cls "Retried"]
def fa2 : List He.Fa := [.mkr "Retried", .noat "Retried" "thing", .noat "Retried" "plans", .noat "Retried" "many", .meth "Retried" "first", .meth "Retried" "can_go", .meth "Retried" "going", .meth "Retried" "is_busy", .meth "Retried" "stepped", .meth "Retried" "line", .meth "Retried" "first_cells", .meth "Retried" "step", .meth "Retried" "object_state", .meth "Retried" "newly", .glo "Locked", .cls "Locked", .mkr "Locked", .noat "Locked" "thing", .noat "Locked" "plans", .noat "Locked" "many", .meth "Locked" "first", .meth "Locked" "can_go", .meth "Locked" "going", .meth "Locked" "is_busy", .meth "Locked" "stepped", .meth "Locked" "line", .meth "Locked" "first_cells", .meth "Locked" "step", .meth "Locked" "object_state", .meth "Locked" "newly"]
def fa3 : List He.Fa := [.glo "Naive", .cls "Naive", .mkr "Naive", .noat "Naive" "thing", .noat "Naive" "plans", .noat "Naive" "many", .meth "Naive" "first", .meth "Naive" "can_go", .meth "Naive" "going", .meth "Naive" "is_busy", .meth "Naive" "stepped", .meth "Naive" "line", .meth "Naive" "first_cells", .meth "Naive" "step", .meth "Naive" "object_state", .meth "Naive" "newly"]
def fa : List He.Fa := fa0 ++ fa1 ++ fa2 ++ fa3
def loose0 : List PySem.Str := ["_wall", "SharedError", "BadObject", "BadCall", "BadPlans", "BadWeaving", "MOST_VALUES", "MOST_ROOM", "is_small", "is_table", "is_bank", "is_kind", "first_in", "calls_in", "bank_calls", "applied_in", "on_stack", "on_queue", "on_set", "on_bank", "Machine", "WRITE", "READ", "CHOOSE", "SWAP", "Helped", "need_object", "is_plain_tuple", "is_call_of", "need_call"]
def loose1 : List PySem.Str := ["Retried", "Locked", "Naive", "MOST_THREADS", "MOST_CALLS", "MOST_STEPS", "are_plans", "need_plans", "need_weaving", "made", "line_of", "history_of", "own_steps", "state_behind", "going", "applied_order", "alone", "starving", "_law_taken", "_law_pick", "_law_alike", "_law_object", "_law_calls", "_law_first", "_law_do", "_law_states", "_law_small", "_law_step", "_law_ends", "_law_fresh"]
def loose2 : List PySem.Str := ["_law_run", "_law_plans", "_law_weave", "_law_alone"]
def loose : List PySem.Str := loose0 ++ loose1 ++ loose2
abbrev R : PySem.W.OpenRow := PySem.W.OpenLaw.row PySem.Challenge.rw_helpedcalls_k06_whole_other_ways
abbrev hk : PySem.W.Hook := He.hookD 5 fa fn
def ob (s : PySem.W.SharedT) : He.AlD := He.obsDG 5 fa fn (HandSHeadRun.getT s)
theorem ob_eq (s : PySem.W.SharedT) : ob s = hk.obs s.abs := He.obsDG_eq (HandSHeadRun.getT_eq s)
structure Ctx (K : PySem.W.Frag) (mg : Str → Option Value) : Prop where
  says : He.SaysD fa fn K
  hp : ∃ h : Heap, K.In h ∧ h.Ns mainGlobals mg
section
variable {K : PySem.W.Frag} {mg : Str → Option Value}
theorem F_is_small (S : Ctx K mg) : ∃ fd, FunD K "is_small" "is_small" (defArgs s_is_small) (defBody s_is_small) (defScope s_is_small) [] [] (He.ga K "is_small") fd := S.says.def_ 0 (d := d_is_small) rfl
theorem F_is_table (S : Ctx K mg) : ∃ fd, FunD K "is_table" "is_table" (defArgs s_is_table) (defBody s_is_table) (defScope s_is_table) [] [] (He.ga K "is_table") fd := S.says.def_ 1 (d := d_is_table) rfl
theorem F_is_bank (S : Ctx K mg) : ∃ fd, FunD K "is_bank" "is_bank" (defArgs s_is_bank) (defBody s_is_bank) (defScope s_is_bank) [] [] (He.ga K "is_bank") fd := S.says.def_ 2 (d := d_is_bank) rfl
theorem F_is_kind (S : Ctx K mg) : ∃ fd, FunD K "is_kind" "is_kind" (defArgs s_is_kind) (defBody s_is_kind) (defScope s_is_kind) [] [] (He.ga K "is_kind") fd := S.says.def_ 3 (d := d_is_kind) rfl
theorem F_first_in (S : Ctx K mg) : ∃ fd, FunD K "first_in" "first_in" (defArgs s_first_in) (defBody s_first_in) (defScope s_first_in) [] [] (He.ga K "first_in") fd := S.says.def_ 4 (d := d_first_in) rfl
theorem F_calls_in (S : Ctx K mg) : ∃ fd, FunD K "calls_in" "calls_in" (defArgs s_calls_in) (defBody s_calls_in) (defScope s_calls_in) [] [] (He.ga K "calls_in") fd := S.says.def_ 5 (d := d_calls_in) rfl
theorem F_bank_calls (S : Ctx K mg) : ∃ fd, FunD K "bank_calls" "bank_calls" (defArgs s_bank_calls) (defBody s_bank_calls) (defScope s_bank_calls) [] [] (He.ga K "bank_calls") fd := S.says.def_ 6 (d := d_bank_calls) rfl
theorem F_applied_in (S : Ctx K mg) : ∃ fd, FunD K "applied_in" "applied_in" (defArgs s_applied_in) (defBody s_applied_in) (defScope s_applied_in) [] [] (He.ga K "applied_in") fd := S.says.def_ 7 (d := d_applied_in) rfl
theorem F_on_stack (S : Ctx K mg) : ∃ fd, FunD K "on_stack" "on_stack" (defArgs s_on_stack) (defBody s_on_stack) (defScope s_on_stack) [] [] (He.ga K "on_stack") fd := S.says.def_ 8 (d := d_on_stack) rfl
theorem F_on_queue (S : Ctx K mg) : ∃ fd, FunD K "on_queue" "on_queue" (defArgs s_on_queue) (defBody s_on_queue) (defScope s_on_queue) [] [] (He.ga K "on_queue") fd := S.says.def_ 9 (d := d_on_queue) rfl
theorem F_on_set (S : Ctx K mg) : ∃ fd, FunD K "on_set" "on_set" (defArgs s_on_set) (defBody s_on_set) (defScope s_on_set) [] [] (He.ga K "on_set") fd := S.says.def_ 10 (d := d_on_set) rfl
theorem F_on_bank (S : Ctx K mg) : ∃ fd, FunD K "on_bank" "on_bank" (defArgs s_on_bank) (defBody s_on_bank) (defScope s_on_bank) [] [] (He.ga K "on_bank") fd := S.says.def_ 11 (d := d_on_bank) rfl
theorem F_need_object (S : Ctx K mg) : ∃ fd, FunD K "need_object" "need_object" (defArgs s_need_object) (defBody s_need_object) (defScope s_need_object) [] [] (He.ga K "need_object") fd := S.says.def_ 12 (d := d_need_object) rfl
theorem F_is_plain_tuple (S : Ctx K mg) : ∃ fd, FunD K "is_plain_tuple" "is_plain_tuple" (defArgs s_is_plain_tuple) (defBody s_is_plain_tuple) (defScope s_is_plain_tuple) [] [] (He.ga K "is_plain_tuple") fd := S.says.def_ 13 (d := d_is_plain_tuple) rfl
theorem F_is_call_of (S : Ctx K mg) : ∃ fd, FunD K "is_call_of" "is_call_of" (defArgs s_is_call_of) (defBody s_is_call_of) (defScope s_is_call_of) [] [] (He.ga K "is_call_of") fd := S.says.def_ 14 (d := d_is_call_of) rfl
theorem F_need_call (S : Ctx K mg) : ∃ fd, FunD K "need_call" "need_call" (defArgs s_need_call) (defBody s_need_call) (defScope s_need_call) [] [] (He.ga K "need_call") fd := S.says.def_ 15 (d := d_need_call) rfl
theorem F_are_plans (S : Ctx K mg) : ∃ fd, FunD K "are_plans" "are_plans" (defArgs s_are_plans) (defBody s_are_plans) (defScope s_are_plans) [] [] (He.ga K "are_plans") fd := S.says.def_ 16 (d := d_are_plans) rfl
theorem F_need_plans (S : Ctx K mg) : ∃ fd, FunD K "need_plans" "need_plans" (defArgs s_need_plans) (defBody s_need_plans) (defScope s_need_plans) [] [] (He.ga K "need_plans") fd := S.says.def_ 17 (d := d_need_plans) rfl
theorem F_need_weaving (S : Ctx K mg) : ∃ fd, FunD K "need_weaving" "need_weaving" (defArgs s_need_weaving) (defBody s_need_weaving) (defScope s_need_weaving) [] [] (He.ga K "need_weaving") fd := S.says.def_ 18 (d := d_need_weaving) rfl
theorem F_made (S : Ctx K mg) : ∃ fd, FunD K "made" "made" (defArgs s_made) (defBody s_made) (defScope s_made) [] [] (He.ga K "made") fd := S.says.def_ 19 (d := d_made) rfl
theorem F_line_of (S : Ctx K mg) : ∃ fd, FunD K "line_of" "line_of" (defArgs s_line_of) (defBody s_line_of) (defScope s_line_of) [] [] (He.ga K "line_of") fd := S.says.def_ 20 (d := d_line_of) rfl
theorem F_history_of (S : Ctx K mg) : ∃ fd, FunD K "history_of" "history_of" (defArgs s_history_of) (defBody s_history_of) (defScope s_history_of) [] [] (He.ga K "history_of") fd := S.says.def_ 21 (d := d_history_of) rfl
theorem F_own_steps (S : Ctx K mg) : ∃ fd, FunD K "own_steps" "own_steps" (defArgs s_own_steps) (defBody s_own_steps) (defScope s_own_steps) [] [] (He.ga K "own_steps") fd := S.says.def_ 22 (d := d_own_steps) rfl
theorem F_state_behind (S : Ctx K mg) : ∃ fd, FunD K "state_behind" "state_behind" (defArgs s_state_behind) (defBody s_state_behind) (defScope s_state_behind) [] [] (He.ga K "state_behind") fd := S.says.def_ 23 (d := d_state_behind) rfl
theorem F_going (S : Ctx K mg) : ∃ fd, FunD K "going" "going" (defArgs s_going) (defBody s_going) (defScope s_going) [] [] (He.ga K "going") fd := S.says.def_ 24 (d := d_going) rfl
theorem F_applied_order (S : Ctx K mg) : ∃ fd, FunD K "applied_order" "applied_order" (defArgs s_applied_order) (defBody s_applied_order) (defScope s_applied_order) [] [] (He.ga K "applied_order") fd := S.says.def_ 25 (d := d_applied_order) rfl
theorem F_alone (S : Ctx K mg) : ∃ fd, FunD K "alone" "alone" (defArgs s_alone) (defBody s_alone) (defScope s_alone) [] [] (He.ga K "alone") fd := S.says.def_ 26 (d := d_alone) rfl
theorem F_starving (S : Ctx K mg) : ∃ fd, FunD K "starving" "starving" (defArgs s_starving) (defBody s_starving) (defScope s_starving) [] [] (He.ga K "starving") fd := S.says.def_ 27 (d := d_starving) rfl
theorem F_L_taken (S : Ctx K mg) : ∃ fd, FunD K "_law_taken" "_law_taken" (defArgs s_L_taken) (defBody s_L_taken) (defScope s_L_taken) [] [] (He.ga K "_law_taken") fd := S.says.def_ 28 (d := d_L_taken) rfl
theorem F_L_pick (S : Ctx K mg) : ∃ fd, FunD K "_law_pick" "_law_pick" (defArgs s_L_pick) (defBody s_L_pick) (defScope s_L_pick) [] [] (He.ga K "_law_pick") fd := S.says.def_ 29 (d := d_L_pick) rfl
theorem F_L_alike (S : Ctx K mg) : ∃ fd, FunD K "_law_alike" "_law_alike" (defArgs s_L_alike) (defBody s_L_alike) (defScope s_L_alike) [] [] (He.ga K "_law_alike") fd := S.says.def_ 30 (d := d_L_alike) rfl
theorem F_L_object (S : Ctx K mg) : ∃ fd, FunD K "_law_object" "_law_object" (defArgs s_L_object) (defBody s_L_object) (defScope s_L_object) [] [] (He.ga K "_law_object") fd := S.says.def_ 31 (d := d_L_object) rfl
theorem F_L_calls (S : Ctx K mg) : ∃ fd, FunD K "_law_calls" "_law_calls" (defArgs s_L_calls) (defBody s_L_calls) (defScope s_L_calls) [] [] (He.ga K "_law_calls") fd := S.says.def_ 32 (d := d_L_calls) rfl
theorem F_L_first (S : Ctx K mg) : ∃ fd, FunD K "_law_first" "_law_first" (defArgs s_L_first) (defBody s_L_first) (defScope s_L_first) [] [] (He.ga K "_law_first") fd := S.says.def_ 33 (d := d_L_first) rfl
theorem F_L_do (S : Ctx K mg) : ∃ fd, FunD K "_law_do" "_law_do" (defArgs s_L_do) (defBody s_L_do) (defScope s_L_do) [] [] (He.ga K "_law_do") fd := S.says.def_ 34 (d := d_L_do) rfl
theorem F_L_step (S : Ctx K mg) : ∃ fd, FunD K "_law_step" "_law_step" (defArgs s_L_step) (defBody s_L_step) (defScope s_L_step) [] [] (He.ga K "_law_step") fd := S.says.def_ 35 (d := d_L_step) rfl
theorem F_L_ends (S : Ctx K mg) : ∃ fd, FunD K "_law_ends" "_law_ends" (defArgs s_L_ends) (defBody s_L_ends) (defScope s_L_ends) [] [] (He.ga K "_law_ends") fd := S.says.def_ 36 (d := d_L_ends) rfl
theorem F_L_fresh (S : Ctx K mg) : ∃ fd, FunD K "_law_fresh" "_law_fresh" (defArgs s_L_fresh) (defBody s_L_fresh) (defScope s_L_fresh) [] [] (He.ga K "_law_fresh") fd := S.says.def_ 37 (d := d_L_fresh) rfl
theorem F_L_run (S : Ctx K mg) : ∃ fd, FunD K "_law_run" "_law_run" (defArgs s_L_run) (defBody s_L_run) (defScope s_L_run) [] [] (He.ga K "_law_run") fd := S.says.def_ 38 (d := d_L_run) rfl
theorem F_L_plans (S : Ctx K mg) : ∃ fd, FunD K "_law_plans" "_law_plans" (defArgs s_L_plans) (defBody s_L_plans) (defScope s_L_plans) [] [] (He.ga K "_law_plans") fd := S.says.def_ 39 (d := d_L_plans) rfl
theorem F_L_weave (S : Ctx K mg) : ∃ fd, FunD K "_law_weave" "_law_weave" (defArgs s_L_weave) (defBody s_L_weave) (defScope s_L_weave) [] [] (He.ga K "_law_weave") fd := S.says.def_ 40 (d := d_L_weave) rfl
theorem F_L_alone (S : Ctx K mg) : ∃ fd, FunD K "_law_alone" "_law_alone" (defArgs s_L_alone) (defBody s_L_alone) (defScope s_L_alone) [] [] (He.ga K "_law_alone") fd := S.says.def_ 41 (d := d_L_alone) rfl
theorem F_law (S : Ctx K mg) : ∃ fd, FunD K "law" "law" (defArgs s_law) (defBody s_law) (defScope s_law) [] [] (He.ga K "law") fd := S.says.def_ 42 (d := d_law) rfl
theorem F_Retried_init (S : Ctx K mg) : ∃ fd, FunD K "__init__" "Machine.__init__" (defArgs s_M_init) (defBody s_M_init) (defScope s_M_init) [] [] (He.ma K (He.ga K "Retried") "__init__") fd := S.says.def_ 43 (d := d_Retried_init) rfl
theorem F_Retried_first (S : Ctx K mg) : ∃ fd, FunD K "first" "Machine.first" (defArgs s_M_first) (defBody s_M_first) (defScope s_M_first) [] [] (He.ma K (He.ga K "Retried") "first") fd := S.says.def_ 44 (d := d_Retried_first) rfl
theorem F_Retried_can_go (S : Ctx K mg) : ∃ fd, FunD K "can_go" "Machine.can_go" (defArgs s_M_can_go) (defBody s_M_can_go) (defScope s_M_can_go) [] [] (He.ma K (He.ga K "Retried") "can_go") fd := S.says.def_ 45 (d := d_Retried_can_go) rfl
theorem F_Retried_going (S : Ctx K mg) : ∃ fd, FunD K "going" "Machine.going" (defArgs s_M_going) (defBody s_M_going) (defScope s_M_going) [] [] (He.ma K (He.ga K "Retried") "going") fd := S.says.def_ 46 (d := d_Retried_going) rfl
theorem F_Retried_is_busy (S : Ctx K mg) : ∃ fd, FunD K "is_busy" "Machine.is_busy" (defArgs s_M_is_busy) (defBody s_M_is_busy) (defScope s_M_is_busy) [] [] (He.ma K (He.ga K "Retried") "is_busy") fd := S.says.def_ 47 (d := d_Retried_is_busy) rfl
theorem F_Retried_stepped (S : Ctx K mg) : ∃ fd, FunD K "stepped" "Machine.stepped" (defArgs s_M_stepped) (defBody s_M_stepped) (defScope s_M_stepped) [] [] (He.ma K (He.ga K "Retried") "stepped") fd := S.says.def_ 48 (d := d_Retried_stepped) rfl
theorem F_Retried_line (S : Ctx K mg) : ∃ fd, FunD K "line" "Machine.line" (defArgs s_M_line) (defBody s_M_line) (defScope s_M_line) [] [] (He.ma K (He.ga K "Retried") "line") fd := S.says.def_ 49 (d := d_Retried_line) rfl
theorem F_Retried_first_cells (S : Ctx K mg) : ∃ fd, FunD K "first_cells" "Retried.first_cells" (defArgs s_Retried_first_cells) (defBody s_Retried_first_cells) (defScope s_Retried_first_cells) [] [] (He.ma K (He.ga K "Retried") "first_cells") fd := S.says.def_ 50 (d := d_Retried_first_cells) rfl
theorem F_Retried_step (S : Ctx K mg) : ∃ fd, FunD K "step" "Retried.step" (defArgs s_Retried_step) (defBody s_Retried_step) (defScope s_Retried_step) [] [] (He.ma K (He.ga K "Retried") "step") fd := S.says.def_ 51 (d := d_Retried_step) rfl
theorem F_Retried_object_state (S : Ctx K mg) : ∃ fd, FunD K "object_state" "Retried.object_state" (defArgs s_Retried_object_state) (defBody s_Retried_object_state) (defScope s_Retried_object_state) [] [] (He.ma K (He.ga K "Retried") "object_state") fd := S.says.def_ 52 (d := d_Retried_object_state) rfl
theorem F_Retried_newly (S : Ctx K mg) : ∃ fd, FunD K "newly" "Retried.newly" (defArgs s_Retried_newly) (defBody s_Retried_newly) (defScope s_Retried_newly) [] [] (He.ma K (He.ga K "Retried") "newly") fd := S.says.def_ 53 (d := d_Retried_newly) rfl
theorem F_Locked_init (S : Ctx K mg) : ∃ fd, FunD K "__init__" "Machine.__init__" (defArgs s_M_init) (defBody s_M_init) (defScope s_M_init) [] [] (He.ma K (He.ga K "Locked") "__init__") fd := S.says.def_ 54 (d := d_Locked_init) rfl
theorem F_Locked_first (S : Ctx K mg) : ∃ fd, FunD K "first" "Machine.first" (defArgs s_M_first) (defBody s_M_first) (defScope s_M_first) [] [] (He.ma K (He.ga K "Locked") "first") fd := S.says.def_ 55 (d := d_Locked_first) rfl
theorem F_Locked_can_go (S : Ctx K mg) : ∃ fd, FunD K "can_go" "Machine.can_go" (defArgs s_M_can_go) (defBody s_M_can_go) (defScope s_M_can_go) [] [] (He.ma K (He.ga K "Locked") "can_go") fd := S.says.def_ 56 (d := d_Locked_can_go) rfl
theorem F_Locked_going (S : Ctx K mg) : ∃ fd, FunD K "going" "Machine.going" (defArgs s_M_going) (defBody s_M_going) (defScope s_M_going) [] [] (He.ma K (He.ga K "Locked") "going") fd := S.says.def_ 57 (d := d_Locked_going) rfl
theorem F_Locked_is_busy (S : Ctx K mg) : ∃ fd, FunD K "is_busy" "Machine.is_busy" (defArgs s_M_is_busy) (defBody s_M_is_busy) (defScope s_M_is_busy) [] [] (He.ma K (He.ga K "Locked") "is_busy") fd := S.says.def_ 58 (d := d_Locked_is_busy) rfl
theorem F_Locked_stepped (S : Ctx K mg) : ∃ fd, FunD K "stepped" "Machine.stepped" (defArgs s_M_stepped) (defBody s_M_stepped) (defScope s_M_stepped) [] [] (He.ma K (He.ga K "Locked") "stepped") fd := S.says.def_ 59 (d := d_Locked_stepped) rfl
theorem F_Locked_line (S : Ctx K mg) : ∃ fd, FunD K "line" "Machine.line" (defArgs s_M_line) (defBody s_M_line) (defScope s_M_line) [] [] (He.ma K (He.ga K "Locked") "line") fd := S.says.def_ 60 (d := d_Locked_line) rfl
theorem F_Locked_first_cells (S : Ctx K mg) : ∃ fd, FunD K "first_cells" "Locked.first_cells" (defArgs s_Locked_first_cells) (defBody s_Locked_first_cells) (defScope s_Locked_first_cells) [] [] (He.ma K (He.ga K "Locked") "first_cells") fd := S.says.def_ 61 (d := d_Locked_first_cells) rfl
theorem F_Locked_step (S : Ctx K mg) : ∃ fd, FunD K "step" "Locked.step" (defArgs s_Locked_step) (defBody s_Locked_step) (defScope s_Locked_step) [] [] (He.ma K (He.ga K "Locked") "step") fd := S.says.def_ 62 (d := d_Locked_step) rfl
theorem F_Locked_object_state (S : Ctx K mg) : ∃ fd, FunD K "object_state" "Locked.object_state" (defArgs s_Locked_object_state) (defBody s_Locked_object_state) (defScope s_Locked_object_state) [] [] (He.ma K (He.ga K "Locked") "object_state") fd := S.says.def_ 63 (d := d_Locked_object_state) rfl
theorem F_Locked_newly (S : Ctx K mg) : ∃ fd, FunD K "newly" "Locked.newly" (defArgs s_Locked_newly) (defBody s_Locked_newly) (defScope s_Locked_newly) [] [] (He.ma K (He.ga K "Locked") "newly") fd := S.says.def_ 64 (d := d_Locked_newly) rfl
theorem F_Naive_init (S : Ctx K mg) : ∃ fd, FunD K "__init__" "Machine.__init__" (defArgs s_M_init) (defBody s_M_init) (defScope s_M_init) [] [] (He.ma K (He.ga K "Naive") "__init__") fd := S.says.def_ 65 (d := d_Naive_init) rfl
theorem F_Naive_first (S : Ctx K mg) : ∃ fd, FunD K "first" "Machine.first" (defArgs s_M_first) (defBody s_M_first) (defScope s_M_first) [] [] (He.ma K (He.ga K "Naive") "first") fd := S.says.def_ 66 (d := d_Naive_first) rfl
theorem F_Naive_can_go (S : Ctx K mg) : ∃ fd, FunD K "can_go" "Machine.can_go" (defArgs s_M_can_go) (defBody s_M_can_go) (defScope s_M_can_go) [] [] (He.ma K (He.ga K "Naive") "can_go") fd := S.says.def_ 67 (d := d_Naive_can_go) rfl
theorem F_Naive_going (S : Ctx K mg) : ∃ fd, FunD K "going" "Machine.going" (defArgs s_M_going) (defBody s_M_going) (defScope s_M_going) [] [] (He.ma K (He.ga K "Naive") "going") fd := S.says.def_ 68 (d := d_Naive_going) rfl
theorem F_Naive_is_busy (S : Ctx K mg) : ∃ fd, FunD K "is_busy" "Machine.is_busy" (defArgs s_M_is_busy) (defBody s_M_is_busy) (defScope s_M_is_busy) [] [] (He.ma K (He.ga K "Naive") "is_busy") fd := S.says.def_ 69 (d := d_Naive_is_busy) rfl
theorem F_Naive_stepped (S : Ctx K mg) : ∃ fd, FunD K "stepped" "Machine.stepped" (defArgs s_M_stepped) (defBody s_M_stepped) (defScope s_M_stepped) [] [] (He.ma K (He.ga K "Naive") "stepped") fd := S.says.def_ 70 (d := d_Naive_stepped) rfl
theorem F_Naive_line (S : Ctx K mg) : ∃ fd, FunD K "line" "Machine.line" (defArgs s_M_line) (defBody s_M_line) (defScope s_M_line) [] [] (He.ma K (He.ga K "Naive") "line") fd := S.says.def_ 71 (d := d_Naive_line) rfl
theorem F_Naive_first_cells (S : Ctx K mg) : ∃ fd, FunD K "first_cells" "Naive.first_cells" (defArgs s_Naive_first_cells) (defBody s_Naive_first_cells) (defScope s_Naive_first_cells) [] [] (He.ma K (He.ga K "Naive") "first_cells") fd := S.says.def_ 72 (d := d_Naive_first_cells) rfl
theorem F_Naive_step (S : Ctx K mg) : ∃ fd, FunD K "step" "Naive.step" (defArgs s_Naive_step) (defBody s_Naive_step) (defScope s_Naive_step) [] [] (He.ma K (He.ga K "Naive") "step") fd := S.says.def_ 73 (d := d_Naive_step) rfl
theorem F_Naive_object_state (S : Ctx K mg) : ∃ fd, FunD K "object_state" "Naive.object_state" (defArgs s_Naive_object_state) (defBody s_Naive_object_state) (defScope s_Naive_object_state) [] [] (He.ma K (He.ga K "Naive") "object_state") fd := S.says.def_ 74 (d := d_Naive_object_state) rfl
theorem F_Naive_newly (S : Ctx K mg) : ∃ fd, FunD K "newly" "Naive.newly" (defArgs s_Naive_newly) (defBody s_Naive_newly) (defScope s_Naive_newly) [] [] (He.ma K (He.ga K "Naive") "newly") fd := S.says.def_ 75 (d := d_Naive_newly) rfl
theorem g_is_small (S : Ctx K mg) : mg "is_small" = some (.ref (He.ga K "is_small")) := by obtain ⟨h, X, G⟩ := S.hp; exact He.glo_ok X G (S.says.fact 0 (f := .glo "is_small") rfl)
theorem g_is_table (S : Ctx K mg) : mg "is_table" = some (.ref (He.ga K "is_table")) := by obtain ⟨h, X, G⟩ := S.hp; exact He.glo_ok X G (S.says.fact 1 (f := .glo "is_table") rfl)
theorem g_is_bank (S : Ctx K mg) : mg "is_bank" = some (.ref (He.ga K "is_bank")) := by obtain ⟨h, X, G⟩ := S.hp; exact He.glo_ok X G (S.says.fact 2 (f := .glo "is_bank") rfl)
theorem g_is_kind (S : Ctx K mg) : mg "is_kind" = some (.ref (He.ga K "is_kind")) := by obtain ⟨h, X, G⟩ := S.hp; exact He.glo_ok X G (S.says.fact 3 (f := .glo "is_kind") rfl)
theorem g_first_in (S : Ctx K mg) : mg "first_in" = some (.ref (He.ga K "first_in")) := by obtain ⟨h, X, G⟩ := S.hp; exact He.glo_ok X G (S.says.fact 4 (f := .glo "first_in") rfl)
theorem g_calls_in (S : Ctx K mg) : mg "calls_in" = some (.ref (He.ga K "calls_in")) := by obtain ⟨h, X, G⟩ := S.hp; exact He.glo_ok X G (S.says.fact 5 (f := .glo "calls_in") rfl)
theorem g_bank_calls (S : Ctx K mg) : mg "bank_calls" = some (.ref (He.ga K "bank_calls")) := by obtain ⟨h, X, G⟩ := S.hp; exact He.glo_ok X G (S.says.fact 6 (f := .glo "bank_calls") rfl)
theorem g_applied_in (S : Ctx K mg) : mg "applied_in" = some (.ref (He.ga K "applied_in")) := by obtain ⟨h, X, G⟩ := S.hp; exact He.glo_ok X G (S.says.fact 7 (f := .glo "applied_in") rfl)
theorem g_on_stack (S : Ctx K mg) : mg "on_stack" = some (.ref (He.ga K "on_stack")) := by obtain ⟨h, X, G⟩ := S.hp; exact He.glo_ok X G (S.says.fact 8 (f := .glo "on_stack") rfl)
theorem g_on_queue (S : Ctx K mg) : mg "on_queue" = some (.ref (He.ga K "on_queue")) := by obtain ⟨h, X, G⟩ := S.hp; exact He.glo_ok X G (S.says.fact 9 (f := .glo "on_queue") rfl)
theorem g_on_set (S : Ctx K mg) : mg "on_set" = some (.ref (He.ga K "on_set")) := by obtain ⟨h, X, G⟩ := S.hp; exact He.glo_ok X G (S.says.fact 10 (f := .glo "on_set") rfl)
theorem g_on_bank (S : Ctx K mg) : mg "on_bank" = some (.ref (He.ga K "on_bank")) := by obtain ⟨h, X, G⟩ := S.hp; exact He.glo_ok X G (S.says.fact 11 (f := .glo "on_bank") rfl)
theorem g_need_object (S : Ctx K mg) : mg "need_object" = some (.ref (He.ga K "need_object")) := by obtain ⟨h, X, G⟩ := S.hp; exact He.glo_ok X G (S.says.fact 12 (f := .glo "need_object") rfl)
theorem g_is_plain_tuple (S : Ctx K mg) : mg "is_plain_tuple" = some (.ref (He.ga K "is_plain_tuple")) := by obtain ⟨h, X, G⟩ := S.hp; exact He.glo_ok X G (S.says.fact 13 (f := .glo "is_plain_tuple") rfl)
theorem g_is_call_of (S : Ctx K mg) : mg "is_call_of" = some (.ref (He.ga K "is_call_of")) := by obtain ⟨h, X, G⟩ := S.hp; exact He.glo_ok X G (S.says.fact 14 (f := .glo "is_call_of") rfl)
theorem g_need_call (S : Ctx K mg) : mg "need_call" = some (.ref (He.ga K "need_call")) := by obtain ⟨h, X, G⟩ := S.hp; exact He.glo_ok X G (S.says.fact 15 (f := .glo "need_call") rfl)
theorem g_are_plans (S : Ctx K mg) : mg "are_plans" = some (.ref (He.ga K "are_plans")) := by obtain ⟨h, X, G⟩ := S.hp; exact He.glo_ok X G (S.says.fact 16 (f := .glo "are_plans") rfl)
theorem g_need_plans (S : Ctx K mg) : mg "need_plans" = some (.ref (He.ga K "need_plans")) := by obtain ⟨h, X, G⟩ := S.hp; exact He.glo_ok X G (S.says.fact 17 (f := .glo "need_plans") rfl)
theorem g_need_weaving (S : Ctx K mg) : mg "need_weaving" = some (.ref (He.ga K "need_weaving")) := by obtain ⟨h, X, G⟩ := S.hp; exact He.glo_ok X G (S.says.fact 18 (f := .glo "need_weaving") rfl)
theorem g_made (S : Ctx K mg) : mg "made" = some (.ref (He.ga K "made")) := by obtain ⟨h, X, G⟩ := S.hp; exact He.glo_ok X G (S.says.fact 19 (f := .glo "made") rfl)
theorem g_line_of (S : Ctx K mg) : mg "line_of" = some (.ref (He.ga K "line_of")) := by obtain ⟨h, X, G⟩ := S.hp; exact He.glo_ok X G (S.says.fact 20 (f := .glo "line_of") rfl)
theorem g_history_of (S : Ctx K mg) : mg "history_of" = some (.ref (He.ga K "history_of")) := by obtain ⟨h, X, G⟩ := S.hp; exact He.glo_ok X G (S.says.fact 21 (f := .glo "history_of") rfl)
theorem g_own_steps (S : Ctx K mg) : mg "own_steps" = some (.ref (He.ga K "own_steps")) := by obtain ⟨h, X, G⟩ := S.hp; exact He.glo_ok X G (S.says.fact 22 (f := .glo "own_steps") rfl)
theorem g_state_behind (S : Ctx K mg) : mg "state_behind" = some (.ref (He.ga K "state_behind")) := by obtain ⟨h, X, G⟩ := S.hp; exact He.glo_ok X G (S.says.fact 23 (f := .glo "state_behind") rfl)
theorem g_going (S : Ctx K mg) : mg "going" = some (.ref (He.ga K "going")) := by obtain ⟨h, X, G⟩ := S.hp; exact He.glo_ok X G (S.says.fact 24 (f := .glo "going") rfl)
theorem g_applied_order (S : Ctx K mg) : mg "applied_order" = some (.ref (He.ga K "applied_order")) := by obtain ⟨h, X, G⟩ := S.hp; exact He.glo_ok X G (S.says.fact 25 (f := .glo "applied_order") rfl)
theorem g_alone (S : Ctx K mg) : mg "alone" = some (.ref (He.ga K "alone")) := by obtain ⟨h, X, G⟩ := S.hp; exact He.glo_ok X G (S.says.fact 26 (f := .glo "alone") rfl)
theorem g_starving (S : Ctx K mg) : mg "starving" = some (.ref (He.ga K "starving")) := by obtain ⟨h, X, G⟩ := S.hp; exact He.glo_ok X G (S.says.fact 27 (f := .glo "starving") rfl)
theorem g_L_taken (S : Ctx K mg) : mg "_law_taken" = some (.ref (He.ga K "_law_taken")) := by obtain ⟨h, X, G⟩ := S.hp; exact He.glo_ok X G (S.says.fact 28 (f := .glo "_law_taken") rfl)
theorem g_L_pick (S : Ctx K mg) : mg "_law_pick" = some (.ref (He.ga K "_law_pick")) := by obtain ⟨h, X, G⟩ := S.hp; exact He.glo_ok X G (S.says.fact 29 (f := .glo "_law_pick") rfl)
theorem g_L_alike (S : Ctx K mg) : mg "_law_alike" = some (.ref (He.ga K "_law_alike")) := by obtain ⟨h, X, G⟩ := S.hp; exact He.glo_ok X G (S.says.fact 30 (f := .glo "_law_alike") rfl)
theorem g_L_object (S : Ctx K mg) : mg "_law_object" = some (.ref (He.ga K "_law_object")) := by obtain ⟨h, X, G⟩ := S.hp; exact He.glo_ok X G (S.says.fact 31 (f := .glo "_law_object") rfl)
theorem g_L_calls (S : Ctx K mg) : mg "_law_calls" = some (.ref (He.ga K "_law_calls")) := by obtain ⟨h, X, G⟩ := S.hp; exact He.glo_ok X G (S.says.fact 32 (f := .glo "_law_calls") rfl)
theorem g_L_first (S : Ctx K mg) : mg "_law_first" = some (.ref (He.ga K "_law_first")) := by obtain ⟨h, X, G⟩ := S.hp; exact He.glo_ok X G (S.says.fact 33 (f := .glo "_law_first") rfl)
theorem g_L_do (S : Ctx K mg) : mg "_law_do" = some (.ref (He.ga K "_law_do")) := by obtain ⟨h, X, G⟩ := S.hp; exact He.glo_ok X G (S.says.fact 34 (f := .glo "_law_do") rfl)
theorem g_L_step (S : Ctx K mg) : mg "_law_step" = some (.ref (He.ga K "_law_step")) := by obtain ⟨h, X, G⟩ := S.hp; exact He.glo_ok X G (S.says.fact 35 (f := .glo "_law_step") rfl)
theorem g_L_ends (S : Ctx K mg) : mg "_law_ends" = some (.ref (He.ga K "_law_ends")) := by obtain ⟨h, X, G⟩ := S.hp; exact He.glo_ok X G (S.says.fact 36 (f := .glo "_law_ends") rfl)
theorem g_L_fresh (S : Ctx K mg) : mg "_law_fresh" = some (.ref (He.ga K "_law_fresh")) := by obtain ⟨h, X, G⟩ := S.hp; exact He.glo_ok X G (S.says.fact 37 (f := .glo "_law_fresh") rfl)
theorem g_L_run (S : Ctx K mg) : mg "_law_run" = some (.ref (He.ga K "_law_run")) := by obtain ⟨h, X, G⟩ := S.hp; exact He.glo_ok X G (S.says.fact 38 (f := .glo "_law_run") rfl)
theorem g_L_plans (S : Ctx K mg) : mg "_law_plans" = some (.ref (He.ga K "_law_plans")) := by obtain ⟨h, X, G⟩ := S.hp; exact He.glo_ok X G (S.says.fact 39 (f := .glo "_law_plans") rfl)
theorem g_L_weave (S : Ctx K mg) : mg "_law_weave" = some (.ref (He.ga K "_law_weave")) := by obtain ⟨h, X, G⟩ := S.hp; exact He.glo_ok X G (S.says.fact 40 (f := .glo "_law_weave") rfl)
theorem g_L_alone (S : Ctx K mg) : mg "_law_alone" = some (.ref (He.ga K "_law_alone")) := by obtain ⟨h, X, G⟩ := S.hp; exact He.glo_ok X G (S.says.fact 41 (f := .glo "_law_alone") rfl)
theorem g_law (S : Ctx K mg) : mg "law" = some (.ref (He.ga K "law")) := by obtain ⟨h, X, G⟩ := S.hp; exact He.glo_ok X G (S.says.fact 42 (f := .glo "law") rfl)
theorem b_len (S : Ctx K mg) : mg "len" = none := by obtain ⟨h, X, G⟩ := S.hp; exact He.free_ok X G (S.says.fact 43 (f := .free "len") rfl)
theorem b_isinstance (S : Ctx K mg) : mg "isinstance" = none := by obtain ⟨h, X, G⟩ := S.hp; exact He.free_ok X G (S.says.fact 44 (f := .free "isinstance") rfl)
theorem b_int (S : Ctx K mg) : mg "int" = none := by obtain ⟨h, X, G⟩ := S.hp; exact He.free_ok X G (S.says.fact 45 (f := .free "int") rfl)
theorem b_bool (S : Ctx K mg) : mg "bool" = none := by obtain ⟨h, X, G⟩ := S.hp; exact He.free_ok X G (S.says.fact 46 (f := .free "bool") rfl)
theorem b_str (S : Ctx K mg) : mg "str" = none := by obtain ⟨h, X, G⟩ := S.hp; exact He.free_ok X G (S.says.fact 47 (f := .free "str") rfl)
theorem b_tuple (S : Ctx K mg) : mg "tuple" = none := by obtain ⟨h, X, G⟩ := S.hp; exact He.free_ok X G (S.says.fact 48 (f := .free "tuple") rfl)
theorem b_list (S : Ctx K mg) : mg "list" = none := by obtain ⟨h, X, G⟩ := S.hp; exact He.free_ok X G (S.says.fact 49 (f := .free "list") rfl)
theorem b_all (S : Ctx K mg) : mg "all" = none := by obtain ⟨h, X, G⟩ := S.hp; exact He.free_ok X G (S.says.fact 50 (f := .free "all") rfl)
theorem b_range (S : Ctx K mg) : mg "range" = none := by obtain ⟨h, X, G⟩ := S.hp; exact He.free_ok X G (S.says.fact 51 (f := .free "range") rfl)
theorem b_sorted (S : Ctx K mg) : mg "sorted" = none := by obtain ⟨h, X, G⟩ := S.hp; exact He.free_ok X G (S.says.fact 52 (f := .free "sorted") rfl)
theorem i_MOST_VALUES (S : Ctx K mg) : ∃ t, mg "MOST_VALUES" = some (.int 5 t) := by obtain ⟨h, X, G⟩ := S.hp; exact He.int_ok X G (S.says.fact 53 (f := .int "MOST_VALUES" 5) rfl)
theorem i_MOST_ROOM (S : Ctx K mg) : ∃ t, mg "MOST_ROOM" = some (.int 3 t) := by obtain ⟨h, X, G⟩ := S.hp; exact He.int_ok X G (S.says.fact 54 (f := .int "MOST_ROOM" 3) rfl)
theorem i_MOST_THREADS (S : Ctx K mg) : ∃ t, mg "MOST_THREADS" = some (.int 4 t) := by obtain ⟨h, X, G⟩ := S.hp; exact He.int_ok X G (S.says.fact 55 (f := .int "MOST_THREADS" 4) rfl)
theorem i_MOST_CALLS (S : Ctx K mg) : ∃ t, mg "MOST_CALLS" = some (.int 8 t) := by obtain ⟨h, X, G⟩ := S.hp; exact He.int_ok X G (S.says.fact 56 (f := .int "MOST_CALLS" 8) rfl)
theorem i_MOST_STEPS (S : Ctx K mg) : ∃ t, mg "MOST_STEPS" = some (.int 400 t) := by obtain ⟨h, X, G⟩ := S.hp; exact He.int_ok X G (S.says.fact 57 (f := .int "MOST_STEPS" 400) rfl)
theorem gc_Retried (S : Ctx K mg) : mg "Retried" = some (.ref (He.ga K "Retried")) := by obtain ⟨h, X, G⟩ := S.hp; exact He.glo_ok X G (S.says.fact 58 (f := .glo "Retried") rfl)
theorem cl_Retried (S : Ctx K mg) : Cls K (He.ga K "Retried") := He.cls_ok (S.says.fact 59 (f := .cls "Retried") rfl)
theorem mk_Retried (S : Ctx K mg) : Mk K (He.ga K "Retried") (He.ma K (He.ga K "Retried") "__init__") := He.mkr_ok (S.says.fact 60 (f := .mkr "Retried") rfl)
theorem no_Retried_thing (S : Ctx K mg) : NoAttr K (He.ga K "Retried") "thing" := He.noat_ok (S.says.fact 61 (f := .noat "Retried" "thing") rfl)
theorem no_Retried_plans (S : Ctx K mg) : NoAttr K (He.ga K "Retried") "plans" := He.noat_ok (S.says.fact 62 (f := .noat "Retried" "plans") rfl)
theorem no_Retried_many (S : Ctx K mg) : NoAttr K (He.ga K "Retried") "many" := He.noat_ok (S.says.fact 63 (f := .noat "Retried" "many") rfl)
theorem M_Retried_first (S : Ctx K mg) : Meth K (He.ga K "Retried") "first" (He.ma K (He.ga K "Retried") "first") := He.meth_ok (S.says.fact 64 (f := .meth "Retried" "first") rfl)
theorem M_Retried_can_go (S : Ctx K mg) : Meth K (He.ga K "Retried") "can_go" (He.ma K (He.ga K "Retried") "can_go") := He.meth_ok (S.says.fact 65 (f := .meth "Retried" "can_go") rfl)
theorem M_Retried_going (S : Ctx K mg) : Meth K (He.ga K "Retried") "going" (He.ma K (He.ga K "Retried") "going") := He.meth_ok (S.says.fact 66 (f := .meth "Retried" "going") rfl)
theorem M_Retried_is_busy (S : Ctx K mg) : Meth K (He.ga K "Retried") "is_busy" (He.ma K (He.ga K "Retried") "is_busy") := He.meth_ok (S.says.fact 67 (f := .meth "Retried" "is_busy") rfl)
theorem M_Retried_stepped (S : Ctx K mg) : Meth K (He.ga K "Retried") "stepped" (He.ma K (He.ga K "Retried") "stepped") := He.meth_ok (S.says.fact 68 (f := .meth "Retried" "stepped") rfl)
theorem M_Retried_line (S : Ctx K mg) : Meth K (He.ga K "Retried") "line" (He.ma K (He.ga K "Retried") "line") := He.meth_ok (S.says.fact 69 (f := .meth "Retried" "line") rfl)
theorem M_Retried_first_cells (S : Ctx K mg) : Meth K (He.ga K "Retried") "first_cells" (He.ma K (He.ga K "Retried") "first_cells") := He.meth_ok (S.says.fact 70 (f := .meth "Retried" "first_cells") rfl)
theorem M_Retried_step (S : Ctx K mg) : Meth K (He.ga K "Retried") "step" (He.ma K (He.ga K "Retried") "step") := He.meth_ok (S.says.fact 71 (f := .meth "Retried" "step") rfl)
theorem M_Retried_object_state (S : Ctx K mg) : Meth K (He.ga K "Retried") "object_state" (He.ma K (He.ga K "Retried") "object_state") := He.meth_ok (S.says.fact 72 (f := .meth "Retried" "object_state") rfl)
theorem M_Retried_newly (S : Ctx K mg) : Meth K (He.ga K "Retried") "newly" (He.ma K (He.ga K "Retried") "newly") := He.meth_ok (S.says.fact 73 (f := .meth "Retried" "newly") rfl)
theorem gc_Locked (S : Ctx K mg) : mg "Locked" = some (.ref (He.ga K "Locked")) := by obtain ⟨h, X, G⟩ := S.hp; exact He.glo_ok X G (S.says.fact 74 (f := .glo "Locked") rfl)
theorem cl_Locked (S : Ctx K mg) : Cls K (He.ga K "Locked") := He.cls_ok (S.says.fact 75 (f := .cls "Locked") rfl)
theorem mk_Locked (S : Ctx K mg) : Mk K (He.ga K "Locked") (He.ma K (He.ga K "Locked") "__init__") := He.mkr_ok (S.says.fact 76 (f := .mkr "Locked") rfl)
theorem no_Locked_thing (S : Ctx K mg) : NoAttr K (He.ga K "Locked") "thing" := He.noat_ok (S.says.fact 77 (f := .noat "Locked" "thing") rfl)
theorem no_Locked_plans (S : Ctx K mg) : NoAttr K (He.ga K "Locked") "plans" := He.noat_ok (S.says.fact 78 (f := .noat "Locked" "plans") rfl)
theorem no_Locked_many (S : Ctx K mg) : NoAttr K (He.ga K "Locked") "many" := He.noat_ok (S.says.fact 79 (f := .noat "Locked" "many") rfl)
theorem M_Locked_first (S : Ctx K mg) : Meth K (He.ga K "Locked") "first" (He.ma K (He.ga K "Locked") "first") := He.meth_ok (S.says.fact 80 (f := .meth "Locked" "first") rfl)
theorem M_Locked_can_go (S : Ctx K mg) : Meth K (He.ga K "Locked") "can_go" (He.ma K (He.ga K "Locked") "can_go") := He.meth_ok (S.says.fact 81 (f := .meth "Locked" "can_go") rfl)
theorem M_Locked_going (S : Ctx K mg) : Meth K (He.ga K "Locked") "going" (He.ma K (He.ga K "Locked") "going") := He.meth_ok (S.says.fact 82 (f := .meth "Locked" "going") rfl)
theorem M_Locked_is_busy (S : Ctx K mg) : Meth K (He.ga K "Locked") "is_busy" (He.ma K (He.ga K "Locked") "is_busy") := He.meth_ok (S.says.fact 83 (f := .meth "Locked" "is_busy") rfl)
theorem M_Locked_stepped (S : Ctx K mg) : Meth K (He.ga K "Locked") "stepped" (He.ma K (He.ga K "Locked") "stepped") := He.meth_ok (S.says.fact 84 (f := .meth "Locked" "stepped") rfl)
theorem M_Locked_line (S : Ctx K mg) : Meth K (He.ga K "Locked") "line" (He.ma K (He.ga K "Locked") "line") := He.meth_ok (S.says.fact 85 (f := .meth "Locked" "line") rfl)
theorem M_Locked_first_cells (S : Ctx K mg) : Meth K (He.ga K "Locked") "first_cells" (He.ma K (He.ga K "Locked") "first_cells") := He.meth_ok (S.says.fact 86 (f := .meth "Locked" "first_cells") rfl)
theorem M_Locked_step (S : Ctx K mg) : Meth K (He.ga K "Locked") "step" (He.ma K (He.ga K "Locked") "step") := He.meth_ok (S.says.fact 87 (f := .meth "Locked" "step") rfl)
theorem M_Locked_object_state (S : Ctx K mg) : Meth K (He.ga K "Locked") "object_state" (He.ma K (He.ga K "Locked") "object_state") := He.meth_ok (S.says.fact 88 (f := .meth "Locked" "object_state") rfl)
theorem M_Locked_newly (S : Ctx K mg) : Meth K (He.ga K "Locked") "newly" (He.ma K (He.ga K "Locked") "newly") := He.meth_ok (S.says.fact 89 (f := .meth "Locked" "newly") rfl)
theorem gc_Naive (S : Ctx K mg) : mg "Naive" = some (.ref (He.ga K "Naive")) := by obtain ⟨h, X, G⟩ := S.hp; exact He.glo_ok X G (S.says.fact 90 (f := .glo "Naive") rfl)
theorem cl_Naive (S : Ctx K mg) : Cls K (He.ga K "Naive") := He.cls_ok (S.says.fact 91 (f := .cls "Naive") rfl)
theorem mk_Naive (S : Ctx K mg) : Mk K (He.ga K "Naive") (He.ma K (He.ga K "Naive") "__init__") := He.mkr_ok (S.says.fact 92 (f := .mkr "Naive") rfl)
theorem no_Naive_thing (S : Ctx K mg) : NoAttr K (He.ga K "Naive") "thing" := He.noat_ok (S.says.fact 93 (f := .noat "Naive" "thing") rfl)
theorem no_Naive_plans (S : Ctx K mg) : NoAttr K (He.ga K "Naive") "plans" := He.noat_ok (S.says.fact 94 (f := .noat "Naive" "plans") rfl)
theorem no_Naive_many (S : Ctx K mg) : NoAttr K (He.ga K "Naive") "many" := He.noat_ok (S.says.fact 95 (f := .noat "Naive" "many") rfl)
theorem M_Naive_first (S : Ctx K mg) : Meth K (He.ga K "Naive") "first" (He.ma K (He.ga K "Naive") "first") := He.meth_ok (S.says.fact 96 (f := .meth "Naive" "first") rfl)
theorem M_Naive_can_go (S : Ctx K mg) : Meth K (He.ga K "Naive") "can_go" (He.ma K (He.ga K "Naive") "can_go") := He.meth_ok (S.says.fact 97 (f := .meth "Naive" "can_go") rfl)
theorem M_Naive_going (S : Ctx K mg) : Meth K (He.ga K "Naive") "going" (He.ma K (He.ga K "Naive") "going") := He.meth_ok (S.says.fact 98 (f := .meth "Naive" "going") rfl)
theorem M_Naive_is_busy (S : Ctx K mg) : Meth K (He.ga K "Naive") "is_busy" (He.ma K (He.ga K "Naive") "is_busy") := He.meth_ok (S.says.fact 99 (f := .meth "Naive" "is_busy") rfl)
theorem M_Naive_stepped (S : Ctx K mg) : Meth K (He.ga K "Naive") "stepped" (He.ma K (He.ga K "Naive") "stepped") := He.meth_ok (S.says.fact 100 (f := .meth "Naive" "stepped") rfl)
theorem M_Naive_line (S : Ctx K mg) : Meth K (He.ga K "Naive") "line" (He.ma K (He.ga K "Naive") "line") := He.meth_ok (S.says.fact 101 (f := .meth "Naive" "line") rfl)
theorem M_Naive_first_cells (S : Ctx K mg) : Meth K (He.ga K "Naive") "first_cells" (He.ma K (He.ga K "Naive") "first_cells") := He.meth_ok (S.says.fact 102 (f := .meth "Naive" "first_cells") rfl)
theorem M_Naive_step (S : Ctx K mg) : Meth K (He.ga K "Naive") "step" (He.ma K (He.ga K "Naive") "step") := He.meth_ok (S.says.fact 103 (f := .meth "Naive" "step") rfl)
theorem M_Naive_object_state (S : Ctx K mg) : Meth K (He.ga K "Naive") "object_state" (He.ma K (He.ga K "Naive") "object_state") := He.meth_ok (S.says.fact 104 (f := .meth "Naive" "object_state") rfl)
theorem M_Naive_newly (S : Ctx K mg) : Meth K (He.ga K "Naive") "newly" (He.ma K (He.ga K "Naive") "newly") := He.meth_ok (S.says.fact 105 (f := .meth "Naive" "newly") rfl)
end
end H6
namespace H6
open PySem PySem.Spec PyProof.Rows L2
theorem run (w : World) : HandSHeadRun.RunEq R (PySem.W.view R.prog [73]) hk ob 15000 loose w := by
  intro os
  kernel_rfl
end H6
namespace H6
open PySem PySem.Spec PyProof.Rows L2
abbrev n_is_small : List Str := ["value", "low", "high"]
abbrev p_is_small : List Str := ["value", "low", "high"]
theorem sc_is_small : FnScope n_is_small p_is_small (defScope s_is_small) := ⟨rfl, rfl, rfl, by decide +kernel, rfl, by decide +kernel, by decide +kernel⟩
theorem bd_is_small {K : PySem.W.Frag} {f : Addr} {fd : FuncData} {x q : Str} (F : FunD K x q (defArgs s_is_small) (defBody s_is_small) (defScope s_is_small) [] [] f fd) : Binds K fd p_is_small [] := F.bindsN fun _ _ _ _ _ _ us hl => match us, hl with | [_, _, _], _ => rfl
abbrev n_is_table : List Str := ["rows", "row", "one"]
abbrev p_is_table : List Str := ["rows"]
theorem sc_is_table : FnScope n_is_table p_is_table (defScope s_is_table) := ⟨rfl, rfl, rfl, by decide +kernel, rfl, by decide +kernel, by decide +kernel⟩
theorem bd_is_table {K : PySem.W.Frag} {f : Addr} {fd : FuncData} {x q : Str} (F : FunD K x q (defArgs s_is_table) (defBody s_is_table) (defScope s_is_table) [] [] f fd) : Binds K fd p_is_table [] := F.bindsN fun _ _ _ _ _ _ us hl => match us, hl with | [_], _ => rfl
abbrev n_is_bank : List Str := ["first", "one"]
abbrev p_is_bank : List Str := ["first"]
theorem sc_is_bank : FnScope n_is_bank p_is_bank (defScope s_is_bank) := ⟨rfl, rfl, rfl, by decide +kernel, rfl, by decide +kernel, by decide +kernel⟩
theorem bd_is_bank {K : PySem.W.Frag} {f : Addr} {fd : FuncData} {x q : Str} (F : FunD K x q (defArgs s_is_bank) (defBody s_is_bank) (defScope s_is_bank) [] [] f fd) : Binds K fd p_is_bank [] := F.bindsN fun _ _ _ _ _ _ us hl => match us, hl with | [_], _ => rfl
abbrev n_is_kind : List Str := ["value", "name"]
abbrev p_is_kind : List Str := ["value"]
theorem sc_is_kind : FnScope n_is_kind p_is_kind (defScope s_is_kind) := ⟨rfl, rfl, rfl, by decide +kernel, rfl, by decide +kernel, by decide +kernel⟩
theorem bd_is_kind {K : PySem.W.Frag} {f : Addr} {fd : FuncData} {x q : Str} (F : FunD K x q (defArgs s_is_kind) (defBody s_is_kind) (defScope s_is_kind) [] [] f fd) : Binds K fd p_is_kind [] := F.bindsN fun _ _ _ _ _ _ us hl => match us, hl with | [_], _ => rfl
abbrev n_first_in : List Str := ["thing", "name"]
abbrev p_first_in : List Str := ["thing"]
theorem sc_first_in : FnScope n_first_in p_first_in (defScope s_first_in) := ⟨rfl, rfl, rfl, by decide +kernel, rfl, by decide +kernel, by decide +kernel⟩
theorem bd_first_in {K : PySem.W.Frag} {f : Addr} {fd : FuncData} {x q : Str} (F : FunD K x q (defArgs s_first_in) (defBody s_first_in) (defScope s_first_in) [] [] f fd) : Binds K fd p_first_in [] := F.bindsN fun _ _ _ _ _ _ us hl => match us, hl with | [_], _ => rfl
abbrev n_calls_in : List Str := ["thing", "name", "k", "word"]
abbrev p_calls_in : List Str := ["thing"]
theorem sc_calls_in : FnScope n_calls_in p_calls_in (defScope s_calls_in) := ⟨rfl, rfl, rfl, by decide +kernel, rfl, by decide +kernel, by decide +kernel⟩
theorem bd_calls_in {K : PySem.W.Frag} {f : Addr} {fd : FuncData} {x q : Str} (F : FunD K x q (defArgs s_calls_in) (defBody s_calls_in) (defScope s_calls_in) [] [] f fd) : Binds K fd p_calls_in [] := F.bindsN fun _ _ _ _ _ _ us hl => match us, hl with | [_], _ => rfl
abbrev n_bank_calls : List Str := ["many", "found", "k", "one", "other", "amount"]
abbrev p_bank_calls : List Str := ["many"]
theorem sc_bank_calls : FnScope n_bank_calls p_bank_calls (defScope s_bank_calls) := ⟨rfl, rfl, rfl, by decide +kernel, rfl, by decide +kernel, by decide +kernel⟩
theorem bd_bank_calls {K : PySem.W.Frag} {f : Addr} {fd : FuncData} {x q : Str} (F : FunD K x q (defArgs s_bank_calls) (defBody s_bank_calls) (defScope s_bank_calls) [] [] f fd) : Binds K fd p_bank_calls [] := F.bindsN fun _ _ _ _ _ _ us hl => match us, hl with | [_], _ => rfl
abbrev n_applied_in : List Str := ["thing", "state", "call", "name"]
abbrev p_applied_in : List Str := ["thing", "state", "call"]
theorem sc_applied_in : FnScope n_applied_in p_applied_in (defScope s_applied_in) := ⟨rfl, rfl, rfl, by decide +kernel, rfl, by decide +kernel, by decide +kernel⟩
theorem bd_applied_in {K : PySem.W.Frag} {f : Addr} {fd : FuncData} {x q : Str} (F : FunD K x q (defArgs s_applied_in) (defBody s_applied_in) (defScope s_applied_in) [] [] f fd) : Binds K fd p_applied_in [] := F.bindsN fun _ _ _ _ _ _ us hl => match us, hl with | [_, _, _], _ => rfl
abbrev n_on_stack : List Str := ["thing", "state", "call"]
abbrev p_on_stack : List Str := ["thing", "state", "call"]
theorem sc_on_stack : FnScope n_on_stack p_on_stack (defScope s_on_stack) := ⟨rfl, rfl, rfl, by decide +kernel, rfl, by decide +kernel, by decide +kernel⟩
theorem bd_on_stack {K : PySem.W.Frag} {f : Addr} {fd : FuncData} {x q : Str} (F : FunD K x q (defArgs s_on_stack) (defBody s_on_stack) (defScope s_on_stack) [] [] f fd) : Binds K fd p_on_stack [] := F.bindsN fun _ _ _ _ _ _ us hl => match us, hl with | [_, _, _], _ => rfl
abbrev n_on_queue : List Str := ["thing", "state", "call"]
abbrev p_on_queue : List Str := ["thing", "state", "call"]
theorem sc_on_queue : FnScope n_on_queue p_on_queue (defScope s_on_queue) := ⟨rfl, rfl, rfl, by decide +kernel, rfl, by decide +kernel, by decide +kernel⟩
theorem bd_on_queue {K : PySem.W.Frag} {f : Addr} {fd : FuncData} {x q : Str} (F : FunD K x q (defArgs s_on_queue) (defBody s_on_queue) (defScope s_on_queue) [] [] f fd) : Binds K fd p_on_queue [] := F.bindsN fun _ _ _ _ _ _ us hl => match us, hl with | [_, _, _], _ => rfl
abbrev n_on_set : List Str := ["state", "call", "is_in", "one"]
abbrev p_on_set : List Str := ["state", "call"]
theorem sc_on_set : FnScope n_on_set p_on_set (defScope s_on_set) := ⟨rfl, rfl, rfl, by decide +kernel, rfl, by decide +kernel, by decide +kernel⟩
theorem bd_on_set {K : PySem.W.Frag} {f : Addr} {fd : FuncData} {x q : Str} (F : FunD K x q (defArgs s_on_set) (defBody s_on_set) (defScope s_on_set) [] [] f fd) : Binds K fd p_on_set [] := F.bindsN fun _ _ _ _ _ _ us hl => match us, hl with | [_, _], _ => rfl
abbrev n_on_bank : List Str := ["state", "call", "one", "other", "amount", "found"]
abbrev p_on_bank : List Str := ["state", "call"]
theorem sc_on_bank : FnScope n_on_bank p_on_bank (defScope s_on_bank) := ⟨rfl, rfl, rfl, by decide +kernel, rfl, by decide +kernel, by decide +kernel⟩
theorem bd_on_bank {K : PySem.W.Frag} {f : Addr} {fd : FuncData} {x q : Str} (F : FunD K x q (defArgs s_on_bank) (defBody s_on_bank) (defScope s_on_bank) [] [] f fd) : Binds K fd p_on_bank [] := F.bindsN fun _ _ _ _ _ _ us hl => match us, hl with | [_, _], _ => rfl
abbrev n_M_init : List Str := ["self", "thing", "plans"]
abbrev p_M_init : List Str := ["self", "thing", "plans"]
theorem sc_M_init : FnScope n_M_init p_M_init (defScope s_M_init) := ⟨rfl, rfl, rfl, by decide +kernel, rfl, by decide +kernel, by decide +kernel⟩
theorem bd_M_init {K : PySem.W.Frag} {f : Addr} {fd : FuncData} {x q : Str} (F : FunD K x q (defArgs s_M_init) (defBody s_M_init) (defScope s_M_init) [] [] f fd) : Binds K fd p_M_init [] := F.bindsN fun _ _ _ _ _ _ us hl => match us, hl with | [_, _, _], _ => rfl
abbrev n_M_first : List Str := ["self", "plan"]
abbrev p_M_first : List Str := ["self"]
theorem sc_M_first : FnScope n_M_first p_M_first (defScope s_M_first) := ⟨rfl, rfl, rfl, by decide +kernel, rfl, by decide +kernel, by decide +kernel⟩
theorem bd_M_first {K : PySem.W.Frag} {f : Addr} {fd : FuncData} {x q : Str} (F : FunD K x q (defArgs s_M_first) (defBody s_M_first) (defScope s_M_first) [] [] f fd) : Binds K fd p_M_first [] := F.bindsN fun _ _ _ _ _ _ us hl => match us, hl with | [_], _ => rfl
abbrev n_M_can_go : List Str := ["self", "standing", "thread"]
abbrev p_M_can_go : List Str := ["self", "standing", "thread"]
theorem sc_M_can_go : FnScope n_M_can_go p_M_can_go (defScope s_M_can_go) := ⟨rfl, rfl, rfl, by decide +kernel, rfl, by decide +kernel, by decide +kernel⟩
theorem bd_M_can_go {K : PySem.W.Frag} {f : Addr} {fd : FuncData} {x q : Str} (F : FunD K x q (defArgs s_M_can_go) (defBody s_M_can_go) (defScope s_M_can_go) [] [] f fd) : Binds K fd p_M_can_go [] := F.bindsN fun _ _ _ _ _ _ us hl => match us, hl with | [_, _, _], _ => rfl
abbrev n_M_going : List Str := ["self", "standing", "thread"]
abbrev p_M_going : List Str := ["self", "standing"]
theorem sc_M_going : FnScope n_M_going p_M_going (defScope s_M_going) := ⟨rfl, rfl, rfl, by decide +kernel, rfl, by decide +kernel, by decide +kernel⟩
theorem bd_M_going {K : PySem.W.Frag} {f : Addr} {fd : FuncData} {x q : Str} (F : FunD K x q (defArgs s_M_going) (defBody s_M_going) (defScope s_M_going) [] [] f fd) : Binds K fd p_M_going [] := F.bindsN fun _ _ _ _ _ _ us hl => match us, hl with | [_, _], _ => rfl
abbrev n_M_is_busy : List Str := ["self", "standing", "thread"]
abbrev p_M_is_busy : List Str := ["self", "standing", "thread"]
theorem sc_M_is_busy : FnScope n_M_is_busy p_M_is_busy (defScope s_M_is_busy) := ⟨rfl, rfl, rfl, by decide +kernel, rfl, by decide +kernel, by decide +kernel⟩
theorem bd_M_is_busy {K : PySem.W.Frag} {f : Addr} {fd : FuncData} {x q : Str} (F : FunD K x q (defArgs s_M_is_busy) (defBody s_M_is_busy) (defScope s_M_is_busy) [] [] f fd) : Binds K fd p_M_is_busy [] := F.bindsN fun _ _ _ _ _ _ us hl => match us, hl with | [_, _, _], _ => rfl
abbrev n_M_stepped : List Str := ["self", "standing", "thread", "cells", "own", "events", "callers", "k"]
abbrev p_M_stepped : List Str := ["self", "standing", "thread"]
theorem sc_M_stepped : FnScope n_M_stepped p_M_stepped (defScope s_M_stepped) := ⟨rfl, rfl, rfl, by decide +kernel, rfl, by decide +kernel, by decide +kernel⟩
theorem bd_M_stepped {K : PySem.W.Frag} {f : Addr} {fd : FuncData} {x q : Str} (F : FunD K x q (defArgs s_M_stepped) (defBody s_M_stepped) (defScope s_M_stepped) [] [] f fd) : Binds K fd p_M_stepped [] := F.bindsN fun _ _ _ _ _ _ us hl => match us, hl with | [_, _, _], _ => rfl
abbrev n_M_line : List Str := ["self", "weaving", "found", "at"]
abbrev p_M_line : List Str := ["self", "weaving"]
theorem sc_M_line : FnScope n_M_line p_M_line (defScope s_M_line) := ⟨rfl, rfl, rfl, by decide +kernel, rfl, by decide +kernel, by decide +kernel⟩
theorem bd_M_line {K : PySem.W.Frag} {f : Addr} {fd : FuncData} {x q : Str} (F : FunD K x q (defArgs s_M_line) (defBody s_M_line) (defScope s_M_line) [] [] f fd) : Binds K fd p_M_line [] := F.bindsN fun _ _ _ _ _ _ us hl => match us, hl with | [_, _], _ => rfl
abbrev n_need_object : List Str := ["value"]
abbrev p_need_object : List Str := ["value"]
theorem sc_need_object : FnScope n_need_object p_need_object (defScope s_need_object) := ⟨rfl, rfl, rfl, by decide +kernel, rfl, by decide +kernel, by decide +kernel⟩
theorem bd_need_object {K : PySem.W.Frag} {f : Addr} {fd : FuncData} {x q : Str} (F : FunD K x q (defArgs s_need_object) (defBody s_need_object) (defScope s_need_object) [] [] f fd) : Binds K fd p_need_object [] := F.bindsN fun _ _ _ _ _ _ us hl => match us, hl with | [_], _ => rfl
abbrev n_is_plain_tuple : List Str := ["value", "one"]
abbrev p_is_plain_tuple : List Str := ["value"]
theorem sc_is_plain_tuple : FnScope n_is_plain_tuple p_is_plain_tuple (defScope s_is_plain_tuple) := ⟨rfl, rfl, rfl, by decide +kernel, rfl, by decide +kernel, by decide +kernel⟩
theorem bd_is_plain_tuple {K : PySem.W.Frag} {f : Addr} {fd : FuncData} {x q : Str} (F : FunD K x q (defArgs s_is_plain_tuple) (defBody s_is_plain_tuple) (defScope s_is_plain_tuple) [] [] f fd) : Binds K fd p_is_plain_tuple [] := F.bindsN fun _ _ _ _ _ _ us hl => match us, hl with | [_], _ => rfl
abbrev n_is_call_of : List Str := ["thing", "value"]
abbrev p_is_call_of : List Str := ["thing", "value"]
theorem sc_is_call_of : FnScope n_is_call_of p_is_call_of (defScope s_is_call_of) := ⟨rfl, rfl, rfl, by decide +kernel, rfl, by decide +kernel, by decide +kernel⟩
theorem bd_is_call_of {K : PySem.W.Frag} {f : Addr} {fd : FuncData} {x q : Str} (F : FunD K x q (defArgs s_is_call_of) (defBody s_is_call_of) (defScope s_is_call_of) [] [] f fd) : Binds K fd p_is_call_of [] := F.bindsN fun _ _ _ _ _ _ us hl => match us, hl with | [_, _], _ => rfl
abbrev n_need_call : List Str := ["thing", "value"]
abbrev p_need_call : List Str := ["thing", "value"]
theorem sc_need_call : FnScope n_need_call p_need_call (defScope s_need_call) := ⟨rfl, rfl, rfl, by decide +kernel, rfl, by decide +kernel, by decide +kernel⟩
theorem bd_need_call {K : PySem.W.Frag} {f : Addr} {fd : FuncData} {x q : Str} (F : FunD K x q (defArgs s_need_call) (defBody s_need_call) (defScope s_need_call) [] [] f fd) : Binds K fd p_need_call [] := F.bindsN fun _ _ _ _ _ _ us hl => match us, hl with | [_, _], _ => rfl
abbrev n_Retried_first_cells : List Str := ["self"]
abbrev p_Retried_first_cells : List Str := ["self"]
theorem sc_Retried_first_cells : FnScope n_Retried_first_cells p_Retried_first_cells (defScope s_Retried_first_cells) := ⟨rfl, rfl, rfl, by decide +kernel, rfl, by decide +kernel, by decide +kernel⟩
theorem bd_Retried_first_cells {K : PySem.W.Frag} {f : Addr} {fd : FuncData} {x q : Str} (F : FunD K x q (defArgs s_Retried_first_cells) (defBody s_Retried_first_cells) (defScope s_Retried_first_cells) [] [] f fd) : Binds K fd p_Retried_first_cells [] := F.bindsN fun _ _ _ _ _ _ us hl => match us, hl with | [_], _ => rfl
abbrev n_Retried_step : List Str := ["self", "standing", "thread", "cells", "callers", "ended", "phase", "held", "call", "later", "answer"]
abbrev p_Retried_step : List Str := ["self", "standing", "thread"]
theorem sc_Retried_step : FnScope n_Retried_step p_Retried_step (defScope s_Retried_step) := ⟨rfl, rfl, rfl, by decide +kernel, rfl, by decide +kernel, by decide +kernel⟩
theorem bd_Retried_step {K : PySem.W.Frag} {f : Addr} {fd : FuncData} {x q : Str} (F : FunD K x q (defArgs s_Retried_step) (defBody s_Retried_step) (defScope s_Retried_step) [] [] f fd) : Binds K fd p_Retried_step [] := F.bindsN fun _ _ _ _ _ _ us hl => match us, hl with | [_, _, _], _ => rfl
abbrev n_Retried_object_state : List Str := ["self", "standing"]
abbrev p_Retried_object_state : List Str := ["self", "standing"]
theorem sc_Retried_object_state : FnScope n_Retried_object_state p_Retried_object_state (defScope s_Retried_object_state) := ⟨rfl, rfl, rfl, by decide +kernel, rfl, by decide +kernel, by decide +kernel⟩
theorem bd_Retried_object_state {K : PySem.W.Frag} {f : Addr} {fd : FuncData} {x q : Str} (F : FunD K x q (defArgs s_Retried_object_state) (defBody s_Retried_object_state) (defScope s_Retried_object_state) [] [] f fd) : Binds K fd p_Retried_object_state [] := F.bindsN fun _ _ _ _ _ _ us hl => match us, hl with | [_, _], _ => rfl
abbrev n_Retried_newly : List Str := ["self", "standing", "there", "thread"]
abbrev p_Retried_newly : List Str := ["self", "standing", "there", "thread"]
theorem sc_Retried_newly : FnScope n_Retried_newly p_Retried_newly (defScope s_Retried_newly) := ⟨rfl, rfl, rfl, by decide +kernel, rfl, by decide +kernel, by decide +kernel⟩
theorem bd_Retried_newly {K : PySem.W.Frag} {f : Addr} {fd : FuncData} {x q : Str} (F : FunD K x q (defArgs s_Retried_newly) (defBody s_Retried_newly) (defScope s_Retried_newly) [] [] f fd) : Binds K fd p_Retried_newly [] := F.bindsN fun _ _ _ _ _ _ us hl => match us, hl with | [_, _, _, _], _ => rfl
abbrev n_Locked_first_cells : List Str := ["self"]
abbrev p_Locked_first_cells : List Str := ["self"]
theorem sc_Locked_first_cells : FnScope n_Locked_first_cells p_Locked_first_cells (defScope s_Locked_first_cells) := ⟨rfl, rfl, rfl, by decide +kernel, rfl, by decide +kernel, by decide +kernel⟩
theorem bd_Locked_first_cells {K : PySem.W.Frag} {f : Addr} {fd : FuncData} {x q : Str} (F : FunD K x q (defArgs s_Locked_first_cells) (defBody s_Locked_first_cells) (defScope s_Locked_first_cells) [] [] f fd) : Binds K fd p_Locked_first_cells [] := F.bindsN fun _ _ _ _ _ _ us hl => match us, hl with | [_], _ => rfl
abbrev n_Locked_step : List Str := ["self", "standing", "thread", "cells", "callers", "ended", "phase", "held", "call", "events"]
abbrev p_Locked_step : List Str := ["self", "standing", "thread"]
theorem sc_Locked_step : FnScope n_Locked_step p_Locked_step (defScope s_Locked_step) := ⟨rfl, rfl, rfl, by decide +kernel, rfl, by decide +kernel, by decide +kernel⟩
theorem bd_Locked_step {K : PySem.W.Frag} {f : Addr} {fd : FuncData} {x q : Str} (F : FunD K x q (defArgs s_Locked_step) (defBody s_Locked_step) (defScope s_Locked_step) [] [] f fd) : Binds K fd p_Locked_step [] := F.bindsN fun _ _ _ _ _ _ us hl => match us, hl with | [_, _, _], _ => rfl
abbrev n_Locked_object_state : List Str := ["self", "standing"]
abbrev p_Locked_object_state : List Str := ["self", "standing"]
theorem sc_Locked_object_state : FnScope n_Locked_object_state p_Locked_object_state (defScope s_Locked_object_state) := ⟨rfl, rfl, rfl, by decide +kernel, rfl, by decide +kernel, by decide +kernel⟩
theorem bd_Locked_object_state {K : PySem.W.Frag} {f : Addr} {fd : FuncData} {x q : Str} (F : FunD K x q (defArgs s_Locked_object_state) (defBody s_Locked_object_state) (defScope s_Locked_object_state) [] [] f fd) : Binds K fd p_Locked_object_state [] := F.bindsN fun _ _ _ _ _ _ us hl => match us, hl with | [_, _], _ => rfl
abbrev n_Locked_newly : List Str := ["self", "standing", "there", "thread"]
abbrev p_Locked_newly : List Str := ["self", "standing", "there", "thread"]
theorem sc_Locked_newly : FnScope n_Locked_newly p_Locked_newly (defScope s_Locked_newly) := ⟨rfl, rfl, rfl, by decide +kernel, rfl, by decide +kernel, by decide +kernel⟩
theorem bd_Locked_newly {K : PySem.W.Frag} {f : Addr} {fd : FuncData} {x q : Str} (F : FunD K x q (defArgs s_Locked_newly) (defBody s_Locked_newly) (defScope s_Locked_newly) [] [] f fd) : Binds K fd p_Locked_newly [] := F.bindsN fun _ _ _ _ _ _ us hl => match us, hl with | [_, _, _, _], _ => rfl
abbrev n_Naive_first_cells : List Str := ["self"]
abbrev p_Naive_first_cells : List Str := ["self"]
theorem sc_Naive_first_cells : FnScope n_Naive_first_cells p_Naive_first_cells (defScope s_Naive_first_cells) := ⟨rfl, rfl, rfl, by decide +kernel, rfl, by decide +kernel, by decide +kernel⟩
theorem bd_Naive_first_cells {K : PySem.W.Frag} {f : Addr} {fd : FuncData} {x q : Str} (F : FunD K x q (defArgs s_Naive_first_cells) (defBody s_Naive_first_cells) (defScope s_Naive_first_cells) [] [] f fd) : Binds K fd p_Naive_first_cells [] := F.bindsN fun _ _ _ _ _ _ us hl => match us, hl with | [_], _ => rfl
abbrev n_Naive_step : List Str := ["self", "standing", "thread", "cells", "callers", "ended", "phase", "held", "call", "later", "answer"]
abbrev p_Naive_step : List Str := ["self", "standing", "thread"]
theorem sc_Naive_step : FnScope n_Naive_step p_Naive_step (defScope s_Naive_step) := ⟨rfl, rfl, rfl, by decide +kernel, rfl, by decide +kernel, by decide +kernel⟩
theorem bd_Naive_step {K : PySem.W.Frag} {f : Addr} {fd : FuncData} {x q : Str} (F : FunD K x q (defArgs s_Naive_step) (defBody s_Naive_step) (defScope s_Naive_step) [] [] f fd) : Binds K fd p_Naive_step [] := F.bindsN fun _ _ _ _ _ _ us hl => match us, hl with | [_, _, _], _ => rfl
abbrev n_Naive_object_state : List Str := ["self", "standing"]
abbrev p_Naive_object_state : List Str := ["self", "standing"]
theorem sc_Naive_object_state : FnScope n_Naive_object_state p_Naive_object_state (defScope s_Naive_object_state) := ⟨rfl, rfl, rfl, by decide +kernel, rfl, by decide +kernel, by decide +kernel⟩
theorem bd_Naive_object_state {K : PySem.W.Frag} {f : Addr} {fd : FuncData} {x q : Str} (F : FunD K x q (defArgs s_Naive_object_state) (defBody s_Naive_object_state) (defScope s_Naive_object_state) [] [] f fd) : Binds K fd p_Naive_object_state [] := F.bindsN fun _ _ _ _ _ _ us hl => match us, hl with | [_, _], _ => rfl
abbrev n_Naive_newly : List Str := ["self", "standing", "there", "thread"]
abbrev p_Naive_newly : List Str := ["self", "standing", "there", "thread"]
theorem sc_Naive_newly : FnScope n_Naive_newly p_Naive_newly (defScope s_Naive_newly) := ⟨rfl, rfl, rfl, by decide +kernel, rfl, by decide +kernel, by decide +kernel⟩
theorem bd_Naive_newly {K : PySem.W.Frag} {f : Addr} {fd : FuncData} {x q : Str} (F : FunD K x q (defArgs s_Naive_newly) (defBody s_Naive_newly) (defScope s_Naive_newly) [] [] f fd) : Binds K fd p_Naive_newly [] := F.bindsN fun _ _ _ _ _ _ us hl => match us, hl with | [_, _, _, _], _ => rfl
abbrev n_are_plans : List Str := ["thing", "value", "plan", "call"]
abbrev p_are_plans : List Str := ["thing", "value"]
theorem sc_are_plans : FnScope n_are_plans p_are_plans (defScope s_are_plans) := ⟨rfl, rfl, rfl, by decide +kernel, rfl, by decide +kernel, by decide +kernel⟩
theorem bd_are_plans {K : PySem.W.Frag} {f : Addr} {fd : FuncData} {x q : Str} (F : FunD K x q (defArgs s_are_plans) (defBody s_are_plans) (defScope s_are_plans) [] [] f fd) : Binds K fd p_are_plans [] := F.bindsN fun _ _ _ _ _ _ us hl => match us, hl with | [_, _], _ => rfl
abbrev n_need_plans : List Str := ["thing", "plans"]
abbrev p_need_plans : List Str := ["thing", "plans"]
theorem sc_need_plans : FnScope n_need_plans p_need_plans (defScope s_need_plans) := ⟨rfl, rfl, rfl, by decide +kernel, rfl, by decide +kernel, by decide +kernel⟩
theorem bd_need_plans {K : PySem.W.Frag} {f : Addr} {fd : FuncData} {x q : Str} (F : FunD K x q (defArgs s_need_plans) (defBody s_need_plans) (defScope s_need_plans) [] [] f fd) : Binds K fd p_need_plans [] := F.bindsN fun _ _ _ _ _ _ us hl => match us, hl with | [_, _], _ => rfl
abbrev n_need_weaving : List Str := ["value", "one"]
abbrev p_need_weaving : List Str := ["value"]
theorem sc_need_weaving : FnScope n_need_weaving p_need_weaving (defScope s_need_weaving) := ⟨rfl, rfl, rfl, by decide +kernel, rfl, by decide +kernel, by decide +kernel⟩
theorem bd_need_weaving {K : PySem.W.Frag} {f : Addr} {fd : FuncData} {x q : Str} (F : FunD K x q (defArgs s_need_weaving) (defBody s_need_weaving) (defScope s_need_weaving) [] [] f fd) : Binds K fd p_need_weaving [] := F.bindsN fun _ _ _ _ _ _ us hl => match us, hl with | [_], _ => rfl
abbrev n_made : List Str := ["way", "thing", "plans"]
abbrev p_made : List Str := ["way", "thing", "plans"]
theorem sc_made : FnScope n_made p_made (defScope s_made) := ⟨rfl, rfl, rfl, by decide +kernel, rfl, by decide +kernel, by decide +kernel⟩
theorem bd_made {K : PySem.W.Frag} {f : Addr} {fd : FuncData} {x q : Str} (F : FunD K x q (defArgs s_made) (defBody s_made) (defScope s_made) [] [] f fd) : Binds K fd p_made [] := F.bindsN fun _ _ _ _ _ _ us hl => match us, hl with | [_, _, _], _ => rfl
abbrev n_line_of : List Str := ["way", "thing", "plans", "weaving"]
abbrev p_line_of : List Str := ["way", "thing", "plans", "weaving"]
theorem sc_line_of : FnScope n_line_of p_line_of (defScope s_line_of) := ⟨rfl, rfl, rfl, by decide +kernel, rfl, by decide +kernel, by decide +kernel⟩
theorem bd_line_of {K : PySem.W.Frag} {f : Addr} {fd : FuncData} {x q : Str} (F : FunD K x q (defArgs s_line_of) (defBody s_line_of) (defScope s_line_of) [] [] f fd) : Binds K fd p_line_of [] := F.bindsN fun _ _ _ _ _ _ us hl => match us, hl with | [_, _, _, _], _ => rfl
abbrev n_history_of : List Str := ["way", "thing", "plans", "weaving", "found", "standing", "events"]
abbrev p_history_of : List Str := ["way", "thing", "plans", "weaving"]
theorem sc_history_of : FnScope n_history_of p_history_of (defScope s_history_of) := ⟨rfl, rfl, rfl, by decide +kernel, rfl, by decide +kernel, by decide +kernel⟩
theorem bd_history_of {K : PySem.W.Frag} {f : Addr} {fd : FuncData} {x q : Str} (F : FunD K x q (defArgs s_history_of) (defBody s_history_of) (defScope s_history_of) [] [] f fd) : Binds K fd p_history_of [] := F.bindsN fun _ _ _ _ _ _ us hl => match us, hl with | [_, _, _, _], _ => rfl
abbrev n_own_steps : List Str := ["way", "thing", "plans", "weaving", "line", "counts", "plan", "at", "thread", "number", "one"]
abbrev p_own_steps : List Str := ["way", "thing", "plans", "weaving"]
theorem sc_own_steps : FnScope n_own_steps p_own_steps (defScope s_own_steps) := ⟨rfl, rfl, rfl, by decide +kernel, rfl, by decide +kernel, by decide +kernel⟩
theorem bd_own_steps {K : PySem.W.Frag} {f : Addr} {fd : FuncData} {x q : Str} (F : FunD K x q (defArgs s_own_steps) (defBody s_own_steps) (defScope s_own_steps) [] [] f fd) : Binds K fd p_own_steps [] := F.bindsN fun _ _ _ _ _ _ us hl => match us, hl with | [_, _, _, _], _ => rfl
abbrev n_state_behind : List Str := ["way", "thing", "plans", "weaving", "line"]
abbrev p_state_behind : List Str := ["way", "thing", "plans", "weaving"]
theorem sc_state_behind : FnScope n_state_behind p_state_behind (defScope s_state_behind) := ⟨rfl, rfl, rfl, by decide +kernel, rfl, by decide +kernel, by decide +kernel⟩
theorem bd_state_behind {K : PySem.W.Frag} {f : Addr} {fd : FuncData} {x q : Str} (F : FunD K x q (defArgs s_state_behind) (defBody s_state_behind) (defScope s_state_behind) [] [] f fd) : Binds K fd p_state_behind [] := F.bindsN fun _ _ _ _ _ _ us hl => match us, hl with | [_, _, _, _], _ => rfl
abbrev n_going : List Str := ["way", "thing", "plans", "weaving", "line"]
abbrev p_going : List Str := ["way", "thing", "plans", "weaving"]
theorem sc_going : FnScope n_going p_going (defScope s_going) := ⟨rfl, rfl, rfl, by decide +kernel, rfl, by decide +kernel, by decide +kernel⟩
theorem bd_going {K : PySem.W.Frag} {f : Addr} {fd : FuncData} {x q : Str} (F : FunD K x q (defArgs s_going) (defBody s_going) (defScope s_going) [] [] f fd) : Binds K fd p_going [] := F.bindsN fun _ _ _ _ _ _ us hl => match us, hl with | [_, _, _, _], _ => rfl
abbrev n_applied_order : List Str := ["way", "thing", "plans", "weaving", "line", "machine", "found", "at"]
abbrev p_applied_order : List Str := ["way", "thing", "plans", "weaving"]
theorem sc_applied_order : FnScope n_applied_order p_applied_order (defScope s_applied_order) := ⟨rfl, rfl, rfl, by decide +kernel, rfl, by decide +kernel, by decide +kernel⟩
theorem bd_applied_order {K : PySem.W.Frag} {f : Addr} {fd : FuncData} {x q : Str} (F : FunD K x q (defArgs s_applied_order) (defBody s_applied_order) (defScope s_applied_order) [] [] f fd) : Binds K fd p_applied_order [] := F.bindsN fun _ _ _ _ _ _ us hl => match us, hl with | [_, _, _, _], _ => rfl
abbrev n_alone : List Str := ["way", "thing", "plans", "weaving", "thread", "line", "machine", "here", "many", "ended", "there"]
abbrev p_alone : List Str := ["way", "thing", "plans", "weaving", "thread"]
theorem sc_alone : FnScope n_alone p_alone (defScope s_alone) := ⟨rfl, rfl, rfl, by decide +kernel, rfl, by decide +kernel, by decide +kernel⟩
theorem bd_alone {K : PySem.W.Frag} {f : Addr} {fd : FuncData} {x q : Str} (F : FunD K x q (defArgs s_alone) (defBody s_alone) (defScope s_alone) [] [] f fd) : Binds K fd p_alone [] := F.bindsN fun _ _ _ _ _ _ us hl => match us, hl with | [_, _, _, _, _], _ => rfl
abbrev n_starving : List Str := ["thing", "call", "other", "many"]
abbrev p_starving : List Str := ["thing", "call", "other", "many"]
theorem sc_starving : FnScope n_starving p_starving (defScope s_starving) := ⟨rfl, rfl, rfl, by decide +kernel, rfl, by decide +kernel, by decide +kernel⟩
theorem bd_starving {K : PySem.W.Frag} {f : Addr} {fd : FuncData} {x q : Str} (F : FunD K x q (defArgs s_starving) (defBody s_starving) (defScope s_starving) [] [] f fd) : Binds K fd p_starving [] := F.bindsN fun _ _ _ _ _ _ us hl => match us, hl with | [_, _, _, _], _ => rfl
abbrev n_L_taken : List Str := ["_law_row", "_law_many", "_law_found", "_law_cell"]
abbrev p_L_taken : List Str := ["_law_row", "_law_many"]
theorem sc_L_taken : FnScope n_L_taken p_L_taken (defScope s_L_taken) := ⟨rfl, rfl, rfl, by decide +kernel, rfl, by decide +kernel, by decide +kernel⟩
theorem bd_L_taken {K : PySem.W.Frag} {f : Addr} {fd : FuncData} {x q : Str} (F : FunD K x q (defArgs s_L_taken) (defBody s_L_taken) (defScope s_L_taken) [] [] f fd) : Binds K fd p_L_taken [] := F.bindsN fun _ _ _ _ _ _ us hl => match us, hl with | [_, _], _ => rfl
abbrev n_L_pick : List Str := ["_law_row", "_law_things"]
abbrev p_L_pick : List Str := ["_law_row", "_law_things"]
theorem sc_L_pick : FnScope n_L_pick p_L_pick (defScope s_L_pick) := ⟨rfl, rfl, rfl, by decide +kernel, rfl, by decide +kernel, by decide +kernel⟩
theorem bd_L_pick {K : PySem.W.Frag} {f : Addr} {fd : FuncData} {x q : Str} (F : FunD K x q (defArgs s_L_pick) (defBody s_L_pick) (defScope s_L_pick) [] [] f fd) : Binds K fd p_L_pick [] := F.bindsN fun _ _ _ _ _ _ us hl => match us, hl with | [_, _], _ => rfl
abbrev n_L_alike : List Str := ["_law_found", "_law_due", "_law_k"]
abbrev p_L_alike : List Str := ["_law_found", "_law_due"]
theorem sc_L_alike : FnScope n_L_alike p_L_alike (defScope s_L_alike) := ⟨rfl, rfl, rfl, by decide +kernel, rfl, by decide +kernel, by decide +kernel⟩
theorem bd_L_alike {K : PySem.W.Frag} {f : Addr} {fd : FuncData} {x q : Str} (F : FunD K x q (defArgs s_L_alike) (defBody s_L_alike) (defScope s_L_alike) [] [] f fd) : Binds K fd p_L_alike [] := F.bindsN fun _ _ _ _ _ _ us hl => match us, hl with | [_, _], _ => rfl
abbrev n_L_object : List Str := ["_law_row", "_law_kind", "_law_k", "_law_many", "_law_wide", "_law_rows", "_law_j"]
abbrev p_L_object : List Str := ["_law_row"]
theorem sc_L_object : FnScope n_L_object p_L_object (defScope s_L_object) := ⟨rfl, rfl, rfl, by decide +kernel, rfl, by decide +kernel, by decide +kernel⟩
theorem bd_L_object {K : PySem.W.Frag} {f : Addr} {fd : FuncData} {x q : Str} (F : FunD K x q (defArgs s_L_object) (defBody s_L_object) (defScope s_L_object) [] [] f fd) : Binds K fd p_L_object [] := F.bindsN fun _ _ _ _ _ _ us hl => match us, hl with | [_], _ => rfl
abbrev n_L_calls : List Str := ["_law_thing", "_law_name", "_law_found", "_law_k", "_law_one", "_law_other", "_law_words", "_law_low", "_law_high", "_law_word", "_law_more"]
abbrev p_L_calls : List Str := ["_law_thing"]
theorem sc_L_calls : FnScope n_L_calls p_L_calls (defScope s_L_calls) := ⟨rfl, rfl, rfl, by decide +kernel, rfl, by decide +kernel, by decide +kernel⟩
theorem bd_L_calls {K : PySem.W.Frag} {f : Addr} {fd : FuncData} {x q : Str} (F : FunD K x q (defArgs s_L_calls) (defBody s_L_calls) (defScope s_L_calls) [] [] f fd) : Binds K fd p_L_calls [] := F.bindsN fun _ _ _ _ _ _ us hl => match us, hl with | [_], _ => rfl
abbrev n_L_first : List Str := ["_law_thing"]
abbrev p_L_first : List Str := ["_law_thing"]
theorem sc_L_first : FnScope n_L_first p_L_first (defScope s_L_first) := ⟨rfl, rfl, rfl, by decide +kernel, rfl, by decide +kernel, by decide +kernel⟩
theorem bd_L_first {K : PySem.W.Frag} {f : Addr} {fd : FuncData} {x q : Str} (F : FunD K x q (defArgs s_L_first) (defBody s_L_first) (defScope s_L_first) [] [] f fd) : Binds K fd p_L_first [] := F.bindsN fun _ _ _ _ _ _ us hl => match us, hl with | [_], _ => rfl
abbrev n_L_do : List Str := ["_law_thing", "_law_state", "_law_call", "_law_name", "_law_word", "_law_left", "_law_one", "_law_k"]
abbrev p_L_do : List Str := ["_law_thing", "_law_state", "_law_call"]
theorem sc_L_do : FnScope n_L_do p_L_do (defScope s_L_do) := ⟨rfl, rfl, rfl, by decide +kernel, rfl, by decide +kernel, by decide +kernel⟩
theorem bd_L_do {K : PySem.W.Frag} {f : Addr} {fd : FuncData} {x q : Str} (F : FunD K x q (defArgs s_L_do) (defBody s_L_do) (defScope s_L_do) [] [] f fd) : Binds K fd p_L_do [] := F.bindsN fun _ _ _ _ _ _ us hl => match us, hl with | [_, _, _], _ => rfl
abbrev n_L_step : List Str := ["_law_way", "_law_thing", "_law_plans_here", "_law_shared", "_law_threads", "_law_t", "_law_events", "_law_own", "_law_n", "_law_call", "_law_turn", "_law_number", "_law_other", "_law_pick_here", "_law_later", "_law_answer"]
abbrev p_L_step : List Str := ["_law_way", "_law_thing", "_law_plans_here", "_law_shared", "_law_threads", "_law_t", "_law_events"]
theorem sc_L_step : FnScope n_L_step p_L_step (defScope s_L_step) := ⟨rfl, rfl, rfl, by decide +kernel, rfl, by decide +kernel, by decide +kernel⟩
theorem bd_L_step {K : PySem.W.Frag} {f : Addr} {fd : FuncData} {x q : Str} (F : FunD K x q (defArgs s_L_step) (defBody s_L_step) (defScope s_L_step) [] [] f fd) : Binds K fd p_L_step [] := F.bindsN fun _ _ _ _ _ _ us hl => match us, hl with | [_, _, _, _, _, _, _], _ => rfl
abbrev n_L_ends : List Str := ["_law_threads", "_law_t", "_law_events", "_law_answer"]
abbrev p_L_ends : List Str := ["_law_threads", "_law_t", "_law_events", "_law_answer"]
theorem sc_L_ends : FnScope n_L_ends p_L_ends (defScope s_L_ends) := ⟨rfl, rfl, rfl, by decide +kernel, rfl, by decide +kernel, by decide +kernel⟩
theorem bd_L_ends {K : PySem.W.Frag} {f : Addr} {fd : FuncData} {x q : Str} (F : FunD K x q (defArgs s_L_ends) (defBody s_L_ends) (defScope s_L_ends) [] [] f fd) : Binds K fd p_L_ends [] := F.bindsN fun _ _ _ _ _ _ us hl => match us, hl with | [_, _, _, _], _ => rfl
abbrev n_L_fresh : List Str := ["_law_thing", "_law_plans_here", "_law_n", "_law_shared", "_law_k"]
abbrev p_L_fresh : List Str := ["_law_thing", "_law_plans_here"]
theorem sc_L_fresh : FnScope n_L_fresh p_L_fresh (defScope s_L_fresh) := ⟨rfl, rfl, rfl, by decide +kernel, rfl, by decide +kernel, by decide +kernel⟩
theorem bd_L_fresh {K : PySem.W.Frag} {f : Addr} {fd : FuncData} {x q : Str} (F : FunD K x q (defArgs s_L_fresh) (defBody s_L_fresh) (defScope s_L_fresh) [] [] f fd) : Binds K fd p_L_fresh [] := F.bindsN fun _ _ _ _ _ _ us hl => match us, hl with | [_, _], _ => rfl
abbrev n_L_run : List Str := ["_law_way", "_law_thing", "_law_plans_here", "_law_weaving", "_law_shared", "_law_threads", "_law_events", "_law_steps", "_law_plan", "_law_t", "_law_left", "_law_one"]
abbrev p_L_run : List Str := ["_law_way", "_law_thing", "_law_plans_here", "_law_weaving"]
theorem sc_L_run : FnScope n_L_run p_L_run (defScope s_L_run) := ⟨rfl, rfl, rfl, by decide +kernel, rfl, by decide +kernel, by decide +kernel⟩
theorem bd_L_run {K : PySem.W.Frag} {f : Addr} {fd : FuncData} {x q : Str} (F : FunD K x q (defArgs s_L_run) (defBody s_L_run) (defScope s_L_run) [] [] f fd) : Binds K fd p_L_run [] := F.bindsN fun _ _ _ _ _ _ us hl => match us, hl with | [_, _, _, _], _ => rfl
abbrev n_L_plans : List Str := ["_law_row", "_law_thing", "_law_most", "_law_many", "_law_names", "_law_found", "_law_k", "_law_j"]
abbrev p_L_plans : List Str := ["_law_row", "_law_thing", "_law_most", "_law_many"]
theorem sc_L_plans : FnScope n_L_plans p_L_plans (defScope s_L_plans) := ⟨rfl, rfl, rfl, by decide +kernel, rfl, by decide +kernel, by decide +kernel⟩
theorem bd_L_plans {K : PySem.W.Frag} {f : Addr} {fd : FuncData} {x q : Str} (F : FunD K x q (defArgs s_L_plans) (defBody s_L_plans) (defScope s_L_plans) [] [] f fd) : Binds K fd p_L_plans [] := F.bindsN fun _ _ _ _ _ _ us hl => match us, hl with | [_, _, _, _], _ => rfl
abbrev n_L_weave : List Str := ["_law_row", "_law_way", "_law_thing", "_law_plans_here", "_law_most", "_law_shared", "_law_threads", "_law_found", "_law_stopped", "_law_turn", "_law_can", "_law_t"]
abbrev p_L_weave : List Str := ["_law_row", "_law_way", "_law_thing", "_law_plans_here", "_law_most"]
theorem sc_L_weave : FnScope n_L_weave p_L_weave (defScope s_L_weave) := ⟨rfl, rfl, rfl, by decide +kernel, rfl, by decide +kernel, by decide +kernel⟩
theorem bd_L_weave {K : PySem.W.Frag} {f : Addr} {fd : FuncData} {x q : Str} (F : FunD K x q (defArgs s_L_weave) (defBody s_L_weave) (defScope s_L_weave) [] [] f fd) : Binds K fd p_L_weave [] := F.bindsN fun _ _ _ _ _ _ us hl => match us, hl with | [_, _, _, _, _], _ => rfl
abbrev n_L_alone : List Str := ["_law_way", "_law_thing", "_law_plans_here", "_law_weaving", "_law_t", "_law_threads", "_law_more", "_law_many"]
abbrev p_L_alone : List Str := ["_law_way", "_law_thing", "_law_plans_here", "_law_weaving", "_law_t"]
theorem sc_L_alone : FnScope n_L_alone p_L_alone (defScope s_L_alone) := ⟨rfl, rfl, rfl, by decide +kernel, rfl, by decide +kernel, by decide +kernel⟩
theorem bd_L_alone {K : PySem.W.Frag} {f : Addr} {fd : FuncData} {x q : Str} (F : FunD K x q (defArgs s_L_alone) (defBody s_L_alone) (defScope s_L_alone) [] [] f fd) : Binds K fd p_L_alone [] := F.bindsN fun _ _ _ _ _ _ us hl => match us, hl with | [_, _, _, _, _], _ => rfl
abbrev n_law : List Str := ["_law_script", "_law_row", "_law_thing", "_law_way", "_law_plans_here", "_law_weaving", "_law_events", "_law_steps", "_law_state", "_law_log", "_law_left", "_law_threads", "_law_t", "_law_names", "_law_many", "_law_one", "_law_other", "_law_due"]
abbrev p_law : List Str := ["_law_script"]
theorem sc_law : FnScope n_law p_law (defScope s_law) := ⟨rfl, rfl, rfl, by decide +kernel, rfl, by decide +kernel, by decide +kernel⟩
theorem bd_law {K : PySem.W.Frag} {f : Addr} {fd : FuncData} {x q : Str} (F : FunD K x q (defArgs s_law) (defBody s_law) (defScope s_law) [] [] f fd) : Binds K fd p_law [] := F.bindsN fun _ _ _ _ _ _ us hl => match us, hl with | [_], _ => rfl
end H6
namespace P6
open PySem PySem.Spec PyProof.Rows L2
/-! ### data: what a value says, without its address -/
inductive D where
  | non | bl (b : Bool) | int (i : Int) | str (s : Str) | tup (ds : List D) | lst (ds : List D) | mac (C : Addr) (t p : D) (n : Int) | dic (ks : List Str) (ds : List D) | scr (K : PySem.W.Frag) (ns : List Int)
def kz (ks : List Str) (vs : List V) : List (Key × V) := (ks.map Sum.inr).zip vs
def mf (vt vp : V) (n : Int) : List (Str × V) := [("thing", vt), ("plans", vp), ("many", .int n)]
mutual
def Rep (H : Hp) : D → V → Prop
  | .non, v => v = .non
  | .bl b, v => v = .bl b
  | .int i, v => v = .int i
  | .str s, v => v = .str s
  | .tup ds, v => ∃ a xs, v = .ref a ∧ H a = some (.tup xs) ∧ Reps H ds xs
  | .lst ds, v => ∃ a xs, v = .ref a ∧ H a = some (.lst xs) ∧ Reps H ds xs
  | .mac C t p n, v => ∃ a dx vt vp, v = .ref a ∧ H a = some (.ins C dx (mf vt vp n)) ∧ Rep H t vt ∧ Rep H p vp
  | .dic ks ds, v => ∃ a vs, v = .ref a ∧ H a = some (.dK (kz ks vs)) ∧ ks.length = ds.length ∧ Reps H ds vs
  | .scr K ns, v => ∃ a, v = .ref a ∧ SqL K H a (ns.map V.int)
def Reps (H : Hp) : List D → List V → Prop
  | [], xs => xs = []
  | d :: ds, xs => ∃ v vs, xs = v :: vs ∧ Rep H d v ∧ Reps H ds vs
end
/-- a list that is only read -/
theorem sql_mono {K : PySem.W.Frag} {H H' : Hp} {a : Addr} {xs : List V} (e : Same H H') (h : SqL K H a xs) : SqL K H' a xs := by
  rcases h with (h | ⟨o, h⟩) | h
  · exact .inl (.inl (e _ _ h))
  · exact .inl (.inr ⟨o, e _ _ h⟩)
  · exact .inr h
mutual
theorem Rep.mono {H H' : Hp} (e : Same H H') : ∀ {d : D} {v : V}, Rep H d v → Rep H' d v
  | .non, _, h => h
  | .bl _, _, h => h
  | .int _, _, h => h
  | .str _, _, h => h
  | .tup _, _, ⟨a, xs, h1, h2, h3⟩ => ⟨a, xs, h1, e _ _ h2, Reps.mono e h3⟩
  | .lst _, _, ⟨a, xs, h1, h2, h3⟩ => ⟨a, xs, h1, e _ _ h2, Reps.mono e h3⟩
  | .mac _ _ _ _, _, ⟨a, dx, vt, vp, h1, h2, h3, h4⟩ => ⟨a, dx, vt, vp, h1, e _ _ h2, Rep.mono e h3, Rep.mono e h4⟩
  | .dic _ _, _, ⟨a, vs, h1, h2, h3, h4⟩ => ⟨a, vs, h1, e _ _ h2, h3, Reps.mono e h4⟩
  | .scr _ _, _, ⟨a, h1, h2⟩ => ⟨a, h1, sql_mono e h2⟩
theorem Reps.mono {H H' : Hp} (e : Same H H') : ∀ {ds : List D} {xs : List V}, Reps H ds xs → Reps H' ds xs
  | [], _, h => h
  | _ :: _, _, ⟨v, vs, h1, h2, h3⟩ => ⟨v, vs, h1, Rep.mono e h2, Reps.mono e h3⟩
end
theorem Same.new {H : Hp} {p : Addr} {o : HO} (h : H p = none) : Same H (upd H p o) := fun b u e => by
  rw [upd_ne (ne_of_none e h)]; exact e
theorem Reps.nil {H : Hp} : Reps H [] [] := rfl
theorem Reps.cons {H : Hp} {d : D} {v : V} {ds : List D} {vs : List V} (h : Rep H d v) (t : Reps H ds vs) : Reps H (d :: ds) (v :: vs) := ⟨v, vs, rfl, h, t⟩
theorem Reps.length {H : Hp} : ∀ {ds : List D} {xs : List V}, Reps H ds xs → xs.length = ds.length
  | [], _, h => by cases h; rfl
  | _ :: _, _, ⟨v, vs, h1, h2, h3⟩ => by subst h1; simp [Reps.length h3]
theorem Reps.get {H : Hp} : ∀ {ds : List D} {xs : List V} {i : Nat} {d : D}, Reps H ds xs → ds[i]? = some d → ∃ v, xs[i]? = some v ∧ Rep H d v
  | [], _, _, _, _, e => by simp at e
  | _ :: _, _, 0, _, ⟨v, vs, h1, h2, h3⟩, e => by
    subst h1
    have e1 := Option.some.inj e
    subst e1
    exact ⟨v, rfl, h2⟩
  | _ :: _, _, i + 1, _, ⟨v, vs, h1, h2, h3⟩, e => by
    subst h1
    exact Reps.get (i := i) h3 e
theorem Reps.getV {H : Hp} : ∀ {ds : List D} {xs : List V} {i : Nat} {v : V}, Reps H ds xs → xs[i]? = some v → ∃ d, ds[i]? = some d ∧ Rep H d v
  | [], _, _, _, h, e => by cases h; simp at e
  | _ :: _, _, 0, _, ⟨v, vs, h1, h2, h3⟩, e => by
    subst h1
    have e1 := Option.some.inj e
    subst e1
    exact ⟨_, rfl, h2⟩
  | _ :: _, _, i + 1, _, ⟨v, vs, h1, h2, h3⟩, e => by
    subst h1
    exact Reps.getV (i := i) h3 e
theorem Reps.append {H : Hp} : ∀ {ds es : List D} {xs ys : List V}, Reps H ds xs → Reps H es ys → Reps H (ds ++ es) (xs ++ ys)
  | [], _, _, _, h, q => by cases h; exact q
  | _ :: _, _, _, _, ⟨v, vs, h1, h2, h3⟩, q => by subst h1; exact ⟨v, _, rfl, h2, Reps.append h3 q⟩
theorem Reps.take {H : Hp} : ∀ (n : Nat) {ds : List D} {xs : List V}, Reps H ds xs → Reps H (ds.take n) (xs.take n)
  | 0, _, _, _ => by simp [Reps]
  | _ + 1, [], _, h => by cases h; rfl
  | n + 1, _ :: _, _, ⟨v, vs, h1, h2, h3⟩ => by subst h1; exact ⟨v, _, rfl, h2, Reps.take n h3⟩
theorem Reps.drop {H : Hp} : ∀ (n : Nat) {ds : List D} {xs : List V}, Reps H ds xs → Reps H (ds.drop n) (xs.drop n)
  | 0, _, _, h => h
  | _ + 1, [], _, h => by cases h; rfl
  | n + 1, _ :: _, _, ⟨v, vs, h1, h2, h3⟩ => by subst h1; exact Reps.drop n h3
theorem atI_map {H : Hp} {ds : List D} {xs : List V} {i : Int} {d : D} (h : Reps H ds xs) (e : atI ds i = some d) : ∃ v, atI xs i = some v ∧ Rep H d v := by
  unfold atI at e ⊢
  rw [h.length]
  cases q : ixN ds.length i with
  | none => rw [q] at e; cases e
  | some j =>
    rw [q] at e
    obtain ⟨v, h1, h2⟩ := h.get (i := j) e
    exact ⟨v, h1, h2⟩

/-! ### the frame's names -/
inductive G where
  | un | d (d : D) | v (x : V)
def GR (H : Hp) : G → Option V → Prop
  | .un, _ => True
  | .d d, o => ∃ v, o = some v ∧ Rep H d v
  | .v x, o => o = some x
def EnvR (H : Hp) : List G → L2.St → Prop
  | [], σ => σ = []
  | g :: Γ, σ => ∃ o σ', σ = o :: σ' ∧ GR H g o ∧ EnvR H Γ σ'
theorem GR.mono {H H' : Hp} (e : Same H H') : ∀ {g : G} {o : Option V}, GR H g o → GR H' g o
  | .un, _, _ => True.intro
  | .d _, _, ⟨v, h1, h2⟩ => ⟨v, h1, h2.mono e⟩
  | .v _, _, h => h
theorem EnvR.mono {H H' : Hp} (e : Same H H') : ∀ {Γ : List G} {σ : L2.St}, EnvR H Γ σ → EnvR H' Γ σ
  | [], _, h => h
  | _ :: _, _, ⟨o, σ', h1, h2, h3⟩ => ⟨o, σ', h1, h2.mono e, EnvR.mono e h3⟩
theorem EnvR.get {H : Hp} : ∀ {Γ : List G} {σ : L2.St} {i : Nat} {g : G}, EnvR H Γ σ → Γ[i]? = some g → ∃ o, σ[i]? = some o ∧ GR H g o
  | [], _, _, _, _, e => by simp at e
  | _ :: _, _, 0, _, ⟨o, σ', h1, h2, h3⟩, e => by
    subst h1
    have e1 := Option.some.inj e
    subst e1
    exact ⟨o, rfl, h2⟩
  | _ :: _, _, i + 1, _, ⟨o, σ', h1, h2, h3⟩, e => by
    subst h1
    exact EnvR.get (i := i) h3 e
theorem EnvR.getD {H : Hp} {Γ : List G} {σ : L2.St} {i : Nat} {d : D} (h : EnvR H Γ σ) (e : Γ[i]? = some (.d d)) : ∃ v, σ[i]? = some (some v) ∧ Rep H d v := by
  obtain ⟨o, h1, v, h2, h3⟩ := h.get e
  subst h2
  exact ⟨v, h1, h3⟩
theorem EnvR.set {H : Hp} {g : G} {o : Option V} (hg : GR H g o) : ∀ {Γ : List G} {σ : L2.St} (i : Nat), EnvR H Γ σ → EnvR H (Γ.set i g) (σ.set i o)
  | [], _, _, h => by cases h; rfl
  | _ :: _, _, 0, ⟨o', σ', h1, h2, h3⟩ => by subst h1; exact ⟨o, σ', rfl, hg, h3⟩
  | _ :: _, _, i + 1, ⟨o', σ', h1, h2, h3⟩ => by subst h1; exact ⟨o', _, rfl, h2, EnvR.set hg i h3⟩
theorem EnvR.setD {H : Hp} {d : D} {v : V} (hd : Rep H d v) {Γ : List G} {σ : L2.St} (i : Nat) (h : EnvR H Γ σ) : EnvR H (Γ.set i (.d d)) (σ.set i (some v)) := EnvR.set (g := .d d) ⟨v, rfl, hd⟩ i h
def wipeG (Γ : List G) : List Nat → List G
  | [] => Γ
  | v :: vs => (wipeG Γ vs).set v .un
theorem EnvR.wipe {H : Hp} {Γ : List G} {σ : L2.St} (h : EnvR H Γ σ) : ∀ vs : List Nat, EnvR H (wipeG Γ vs) (wipe σ vs)
  | [] => h
  | v :: vs => EnvR.set (g := .un) True.intro v (EnvR.wipe h vs)
theorem EnvR.start {H : Hp} : ∀ {ds : List D} {vs : List V} (n : Nat), Reps H ds vs → EnvR H (ds.map .d ++ List.replicate n .un) (vs.map some ++ List.replicate n none)
  | [], _, n, h => by
    cases h
    induction n with
    | zero => rfl
    | succ n ih => exact ⟨none, _, rfl, True.intro, ih⟩
  | d :: ds, _, n, ⟨v, vs, h1, h2, h3⟩ => by
    subst h1
    exact ⟨some v, _, rfl, ⟨v, rfl, h2⟩, EnvR.start n h3⟩

/-! ### what a reading evaluates to -/
def Pu (t : TE) (Γ : List G) (d : D) : Prop := ∀ σ H, EnvR H Γ σ → ∀ Q : VK, (∀ v H', Same H H' → Rep H' d v → Q v H') → t σ H Q
def PuA (t : TA) (Γ : List G) (ds : List D) : Prop := ∀ σ H, EnvR H Γ σ → ∀ Q : List V → Hp → Prop, (∀ vs H', Same H H' → Reps H' ds vs → Q vs H') → t σ H Q
def PuT (t : TT) (Γ : List G) (b : Bool) : Prop := ∀ σ H, EnvR H Γ σ → ∀ Q : Bool → Hp → Prop, (∀ H', Same H H' → Q b H') → t σ H Q
section
variable {Γ : List G} {ta tb te : TE} {d x y : D} {K : PySem.W.Frag}
theorem pu_var {i : Nat} (h : Γ[i]? = some (.d d)) : Pu (tVar i) Γ d := fun σ H e Q q => by
  obtain ⟨v, h1, h2⟩ := e.getD h
  exact ⟨v, h1, q v H (Same.refl H) h2⟩
theorem pu_int {i : Int} : Pu (tC (.int i)) Γ (.int i) := fun σ H e Q q => q _ H (Same.refl H) rfl
theorem pu_bl {b : Bool} : Pu (tC (.bl b)) Γ (.bl b) := fun σ H e Q q => q _ H (Same.refl H) rfl
theorem pu_non : Pu (tC .non) Γ .non := fun σ H e Q q => q _ H (Same.refl H) rfl
theorem pu_str {s : Str} : Pu (tC (.str s)) Γ (.str s) := fun σ H e Q q => q _ H (Same.refl H) rfl
/-- a two-place operation on data -/
def RD (r : R2) (x y d : D) : Prop := ∀ H v u, Rep H x v → Rep H y u → ∀ Q : VK, (∀ z H', Same H H' → Rep H' d z → Q z H') → r v u H Q
theorem pu_op {r : R2} (ha : Pu ta Γ x) (hb : Pu tb Γ y) (hr : RD r x y d) : Pu (tOp r ta tb) Γ d := fun σ H e Q q =>
  ha σ H e _ fun v H1 e1 r1 => hb σ H1 (e.mono e1) _ fun u H2 e2 r2 => hr H2 v u (r1.mono e2) r2 Q fun z H3 e3 r3 => q z H3 ((Same.trans e1 e2).trans e3) r3
theorem pa_nilP : PuA tNil Γ [] := fun σ H e Q q => q [] H (Same.refl H) rfl
theorem pa_consP {tr : TA} {ds : List D} (ha : Pu ta Γ x) (hr : PuA tr Γ ds) : PuA (tCons ta tr) Γ (x :: ds) := fun σ H e Q q =>
  ha σ H e _ fun v H1 e1 r1 => hr σ H1 (e.mono e1) _ fun vs H2 e2 r2 => q (v :: vs) H2 (Same.trans e1 e2) ⟨v, vs, rfl, r1.mono e2, r2⟩
theorem pa_starP {tr : TA} {ds es : List D} (ha : Pu ta Γ (.tup es)) (hr : PuA tr Γ ds) : PuA (StX.tStar K ta tr) Γ (es ++ ds) := fun σ H e Q q =>
  ha σ H e _ fun v H1 e1 ⟨a, xs, h1, h2, h3⟩ => ⟨a, xs, h1, .inl (SqT.of h2), hr σ H1 (e.mono e1) _ fun vs H2 e2 r2 => q _ H2 (Same.trans e1 e2) ((h3.mono e2).append r2)⟩
theorem small_le {n : Nat} (h : Nat.ble n 1000 = true) : n ≤ sizeLine := Nat.le_trans (Nat.le_of_ble_eq_true h) (by rw [sizeLine_eq]; decide)
theorem pu_tup {t : TA} {ds : List D} (h : PuA t Γ ds) (hl : ds.length ≤ sizeLine) : Pu (tTup t) Γ (.tup ds) := fun σ H e Q q =>
  h σ H e _ fun vs H1 e1 r1 => ⟨by rw [r1.length]; exact hl, fun p hp => q _ _ (Same.trans e1 (Same.new hp)) ⟨p, vs, rfl, upd_same, r1.mono (Same.new hp)⟩⟩
theorem pu_lst {t : TA} {ds : List D} (h : PuA t Γ ds) (hl : ds.length ≤ sizeLine) : Pu (tLst t) Γ (.lst ds) := fun σ H e Q q =>
  h σ H e _ fun vs H1 e1 r1 => ⟨by rw [r1.length]; exact hl, fun p hp => q _ _ (Same.trans e1 (Same.new hp)) ⟨p, vs, rfl, upd_same, r1.mono (Same.new hp)⟩⟩
theorem rd_I0 {g : Int → Int → Int} {i j : Int} : RD (rI0 fun i j => .int (g i j)) (.int i) (.int j) (.int (g i j)) := fun H v u h1 h2 Q q => ⟨i, j, h1, h2, q _ H (Same.refl H) rfl⟩
theorem rd_B0 {g : Int → Int → Bool} {i j : Int} : RD (rI0 fun i j => .bl (g i j)) (.int i) (.int j) (.bl (g i j)) := fun H v u h1 h2 Q q => ⟨i, j, h1, h2, q _ H (Same.refl H) rfl⟩
theorem rd_I {C : Int → Int → Prop} {g : Int → Int → Int} {i j : Int} (c : C i j) : RD (rI C fun i j => .int (g i j)) (.int i) (.int j) (.int (g i j)) := fun H v u h1 h2 Q q => ⟨i, j, h1, h2, c, q _ H (Same.refl H) rfl⟩
theorem rd_ixT {ds : List D} {i : Int} (h : atI ds i = some d) : RD (rIxT K) (.tup ds) (.int i) d := fun H v u ⟨a, xs, h1, h2, h3⟩ hu Q q => by
  obtain ⟨z, k1, k2⟩ := atI_map h3 h
  exact ⟨a, xs, i, z, h1, hu, SqT.of h2, k1, q z H (Same.refl H) k2⟩
theorem rd_ixL {ds : List D} {i : Int} (h : atI ds i = some d) : RD (rIxL K) (.lst ds) (.int i) d := fun H v u ⟨a, xs, h1, h2, h3⟩ hu Q q => by
  obtain ⟨z, k1, k2⟩ := atI_map h3 h
  exact ⟨a, xs, i, z, h1, hu, SqL.of h2, k1, q z H (Same.refl H) k2⟩
/-- == of flat values -/
def eqS : D → D → Option Bool
  | .int i, .int j => some (decide (i = j))
  | .str i, .str j => some (decide (i = j))
  | .bl i, .bl j => some (decide (i = j))
  | .non, .non => some true
  | .non, .int _ => some false
  | .int _, .non => some false
  | .non, .bl _ => some false
  | .bl _, .non => some false
  | .non, .str _ => some false
  | .str _, .non => some false
  | .int _, .str _ => some false
  | .str _, .int _ => some false
  | .bl _, .str _ => some false
  | .str _, .bl _ => some false
  | _, _ => none
theorem eqS_ok {H : Hp} {x y : D} {v u : V} {b : Bool} (h : eqS x y = some b) (hx : Rep H x v) (hy : Rep H y u) : scal v u = true ∧ decide (v = u) = b := by
  cases x <;> cases y <;> simp only [eqS, Option.some.injEq, reduceCtorEq] at h <;> (cases hx; cases hy; subst h; refine ⟨rfl, ?_⟩; simp)
theorem rd_eq {b : Bool} (h : eqS x y = some b) : RD rEq x y (.bl b) := fun H v u hx hy Q q => by
  obtain ⟨h1, h2⟩ := eqS_ok h hx hy
  exact ⟨h1, q _ H (Same.refl H) (by rw [h2]; rfl)⟩
theorem rd_ne {b : Bool} (h : eqS x y = some b) : RD rNe x y (.bl (!b)) := fun H v u hx hy Q q => by
  obtain ⟨h1, h2⟩ := eqS_ok h hx hy
  exact ⟨h1, q _ H (Same.refl H) (by rw [h2]; rfl)⟩
/-- tests -/
theorem pt_testP {b : Bool} (h : Pu te Γ (.bl b)) : PuT (tTest te) Γ b := fun σ H e Q q => h σ H e _ fun v H1 e1 r1 => ⟨b, r1, q H1 e1⟩
theorem pt_BP {b : Bool} (h : Pu te Γ (.bl b)) : PuT (tB te) Γ b := fun σ H e Q q => h σ H e _ fun v H1 e1 r1 => ⟨b, r1, q H1 e1⟩
end
end P6
namespace P6
open PySem PySem.Spec PyProof.Rows L2
/-! ### expressions: a rule and what it evaluates to, in one -/
def U (X : Cx) (e : Expr) (Γ : List G) (d : D) : Prop := ∃ t, PE X e t ∧ Pu t Γ d
def UA (X : Cx) (es : List Expr) (Γ : List G) (ds : List D) : Prop := ∃ t, PA X es t ∧ PuA t Γ ds
def T (X : Cx) (e : Expr) (Γ : List G) (b : Bool) : Prop := ∃ t, PT X e t ∧ PuT t Γ b
def Wt (X : Cx) (e : Expr) (Γ : List G) (b : Bool) : Prop := ∃ t, PW X e t ∧ PuT t Γ b
theorem pe_never {X : Cx} {e : Expr} : PE X e (fun _ _ _ => False) := ⟨fun _ _ _ _ _ _ h => h.elim⟩
theorem pw_never {X : Cx} {e : Expr} : PW X e (fun _ _ _ => False) := ⟨fun _ _ _ _ _ _ _ h => h.elim⟩
section
variable {X : Cx} {Γ : List G} {a b c e : Expr} {es : List Expr} {d x y : D} {ds : List D} {pos p : Pos} {i j : Int}
theorem u_var {nm : Str} (k : Nat) (hΓ : Γ[k]? = some (.d d)) (hN : X.N[k]? = some nm := by rfl) (hv : Vis X.env.scope nm := by first | exact Or.inl rfl | exact Or.inr (Or.inl rfl) | exact Or.inr (Or.inr rfl))
    (hd : (nm == ("__debug__" : Str)) = false := by decide) (hcd : (nm == ("__classdict__" : Str)) = false := by decide) : U X (.Name nm pos) Γ d := ⟨_, pe_var hN hv hd hcd, pu_var hΓ⟩
theorem u_int {k : Nat} : U X (.Constant (.int i) k pos) Γ (.int i) := ⟨_, pe_int, pu_int⟩
theorem u_bl {k : Nat} {v : Bool} : U X (.Constant (.bool v) k pos) Γ (.bl v) := ⟨_, pe_bl, pu_bl⟩
theorem u_non {k : Nat} : U X (.Constant .none k pos) Γ .non := ⟨_, pe_non, pu_non⟩
theorem u_str {k : Nat} {s : Str} : U X (.Constant (.str s) k pos) Γ (.str s) := ⟨_, pe_str, pu_str⟩
theorem u_globI {nm : Str} {t : Tok} (hm : X.mg nm = some (.int i t)) (hg : Gl X nm := by rfl) (hd : (nm == ("__debug__" : Str)) = false := by decide) : U X (.Name nm pos) Γ (.int i) := ⟨_, pe_glob (v := .int i) hg hm ⟨t, rfl⟩ hd, pu_int⟩
theorem u_op {op : Operator} {r : R2} (ho : OpR X (binaryOp op) r) (hr : RD r x y d) (ha : U X a Γ x) (hb : U X b Γ y) : U X (.BinOp a op b pos) Γ d := by
  obtain ⟨ta, h1, h2⟩ := ha
  obtain ⟨tb, h3, h4⟩ := hb
  exact ⟨_, pe_op ho h1 h3, pu_op h2 h4 hr⟩
theorem u_add (ha : U X a Γ (.int i)) (hb : U X b Γ (.int j)) : U X (.BinOp a .Add b pos) Γ (.int (i + j)) := u_op op_add rd_I0 ha hb
theorem u_sub (ha : U X a Γ (.int i)) (hb : U X b Γ (.int j)) : U X (.BinOp a .Sub b pos) Γ (.int (i - j)) := u_op op_sub rd_I0 ha hb
theorem u_mod (hj : 0 < j) (ha : U X a Γ (.int i)) (hb : U X b Γ (.int j)) : U X (.BinOp a .Mod b pos) Γ (.int (i % j)) := u_op op_mod (rd_I hj) ha hb
theorem u_mul (hc : CMul i j) (ha : U X a Γ (.int i)) (hb : U X b Γ (.int j)) : U X (.BinOp a .Mult b pos) Γ (.int (i * j)) := u_op op_mul (rd_I hc) ha hb
theorem ua_nil : UA X [] Γ [] := ⟨_, pa_nil, pa_nilP⟩
theorem ua_cons (ha : U X e Γ d) (hr : UA X es Γ ds) (hs : starEach (e :: es) X.env = (false, eval e X.env) :: starEach es X.env := by rfl) : UA X (e :: es) Γ (d :: ds) := by
  obtain ⟨ta, h1, h2⟩ := ha
  obtain ⟨tb, h3, h4⟩ := hr
  exact ⟨_, pa_cons h1 h3 hs, pa_consP h2 h4⟩
theorem ua_star {zs : List D} (ha : U X e Γ (.tup zs)) (hr : UA X es Γ ds) (hs : starEach (.Starred e p :: es) X.env = (true, eval e X.env) :: starEach es X.env := by rfl) : UA X (.Starred e p :: es) Γ (zs ++ ds) := by
  obtain ⟨ta, h1, h2⟩ := ha
  obtain ⟨tb, h3, h4⟩ := hr
  exact ⟨_, StX.pa_star h1 h3 hs, pa_starP h2 h4⟩
theorem u_tupN {k : Nat} (hl : ds.length ≤ sizeLine) (h : UA X es Γ ds) : U X (.Tuple es k pos) Γ (.tup ds) := by
  obtain ⟨t, h1, h2⟩ := h
  exact ⟨_, pe_tup h1, pu_tup h2 hl⟩
theorem u_lstN (hl : ds.length ≤ sizeLine) (h : UA X es Γ ds) : U X (.List es pos) Γ (.lst ds) := by
  obtain ⟨t, h1, h2⟩ := h
  exact ⟨_, pe_lst h1, pu_lst h2 hl⟩
theorem u_tup {k : Nat} (h : UA X es Γ ds) (hl : Nat.ble ds.length 1000 = true := by rfl) : U X (.Tuple es k pos) Γ (.tup ds) := u_tupN (small_le hl) h
theorem u_lst (h : UA X es Γ ds) (hl : Nat.ble ds.length 1000 = true := by rfl) : U X (.List es pos) Γ (.lst ds) := u_lstN (small_le hl) h
theorem u_ixT (ha : U X a Γ (.tup ds)) (hb : U X b Γ (.int i)) (h : atI ds i = some d := by rfl) (hs : PlainIx b := by exact fun _ _ => rfl) : U X (.Subscript a b pos) Γ d := by
  obtain ⟨ta, h1, h2⟩ := ha
  obtain ⟨tb, h3, h4⟩ := hb
  exact ⟨_, pe_ix ix_tup h1 h3 hs, pu_op h2 h4 (rd_ixT h)⟩
theorem u_ixL (ha : U X a Γ (.lst ds)) (hb : U X b Γ (.int i)) (h : atI ds i = some d := by rfl) (hs : PlainIx b := by exact fun _ _ => rfl) : U X (.Subscript a b pos) Γ d := by
  obtain ⟨ta, h1, h2⟩ := ha
  obtain ⟨tb, h3, h4⟩ := hb
  exact ⟨_, pe_ix ix_list h1 h3 hs, pu_op h2 h4 (rd_ixL h)⟩
/-! comparisons -/
theorem u_cmp {op : CmpOp} {r : R2} (ho : OpR X (compareOp op) r) (hr : RD r x y d) (ha : U X a Γ x) (hb : U X b Γ y) (hm : behindInMarks op b = false := by first | exact nomark _ | rfl) : U X (.Compare a [op] [b] pos) Γ d := by
  obtain ⟨ta, h1, h2⟩ := ha
  obtain ⟨tb, h3, h4⟩ := hb
  exact ⟨_, pe_cmpR ho h1 h3 hm, pu_op h2 h4 hr⟩
theorem t_cmp {op : CmpOp} {r : R2} {k : Bool} (ho : OpR X (compareOp op) r) (hr : RD r x y (.bl k)) (ha : U X a Γ x) (hb : U X b Γ y) (hm : behindInMarks op b = false := by first | exact nomark _ | rfl) : T X (.Compare a [op] [b] pos) Γ k := by
  obtain ⟨ta, h1, h2⟩ := ha
  obtain ⟨tb, h3, h4⟩ := hb
  exact ⟨_, pt_cmpR ho h1 h3 hm, pt_testP (pu_op h2 h4 hr)⟩
theorem t_eq {k : Bool} (ha : U X a Γ x) (hb : U X b Γ y) (h : eqS x y = some k := by first | decide +kernel | rfl) : T X (.Compare a [.Eq] [b] pos) Γ k := t_cmp op_eq (rd_eq h) ha hb
theorem t_ne {k : Bool} (ha : U X a Γ x) (hb : U X b Γ y) (h : eqS x y = some k := by first | decide +kernel | rfl) : T X (.Compare a [.NotEq] [b] pos) Γ (!k) := t_cmp op_ne (rd_ne h) ha hb
theorem u_eq {k : Bool} (ha : U X a Γ x) (hb : U X b Γ y) (h : eqS x y = some k := by first | decide +kernel | rfl) : U X (.Compare a [.Eq] [b] pos) Γ (.bl k) := u_cmp op_eq (rd_eq h) ha hb
theorem u_ne {k : Bool} (ha : U X a Γ x) (hb : U X b Γ y) (h : eqS x y = some k := by first | decide +kernel | rfl) : U X (.Compare a [.NotEq] [b] pos) Γ (.bl (!k)) := u_cmp op_ne (rd_ne h) ha hb
theorem t_lt (ha : U X a Γ (.int i)) (hb : U X b Γ (.int j)) : T X (.Compare a [.Lt] [b] pos) Γ (decide (i < j)) := t_cmp op_lt rd_B0 ha hb
theorem t_gt (ha : U X a Γ (.int i)) (hb : U X b Γ (.int j)) : T X (.Compare a [.Gt] [b] pos) Γ (decide (j < i)) := t_cmp op_gt rd_B0 ha hb
theorem t_ge (ha : U X a Γ (.int i)) (hb : U X b Γ (.int j)) : T X (.Compare a [.GtE] [b] pos) Γ (decide (j ≤ i)) := t_cmp op_ge rd_B0 ha hb
theorem u_lt (ha : U X a Γ (.int i)) (hb : U X b Γ (.int j)) : U X (.Compare a [.Lt] [b] pos) Γ (.bl (decide (i < j))) := u_cmp op_lt rd_B0 ha hb
theorem t_is {k : Bool} (h : T X e Γ k) {k' : Bool} (q : k = k') : T X e Γ k' := q ▸ h
/-- is None -/
def isNon : D → Bool
  | .non => true
  | _ => false
theorem isNon_ok {H : Hp} {d : D} {v : V} (h : Rep H d v) : decide (v = .non) = isNon d := by
  cases d with
  | non => cases h; rfl
  | bl _ => cases h; rfl
  | int _ => cases h; rfl
  | str _ => cases h; rfl
  | tup _ => obtain ⟨a, xs, h1, _⟩ := h; subst h1; rfl
  | lst _ => obtain ⟨a, xs, h1, _⟩ := h; subst h1; rfl
  | mac _ _ _ _ => obtain ⟨a, dx, vt, vp, h1, _⟩ := h; subst h1; rfl
  | dic _ _ => obtain ⟨a, vs, h1, _⟩ := h; subst h1; rfl
  | scr _ _ => obtain ⟨a, h1, _⟩ := h; subst h1; rfl
theorem rd_isN : RD (fun x y H Q => y = .non ∧ Q (.bl (decide (x = .non))) H) x .non (.bl (isNon x)) := fun H v u hx hy Q q => ⟨hy, q _ H (Same.refl H) (by rw [isNon_ok hx]; rfl)⟩
theorem t_isN {k : Nat} {p' : Pos} (ha : U X a Γ x) : T X (.Compare a [.Is] [.Constant .none k p'] pos) Γ (isNon x) := t_cmp op_isN rd_isN ha u_non
theorem rd_notN : RD (fun x y H Q => y = .non ∧ Q (.bl (!decide (x = .non))) H) x .non (.bl (!isNon x)) := fun H v u hx hy Q q => ⟨hy, q _ H (Same.refl H) (by rw [isNon_ok hx]; rfl)⟩
theorem t_notN {k : Nat} {p' : Pos} (ha : U X a Γ x) : T X (.Compare a [.IsNot] [.Constant .none k p'] pos) Γ (!isNon x) := t_cmp op_notN rd_notN ha u_non
/-- a chain of two comparisons of ints -/
theorem u_chain {op op' : CmpOp} {g g' : Int → Int → Bool} {k : Int} (ho : OpR X (compareOp op) (rI0 fun i j => .bl (g i j))) (ho' : OpR X (compareOp op') (rI0 fun i j => .bl (g' i j))) (ha : U X a Γ (.int i)) (hb : U X b Γ (.int j)) (hc : U X c Γ (.int k))
    (hm : lastMarks [op, op'] [b, c] = false := by with_unfolding_all rfl) : U X (.Compare a [op, op'] [b, c] pos) Γ (.bl (g i j && g' j k)) := by
  obtain ⟨ta, h1, h2⟩ := ha
  obtain ⟨tb, h3, h4⟩ := hb
  obtain ⟨tc, h5, h6⟩ := hc
  refine ⟨_, pe_chain ho ho' h1 h3 h5 hm, fun σ H e Q q => h2 σ H e _ fun v H1 e1 r1 => h4 σ H1 (e.mono e1) _ fun u H2 e2 r2 => ?_⟩
  refine ⟨i, j, r1, r2, g i j, rfl, ?_⟩
  have e12 : Same H H2 := Same.trans e1 e2
  cases hg : g i j with
  | true =>
    rw [hg] at q
    show tc σ H2 _
    refine h6 σ H2 (e.mono e12) _ fun z H3 e3 r3 => ⟨j, k, r2, r3, ?_⟩
    exact q _ H3 (e12.trans e3) rfl
  | false =>
    rw [hg] at q
    show Q (.bl false) H2
    exact q _ H2 e12 rfl
theorem u_le2 {k : Int} (ha : U X a Γ (.int i)) (hb : U X b Γ (.int j)) (hc : U X c Γ (.int k)) (hm : lastMarks [.LtE, .LtE] [b, c] = false := by with_unfolding_all rfl) : U X (.Compare a [.LtE, .LtE] [b, c] pos) Γ (.bl (decide (i ≤ j) && decide (j ≤ k))) := u_chain op_le op_le ha hb hc hm
theorem t_chain {op op' : CmpOp} {g g' : Int → Int → Bool} {k : Int} (ho : OpR X (compareOp op) (rI0 fun i j => .bl (g i j))) (ho' : OpR X (compareOp op') (rI0 fun i j => .bl (g' i j))) (ha : U X a Γ (.int i)) (hb : U X b Γ (.int j)) (hc : U X c Γ (.int k))
    (hm : lastMarks [op, op'] [b, c] = false := by with_unfolding_all rfl) : T X (.Compare a [op, op'] [b, c] pos) Γ (g i j && g' j k) := by
  obtain ⟨ta, h1, h2⟩ := ha
  obtain ⟨tb, h3, h4⟩ := hb
  obtain ⟨tc, h5, h6⟩ := hc
  refine ⟨_, pt_chain ho ho' h1 h3 h5 hm, fun σ H e Q q => h2 σ H e _ fun v H1 e1 r1 => h4 σ H1 (e.mono e1) _ fun u H2 e2 r2 => ?_⟩
  refine ⟨i, j, r1, r2, g i j, rfl, ?_⟩
  have e12 : Same H H2 := Same.trans e1 e2
  cases hg : g i j with
  | true =>
    rw [hg] at q
    show tc σ H2 _
    refine h6 σ H2 (e.mono e12) _ fun z H3 e3 r3 => ⟨j, k, r2, r3, ?_⟩
    exact ⟨_, rfl, q H3 (e12.trans e3)⟩
  | false =>
    rw [hg] at q
    show ∃ c, V.bl false = .bl c ∧ Q c H2
    exact ⟨_, rfl, q H2 e12⟩
theorem u_ge1 {k : Int} (h : i ≤ j ∧ j ≤ k) (ha : U X a Γ (.int i)) (hb : U X b Γ (.int j)) (hc : U X c Γ (.int k)) (hm : lastMarks [.LtE, .LtE] [b, c] = false := by with_unfolding_all rfl) : U X (.Compare a [.LtE, .LtE] [b, c] pos) Γ (.bl true) := by
  have q := u_le2 (pos := pos) ha hb hc hm
  rw [decide_eq_true h.1, decide_eq_true h.2] at q
  exact q
theorem t_ge1 {k : Int} (h : i ≤ j ∧ j ≤ k) (ha : U X a Γ (.int i)) (hb : U X b Γ (.int j)) (hc : U X c Γ (.int k)) (hm : lastMarks [.LtE, .LtE] [b, c] = false := by with_unfolding_all rfl) : T X (.Compare a [.LtE, .LtE] [b, c] pos) Γ true := by
  have q := t_chain (pos := pos) op_le op_le ha hb hc hm
  rw [decide_eq_true h.1, decide_eq_true h.2] at q
  exact q
/-! truth -/
theorem t_val {k : Bool} (h : U X e Γ (.bl k)) (he : ∀ whole, isTrue e X.env whole = (do let v ← whole; standAt e.pos; holding [v] (truthy v)) := by intro _; rfl) : T X e Γ k := by
  obtain ⟨t, h1, h2⟩ := h
  exact ⟨_, pt_val h1 he, pt_BP h2⟩
theorem u_is (h : U X e Γ x) {y : D} (q : x = y) : U X e Γ y := q ▸ h
theorem t_not {k : Bool} (h : T X a Γ k) : T X (.UnaryOp .Not a pos) Γ (!k) := by
  obtain ⟨t, h1, h2⟩ := h
  exact ⟨_, pt_not h1, fun σ H e Q q => h2 σ H e _ fun H1 e1 => q H1 e1⟩
theorem t_w {k : Bool} (h : Wt X e Γ k) : T X e Γ k := by
  obtain ⟨t, h1, h2⟩ := h
  exact ⟨t, h1.pt, h2⟩
theorem w_and1 {k : Bool} (h : T X a Γ k) : Wt X (.BoolOp .And [a] pos) Γ k := by
  obtain ⟨t, h1, h2⟩ := h
  exact ⟨_, pw_and1 h1, h2⟩
theorem w_or1 {k : Bool} (h : T X a Γ k) : Wt X (.BoolOp .Or [a] pos) Γ k := by
  obtain ⟨t, h1, h2⟩ := h
  exact ⟨_, pw_or1 h1, h2⟩
theorem w_and {k : Bool} (ha : T X a Γ true) (hb : Wt X (.BoolOp .And (b :: es) pos) Γ k) : Wt X (.BoolOp .And (a :: b :: es) pos) Γ k := by
  obtain ⟨t, h1, h2⟩ := ha
  obtain ⟨u, h3, h4⟩ := hb
  exact ⟨_, pw_and h1 h3, fun σ H e Q q => h2 σ H e _ fun H1 e1 => h4 σ H1 (e.mono e1) Q fun H2 e2 => q H2 (e1.trans e2)⟩
theorem w_andF (ha : T X a Γ false) : Wt X (.BoolOp .And (a :: b :: es) pos) Γ false := by
  obtain ⟨t, h1, h2⟩ := ha
  exact ⟨_, pw_and h1 pw_never, fun σ H e Q q => h2 σ H e _ fun H1 e1 => q H1 e1⟩
theorem w_or {k : Bool} (ha : T X a Γ false) (hb : Wt X (.BoolOp .Or (b :: es) pos) Γ k) : Wt X (.BoolOp .Or (a :: b :: es) pos) Γ k := by
  obtain ⟨t, h1, h2⟩ := ha
  obtain ⟨u, h3, h4⟩ := hb
  exact ⟨_, pw_or h1 h3, fun σ H e Q q => h2 σ H e _ fun H1 e1 => h4 σ H1 (e.mono e1) Q fun H2 e2 => q H2 (e1.trans e2)⟩
theorem w_orT (ha : T X a Γ true) : Wt X (.BoolOp .Or (a :: b :: es) pos) Γ true := by
  obtain ⟨t, h1, h2⟩ := ha
  exact ⟨_, pw_or h1 pw_never, fun σ H e Q q => h2 σ H e _ fun H1 e1 => q H1 e1⟩
theorem u_one {op : BoolOp} (h : U X a Γ d) : U X (.BoolOp op [a] pos) Γ d := by
  obtain ⟨t, h1, h2⟩ := h
  exact ⟨_, pe_one h1, h2⟩
theorem u_and (ha : U X a Γ (.bl true)) (hb : U X (.BoolOp .And (b :: es) pos) Γ d) : U X (.BoolOp .And (a :: b :: es) pos) Γ d := by
  obtain ⟨t, h1, h2⟩ := ha
  obtain ⟨u, h3, h4⟩ := hb
  exact ⟨_, pe_and h1 h3, fun σ H e Q q => h2 σ H e _ fun v H1 e1 r1 => ⟨true, r1, h4 σ H1 (e.mono e1) Q fun v H2 e2 => q v H2 (e1.trans e2)⟩⟩
theorem u_andF (ha : U X a Γ (.bl false)) : U X (.BoolOp .And (a :: b :: es) pos) Γ (.bl false) := by
  obtain ⟨t, h1, h2⟩ := ha
  exact ⟨_, pe_and h1 pe_never, fun σ H e Q q => h2 σ H e _ fun v H1 e1 r1 => ⟨false, r1, q _ H1 e1 rfl⟩⟩
theorem u_not {k : Bool} (ha : U X a Γ (.bl k)) : U X (.UnaryOp .Not a pos) Γ (.bl (!k)) := by
  obtain ⟨t, h1, h2⟩ := ha
  exact ⟨_, pe_not h1, fun σ H e Q q => h2 σ H e _ fun v H1 e1 r1 => ⟨k, r1, q _ H1 e1 rfl⟩⟩
theorem u_notF (ha : U X a Γ (.bl false)) : U X (.UnaryOp .Not a pos) Γ (.bl true) := u_not ha
theorem u_notT (ha : U X a Γ (.bl true)) : U X (.UnaryOp .Not a pos) Γ (.bl false) := u_not ha
theorem t_notF (ha : T X a Γ false) : T X (.UnaryOp .Not a pos) Γ true := t_not ha
theorem t_notT (ha : T X a Γ true) : T X (.UnaryOp .Not a pos) Γ false := t_not ha
theorem u_ifT (hc : T X c Γ true) (ha : U X a Γ d) : U X (.IfExp c a b pos) Γ d := by
  obtain ⟨t, h1, h2⟩ := hc
  obtain ⟨u, h3, h4⟩ := ha
  exact ⟨_, pe_ifExp h1 h3 pe_never, fun σ H e Q q => h2 σ H e _ fun H1 e1 => h4 σ H1 (e.mono e1) Q fun v H2 e2 => q v H2 (e1.trans e2)⟩
theorem u_ifF (hc : T X c Γ false) (hb : U X b Γ d) : U X (.IfExp c a b pos) Γ d := by
  obtain ⟨t, h1, h2⟩ := hc
  obtain ⟨u, h3, h4⟩ := hb
  exact ⟨_, pe_ifExp h1 pe_never h3, fun σ H e Q q => h2 σ H e _ fun H1 e1 => h4 σ H1 (e.mono e1) Q fun v H2 e2 => q v H2 (e1.trans e2)⟩
/-! built-ins -/
structure Bs (mg : Str → Option Value) : Prop where
  len : mg "len" = none
  isi : mg "isinstance" = none
  int : mg "int" = none
  bool : mg "bool" = none
  str : mg "str" = none
  tuple : mg "tuple" = none
  list : mg "list" = none
  all : mg "all" = none
  range : mg "range" = none
  sorted : mg "sorted" = none
theorem pu_lenT {t : TE} (h : Pu t Γ (.tup ds)) : Pu (tCB (fun xs H Q => ∃ p ys, xs = [.ref p] ∧ (SqL X.K H p ys ∨ SqT X.K H p ys) ∧ Q (.int ys.length) H) (tCons t tNil)) Γ (.int ds.length) := fun σ H e Q q =>
  h σ H e _ fun v H1 e1 ⟨a, xs, h1, h2, h3⟩ => ⟨a, xs, by rw [h1], .inr (SqT.of h2), q _ H1 e1 (by rw [h3.length]; rfl)⟩
theorem pu_lenL {t : TE} (h : Pu t Γ (.lst ds)) : Pu (tCB (fun xs H Q => ∃ p ys, xs = [.ref p] ∧ (SqL X.K H p ys ∨ SqT X.K H p ys) ∧ Q (.int ys.length) H) (tCons t tNil)) Γ (.int ds.length) := fun σ H e Q q =>
  h σ H e _ fun v H1 e1 ⟨a, xs, h1, h2, h3⟩ => ⟨a, xs, by rw [h1], .inl (SqL.of h2), q _ H1 e1 (by rw [h3.length]; rfl)⟩
theorem u_len (B : Bs X.mg) (h : U X a Γ (.tup ds)) (hg : Gl X "len" := by rfl) (hs : starEach [a] X.env = (false, eval a X.env) :: starEach [] X.env := by rfl) : U X (.Call (.Name "len" p) [a] [] pos) Γ (.int ds.length) := by
  obtain ⟨t, h1, h2⟩ := h
  exact ⟨_, pe_callB call_len_seq hg B.len boot_len (pa_cons h1 pa_nil hs) (he := hs), pu_lenT h2⟩
theorem u_lenL (B : Bs X.mg) (h : U X a Γ (.lst ds)) (hg : Gl X "len" := by rfl) (hs : starEach [a] X.env = (false, eval a X.env) :: starEach [] X.env := by rfl) : U X (.Call (.Name "len" p) [a] [] pos) Γ (.int ds.length) := by
  obtain ⟨t, h1, h2⟩ := h
  exact ⟨_, pe_callB call_len_seq hg B.len boot_len (pa_cons h1 pa_nil hs) (he := hs), pu_lenL h2⟩
def tyD : D → String
  | .non => "NoneType"
  | .bl _ => "bool"
  | .int _ => "int"
  | .str _ => "str"
  | .tup _ => "tuple"
  | .lst _ => "list"
  | .mac _ _ _ _ => ""
  | .dic _ _ => ""
  | .scr _ _ => ""
theorem tyD_ok {K : PySem.W.Frag} {H : Hp} {d : D} {v : V} (h : Rep H d v) (hd : (tyD d == "") = false) : TyX K H v (.type (tyD d)) := by
  cases d with
  | non => cases h; exact .base .non
  | bl _ => cases h; exact .base (.bl _)
  | int _ => cases h; exact .base (.int _)
  | str _ => cases h; exact .base (.str _)
  | tup _ => obtain ⟨a, xs, h1, h2, _⟩ := h; subst h1; exact .base (.tup h2)
  | lst _ => obtain ⟨a, xs, h1, h2, _⟩ := h; subst h1; exact .base (.lst h2)
  | mac _ _ _ _ => cases hd
  | dic _ _ => cases hd
  | scr _ _ => cases hd
theorem u_isi (B : Bs X.mg) {ty : Str} {n : String} {p2 : Pos} {k : Bool} (hmt : X.mg ty = none) (hb : bootBuiltins ty = some (.type n)) (h : U X a Γ d) (hk : kitB (tyD d) n = some k) (hd : (tyD d == "") = false := by rfl) (hg : Gl X "isinstance" := by rfl) (hgt : Gl X ty := by rfl)
    (hn : ty ≠ "__name__" := by decide) (hdb : (ty == ("__debug__" : Str)) = false := by decide)
    (hs : starEach [a, .Name ty p2] X.env = (false, eval a X.env) :: starEach [.Name ty p2] X.env := by rfl) (hpl : (backTo pos (starEach [.Name ty p2] X.env)).any (·.1) = false := by rfl) : U X (.Call (.Name "isinstance" p) [a, .Name ty p2] [] pos) Γ (.bl k) := by
  obtain ⟨t, h1, h2⟩ := h
  refine ⟨_, pe_callB call_isi hg B.isi boot_isinstance (pa_cons h1 (pa_cons (pe_bltn (v := .ty n) hgt hmt hb rfl hn hdb) pa_nil) hs) (he := hs) (hpl := hpl), fun σ H e Q q => h2 σ H e _ fun v H1 e1 r1 => ?_⟩
  exact ⟨v, .ty n, .type (tyD d), .type n, k, rfl, .ty n, tyD_ok r1 hd, kit_ty hk, q _ H1 e1 rfl⟩
/-- tuple(list) -/
theorem u_tupOf (B : Bs X.mg) (h : U X a Γ (.lst ds)) (hg : Gl X "tuple" := by rfl) (hs : starEach [a] X.env = (false, eval a X.env) :: starEach [] X.env := by rfl) : U X (.Call (.Name "tuple" p) [a] [] pos) Γ (.tup ds) := by
  obtain ⟨t, h1, h2⟩ := h
  refine ⟨_, pe_callTy call_tuple_of hg B.tuple boot_tuple (pa_cons h1 pa_nil hs) (he := hs), fun σ H e Q q => h2 σ H e _ fun v H1 e1 ⟨a, xs, k1, k2, k3⟩ => ?_⟩
  refine ⟨a, xs, by rw [k1], .inl ⟨SqL.of k2, fun l hl => q _ _ (e1.trans (Same.new hl)) ⟨l, xs, rfl, upd_same, k3.mono (Same.new hl)⟩⟩⟩
theorem u_listOf (B : Bs X.mg) (h : U X a Γ (.tup ds)) (hg : Gl X "list" := by rfl) (hs : starEach [a] X.env = (false, eval a X.env) :: starEach [] X.env := by rfl) : U X (.Call (.Name "list" p) [a] [] pos) Γ (.lst ds) := by
  obtain ⟨t, h1, h2⟩ := h
  refine ⟨_, pe_callTy call_list_of hg B.list boot_list (pa_cons h1 pa_nil hs) (he := hs), fun σ H e Q q => h2 σ H e _ fun v H1 e1 ⟨a, xs, k1, k2, k3⟩ => ?_⟩
  exact ⟨a, xs, by rw [k1], .inr (SqT.of k2), fun l hl => q _ _ (e1.trans (Same.new hl)) ⟨l, xs, rfl, upd_same, k3.mono (Same.new hl)⟩⟩
theorem reps_bl {H : Hp} : ∀ {bs : List Bool} {xs : List V}, Reps H (bs.map .bl) xs → xs = bs.map V.bl
  | [], _, h => h
  | b :: bs, _, ⟨v, vs, h1, h2, h3⟩ => by rw [h1, h2, reps_bl h3]; rfl
theorem reps_int {H : Hp} : ∀ {bs : List Int} {xs : List V}, Reps H (bs.map .int) xs → xs = bs.map V.int
  | [], _, h => h
  | b :: bs, _, ⟨v, vs, h1, h2, h3⟩ => by rw [h1, h2, reps_int h3]; rfl
theorem int_reps {H : Hp} : ∀ {bs : List Int}, Reps H (bs.map .int) (bs.map V.int)
  | [] => rfl
  | b :: bs => ⟨_, _, rfl, rfl, int_reps⟩
theorem u_all (B : Bs X.mg) {bs : List Bool} (hc : X.calm = true) (h : U X a Γ (.lst (bs.map .bl))) (hg : Gl X "all" := by rfl) (hs : starEach [a] X.env = (false, eval a X.env) :: starEach [] X.env := by rfl) : U X (.Call (.Name "all" p) [a] [] pos) Γ (.bl (bs.all id)) := by
  obtain ⟨t, h1, h2⟩ := h
  refine ⟨_, pe_callB (cr_all hc) hg B.all boot_all (pa_cons h1 pa_nil hs) (he := hs), fun σ H e Q q => h2 σ H e _ fun v H1 e1 ⟨a, xs, k1, k2, k3⟩ => ?_⟩
  rw [reps_bl k3] at k2
  exact ⟨a, bs, by rw [k1], SqL.of k2, q _ H1 e1 rfl⟩
/-! tuples: +, slices; lists: + -/
theorem u_cat {zs : List D} (hl : ds.length + zs.length ≤ sizeLine) (ha : U X a Γ (.tup ds)) (hb : U X b Γ (.tup zs)) : U X (.BinOp a .Add b pos) Γ (.tup (ds ++ zs)) := by
  refine u_op (x := .tup ds) (y := .tup zs) op_catA (fun H v u ⟨p, xs, h1, h2, h3⟩ ⟨p', xs', k1, k2, k3⟩ Q q => ?_) ha hb
  refine ⟨p, p', xs, xs', h1, k1, SqT.of h2, SqT.of k2, by rw [h3.length, k3.length]; exact hl, fun e0 => ?_, fun _ e0 => ?_, fun _ _ r hr => ?_⟩
  · subst e0
    have : ds = [] := List.eq_nil_of_length_eq_zero (h3.length.symm)
    subst this
    exact q _ H (Same.refl H) ⟨p', xs', rfl, k2, k3⟩
  · subst e0
    have : zs = [] := List.eq_nil_of_length_eq_zero (k3.length.symm)
    subst this
    rw [List.append_nil] at q
    exact q _ H (Same.refl H) ⟨p, xs, rfl, h2, h3⟩
  · exact q _ _ (Same.new hr) ⟨r, _, rfl, upd_same, (h3.append k3).mono (Same.new hr)⟩
theorem u_catL {zs : List D} (hl : ds.length + zs.length ≤ sizeLine) (ha : U X a Γ (.lst ds)) (hb : U X b Γ (.lst zs)) : U X (.BinOp a .Add b pos) Γ (.lst (ds ++ zs)) := by
  refine u_op (x := .lst ds) (y := .lst zs) op_cat (fun H v u ⟨p, xs, h1, h2, h3⟩ ⟨p', xs', k1, k2, k3⟩ Q q => ?_) ha hb
  refine ⟨p, p', xs, xs', h1, k1, h2, k2, by rw [h3.length, k3.length]; exact hl, fun r hr => ?_⟩
  exact q _ _ (Same.new hr) ⟨r, _, rfl, upd_same, (h3.append k3).mono (Same.new hr)⟩
def cutD (xs : List D) (lo hi : Option Int) : List D := (xs.drop (HT.sIx xs.length 0 lo)).take (HT.sIx xs.length xs.length hi - HT.sIx xs.length 0 lo)
theorem reps_cut {H : Hp} {ds : List D} {xs : List V} (h : Reps H ds xs) (lo hi : Option Int) : Reps H (cutD ds lo hi) (cutV xs lo hi) := by
  unfold cutD cutV
  rw [h.length]
  exact (h.drop _).take _
def UO (X : Cx) (e : Option Expr) (Γ : List G) (o : Option Int) : Prop := ∃ t, PO X e t ∧ ∀ σ H, EnvR H Γ σ → ∀ Q : Option Int → Hp → Prop, (∀ H', Same H H' → Q o H') → t σ H Q
theorem uo_none : UO X none Γ none := ⟨_, po_none, fun σ H e Q q => q H (Same.refl H)⟩
theorem uo_some (h : U X e Γ (.int i)) : UO X (some e) Γ (some i) := by
  obtain ⟨t, h1, h2⟩ := h
  exact ⟨_, po_some h1, fun σ H e Q q => h2 σ H e _ fun v H1 e1 r1 => ⟨i, r1, q H1 e1⟩⟩
theorem u_slT {lo hi : Option Expr} {l h : Option Int} {p2 : Pos} (ha : U X a Γ (.tup ds)) (hlo : UO X lo Γ l) (hhi : UO X hi Γ h) : U X (.Subscript a (.Slice lo hi none p2) pos) Γ (.tup (cutD ds l h)) := by
  obtain ⟨t, h1, h2⟩ := ha
  obtain ⟨tl, h3, h4⟩ := hlo
  obtain ⟨th, h5, h6⟩ := hhi
  refine ⟨_, pe_slice sl_tupA h1 h3 h5, fun σ H e Q q => h2 σ H e _ fun v H1 e1 r1 => h4 σ H1 (e.mono e1) _ fun H2 e2 => h6 σ H2 ((e.mono e1).mono e2) _ fun H3 e3 => ?_⟩
  obtain ⟨p, xs, k1, k2, k3⟩ := r1.mono (e2.trans e3)
  have es := (e1.trans e2).trans e3
  refine ⟨p, xs, k1, SqT.of k2, fun w => ?_, fun _ r hr => ?_⟩
  · have : cutD ds l h = ds := by
      unfold cutD
      rw [← k3.length, w.1, w.2, List.drop_zero, Nat.sub_zero, k3.length, List.take_length]
    rw [this] at q
    exact q _ H3 es ⟨p, xs, rfl, k2, k3⟩
  · exact q _ _ (es.trans (Same.new hr)) ⟨r, _, rfl, upd_same, (reps_cut k3 l h).mono (Same.new hr)⟩
end
end P6
namespace P6
open PySem PySem.Spec PyProof.Rows L2
/-! ### statements -/
inductive O where
  | ret (d : D) | nx (Γ : List G) | retF (P : List D → Prop)
def Fin (H : Hp) (E : Ends) : O → Prop
  | .ret d => ∀ v H', Same H H' → Rep H' d v → E.rt v H'
  | .nx Γ => ∀ σ' H', Same H H' → EnvR H' Γ σ' → E.nx σ' H'
  | .retF P => ∀ ys l H', P ys → Same H H' → H l = none → Rep H' (.lst ys) (.ref l) → E.rt (.ref l) H'
theorem Fin.mono {H H' : Hp} {E : Ends} (e : Same H H') : ∀ {o : O}, Fin H E o → Fin H' E o
  | .ret _, h => fun v H2 e2 r => h v H2 (e.trans e2) r
  | .nx _, h => fun v H2 e2 r => h v H2 (e.trans e2) r
  | .retF _, h => fun ys l H2 p e2 n r => h ys l H2 p (e.trans e2) (Same.free e n) r
def Ps (t : TS) (Γ : List G) (o : O) : Prop := ∀ σ H (E : Ends), EnvR H Γ σ → Fin H E o → t E σ H
def B (X : Cx) (st : List Stmt) (Γ : List G) (o : O) : Prop := ∃ t, PSs X st t ∧ Ps t Γ o
section
variable {X : Cx} {Γ Γ1 : List G} {a b c e : Expr} {es : List Expr} {st : Stmt} {rest body els : List Stmt} {d x y : D} {ds : List D} {pos p p' : Pos} {o : O}
theorem Ps.seq {t u : TS} (h : Ps t Γ (.nx Γ1)) (h2 : Ps u Γ1 o) : Ps (tSeq t u) Γ o := fun σ H E e q =>
  h σ H { E with nx := u E } e fun σ' H' e1 g => h2 σ' H' E g (q.mono e1)
theorem Ps.seqR {t u : TS} (h : Ps t Γ (.ret d)) : Ps (tSeq t u) Γ (.ret d) := fun σ H E e q => h σ H { E with nx := u E } e q
theorem b_nil : B X [] Γ (.nx Γ) := ⟨_, pss_nil, fun σ H E e q => q σ H (Same.refl H) e⟩
theorem b_ret (h : U X e Γ d) : B X (.Return (some e) pos :: rest) Γ (.ret d) := by
  obtain ⟨t, h1, h2⟩ := h
  exact ⟨_, pss_cons (ps_ret h1) pss_never, fun σ H E e q => h2 σ H e _ q⟩
theorem b_retN : B X (.Return none pos :: rest) Γ (.ret .non) := ⟨_, pss_cons ps_retN pss_never, fun σ H E e q => q _ H (Same.refl H) rfl⟩
theorem b_pass (h : B X rest Γ o) : B X (.Pass pos :: rest) Γ o := by
  obtain ⟨t, h1, h2⟩ := h
  exact ⟨_, pss_cons ps_pass h1, fun σ H E e q => h2 σ H E e q⟩
theorem b_set {nm : Str} (i : Nat) (hN : X.N.Nodup) (he : U X e Γ d) (h : B X rest (Γ.set i (.d d)) o) (hi : X.N[i]? = some nm := by rfl) (hx : Loc X.env.scope nm := by first | exact Or.inl rfl | exact Or.inr rfl)
    (hs : swapsWith e (some (.Name nm p')) pos.line X.env = pure false := by rfl) (hf : X.fn nm = true ∨ X.env.scope.names.lookup nm = some .local := by first | exact .inl rfl | exact .inr rfl) : B X (.Assign [.Name nm p'] e pos :: rest) Γ o := by
  obtain ⟨t, h1, h2⟩ := he
  obtain ⟨u, h3, h4⟩ := h
  exact ⟨_, pss_cons (ps_set hN hi hx h1 hs hf) h3, fun σ H E e q => h2 σ H e _ fun v H1 e1 r1 => h4 _ H1 E (EnvR.setD r1 i (e.mono e1)) (q.mono e1)⟩
theorem b_expr (he : U X e Γ d) (h : B X rest Γ o) (hs : swapsWith e none pos.line X.env = pure false := by rfl) : B X (.Expr e pos :: rest) Γ o := by
  obtain ⟨t, h1, h2⟩ := he
  obtain ⟨u, h3, h4⟩ := h
  exact ⟨_, pss_cons (ps_expr h1 hs) h3, fun σ H E e q => h2 σ H e _ fun v H1 e1 r1 => h4 σ H1 E (e.mono e1) (q.mono e1)⟩
theorem b_ifT (hc : T X c Γ true) (h : B X body Γ (.ret d)) : B X (.If c body els pos :: rest) Γ (.ret d) := by
  obtain ⟨t, h1, h2⟩ := hc
  obtain ⟨u, h3, h4⟩ := h
  exact ⟨_, pss_cons (ps_if h1 h3 pss_never) pss_never, fun σ H E e q => h2 σ H e _ fun H1 e1 => h4 σ H1 { E with nx := tNever E } (e.mono e1) (q.mono e1)⟩
theorem b_ifTF {P : List D → Prop} (hc : T X c Γ true) (h : B X body Γ (.retF P)) : B X (.If c body els pos :: rest) Γ (.retF P) := by
  obtain ⟨t, h1, h2⟩ := hc
  obtain ⟨u, h3, h4⟩ := h
  exact ⟨_, pss_cons (ps_if h1 h3 pss_never) pss_never, fun σ H E e q => h2 σ H e _ fun H1 e1 => h4 σ H1 { E with nx := tNever E } (e.mono e1) (Fin.mono (o := .retF P) e1 q)⟩
theorem b_ifF (hc : T X c Γ false) (h : B X rest Γ o) : B X (.If c body [] pos :: rest) Γ o := by
  obtain ⟨t, h1, h2⟩ := hc
  obtain ⟨u, h3, h4⟩ := h
  exact ⟨_, pss_cons (ps_if h1 pss_never pss_nil) h3, fun σ H E e q => h2 σ H e _ fun H1 e1 => h4 σ H1 E (e.mono e1) (q.mono e1)⟩
/-- the branch falls through -/
theorem b_ifTN (hc : T X c Γ true) (h : B X body Γ (.nx Γ1)) (h2 : B X rest Γ1 o) : B X (.If c body els pos :: rest) Γ o := by
  obtain ⟨t, h1, h2'⟩ := hc
  obtain ⟨u, h3, h4⟩ := h
  obtain ⟨w, h5, h6⟩ := h2
  exact ⟨_, pss_cons (ps_if h1 h3 pss_never) h5, fun σ H E e q => h2' σ H e _ fun H1 e1 => h4 σ H1 { E with nx := w E } (e.mono e1) fun σ' H2 e2 g => h6 σ' H2 E g (q.mono (e1.trans e2))⟩
theorem b_if {k : Bool} (hc : T X c Γ k) (h1 : k = true → B X body Γ (.ret d)) (h2 : k = false → B X rest Γ (.ret d)) : B X (.If c body [] pos :: rest) Γ (.ret d) := by
  cases k with
  | true => exact b_ifT hc (h1 rfl)
  | false => exact b_ifF hc (h2 rfl)
/-- a, b = e: a tuple taken apart -/
theorem b_unp2 {n1 n2 : Str} {q1 q2 tp : Pos} {k : Nat} (i j : Nat) (hN : X.N.Nodup) (he : U X e Γ (.tup [x, y])) (h : B X rest ((Γ.set i (.d x)).set j (.d y)) o) (hc : X.calm = true := by rfl) (hi : X.N[i]? = some n1 := by rfl) (hj : X.N[j]? = some n2 := by rfl)
    (hx : Loc X.env.scope n1 := by first | exact Or.inl rfl | exact Or.inr rfl) (hy : Loc X.env.scope n2 := by first | exact Or.inl rfl | exact Or.inr rfl)
    (hfx : X.fn n1 = true ∨ X.env.scope.names.lookup n1 = some .local := by first | exact .inl rfl | exact .inr rfl) (hfy : X.fn n2 = true ∨ X.env.scope.names.lookup n2 = some .local := by first | exact .inl rfl | exact .inr rfl)
    (hs : swapsWithSole [.Tuple [.Name n1 q1, .Name n2 q2] k tp] e pos.line X.env = pure false := by rfl) (hw : swappedStores [.Tuple [.Name n1 q1, .Name n2 q2] k tp] e X.env = pure none := by rfl)
    (ha : (assignEach [.Tuple [.Name n1 q1, .Name n2 q2] k tp] X.env).map (·.2) = [assign (.Tuple [.Name n1 q1, .Name n2 q2] k tp) X.env] := by rfl)
    (hn : (assignEach [.Name n1 q1, .Name n2 q2] X.env).length = 2 := by rfl) (hst : (assignEach [.Name n1 q1, .Name n2 q2] X.env).findIdx? (·.1) = none := by rfl)
    (hs1 : (assignEach [.Name n1 q1, .Name n2 q2] X.env).map (·.2) = assign (.Name n1 q1) X.env :: (assignEach [.Name n2 q2] X.env).map (·.2) := by rfl)
    (hs2 : (assignEach [.Name n2 q2] X.env).map (·.2) = assign (.Name n2 q2) X.env :: (assignEach [] X.env).map (·.2) := by rfl) :
    B X (.Assign [.Tuple [.Name n1 q1, .Name n2 q2] k tp] e pos :: rest) Γ o := by
  obtain ⟨t, h1, h2⟩ := he
  obtain ⟨u, h3, h4⟩ := h
  refine ⟨_, pss_cons (ps_asg h1 (pg_tup hc (pgs_cons (pg_name hN hi hx hfx) (pgs_cons (pg_name hN hj hy hfy) pgs_nil hs2) hs1) hn hst) hs hw ha) h3, fun σ H E e q => h2 σ H e _ fun v H1 e1 r1 => ?_⟩
  obtain ⟨a, xs, k1, k2, v1, w1, k3, k4, v2, w2, k5, k6, k7⟩ := r1
  cases k7
  subst k5 k3
  refine ⟨a, _, k1, SqT.of k2, rfl, v1, [v2], rfl, v2, [], rfl, rfl, ?_⟩
  exact h4 _ H1 E (EnvR.setD k6 j (EnvR.setD k4 i (e.mono e1))) (q.mono e1)
theorem b_unp3 {n1 n2 n3 : Str} {z : D} {q1 q2 q3 tp : Pos} {k : Nat} (i j l : Nat) (hN : X.N.Nodup) (he : U X e Γ (.tup [x, y, z])) (h : B X rest (((Γ.set i (.d x)).set j (.d y)).set l (.d z)) o) (hc : X.calm = true := by rfl)
    (hi : X.N[i]? = some n1 := by rfl) (hj : X.N[j]? = some n2 := by rfl) (hl : X.N[l]? = some n3 := by rfl)
    (hx : Loc X.env.scope n1 := by first | exact Or.inl rfl | exact Or.inr rfl) (hy : Loc X.env.scope n2 := by first | exact Or.inl rfl | exact Or.inr rfl) (hz : Loc X.env.scope n3 := by first | exact Or.inl rfl | exact Or.inr rfl)
    (hfx : X.fn n1 = true ∨ X.env.scope.names.lookup n1 = some .local := by first | exact .inl rfl | exact .inr rfl) (hfy : X.fn n2 = true ∨ X.env.scope.names.lookup n2 = some .local := by first | exact .inl rfl | exact .inr rfl)
    (hfz : X.fn n3 = true ∨ X.env.scope.names.lookup n3 = some .local := by first | exact .inl rfl | exact .inr rfl)
    (hs : swapsWithSole [.Tuple [.Name n1 q1, .Name n2 q2, .Name n3 q3] k tp] e pos.line X.env = pure false := by rfl) (hw : swappedStores [.Tuple [.Name n1 q1, .Name n2 q2, .Name n3 q3] k tp] e X.env = pure none := by rfl)
    (ha : (assignEach [.Tuple [.Name n1 q1, .Name n2 q2, .Name n3 q3] k tp] X.env).map (·.2) = [assign (.Tuple [.Name n1 q1, .Name n2 q2, .Name n3 q3] k tp) X.env] := by rfl)
    (hn : (assignEach [.Name n1 q1, .Name n2 q2, .Name n3 q3] X.env).length = 3 := by rfl) (hst : (assignEach [.Name n1 q1, .Name n2 q2, .Name n3 q3] X.env).findIdx? (·.1) = none := by rfl)
    (hs0 : (assignEach [.Name n1 q1, .Name n2 q2, .Name n3 q3] X.env).map (·.2) = assign (.Name n1 q1) X.env :: (assignEach [.Name n2 q2, .Name n3 q3] X.env).map (·.2) := by rfl)
    (hs1 : (assignEach [.Name n2 q2, .Name n3 q3] X.env).map (·.2) = assign (.Name n2 q2) X.env :: (assignEach [.Name n3 q3] X.env).map (·.2) := by rfl)
    (hs2 : (assignEach [.Name n3 q3] X.env).map (·.2) = assign (.Name n3 q3) X.env :: (assignEach [] X.env).map (·.2) := by rfl) :
    B X (.Assign [.Tuple [.Name n1 q1, .Name n2 q2, .Name n3 q3] k tp] e pos :: rest) Γ o := by
  obtain ⟨t, h1, h2⟩ := he
  obtain ⟨u, h3, h4⟩ := h
  refine ⟨_, pss_cons (ps_asg h1 (pg_tup hc (pgs_cons (pg_name hN hi hx hfx) (pgs_cons (pg_name hN hj hy hfy) (pgs_cons (pg_name hN hl hz hfz) pgs_nil hs2) hs1) hs0) hn hst) hs hw ha) h3, fun σ H E e q => h2 σ H e _ fun v H1 e1 r1 => ?_⟩
  obtain ⟨a, xs, k1, k2, v1, w1, k3, k4, v2, w2, k5, k6, v3, w3, k7, k8, k9⟩ := r1
  cases k9
  subst k7 k5 k3
  refine ⟨a, _, k1, SqT.of k2, rfl, v1, [v2, v3], rfl, v2, [v3], rfl, v3, [], rfl, rfl, ?_⟩
  exact h4 _ H1 E (EnvR.setD k8 l (EnvR.setD k6 j (EnvR.setD k4 i (e.mono e1)))) (q.mono e1)
/-- a, b = x, y with plain locals -/
theorem b_par2 {n1 n2 : Str} {q1 q2 tp tp2 : Pos} {k k2 : Nat} (i j : Nat) (hN : X.N.Nodup) (ha : UA X [a, b] Γ [x, y]) (h : B X rest ((Γ.set i (.d x)).set j (.d y)) o) (hij : i ≠ j := by decide) (hc : X.calm = true := by rfl)
    (hi : X.N[i]? = some n1 := by rfl) (hj : X.N[j]? = some n2 := by rfl) (hx : X.env.scope.names.lookup n1 = some .local := by rfl) (hy : X.env.scope.names.lookup n2 = some .local := by rfl)
    (hw : swappedStores [.Tuple [.Name n1 q1, .Name n2 q2] k tp] (.Tuple [a, b] k2 tp2) X.env = pure (some [n1, n2]) := by rfl)
    (hs : swapsWithSole [.Tuple [.Name n1 q1, .Name n2 q2] k tp] (.Tuple [a, b] k2 tp2) pos.line X.env = pure false := by rfl) :
    B X (.Assign [.Tuple [.Name n1 q1, .Name n2 q2] k tp] (.Tuple [a, b] k2 tp2) pos :: rest) Γ o := by
  obtain ⟨t, h1, h2⟩ := ha
  obtain ⟨u, h3, h4⟩ := h
  refine ⟨_, pss_cons (ps_par hc hN hi hj hij hx hy h1 hw hs) h3, fun σ H E e q => h2 σ H e _ fun vs H1 e1 r1 => ?_⟩
  obtain ⟨v1, w1, k3, k4, v2, w2, k5, k6, k7⟩ := r1
  cases k7
  subst k5 k3
  exact ⟨v1, v2, rfl, h4 _ H1 E (EnvR.setD k6 j (EnvR.setD k4 i (e.mono e1))) (q.mono e1)⟩
theorem b_par3 {n1 n2 n3 : Str} {z : D} {q1 q2 q3 tp tp2 : Pos} {k k2 : Nat} (i j l : Nat) (hN : X.N.Nodup) (ha : UA X [a, b, c] Γ [x, y, z]) (h : B X rest (((Γ.set i (.d x)).set j (.d y)).set l (.d z)) o) (hij : i ≠ j := by decide) (hil : i ≠ l := by decide) (hjl : j ≠ l := by decide)
    (hc : X.calm = true := by rfl) (hi : X.N[i]? = some n1 := by rfl) (hj : X.N[j]? = some n2 := by rfl) (hl : X.N[l]? = some n3 := by rfl) (hx : X.env.scope.names.lookup n1 = some .local := by rfl) (hy : X.env.scope.names.lookup n2 = some .local := by rfl) (hz : X.env.scope.names.lookup n3 = some .local := by rfl)
    (hw : swappedStores [.Tuple [.Name n1 q1, .Name n2 q2, .Name n3 q3] k tp] (.Tuple [a, b, c] k2 tp2) X.env = pure (some [n1, n2, n3]) := by rfl)
    (hs : swapsWithSole [.Tuple [.Name n1 q1, .Name n2 q2, .Name n3 q3] k tp] (.Tuple [a, b, c] k2 tp2) pos.line X.env = pure false := by rfl) :
    B X (.Assign [.Tuple [.Name n1 q1, .Name n2 q2, .Name n3 q3] k tp] (.Tuple [a, b, c] k2 tp2) pos :: rest) Γ o := by
  obtain ⟨t, h1, h2⟩ := ha
  obtain ⟨u, h3, h4⟩ := h
  refine ⟨_, pss_cons (ps_par3 hc hN hi hj hl hij hil hjl hx hy hz h1 hw hs) h3, fun σ H E e q => h2 σ H e _ fun vs H1 e1 r1 => ?_⟩
  obtain ⟨v1, w1, k3, k4, v2, w2, k5, k6, v3, w3, k7, k8, k9⟩ := r1
  cases k9
  subst k7 k5 k3
  exact ⟨v1, v2, v3, rfl, h4 _ H1 E (EnvR.setD k8 l (EnvR.setD k6 j (EnvR.setD k4 i (e.mono e1)))) (q.mono e1)⟩
end

/-! ### the reading that is what is asked: one for all data -/
def sem (X : Cx) (e : Expr) : TE := fun σ H Q => ∀ (pins : List (Addr × Obj)) (s : Shared), Inv X pins σ H s → wpAny (model X.prog X.w) X.A (eval e X.env) (EP X pins σ Q) X.xe s
theorem pe_sem {X : Cx} {e : Expr} : PE X e (sem X e) := ⟨fun pins s σ H Q I h => h pins s I⟩
theorem U.sem {X : Cx} {e : Expr} {Γ : List G} {d : D} (h : U X e Γ d) : Pu (sem X e) Γ d := by
  obtain ⟨t, h1, h2⟩ := h
  exact fun σ H e Q q pins s I => h1.run pins s σ H Q I (h2 σ H e Q q)
def semS (X : Cx) (st : List Stmt) : TS := fun E σ H => ∀ (pins : List (Addr × Obj)) (s : Shared), Inv X pins σ H s → wpAny (model X.prog X.w) X.A (execs st X.env) (SP X pins E) X.xe s
theorem ps_sem {X : Cx} {st : List Stmt} : PSs X st (semS X st) := ⟨fun pins s σ H E I h => h pins s I⟩
theorem B.sem {X : Cx} {st : List Stmt} {Γ : List G} {o : O} (h : B X st Γ o) : Ps (semS X st) Γ o := by
  obtain ⟨t, h1, h2⟩ := h
  exact fun σ H E e q pins s I => h1.run pins s σ H E I (h2 σ H E e q)

/-! ### defs -/
def spP (R : List D → D → Prop) : Sp := fun vs H Q _ => ∃ ds d, R ds d ∧ Reps H ds vs ∧ ∀ v H', Same H H' → Rep H' d v → Q v H'
structure Cal (P : Program) (w : World) (K : PySem.W.Frag) (mg : Str → Option Value) (base : Heap) (x : Str) (ps : List Str) (k : Nat) (sp : Sp) : Prop where
  ex : ∃ f fd, FnOk P w K mg base CX0 k f fd ps sp ∧ mg x = some (.ref f) ∧ PySem.W.keepIn K (.ref f) = true ∧ Binds K fd ps []
structure MCal (P : Program) (w : World) (K : PySem.W.Frag) (mg : Str → Option Value) (base : Heap) (C : Addr) (m : Str) (ps : List Str) (k : Nat) (sp : Sp) : Prop where
  ex : ∃ f fd, FnOk P w K mg base CX0 k f fd ps sp ∧ Meth K C m f ∧ Binds K fd ps []
structure Fl (K : PySem.W.Frag) (C : Addr) : Prop where
  cls : Cls K C
  nT : NoAttr K C "thing"
  nP : NoAttr K C "plans"
  nM : NoAttr K C "many"
section
variable {X : Cx} {Γ : List G} {e a : Expr} {es : List Expr} {d t0 p0 : D} {ds : List D} {pos p apos : Pos} {k : Nat} {ps : List Str} {R : List D → D → Prop} {x m : Str} {C : Addr} {n : Int}
theorem u_call (F : Cal X.prog X.w X.K X.mg X.base x ps k (spP R)) (hr : Room k X.A) (h : UA X (e :: es) Γ ds) (hR : R ds d) (hg : Gl X x := by rfl) (hdb : (x == ("__debug__" : Str)) = false := by decide)
    (he : starEach (e :: es) X.env = (false, eval e X.env) :: starEach es X.env := by rfl) (hpl : (backTo pos (starEach es X.env)).any (·.1) = false := by rfl) : U X (.Call (.Name x p) (e :: es) [] pos) Γ d := by
  obtain ⟨f, fd, h1, h2, h3, h4⟩ := F.ex
  obtain ⟨t, h5, h6⟩ := h
  refine ⟨_, pe_call h1 hr hg h2 h3 h4 .nil pass0 h5 hdb he hpl, fun σ H e Q q => h6 σ H e _ fun vs H1 e1 r1 => ?_⟩
  exact ⟨ds, d, hR, by rw [List.append_nil]; exact r1, fun v H2 e2 r2 => q v H2 (e1.trans e2) r2⟩
theorem mf_no {vt vp : V} (hm : (m == ("thing" : Str) || m == ("plans" : Str) || m == ("many" : Str)) = false) : (mf vt vp n).lookup m = none := by
  simp only [Bool.or_eq_false_iff] at hm
  unfold mf
  simp only [List.lookup, hm.1.1, hm.1.2, hm.2]
theorem u_meth {pl : Sem Bool} (c : Cls X.K C) (M : MCal X.prog X.w X.K X.mg X.base C m ps k (spP R)) (hr : Room k X.A) (ho : U X a Γ (.mac C t0 p0 n)) (h : UA X (e :: es) Γ ds) (hR : R (.mac C t0 p0 n :: ds) d)
    (hm : (m == ("thing" : Str) || m == ("plans" : Str) || m == ("many" : Str)) = false := by decide +kernel)
    (hst : starEach (e :: es) X.env = (false, eval e X.env) :: starEach es X.env := by rfl) (hpl : (backTo pos (starEach es X.env)).any (·.1) = false := by rfl)
    (ht : eval (.Call (.Attribute a m apos) (e :: es) [] pos) X.env = (do
      let ov ← eval a X.env
      standAt apos.atName
      let (f, first) ← holding [ov] (getMethod ov m pl)
      callWith pos f first (backTo pos (starEach (e :: es) X.env)) (backToKw pos (keywordEach [] X.env))) := by rfl) : U X (.Call (.Attribute a m apos) (e :: es) [] pos) Γ d := by
  obtain ⟨f, fd, h1, h2, h4⟩ := M.ex
  obtain ⟨t, h5, h6⟩ := h
  obtain ⟨u, h7, h8⟩ := ho
  refine ⟨_, pe_meth h7 c h2 h1 hr h4 .nil pass0 h5 hst hpl ht, fun σ H e Q q => h8 σ H e _ fun v H1 e1 r1 => ?_⟩
  obtain ⟨z, dx, vt, vp, k1, k2, k3, k4⟩ := id r1
  refine ⟨z, dx, _, k1, k2, mf_no hm, h6 σ H1 (e.mono e1) _ fun vs H2 e2 r2 => ?_⟩
  exact ⟨_ :: ds, d, hR, by rw [List.append_nil]; exact ⟨v, vs, rfl, r1.mono e2, r2⟩, fun v H3 e3 r3 => q v H3 ((e1.trans e2).trans e3) r3⟩
theorem u_meth0 {pl : Sem Bool} (c : Cls X.K C) (M : MCal X.prog X.w X.K X.mg X.base C m ps k (spP R)) (hr : Room k X.A) (ho : U X a Γ (.mac C t0 p0 n)) (hR : R [.mac C t0 p0 n] d)
    (hm : (m == ("thing" : Str) || m == ("plans" : Str) || m == ("many" : Str)) = false := by decide +kernel)
    (ht : eval (.Call (.Attribute a m apos) [] [] pos) X.env = (do
      let ov ← eval a X.env
      standAt apos.atName
      let (f, first) ← holding [ov] (getMethod ov m pl)
      callWith pos f first (backTo pos (starEach [] X.env)) (backToKw pos (keywordEach [] X.env))) := by rfl) : U X (.Call (.Attribute a m apos) [] [] pos) Γ d := by
  obtain ⟨f, fd, h1, h2, h4⟩ := M.ex
  obtain ⟨u, h7, h8⟩ := ho
  refine ⟨_, pe_meth0 h7 c h2 h1 hr h4 .nil pass0 ht, fun σ H e Q q => h8 σ H e _ fun v H1 e1 r1 => ?_⟩
  obtain ⟨z, dx, vt, vp, k1, k2, k3, k4⟩ := id r1
  exact ⟨z, dx, _, k1, k2, mf_no hm, _, d, hR, ⟨v, [], rfl, r1, rfl⟩, fun v H3 e3 r3 => q v H3 (e1.trans e3) r3⟩
theorem u_thing (c : Fl X.K C) (ho : U X a Γ (.mac C t0 p0 n)) (hb : attributeBase a "thing" X.env (eval a X.env) = eval a X.env := by rfl) : U X (.Attribute a "thing" pos) Γ t0 := by
  obtain ⟨u, h7, h8⟩ := ho
  refine ⟨_, pe_fld h7 hb, fun σ H e Q q => h8 σ H e _ fun v H1 e1 r1 => ?_⟩
  obtain ⟨z, dx, vt, vp, k1, k2, k3, k4⟩ := id r1
  exact ⟨z, C, dx, _, vt, k1, k2, c.cls, c.nT, rfl, q vt H1 e1 k3⟩
theorem u_plans (c : Fl X.K C) (ho : U X a Γ (.mac C t0 p0 n)) (hb : attributeBase a "plans" X.env (eval a X.env) = eval a X.env := by rfl) : U X (.Attribute a "plans" pos) Γ p0 := by
  obtain ⟨u, h7, h8⟩ := ho
  refine ⟨_, pe_fld h7 hb, fun σ H e Q q => h8 σ H e _ fun v H1 e1 r1 => ?_⟩
  obtain ⟨z, dx, vt, vp, k1, k2, k3, k4⟩ := id r1
  exact ⟨z, C, dx, _, vp, k1, k2, c.cls, c.nP, rfl, q vp H1 e1 k4⟩
theorem u_many (c : Fl X.K C) (ho : U X a Γ (.mac C t0 p0 n)) (hb : attributeBase a "many" X.env (eval a X.env) = eval a X.env := by rfl) : U X (.Attribute a "many" pos) Γ (.int n) := by
  obtain ⟨u, h7, h8⟩ := ho
  refine ⟨_, pe_fld h7 hb, fun σ H e Q q => h8 σ H e _ fun v H1 e1 r1 => ?_⟩
  obtain ⟨z, dx, vt, vp, k1, k2, k3, k4⟩ := id r1
  exact ⟨z, C, dx, _, .int n, k1, k2, c.cls, c.nM, rfl, q _ H1 e1 rfl⟩
end
section
variable {P : Program} {w : World} {K : PySem.W.Frag} {mg : Str → Option Value} {base : Heap} {x qual : Str} {params : Arguments} {body : List Stmt} {scope : Scope} {f : Addr} {fd : FuncData} {N ps : List Str} {k : Nat}
/-- the context of a def's body -/
abbrev cX (P : Program) (w : World) (K : PySem.W.Frag) (mg : Str → Option Value) (base : Heap) (N : List Str) (qual : Str) (scope : Scope) (f : Addr) (cdv : Value) (A : Around) (outer : List Env) (s : Shared) (H : Hp) (E : XK) : Cx := (cxOf CX0 P w K mg base N qual scope f cdv A outer s H E).nox
/-- a def that changes nothing keeps its promise -/
theorem fn_pure {R : List D → D → Prop} (F : FunD K x qual params body scope [] [] f fd) (S : FnScope N ps scope) (len : ∀ ds d, R ds d → ds.length = ps.length)
    (h : ∀ (cdv : Value) (A : Around) (outer : List Env) (s : Shared) (H : Hp) (E : XK), Room k (A.deeper (envOfC qual scope s.heap.objs.size f cdv)) → ∀ ds d, R ds d →
      B (cX P w K mg base N qual scope f cdv A outer s H E) body (ds.map .d ++ List.replicate (N.length - ds.length) .un) (.ret d) ∨ (d = .non ∧ ∃ Γ', B (cX P w K mg base N qual scope f cdv A outer s H E) body (ds.map .d ++ List.replicate (N.length - ds.length) .un) (.nx Γ'))) :
    FnOk P w K mg base CX0 (k + 1) f fd ps (spP R) := by
  refine F.ok S (fun vs H Q E hs => ?_) (fun cdv A outer s H vs Q E hr hs => ?_)
  · obtain ⟨ds, d, h1, h2, _⟩ := hs
    rw [h2.length]
    exact len ds d h1
  · obtain ⟨ds, d, h1, h2, h3⟩ := hs
    have e0 : EnvR H (ds.map .d ++ List.replicate (N.length - ds.length) .un) (start N vs) := by
      unfold L2.start
      rw [h2.length]
      exact EnvR.start _ h2
    rcases h cdv A outer s H E hr ds d h1 with ⟨t, k1, k2⟩ | ⟨hd, Γ', t, k1, k2⟩
    · exact ⟨t, PSs.nox k1, k2 _ H _ e0 h3⟩
    · subst hd
      exact ⟨t, PSs.nox k1, k2 _ H _ e0 fun σ' H' e1 _ => h3 _ H' e1 rfl⟩
end
end P6
namespace P6
open PySem PySem.Spec PyProof.Rows L2
/-! ### data without lists: what a list's change leaves alone -/
mutual
def noL : D → Bool
  | .lst _ => false
  | .mac _ _ _ _ => false
  | .dic _ _ => false
  | .scr _ _ => false
  | .tup ds => noLs ds
  | _ => true
def noLs : List D → Bool
  | [] => true
  | d :: ds => noL d && noLs ds
end
def Tsm (H H' : Hp) : Prop := ∀ a xs, H a = some (.tup xs) → H' a = some (.tup xs)
theorem Same.ts {H H' : Hp} (e : Same H H') : Tsm H H' := fun a xs h => e a _ h
theorem Tsm.trans {H H1 H2 : Hp} (a : Tsm H H1) (b : Tsm H1 H2) : Tsm H H2 := fun c xs h => b c xs (a c xs h)
mutual
theorem Rep.monoT {H H' : Hp} (e : Tsm H H') : ∀ {d : D} {v : V}, noL d = true → Rep H d v → Rep H' d v
  | .non, _, _, h => h
  | .bl _, _, _, h => h
  | .int _, _, _, h => h
  | .str _, _, _, h => h
  | .tup _, _, n, ⟨a, xs, h1, h2, h3⟩ => ⟨a, xs, h1, e _ _ h2, Reps.monoT e (by simpa [noL] using n) h3⟩
  | .lst _, _, n, _ => by simp [noL] at n
  | .mac _ _ _ _, _, n, _ => by simp [noL] at n
  | .dic _ _, _, n, _ => by simp [noL] at n
  | .scr _ _, _, n, _ => by simp [noL] at n
theorem Reps.monoT {H H' : Hp} (e : Tsm H H') : ∀ {ds : List D} {xs : List V}, noLs ds = true → Reps H ds xs → Reps H' ds xs
  | [], _, _, h => h
  | _ :: _, _, n, ⟨v, vs, h1, h2, h3⟩ => by
    simp only [noLs, Bool.and_eq_true] at n
    exact ⟨v, vs, h1, Rep.monoT e n.1 h2, Reps.monoT e n.2 h3⟩
end
theorem noLs_append : ∀ {ds es : List D}, noLs (ds ++ es) = (noLs ds && noLs es)
  | [], es => by simp [noLs]
  | d :: ds, es => by simp [noLs, noLs_append (ds := ds), Bool.and_assoc]
theorem noLs_iff : ∀ {ds : List D}, noLs ds = true ↔ ∀ d ∈ ds, noL d = true
  | [] => by simp [noLs]
  | d :: ds => by simp [noLs, noLs_iff (ds := ds)]
theorem Tsm.upd {H : Hp} {a : Addr} {o o' : HO} (h : H a = some o) (ho : ∀ xs, o ≠ .tup xs) : Tsm H (upd H a o') := fun b xs e => by
  rw [upd_ne]
  · exact e
  · intro z
    subst z
    rw [h] at e
    exact ho xs (Option.some.inj e)
theorem ts_lst {H : Hp} {a : Addr} {xs ys : List V} (h : H a = some (.lst xs)) : Tsm H (upd H a (.lst ys)) := Tsm.upd h fun _ z => nomatch z

/-! ### what is walked -/
def IterOf (J : It) (H0 : Hp) (ds : List D) : Prop := ∀ H, Same H0 H → (∀ i, i < ds.length → J.go i H ∧ ∀ x H', J.yld i H x H' → H' = H ∧ ∃ d, ds[i]? = some d ∧ Rep H d x) ∧ J.stop ds.length H
def UI (X : Cx) (tg iter : Expr) (Γ : List G) (ds : List D) : Prop := ∃ wi, PI X tg iter wi ∧ ∀ σ H, EnvR H Γ σ → ∀ R : It → Hp → Prop, (∀ J H', Same H H' → IterOf J H' ds → R J H') → wi σ H R
section
variable {X : Cx} {Γ : List G} {e tg elt iter : Expr} {d : D} {ds : List D} {pos p : Pos}
theorem ui_tup (h : U X e Γ (.tup ds)) : UI X tg e Γ ds := by
  obtain ⟨t, h1, h2⟩ := h
  refine ⟨_, pi_tup h1, fun σ H e R q => h2 σ H e _ fun v H1 e1 ⟨a, xs, k1, k2, k3⟩ => ⟨a, k1, ⟨xs, SqT.of k2⟩, q _ H1 e1 fun H2 e2 => ⟨fun i hi => ?_, ⟨xs, SqT.of (e2 _ _ k2), by rw [k3.length]; exact Nat.le_refl _⟩⟩⟩⟩
  obtain ⟨x, h3, h4⟩ := k3.get (List.getElem?_eq_getElem hi)
  refine ⟨⟨xs, x, SqT.of (e2 _ _ k2), h3⟩, fun y H' ⟨hy, z⟩ => ⟨hy, ds[i], List.getElem?_eq_getElem hi, ?_⟩⟩
  have := z xs (SqT.of (e2 _ _ k2))
  rw [h3] at this
  cases this
  exact h4.mono e2
theorem ui_lst (h : U X e Γ (.lst ds)) : UI X tg e Γ ds := by
  obtain ⟨t, h1, h2⟩ := h
  refine ⟨_, pi_list h1, fun σ H e R q => h2 σ H e _ fun v H1 e1 ⟨a, xs, k1, k2, k3⟩ => ⟨a, k1, ⟨xs, SqL.of k2⟩, q _ H1 e1 fun H2 e2 => ⟨fun i hi => ?_, ⟨xs, SqL.of (e2 _ _ k2), by rw [k3.length]; exact Nat.le_refl _⟩⟩⟩⟩
  obtain ⟨x, h3, h4⟩ := k3.get (List.getElem?_eq_getElem hi)
  refine ⟨⟨xs, x, SqL.of (e2 _ _ k2), h3⟩, fun y H' ⟨hy, z⟩ => ⟨hy, ds[i], List.getElem?_eq_getElem hi, ?_⟩⟩
  have := z xs (SqL.of (e2 _ _ k2))
  rw [h3] at this
  cases this
  exact h4.mono e2
/-- lo, lo + 1, .. -/
def rgD (lo : Int) (n : Nat) : List D := (List.range n).map fun i => .int (lo + (i : Nat))
theorem rgD_get {lo : Int} {n i : Nat} (h : i < n) : (rgD lo n)[i]? = some (.int (lo + (i : Nat))) := by
  unfold rgD
  rw [List.getElem?_map, List.getElem?_range h]
  rfl
theorem rgD_len {lo : Int} {n : Nat} : (rgD lo n).length = n := by simp [rgD]
theorem iterOf_rng (lo : Int) (n : Nat) (H : Hp) : IterOf (Itr lo n) H (rgD lo n) := fun H2 e2 => by
  rw [rgD_len]
  refine ⟨fun i hi => ⟨hi, fun x H' ⟨h1, h2⟩ => ⟨h1, _, rgD_get hi, h2⟩⟩, Nat.le_refl n⟩
theorem ui_rng1 (Bt : Bs X.mg) {n : Nat} (h : U X e Γ (.int n)) (hn : n < 2 ^ 62) (hg : Gl X "range" := by rfl) (hs : starEach [e] X.env = [(false, eval e X.env)] := by rfl) : UI X tg (.Call (.Name "range" p) [e] [] pos) Γ (rgD 0 n) := by
  obtain ⟨t, h1, h2⟩ := h
  refine ⟨_, pi_range1 hg Bt.range (pa_cons h1 pa_nil hs) hs, fun σ H e R q => h2 σ H e _ fun v H1 e1 r1 => ?_⟩
  refine ⟨n, by rw [show v = V.int n from r1], by omega, by omega, ?_⟩
  rw [Int.toNat_natCast]
  exact q _ H1 e1 (iterOf_rng 0 n H1)
theorem ui_rng2 (Bt : Bs X.mg) {i j : Int} {n : Nat} {e2 : Expr} (h : U X e Γ (.int i)) (h2 : U X e2 Γ (.int j)) (hn : (j - i).toNat = n) (hi : -(2 ^ 62) ≤ i ∧ i < 2 ^ 62) (hj : -(2 ^ 62) ≤ j ∧ j < 2 ^ 62) (hg : Gl X "range" := by rfl)
    (hs : starEach [e, e2] X.env = [(false, eval e X.env), (false, eval e2 X.env)] := by rfl) (hs2 : starEach [e2] X.env = [(false, eval e2 X.env)] := by rfl) (hs1 : starEach [e, e2] X.env = (false, eval e X.env) :: starEach [e2] X.env := by rfl) : UI X tg (.Call (.Name "range" p) [e, e2] [] pos) Γ (rgD i n) := by
  obtain ⟨t, h1, k1⟩ := h
  obtain ⟨t2, h3, k2⟩ := h2
  refine ⟨_, pi_range2 hg Bt.range (pa_cons h1 (pa_cons h3 pa_nil hs2) hs1) hs hs2, fun σ H e R q => k1 σ H e _ fun v H1 e1 r1 => k2 σ H1 (e.mono e1) _ fun v2 H2 e2 r2 => ?_⟩
  refine ⟨i, j, by rw [show v = V.int i from r1, show v2 = V.int j from r2], ⟨hi.1, hi.2, hj.1, hj.2⟩, ?_⟩
  rw [hn]
  exact q _ H2 (e1.trans e2) (iterOf_rng i n H2)

/-! ### list comprehensions -/
theorem rel_look {env : Env} {k : NameKind} (hk : k ≠ .free) : ∀ {names : List (Str × NameKind)} {x : Str}, names.lookup x = some k →
    (names.map fun (n, k) => if (k == NameKind.free && env.scope.kind == .function && env.kindOf n == some .cell) then (n, NameKind.cell) else (n, k)).lookup x = some k
  | [], _, h => by simp at h
  | (n, k') :: r, x, h => by
    have ih := @rel_look env k hk r x
    show List.lookup x ((if (k' == NameKind.free && env.scope.kind == .function && env.kindOf n == some .cell) = true then (n, NameKind.cell) else (n, k')) :: _) = _
    rw [List.lookup_cons] at h
    cases q : (x == n) with
    | true =>
      rw [q] at h
      have e : k' = k := Option.some.inj h
      subst e
      have hf : (k' == NameKind.free) = false := by cases k' <;> first | rfl | exact absurd rfl hk
      rw [hf]
      show List.lookup x ((n, k') :: _) = _
      rw [List.lookup_cons, q]
    | false =>
      rw [q] at h
      split
      · rw [List.lookup_cons, q]
        exact ih h
      · rw [List.lookup_cons, q]
        exact ih h
theorem relLoc {X : Cx} {s : Shared} {H : Hp} {C : Addr} {cl : List (Str × Addr)} {fp : List Addr} {scope : Scope} {nm : Str} (h : scope.names.lookup nm = some .local ∨ scope.names.lookup nm = some .cell) : Loc (X.blk s H scope (compEnvC scope cl C X.env) fp).env.scope nm := by
  rcases h with h | h
  · exact Or.inl (rel_look (env := X.env) (k := .local) (by decide) h)
  · exact Or.inr (rel_look (env := X.env) (k := .cell) (by decide) h)
theorem fnLoc {X : Cx} {s : Shared} {H : Hp} {C : Addr} {cl : List (Str × Addr)} {fp : List Addr} {scope : Scope} {nm : Str} (h : scope.names.lookup nm = some .local ∨ scope.names.lookup nm = some .cell) : (X.blk s H scope (compEnvC scope cl C X.env) fp).fn nm = true ∨ (X.blk s H scope (compEnvC scope cl C X.env) fp).env.scope.names.lookup nm = some .local := by
  rcases h with h | h
  · exact Or.inr (rel_look (env := X.env) (k := .local) (by decide) h)
  · exact Or.inl (by show (scope.names.lookup nm == some .cell) = true; rw [h]; rfl)
def keepD (ps : List (Option D)) : List D := ps.filterMap id
theorem keepD_some : ∀ es : List D, keepD (es.map some) = es
  | [] => rfl
  | e :: es => by
    have h := keepD_some es
    unfold keepD at h ⊢
    rw [List.map_cons, List.filterMap_cons]
    show e :: _ = _
    rw [h]
theorem keepD_take {ps : List (Option D)} {i : Nat} {o : Option D} (h : ps[i]? = some o) : keepD (ps.take (i + 1)) = keepD (ps.take i) ++ o.toList := by
  unfold keepD
  rw [List.take_add_one, h, List.filterMap_append]
  cases o <;> rfl
theorem keepD_le (ps : List (Option D)) : (keepD ps).length ≤ ps.length := List.length_filterMap_le _ _
theorem noLs_keep {ps : List (Option D)} (h : ∀ o ∈ ps, ∀ d, o = some d → noL d = true) : noLs (keepD ps) = true := noLs_iff.mpr fun d hd => by
  obtain ⟨o, h1, h2⟩ := List.mem_filterMap.mp hd
  exact h o h1 d h2
/-- data in a list that is new -/
def UF (X : Cx) (e : Expr) (Γ : List G) (ds : List D) : Prop := ∃ t, PE X e t ∧ (∀ (k : Nat) (y : Str) (py spos : Pos), X.N[k]? = some y → X.env.scope.names.lookup y = some .local → swapsWith e (some (.Name y py)) spos.line X.env = pure true → PS X (.Assign [.Name y py] e spos) (tAsg t (gName k))) ∧ ∀ σ H, EnvR H Γ σ → ∀ Q : VK, (∀ l H', Same H H' → H l = none → Rep H' (.lst ds) (.ref l) → Q (.ref l) H') → t σ H Q
theorem UF.u {X : Cx} {e : Expr} {Γ : List G} {ds : List D} (h : UF X e Γ ds) : U X e Γ (.lst ds) := by
  obtain ⟨t, h1, _, h2⟩ := h
  exact ⟨t, h1, fun σ H e Q q => h2 σ H e Q fun l H' e1 _ r => q _ H' e1 r⟩
/-- [elt for nm in iter if ..]: what each turn gives (none: left out) -/
theorem u_lcW {nm : Str} {i : Nat} {ifs : List Expr} {scope : Scope} {tp : Pos} {tt : TT} {te : TE} {ps : List (Option D)} (hc : X.calm = true) (hN : X.N.Nodup) (hi : UI X (.Name nm tp) iter Γ ds) (ok : BlkOk X.N X.env.scope scope [(nm, i)])
    (hg : ∀ (s : Shared) (H : Hp) (C : Addr) (cl : List (Str × Addr)) (fp : List Addr), PG (X.blk s H scope (compEnvC scope cl C X.env) fp) (.Name nm tp) (gName i))
    (ht : ∀ (s : Shared) (H : Hp) (C : Addr) (cl : List (Str × Addr)) (fp : List Addr), PTs (X.blk s H scope (compEnvC scope cl C X.env) fp) ifs tt)
    (he : ∀ (s : Shared) (H : Hp) (C : Addr) (cl : List (Str × Addr)) (fp : List Addr), PE (X.blk s H scope (compEnvC scope cl C X.env) fp) elt te)
    (hl : ps.length = ds.length) (hz : ds.length < sizeLine) (hn : ∀ o ∈ ps, ∀ d, o = some d → noL d = true)
    (hv : ∀ (j : Nat) d o, ds[j]? = some d → ps[j]? = some o → PuT tt ((wipeG Γ [i]).set i (.d d)) o.isSome ∧ ∀ y, o = some y → Pu te ((wipeG Γ [i]).set i (.d d)) y)
    (hs : ∀ x, foldedSetIterable iter X.env x = pure x := by intro _; rfl) : UF X (.ListComp elt [⟨.Name nm tp, iter, ifs, 0⟩] scope pos) Γ (keepD ps) := by
  obtain ⟨wi, h1, h2⟩ := hi
  refine ⟨_, pe_lc hc hN h1 ok hg ht he hs, fun k y py spos hy hyl hsw => ps_setLc hc hN hy hyl hsw h1 ok hg ht he hs, fun σ H e Q q => h2 σ H e _ fun J H1 e1 hJ => fun D0 hD => ?_⟩
  have eD : EnvR H1 Γ σ := e.mono e1
  -- at turn j: the list at D holds what is kept so far, all else stands
  let Inv : Nat → Hp → Prop := fun j H => Same H1 H ∧ ∃ acc, H D0 = some (.lst acc) ∧ Reps H (keepD (ps.take j)) acc
  refine ⟨fun j m H => m = ds.length - j ∧ j ≤ ds.length ∧ Inv j H, ⟨_, rfl, Nat.zero_le _, Same.new hD, [], upd_same, rfl⟩, ?_⟩
  rintro j m H2 ⟨rfl, hj, s2, acc, hA, hR⟩
  obtain ⟨hgo, hst⟩ := hJ H2 s2
  by_cases hlt : j < ds.length
  · obtain ⟨g1, g2⟩ := hgo j hlt
    refine .inr ⟨g1, fun H' => ds.length - (j + 1) < ds.length - j ∧ Inv (j + 1) H', fun H' n => ⟨_, n.1, rfl, hlt, n.2⟩, fun x H' hy => ?_⟩
    obtain ⟨rfl, d, hd, rd⟩ := g2 x H' hy
    have hp : j < ps.length := by omega
    have ho : ps[j]? = some ps[j] := List.getElem?_eq_getElem hp
    obtain ⟨v1, v2⟩ := hv j d _ hd ho
    have eW : EnvR H' ((wipeG Γ [i]).set i (.d d)) ((wipe σ [i]).set i (some x)) := EnvR.setD rd i ((eD.mono s2).wipe [i])
    refine ⟨?_, v1 _ H' eW _ fun H3 e3 => ?_⟩
    · show ((wipe σ [i]).set i (some x)).set i none = (σ.set i none)
      show ((σ.set i none).set i (some x)).set i none = (σ.set i none)
      rw [List.set_set, List.set_set]
    · have noA : noLs (keepD (ps.take j)) = true := noLs_keep fun o h d e => hn o (List.mem_of_mem_take h) d e
      cases hk : ps[j] with
      | none =>
        show ds.length - (j + 1) < ds.length - j ∧ Inv (j + 1) H3
        refine ⟨by omega, s2.trans e3, acc, e3 _ _ hA, ?_⟩
        rw [keepD_take ho, hk]
        show Reps H3 (keepD (ps.take j) ++ []) acc
        rw [List.append_nil]
        exact hR.mono e3
      | some y =>
        show te _ H3 _
        refine v2 y hk _ H3 (eW.mono e3) _ fun z H4 e4 r4 => ⟨acc, e4 _ _ (e3 _ _ hA), ?_, by omega, ?_, acc ++ [z], upd_same, ?_⟩
        · have l1 := hR.length
          have l2 := keepD_le (ps.take j)
          have l3 : (ps.take j).length ≤ j := by rw [List.length_take]; omega
          omega
        · have s4 : Same H1 H4 := (s2.trans e3).trans e4
          intro b o hb
          rw [upd_ne (ne_of_none hb hD)]
          exact s4 b o hb
        · rw [keepD_take ho, hk]
          have t4 : Tsm H4 (upd H4 D0 (.lst (acc ++ [z]))) := ts_lst (e4 _ _ (e3 _ _ hA))
          exact (Reps.monoT t4 noA (hR.mono (e3.trans e4))).append ⟨z, [], rfl, Rep.monoT t4 (hn _ (List.getElem_mem hp) y hk) r4, rfl⟩
  · have hje : j = ds.length := by omega
    subst hje
    refine .inl ⟨hst, q _ H2 (e1.trans s2) (Same.free e1 hD) ⟨D0, acc, rfl, hA, ?_⟩⟩
    rw [List.take_of_length_le (by omega)] at hR
    exact hR
/-- an element's, a test's reading in the block -/
def semB (X : Cx) (scope : Scope) (e : Expr) : TE := fun σ H Q => ∀ (s0 : Shared) (H0 : Hp) (C : Addr) (cl : List (Str × Addr)) (fp : List Addr) (pins : List (Addr × Obj)) (s : Shared), Inv (X.blk s0 H0 scope (compEnvC scope cl C X.env) fp) pins σ H s →
  wpAny (model X.prog X.w) X.A (eval e (compEnvC scope cl C X.env)) (EP (X.blk s0 H0 scope (compEnvC scope cl C X.env) fp) pins σ Q) (fun _ _ => False) s
theorem pe_semB {X : Cx} {scope : Scope} {e : Expr} (s : Shared) (H : Hp) (C : Addr) (cl : List (Str × Addr)) (fp : List Addr) : PE (X.blk s H scope (compEnvC scope cl C X.env) fp) e (semB X scope e) := ⟨fun pins s1 σ H1 Q I h => h s H C cl fp pins s1 I⟩
/-- U in a comprehension's block -/
def UB (X : Cx) (scope : Scope) (e : Expr) (Γ : List G) (d : D) : Prop := ∀ (s : Shared) (H : Hp) (C : Addr) (cl : List (Str × Addr)) (fp : List Addr), U (X.blk s H scope (compEnvC scope cl C X.env) fp) e Γ d
theorem UB.sem {X : Cx} {scope : Scope} {e : Expr} {Γ : List G} {d : D} (h : UB X scope e Γ d) : Pu (semB X scope e) Γ d := fun σ H e Q q s0 H0 C cl fp pins s I => by
  obtain ⟨t, h1, h2⟩ := h s0 H0 C cl fp
  exact h1.run pins s σ H Q I (h2 σ H e Q q)
def semBT (X : Cx) (scope : Scope) (e : Expr) : TT := fun σ H Q => ∀ (s0 : Shared) (H0 : Hp) (C : Addr) (cl : List (Str × Addr)) (fp : List Addr) (pins : List (Addr × Obj)) (s : Shared), Inv (X.blk s0 H0 scope (compEnvC scope cl C X.env) fp) pins σ H s →
  wpAny (model X.prog X.w) X.A (isTrue e (compEnvC scope cl C X.env) (eval e (compEnvC scope cl C X.env))) (TP (X.blk s0 H0 scope (compEnvC scope cl C X.env) fp) pins σ Q) (fun _ _ => False) s
theorem pt_semB {X : Cx} {scope : Scope} {e : Expr} (s : Shared) (H : Hp) (C : Addr) (cl : List (Str × Addr)) (fp : List Addr) : PT (X.blk s H scope (compEnvC scope cl C X.env) fp) e (semBT X scope e) := ⟨fun pins s1 σ H1 Q I h => h s H C cl fp pins s1 I⟩
def TB (X : Cx) (scope : Scope) (e : Expr) (Γ : List G) (b : Bool) : Prop := ∀ (s : Shared) (H : Hp) (C : Addr) (cl : List (Str × Addr)) (fp : List Addr), T (X.blk s H scope (compEnvC scope cl C X.env) fp) e Γ b
theorem TB.sem {X : Cx} {scope : Scope} {e : Expr} {Γ : List G} {b : Bool} (h : TB X scope e Γ b) : PuT (semBT X scope e) Γ b := fun σ H e Q q s0 H0 C cl fp pins s I => by
  obtain ⟨t, h1, h2⟩ := h s0 H0 C cl fp
  exact h1.run pins s σ H Q I (h2 σ H e Q q)
/-- [elt for nm in iter] -/
theorem uf_lc {nm : Str} {i : Nat} {scope : Scope} {tp : Pos} (es : List D) (hN : X.N.Nodup) (hi : UI X (.Name nm tp) iter Γ ds) (ok : BlkOk X.N X.env.scope scope [(nm, i)]) (hl : es.length = ds.length) (hz : ds.length < sizeLine) (hn : noLs es = true)
    (hv : ∀ (j : Nat) d y, ds[j]? = some d → es[j]? = some y → UB X scope elt ((wipeG Γ [i]).set i (.d d)) y) (hx : X.N[i]? = some nm := by rfl) (hc : X.calm = true := by rfl)
    (hlo : scope.names.lookup nm = some .local ∨ scope.names.lookup nm = some .cell := by first | exact Or.inl rfl | exact Or.inr rfl)
    (hs : ∀ x, foldedSetIterable iter X.env x = pure x := by intro _; rfl) : UF X (.ListComp elt [⟨.Name nm tp, iter, [], 0⟩] scope pos) Γ es := by
  have h := u_lcW (ps := es.map some) (tt := tYes) (pos := pos) (elt := elt) (te := semB X scope elt) hc hN hi ok (fun s H C cl fp => pg_name hN hx (relLoc hlo) (fnLoc hlo)) (fun _ _ _ _ _ => pts_nil) pe_semB (by rw [List.length_map]; exact hl) hz (fun o ho d e => by
    obtain ⟨y, h1, h2⟩ := List.mem_map.mp ho
    subst h2
    cases e
    exact noLs_iff.mp hn _ h1) (fun j d o h1 h2 => by
    rw [List.getElem?_map] at h2
    cases q : es[j]? with
    | none => rw [q] at h2; cases h2
    | some y =>
      rw [q] at h2
      cases h2
      exact ⟨fun σ H e Q q => q H (Same.refl H), fun z hz => by cases hz; exact (hv j d _ h1 q).sem⟩) hs
  rw [keepD_some] at h
  exact h
theorem u_lc {nm : Str} {i : Nat} {scope : Scope} {tp : Pos} (es : List D) (hN : X.N.Nodup) (hi : UI X (.Name nm tp) iter Γ ds) (ok : BlkOk X.N X.env.scope scope [(nm, i)]) (hl : es.length = ds.length) (hz : ds.length < sizeLine) (hn : noLs es = true)
    (hv : ∀ (j : Nat) d y, ds[j]? = some d → es[j]? = some y → UB X scope elt ((wipeG Γ [i]).set i (.d d)) y) (hx : X.N[i]? = some nm := by rfl) (hc : X.calm = true := by rfl)
    (hlo : scope.names.lookup nm = some .local ∨ scope.names.lookup nm = some .cell := by first | exact Or.inl rfl | exact Or.inr rfl)
    (hs : ∀ x, foldedSetIterable iter X.env x = pure x := by intro _; rfl) : U X (.ListComp elt [⟨.Name nm tp, iter, [], 0⟩] scope pos) Γ (.lst es) :=
  (uf_lc es hN hi ok hl hz hn hv hx hc hlo hs).u
/-- [elt for nm in iter if c] -/
theorem u_lcI {nm : Str} {i : Nat} {scope : Scope} {tp : Pos} {c : Expr} (ps : List (Option D)) (hN : X.N.Nodup) (hi : UI X (.Name nm tp) iter Γ ds) (ok : BlkOk X.N X.env.scope scope [(nm, i)]) (hl : ps.length = ds.length) (hz : ds.length < sizeLine) (hn : ∀ o ∈ ps, ∀ d, o = some d → noL d = true)
    (hv : ∀ (j : Nat) d o, ds[j]? = some d → ps[j]? = some o → TB X scope c ((wipeG Γ [i]).set i (.d d)) o.isSome ∧ ∀ y, o = some y → UB X scope elt ((wipeG Γ [i]).set i (.d d)) y) (hx : X.N[i]? = some nm := by rfl) (hc : X.calm = true := by rfl)
    (hlo : scope.names.lookup nm = some .local ∨ scope.names.lookup nm = some .cell := by first | exact Or.inl rfl | exact Or.inr rfl)
    (hs : ∀ x, foldedSetIterable iter X.env x = pure x := by intro _; rfl) : U X (.ListComp elt [⟨.Name nm tp, iter, [c], 0⟩] scope pos) Γ (.lst (keepD ps)) :=
  (u_lcW (tt := semBT X scope c) (te := semB X scope elt) hc hN hi ok (fun s H C cl fp => pg_name hN hx (relLoc hlo) (fnLoc hlo)) (fun s H C cl fp => pts_one (pt_semB s H C cl fp)) pe_semB hl hz hn (fun j d o h1 h2 => ⟨(hv j d o h1 h2).1.sem, fun y hy => ((hv j d o h1 h2).2 y hy).sem⟩) hs).u
/-- all([elt for nm in iter]), all true -/
theorem u_allC {nm : Str} {i : Nat} {scope : Scope} {tp cpos : Pos} (Bt : Bs X.mg) (hN : X.N.Nodup) (hi : UI X (.Name nm tp) iter Γ ds) (ok : BlkOk X.N X.env.scope scope [(nm, i)]) (hz : ds.length < sizeLine)
    (hv : ∀ (j : Nat) d, ds[j]? = some d → UB X scope elt ((wipeG Γ [i]).set i (.d d)) (.bl true)) (hx : X.N[i]? = some nm := by rfl) (hc : X.calm = true := by rfl)
    (hlo : scope.names.lookup nm = some .local ∨ scope.names.lookup nm = some .cell := by first | exact Or.inl rfl | exact Or.inr rfl)
    (hs : ∀ x, foldedSetIterable iter X.env x = pure x := by intro _; rfl) (hg : Gl X "all" := by rfl)
    (hst : starEach [Expr.ListComp elt [⟨.Name nm tp, iter, [], 0⟩] scope cpos] X.env = (false, eval (.ListComp elt [⟨.Name nm tp, iter, [], 0⟩] scope cpos) X.env) :: starEach [] X.env := by rfl) :
    U X (.Call (.Name "all" p) [.ListComp elt [⟨.Name nm tp, iter, [], 0⟩] scope cpos] [] pos) Γ (.bl true) := by
  have h := u_lc (elt := elt) (pos := cpos) (List.replicate ds.length (.bl true)) hN hi ok (by simp) hz (noLs_iff.mpr fun d hd => by rw [List.eq_of_mem_replicate hd]; rfl) (fun j d y h1 h2 => by
    have e : y = .bl true := List.eq_of_mem_replicate (List.mem_of_getElem? h2)
    subst e
    exact hv j d h1) hx hc hlo hs
  have e : List.replicate ds.length (D.bl true) = (List.replicate ds.length true).map .bl := by rw [List.map_replicate]
  rw [e] at h
  have k := u_all (p := p) (pos := pos) Bt hc h hg hst
  have e2 : (List.replicate ds.length true).all id = true := by simp
  rw [e2] at k
  exact k
/-! ### for -/
theorem b_forW {g : TG} {tb : TS} {body rest : List Stmt} {o : O} (Γs Γb : Nat → List G) (h0 : Γs 0 = Γ) (hi : UI X tg iter Γ ds) (hg : PG X tg g) (hb : PSs X body tb)
    (hgv : ∀ (j : Nat) d, ds[j]? = some d → ∀ σ H v, EnvR H (Γs j) σ → Rep H d v → ∀ Q : L2.St → Hp → Prop, (∀ σ', EnvR H (Γb j) σ' → Q σ' H) → g v σ H Q)
    (hbv : ∀ (j : Nat), j < ds.length → Ps tb (Γb j) (.nx (Γs (j + 1)))) (h : B X rest (Γs ds.length) o) (hp : PassesOwn (model X.prog X.w) X.A X.env X.xe) (hc : X.calm = true := by rfl)
    (hs : ∀ x, foldedSetIterable iter X.env x = pure x := by intro _; rfl) : B X (.For tg iter body [] pos :: rest) Γ o := by
  obtain ⟨wi, h1, h2⟩ := hi
  obtain ⟨u, h3, h4⟩ := h
  refine ⟨_, pss_cons (ps_for hp hc h1 hg hb hs) h3, fun σ H E e q => h2 σ H e _ fun J H1 e1 hJ => ?_⟩
  refine ⟨fun j m σ H => m = ds.length - j ∧ j ≤ ds.length ∧ Same H1 H ∧ EnvR H (Γs j) σ, ⟨_, rfl, Nat.zero_le _, Same.refl _, by rw [h0]; exact e.mono e1⟩, ?_⟩
  rintro j m σ2 H2 ⟨rfl, hj, s2, e2⟩
  obtain ⟨hgo, hst⟩ := hJ H2 s2
  by_cases hlt : j < ds.length
  · obtain ⟨g1, g2⟩ := hgo j hlt
    refine .inr ⟨g1, fun σ' H' => ds.length - (j + 1) < ds.length - j ∧ Same H1 H' ∧ EnvR H' (Γs (j + 1)) σ', fun σ' H' n => ⟨_, n.1, rfl, hlt, n.2⟩, fun x H' hy => ?_⟩
    obtain ⟨rfl, d, hd, rd⟩ := g2 x H' hy
    refine hgv j d hd σ2 H' x e2 rd _ fun σ3 e3 => ?_
    exact hbv j hlt σ3 H' _ e3 fun σ4 H4 e4 g4 => ⟨by omega, s2.trans e4, g4⟩
  · have hje : j = ds.length := by omega
    subst hje
    exact .inl ⟨hst, h4 σ2 H2 E e2 (q.mono (e1.trans s2))⟩
theorem b_for {nm : Str} {tp : Pos} {body rest : List Stmt} {o : O} (i : Nat) (Γs : Nat → List G) (h0 : Γs 0 = Γ) (hN : X.N.Nodup) (hi : UI X (.Name nm tp) iter Γ ds)
    (hbv : ∀ (j : Nat) d, ds[j]? = some d → B X body ((Γs j).set i (.d d)) (.nx (Γs (j + 1)))) (h : B X rest (Γs ds.length) o) (hp : PassesOwn (model X.prog X.w) X.A X.env X.xe) (hx : X.N[i]? = some nm := by rfl) (hc : X.calm = true := by rfl)
    (hlo : Loc X.env.scope nm := by first | exact Or.inl rfl | exact Or.inr rfl) (hf : X.fn nm = true ∨ X.env.scope.names.lookup nm = some .local := by first | exact .inl rfl | exact .inr rfl)
    (hs : ∀ x, foldedSetIterable iter X.env x = pure x := by intro _; rfl) : B X (.For (.Name nm tp) iter body [] pos :: rest) Γ o := by
  let dj : Nat → D := fun j => ds.getD j .non
  refine b_forW (g := gName i) (tb := semS X body) Γs (fun j => (Γs j).set i (.d (dj j))) h0 hi (pg_name hN hx hlo hf) ps_sem (fun j d hd σ H v e r Q q => ?_) (fun j hj => ?_) h hp hc hs
  · have e1 : dj j = d := by show ds.getD j .non = d; rw [List.getD_eq_getElem?_getD, hd]; rfl
    exact q _ (by rw [e1]; exact EnvR.setD r i e)
  · have e2 : ds[j]? = some (dj j) := by
      show ds[j]? = some (ds.getD j .non)
      rw [List.getD_eq_getElem?_getD, List.getElem?_eq_getElem hj]
      rfl
    exact (hbv j _ e2).sem
end
end P6
namespace P6
open PySem PySem.Spec PyProof.Rows L2
/-! ### data as the library has it: ==, in -/
mutual
def py : D → PyData
  | .non => .none
  | .bl b => .bool b
  | .int i => .int i
  | .str s => .str s
  | .tup ds => .tuple (pys ds)
  | .lst ds => .list (pys ds)
  | .mac _ _ _ _ => .dict []
  | .dic _ _ => .dict []
  | .scr _ _ => .dict []
def pys : List D → List PyData
  | [] => []
  | d :: ds => py d :: pys ds
end
def sh (d : D) : Bool := SeqAt.shaped (py d)
mutual
theorem rep_dp {K : PySem.W.Frag} {H : Hp} : ∀ {d : D} {v : V}, (py d).canLay0 = true → Rep H d v → Dp K H v (py d)
  | .non, _, _, h => by cases h; exact .non
  | .bl b, _, _, h => by cases h; exact .bl b
  | .int i, _, _, h => by cases h; exact .int i
  | .str s, _, _, h => by cases h; exact .str s
  | .tup ds, _, c, ⟨a, xs, h1, h2, h3⟩ => by
    subst h1
    exact .tup (SqT.of h2) (reps_dp (by simpa [py, PyData.canLay0] using c) h3)
  | .lst ds, _, c, ⟨a, xs, h1, h2, h3⟩ => by
    subst h1
    exact .lst (SqL.of h2) (reps_dp (by simpa [py, PyData.canLay0] using c) h3)
  | .mac _ _ _ _, _, c, _ => by simp [py, PyData.canLay0] at c
  | .dic _ _, _, c, _ => by simp [py, PyData.canLay0] at c
  | .scr _ _, _, c, _ => by simp [py, PyData.canLay0] at c
theorem reps_dp {K : PySem.W.Frag} {H : Hp} : ∀ {ds : List D} {xs : List V}, PyData.canLayAll0 (pys ds) = true → Reps H ds xs → DpAll K H xs (pys ds)
  | [], _, _, h => by cases h; exact .nil
  | d :: ds, _, c, ⟨v, vs, h1, h2, h3⟩ => by
    subst h1
    have c2 : (py d).canLay0 = true ∧ PyData.canLayAll0 (pys ds) = true := by simpa [pys, PyData.canLayAll0] using c
    exact .cons (rep_dp c2.1 h2) (reps_dp c2.2 h3)
end
def eqD (x y : D) : Bool := PyData.eqv (py x) (py y)
theorem eqD_refl {x : D} (h : sh x = true) : eqD x x = true := SeqAt.eqv_refl _ (SeqAt.canLay_of_shaped h)
section
variable {X : Cx} {Γ : List G} {a b e : Expr} {es : List Expr} {x y d : D} {ds : List D} {pos p : Pos}
theorem rd_eqD {K : PySem.W.Frag} (hx : sh x = true) (hy : sh y = true) : RD (rEqD K) x y (.bl (eqD x y)) := fun H v u h1 h2 Q q =>
  ⟨py x, py y, rep_dp (SeqAt.canLay_of_shaped hx) h1, rep_dp (SeqAt.canLay_of_shaped hy) h2, hx, hy, q _ H (Same.refl H) rfl⟩
theorem rd_neD {K : PySem.W.Frag} (hx : sh x = true) (hy : sh y = true) : RD (rNeD K) x y (.bl (!eqD x y)) := fun H v u h1 h2 Q q =>
  ⟨py x, py y, rep_dp (SeqAt.canLay_of_shaped hx) h1, rep_dp (SeqAt.canLay_of_shaped hy) h2, hx, hy, q _ H (Same.refl H) rfl⟩
theorem t_eqD {k : Nat} {r : Bool} (hr : Room k X.A) (hx : sh x = true) (hy : sh y = true) (ha : U X a Γ x) (hb : U X b Γ y) (h : eqD x y = r) : T X (.Compare a [.Eq] [b] pos) Γ r := by
  subst h
  exact t_cmp (op_eqD hr.units) (rd_eqD hx hy) ha hb
theorem t_neD {k : Nat} {r : Bool} (hr : Room k X.A) (hx : sh x = true) (hy : sh y = true) (ha : U X a Γ x) (hb : U X b Γ y) (h : eqD x y = r) : T X (.Compare a [.NotEq] [b] pos) Γ (!r) := by
  subst h
  exact t_cmp (op_neD hr.units) (rd_neD hx hy) ha hb
theorem u_eqD {k : Nat} {r : Bool} (hr : Room k X.A) (hx : sh x = true) (hy : sh y = true) (ha : U X a Γ x) (hb : U X b Γ y) (h : eqD x y = r) : U X (.Compare a [.Eq] [b] pos) Γ (.bl r) := by
  subst h
  exact u_cmp (op_eqD hr.units) (rd_eqD hx hy) ha hb
theorem pys_any {x : D} : ∀ ds : List D, (pys ds).any (fun z => PyData.eqv z (py x)) = ds.any fun z => eqD z x
  | [] => rfl
  | d :: ds => by
    show (PyData.eqv (py d) (py x) || (pys ds).any (fun z => PyData.eqv z (py x))) = _
    rw [pys_any ds]
    rfl
theorem rd_inD {K : PySem.W.Frag} (hx : sh x = true) (hy : sh (.lst ds) = true) : RD (rInD K) x (.lst ds) (.bl (ds.any fun z => eqD z x)) := fun H v u h1 h2 Q q =>
  ⟨py x, pys ds, rep_dp (SeqAt.canLay_of_shaped hx) h1, rep_dp (d := .lst ds) (SeqAt.canLay_of_shaped hy) h2, hx, hy, q _ H (Same.refl H) (by rw [pys_any]; rfl)⟩
theorem u_inD {k : Nat} (hr : Room k X.A) (hx : sh x = true) (hy : sh (.lst ds) = true) (ha : U X a Γ x) (hb : U X b Γ (.lst ds)) (hm : behindInMarks .In b = false := by rfl) : U X (.Compare a [.In] [b] pos) Γ (.bl (ds.any fun z => eqD z x)) :=
  u_cmp (op_inD (by have := hr.un; omega)) (rd_inD hx hy) ha hb hm
/-! flat items -/
def flD : D → Bool
  | .non => true
  | .bl _ => true
  | .int _ => true
  | .str _ => true
  | _ => false
def eqF : D → D → Bool
  | .non, .non => true
  | .bl a, .bl b => a == b
  | .bl a, .int b => (if a then 1 else 0) == b
  | .int a, .bl b => a == (if b then 1 else 0)
  | .int a, .int b => a == b
  | .str a, .str b => a == b
  | _, _ => false
theorem flD_ok {H : Hp} {d : D} {v : V} (h : Rep H d v) (hf : flD d = true) : flatV v = true := by
  cases d <;> first | (cases h; rfl) | cases hf
theorem eqF_ok {H : Hp} {d e : D} {v u : V} (h : Rep H d v) (h2 : Rep H e u) (hf : flD d = true) (hf2 : flD e = true) : eqV v u = eqF d e := by
  cases d <;> (try (exact absurd hf Bool.false_ne_true)) <;> cases e <;> (try (exact absurd hf2 Bool.false_ne_true)) <;> (cases h; cases h2; rfl)
theorem flDs_ok {H : Hp} : ∀ {ds : List D} {vs : List V}, Reps H ds vs → ds.all flD = true → vs.all flatV = true
  | [], _, h, _ => by cases h; rfl
  | d :: ds, _, ⟨v, vs, h1, h2, h3⟩, hf => by
    subst h1
    simp only [List.all_cons, Bool.and_eq_true] at hf ⊢
    exact ⟨flD_ok h2 hf.1, flDs_ok h3 hf.2⟩
theorem inV_ok {H : Hp} {u : V} (h : Rep H x u) (hf : flD x = true) : ∀ {ds : List D} {vs : List V}, Reps H ds vs → ds.all flD = true → inV u vs = ds.any fun z => eqF z x
  | [], _, h, _ => by cases h; rfl
  | d :: ds, _, ⟨v, vs, h1, h2, h3⟩, hq => by
    subst h1
    simp only [List.all_cons, Bool.and_eq_true] at hq
    show (eqV v u || inV u vs) = (eqF d x || ds.any fun z => eqF z x)
    rw [inV_ok h hf h3 hq.2, eqF_ok h2 h hq.1 hf]
theorem rd_inT {K : PySem.W.Frag} {neg : Bool} (hx : flD x = true) (hy : ds.all flD = true) : RD (rIn K neg) x (.tup ds) (.bl (if neg then !(ds.any fun z => eqF z x) else ds.any fun z => eqF z x)) := fun H v u h1 ⟨a, xs, k1, k2, k3⟩ Q q =>
  ⟨a, xs, k1, .inr (SqT.of k2), flD_ok h1 hx, flDs_ok k3 hy, q _ H (Same.refl H) (by rw [inV_ok h1 hx k3 hy]; cases neg <;> rfl)⟩
theorem rd_inL {K : PySem.W.Frag} {neg : Bool} (hx : flD x = true) (hy : ds.all flD = true) : RD (rIn K neg) x (.lst ds) (.bl (if neg then !(ds.any fun z => eqF z x) else ds.any fun z => eqF z x)) := fun H v u h1 ⟨a, xs, k1, k2, k3⟩ Q q =>
  ⟨a, xs, k1, .inl (SqL.of k2), flD_ok h1 hx, flDs_ok k3 hy, q _ H (Same.refl H) (by rw [inV_ok h1 hx k3 hy]; cases neg <;> rfl)⟩
theorem t_inT {r : Bool} (ha : U X a Γ x) (hb : U X b Γ (.tup ds)) (h : (ds.any fun z => eqF z x) = r := by first | decide +kernel | rfl) (hx : flD x = true := by rfl) (hy : ds.all flD = true := by rfl) (hm : behindInMarks .In b = false := by rfl) : T X (.Compare a [.In] [b] pos) Γ r := by
  subst h
  exact t_cmp op_in_seq (rd_inT (neg := false) hx hy) ha hb hm
theorem u_inT {r : Bool} (ha : U X a Γ x) (hb : U X b Γ (.tup ds)) (h : (ds.any fun z => eqF z x) = r := by first | decide +kernel | rfl) (hx : flD x = true := by rfl) (hy : ds.all flD = true := by rfl) (hm : behindInMarks .In b = false := by rfl) : U X (.Compare a [.In] [b] pos) Γ (.bl r) := by
  subst h
  exact u_cmp op_in_seq (rd_inT (neg := false) hx hy) ha hb hm
theorem t_inL {r : Bool} (ha : U X a Γ x) (hb : U X b Γ (.lst ds)) (h : (ds.any fun z => eqF z x) = r := by first | decide +kernel | rfl) (hx : flD x = true := by rfl) (hy : ds.all flD = true := by rfl) (hm : behindInMarks .In b = false := by rfl) : T X (.Compare a [.In] [b] pos) Γ r := by
  subst h
  exact t_cmp op_in_seq (rd_inL (neg := false) hx hy) ha hb hm
theorem u_inL {r : Bool} (ha : U X a Γ x) (hb : U X b Γ (.lst ds)) (h : (ds.any fun z => eqF z x) = r := by first | decide +kernel | rfl) (hx : flD x = true := by rfl) (hy : ds.all flD = true := by rfl) (hm : behindInMarks .In b = false := by rfl) : U X (.Compare a [.In] [b] pos) Γ (.bl r) := by
  subst h
  exact u_cmp op_in_seq (rd_inL (neg := false) hx hy) ha hb hm
/-- sorted of ints -/
theorem u_sorted (Bt : Bs X.mg) {ns ms : List Int} (hp : ms.Perm ns) (hs : ms.Pairwise (· ≤ ·)) (hz : ns.length < 64) (h : U X e Γ (.lst (ns.map .int))) (hg : Gl X "sorted" := by rfl) (hst : starEach [e] X.env = (false, eval e X.env) :: starEach [] X.env := by rfl) :
    U X (.Call (.Name "sorted" p) [e] [] pos) Γ (.lst (ms.map .int)) := by
  obtain ⟨t, h1, h2⟩ := h
  refine ⟨_, pe_callB cr_sorted hg Bt.sorted boot_sorted (pa_cons h1 pa_nil hst) (he := hst), fun σ H e Q q => h2 σ H e _ fun v H1 e1 ⟨a, xs, k1, k2, k3⟩ => ?_⟩
  rw [reps_int k3] at k2
  refine ⟨a, ns, by rw [k1], SqL.of k2, hz, fun ns' p hp' hs' hn => ?_⟩
  have : ns' = ms := PySem.W.ksm_same (hp'.trans hp.symm) hs' hs
  subst this
  exact q _ _ (e1.trans (Same.new hn)) ⟨p, _, rfl, upd_same, int_reps⟩
end
end P6
namespace P6
open PySem PySem.Spec PyProof.Rows L2
theorem TS_trans {H H1 H2 : Hp} (a : Tsm H H1) (b : Tsm H1 H2) : Tsm H H2 := fun c xs h => b c xs (a c xs h)
section
variable {X : Cx} {Γ : List G} {e elt iter iter1 : Expr} {d : D} {ds ds1 : List D} {pos p : Pos}
def semBI (X : Cx) (scope : Scope) (tg e : Expr) : TI := fun σ H R => ∀ (s0 : Shared) (H0 : Hp) (C : Addr) (cl : List (Str × Addr)) (fp : List Addr) (pins : List (Addr × Obj)) (s : Shared), Inv (X.blk s0 H0 scope (compEnvC scope cl C X.env) fp) pins σ H s →
  wpAny (model X.prog X.w) X.A (eval e (compEnvC scope cl C X.env)) (fun v s1 => wpAny (model X.prog X.w) X.A (pyIter v) (PIE (X.blk s0 H0 scope (compEnvC scope cl C X.env) fp) pins σ tg R) (fun _ _ => False) s1) (fun _ _ => False) s
theorem pi_semB {X : Cx} {scope : Scope} {tg e : Expr} (s : Shared) (H : Hp) (C : Addr) (cl : List (Str × Addr)) (fp : List Addr) : PI (X.blk s H scope (compEnvC scope cl C X.env) fp) tg e (semBI X scope tg e) := ⟨fun pins s1 σ H1 R I h => h s H C cl fp pins s1 I⟩
/-- a walk that leans on no heap (a range) -/
def IterR (J : It) (ds : List D) : Prop := ∀ H, (∀ i, i < ds.length → J.go i H ∧ ∀ x H', J.yld i H x H' → H' = H ∧ ∃ d, ds[i]? = some d ∧ Rep H d x) ∧ J.stop ds.length H
def UR (X : Cx) (tg iter : Expr) (Γ : List G) (ds : List D) : Prop := ∃ wi, PI X tg iter wi ∧ ∀ σ H, EnvR H Γ σ → ∀ R : It → Hp → Prop, (∀ J H', Same H H' → IterR J ds → R J H') → wi σ H R
theorem iterR_rng (lo : Int) (n : Nat) : IterR (Itr lo n) (rgD lo n) := fun H2 => by
  rw [rgD_len]
  exact ⟨fun i hi => ⟨hi, fun x H' ⟨h1, h2⟩ => ⟨h1, _, rgD_get hi, h2⟩⟩, Nat.le_refl n⟩
theorem ur_rng1 {tg : Expr} (Bt : Bs X.mg) {n : Nat} (h : U X e Γ (.int n)) (hn : n < 2 ^ 62) (hg : Gl X "range" := by rfl) (hs : starEach [e] X.env = [(false, eval e X.env)] := by rfl) : UR X tg (.Call (.Name "range" p) [e] [] pos) Γ (rgD 0 n) := by
  obtain ⟨t, h1, h2⟩ := h
  refine ⟨_, pi_range1 hg Bt.range (pa_cons h1 pa_nil hs) hs, fun σ H e R q => h2 σ H e _ fun v H1 e1 r1 => ?_⟩
  refine ⟨n, by rw [show v = V.int n from r1], by omega, by omega, ?_⟩
  rw [Int.toNat_natCast]
  exact q _ H1 e1 (iterR_rng 0 n)
def UIB (X : Cx) (scope : Scope) (tg e : Expr) (Γ : List G) (ds : List D) : Prop := ∀ (s : Shared) (H : Hp) (C : Addr) (cl : List (Str × Addr)) (fp : List Addr), UR (X.blk s H scope (compEnvC scope cl C X.env) fp) tg e Γ ds
theorem UIB.sem {X : Cx} {scope : Scope} {tg e : Expr} {Γ : List G} {ds : List D} (h : UIB X scope tg e Γ ds) : ∀ σ H, EnvR H Γ σ → ∀ R : It → Hp → Prop, (∀ J H', Same H H' → IterR J ds → R J H') → semBI X scope tg e σ H R := fun σ H e R q s0 H0 C cl fp pins s I => by
  obtain ⟨t, h1, h2⟩ := h s0 H0 C cl fp
  exact h1.run pins s σ H R I (h2 σ H e R q)
theorem wipe2 {σ : L2.St} {i i1 : Nat} {x : V} (hne : i ≠ i1) : wipe ((wipe σ [i, i1]).set i (some x)) [i, i1] = wipe σ [i, i1] := by
  show ((((σ.set i1 none).set i none).set i (some x)).set i1 none).set i none = (σ.set i1 none).set i none
  rw [List.set_set, List.set_comm _ _ (Ne.symm hne), List.set_set, List.set_comm _ _ hne, List.set_set, List.set_comm _ _ (Ne.symm hne)]
/-- [elt for nm in iter for nm1 in iter1], the inner one the same at each turn -/
theorem u_lc2 {nm nm1 : Str} {i i1 : Nat} {scope : Scope} {tp tp1 : Pos} (es : List (List D)) (hne : i ≠ i1) (hN : X.N.Nodup) (hi : UI X (.Name nm tp) iter Γ ds) (ok : BlkOk X.N X.env.scope scope [(nm, i), (nm1, i1)]) (hl : es.length = ds.length) (hl1 : ∀ l ∈ es, l.length = ds1.length)
    (hz : ds.length * ds1.length < sizeLine) (hn : ∀ l ∈ es, noLs l = true) (hnd : noLs ds = true) (hi1 : ∀ (j : Nat) d, ds[j]? = some d → UIB X scope (.Name nm1 tp1) iter1 ((wipeG Γ [i, i1]).set i (.d d)) ds1)
    (hv : ∀ (j k : Nat) d d1 l y, ds[j]? = some d → ds1[k]? = some d1 → es[j]? = some l → l[k]? = some y → UB X scope elt ((wipeG ((wipeG Γ [i, i1]).set i (.d d)) [i1]).set i1 (.d d1)) y)
    (hx : X.N[i]? = some nm := by rfl) (hx1 : X.N[i1]? = some nm1 := by rfl) (hc : X.calm = true := by rfl)
    (hlo : scope.names.lookup nm = some .local ∨ scope.names.lookup nm = some .cell := by first | exact Or.inl rfl | exact Or.inr rfl) (hlo1 : scope.names.lookup nm1 = some .local ∨ scope.names.lookup nm1 = some .cell := by first | exact Or.inl rfl | exact Or.inr rfl)
    (hs : ∀ x, foldedSetIterable iter X.env x = pure x := by intro _; rfl) (hs1 : ∀ env x, foldedSetIterable iter1 env x = pure x := by intro _ _; rfl) :
    U X (.ListComp elt [⟨.Name nm tp, iter, [], 0⟩, ⟨.Name nm1 tp1, iter1, [], 0⟩] scope pos) Γ (.lst es.flatten) := by
  obtain ⟨wi, h1, h2⟩ := hi
  refine ⟨_, pe_lc2 (vs1 := [i1]) (wi1 := semBI X scope (.Name nm1 tp1) iter1) (te := semB X scope elt) hc hN h1 ok (by simp) (fun s H C cl fp => pg_name hN hx (relLoc hlo) (fnLoc hlo)) (fun _ _ _ _ _ => pts_nil) pi_semB (fun s H C cl fp => pg_name hN hx1 (relLoc hlo1) (fnLoc hlo1)) (fun _ _ _ _ _ => pts_nil) pe_semB hs hs1, fun σ H e Q q => h2 σ H e _ fun J H1 e1 hJ => fun D0 hD => ?_⟩
  have eD : EnvR H1 Γ σ := e.mono e1
  have noF : noLs es.flatten = true := noLs_iff.mpr fun d hd => by
    obtain ⟨l, h3, h4⟩ := List.mem_flatten.mp hd
    exact noLs_iff.mp (hn l h3) d h4
  have lenT : ∀ j, j ≤ es.length → (es.take j).flatten.length = j * ds1.length := by
    intro j
    induction j with
    | zero => intro _; simp
    | succ j ih =>
      intro hj
      have hj' : j < es.length := by omega
      rw [List.take_add_one, List.getElem?_eq_getElem hj']
      rw [List.flatten_append, List.length_append, ih (by omega)]
      have h3 := hl1 es[j] (List.getElem_mem hj')
      simp only [Option.toList, List.flatten_cons, List.flatten_nil, List.append_nil]
      rw [h3, Nat.add_mul, Nat.one_mul]
  let Inv2 : Nat → Nat → Hp → Prop := fun j k H => Same H1 H ∧ ∃ acc, H D0 = some (.lst acc) ∧ Reps H ((es.take j).flatten ++ (es.getD j []).take k) acc
  refine ⟨fun j m H => m = ds.length - j ∧ j ≤ ds.length ∧ Inv2 j 0 H, ⟨_, rfl, Nat.zero_le _, Same.new hD, [], upd_same, by simp [Reps]⟩, ?_⟩
  rintro j m H2 ⟨rfl, hj, s2, acc, hA, hR⟩
  obtain ⟨hgo, hst⟩ := hJ H2 s2
  by_cases hlt : j < ds.length
  · obtain ⟨g1, g2⟩ := hgo j hlt
    have hje : j < es.length := by omega
    have gE : es.getD j [] = es[j] := by rw [List.getD_eq_getElem?_getD, List.getElem?_eq_getElem hje]; rfl
    refine .inr ⟨g1, fun H' => ds.length - (j + 1) < ds.length - j ∧ Inv2 (j + 1) 0 H', fun H' n => ⟨_, n.1, rfl, hlt, n.2⟩, fun x H' hy => ?_⟩
    obtain ⟨rfl, d, hd, rd⟩ := g2 x H' hy
    have eW : EnvR H' ((wipeG Γ [i, i1]).set i (.d d)) ((wipe σ [i, i1]).set i (some x)) := EnvR.setD rd i ((eD.mono s2).wipe [i, i1])
    refine ⟨wipe2 hne, ?_⟩
    show semBI X scope (.Name nm1 tp1) iter1 _ H' _
    refine (hi1 j d hd).sem _ H' eW _ fun J1 H4 e4 hJ1 => ?_
    refine ⟨fun k n H => n = ds1.length - k ∧ k ≤ ds1.length ∧ Tsm H4 H ∧ Inv2 j k H, ⟨_, rfl, Nat.zero_le _, fun _ _ h => h, s2.trans e4, acc, e4 _ _ hA, hR.mono e4⟩, ?_⟩
    rintro k n H5 ⟨rfl, hk, t5, s5', acc5, hA5, hR5⟩
    obtain ⟨hgo1, hst1⟩ := hJ1 H5
    have lE : (es[j]).length = ds1.length := hl1 _ (List.getElem_mem hje)
    by_cases hlk : k < ds1.length
    · obtain ⟨g3, g4⟩ := hgo1 k hlk
      refine .inr ⟨g3, fun H' => ds1.length - (k + 1) < ds1.length - k ∧ Tsm H4 H' ∧ Inv2 j (k + 1) H', fun H' n => ⟨_, n.1, rfl, hlk, n.2.1, n.2.2⟩, fun x1 H6 hy1 => ?_⟩
      obtain ⟨rfl, d1, hd1, rd1⟩ := g4 x1 H6 hy1
      have rd6 : Rep H6 d x := Rep.monoT t5 (noLs_iff.mp hnd d (List.mem_of_getElem? hd)) (rd.mono e4)
      have e6 : EnvR H6 ((wipeG Γ [i, i1]).set i (.d d)) ((wipe σ [i, i1]).set i (some x)) := EnvR.setD rd6 i ((eD.mono s5').wipe [i, i1])
      have e7 := EnvR.setD rd1 i1 (e6.wipe [i1])
      refine ⟨?_, ?_⟩
      · show ((wipe ((wipe σ [i, i1]).set i (some x)) [i1]).set i1 (some x1)).set i1 none = wipe ((wipe σ [i, i1]).set i (some x)) [i1]
        show (((((wipe σ [i, i1]).set i (some x)).set i1 none).set i1 (some x1)).set i1 none) = (((wipe σ [i, i1]).set i (some x)).set i1 none)
        rw [List.set_set, List.set_set]
      · show semB X scope elt _ H6 _
        have hk1 : k < (es[j]).length := by omega
        refine (hv j k d d1 es[j] (es[j])[k] hd hd1 (List.getElem?_eq_getElem hje) (List.getElem?_eq_getElem hk1)).sem _ H6 e7 _ fun z H7 e8 r8 => ⟨acc5, e8 _ _ hA5, ?_, by omega, ?_, ?_, acc5 ++ [z], upd_same, ?_⟩
        · have l1 := hR5.length
          rw [List.length_append, lenT j (by omega), gE, List.length_take] at l1
          have l2 : j * ds1.length + ds1.length ≤ ds.length * ds1.length := by
            rw [← Nat.succ_mul]
            exact Nat.mul_le_mul_right _ hlt
          omega
        · exact TS_trans t5 (TS_trans (Same.ts e8) (ts_lst (e8 _ _ hA5)))
        · have s7 : Same H1 H7 := s5'.trans e8
          intro b o hb
          rw [upd_ne (ne_of_none hb hD)]
          exact s7 b o hb
        · have t7 : Tsm H7 (upd H7 D0 (.lst (acc5 ++ [z]))) := ts_lst (e8 _ _ hA5)
          have ek : (es.take j).flatten ++ (es.getD j []).take (k + 1) = ((es.take j).flatten ++ (es.getD j []).take k) ++ [(es[j])[k]] := by
            rw [gE, List.take_add_one, List.getElem?_eq_getElem hk1, List.append_assoc]
            rfl
          rw [ek]
          have n1 : noLs ((es.take j).flatten ++ (es.getD j []).take k) = true := noLs_iff.mpr fun y hy => by
            rcases List.mem_append.mp hy with h | h
            · obtain ⟨l, h3, h4⟩ := List.mem_flatten.mp h
              exact noLs_iff.mp (hn l (List.mem_of_mem_take h3)) y h4
            · rw [gE] at h
              exact noLs_iff.mp (hn _ (List.getElem_mem hje)) y (List.mem_of_mem_take h)
          exact (Reps.monoT t7 n1 (hR5.mono e8)).append ⟨z, [], rfl, Rep.monoT t7 (noLs_iff.mp (hn _ (List.getElem_mem hje)) _ (List.getElem_mem hk1)) r8, rfl⟩
    · have hke : k = ds1.length := by omega
      subst hke
      refine .inl ⟨hst1, by omega, s5', acc5, hA5, ?_⟩
      have ek : (es.take (j + 1)).flatten ++ (es.getD (j + 1) []).take 0 = (es.take j).flatten ++ (es.getD j []).take ds1.length := by
        rw [List.take_zero, List.append_nil, List.take_add_one, List.getElem?_eq_getElem hje, List.flatten_append, gE, List.take_of_length_le (l := es[j]) (by rw [lE]; exact Nat.le_refl _)]
        simp
      rw [ek]
      exact hR5
  · have hje : j = ds.length := by omega
    subst hje
    refine .inl ⟨hst, q _ H2 (e1.trans s2) ⟨D0, acc, rfl, hA, ?_⟩⟩
    rw [List.take_of_length_le (by omega)] at hR
    simp only [List.take_zero, List.append_nil] at hR
    exact hR
end
end P6
namespace P6
open PySem PySem.Spec PyProof.Rows L2
/-! ### one list of the def's own that it changes -/
def del (H : Hp) (l : Addr) : Hp := fun b => if b = l then none else H b
theorem del_ne {H : Hp} {l b : Addr} (h : b ≠ l) : del H l b = H b := by unfold del; rw [if_neg h]
theorem del_same {H : Hp} {l : Addr} : del H l l = none := by unfold del; rw [if_pos rfl]
theorem del_le {H : Hp} {l : Addr} : Same (del H l) H := fun b o h => by
  by_cases e : b = l
  · subst e; rw [del_same] at h; cases h
  · rw [del_ne e] at h; exact h
theorem del_upd {H : Hp} {l : Addr} {o : HO} : del (upd H l o) l = del H l := by
  funext b
  by_cases e : b = l
  · subst e; rw [del_same, del_same]
  · rw [del_ne e, del_ne e, upd_ne e]
theorem del_mono {H H' : Hp} {l : Addr} (e : Same H H') : Same (del H l) (del H' l) := fun b o h => by
  by_cases q : b = l
  · subst q; rw [del_same] at h; cases h
  · rw [del_ne q] at h ⊢; exact e b o h
/-- all but l as it was -/
def SameBut (l : Addr) (H H' : Hp) : Prop := Same (del H l) (del H' l)
theorem SameBut.trans {l : Addr} {H H1 H2 : Hp} (a : SameBut l H H1) (b : SameBut l H1 H2) : SameBut l H H2 := Same.trans a b
theorem sbut {l : Addr} {H H' : Hp} (e : Same H H') : SameBut l H H' := del_mono e
theorem SameBut.upd {l : Addr} {H : Hp} {o : HO} : SameBut l H (upd H l o) := by unfold SameBut; rw [del_upd]; exact Same.refl _
/-- a list that was new: all that stood stands -/
theorem SameBut.fresh {l : Addr} {H0 H H' : Hp} (e : Same H0 H) (n : H0 l = none) (b : SameBut l H H') : Same H0 H' := fun c o h => by
  have hc : c ≠ l := ne_of_none h n
  have h1 := b c o (by rw [del_ne hc]; exact e c o h)
  rw [del_ne hc] at h1
  exact h1
mutual
theorem Rep.del {H : Hp} {l : Addr} {ys : List V} (hl : H l = some (.lst ys)) : ∀ {d : D} {v : V}, noL d = true → Rep H d v → Rep (del H l) d v
  | .non, _, _, h => h
  | .bl _, _, _, h => h
  | .int _, _, _, h => h
  | .str _, _, _, h => h
  | .tup _, _, n, ⟨a, xs, h1, h2, h3⟩ => ⟨a, xs, h1, by rw [del_ne (ne_of h2 hl (fun z => nomatch z))]; exact h2, Reps.del hl (by simpa [noL] using n) h3⟩
  | .lst _, _, n, _ => by simp [noL] at n
  | .mac _ _ _ _, _, n, _ => by simp [noL] at n
  | .dic _ _, _, n, _ => by simp [noL] at n
  | .scr _ _, _, n, _ => by simp [noL] at n
theorem Reps.del {H : Hp} {l : Addr} {ys : List V} (hl : H l = some (.lst ys)) : ∀ {ds : List D} {xs : List V}, noLs ds = true → Reps H ds xs → Reps (del H l) ds xs
  | [], _, _, h => h
  | _ :: _, _, n, ⟨v, vs, h1, h2, h3⟩ => by
    simp only [noLs, Bool.and_eq_true] at n
    exact ⟨v, vs, h1, Rep.del hl n.1 h2, Reps.del hl n.2 h3⟩
end
def LA (H : Hp) (l : Addr) (ds : List D) : Prop := ∃ xs, H l = some (.lst xs) ∧ Reps (del H l) ds xs
theorem LA.mono {H H' : Hp} {l : Addr} {ds : List D} (e : Same H H') : LA H l ds → LA H' l ds := fun ⟨xs, h1, h2⟩ => ⟨xs, e _ _ h1, h2.mono (del_mono e)⟩
theorem LA.rep {H : Hp} {l : Addr} {ds : List D} (h : LA H l ds) : Rep H (.lst ds) (.ref l) := by
  obtain ⟨xs, h1, h2⟩ := h
  exact ⟨l, xs, rfl, h1, h2.mono del_le⟩
/-- the frame with the list read as data -/
theorem EnvR.setSame {H : Hp} {d : D} {v : V} (hd : Rep H d v) : ∀ {Γ : List G} {σ : L2.St} (i : Nat), EnvR H Γ σ → σ[i]? = some (some v) → EnvR H (Γ.set i (.d d)) σ
  | [], _, _, h, _ => by cases h; rfl
  | _ :: _, _, 0, ⟨o', σ', h1, h2, h3⟩, e => by
    subst h1
    have : o' = some v := Option.some.inj e
    subst this
    exact ⟨_, σ', rfl, ⟨v, rfl, hd⟩, h3⟩
  | _ :: _, _, i + 1, ⟨o', σ', h1, h2, h3⟩, e => by
    subst h1
    exact ⟨o', σ', rfl, h2, EnvR.setSame hd i h3 e⟩
theorem EnvR.plus {H : Hp} {l : Addr} {Γ : List G} {σ : L2.St} {i : Nat} {ds : List D} (e : EnvR (del H l) Γ σ) (hi : σ[i]? = some (some (.ref l))) (h : LA H l ds) : EnvR H (Γ.set i (.d (.lst ds))) σ := EnvR.setSame h.rep i (e.mono del_le) hi
inductive OM where
  | ret (d : D) | nx (Γ : List G) (ds : List D)
def FinM (i : Nat) (H : Hp) (l : Addr) (E : Ends) : OM → Prop
  | .ret d => ∀ v H', SameBut l H H' → Rep H' d v → E.rt v H'
  | .nx Γ ds => ∀ σ' H', SameBut l H H' → EnvR (del H' l) Γ σ' → σ'[i]? = some (some (.ref l)) → LA H' l ds → E.nx σ' H'
theorem FinM.mono {i : Nat} {l : Addr} {H H' : Hp} {E : Ends} (e : SameBut l H H') : ∀ {o : OM}, FinM i H l E o → FinM i H' l E o
  | .ret _, h => fun v H2 e2 r => h v H2 (e.trans e2) r
  | .nx _ _, h => fun v H2 e2 r => h v H2 (e.trans e2) r
def PsM (i : Nat) (t : TS) (Γ : List G) (ds : List D) (o : OM) : Prop := ∀ σ H l (E : Ends), EnvR (del H l) Γ σ → σ[i]? = some (some (.ref l)) → LA H l ds → FinM i H l E o → t E σ H
def BM (i : Nat) (X : Cx) (st : List Stmt) (Γ : List G) (ds : List D) (o : OM) : Prop := ∃ t, PSs X st t ∧ PsM i t Γ ds o
theorem BM.sem {i : Nat} {X : Cx} {st : List Stmt} {Γ : List G} {ds : List D} {o : OM} (h : BM i X st Γ ds o) : PsM i (semS X st) Γ ds o := by
  obtain ⟨t, h1, h2⟩ := h
  exact fun σ H l E e hi hl q pins s I => h1.run pins s σ H E I (h2 σ H l E e hi hl q)
theorem Reps.set {H : Hp} {d : D} {v : V} (hd : Rep H d v) : ∀ {ds : List D} {xs : List V} (m : Nat), Reps H ds xs → Reps H (ds.set m d) (xs.set m v)
  | [], _, _, h => by cases h; rfl
  | _ :: _, _, 0, ⟨v', vs, h1, h2, h3⟩ => by subst h1; exact ⟨v, vs, rfl, hd, h3⟩
  | _ :: _, _, m + 1, ⟨v', vs, h1, h2, h3⟩ => by subst h1; exact ⟨v', _, rfl, h2, Reps.set hd m h3⟩
/-- a new list -/
def UL (X : Cx) (e : Expr) (Γ : List G) (ds : List D) : Prop := ∃ t, PE X e t ∧ ∀ σ H, EnvR H Γ σ → ∀ Q : VK, (∀ l H', Same H H' → H l = none → LA H' l ds → Q (.ref l) H') → t σ H Q
section
variable {X : Cx} {Γ Γ1 : List G} {a b c e : Expr} {es : List Expr} {rest body els : List Stmt} {d x y : D} {ds zs : List D} {pos p p' apos : Pos} {i : Nat} {o : OM}
theorem ul_lst (h : UA X es Γ ds) (hl : Nat.ble ds.length 1000 = true := by rfl) : UL X (.List es pos) Γ ds := by
  obtain ⟨t, h1, h2⟩ := h
  refine ⟨_, pe_lst h1, fun σ H e Q q => h2 σ H e _ fun vs H1 e1 r1 => ⟨by rw [r1.length]; exact small_le hl, fun l hn => q l _ (e1.trans (Same.new hn)) (Same.free e1 hn) ⟨vs, upd_same, r1.mono fun b o hb => ?_⟩⟩⟩
  rw [del_ne (ne_of_none hb hn), upd_ne (ne_of_none hb hn)]
  exact hb
theorem ul_list (Bt : Bs X.mg) (h : U X a Γ (.tup ds)) (hg : Gl X "list" := by rfl) (hs : starEach [a] X.env = (false, eval a X.env) :: starEach [] X.env := by rfl) : UL X (.Call (.Name "list" p) [a] [] pos) Γ ds := by
  obtain ⟨t, h1, h2⟩ := h
  refine ⟨_, pe_callTy call_list_of hg Bt.list boot_list (pa_cons h1 pa_nil hs) (he := hs), fun σ H e Q q => h2 σ H e _ fun v H1 e1 ⟨a, xs, k1, k2, k3⟩ => ?_⟩
  refine ⟨a, xs, by rw [k1], .inr (SqT.of k2), fun l hn => q l _ (e1.trans (Same.new hn)) (Same.free e1 hn) ⟨xs, upd_same, k3.mono fun b o hb => ?_⟩⟩
  rw [del_ne (ne_of_none hb hn), upd_ne (ne_of_none hb hn)]
  exact hb
theorem ul_of (h : UF X e Γ ds) (hn : noLs ds = true) : UL X e Γ ds := by
  obtain ⟨t, h1, _, h2⟩ := h
  refine ⟨t, h1, fun σ H e Q q => h2 σ H e Q fun l H' e1 n r => q l H' e1 n ?_⟩
  obtain ⟨a, xs, k1, k2, k3⟩ := r
  cases k1
  exact ⟨xs, k2, Reps.del k2 hn k3⟩
/-- the name i = a new list, changed from here on -/
theorem b_new {nm : Str} (i : Nat) (hN : X.N.Nodup) (he : UL X e Γ ds) (h : BM i X rest (Γ.set i .un) ds (.ret d)) (hi : X.N[i]? = some nm := by rfl) (hx : Loc X.env.scope nm := by first | exact Or.inl rfl | exact Or.inr rfl)
    (hs : swapsWith e (some (.Name nm p')) pos.line X.env = pure false := by rfl) (hf : X.fn nm = true ∨ X.env.scope.names.lookup nm = some .local := by first | exact .inl rfl | exact .inr rfl) (hlt : ∀ σ : L2.St, σ.length = Γ.length → i < σ.length) : B X (.Assign [.Name nm p'] e pos :: rest) Γ (.ret d) := by
  obtain ⟨t, h1, h2⟩ := he
  obtain ⟨u, h3, h4⟩ := h
  refine ⟨_, pss_cons (ps_set hN hi hx h1 hs hf) h3, fun σ H E e q => h2 σ H e _ fun l H1 e1 hn hl => ?_⟩
  have eG : EnvR (del H1 l) (Γ.set i .un) (σ.set i (some (.ref l))) := EnvR.set (g := .un) True.intro i (e.mono fun b o hb => by rw [del_ne (ne_of_none hb hn)]; exact e1 b o hb)
  have len : σ.length = Γ.length := by
    have : ∀ {Γ : List G} {σ : L2.St}, EnvR H Γ σ → σ.length = Γ.length := by
      intro Γ
      induction Γ with
      | nil => intro σ h; cases h; rfl
      | cons g Γ ih => rintro σ ⟨o, σ', h5, h6, h7⟩; subst h5; simp [ih h7]
    exact this e
  refine h4 _ H1 l E eG (List.getElem?_set_self (hlt σ len)) hl fun v H' sb r => q v H' ?_ r
  exact SameBut.fresh e1 hn sb
theorem envR_len {H : Hp} : ∀ {Γ : List G} {σ : L2.St}, EnvR H Γ σ → σ.length = Γ.length
  | [], _, h => by cases h; rfl
  | g :: Γ, _, ⟨o, σ', h5, h6, h7⟩ => by subst h5; simp [envR_len h7]
/-- the same where the list is a comprehension, on one line -/
theorem b_newC {nm : Str} (i : Nat) (hN : X.N.Nodup) (he : UF X e Γ ds) (hn : noLs ds = true) (h : BM i X rest (Γ.set i .un) ds (.ret d)) (hs : swapsWith e (some (.Name nm p')) pos.line X.env = pure true) (hlt : i < Γ.length) (hi : X.N[i]? = some nm := by rfl) (hx : X.env.scope.names.lookup nm = some .local := by rfl) :
    B X (.Assign [.Name nm p'] e pos :: rest) Γ (.ret d) := by
  obtain ⟨t, h1, h5, h2⟩ := he
  obtain ⟨u, h3, h4⟩ := h
  refine ⟨_, pss_cons (h5 i nm p' pos hi hx hs) h3, fun σ H E e q => h2 σ H e _ fun l H1 e1 hn1 r => ?_⟩
  obtain ⟨a, xs, k1, k2, k3⟩ := r
  cases k1
  have eG : EnvR (del H1 l) (Γ.set i .un) (σ.set i (some (.ref l))) := EnvR.set (g := .un) True.intro i (e.mono fun b o hb => by rw [del_ne (ne_of_none hb hn1)]; exact e1 b o hb)
  refine h4 _ H1 l E eG (List.getElem?_set_self (by rw [envR_len e]; exact hlt)) ⟨xs, k2, Reps.del k2 hn k3⟩ fun v H' sb r => q v H' ?_ r
  exact SameBut.fresh e1 hn1 sb
/-- a comprehension's list that is only read -/
theorem b_setC {nm : Str} {o : O} (i : Nat) (he : UF X e Γ ds) (h : B X rest (Γ.set i (.d (.lst ds))) o) (hs : swapsWith e (some (.Name nm p')) pos.line X.env = pure true) (hi : X.N[i]? = some nm := by rfl) (hx : X.env.scope.names.lookup nm = some .local := by rfl) :
    B X (.Assign [.Name nm p'] e pos :: rest) Γ o := by
  obtain ⟨t, h1, h5, h2⟩ := he
  obtain ⟨u, h3, h4⟩ := h
  exact ⟨_, pss_cons (h5 i nm p' pos hi hx hs) h3, fun σ H E e q => h2 σ H e _ fun l H1 e1 hn1 r => h4 _ H1 E (EnvR.setD r i (e.mono e1)) (q.mono e1)⟩
theorem bm_nil : BM i X [] Γ ds (.nx Γ ds) := ⟨_, pss_nil, fun σ H l E e hi hl q => q σ H (Same.refl _) e hi hl⟩
theorem bm_ret (h : U X e (Γ.set i (.d (.lst ds))) d) : BM i X (.Return (some e) pos :: rest) Γ ds (.ret d) := by
  obtain ⟨t, h1, h2⟩ := h
  exact ⟨_, pss_cons (ps_ret h1) pss_never, fun σ H l E e hi hl q => h2 σ H (e.plus hi hl) _ fun v H' e' r => q v H' (sbut e') r⟩
theorem bm_ifF (hc : T X c (Γ.set i (.d (.lst ds))) false) (h : BM i X rest Γ ds o) : BM i X (.If c body [] pos :: rest) Γ ds o := by
  obtain ⟨t, h1, h2⟩ := hc
  obtain ⟨u, h3, h4⟩ := h
  exact ⟨_, pss_cons (ps_if h1 pss_never pss_nil) h3, fun σ H l E e hi hl q => h2 σ H (e.plus hi hl) _ fun H1 e1 => h4 σ H1 l E (e.mono (del_mono e1)) hi (hl.mono e1) (q.mono (sbut e1))⟩
theorem bm_ifTN (hc : T X c (Γ.set i (.d (.lst ds))) true) (h : BM i X body Γ ds (.nx Γ1 zs)) (h2 : BM i X rest Γ1 zs o) : BM i X (.If c body els pos :: rest) Γ ds o := by
  obtain ⟨t, h1, h2'⟩ := hc
  obtain ⟨u, h3, h4⟩ := h
  obtain ⟨w, h5, h6⟩ := h2
  exact ⟨_, pss_cons (ps_if h1 h3 pss_never) h5, fun σ H l E e hi hl q => h2' σ H (e.plus hi hl) _ fun H1 e1 => h4 σ H1 l { E with nx := w E } (e.mono (del_mono e1)) hi (hl.mono e1) fun σ' H2 e2 g hi' hl' => h6 σ' H2 l E g hi' hl' (q.mono ((sbut e1).trans e2))⟩
theorem bm_set {nm : Str} (j : Nat) (hij : i ≠ j) (hN : X.N.Nodup) (he : U X e (Γ.set i (.d (.lst ds))) d) (hn : noL d = true) (h : BM i X rest (Γ.set j (.d d)) ds o) (hi : X.N[j]? = some nm := by rfl) (hx : Loc X.env.scope nm := by first | exact Or.inl rfl | exact Or.inr rfl)
    (hs : swapsWith e (some (.Name nm p')) pos.line X.env = pure false := by rfl) (hf : X.fn nm = true ∨ X.env.scope.names.lookup nm = some .local := by first | exact .inl rfl | exact .inr rfl) : BM i X (.Assign [.Name nm p'] e pos :: rest) Γ ds o := by
  obtain ⟨t, h1, h2⟩ := he
  obtain ⟨u, h3, h4⟩ := h
  refine ⟨_, pss_cons (ps_set hN hi hx h1 hs hf) h3, fun σ H l E e hi hl q => h2 σ H (e.plus hi hl) _ fun v H1 e1 r1 => ?_⟩
  obtain ⟨ys, hy, hr⟩ := hl.mono e1
  exact h4 _ H1 l E (EnvR.setD (r1.del hy hn) j (e.mono (del_mono e1))) (by rw [List.getElem?_set_ne (Ne.symm hij)]; exact hi) ⟨ys, hy, hr⟩ (q.mono (sbut e1))
/-- found.append(e) -/
theorem bm_append {nm : Str} {np : Pos} (he : U X e (Γ.set i (.d (.lst ds))) d) (hn : noL d = true) (hz : ds.length < sizeLine) (h : BM i X rest Γ (ds ++ [d]) o) (hi : X.N[i]? = some nm := by rfl) (hv : Vis X.env.scope nm := by first | exact Or.inl rfl | exact Or.inr (Or.inl rfl) | exact Or.inr (Or.inr rfl))
    (hd1 : (nm == ("__debug__" : Str)) = false := by decide) (hcd : (nm == ("__classdict__" : Str)) = false := by decide) (hs : swapsWith (.Call (.Attribute (.Name nm np) "append" apos) [e] [] p) none pos.line X.env = pure false := by rfl)
    (hst : starEach [e] X.env = (false, eval e X.env) :: starEach [] X.env := by rfl) (hbase : attributeBase (.Name nm np) "append" X.env (eval (.Name nm np) X.env) = eval (.Name nm np) X.env := by rfl)
    (hfew : ((backTo p (starEach [e] X.env)).all (fun x => !x.1) && (backToKw p (keywordEach [] X.env)).all (fun x => x.1.isSome) && decide ([e].length + ([] : List Keyword).length + (if ([] : List Keyword).isEmpty then 0 else 1) < 30)) = true := by rfl)
    (hline : (apos.endLine == p.line) = true := by rfl) :
    BM i X (.Expr (.Call (.Attribute (.Name nm np) "append" apos) [e] [] p) pos :: rest) Γ ds o := by
  obtain ⟨t, h1, h2⟩ := he
  obtain ⟨u, h3, h4⟩ := h
  refine ⟨_, pss_cons (ps_expr (pe_bm PySem.F.plainAttrs_list PySem.F.slot_list_append PySem.F.type_list_append mt_append (pe_var hi hv hd1 hcd) (pa_cons h1 pa_nil hst) hbase hfew hline hst) hs) h3, fun σ H l E e hi hl q => ?_⟩
  obtain ⟨xs, hx, hr⟩ := id hl
  refine ⟨.ref l, hi, .inl ⟨rfl, _, SqL.of hx⟩, h2 σ H (e.plus hi hl) _ fun v H1 e1 r1 => ?_⟩
  refine ⟨l, xs, v, rfl, rfl, e1 _ _ hx, by rw [hr.length]; exact hz, ?_⟩
  refine h4 σ _ l E (by rw [del_upd]; exact e.mono (del_mono e1)) hi ⟨xs ++ [v], upd_same, ?_⟩ (q.mono ((sbut e1).trans SameBut.upd))
  rw [del_upd]
  exact (hr.mono (del_mono e1)).append ⟨v, [], rfl, r1.del (e1 _ _ hx) hn, rfl⟩
/-- found.extend(a new list) -/
theorem bm_extend {nm : Str} {np : Pos} (he : UL X e (Γ.set i (.d (.lst ds))) zs) (hn : noLs zs = true) (hz : ds.length + zs.length ≤ sizeLine) (h : BM i X rest Γ (ds ++ zs) o) (hi : X.N[i]? = some nm := by rfl) (hv : Vis X.env.scope nm := by first | exact Or.inl rfl | exact Or.inr (Or.inl rfl) | exact Or.inr (Or.inr rfl))
    (hd1 : (nm == ("__debug__" : Str)) = false := by decide) (hcd : (nm == ("__classdict__" : Str)) = false := by decide) (hs : swapsWith (.Call (.Attribute (.Name nm np) "extend" apos) [e] [] p) none pos.line X.env = pure false := by rfl)
    (hst : starEach [e] X.env = (false, eval e X.env) :: starEach [] X.env := by rfl) (hbase : attributeBase (.Name nm np) "extend" X.env (eval (.Name nm np) X.env) = eval (.Name nm np) X.env := by rfl)
    (hfew : ((backTo p (starEach [e] X.env)).all (fun x => !x.1) && (backToKw p (keywordEach [] X.env)).all (fun x => x.1.isSome) && decide ([e].length + ([] : List Keyword).length + (if ([] : List Keyword).isEmpty then 0 else 1) < 30)) = true := by rfl)
    (hline : (apos.endLine == p.line) = true := by rfl) :
    BM i X (.Expr (.Call (.Attribute (.Name nm np) "extend" apos) [e] [] p) pos :: rest) Γ ds o := by
  obtain ⟨t, h1, h2⟩ := he
  obtain ⟨u, h3, h4⟩ := h
  refine ⟨_, pss_cons (ps_expr (pe_bm PySem.F.plainAttrs_list PySem.F.slot_list_extend PySem.F.type_list_extend mt_extend (pe_var hi hv hd1 hcd) (pa_cons h1 pa_nil hst) hbase hfew hline hst) hs) h3, fun σ H l E e hi hl q => ?_⟩
  obtain ⟨xs, hx, hr⟩ := id hl
  refine ⟨.ref l, hi, .inl ⟨rfl, _, SqL.of hx⟩, h2 σ H (e.plus hi hl) _ fun b H1 e1 nb ⟨ws, hb, hw⟩ => ?_⟩
  refine ⟨l, b, xs, ws, rfl, rfl, e1 _ _ hx, hb, by rw [hr.length, hw.length]; exact hz, ?_⟩
  refine h4 σ _ l E (by rw [del_upd]; exact e.mono (del_mono e1)) hi ⟨xs ++ ws, upd_same, ?_⟩ (q.mono ((sbut e1).trans SameBut.upd))
  rw [del_upd]
  exact (hr.mono (del_mono e1)).append (Reps.del (e1 _ _ hx) hn (hw.mono del_le))
/-- found[k] = e -/
theorem bm_store {nm : Str} {np sp : Pos} {j : Expr} {k : Int} {m : Nat} (he : U X e (Γ.set i (.d (.lst ds))) d) (hj : U X j (Γ.set i (.d (.lst ds))) (.int k)) (hk : ixN ds.length k = some m) (hn : noL d = true) (h : BM i X rest Γ (ds.set m d) o) (hi : X.N[i]? = some nm := by rfl)
    (hv : Vis X.env.scope nm := by first | exact Or.inl rfl | exact Or.inr (Or.inl rfl) | exact Or.inr (Or.inr rfl)) (hd1 : (nm == ("__debug__" : Str)) = false := by decide) (hcd : (nm == ("__classdict__" : Str)) = false := by decide)
    (ha : ∀ v, assign (.Subscript (.Name nm np) j sp) X.env v = (do
      let ov ← holding [v] (eval (.Name nm np) X.env)
      let iv ← holding [v, ov] (eval j X.env)
      standAt sp
      holding [v, ov, iv] (setItem ov iv v)
      release [v, ov, iv] []) := by intro _; rfl)
    (hs : swapsWithSole [.Subscript (.Name nm np) j sp] e pos.line X.env = pure false := by rfl) (hw : swappedStores [.Subscript (.Name nm np) j sp] e X.env = pure none := by rfl)
    (hae : (assignEach [.Subscript (.Name nm np) j sp] X.env).map (·.2) = [assign (.Subscript (.Name nm np) j sp) X.env] := by rfl) : BM i X (.Assign [.Subscript (.Name nm np) j sp] e pos :: rest) Γ ds o := by
  obtain ⟨t, h1, h2⟩ := he
  obtain ⟨tj, h5, h6⟩ := hj
  obtain ⟨u, h3, h4⟩ := h
  refine ⟨_, pss_cons (ps_asg h1 (pg_sub (pe_var hi hv hd1 hcd) h5 set_list ha) hs hw hae) h3, fun σ H l E e hi hl q => h2 σ H (e.plus hi hl) _ fun v H1 e1 r1 => ?_⟩
  obtain ⟨xs, hx, hr⟩ := id hl
  refine ⟨.ref l, hi, h6 σ H1 ((e.plus hi hl).mono e1) _ fun z H2 e2 r2 => ?_⟩
  have e12 := e1.trans e2
  refine ⟨l, xs, k, m, rfl, r2, e12 _ _ hx, by rw [hr.length]; exact hk, ?_⟩
  refine h4 σ _ l E (by rw [del_upd]; exact e.mono (del_mono e12)) hi ⟨xs.set m v, upd_same, ?_⟩ (q.mono ((sbut e12).trans SameBut.upd))
  rw [del_upd]
  have r3 : Rep (del H2 l) d v := (r1.mono e2).del (e12 _ _ hx) hn
  have r4 : Reps (del H2 l) ds xs := hr.mono (del_mono e12)
  exact Reps.set r3 m r4
/-- for over data while the list changes -/
theorem bm_for {nm : Str} {tp : Pos} {iter : Expr} {body rest : List Stmt} {o : OM} (k : Nat) (hik : i ≠ k) (Γs : Nat → List G) (Ls : Nat → List D) (h0 : Γs 0 = Γ) (hL : Ls 0 = ds) (hN : X.N.Nodup) (hi : UR X (.Name nm tp) iter (Γ.set i (.d (.lst ds))) zs) (hn : noLs zs = true)
    (hbv : ∀ (j : Nat) d, zs[j]? = some d → BM i X body ((Γs j).set k (.d d)) (Ls j) (.nx (Γs (j + 1)) (Ls (j + 1)))) (h : BM i X rest (Γs zs.length) (Ls zs.length) o) (hp : PassesOwn (model X.prog X.w) X.A X.env X.xe) (hx : X.N[k]? = some nm := by rfl) (hc : X.calm = true := by rfl)
    (hlo : Loc X.env.scope nm := by first | exact Or.inl rfl | exact Or.inr rfl) (hf : X.fn nm = true ∨ X.env.scope.names.lookup nm = some .local := by first | exact .inl rfl | exact .inr rfl)
    (hs : ∀ x, foldedSetIterable iter X.env x = pure x := by intro _; rfl) : BM i X (.For (.Name nm tp) iter body [] pos :: rest) Γ ds o := by
  obtain ⟨wi, h1, h2⟩ := hi
  obtain ⟨u, h3, h4⟩ := h
  refine ⟨_, pss_cons (ps_for (tb := semS X body) hp hc h1 (pg_name hN hx hlo hf) ps_sem hs) h3, fun σ H l E e hi hl q => h2 σ H (e.plus hi hl) _ fun J H1 e1 hJ => ?_⟩
  refine ⟨fun j m σ H => m = zs.length - j ∧ j ≤ zs.length ∧ SameBut l H1 H ∧ EnvR (del H l) (Γs j) σ ∧ σ[i]? = some (some (.ref l)) ∧ LA H l (Ls j), ⟨_, rfl, Nat.zero_le _, Same.refl _, by rw [h0]; exact e.mono (del_mono e1), hi, by rw [hL]; exact hl.mono e1⟩, ?_⟩
  rintro j m σ2 H2 ⟨rfl, hj, s2, e2, i2, l2⟩
  obtain ⟨hgo, hst⟩ := hJ H2
  by_cases hlt : j < zs.length
  · obtain ⟨g1, g2⟩ := hgo j hlt
    refine .inr ⟨g1, fun σ' H' => zs.length - (j + 1) < zs.length - j ∧ SameBut l H1 H' ∧ EnvR (del H' l) (Γs (j + 1)) σ' ∧ σ'[i]? = some (some (.ref l)) ∧ LA H' l (Ls (j + 1)), fun σ' H' n => ⟨_, n.1, rfl, hlt, n.2.1, n.2.2.1, n.2.2.2.1, n.2.2.2.2⟩, fun x H' hy => ?_⟩
    obtain ⟨rfl, d, hd, rd⟩ := g2 x H' hy
    obtain ⟨ys, y1, y2⟩ := id l2
    refine (hbv j d hd).sem _ H' l _ (EnvR.setD (rd.del y1 (noLs_iff.mp hn d (List.mem_of_getElem? hd))) k e2) (by rw [List.getElem?_set_ne (Ne.symm hik)]; exact i2) l2 fun σ4 H4 s4 e4 i4 l4 => ⟨by omega, s2.trans s4, e4, i4, l4⟩
  · have hje : j = zs.length := by omega
    subst hje
    exact .inl ⟨hst, h4 σ2 H2 l E e2 i2 l2 (q.mono ((sbut e1).trans s2))⟩
end
end P6
namespace P6
open PySem PySem.Spec PyProof.Rows L2
/-! ### names forgotten; comprehensions that are maps -/
def Fg (Γ Γ1 : List G) : Prop := ∀ H σ, EnvR H Γ σ → EnvR H Γ1 σ
theorem Fg.refl {Γ : List G} : Fg Γ Γ := fun _ _ h => h
theorem Fg.trans {Γ Γ1 Γ2 : List G} (a : Fg Γ Γ1) (b : Fg Γ1 Γ2) : Fg Γ Γ2 := fun H σ h => b H σ (a H σ h)
theorem EnvR.forget {H : Hp} : ∀ {Γ : List G} {σ : L2.St} (i : Nat), EnvR H Γ σ → EnvR H (Γ.set i .un) σ
  | [], _, _, h => by cases h; rfl
  | _ :: _, _, 0, ⟨o', σ', h1, h2, h3⟩ => by subst h1; exact ⟨o', σ', rfl, True.intro, h3⟩
  | _ :: _, _, i + 1, ⟨o', σ', h1, h2, h3⟩ => by subst h1; exact ⟨o', _, rfl, h2, EnvR.forget i h3⟩
theorem Fg.un {Γ : List G} (i : Nat) : Fg Γ (Γ.set i .un) := fun _ _ h => h.forget i
theorem Fg.uns {Γ : List G} : ∀ (vs : List Nat), Fg Γ (wipeG Γ vs)
  | [] => Fg.refl
  | v :: vs => (Fg.uns vs).trans (Fg.un v)
section
variable {X : Cx} {Γ Γ1 Γ2 : List G} {elt iter : Expr} {st : List Stmt} {d : D} {ds zs : List D} {pos p : Pos} {i : Nat}
theorem b_fg (f : Fg Γ1 Γ2) (h : B X st Γ (.nx Γ1)) : B X st Γ (.nx Γ2) := by
  obtain ⟨t, h1, h2⟩ := h
  exact ⟨t, h1, fun σ H E e q => h2 σ H E e fun σ' H' e1 g => q σ' H' e1 (f _ _ g)⟩
theorem bm_fg (f : Fg Γ1 Γ2) (h : BM i X st Γ ds (.nx Γ1 zs)) : BM i X st Γ ds (.nx Γ2 zs) := by
  obtain ⟨t, h1, h2⟩ := h
  exact ⟨t, h1, fun σ H l E e hi hl q => h2 σ H l E e hi hl fun σ' H' e1 g => q σ' H' e1 (f _ _ g)⟩
theorem b_nilF (vs : List Nat) (hw : wipeG Γ vs = Γ2 := by rfl) : B X [] Γ (.nx Γ2) := b_fg (hw ▸ Fg.uns vs) b_nil
theorem bm_nilF (vs : List Nat) (hw : wipeG Γ vs = Γ2 := by rfl) : BM i X [] Γ ds (.nx Γ2 ds) := bm_fg (hw ▸ Fg.uns vs) bm_nil
theorem u_fg {e : Expr} (f : Fg Γ Γ1) (h : U X e Γ1 d) : U X e Γ d := by
  obtain ⟨t, h1, h2⟩ := h
  exact ⟨t, h1, fun σ H e q => h2 σ H (f _ _ e) q⟩
theorem uf_lcM {nm : Str} {i : Nat} {scope : Scope} {tp : Pos} (f : D → D) (hN : X.N.Nodup) (hi : UI X (.Name nm tp) iter Γ ds) (ok : BlkOk X.N X.env.scope scope [(nm, i)]) (hz : ds.length < sizeLine) (hn : ∀ d ∈ ds, noL (f d) = true)
    (hv : ∀ d ∈ ds, UB X scope elt ((wipeG Γ [i]).set i (.d d)) (f d)) (hx : X.N[i]? = some nm := by rfl) (hc : X.calm = true := by rfl)
    (hlo : scope.names.lookup nm = some .local ∨ scope.names.lookup nm = some .cell := by first | exact Or.inl rfl | exact Or.inr rfl)
    (hs : ∀ x, foldedSetIterable iter X.env x = pure x := by intro _; rfl) : UF X (.ListComp elt [⟨.Name nm tp, iter, [], 0⟩] scope pos) Γ (ds.map f) :=
  uf_lc (ds.map f) hN hi ok (by rw [List.length_map]) hz (noLs_iff.mpr fun y hy => by
    obtain ⟨d, h1, h2⟩ := List.mem_map.mp hy
    rw [← h2]
    exact hn d h1) (fun j d y h1 h2 => by
    rw [List.getElem?_map, h1] at h2
    cases h2
    exact hv d (List.mem_of_getElem? h1)) hx hc hlo hs
theorem u_lcM {nm : Str} {i : Nat} {scope : Scope} {tp : Pos} (f : D → D) (hN : X.N.Nodup) (hi : UI X (.Name nm tp) iter Γ ds) (ok : BlkOk X.N X.env.scope scope [(nm, i)]) (hz : ds.length < sizeLine) (hn : ∀ d ∈ ds, noL (f d) = true)
    (hv : ∀ d ∈ ds, UB X scope elt ((wipeG Γ [i]).set i (.d d)) (f d)) (hx : X.N[i]? = some nm := by rfl) (hc : X.calm = true := by rfl)
    (hlo : scope.names.lookup nm = some .local ∨ scope.names.lookup nm = some .cell := by first | exact Or.inl rfl | exact Or.inr rfl)
    (hs : ∀ x, foldedSetIterable iter X.env x = pure x := by intro _; rfl) : U X (.ListComp elt [⟨.Name nm tp, iter, [], 0⟩] scope pos) Γ (.lst (ds.map f)) := (uf_lcM f hN hi ok hz hn hv hx hc hlo hs).u
theorem rgD_mem {lo : Int} {n : Nat} {d : D} (h : d ∈ rgD lo n) : ∃ i : Nat, i < n ∧ d = .int (lo + i) := by
  unfold rgD at h
  obtain ⟨i, h1, h2⟩ := List.mem_map.mp h
  exact ⟨i, List.mem_range.mp h1, h2.symm⟩
theorem mem_rgD {lo : Int} {n i : Nat} (h : i < n) : D.int (lo + i) ∈ rgD lo n := by
  unfold rgD
  exact List.mem_map.mpr ⟨i, List.mem_range.mpr h, rfl⟩
theorem rgD_at {lo : Int} {n j : Nat} {d : D} (h : (rgD lo n)[j]? = some d) : j < n ∧ d = .int (lo + j) := by
  have hj : j < n := by
    have := (List.getElem?_eq_some_iff.mp h).1
    rw [rgD_len] at this
    exact this
  rw [rgD_get hj] at h
  exact ⟨hj, (Option.some.inj h).symm⟩
theorem rgD_noL {lo : Int} {n : Nat} : noLs (rgD lo n) = true := noLs_iff.mpr fun d h => by
  obtain ⟨i, _, e⟩ := rgD_mem h
  rw [e]
  rfl
theorem small_lt {n : Nat} (h : n ≤ 1000) : n < sizeLine := by rw [sizeLine_eq]; omega
end
end P6
namespace P6
open PySem PySem.Spec PyProof.Rows L2
section
variable {X : Cx} {Γ : List G} {a b c e iter : Expr} {es : List Expr} {st body rest : List Stmt} {d x y : D} {ds : List D} {pos p : Pos} {o : O}
/-- for x, y in items that are pairs -/
theorem b_for2 {n1 n2 : Str} {q1 q2 tp : Pos} {k0 : Nat} (i j : Nat) (Γs : Nat → List G) (f g : Nat → D) (h0 : Γs 0 = Γ) (hN : X.N.Nodup) (hi : UI X (.Tuple [.Name n1 q1, .Name n2 q2] k0 tp) iter Γ ds) (hp : ∀ k : Nat, k < ds.length → ds[k]? = some (.tup [f k, g k]))
    (hbv : ∀ k : Nat, k < ds.length → B X body (((Γs k).set i (.d (f k))).set j (.d (g k))) (.nx (Γs (k + 1)))) (h : B X rest (Γs ds.length) o) (hpo : PassesOwn (model X.prog X.w) X.A X.env X.xe) (hc : X.calm = true := by rfl)
    (hx : X.N[i]? = some n1 := by rfl) (hy : X.N[j]? = some n2 := by rfl) (hlx : Loc X.env.scope n1 := by first | exact Or.inl rfl | exact Or.inr rfl) (hly : Loc X.env.scope n2 := by first | exact Or.inl rfl | exact Or.inr rfl)
    (hfx : X.fn n1 = true ∨ X.env.scope.names.lookup n1 = some .local := by first | exact .inl rfl | exact .inr rfl) (hfy : X.fn n2 = true ∨ X.env.scope.names.lookup n2 = some .local := by first | exact .inl rfl | exact .inr rfl)
    (hn : (assignEach [.Name n1 q1, .Name n2 q2] X.env).length = 2 := by rfl) (hst : (assignEach [.Name n1 q1, .Name n2 q2] X.env).findIdx? (·.1) = none := by rfl)
    (hs1 : (assignEach [.Name n1 q1, .Name n2 q2] X.env).map (·.2) = assign (.Name n1 q1) X.env :: (assignEach [.Name n2 q2] X.env).map (·.2) := by rfl)
    (hs2 : (assignEach [.Name n2 q2] X.env).map (·.2) = assign (.Name n2 q2) X.env :: (assignEach [] X.env).map (·.2) := by rfl)
    (hs : ∀ x, foldedSetIterable iter X.env x = pure x := by intro _; rfl) : B X (.For (.Tuple [.Name n1 q1, .Name n2 q2] k0 tp) iter body [] pos :: rest) Γ o := by
  refine b_forW (tb := semS X body) Γs (fun k => ((Γs k).set i (.d (f k))).set j (.d (g k))) h0 hi (pg_tup hc (pgs_cons (pg_name hN hx hlx hfx) (pgs_cons (pg_name hN hy hly hfy) pgs_nil hs2) hs1) hn hst) ps_sem (fun k d hd σ H v e r Q q => ?_) (fun k hk => (hbv k hk).sem) h hpo hc hs
  have hk : k < ds.length := (List.getElem?_eq_some_iff.mp hd).1
  rw [hp k hk] at hd
  cases hd
  obtain ⟨a, xs, k1, k2, v1, w1, k3, k4, v2, w2, k5, k6, k7⟩ := r
  cases k7
  subst k5 k3
  exact ⟨a, _, k1, SqT.of k2, rfl, v1, [v2], rfl, v2, [], rfl, rfl, q _ (EnvR.setD k6 j (EnvR.setD k4 i e))⟩
/-! ### while -/
def semT (X : Cx) (e : Expr) : TT := fun σ H Q => ∀ (pins : List (Addr × Obj)) (s : Shared), Inv X pins σ H s → wpAny (model X.prog X.w) X.A (isTrue e X.env (eval e X.env)) (TP X pins σ Q) X.xe s
theorem pt_sem {X : Cx} {e : Expr} : PT X e (semT X e) := ⟨fun pins s σ H Q I h => h pins s I⟩
theorem T.sem {X : Cx} {e : Expr} {Γ : List G} {b : Bool} (h : T X e Γ b) : PuT (semT X e) Γ b := by
  obtain ⟨t, h1, h2⟩ := h
  exact fun σ H e Q q pins s I => h1.run pins s σ H Q I (h2 σ H e Q q)
/-- n turns, then the test fails, or the body hands back -/
theorem b_while (n : Nat) (Γs : Nat → List G) (h0 : Γs 0 = Γ) (ht : ∀ k, k < n → T X c (Γs k) true ∧ B X body (Γs k) (.nx (Γs (k + 1)))) (he : (T X c (Γs n) false ∧ B X rest (Γs n) (.ret d)) ∨ (T X c (Γs n) true ∧ B X body (Γs n) (.ret d)))
    (hpo : PassesOwn (model X.prog X.w) X.A X.env X.xe) : B X (.While c body [] pos :: rest) Γ (.ret d) := by
  refine ⟨_, pss_cons (ps_while hpo (pt_sem (X := X) (e := c)) (ps_sem (X := X) (st := body))) (ps_sem (X := X) (st := rest)), fun σ H E e q => ?_⟩
  refine ⟨fun m σ H' => ∃ k, m = n - k ∧ k ≤ n ∧ Same H H' ∧ EnvR H' (Γs k) σ, ⟨n, 0, rfl, Nat.zero_le _, Same.refl _, by rw [h0]; exact e⟩, ?_⟩
  rintro m σ1 H1 ⟨k, rfl, hk, s1, e1⟩
  by_cases hlt : k < n
  · obtain ⟨t1, b1⟩ := ht k hlt
    refine t1.sem σ1 H1 e1 _ fun H2 e2 => ?_
    show (if true = true then _ else _)
    rw [if_pos rfl]
    refine ⟨fun σ' H' => Same H H' ∧ EnvR H' (Γs (k + 1)) σ', fun σ' H' h => ⟨n - (k + 1), by omega, k + 1, rfl, hlt, h.1, h.2⟩, ?_⟩
    exact b1.sem σ1 H2 _ (e1.mono e2) fun σ' H' e3 g => ⟨(s1.trans e2).trans e3, g⟩
  · have hk : k = n := by omega
    subst hk
    rcases he with ⟨t1, b1⟩ | ⟨t1, b1⟩
    · refine t1.sem σ1 H1 e1 _ fun H2 e2 => ?_
      show (if false = true then _ else _)
      rw [if_neg Bool.false_ne_true]
      exact b1.sem σ1 H2 E (e1.mono e2) fun v H' e3 r => q v H' ((s1.trans e2).trans e3) r
    · refine t1.sem σ1 H1 e1 _ fun H2 e2 => ?_
      show (if true = true then _ else _)
      rw [if_pos rfl]
      refine ⟨fun _ _ => False, fun _ _ h => h.elim, ?_⟩
      exact b1.sem σ1 H2 _ (e1.mono e2) fun v H' e3 r => q v H' ((s1.trans e2).trans e3) r
/-! ### a new instance -/
def spInit (C : Addr) : Sp := fun vs H Q _ => ∃ x dx vt vp t ps, vs = [.ref x, vt, vp] ∧ H x = some (.ins C dx []) ∧ Rep H t vt ∧ Rep H (.tup ps) vp ∧
  ∀ H', (∀ b o, b ≠ x → H b = some o → H' b = some o) → H' x = some (.ins C dx (mf vt vp ps.length)) → Q .non H'
theorem u_make {C f : Addr} {fd : FuncData} {nm : Str} {k : Nat} {ps : List Str} {t : D} {zs : List D} (M : Mk X.K C f) (F : FnOk X.prog X.w X.K X.mg X.base CX0 k f fd ps (spInit C)) (hr : Room (k + 1) X.A) (hm : X.mg nm = some (.ref C)) (hb : Binds X.K fd ps []) (h : UA X [a, b] Γ [t, .tup zs]) (hg : Gl X nm := by rfl)
    (hdb : (nm == ("__debug__" : Str)) = false := by decide) (he : starEach [a, b] X.env = (false, eval a X.env) :: starEach [b] X.env := by rfl) (hpl : (backTo pos (starEach [b] X.env)).any (·.1) = false := by rfl) : U X (.Call (.Name nm p) [a, b] [] pos) Γ (.mac C t (.tup zs) zs.length) := by
  obtain ⟨ta, h1, h2⟩ := h
  refine ⟨_, pe_make M F hr hg hm hb .nil pass0 h1 hdb he hpl, fun σ H e Q q => h2 σ H e _ fun vs H1 e1 r1 => fun x dx hx hdx hne => ?_⟩
  obtain ⟨vt, w1, k1, k2, vp, w2, k3, k4, k5⟩ := r1
  cases k5
  subst k3 k1
  have s0 : Same H1 (upd (upd H1 dx (.own x)) x (.ins C dx [])) := fun b o hb => by
    rw [upd_ne (ne_of_none hb hx), upd_ne (ne_of_none hb hdx)]
    exact hb
  refine ⟨x, dx, vt, vp, t, zs, rfl, upd_same, k2.mono s0, k4.mono s0, fun H' hk hx' => ⟨rfl, ?_⟩⟩
  have s1 : Same H1 H' := fun b o hb => hk b o (ne_of_none hb hx) (s0 b o hb)
  exact q _ H' (e1.trans s1) ⟨x, dx, vt, vp, rfl, hx', k2.mono s1, k4.mono s1⟩
end
end P6
namespace P6
open PySem PySem.Spec PyProof.Rows L2
/-! ### a tuple repeated, however often -/
theorem tmul_same (l : Addr) (vs : Array Value) (n : Nat) (dd : Option Addr) (sl : Array (Option Value)) (x : Int) (u : Tok) (h0 : (decide (x < -(2 ^ 63)) || decide (x ≥ 2 ^ 63)) = false) (h1 : (vs.isEmpty || x == 1) = true) :
    Meets (Builtin.«tuple.__mul__» ⟨[.ref l, .int x u], []⟩) (fun _ R s => s.heap.get? l = some { cls := .type "tuple", dict := dd, data := .seq vs n, slots := sl } ∧ R (.ok (.ret (Value.ref l))) s) :=
  .of_wp fun prog w A R s h => by
    obtain ⟨hp, g, d, tk, os⟩ := s
    obtain ⟨hl, h⟩ := h
    have f1 := AutoSeq1.idx_int
    wp_walk using wpAny_loadPart' hl
    refine wpAny_ite_false (decide_eq_false (by rw [h0]; exact Bool.false_ne_true)) ?_
    wp_walk using wpAny_loadPart' hl
    exact ⟨_, rfl, h⟩
theorem tmul_none (l : Addr) (vs : Array Value) (n : Nat) (dd : Option Addr) (sl : Array (Option Value)) (x : Int) (u : Tok) (h0 : (decide (x < -(2 ^ 63)) || decide (x ≥ 2 ^ 63)) = false) (h1 : (vs.isEmpty || x == 1) = false) (h2 : (decide (x ≤ 0) || vs.isEmpty) = true) :
    Meets (Builtin.«tuple.__mul__» ⟨[.ref l, .int x u], []⟩) (fun _ R s => s.heap.get? l = some { cls := .type "tuple", dict := dd, data := .seq vs n, slots := sl } ∧
      R (.ok (.ret (Value.ref s.heap.objs.size))) { s with heap := s.heap.push { cls := Value.type "tuple", data := Data.seq #[] }, toks := s.toks }) :=
  .of_wp fun prog w A R s h => by
    obtain ⟨hp, g, d, tk, os⟩ := s
    obtain ⟨hl, h⟩ := h
    have f1 := AutoSeq1.idx_int
    wp_walk using wpAny_loadPart' hl
    repeat (first
      | (refine wpAny_ite_false (decide_eq_false (by rw [h0]; exact Bool.false_ne_true)) ?_; wp_walk using wpAny_loadPart' hl)
      | (refine wpAny_ite_false (decide_eq_false (by rw [h1]; exact Bool.false_ne_true)) ?_; wp_walk using wpAny_loadPart' hl)
      | (refine wpAny_ite_true (decide_eq_true h2) ?_; wp_walk using wpAny_loadPart' hl))
    exact ⟨_, rfl, h⟩
section
variable {X : Cx}
/-- a display of a value, so often -/
def rTimes (K : PySem.W.Frag) : R2 := fun x y H Q => ∃ l k xs, x = .ref l ∧ y = .int k ∧ SqT K H l xs ∧ xs ≠ [] ∧ 0 ≤ k ∧ k ≤ 1000 ∧ xs.length ≤ 1000 ∧ (k = 1 → Q (.ref l) H) ∧ (k ≠ 1 → ∀ p, H p = none → Q (.ref p) (upd H p (.tup (List.replicate k.toNat xs).flatten)))
theorem op_times : OpR X (binaryOp .Mult) (rTimes X.K) := by
  intro pins s σ H x y v u Q I rx ry h
  obtain ⟨l, k, xs, rfl, rfl, hT, hne, h1, h2, hz, q1, q2⟩ := h
  by_cases hk : 2 ≤ k
  · exact op_repT pins s σ H _ _ v u Q I rx ry ⟨l, k, xs, rfl, rfl, hT, hne, hk, h2, hz, q2 (by omega)⟩
  · cases rx
    obtain ⟨t, rfl⟩ := ry
    obtain ⟨its, r, ⟨⟨cls, dd, data, sl⟩, ho, hc, n, hd⟩, hs⟩ := I.tuple hT
    simp only at hc hd
    subst hc hd
    have hle := r.length
    have hi : its.toArray.isEmpty = false := by
      cases its with
      | nil => exact absurd (List.eq_nil_of_length_eq_zero hle) hne
      | cons a b => rfl
    have c0 : (decide (k < -(2 ^ 63)) || decide (k ≥ 2 ^ 63)) = false := by simp; omega
    by_cases e1 : k = 1
    · subst e1
      exact wpAny_binaryOp_repeat_ref (T := "tuple") (U := "int") (by decide) ⟨_, ho, rfl⟩ (fun s' => typeIs_int s' 1 t) noFill_tuple_mul F.fills_int_mul F.slot_int_rmul repeat_tuple F.slot_int_index.lookup
        (call_meets F.slot_int_rmul (typeIs_int s 1 t) F.entry_int_rmul (F.args_int_rmul_2 _ _) (int_rmul_tuple 1 t l its.toArray n dd sl)
          ⟨ho, rfl, ⟨_, ho, rfl⟩, call_meets F.slot_tuple_mul ⟨_, ho, rfl⟩ F.entry_tuple_mul (F.args_tuple_mul_2 _ _) (tmul_same l its.toArray n dd sl 1 t c0 (by simp)) ⟨ho, ⟨.ref l, H, I, rfl, q1 rfl⟩⟩⟩)
    · have e0 : k = 0 := by omega
      subst e0
      have q3 := q2 (by decide) s.heap.objs.size (I.hok.fresh (Nat.le_refl _))
      exact wpAny_binaryOp_repeat_ref (T := "tuple") (U := "int") (by decide) ⟨_, ho, rfl⟩ (fun s' => typeIs_int s' 0 t) noFill_tuple_mul F.fills_int_mul F.slot_int_rmul repeat_tuple F.slot_int_index.lookup
        (call_meets F.slot_int_rmul (typeIs_int s 0 t) F.entry_int_rmul (F.args_int_rmul_2 _ _) (int_rmul_tuple 0 t l its.toArray n dd sl)
          ⟨ho, rfl, ⟨_, ho, rfl⟩, call_meets F.slot_tuple_mul ⟨_, ho, rfl⟩ F.entry_tuple_mul (F.args_tuple_mul_2 _ _) (tmul_none l its.toArray n dd sl 0 t c0 (by rw [hi]; rfl) rfl)
            ⟨ho, ⟨.ref s.heap.objs.size, _, I.laid (t' := s.toks) (o := .tup []) (fun b ob q => Heap.get?_push_of_some _ q) (Nat.le_refl _) ⟨Nat.zero_le _, [], .nil, IsTup.new _ _⟩, rfl, q3⟩⟩⟩)
theorem reps_times {H : Hp} {ds : List D} {xs : List V} : ∀ (n : Nat), Reps H ds xs → Reps H (List.replicate n ds).flatten (List.replicate n xs).flatten
  | 0, _ => rfl
  | n + 1, h => by
    rw [List.replicate_succ, List.replicate_succ, List.flatten_cons, List.flatten_cons]
    exact h.append (reps_times n h)
theorem u_times {Γ : List G} {a b : Expr} {pos : Pos} {ds : List D} {n : Nat} (hne : ds ≠ []) (hl : ds.length ≤ 1000) (hn : n ≤ 1000) (ha : U X a Γ (.tup ds)) (hb : U X b Γ (.int n)) : U X (.BinOp a .Mult b pos) Γ (.tup (List.replicate n ds).flatten) := by
  refine u_op (x := .tup ds) (y := .int n) op_times (fun H v u ⟨p, xs, h1, h2, h3⟩ hu Q q => ?_) ha hb
  refine ⟨p, n, xs, h1, hu, SqT.of h2, ?_, by omega, by omega, by rw [h3.length]; exact hl, fun e => ?_, fun e r hr => ?_⟩
  · intro e
    subst e
    exact hne (List.eq_nil_of_length_eq_zero h3.length.symm)
  · have : n = 1 := by omega
    subst this
    exact q _ H (Same.refl H) ⟨p, xs, rfl, h2, by simpa using h3⟩
  · rw [Int.toNat_natCast]
    refine q _ _ (Same.new hr) ⟨r, _, rfl, upd_same, ?_⟩
    exact reps_times n (h3.mono (Same.new hr))
end
end P6
namespace P6
open PySem PySem.Spec PyProof.Rows L2
/-! ### objects, calls, states -/
inductive Thing where
  | counter (m : Int) | register (m : Int) | stack (r m : Int) | queue (r m : Int) | set (m : Int) | agree (m : Int) | bank (as : List Int) | table (rows : List (List (Int × Int)))
def tI (ns : List Int) : D := .tup (ns.map .int)
def rowD (r : List (Int × Int)) : D := .tup (r.map fun p => tI [p.1, p.2])
def Thing.d : Thing → D
  | .counter m => .tup [.str "counter", .int m]
  | .register m => .tup [.str "register", .int m]
  | .stack r m => .tup [.str "stack", .int r, .int m]
  | .queue r m => .tup [.str "queue", .int r, .int m]
  | .set m => .tup [.str "set", .int m]
  | .agree m => .tup [.str "agree", .int m]
  | .bank as => .tup [.str "bank", tI as]
  | .table rows => .tup [.str "table", .tup (rows.map rowD)]
def Thing.ok : Thing → Prop
  | .counter m => 2 ≤ m ∧ m ≤ 5
  | .register m => 2 ≤ m ∧ m ≤ 5
  | .stack r m => (1 ≤ r ∧ r ≤ 3) ∧ 1 ≤ m ∧ m ≤ 3
  | .queue r m => (1 ≤ r ∧ r ≤ 3) ∧ 1 ≤ m ∧ m ≤ 3
  | .set m => 2 ≤ m ∧ m ≤ 5
  | .agree m => 2 ≤ m ∧ m ≤ 5
  | .bank as => (2 ≤ as.length ∧ as.length ≤ 3) ∧ ∀ a ∈ as, 0 ≤ a ∧ a ≤ 5
  | .table rows => (1 ≤ rows.length ∧ rows.length ≤ 6) ∧ ∃ w, (1 ≤ w ∧ w ≤ 4) ∧ ∀ r ∈ rows, r.length = w ∧ ∀ p ∈ r, (0 ≤ p.1 ∧ p.1 < rows.length) ∧ 0 ≤ p.2 ∧ p.2 ≤ 9
def c0 (w : Str) : D := .tup [.str w]
def c1 (w : Str) (k : Int) : D := .tup [.str w, .int k]
def c3 (w : Str) (a b k : Int) : D := .tup [.str w, .int a, .int b, .int k]
/-- a call of the object -/
inductive CallOk : Thing → D → Prop
  | cadd {m k} : 1 ≤ k → k < m → CallOk (.counter m) (c1 "add" k)
  | clook {m} : CallOk (.counter m) (c0 "look")
  | rlook {m} : CallOk (.register m) (c0 "look")
  | rput {m k} : 0 ≤ k → k < m → CallOk (.register m) (c1 "put" k)
  | rtrade {m k} : 0 ≤ k → k < m → CallOk (.register m) (c1 "trade" k)
  | spush {r m k} : 0 ≤ k → k < m → CallOk (.stack r m) (c1 "push" k)
  | spop {r m} : CallOk (.stack r m) (c0 "pop")
  | qenter {r m k} : 0 ≤ k → k < m → CallOk (.queue r m) (c1 "enter" k)
  | qleave {r m} : CallOk (.queue r m) (c0 "leave")
  | eadd {m k} : 0 ≤ k → k < m → CallOk (.set m) (c1 "add" k)
  | edrop {m k} : 0 ≤ k → k < m → CallOk (.set m) (c1 "drop" k)
  | ehas {m k} : 0 ≤ k → k < m → CallOk (.set m) (c1 "has" k)
  | adec {m k} : 0 ≤ k → k < m → CallOk (.agree m) (c1 "decide" k)
  | blook {as : List Int} {a : Nat} : a < as.length → CallOk (.bank as) (c1 "look" a)
  | bmove {as : List Int} {a b : Nat} {k : Int} : a < as.length → b < as.length → a ≠ b → 1 ≤ k → k ≤ 3 → CallOk (.bank as) (c3 "move" a b k)
  | tdo {rows : List (List (Int × Int))} {r : List (Int × Int)} {c : Nat} : rows[0]? = some r → c < r.length → CallOk (.table rows) (c1 "do" c)
/-- a state of the object (as far as is asked) -/
inductive StOk : Thing → D → Prop
  | c {m s} : StOk (.counter m) (.int s)
  | r {m s} : StOk (.register m) (.int s)
  | s {r m} {ns : List Int} : (ns.length : Int) ≤ r → StOk (.stack r m) (tI ns)
  | q {r m} {ns : List Int} : (ns.length : Int) ≤ r → StOk (.queue r m) (tI ns)
  | e {m} {ns : List Int} : ns.Pairwise (· < ·) → (∀ n ∈ ns, 0 ≤ n ∧ n < m) → StOk (.set m) (tI ns)
  | a0 {m} : StOk (.agree m) .non
  | a1 {m k} : StOk (.agree m) (.int k)
  | b {as ns : List Int} : ns.length = as.length → StOk (.bank as) (tI ns)
  | t {rows : List (List (Int × Int))} {s : Nat} : s < rows.length → StOk (.table rows) (.int s)
/-- what a call does: the state behind it, the answer -/
inductive App : Thing → D → D → D → D → Prop
  | cadd {m s k} : 0 < m → App (.counter m) (.int s) (c1 "add" k) (.int ((s + k) % m)) (.int s)
  | clook {m s} : App (.counter m) (.int s) (c0 "look") (.int s) (.int s)
  | rlook {m s} : App (.register m) (.int s) (c0 "look") (.int s) (.int s)
  | rput {m s k} : App (.register m) (.int s) (c1 "put" k) (.int k) .non
  | rtrade {m s k} : App (.register m) (.int s) (c1 "trade" k) (.int k) (.int s)
  | spushF {r m k} {ns : List Int} : (ns.length : Int) = r → App (.stack r m) (tI ns) (c1 "push" k) (tI ns) (.bl false)
  | spush {r m k} {ns : List Int} : (ns.length : Int) < r → r ≤ 3 → App (.stack r m) (tI ns) (c1 "push" k) (tI (ns ++ [k])) (.bl true)
  | spopE {r m} : App (.stack r m) (tI []) (c0 "pop") (tI []) .non
  | spop {r m k} {ns : List Int} : ns.length ≤ 3 → App (.stack r m) (tI (ns ++ [k])) (c0 "pop") (tI ns) (.int k)
  | qenterF {r m k} {ns : List Int} : (ns.length : Int) = r → App (.queue r m) (tI ns) (c1 "enter" k) (tI ns) (.bl false)
  | qenter {r m k} {ns : List Int} : (ns.length : Int) < r → r ≤ 3 → App (.queue r m) (tI ns) (c1 "enter" k) (tI (ns ++ [k])) (.bl true)
  | qleaveE {r m} : App (.queue r m) (tI []) (c0 "leave") (tI []) .non
  | qleave {r m k} {ns : List Int} : ns.length ≤ 3 → App (.queue r m) (tI (k :: ns)) (c0 "leave") (tI ns) (.int k)
  | eaddO {m k} {ns : List Int} : ns.length ≤ 5 → ns.Pairwise (· < ·) → k ∈ ns → App (.set m) (tI ns) (c1 "add" k) (tI ns) (.bl false)
  | eadd {m k} {ns ms : List Int} : ns.length ≤ 5 → ns.Pairwise (· < ·) → ¬ k ∈ ns → ms.Perm (ns ++ [k]) → ms.Pairwise (· ≤ ·) → App (.set m) (tI ns) (c1 "add" k) (tI ms) (.bl true)
  | edrop {m k} {ns : List Int} : ns.length ≤ 5 → ns.Pairwise (· < ·) → App (.set m) (tI ns) (c1 "drop" k) (tI (ns.filter fun n => decide (n ≠ k))) (.bl (decide (k ∈ ns)))
  | ehas {m k} {ns : List Int} : ns.length ≤ 5 → App (.set m) (tI ns) (c1 "has" k) (tI ns) (.bl (decide (k ∈ ns)))
  | adec0 {m k} : App (.agree m) .non (c1 "decide" k) (.int k) (.int k)
  | adec1 {m k s} : App (.agree m) (.int s) (c1 "decide" k) (.int s) (.int s)
  | blook {as ns : List Int} {a : Nat} {x : Int} : ns[a]? = some x → App (.bank as) (tI ns) (c1 "look" a) (tI ns) (.int x)
  | bmoveF {as ns : List Int} {a b : Nat} {k x : Int} : ns.length ≤ 3 → ns[a]? = some x → x < k → App (.bank as) (tI ns) (c3 "move" a b k) (tI ns) (.bl false)
  | bmove {as ns : List Int} {a b : Nat} {k x y : Int} : ns.length ≤ 3 → ns[a]? = some x → ns[b]? = some y → a ≠ b → k ≤ x → 1 ≤ k → k ≤ 3 → App (.bank as) (tI ns) (c3 "move" a b k) (tI ((ns.set a (x - k)).set b (y + k))) (.bl true)
  | tdo {rows : List (List (Int × Int))} {r : List (Int × Int)} {s c : Nat} {p : Int × Int} : rows[s]? = some r → r[c]? = some p → App (.table rows) (.int s) (c1 "do" c) (.int p.1) (.int p.2)
end P6
namespace P6
open PySem PySem.Spec PyProof.Rows L2
/-! ### shapes -/
def shN (n : Nat) (d : D) : Prop := (py d).canLay0 = true ∧ (py d).depth ≤ n
theorem shN.sh {n : Nat} {d : D} (h : shN n d) (hn : n ≤ 64) : sh d = true := by
  show ((py d).canLay0 && decide ((py d).depth ≤ 64)) = true
  rw [Bool.and_eq_true]
  exact ⟨h.1, decide_eq_true (by have := h.2; omega)⟩
theorem shN.mono {n m : Nat} {d : D} (h : shN n d) (hn : n ≤ m) : shN m d := ⟨h.1, Nat.le_trans h.2 hn⟩
def sOk (s : Str) : Bool := PyData.canLay0 (.str s)
theorem shN_int {n : Nat} {i : Int} : shN n (.int i) := ⟨rfl, Nat.zero_le _⟩
theorem shN_bl {n : Nat} {i : Bool} : shN n (.bl i) := ⟨rfl, Nat.zero_le _⟩
theorem shN_non {n : Nat} : shN n .non := ⟨rfl, Nat.zero_le _⟩
theorem shN_str {n : Nat} {s : Str} (h : sOk s = true) : shN n (.str s) := ⟨h, Nat.zero_le _⟩
theorem shNs {n : Nat} : ∀ {ds : List D}, (∀ d ∈ ds, shN n d) → PyData.canLayAll0 (pys ds) = true ∧ PyData.depthAll (pys ds) ≤ n
  | [], _ => ⟨rfl, Nat.zero_le _⟩
  | d :: ds, h => by
    obtain ⟨h1, h2⟩ := shNs (ds := ds) fun x hx => h x (List.mem_cons_of_mem _ hx)
    obtain ⟨h3, h4⟩ := h d List.mem_cons_self
    refine ⟨?_, ?_⟩
    · simp only [pys, PyData.canLayAll0, Bool.and_eq_true]
      exact ⟨h3, h1⟩
    · simp only [pys, PyData.depthAll]
      exact Nat.max_le.mpr ⟨h4, h2⟩
theorem shN_tup {n : Nat} {ds : List D} (h : ∀ d ∈ ds, shN n d) : shN (n + 1) (.tup ds) := by
  obtain ⟨h1, h2⟩ := shNs h
  exact ⟨by simp only [py, PyData.canLay0]; exact h1, by simp only [py, PyData.depth]; omega⟩
theorem shN_lst {n : Nat} {ds : List D} (h : ∀ d ∈ ds, shN n d) : shN (n + 1) (.lst ds) := by
  obtain ⟨h1, h2⟩ := shNs h
  exact ⟨by simp only [py, PyData.canLay0]; exact h1, by simp only [py, PyData.depth]; omega⟩
theorem shN_nil {n : Nat} : ∀ d ∈ ([] : List D), shN n d := fun _ h => nomatch h
theorem shN_cons {n : Nat} {d : D} {ds : List D} (h : shN n d) (t : ∀ d ∈ ds, shN n d) : ∀ x ∈ d :: ds, shN n x := fun x hx => by
  rcases List.mem_cons.mp hx with e | hx
  · rw [e]; exact h
  · exact t x hx
theorem shN_tI {ns : List Int} : shN 1 (tI ns) := shN_tup fun d hd => by
  obtain ⟨i, _, e⟩ := List.mem_map.mp hd
  rw [← e]
  exact shN_int
theorem noL_tI {ns : List Int} : noL (tI ns) = true := by
  show noLs _ = true
  exact noLs_iff.mpr fun d hd => by
    obtain ⟨i, _, e⟩ := List.mem_map.mp hd
    rw [← e]
    rfl
theorem shN_c0 {w : Str} (h : sOk w = true) : shN 1 (c0 w) := shN_tup (shN_cons (shN_str h) shN_nil)
theorem shN_c1 {w : Str} {k : Int} (h : sOk w = true) : shN 1 (c1 w k) := shN_tup (shN_cons (shN_str h) (shN_cons shN_int shN_nil))
theorem shN_c3 {w : Str} {a b k : Int} (h : sOk w = true) : shN 1 (c3 w a b k) := shN_tup (shN_cons (shN_str h) (shN_cons shN_int (shN_cons shN_int (shN_cons shN_int shN_nil))))
theorem CallOk.sh {t : Thing} {c : D} (h : CallOk t c) : shN 1 c := by
  cases h <;> first | exact shN_c0 (by decide +kernel) | exact shN_c1 (by decide +kernel) | exact shN_c3 (by decide +kernel)
theorem CallOk.noL {t : Thing} {c : D} (h : CallOk t c) : noL c = true := by
  cases h <;> rfl
theorem StOk.sh {t : Thing} {s : D} (h : StOk t s) : shN 1 s := by
  cases h <;> first | exact shN_int | exact shN_tI | exact shN_non
theorem StOk.noL {t : Thing} {s : D} (h : StOk t s) : noL s = true := by
  cases h <;> first | rfl | exact noL_tI
theorem App.ans {t : Thing} {s c s' a : D} (h : App t s c s' a) : shN 0 a ∧ P6.noL a = true := by
  cases h <;> first | exact ⟨shN_int, rfl⟩ | exact ⟨shN_bl, rfl⟩ | exact ⟨shN_non, rfl⟩
/-! ### what a call does is told for every state and call -/
theorem pairwise_len {m : Int} : ∀ {ns : List Int} {lo : Int}, ns.Pairwise (· < ·) → (∀ n ∈ ns, lo ≤ n ∧ n < m) → lo ≤ m → (ns.length : Int) ≤ m - lo
  | [], lo, _, _, h => by simp; omega
  | n :: ns, lo, hp, hb, hl => by
    obtain ⟨h1, h2⟩ := List.pairwise_cons.mp hp
    have hn := hb n List.mem_cons_self
    have ih := pairwise_len (m := m) (ns := ns) (lo := n + 1) h2 (fun x hx => ⟨by have := h1 x hx; omega, (hb x (List.mem_cons_of_mem _ hx)).2⟩) (by omega)
    rw [List.length_cons]
    omega
theorem ins_sorted (k : Int) : ∀ ns : List Int, ns.Pairwise (· < ·) → ¬ k ∈ ns → ∃ ms : List Int, ms.Perm (ns ++ [k]) ∧ ms.Pairwise (· < ·)
  | [], _, _ => ⟨[k], List.Perm.refl _, List.pairwise_singleton _ _⟩
  | n :: ns, hp, hk => by
    obtain ⟨h1, h2⟩ := List.pairwise_cons.mp hp
    by_cases h : k < n
    · refine ⟨k :: n :: ns, ?_, List.pairwise_cons.mpr ⟨fun x hx => ?_, hp⟩⟩
      · exact (List.perm_append_comm (l₁ := [k]) (l₂ := n :: ns))
      · rcases List.mem_cons.mp hx with e | hx
        · rw [e]; exact h
        · have := h1 x hx; omega
    · have hne : k ≠ n := fun e => hk (by rw [e]; exact List.mem_cons_self)
      obtain ⟨ms, p, s⟩ := ins_sorted k ns h2 fun hx => hk (List.mem_cons_of_mem _ hx)
      refine ⟨n :: ms, List.Perm.cons n p, List.pairwise_cons.mpr ⟨fun x hx => ?_, s⟩⟩
      rcases List.mem_append.mp (p.mem_iff.mp hx) with hx | hx
      · exact h1 x hx
      · have e : x = k := by simpa using hx
        omega
theorem app_all {t : Thing} {s c : D} (ht : t.ok) (hs : StOk t s) (hc : CallOk t c) : ∃ s' a, App t s c s' a ∧ StOk t s' := by
  cases hc with
  | cadd h1 h2 => cases hs with | c => exact ⟨_, _, .cadd (by have := ht.1; omega), .c⟩
  | clook => cases hs with | c => exact ⟨_, _, .clook, .c⟩
  | rlook => cases hs with | r => exact ⟨_, _, .rlook, .r⟩
  | rput h1 h2 => cases hs with | r => exact ⟨_, _, .rput, .r⟩
  | rtrade h1 h2 => cases hs with | r => exact ⟨_, _, .rtrade, .r⟩
  | @spush r m k h1 h2 =>
    cases hs with
    | @s _ _ ns hl =>
      by_cases e : (ns.length : Int) = r
      · exact ⟨_, _, .spushF e, .s hl⟩
      · exact ⟨_, _, .spush (by omega) ht.1.2, .s (by rw [List.length_append]; simp; omega)⟩
  | spop =>
    cases hs with
    | @s r m ns hl =>
      by_cases e : ns = []
      · subst e
        exact ⟨_, _, .spopE, .s hl⟩
      · have q := (List.dropLast_concat_getLast e).symm
        have hr := ht.1.2
        have l1 := List.length_dropLast (xs := ns)
        rw [q]
        exact ⟨_, _, .spop (by omega), .s (by omega)⟩
  | @qenter r m k h1 h2 =>
    cases hs with
    | @q _ _ ns hl =>
      by_cases e : (ns.length : Int) = r
      · exact ⟨_, _, .qenterF e, .q hl⟩
      · exact ⟨_, _, .qenter (by omega) ht.1.2, .q (by rw [List.length_append]; simp; omega)⟩
  | qleave =>
    cases hs with
    | @q r m ns hl =>
      have hr := ht.1.2
      cases ns with
      | nil => exact ⟨_, _, .qleaveE, .q hl⟩
      | cons n ns =>
        rw [List.length_cons] at hl
        exact ⟨_, _, .qleave (by omega), .q (by omega)⟩
  | @eadd m k h1 h2 =>
    cases hs with
    | @e _ ns hp hb =>
      have hl := pairwise_len hp hb (by omega)
      have hm := ht.2
      by_cases e : k ∈ ns
      · exact ⟨_, _, .eaddO (by omega) hp e, .e hp hb⟩
      · obtain ⟨ms, p, s⟩ := ins_sorted k ns hp e
        refine ⟨_, _, .eadd (by omega) hp e p (s.imp fun h => Int.le_of_lt h), .e s fun x hx => ?_⟩
        rcases List.mem_append.mp (p.mem_iff.mp hx) with hx | hx
        · exact hb x hx
        · have e : x = k := by simpa using hx
          omega
  | @edrop m k h1 h2 =>
    cases hs with
    | @e _ ns hp hb =>
      have hl := pairwise_len hp hb (by omega)
      have hm := ht.2
      exact ⟨_, _, .edrop (by omega) hp, .e (hp.sublist List.filter_sublist) fun x hx => hb x (List.mem_filter.mp hx).1⟩
  | @ehas m k h1 h2 =>
    cases hs with
    | @e _ ns hp hb =>
      have hl := pairwise_len hp hb (by omega)
      have hm := ht.2
      exact ⟨_, _, .ehas (by omega), .e hp hb⟩
  | adec h1 h2 =>
    cases hs with
    | a0 => exact ⟨_, _, .adec0, .a1⟩
    | a1 => exact ⟨_, _, .adec1, .a1⟩
  | @blook as a h1 =>
    cases hs with
    | @b _ ns hl => exact ⟨_, _, .blook (List.getElem?_eq_getElem (by omega)), .b hl⟩
  | @bmove as a b k h1 h2 h3 h4 h5 =>
    cases hs with
    | @b _ ns hl =>
      have l3 := ht.1.2
      have ea : ns[a]? = some ns[a] := List.getElem?_eq_getElem (by omega)
      have eb : ns[b]? = some ns[b] := List.getElem?_eq_getElem (by omega)
      by_cases q : ns[a] < k
      · exact ⟨_, _, .bmoveF (by omega) ea q, .b hl⟩
      · exact ⟨_, _, .bmove (by omega) ea eb h3 (by omega) h4 h5, .b (by rw [List.length_set, List.length_set]; exact hl)⟩
  | @tdo rows r c h1 h2 =>
    cases hs with
    | @t _ s hl =>
      obtain ⟨_, wd, _, h5⟩ := ht
      have er : rows[s]? = some rows[s] := List.getElem?_eq_getElem hl
      obtain ⟨l1, l2⟩ := h5 rows[s] (List.getElem_mem hl)
      have l3 := (h5 r (List.mem_of_getElem? h1)).1
      have ec : (rows[s])[c]? = some (rows[s])[c] := List.getElem?_eq_getElem (by omega)
      obtain ⟨⟨b1, b2⟩, _⟩ := l2 _ (List.mem_of_getElem? ec)
      obtain ⟨n, en⟩ := Int.eq_ofNat_of_zero_le b1
      refine ⟨_, _, .tdo er ec, ?_⟩
      rw [en]
      exact .t (by omega)
end P6
namespace P6
open PySem PySem.Spec PyProof.Rows L2 H6
section
variable {P : Program} {w : World} {K : PySem.W.Frag} {mg : Str → Option Value} {base : Heap}
theorem bs_of (S : Ctx K mg) : Bs mg := ⟨b_len S, b_isinstance S, b_int S, b_bool S, b_str S, b_tuple S, b_list S, b_all S, b_range S, b_sorted S⟩
theorem kb_ii : kitB "int" "int" = some true := by decide +kernel
theorem kb_ib : kitB "int" "bool" = some false := by decide +kernel
theorem kb_tt : kitB "tuple" "tuple" = some true := by decide +kernel
theorem kb_ss : kitB "str" "str" = some true := by decide +kernel
/-! ### is_small -/
def rSmall (ds : List D) (d : D) : Prop := ∃ i lo hi : Int, ds = [.int i, .int lo, .int hi] ∧ (lo ≤ i ∧ i ≤ hi) ∧ d = .bl true
theorem cal_is_small (S : Ctx K mg) : Cal P w K mg base "is_small" p_is_small 1 (spP rSmall) := by
  obtain ⟨fd, F⟩ := F_is_small S
  have Bt := bs_of S
  refine ⟨_, fd, fn_pure F sc_is_small ?_ ?_, g_is_small S, F.kp, bd_is_small F⟩
  · rintro ds d ⟨i, lo, hi, rfl, _⟩
    rfl
  · rintro cdv A outer s H E hr ds d ⟨i, lo, hi, rfl, ⟨h1, h2⟩, rfl⟩
    have e : (decide (lo ≤ i) && decide (i ≤ hi)) = true := by simp [h1, h2]
    refine .inl (b_ret (u_and (u_isi Bt Bt.int boot_int (u_var 0 rfl) kb_ii) (u_and (u_notF (u_isi Bt Bt.bool boot_bool (u_var 0 rfl) kb_ib)) (u_one ?_))))
    rw [← e]
    exact u_le2 (u_var 1 rfl) (u_var 0 rfl) (u_var 2 rfl)
theorem le2_true {i j k : Int} (h1 : i ≤ j) (h2 : j ≤ k) : D.bl (decide (i ≤ j) && decide (j ≤ k)) = .bl true := by simp [h1, h2]
theorem lenI {α : Type} {l : List α} {n : Nat} (h : l.length = n) : ((l.length : Nat) : Int) = n := by rw [h]
/-! ### is_bank -/
def rBank (ds : List D) (d : D) : Prop := ∃ as : List Int, ds = [tI as] ∧ ((2 ≤ as.length ∧ as.length ≤ 3) ∧ ∀ a ∈ as, 0 ≤ a ∧ a ≤ 5) ∧ d = .bl true
theorem tI_get {ns : List Int} {j : Nat} {d : D} (h : (ns.map D.int)[j]? = some d) : ∃ n, n ∈ ns ∧ d = .int n := by
  rw [List.getElem?_map] at h
  cases q : ns[j]? with
  | none => rw [q] at h; cases h
  | some n =>
    rw [q] at h
    cases h
    exact ⟨n, List.mem_of_getElem? q, rfl⟩
theorem cal_is_bank (S : Ctx K mg) : Cal P w K mg base "is_bank" p_is_bank 2 (spP rBank) := by
  obtain ⟨fd, F⟩ := F_is_bank S
  have Bt := bs_of S
  refine ⟨_, fd, fn_pure F sc_is_bank ?_ ?_, g_is_bank S, F.kp, bd_is_bank F⟩
  · rintro ds d ⟨as, rfl, _⟩
    rfl
  · rintro cdv A outer s H E hr ds d ⟨as, rfl, ⟨⟨h1, h2⟩, h3⟩, rfl⟩
    refine .inl (b_ret (u_and (u_isi Bt Bt.tuple boot_tuple (u_var 0 rfl) kb_tt) (u_and (u_is (u_le2 u_int (u_len Bt (u_var 0 rfl)) u_int) (le2_true (by rw [List.length_map]; omega) (by rw [List.length_map]; omega))) (u_one
      (u_allC (i := 1) Bt sc_is_bank.nd (ui_tup (u_var 0 rfl)) (blkOk_by (N := n_is_bank) (sc := defScope s_is_bank) (by decide +kernel)) (by rw [List.length_map, sizeLine_eq]; omega) fun j d hd s' H' C cl fp => ?_)))))
    obtain ⟨n, hn, rfl⟩ := tI_get hd
    exact u_call (cal_is_small S) hr (ua_cons (u_var 1 rfl) (ua_cons u_int (ua_cons u_int ua_nil))) ⟨n, 0, 5, rfl, h3 n hn, rfl⟩
/-! ### is_table -/
def rTable (ds : List D) (d : D) : Prop := ∃ rows : List (List (Int × Int)), ds = [.tup (rows.map rowD)] ∧ Thing.ok (.table rows) ∧ d = .bl true
theorem not_le2 {i j k : Int} (h1 : i ≤ j) (h2 : j ≤ k) : (decide (i ≤ j) && decide (j ≤ k)) = true := by simp [h1, h2]
theorem map_get {α : Type} {f : α → D} {l : List α} {j : Nat} {d : D} (h : (l.map f)[j]? = some d) : ∃ x, l[j]? = some x ∧ x ∈ l ∧ d = f x := by
  rw [List.getElem?_map] at h
  cases q : l[j]? with
  | none => rw [q] at h; cases h
  | some n =>
    rw [q] at h
    cases h
    exact ⟨n, rfl, List.mem_of_getElem? q, rfl⟩
theorem atI_0 {α : Type} {x : α} {l : List α} : atI (x :: l) 0 = some x := atI_nat (j := 0) rfl
theorem cal_is_table (S : Ctx K mg) : Cal P w K mg base "is_table" p_is_table 2 (spP rTable) := by
  obtain ⟨fd, F⟩ := F_is_table S
  have Bt := bs_of S
  refine ⟨_, fd, fn_pure F sc_is_table ?_ ?_, g_is_table S, F.kp, bd_is_table F⟩
  · rintro ds d ⟨as, rfl, _⟩
    rfl
  · rintro cdv A outer s H E hr ds d ⟨rows, rfl, ⟨⟨h1, h2⟩, wd, ⟨h3, h4⟩, h5⟩, rfl⟩
    obtain ⟨r0, rr, er⟩ : ∃ r0 rr, rows = r0 :: rr := by
      cases rows with
      | nil => simp at h1
      | cons a b => exact ⟨a, b, rfl⟩
    have l0 : r0.length = wd := (h5 r0 (by rw [er]; exact List.mem_cons_self)).1
    have a0 : atI (rows.map rowD) 0 = some (rowD r0) := by rw [er]; exact atI_0
    let Rw : D := .tup (rows.map rowD)
    refine .inl (b_ifF (t_w (w_or (t_notT (t_val (u_isi Bt Bt.tuple boot_tuple (u_var 0 rfl) kb_tt))) (w_or1 (t_notT ((t_ge1 (by rw [List.length_map]; omega) u_int (u_len Bt (u_var 0 rfl)) u_int)))))) ?_)
    refine b_for 1 (fun j => [.d Rw, if j = 0 then .un else .d (rowD (rows.getD (j - 1) [])), if j = 0 then .un else .d (tI (let p := (rows.getD (j - 1) []).getD (wd - 1) (0, 0); [p.1, p.2]))]) rfl sc_is_table.nd (ui_tup (u_var 0 rfl)) (fun j d hd => ?_) (b_ret u_bl) PassesOwn.never
    obtain ⟨r, hj, hr', rfl⟩ := map_get hd
    obtain ⟨lr, pr⟩ := h5 r hr'
    have gj : rows.getD j [] = r := by rw [List.getD_eq_getElem?_getD, hj]; rfl
    refine b_ifF (t_w (w_or (t_notT (t_val (u_isi Bt Bt.tuple boot_tuple (u_var 1 rfl) kb_tt))) (w_or1 (t_notT ((t_ge1 (by rw [List.length_map]; omega) u_int (u_len Bt (u_var 1 rfl)) u_int)))))) ?_
    refine b_ifF (t_w (w_or (t_notT (t_val (u_isi Bt Bt.tuple boot_tuple (u_ixT (u_var 0 rfl) u_int a0) kb_tt))) (w_or1 (t_is (t_ne (u_len Bt (u_var 1 rfl)) (u_len Bt (u_ixT (u_var 0 rfl) u_int a0))) ?_)))) ?_
    · show (!decide (((r.map fun p => tI [p.1, p.2]).length : Int) = ((r0.map fun p => tI [p.1, p.2]).length : Int))) = false
      rw [List.length_map, List.length_map, lr, l0]
      simp
    · refine b_for 2 (fun i => [.d Rw, .d (rowD r), if i = 0 then (if j = 0 then .un else .d (tI (let p := (rows.getD (j - 1) []).getD (wd - 1) (0, 0); [p.1, p.2]))) else .d (tI (let p := r.getD (i - 1) (0, 0); [p.1, p.2]))]) rfl sc_is_table.nd (ui_tup (u_var 1 rfl)) (fun i d hd => ?_) ?_ PassesOwn.never
      · obtain ⟨q, hi, hq, rfl⟩ := map_get hd
        obtain ⟨⟨q1, q2⟩, q3, q4⟩ := pr q hq
        have gi : r.getD i (0, 0) = q := by rw [List.getD_eq_getElem?_getD, hi]; rfl
        refine b_ifF (t_w (w_or (t_notT (t_val (u_isi Bt Bt.tuple boot_tuple (u_var 2 rfl) kb_tt))) (w_or (t_ne (k := true) (u_len Bt (u_var 2 rfl)) u_int rfl) (w_or1 (t_notT (t_val (u_call (cal_is_small S) hr (ua_cons (u_ixT (u_var 2 rfl) u_int) (ua_cons u_int (ua_cons (u_sub (u_len Bt (u_var 0 rfl)) u_int) ua_nil))) ⟨q.1, 0, _, rfl, ⟨q1, by rw [List.length_map]; omega⟩, rfl⟩))))))) ?_
        refine b_ifF (t_notT (t_val (u_call (cal_is_small S) hr (ua_cons (u_ixT (u_var 2 rfl) u_int) (ua_cons u_int (ua_cons u_int ua_nil))) ⟨q.2, 0, 9, rfl, ⟨q3, q4⟩, rfl⟩))) ?_
        show B _ [] [.d Rw, .d (rowD r), .d (tI [q.1, q.2])] (.nx [.d Rw, .d (rowD r), .d (tI (let p := r.getD i (0, 0); [p.1, p.2]))])
        rw [gi]
        exact b_nil
      · show B _ [] [.d Rw, .d (rowD r), if (r.map fun p => tI [p.1, p.2]).length = 0 then _ else .d (tI (let p := r.getD ((r.map fun p => tI [p.1, p.2]).length - 1) (0, 0); [p.1, p.2]))] (.nx [.d Rw, .d (rowD (rows.getD j [])), .d (tI (let p := (rows.getD j []).getD (wd - 1) (0, 0); [p.1, p.2]))])
        rw [gj, List.length_map, lr, if_neg (by omega)]
        exact b_nil
end
end P6
namespace P6
open PySem PySem.Spec PyProof.Rows L2 H6
section
variable {P : Program} {w : World} {K : PySem.W.Frag} {mg : Str → Option Value} {base : Heap}
/-! ### is_kind -/
def rKind (ds : List D) (d : D) : Prop := ∃ t : Thing, ds = [t.d] ∧ t.ok ∧ d = .bl true
theorem u_eqL {X : Cx} {Γ : List G} {a : Expr} {ds : List D} {pos p p2 : Pos} {k : Nat} {n : Int} (Bt : Bs X.mg) (h : U X a Γ (.tup ds)) (e : (ds.length : Int) = n) (hg : Gl X "len" := by rfl) (hs : starEach [a] X.env = (false, eval a X.env) :: starEach [] X.env := by rfl) : U X (.Compare (.Call (.Name "len" p) [a] [] p2) [.Eq] [.Constant (.int n) k pos] pos) Γ (.bl true) :=
  u_eq (u_len Bt h hg hs) u_int (by rw [e]; simp [eqS])
theorem cal_is_kind (S : Ctx K mg) : Cal P w K mg base "is_kind" p_is_kind 3 (spP rKind) := by
  obtain ⟨fd, F⟩ := F_is_kind S
  have Bt := bs_of S
  obtain ⟨t5, m5⟩ := i_MOST_VALUES S
  obtain ⟨t3, m3⟩ := i_MOST_ROOM S
  refine ⟨_, fd, fn_pure F sc_is_kind ?_ ?_, g_is_kind S, F.kp, bd_is_kind F⟩
  · rintro ds d ⟨as, rfl, _⟩
    rfl
  · rintro cdv A outer s H E hr ds d ⟨t, rfl, ht, rfl⟩
    refine .inl ?_
    have hr1 : Room 1 _ := hr.mono (by decide)
    have pre : ∀ (nm : Str) (x : D) (xs : List D), t.d = .tup (.str nm :: x :: xs) → B (cX P w K mg base n_is_kind "is_kind" (defScope s_is_kind) (He.ga K "is_kind") cdv A outer s H E) ((defBody s_is_kind).drop 2) [.d (.tup (.str nm :: x :: xs)), .d (.str nm)] (.ret (.bl true)) →
        B (cX P w K mg base n_is_kind "is_kind" (defScope s_is_kind) (He.ga K "is_kind") cdv A outer s H E) (defBody s_is_kind) [.d t.d, .un] (.ret (.bl true)) := by
      intro nm x xs e h
      rw [e]
      refine b_ifF (t_w (w_or (t_notT (t_val (u_isi Bt Bt.tuple boot_tuple (u_var 0 rfl) kb_tt))) (w_or (t_is (t_lt (u_len Bt (u_var 0 rfl)) u_int) (decide_eq_false (by simp only [List.length_cons]; omega))) (w_or1 (t_notT (t_val (u_isi Bt Bt.str boot_str (u_ixT (u_var 0 rfl) u_int atI_0) kb_ss))))))) ?_
      exact b_set 1 sc_is_kind.nd (u_ixT (u_var 0 rfl) u_int atI_0) h
    cases t with
    | counter m => exact pre _ _ _ rfl (b_ifT (t_inT (u_var 1 rfl) (u_tup (ua_cons u_str (ua_cons u_str (ua_cons u_str (ua_cons u_str ua_nil)))))) (b_ret (u_and (u_eq (u_len Bt (u_var 0 rfl)) u_int) (u_one (u_call (cal_is_small S) hr1 (ua_cons (u_ixT (u_var 0 rfl) u_int) (ua_cons u_int (ua_cons (u_globI m5) ua_nil))) ⟨m, 2, 5, rfl, ht, rfl⟩)))))
    | register m => exact pre _ _ _ rfl (b_ifT (t_inT (u_var 1 rfl) (u_tup (ua_cons u_str (ua_cons u_str (ua_cons u_str (ua_cons u_str ua_nil)))))) (b_ret (u_and (u_eq (u_len Bt (u_var 0 rfl)) u_int) (u_one (u_call (cal_is_small S) hr1 (ua_cons (u_ixT (u_var 0 rfl) u_int) (ua_cons u_int (ua_cons (u_globI m5) ua_nil))) ⟨m, 2, 5, rfl, ht, rfl⟩)))))
    | set m => exact pre _ _ _ rfl (b_ifT (t_inT (u_var 1 rfl) (u_tup (ua_cons u_str (ua_cons u_str (ua_cons u_str (ua_cons u_str ua_nil)))))) (b_ret (u_and (u_eq (u_len Bt (u_var 0 rfl)) u_int) (u_one (u_call (cal_is_small S) hr1 (ua_cons (u_ixT (u_var 0 rfl) u_int) (ua_cons u_int (ua_cons (u_globI m5) ua_nil))) ⟨m, 2, 5, rfl, ht, rfl⟩)))))
    | agree m => exact pre _ _ _ rfl (b_ifT (t_inT (u_var 1 rfl) (u_tup (ua_cons u_str (ua_cons u_str (ua_cons u_str (ua_cons u_str ua_nil)))))) (b_ret (u_and (u_eq (u_len Bt (u_var 0 rfl)) u_int) (u_one (u_call (cal_is_small S) hr1 (ua_cons (u_ixT (u_var 0 rfl) u_int) (ua_cons u_int (ua_cons (u_globI m5) ua_nil))) ⟨m, 2, 5, rfl, ht, rfl⟩)))))
    | stack r m => exact pre _ _ _ rfl (b_ifF (t_inT (u_var 1 rfl) (u_tup (ua_cons u_str (ua_cons u_str (ua_cons u_str (ua_cons u_str ua_nil)))))) (b_ifT (t_inT (u_var 1 rfl) (u_tup (ua_cons u_str (ua_cons u_str ua_nil)))) (b_ret (u_and (u_eq (u_len Bt (u_var 0 rfl)) u_int)
        (u_and (u_call (cal_is_small S) hr1 (ua_cons (u_ixT (u_var 0 rfl) u_int) (ua_cons u_int (ua_cons (u_globI m3) ua_nil))) ⟨r, 1, 3, rfl, ht.1, rfl⟩) (u_one (u_call (cal_is_small S) hr1 (ua_cons (u_ixT (u_var 0 rfl) u_int) (ua_cons u_int (ua_cons (u_globI m3) ua_nil))) ⟨m, 1, 3, rfl, ht.2, rfl⟩)))))))
    | queue r m => exact pre _ _ _ rfl (b_ifF (t_inT (u_var 1 rfl) (u_tup (ua_cons u_str (ua_cons u_str (ua_cons u_str (ua_cons u_str ua_nil)))))) (b_ifT (t_inT (u_var 1 rfl) (u_tup (ua_cons u_str (ua_cons u_str ua_nil)))) (b_ret (u_and (u_eq (u_len Bt (u_var 0 rfl)) u_int)
        (u_and (u_call (cal_is_small S) hr1 (ua_cons (u_ixT (u_var 0 rfl) u_int) (ua_cons u_int (ua_cons (u_globI m3) ua_nil))) ⟨r, 1, 3, rfl, ht.1, rfl⟩) (u_one (u_call (cal_is_small S) hr1 (ua_cons (u_ixT (u_var 0 rfl) u_int) (ua_cons u_int (ua_cons (u_globI m3) ua_nil))) ⟨m, 1, 3, rfl, ht.2, rfl⟩)))))))
    | bank as => exact pre _ _ _ rfl (b_ifF (t_inT (u_var 1 rfl) (u_tup (ua_cons u_str (ua_cons u_str (ua_cons u_str (ua_cons u_str ua_nil)))))) (b_ifF (t_inT (u_var 1 rfl) (u_tup (ua_cons u_str (ua_cons u_str ua_nil)))) (b_ifT (t_eq (u_var 1 rfl) u_str) (b_ret (u_and (u_eq (u_len Bt (u_var 0 rfl)) u_int)
        (u_one (u_call (cal_is_bank S) hr (ua_cons (u_ixT (u_var 0 rfl) u_int) ua_nil) ⟨as, rfl, ht, rfl⟩)))))))
    | table rows => exact pre _ _ _ rfl (b_ifF (t_inT (u_var 1 rfl) (u_tup (ua_cons u_str (ua_cons u_str (ua_cons u_str (ua_cons u_str ua_nil)))))) (b_ifF (t_inT (u_var 1 rfl) (u_tup (ua_cons u_str (ua_cons u_str ua_nil)))) (b_ifF (t_eq (u_var 1 rfl) u_str) (b_ret (u_and (u_eq (u_var 1 rfl) u_str) (u_and (u_eq (u_len Bt (u_var 0 rfl)) u_int)
        (u_one (u_call (cal_is_table S) hr (ua_cons (u_ixT (u_var 0 rfl) u_int) ua_nil) ⟨rows, rfl, ht, rfl⟩))))))))
/-! ### need_object -/
def rNeedO (ds : List D) (d : D) : Prop := ∃ t : Thing, ds = [t.d] ∧ t.ok ∧ d = .non
theorem cal_need_object (S : Ctx K mg) : Cal P w K mg base "need_object" p_need_object 4 (spP rNeedO) := by
  obtain ⟨fd, F⟩ := F_need_object S
  refine ⟨_, fd, fn_pure F sc_need_object ?_ ?_, g_need_object S, F.kp, bd_need_object F⟩
  · rintro ds d ⟨as, rfl, _⟩
    rfl
  · rintro cdv A outer s H E hr ds d ⟨t, rfl, ht, rfl⟩
    exact .inr ⟨rfl, _, b_ifF (t_notT (t_val (u_call (cal_is_kind S) hr (ua_cons (u_var 0 rfl) ua_nil) ⟨t, rfl, ht, rfl⟩))) b_nil⟩
/-! ### first_in -/
def firstD : Thing → D
  | .counter _ => .int 0
  | .register _ => .int 0
  | .stack _ _ => tI []
  | .queue _ _ => tI []
  | .set _ => tI []
  | .agree _ => .non
  | .bank as => tI as
  | .table _ => .int 0
def rFirst (ds : List D) (d : D) : Prop := ∃ t : Thing, ds = [t.d] ∧ d = firstD t
theorem cal_first_in (S : Ctx K mg) : Cal P w K mg base "first_in" p_first_in 1 (spP rFirst) := by
  obtain ⟨fd, F⟩ := F_first_in S
  refine ⟨_, fd, fn_pure F sc_first_in ?_ ?_, g_first_in S, F.kp, bd_first_in F⟩
  · rintro ds d ⟨as, rfl, _⟩
    rfl
  · rintro cdv A outer s H E hr ds d ⟨t, rfl, rfl⟩
    refine .inl ?_
    cases t with
    | counter m => exact b_set 1 sc_first_in.nd (u_ixT (u_var 0 rfl) u_int) (b_ifT (t_inT (u_var 1 rfl) (u_tup (ua_cons u_str (ua_cons u_str (ua_cons u_str ua_nil))))) (b_ret u_int))
    | register m => exact b_set 1 sc_first_in.nd (u_ixT (u_var 0 rfl) u_int) (b_ifT (t_inT (u_var 1 rfl) (u_tup (ua_cons u_str (ua_cons u_str (ua_cons u_str ua_nil))))) (b_ret u_int))
    | table m => exact b_set 1 sc_first_in.nd (u_ixT (u_var 0 rfl) u_int) (b_ifT (t_inT (u_var 1 rfl) (u_tup (ua_cons u_str (ua_cons u_str (ua_cons u_str ua_nil))))) (b_ret u_int))
    | agree m => exact b_set 1 sc_first_in.nd (u_ixT (u_var 0 rfl) u_int) (b_ifF (t_inT (u_var 1 rfl) (u_tup (ua_cons u_str (ua_cons u_str (ua_cons u_str ua_nil))))) (b_ifT (t_eq (u_var 1 rfl) u_str) (b_ret u_non)))
    | bank as => exact b_set 1 sc_first_in.nd (u_ixT (u_var 0 rfl) u_int) (b_ifF (t_inT (u_var 1 rfl) (u_tup (ua_cons u_str (ua_cons u_str (ua_cons u_str ua_nil))))) (b_ifF (t_eq (u_var 1 rfl) u_str) (b_ret (u_ifT (t_eq (u_var 1 rfl) u_str) (u_ixT (u_var 0 rfl) u_int)))))
    | stack r m => exact b_set 1 sc_first_in.nd (u_ixT (u_var 0 rfl) u_int) (b_ifF (t_inT (u_var 1 rfl) (u_tup (ua_cons u_str (ua_cons u_str (ua_cons u_str ua_nil))))) (b_ifF (t_eq (u_var 1 rfl) u_str) (b_ret (u_ifF (t_eq (u_var 1 rfl) u_str) (u_tup ua_nil)))))
    | queue r m => exact b_set 1 sc_first_in.nd (u_ixT (u_var 0 rfl) u_int) (b_ifF (t_inT (u_var 1 rfl) (u_tup (ua_cons u_str (ua_cons u_str (ua_cons u_str ua_nil))))) (b_ifF (t_eq (u_var 1 rfl) u_str) (b_ret (u_ifF (t_eq (u_var 1 rfl) u_str) (u_tup ua_nil)))))
    | set m => exact b_set 1 sc_first_in.nd (u_ixT (u_var 0 rfl) u_int) (b_ifF (t_inT (u_var 1 rfl) (u_tup (ua_cons u_str (ua_cons u_str (ua_cons u_str ua_nil))))) (b_ifF (t_eq (u_var 1 rfl) u_str) (b_ret (u_ifF (t_eq (u_var 1 rfl) u_str) (u_tup ua_nil)))))
end
end P6
namespace P6
open PySem PySem.Spec PyProof.Rows L2 H6
section
variable {P : Program} {w : World} {K : PySem.W.Frag} {mg : Str → Option Value} {base : Heap}
/-! ### bank_calls -/
def cd1 (w : Str) (d : D) : D := .tup [.str w, d]
def mv (a b : Nat) : List D := [c3 "move" a b 1, c3 "move" a b 2, c3 "move" a b 3]
def blkI (a j : Nat) : List D := ((List.range j).map fun b => if a = b then [] else mv a b).flatten
def blkO (n i : Nat) : List D := ((List.range i).map fun a => blkI a n).flatten
def bankD (n : Nat) : List D := (rgD 0 n).map (cd1 "look") ++ blkO n n
theorem blkI_succ (a j : Nat) : blkI a (j + 1) = blkI a j ++ (if a = j then [] else mv a j) := by
  unfold blkI
  rw [List.range_succ, List.map_append, List.flatten_append]
  simp
theorem blkO_succ (n i : Nat) : blkO n (i + 1) = blkO n i ++ blkI i n := by
  unfold blkO
  rw [List.range_succ, List.map_append, List.flatten_append]
  simp
theorem blkI_len (a : Nat) : ∀ j, (blkI a j).length ≤ 3 * j
  | 0 => by simp [blkI]
  | j + 1 => by
    have h := blkI_len a j
    rw [blkI_succ, List.length_append]
    split
    · simp; omega
    · simp [mv]; omega
theorem blkO_len (n : Nat) : ∀ i, (blkO n i).length ≤ 3 * n * i
  | 0 => by simp [blkO]
  | i + 1 => by
    have h := blkO_len n i
    have h2 := blkI_len i n
    rw [blkO_succ, List.length_append, Nat.mul_add]
    omega
def rBankCalls (ds : List D) (d : D) : Prop := ∃ n : Nat, ds = [.int n] ∧ n ≤ 3 ∧ d = .lst (bankD n)
theorem cal_bank_calls (S : Ctx K mg) : Cal P w K mg base "bank_calls" p_bank_calls 1 (spP rBankCalls) := by
  obtain ⟨fd, F⟩ := F_bank_calls S
  have Bt := bs_of S
  refine ⟨_, fd, fn_pure F sc_bank_calls ?_ ?_, g_bank_calls S, F.kp, bd_bank_calls F⟩
  · rintro ds d ⟨as, rfl, _⟩
    rfl
  · rintro cdv A outer s H E hr ds d ⟨n, rfl, hn, rfl⟩
    refine .inl ?_
    have hz : n < 2 ^ 62 := by omega
    refine b_newC 1 sc_bank_calls.nd (uf_lcM (i := 2) (cd1 "look") sc_bank_calls.nd (ui_rng1 Bt (u_var 0 rfl) hz) (blkOk_by (N := n_bank_calls) (sc := defScope s_bank_calls) (by decide +kernel)) (by rw [rgD_len]; exact small_lt (by omega)) (fun d hd => by obtain ⟨i, _, e⟩ := rgD_mem hd; rw [e]; rfl)
      fun d hd s' H' C cl fp => u_tup (ua_cons u_str (ua_cons (u_var 2 rfl) ua_nil))) (noLs_iff.mpr fun y hy => by
        obtain ⟨d, h1, h2⟩ := List.mem_map.mp hy
        obtain ⟨i, _, e⟩ := rgD_mem h1
        rw [← h2, e]
        rfl) ?_ (sw_true rfl rfl rfl (by decide +kernel)) (by exact (by decide : 1 < 6))
    have l0 : ((rgD 0 n).map (cd1 "look")).length = n := by rw [List.length_map, rgD_len]
    refine bm_for 3 (by decide) (fun _ => [.d (.int n), .un, .un, .un, .un, .un]) (fun i => (rgD 0 n).map (cd1 "look") ++ blkO n i) rfl (by simp [blkO]) sc_bank_calls.nd (ur_rng1 Bt (u_var 0 rfl) hz) rgD_noL (fun i d hd => ?_) ?_ PassesOwn.never
    · obtain ⟨hi, rfl⟩ := rgD_at hd
      rw [Int.zero_add]
      refine bm_for 4 (by decide) (fun _ => [.d (.int n), .un, .un, .d (.int i), .un, .un]) (fun j => (rgD 0 n).map (cd1 "look") ++ blkO n i ++ blkI i j) rfl (by simp [blkI]) sc_bank_calls.nd (ur_rng1 Bt (u_var 0 rfl) hz) rgD_noL (fun j d hd => ?_) ?_ PassesOwn.never
      · obtain ⟨hj, rfl⟩ := rgD_at hd
        rw [Int.zero_add]
        by_cases e : i = j
        · subst e
          refine bm_ifF (t_is (t_ne (u_var 3 rfl) (u_var 4 rfl) rfl) (by simp)) ?_
          rw [blkI_succ, if_pos rfl, List.append_nil]
          exact bm_nilF [4]
        · refine bm_ifTN (t_is (t_ne (u_var 3 rfl) (u_var 4 rfl) rfl) (by simp; omega)) (bm_extend (ul_of (uf_lc (i := 5) (mv i j) sc_bank_calls.nd (ui_tup (u_tup (ua_cons u_int (ua_cons u_int (ua_cons u_int ua_nil))))) (blkOk_by (N := n_bank_calls) (sc := defScope s_bank_calls) (by decide +kernel)) rfl (by decide +kernel) rfl ?_) rfl) rfl ?_ bm_nil) ?_
          · intro k d y h1 h2 s' H' C cl fp
            match k, h1, h2 with
            | 0, h1, h2 => cases h1; cases h2; exact u_tup (ua_cons u_str (ua_cons (u_var 3 rfl) (ua_cons (u_var 4 rfl) (ua_cons (u_var 5 rfl) ua_nil))))
            | 1, h1, h2 => cases h1; cases h2; exact u_tup (ua_cons u_str (ua_cons (u_var 3 rfl) (ua_cons (u_var 4 rfl) (ua_cons (u_var 5 rfl) ua_nil))))
            | 2, h1, h2 => cases h1; cases h2; exact u_tup (ua_cons u_str (ua_cons (u_var 3 rfl) (ua_cons (u_var 4 rfl) (ua_cons (u_var 5 rfl) ua_nil))))
            | k + 3, h1, h2 => simp at h1
          · have h1 := blkO_len n i
            have h2 := blkI_len i j
            have h3 : 3 * n * i ≤ 9 * 3 := Nat.mul_le_mul (by omega) (by omega)
            rw [List.length_append, List.length_append, l0]
            exact Nat.le_of_lt (small_lt (by simp [mv]; omega))
          · rw [blkI_succ, if_neg e, ← List.append_assoc]
            exact bm_nilF [4]
      · rw [rgD_len]
        show BM 1 _ [] _ _ _
        rw [blkO_succ, ← List.append_assoc]
        exact bm_nilF [3]
    · rw [rgD_len]
      exact bm_ret (u_var 1 rfl)
end
end P6
namespace P6
open PySem PySem.Spec PyProof.Rows L2 H6
section
variable {P : Program} {w : World} {K : PySem.W.Frag} {mg : Str → Option Value} {base : Heap}
/-! ### calls_in -/
def callsD : Thing → List D
  | .counter m => (rgD 1 (m - 1).toNat).map (cd1 "add") ++ [c0 "look"]
  | .register m => ([c0 "look"] ++ (rgD 0 m.toNat).map (cd1 "put")) ++ (rgD 0 m.toNat).map (cd1 "trade")
  | .stack _ m => (rgD 0 m.toNat).map (cd1 "push") ++ [c0 "pop"]
  | .queue _ m => (rgD 0 m.toNat).map (cd1 "enter") ++ [c0 "leave"]
  | .set m => [(rgD 0 m.toNat).map (cd1 "add"), (rgD 0 m.toNat).map (cd1 "drop"), (rgD 0 m.toNat).map (cd1 "has")].flatten
  | .agree m => (rgD 0 m.toNat).map (cd1 "decide")
  | .bank as => bankD as.length
  | .table rows => (rgD 0 (rows.headD []).length).map (cd1 "do")
def rCallsIn (ds : List D) (d : D) : Prop := ∃ t : Thing, ds = [t.d] ∧ t.ok ∧ d = .lst (callsD t)
theorem rgD_noL1 {lo : Int} {n : Nat} {w : Str} : ∀ d ∈ rgD lo n, noL (cd1 w d) = true := fun d h => by
  obtain ⟨i, _, e⟩ := rgD_mem h
  rw [e]
  rfl
theorem rgD_noLs {lo : Int} {n : Nat} {w : Str} : noLs ((rgD lo n).map (cd1 w)) = true := noLs_iff.mpr fun y hy => by
  obtain ⟨d, h1, h2⟩ := List.mem_map.mp hy
  rw [← h2]
  exact rgD_noL1 d h1
theorem len_cd {lo : Int} {n : Nat} {w : Str} : ((rgD lo n).map (cd1 w)).length = n := by rw [List.length_map, rgD_len]
theorem cal_calls_in (S : Ctx K mg) : Cal P w K mg base "calls_in" p_calls_in 2 (spP rCallsIn) := by
  obtain ⟨fd, F⟩ := F_calls_in S
  have Bt := bs_of S
  refine ⟨_, fd, fn_pure F sc_calls_in ?_ ?_, g_calls_in S, F.kp, bd_calls_in F⟩
  · rintro ds d ⟨as, rfl, _⟩
    rfl
  · rintro cdv A outer s H E hr ds d ⟨t, rfl, ht, rfl⟩
    refine .inl ?_
    have sz : ∀ n : Nat, n ≤ 1000 → n ≤ sizeLine := fun n h => Nat.le_of_lt (small_lt h)
    cases t with
    | counter m =>
      have h1 := ht.1
      have h2 := ht.2
      refine b_set 1 sc_calls_in.nd (u_ixT (u_var 0 rfl) u_int) (b_ifT (t_eq (u_var 1 rfl) u_str) (b_ret (u_catL (ds := (rgD 1 (m - 1).toNat).map (cd1 "add")) (by rw [len_cd]; exact sz _ (by simp; omega)) (u_lcM (i := 2) (cd1 "add") sc_calls_in.nd (ui_rng2 Bt u_int (u_ixT (u_var 0 rfl) u_int) rfl (by omega) (by omega))
        (blkOk_by (N := n_calls_in) (sc := defScope s_calls_in) (by decide +kernel)) (by rw [rgD_len]; exact small_lt (by omega)) rgD_noL1 fun d hd s' H' C cl fp => u_tup (ua_cons u_str (ua_cons (u_var 2 rfl) ua_nil))) (u_lst (ua_cons (u_tup (ua_cons u_str ua_nil)) ua_nil)))))
    | register m =>
      have h1 := ht.1
      have h2 := ht.2
      obtain ⟨n, rfl⟩ := Int.eq_ofNat_of_zero_le (show 0 ≤ m by omega)
      have hn : (n : Int).toNat = n := Int.toNat_natCast n
      show B _ _ _ (.ret (.lst (([c0 "look"] ++ (rgD 0 (n : Int).toNat).map (cd1 "put")) ++ (rgD 0 (n : Int).toNat).map (cd1 "trade"))))
      rw [hn]
      refine b_set 1 sc_calls_in.nd (u_ixT (u_var 0 rfl) u_int) (b_ifF (t_eq (u_var 1 rfl) u_str) (b_ifT (t_eq (u_var 1 rfl) u_str) (b_ret (u_catL (ds := [c0 "look"] ++ (rgD 0 n).map (cd1 "put")) (by rw [List.length_append, len_cd, len_cd]; exact sz _ (by simp; omega)) (u_catL (ds := [c0 "look"]) (by rw [len_cd]; exact sz _ (by simp; omega)) (u_lst (ua_cons (u_tup (ua_cons u_str ua_nil)) ua_nil))
        (u_lcM (i := 2) (cd1 "put") sc_calls_in.nd (ui_rng1 Bt (u_ixT (u_var 0 rfl) u_int) (by omega)) (blkOk_by (N := n_calls_in) (sc := defScope s_calls_in) (by decide +kernel)) (by rw [rgD_len]; exact small_lt (by omega)) rgD_noL1 fun d hd s' H' C cl fp => u_tup (ua_cons u_str (ua_cons (u_var 2 rfl) ua_nil))))
        (u_lcM (i := 2) (cd1 "trade") sc_calls_in.nd (ui_rng1 Bt (u_ixT (u_var 0 rfl) u_int) (by omega)) (blkOk_by (N := n_calls_in) (sc := defScope s_calls_in) (by decide +kernel)) (by rw [rgD_len]; exact small_lt (by omega)) rgD_noL1 fun d hd s' H' C cl fp => u_tup (ua_cons u_str (ua_cons (u_var 2 rfl) ua_nil)))))))
    | stack r m =>
      have h1 := ht.2.1
      have h2 := ht.2.2
      obtain ⟨n, rfl⟩ := Int.eq_ofNat_of_zero_le (show 0 ≤ m by omega)
      have hn : (n : Int).toNat = n := Int.toNat_natCast n
      show B _ _ _ (.ret (.lst ((rgD 0 (n : Int).toNat).map (cd1 "push") ++ [c0 "pop"])))
      rw [hn]
      refine b_set 1 sc_calls_in.nd (u_ixT (u_var 0 rfl) u_int) (b_ifF (t_eq (u_var 1 rfl) u_str) (b_ifF (t_eq (u_var 1 rfl) u_str) (b_ifT (t_eq (u_var 1 rfl) u_str) (b_ret (u_catL (ds := (rgD 0 n).map (cd1 "push")) (by rw [len_cd]; exact sz _ (by simp; omega))
        (u_lcM (i := 2) (cd1 "push") sc_calls_in.nd (ui_rng1 Bt (u_ixT (u_var 0 rfl) u_int) (by omega)) (blkOk_by (N := n_calls_in) (sc := defScope s_calls_in) (by decide +kernel)) (by rw [rgD_len]; exact small_lt (by omega)) rgD_noL1 fun d hd s' H' C cl fp => u_tup (ua_cons u_str (ua_cons (u_var 2 rfl) ua_nil))) (u_lst (ua_cons (u_tup (ua_cons u_str ua_nil)) ua_nil)))))))
    | queue r m =>
      have h1 := ht.2.1
      have h2 := ht.2.2
      obtain ⟨n, rfl⟩ := Int.eq_ofNat_of_zero_le (show 0 ≤ m by omega)
      have hn : (n : Int).toNat = n := Int.toNat_natCast n
      show B _ _ _ (.ret (.lst ((rgD 0 (n : Int).toNat).map (cd1 "enter") ++ [c0 "leave"])))
      rw [hn]
      refine b_set 1 sc_calls_in.nd (u_ixT (u_var 0 rfl) u_int) (b_ifF (t_eq (u_var 1 rfl) u_str) (b_ifF (t_eq (u_var 1 rfl) u_str) (b_ifF (t_eq (u_var 1 rfl) u_str) (b_ifT (t_eq (u_var 1 rfl) u_str) (b_ret (u_catL (ds := (rgD 0 n).map (cd1 "enter")) (by rw [len_cd]; exact sz _ (by simp; omega))
        (u_lcM (i := 2) (cd1 "enter") sc_calls_in.nd (ui_rng1 Bt (u_ixT (u_var 0 rfl) u_int) (by omega)) (blkOk_by (N := n_calls_in) (sc := defScope s_calls_in) (by decide +kernel)) (by rw [rgD_len]; exact small_lt (by omega)) rgD_noL1 fun d hd s' H' C cl fp => u_tup (ua_cons u_str (ua_cons (u_var 2 rfl) ua_nil))) (u_lst (ua_cons (u_tup (ua_cons u_str ua_nil)) ua_nil))))))))
    | set m =>
      have h1 := ht.1
      have h2 := ht.2
      obtain ⟨n, rfl⟩ := Int.eq_ofNat_of_zero_le (show 0 ≤ m by omega)
      have hn : (n : Int).toNat = n := Int.toNat_natCast n
      show B _ _ _ (.ret (.lst ([(rgD 0 (n : Int).toNat).map (cd1 "add"), (rgD 0 (n : Int).toNat).map (cd1 "drop"), (rgD 0 (n : Int).toNat).map (cd1 "has")].flatten)))
      rw [hn]
      refine b_set 1 sc_calls_in.nd (u_ixT (u_var 0 rfl) u_int) (b_ifF (t_eq (u_var 1 rfl) u_str) (b_ifF (t_eq (u_var 1 rfl) u_str) (b_ifF (t_eq (u_var 1 rfl) u_str) (b_ifF (t_eq (u_var 1 rfl) u_str) (b_ifT (t_eq (u_var 1 rfl) u_str) (b_ret
        (u_lc2 (i := 3) (i1 := 2) (ds := [.str "add", .str "drop", .str "has"]) (ds1 := rgD 0 n) _ (by decide) sc_calls_in.nd (ui_tup (u_tup (ua_cons u_str (ua_cons u_str (ua_cons u_str ua_nil))))) (blkOk_by (N := n_calls_in) (sc := defScope s_calls_in) (by decide +kernel)) rfl ?_ (by rw [rgD_len]; exact small_lt (by simp; omega)) ?_ rfl (fun j d hd s' H' C cl fp => ur_rng1 Bt (u_ixT (u_var 0 rfl) u_int) (by omega)) ?_)))))))
      · intro l hl
        simp only [List.mem_cons, List.not_mem_nil, or_false] at hl
        rcases hl with rfl | rfl | rfl <;> rw [len_cd, rgD_len]
      · intro l hl
        simp only [List.mem_cons, List.not_mem_nil, or_false] at hl
        rcases hl with rfl | rfl | rfl <;> exact rgD_noLs
      · intro j k d d1 l y h1 h2 h3 h4 s' H' C cl fp
        have key : ∃ w : Str, d = .str w ∧ l = (rgD 0 n).map (cd1 w) := by
          match j, h1, h3 with
          | 0, h1, h3 => cases h1; cases h3; exact ⟨_, rfl, rfl⟩
          | 1, h1, h3 => cases h1; cases h3; exact ⟨_, rfl, rfl⟩
          | 2, h1, h3 => cases h1; cases h3; exact ⟨_, rfl, rfl⟩
          | j + 3, h1, h3 => simp at h1
        obtain ⟨w, rfl, rfl⟩ := key
        rw [List.getElem?_map, h2] at h4
        cases h4
        exact u_tup (ua_cons (u_var 3 rfl) (ua_cons (u_var 2 rfl) ua_nil))
    | agree m =>
      have h1 := ht.1
      have h2 := ht.2
      obtain ⟨n, rfl⟩ := Int.eq_ofNat_of_zero_le (show 0 ≤ m by omega)
      have hn : (n : Int).toNat = n := Int.toNat_natCast n
      show B _ _ _ (.ret (.lst ((rgD 0 (n : Int).toNat).map (cd1 "decide"))))
      rw [hn]
      exact b_set 1 sc_calls_in.nd (u_ixT (u_var 0 rfl) u_int) (b_ifF (t_eq (u_var 1 rfl) u_str) (b_ifF (t_eq (u_var 1 rfl) u_str) (b_ifF (t_eq (u_var 1 rfl) u_str) (b_ifF (t_eq (u_var 1 rfl) u_str) (b_ifF (t_eq (u_var 1 rfl) u_str) (b_ifT (t_eq (u_var 1 rfl) u_str) (b_ret
        (u_lcM (i := 2) (cd1 "decide") sc_calls_in.nd (ui_rng1 Bt (u_ixT (u_var 0 rfl) u_int) (by omega)) (blkOk_by (N := n_calls_in) (sc := defScope s_calls_in) (by decide +kernel)) (by rw [rgD_len]; exact small_lt (by omega)) rgD_noL1 fun d hd s' H' C cl fp => u_tup (ua_cons u_str (ua_cons (u_var 2 rfl) ua_nil))))))))))
    | bank as =>
      exact b_set 1 sc_calls_in.nd (u_ixT (u_var 0 rfl) u_int) (b_ifF (t_eq (u_var 1 rfl) u_str) (b_ifF (t_eq (u_var 1 rfl) u_str) (b_ifF (t_eq (u_var 1 rfl) u_str) (b_ifF (t_eq (u_var 1 rfl) u_str) (b_ifF (t_eq (u_var 1 rfl) u_str) (b_ifF (t_eq (u_var 1 rfl) u_str) (b_ifT (t_eq (u_var 1 rfl) u_str) (b_ret
        (u_call (cal_bank_calls S) hr (ua_cons (u_len Bt (u_ixT (u_var 0 rfl) u_int)) ua_nil) ⟨as.length, by rw [List.length_map], ht.1.2, rfl⟩)))))))))
    | table rows =>
      obtain ⟨⟨h1, h2⟩, wd, ⟨h3, h4⟩, h5⟩ := ht
      obtain ⟨r0, rr, er⟩ : ∃ r0 rr, rows = r0 :: rr := by
        cases rows with
        | nil => simp at h1
        | cons a b => exact ⟨a, b, rfl⟩
      subst er
      have l0 := (h5 r0 List.mem_cons_self).1
      exact b_set 1 sc_calls_in.nd (u_ixT (u_var 0 rfl) u_int) (b_ifF (t_eq (u_var 1 rfl) u_str) (b_ifF (t_eq (u_var 1 rfl) u_str) (b_ifF (t_eq (u_var 1 rfl) u_str) (b_ifF (t_eq (u_var 1 rfl) u_str) (b_ifF (t_eq (u_var 1 rfl) u_str) (b_ifF (t_eq (u_var 1 rfl) u_str) (b_ifF (t_eq (u_var 1 rfl) u_str) (b_ret
        (u_lcM (i := 2) (ds := rgD 0 r0.length) (cd1 "do") sc_calls_in.nd (ui_rng1 Bt (u_is (u_len Bt (u_ixT (u_ixT (u_var 0 rfl) u_int) u_int atI_0)) (by rw [List.length_map])) (by omega)) (blkOk_by (N := n_calls_in) (sc := defScope s_calls_in) (by decide +kernel)) (by rw [rgD_len]; exact small_lt (by omega)) rgD_noL1 fun d hd s' H' C cl fp => u_tup (ua_cons u_str (ua_cons (u_var 2 rfl) ua_nil)))))))))))
end
end P6
namespace P6
open PySem PySem.Spec PyProof.Rows L2 H6
/-! ### calls are among the calls -/
theorem callOk_form {t : Thing} {c : D} (h : CallOk t c) : ∃ (w : Str) (ks : List Int), c = .tup (.str w :: ks.map .int) ∧ ks.length ≤ 3 := by
  cases h <;> first | exact ⟨_, [], rfl, by decide⟩ | exact ⟨_, [_], rfl, by simp⟩ | exact ⟨_, [_, _, _], rfl, by simp⟩
theorem mem_cd {lo k : Int} {n : Nat} {w : Str} (h1 : lo ≤ k) (h2 : k < lo + n) : c1 w k ∈ (rgD lo n).map (cd1 w) := by
  obtain ⟨i, hi⟩ := Int.eq_ofNat_of_zero_le (show 0 ≤ k - lo by omega)
  refine List.mem_map.mpr ⟨.int k, ?_, rfl⟩
  have e : k = lo + (i : Int) := by omega
  rw [e]
  exact mem_rgD (by omega)
theorem mem_blkI {a b : Nat} {c : D} (hab : a ≠ b) (hc : c ∈ mv a b) : ∀ {n : Nat}, b < n → c ∈ blkI a n
  | 0, h => absurd h (Nat.not_lt_zero _)
  | n + 1, h => by
    rw [blkI_succ]
    by_cases e : b = n
    · subst e
      rw [if_neg hab]
      exact List.mem_append_right _ hc
    · exact List.mem_append_left _ (mem_blkI hab hc (by omega))
theorem mem_blkO {a b n : Nat} {c : D} (hab : a ≠ b) (hc : c ∈ mv a b) (hb : b < n) : ∀ {m : Nat}, a < m → c ∈ blkO n m
  | 0, h => absurd h (Nat.not_lt_zero _)
  | m + 1, h => by
    rw [blkO_succ]
    by_cases e : a = m
    · subst e
      exact List.mem_append_right _ (mem_blkI hab hc hb)
    · exact List.mem_append_left _ (mem_blkO hab hc hb (by omega))
theorem callOk_mem {t : Thing} {c : D} (ht : t.ok) (h : CallOk t c) : c ∈ callsD t := by
  cases h with
  | cadd h1 h2 => exact List.mem_append_left _ (mem_cd h1 (by omega))
  | clook => exact List.mem_append_right _ (List.mem_singleton.mpr rfl)
  | rlook => exact List.mem_append_left _ (List.mem_append_left _ (List.mem_singleton.mpr rfl))
  | rput h1 h2 => exact List.mem_append_left _ (List.mem_append_right _ (mem_cd h1 (by omega)))
  | rtrade h1 h2 => exact List.mem_append_right _ (mem_cd h1 (by omega))
  | spush h1 h2 => exact List.mem_append_left _ (mem_cd h1 (by omega))
  | spop => exact List.mem_append_right _ (List.mem_singleton.mpr rfl)
  | qenter h1 h2 => exact List.mem_append_left _ (mem_cd h1 (by omega))
  | qleave => exact List.mem_append_right _ (List.mem_singleton.mpr rfl)
  | eadd h1 h2 => exact List.mem_flatten.mpr ⟨_, List.mem_cons_self, mem_cd h1 (by omega)⟩
  | edrop h1 h2 => exact List.mem_flatten.mpr ⟨_, List.mem_cons_of_mem _ List.mem_cons_self, mem_cd h1 (by omega)⟩
  | ehas h1 h2 => exact List.mem_flatten.mpr ⟨_, List.mem_cons_of_mem _ (List.mem_cons_of_mem _ List.mem_cons_self), mem_cd h1 (by omega)⟩
  | adec h1 h2 => exact mem_cd h1 (by omega)
  | blook h1 => exact List.mem_append_left _ (mem_cd (by omega) (by omega))
  | @bmove as a b k h1 h2 h3 h4 h5 =>
    refine List.mem_append_right _ (mem_blkO h3 ?_ h2 h1)
    have hk : k = 1 ∨ k = 2 ∨ k = 3 := by omega
    rcases hk with rfl | rfl | rfl <;> simp [mv]
  | @tdo rows r c h1 h2 =>
    cases rows with
    | nil => cases h1
    | cons a rr =>
      cases h1
      exact mem_cd (by omega) (by simp; omega)
theorem sh_cd {lo : Int} {n : Nat} {w : Str} (hw : sOk w = true) : ∀ c ∈ (rgD lo n).map (cd1 w), shN 1 c := fun c hc => by
  obtain ⟨d, h1, h2⟩ := List.mem_map.mp hc
  obtain ⟨i, _, e⟩ := rgD_mem h1
  rw [← h2, e]
  exact shN_c1 hw
theorem sh_app {n : Nat} {ds es : List D} (h1 : ∀ c ∈ ds, shN n c) (h2 : ∀ c ∈ es, shN n c) : ∀ c ∈ ds ++ es, shN n c := fun c hc => by
  rcases List.mem_append.mp hc with h | h
  · exact h1 c h
  · exact h2 c h
theorem sh_one {n : Nat} {d : D} (h : shN n d) : ∀ c ∈ [d], shN n c := shN_cons h shN_nil
theorem sh_bankD (n : Nat) : ∀ c ∈ bankD n, shN 1 c := by
  refine sh_app (sh_cd (by decide +kernel)) fun c hc => ?_
  obtain ⟨l, h1, h2⟩ := List.mem_flatten.mp hc
  obtain ⟨a, _, rfl⟩ := List.mem_map.mp h1
  obtain ⟨l2, h3, h4⟩ := List.mem_flatten.mp h2
  obtain ⟨b, _, rfl⟩ := List.mem_map.mp h3
  have ok : sOk "move" = true := by decide +kernel
  by_cases e : a = b
  · rw [if_pos e] at h4; cases h4
  · rw [if_neg e] at h4
    exact shN_cons (shN_c3 ok) (shN_cons (shN_c3 ok) (shN_cons (shN_c3 ok) shN_nil)) c h4
theorem callsD_sh (t : Thing) : ∀ c ∈ callsD t, shN 1 c := by
  cases t with
  | counter m => exact sh_app (sh_cd (by decide +kernel)) (sh_one (shN_c0 (by decide +kernel)))
  | register m => exact sh_app (sh_app (sh_one (shN_c0 (by decide +kernel))) (sh_cd (by decide +kernel))) (sh_cd (by decide +kernel))
  | stack r m => exact sh_app (sh_cd (by decide +kernel)) (sh_one (shN_c0 (by decide +kernel)))
  | queue r m => exact sh_app (sh_cd (by decide +kernel)) (sh_one (shN_c0 (by decide +kernel)))
  | set m =>
    intro c hc
    obtain ⟨l, h1, h2⟩ := List.mem_flatten.mp hc
    simp only [List.mem_cons, List.not_mem_nil, or_false] at h1
    rcases h1 with rfl | rfl | rfl <;> exact sh_cd (by decide +kernel) c h2
  | agree m => exact sh_cd (by decide +kernel)
  | bank as => exact sh_bankD _
  | table rows => exact sh_cd (by decide +kernel)
theorem cutD_tail {x : D} {xs : List D} : cutD (x :: xs) (some 1) none = xs := by
  unfold cutD
  have h1 : HT.sIx (x :: xs).length 0 (some 1) = 1 := by
    rw [show (some 1 : Option Int) = some ((1 : Nat) : Int) from rfl, HT.sIx_nat, List.length_cons]
    omega
  rw [h1, HT.sIx_none]
  simp
/-! ### plans -/
def planD (p : List D) : D := .tup p
def plansD (ps : List (List D)) : D := .tup (ps.map .tup)
def PlansOk (t : Thing) (ps : List (List D)) : Prop := (1 ≤ ps.length ∧ ps.length ≤ 4) ∧ ∀ p ∈ ps, p.length ≤ 8 ∧ ∀ c ∈ p, CallOk t c
def wD (ws : List Nat) : D := .tup (ws.map fun (n : Nat) => .int (n : Int))
section
variable {P : Program} {w : World} {K : PySem.W.Frag} {mg : Str → Option Value} {base : Heap}
def rPlain (ds : List D) (d : D) : Prop := ∃ (w : Str) (ks : List Int), ds = [.tup (.str w :: ks.map .int)] ∧ ks.length ≤ 3 ∧ d = .bl true
theorem cal_is_plain_tuple (S : Ctx K mg) : Cal P w K mg base "is_plain_tuple" p_is_plain_tuple 1 (spP rPlain) := by
  obtain ⟨fd, F⟩ := F_is_plain_tuple S
  have Bt := bs_of S
  refine ⟨_, fd, fn_pure F sc_is_plain_tuple ?_ ?_, g_is_plain_tuple S, F.kp, bd_is_plain_tuple F⟩
  · rintro ds d ⟨as, _, rfl, _⟩
    rfl
  · rintro cdv A outer s H E hr ds d ⟨wd, ks, rfl, hk, rfl⟩
    refine .inl (b_ifF (t_w (w_or (t_notT (t_val (u_isi Bt Bt.tuple boot_tuple (u_var 0 rfl) kb_tt))) (w_or (t_eq (k := false) (u_len Bt (u_var 0 rfl)) u_int ?_) (w_or1 (t_notT (t_val (u_isi Bt Bt.str boot_str (u_ixT (u_var 0 rfl) u_int atI_0) kb_ss))))))) (b_ret
      (u_allC (ds := ks.map .int) (i := 1) Bt sc_is_plain_tuple.nd (ui_tup (u_is (u_slT (u_var 0 rfl) (uo_some u_int) uo_none) (by rw [cutD_tail]))) (blkOk_by (N := n_is_plain_tuple) (sc := defScope s_is_plain_tuple) (by decide +kernel)) (by rw [List.length_map]; exact small_lt (by omega)) fun j d hd s' H' C cl fp => ?_)))
    · simp [eqS]
      omega
    · obtain ⟨n, hn, rfl⟩ := tI_get hd
      exact u_and (u_isi Bt Bt.int boot_int (u_var 1 rfl) kb_ii) (u_one (u_notF (u_isi Bt Bt.bool boot_bool (u_var 1 rfl) kb_ib)))
def rCallOf (ds : List D) (d : D) : Prop := ∃ (t : Thing) (c : D), ds = [t.d, c] ∧ t.ok ∧ CallOk t c ∧ d = .bl true
theorem any_self {ds : List D} {c : D} (hc : c ∈ ds) (hs : sh c = true) : (ds.any fun z => eqD z c) = true := List.any_eq_true.mpr ⟨c, hc, eqD_refl hs⟩
theorem cal_is_call_of (S : Ctx K mg) : Cal P w K mg base "is_call_of" p_is_call_of 3 (spP rCallOf) := by
  obtain ⟨fd, F⟩ := F_is_call_of S
  refine ⟨_, fd, fn_pure F sc_is_call_of ?_ ?_, g_is_call_of S, F.kp, bd_is_call_of F⟩
  · rintro ds d ⟨as, _, rfl, _⟩
    rfl
  · rintro cdv A outer s H E hr ds d ⟨t, c, rfl, ht, hc, rfl⟩
    obtain ⟨wd, ks, e, hk⟩ := callOk_form hc
    refine .inl (b_ret (u_and (u_call (cal_is_plain_tuple S) (hr.mono (by decide)) (ua_cons (u_var 1 rfl) ua_nil) ⟨wd, ks, by rw [e], hk, rfl⟩) (u_one (u_is (u_inD hr (hc.sh.sh (by decide)) ((shN_lst (callsD_sh t)).sh (by decide)) (u_var 1 rfl) (u_call (cal_calls_in S) hr (ua_cons (u_var 0 rfl) ua_nil) ⟨t, rfl, ht, rfl⟩)) ?_))))
    rw [any_self (callOk_mem ht hc) (hc.sh.sh (by decide))]
def rNeedC (ds : List D) (d : D) : Prop := ∃ (t : Thing) (c : D), ds = [t.d, c] ∧ t.ok ∧ CallOk t c ∧ d = .non
theorem cal_need_call (S : Ctx K mg) : Cal P w K mg base "need_call" p_need_call 4 (spP rNeedC) := by
  obtain ⟨fd, F⟩ := F_need_call S
  refine ⟨_, fd, fn_pure F sc_need_call ?_ ?_, g_need_call S, F.kp, bd_need_call F⟩
  · rintro ds d ⟨as, _, rfl, _⟩
    rfl
  · rintro cdv A outer s H E hr ds d ⟨t, c, rfl, ht, hc, rfl⟩
    exact .inr ⟨rfl, _, b_ifF (t_notT (t_val (u_call (cal_is_call_of S) hr (ua_cons (u_var 0 rfl) (ua_cons (u_var 1 rfl) ua_nil)) ⟨t, c, rfl, ht, hc, rfl⟩))) b_nil⟩
def rArePlans (ds : List D) (d : D) : Prop := ∃ (t : Thing) (ps : List (List D)), ds = [t.d, plansD ps] ∧ t.ok ∧ PlansOk t ps ∧ d = .bl true
theorem cal_are_plans (S : Ctx K mg) : Cal P w K mg base "are_plans" p_are_plans 4 (spP rArePlans) := by
  obtain ⟨fd, F⟩ := F_are_plans S
  have Bt := bs_of S
  obtain ⟨t4, m4⟩ := i_MOST_THREADS S
  obtain ⟨t8, m8⟩ := i_MOST_CALLS S
  refine ⟨_, fd, fn_pure F sc_are_plans ?_ ?_, g_are_plans S, F.kp, bd_are_plans F⟩
  · rintro ds d ⟨as, _, rfl, _⟩
    rfl
  · rintro cdv A outer s H E hr ds d ⟨t, ps, rfl, ht, ⟨⟨h1, h2⟩, h3⟩, rfl⟩
    refine .inl (b_ifF (t_w (w_or (t_notT (t_val (u_isi Bt Bt.tuple boot_tuple (u_var 1 rfl) kb_tt))) (w_or1 (t_notT (t_ge1 (by rw [List.length_map]; omega) u_int (u_len Bt (u_var 1 rfl)) (u_globI m4)))))) ?_)
    refine b_for 2 (fun _ => [.d t.d, .d (plansD ps), .un, .un]) rfl sc_are_plans.nd (ui_tup (u_var 1 rfl)) (fun j d hd => ?_) (b_ret u_bl) PassesOwn.never
    obtain ⟨p, hj, hp, rfl⟩ := map_get hd
    obtain ⟨h4, h5⟩ := h3 p hp
    refine b_ifF (t_w (w_or (t_notT (t_val (u_isi Bt Bt.tuple boot_tuple (u_var 2 rfl) kb_tt))) (w_or (t_is (t_gt (u_len Bt (u_var 2 rfl)) (u_globI m8)) (decide_eq_false (by omega))) (w_or1 (t_notT (t_val
      (u_allC (i := 3) Bt sc_are_plans.nd (ui_tup (u_var 2 rfl)) (blkOk_by (N := n_are_plans) (sc := defScope s_are_plans) (by decide +kernel)) (small_lt (by omega)) fun j c hc s' H' C cl fp => u_call (cal_is_call_of S) hr (ua_cons (u_var 0 rfl) (ua_cons (u_var 3 rfl) ua_nil)) ⟨t, c, rfl, ht, h5 c (List.mem_of_getElem? hc), rfl⟩))))))) (b_nilF [2])
def rNeedP (ds : List D) (d : D) : Prop := ∃ (t : Thing) (ps : List (List D)), ds = [t.d, plansD ps] ∧ t.ok ∧ PlansOk t ps ∧ d = .non
theorem cal_need_plans (S : Ctx K mg) : Cal P w K mg base "need_plans" p_need_plans 5 (spP rNeedP) := by
  obtain ⟨fd, F⟩ := F_need_plans S
  refine ⟨_, fd, fn_pure F sc_need_plans ?_ ?_, g_need_plans S, F.kp, bd_need_plans F⟩
  · rintro ds d ⟨as, _, rfl, _⟩
    rfl
  · rintro cdv A outer s H E hr ds d ⟨t, ps, rfl, ht, hp, rfl⟩
    exact .inr ⟨rfl, _, b_expr (u_call (cal_need_object S) hr (ua_cons (u_var 0 rfl) ua_nil) ⟨t, rfl, ht, rfl⟩) (b_ifF (t_notT (t_val (u_call (cal_are_plans S) hr (ua_cons (u_var 0 rfl) (ua_cons (u_var 1 rfl) ua_nil)) ⟨t, ps, rfl, ht, hp, rfl⟩))) b_nil)⟩
def rNeedW (ds : List D) (d : D) : Prop := ∃ ws : List Nat, ds = [wD ws] ∧ ws.length ≤ 400 ∧ (∀ x ∈ ws, x < 4) ∧ d = .non
theorem cal_need_weaving (S : Ctx K mg) : Cal P w K mg base "need_weaving" p_need_weaving 2 (spP rNeedW) := by
  obtain ⟨fd, F⟩ := F_need_weaving S
  have Bt := bs_of S
  obtain ⟨t4, m4⟩ := i_MOST_THREADS S
  obtain ⟨t8, m8⟩ := i_MOST_STEPS S
  refine ⟨_, fd, fn_pure F sc_need_weaving ?_ ?_, g_need_weaving S, F.kp, bd_need_weaving F⟩
  · rintro ds d ⟨as, rfl, _⟩
    rfl
  · rintro cdv A outer s H E hr ds d ⟨ws, rfl, h1, h2, rfl⟩
    refine .inr ⟨rfl, _, b_ifF (t_w (w_or (t_notT (t_val (u_isi Bt Bt.tuple boot_tuple (u_var 0 rfl) kb_tt))) (w_or1 (t_is (t_gt (u_len Bt (u_var 0 rfl)) (u_globI m8)) (decide_eq_false (by rw [List.length_map]; omega)))))) (b_ifF (t_notT (t_val
      (u_allC (i := 1) Bt sc_need_weaving.nd (ui_tup (u_var 0 rfl)) (blkOk_by (N := n_need_weaving) (sc := defScope s_need_weaving) (by decide +kernel)) (by rw [List.length_map]; exact small_lt (by omega)) fun j d hd s' H' C cl fp => ?_))) b_nil)⟩
    obtain ⟨x, _, hx, rfl⟩ := map_get hd
    have := h2 x hx
    exact u_call (cal_is_small S) hr (ua_cons (u_var 1 rfl) (ua_cons u_int (ua_cons (u_sub (u_globI m4) u_int) ua_nil))) ⟨x, 0, 3, rfl, ⟨by omega, by omega⟩, rfl⟩
end
end P6
namespace P6
open PySem PySem.Spec PyProof.Rows L2 H6
theorem u_neg {X : Cx} {Γ : List G} {a : Expr} {pos : Pos} {i : Int} (ha : U X a Γ (.int i)) : U X (.UnaryOp .USub a pos) Γ (.int (-i)) := by
  obtain ⟨t, h1, h2⟩ := ha
  exact ⟨_, pe_un un_neg h1, fun σ H e Q q => h2 σ H e _ fun v H1 e1 r1 => ⟨i, r1, q _ H1 e1 rfl⟩⟩
theorem any_int {k : Int} : ∀ {ns : List Int}, ((ns.map D.int).any fun z => eqF z (.int k)) = decide (k ∈ ns)
  | [] => by simp
  | n :: ns => by
    rw [List.map_cons, List.any_cons, any_int]
    show ((n == k) || decide (k ∈ ns)) = decide (k ∈ n :: ns)
    by_cases h : n = k
    · subst h; simp
    · have h1 : (n == k) = false := beq_eq_false_iff_ne.mpr h
      have h2 : ¬ k = n := fun e => h e.symm
      rw [h1]
      simp [h2]
theorem all_fl {ns : List Int} : (ns.map D.int).all flD = true := List.all_eq_true.mpr fun d hd => by
  obtain ⟨i, _, e⟩ := List.mem_map.mp hd
  rw [← e]
  rfl
theorem cutD_init {x : D} {xs : List D} : cutD (xs ++ [x]) none (some (-1)) = xs := by
  unfold cutD
  have h1 : HT.sIx (xs ++ [x]).length (xs ++ [x]).length (some (-1)) = xs.length := by
    show (if (-1 : Int) < 0 then ((-1 : Int) + (((xs ++ [x]).length : Nat) : Int)).toNat else min (-1 : Int).toNat (xs ++ [x]).length) = xs.length
    rw [if_pos (by decide), List.length_append, List.length_singleton]
    omega
  rw [h1, HT.sIx_none]
  simp
theorem keep_filter {k : Int} : ∀ ns : List Int, keepD (ns.map fun n => if n ≠ k then some (D.int n) else none) = (ns.filter fun n => decide (n ≠ k)).map .int
  | [] => rfl
  | n :: ns => by
    have ih := keep_filter (k := k) ns
    unfold keepD at ih ⊢
    rw [List.map_cons, List.filterMap_cons, List.filter_cons]
    by_cases h : n ≠ k
    · rw [if_pos h, if_pos (decide_eq_true h)]
      show D.int n :: _ = _
      rw [ih]
      rfl
    · rw [if_neg h, if_neg (by simp only [decide_eq_true_eq]; exact h)]
      exact ih
theorem ix_map {α : Type} {f : α → D} {l : List α} {j : Nat} {x : α} (h : l[j]? = some x) : atI (l.map f) (j : Int) = some (f x) := atI_nat (by rw [List.getElem?_map, h]; rfl)
theorem small_le' {n : Nat} (h : n ≤ 1000) : n ≤ sizeLine := Nat.le_of_lt (small_lt h)
theorem eqD_snoc {x : D} {xs : List D} : eqD (.tup (xs ++ [x])) (.tup []) = false := by
  cases xs <;> rfl
section
variable {P : Program} {w : World} {K : PySem.W.Frag} {mg : Str → Option Value} {base : Heap}
def rOnStack (ds : List D) (d : D) : Prop := ∃ (r m : Int) (s c s' a : D), ds = [Thing.d (.stack r m), s, c] ∧ App (.stack r m) s c s' a ∧ d = .tup [s', a]
theorem cal_on_stack (S : Ctx K mg) : Cal P w K mg base "on_stack" p_on_stack 1 (spP rOnStack) := by
  obtain ⟨fd, F⟩ := F_on_stack S
  have Bt := bs_of S
  refine ⟨_, fd, fn_pure F sc_on_stack ?_ ?_, g_on_stack S, F.kp, bd_on_stack F⟩
  · rintro ds d ⟨r, m, s, c, s', a, rfl, _⟩
    rfl
  · rintro cdv A outer s H E hr ds d ⟨r, m, s, c, s', a, rfl, ha, rfl⟩
    refine .inl ?_
    cases ha with
    | spushF h => exact b_ifT (t_eq (u_ixT (u_var 2 rfl) u_int) u_str) (b_ret (u_ifT (t_eq (u_len Bt (u_var 1 rfl)) (u_ixT (u_var 0 rfl) u_int) (by rw [List.length_map]; simp [eqS, h])) (u_tup (ua_cons (u_var 1 rfl) (ua_cons u_bl ua_nil)))))
    | @spush r m k ns h h3 =>
      refine b_ifT (t_eq (u_ixT (u_var 2 rfl) u_int) u_str) (b_ret (u_ifF (t_eq (u_len Bt (u_var 1 rfl)) (u_ixT (u_var 0 rfl) u_int) (by rw [List.length_map]; simp [eqS]; omega)) (u_tup (ua_cons (u_is (u_tupN (ds := ns.map .int ++ [.int k]) (by simp; exact small_le' (by omega)) (ua_star (u_var 1 rfl) (ua_cons (u_ixT (u_var 2 rfl) u_int) ua_nil))) ?_) (ua_cons u_bl ua_nil)))))
      show D.tup _ = D.tup _
      rw [List.map_append]
      rfl
    | spopE => exact b_ifF (t_eq (u_ixT (u_var 2 rfl) u_int) u_str) (b_ret (u_ifT (t_eqD hr (shN_tI.sh (by decide)) ((shN_tup shN_nil : shN 1 (.tup [])).sh (by decide)) (u_var 1 rfl) (u_tup ua_nil) rfl) (u_tup (ua_cons (u_var 1 rfl) (ua_cons u_non ua_nil)))))
    | @spop r m k ns h =>
      have e : tI (ns ++ [k]) = .tup (ns.map .int ++ [.int k]) := by show D.tup _ = _; rw [List.map_append]; rfl
      have hs : shN 1 (.tup (ns.map .int ++ [.int k])) := e ▸ shN_tI
      rw [e]
      exact b_ifF (t_eq (u_ixT (u_var 2 rfl) u_int) u_str) (b_ret (u_ifF (t_eqD hr (hs.sh (by decide)) ((shN_tup shN_nil : shN 1 (.tup [])).sh (by decide)) (u_var 1 rfl) (u_tup ua_nil) eqD_snoc) (u_tup (ua_cons (u_is (u_slT (u_var 1 rfl) uo_none (uo_some (u_neg u_int))) (by rw [cutD_init]; rfl)) (ua_cons (u_ixT (u_var 1 rfl) (u_neg u_int) (atI_last _ _)) ua_nil)))))
def rOnQueue (ds : List D) (d : D) : Prop := ∃ (r m : Int) (s c s' a : D), ds = [Thing.d (.queue r m), s, c] ∧ App (.queue r m) s c s' a ∧ d = .tup [s', a]
theorem cal_on_queue (S : Ctx K mg) : Cal P w K mg base "on_queue" p_on_queue 1 (spP rOnQueue) := by
  obtain ⟨fd, F⟩ := F_on_queue S
  have Bt := bs_of S
  refine ⟨_, fd, fn_pure F sc_on_queue ?_ ?_, g_on_queue S, F.kp, bd_on_queue F⟩
  · rintro ds d ⟨r, m, s, c, s', a, rfl, _⟩
    rfl
  · rintro cdv A outer s H E hr ds d ⟨r, m, s, c, s', a, rfl, ha, rfl⟩
    refine .inl ?_
    cases ha with
    | qenterF h => exact b_ifT (t_eq (u_ixT (u_var 2 rfl) u_int) u_str) (b_ret (u_ifT (t_eq (u_len Bt (u_var 1 rfl)) (u_ixT (u_var 0 rfl) u_int) (by rw [List.length_map]; simp [eqS, h])) (u_tup (ua_cons (u_var 1 rfl) (ua_cons u_bl ua_nil)))))
    | @qenter r m k ns h h3 =>
      refine b_ifT (t_eq (u_ixT (u_var 2 rfl) u_int) u_str) (b_ret (u_ifF (t_eq (u_len Bt (u_var 1 rfl)) (u_ixT (u_var 0 rfl) u_int) (by rw [List.length_map]; simp [eqS]; omega)) (u_tup (ua_cons (u_is (u_tupN (ds := ns.map .int ++ [.int k]) (by simp; exact small_le' (by omega)) (ua_star (u_var 1 rfl) (ua_cons (u_ixT (u_var 2 rfl) u_int) ua_nil))) ?_) (ua_cons u_bl ua_nil)))))
      show D.tup _ = D.tup _
      rw [List.map_append]
      rfl
    | qleaveE => exact b_ifF (t_eq (u_ixT (u_var 2 rfl) u_int) u_str) (b_ret (u_ifT (t_eqD hr (shN_tI.sh (by decide)) ((shN_tup shN_nil : shN 1 (.tup [])).sh (by decide)) (u_var 1 rfl) (u_tup ua_nil) rfl) (u_tup (ua_cons (u_var 1 rfl) (ua_cons u_non ua_nil)))))
    | @qleave r m k ns h =>
      exact b_ifF (t_eq (u_ixT (u_var 2 rfl) u_int) u_str) (b_ret (u_ifF (t_eqD hr (shN_tI.sh (by decide)) ((shN_tup shN_nil : shN 1 (.tup [])).sh (by decide)) (u_var 1 rfl) (u_tup ua_nil) rfl) (u_tup (ua_cons (u_is (u_slT (u_var 1 rfl) (uo_some u_int) uo_none) (by rw [List.map_cons, cutD_tail]; rfl)) (ua_cons (u_ixT (u_var 1 rfl) u_int atI_0) ua_nil)))))
def rOnSet (ds : List D) (d : D) : Prop := ∃ (m : Int) (s c s' a : D), ds = [s, c] ∧ App (.set m) s c s' a ∧ d = .tup [s', a]
theorem cal_on_set (S : Ctx K mg) : Cal P w K mg base "on_set" p_on_set 1 (spP rOnSet) := by
  obtain ⟨fd, F⟩ := F_on_set S
  have Bt := bs_of S
  refine ⟨_, fd, fn_pure F sc_on_set ?_ ?_, g_on_set S, F.kp, bd_on_set F⟩
  · rintro ds d ⟨m, s, c, s', a, rfl, _⟩
    rfl
  · rintro cdv A outer s H E hr ds d ⟨m, s, c, s', a, rfl, ha, rfl⟩
    refine .inl ?_
    cases ha with
    | @ehas m k ns h => exact b_set 2 sc_on_set.nd (u_inT (u_ixT (u_var 1 rfl) u_int) (u_var 0 rfl) any_int rfl all_fl) (b_ifT (t_eq (u_ixT (u_var 1 rfl) u_int) u_str) (b_ret (u_tup (ua_cons (u_var 0 rfl) (ua_cons (u_var 2 rfl) ua_nil)))))
    | @eaddO m k ns h h1 h2 => exact b_set 2 sc_on_set.nd (u_inT (r := true) (u_ixT (u_var 1 rfl) u_int) (u_var 0 rfl) (by rw [any_int, decide_eq_true h2]) rfl all_fl) (b_ifF (t_eq (u_ixT (u_var 1 rfl) u_int) u_str) (b_ifT (t_eq (u_ixT (u_var 1 rfl) u_int) u_str) (b_ret (u_ifT (t_val (u_var 2 rfl)) (u_tup (ua_cons (u_var 0 rfl) (ua_cons u_bl ua_nil)))))))
    | @eadd m k ns ms h h1 h2 h3 h4 =>
      refine b_set 2 sc_on_set.nd (u_inT (r := false) (u_ixT (u_var 1 rfl) u_int) (u_var 0 rfl) (by rw [any_int, decide_eq_false h2]) rfl all_fl) (b_ifF (t_eq (u_ixT (u_var 1 rfl) u_int) u_str) (b_ifT (t_eq (u_ixT (u_var 1 rfl) u_int) u_str) (b_ret (u_ifF (t_val (u_var 2 rfl)) (u_tup (ua_cons (u_tupOf Bt (u_sorted Bt h3 h4 (by simp; omega) (u_is (u_lstN (ds := ns.map .int ++ [.int k]) (by simp; exact small_le' (by omega)) (ua_star (u_var 0 rfl) (ua_cons (u_ixT (u_var 1 rfl) u_int) ua_nil))) ?_))) (ua_cons u_bl ua_nil)))))))
      show D.lst _ = D.lst _
      rw [List.map_append]
      rfl
    | @edrop m k ns h h1 =>
      refine b_set 2 sc_on_set.nd (u_inT (u_ixT (u_var 1 rfl) u_int) (u_var 0 rfl) any_int rfl all_fl) (b_ifF (t_eq (u_ixT (u_var 1 rfl) u_int) u_str) (b_ifF (t_eq (u_ixT (u_var 1 rfl) u_int) u_str) (b_ret (u_tup (ua_cons (u_tupOf Bt (u_is (u_lcI (i := 3) (ns.map fun n => if n ≠ k then some (D.int n) else none) sc_on_set.nd (ui_tup (u_var 0 rfl)) (blkOk_by (N := n_on_set) (sc := defScope s_on_set) (by decide +kernel)) (by rw [List.length_map, List.length_map]) (by rw [List.length_map]; exact small_lt (by omega)) ?_ ?_) (by rw [keep_filter]))) (ua_cons (u_var 2 rfl) ua_nil))))))
      · intro o ho d e
        obtain ⟨n, _, h2⟩ := List.mem_map.mp ho
        by_cases q : n ≠ k
        · rw [if_pos q, e] at h2
          cases h2
          rfl
        · rw [if_neg q, e] at h2
          cases h2
      · intro j d o hd ho
        obtain ⟨n, hn, _, rfl⟩ := map_get hd
        rw [List.getElem?_map, hn] at ho
        have eo : (if n ≠ k then some (D.int n) else none) = o := Option.some.inj ho
        by_cases q : n ≠ k
        · rw [if_pos q] at eo
          subst eo
          refine ⟨fun s' H' C cl fp => t_is (t_ne (u_var 3 rfl) (u_ixT (u_var 1 rfl) u_int) rfl) (by simp [q]), fun y hy s' H' C cl fp => ?_⟩
          cases hy
          exact u_var 3 rfl
        · rw [if_neg q] at eo
          subst eo
          refine ⟨fun s' H' C cl fp => t_is (t_ne (u_var 3 rfl) (u_ixT (u_var 1 rfl) u_int) rfl) (by simp only [ne_eq, Decidable.not_not] at q; simp [q]), fun y hy => nomatch hy⟩
def rOnBank (ds : List D) (d : D) : Prop := ∃ (as : List Int) (s c s' a : D), ds = [s, c] ∧ App (.bank as) s c s' a ∧ d = .tup [s', a]
theorem cal_on_bank (S : Ctx K mg) : Cal P w K mg base "on_bank" p_on_bank 1 (spP rOnBank) := by
  obtain ⟨fd, F⟩ := F_on_bank S
  have Bt := bs_of S
  refine ⟨_, fd, fn_pure F sc_on_bank ?_ ?_, g_on_bank S, F.kp, bd_on_bank F⟩
  · rintro ds d ⟨as, s, c, s', a, rfl, _⟩
    rfl
  · rintro cdv A outer s H E hr ds d ⟨as, s, c, s', a, rfl, ha, rfl⟩
    refine .inl ?_
    cases ha with
    | @blook as ns a x h => exact b_ifT (t_eq (u_ixT (u_var 1 rfl) u_int) u_str) (b_ret (u_tup (ua_cons (u_var 0 rfl) (ua_cons (u_ixT (u_var 0 rfl) (u_ixT (u_var 1 rfl) u_int) (ix_map h)) ua_nil))))
    | @bmoveF as ns a b k x hl h h1 => exact b_ifF (t_eq (u_ixT (u_var 1 rfl) u_int) u_str) (b_par3 2 3 4 sc_on_bank.nd (ua_cons (u_ixT (u_var 1 rfl) u_int) (ua_cons (u_ixT (u_var 1 rfl) u_int) (ua_cons (u_ixT (u_var 1 rfl) u_int) ua_nil))) (b_ifT (t_is (t_lt (u_ixT (u_var 0 rfl) (u_var 2 rfl) (ix_map h)) (u_var 4 rfl)) (decide_eq_true h1)) (b_ret (u_tup (ua_cons (u_var 0 rfl) (ua_cons u_bl ua_nil))))))
    | @bmove as ns a b k x y hl h h1 h2 h3 h4 h5 =>
      have la : a < ns.length := (List.getElem?_eq_some_iff.mp h).1
      have lb : b < ns.length := (List.getElem?_eq_some_iff.mp h1).1
      have hb2 : (ns.set a (x - k))[b]? = some y := by rw [List.getElem?_set_ne h2]; exact h1
      have m1 : (ns.map D.int).set a (.int (x - k)) = (ns.set a (x - k)).map .int := by rw [List.map_set]
      have ixa : ixN (ns.map D.int).length (a : Int) = some a := by unfold ixN; rw [if_pos (by omega), if_pos (by rw [List.length_map]; omega)]; simp
      have ixb : ixN ((ns.set a (x - k)).map D.int).length (b : Int) = some b := by unfold ixN; rw [if_pos (by omega), if_pos (by rw [List.length_map, List.length_set]; omega)]; simp
      refine b_ifF (t_eq (u_ixT (u_var 1 rfl) u_int) u_str) (b_par3 2 3 4 sc_on_bank.nd (ua_cons (u_ixT (u_var 1 rfl) u_int) (ua_cons (u_ixT (u_var 1 rfl) u_int) (ua_cons (u_ixT (u_var 1 rfl) u_int) ua_nil))) (b_ifF (t_is (t_lt (u_ixT (u_var 0 rfl) (u_var 2 rfl) (ix_map h)) (u_var 4 rfl)) (decide_eq_false (by omega)))
        (b_new 5 sc_on_bank.nd (ul_list Bt (u_var 0 rfl)) (bm_store (u_sub (u_ixL (u_var 5 rfl) (u_var 2 rfl) (ix_map h)) (u_var 4 rfl)) (u_var 2 rfl) ixa rfl ?_) rfl (hlt := fun σ h => by rw [h]; exact (by decide : 5 < 6)))))
      rw [m1]
      refine bm_store (u_add (u_ixL (u_var 5 rfl) (u_var 3 rfl) (ix_map hb2)) (u_var 4 rfl)) (u_var 3 rfl) ixb rfl ?_
      have m2 : ((ns.set a (x - k)).map D.int).set b (.int (y + k)) = ((ns.set a (x - k)).set b (y + k)).map .int := by simp [List.map_set]
      rw [m2]
      exact bm_ret (u_tup (ua_cons (u_tupOf Bt (u_var 5 rfl)) (ua_cons u_bl ua_nil)))
def rApp (ds : List D) (d : D) : Prop := ∃ (t : Thing) (s c s' a : D), ds = [t.d, s, c] ∧ App t s c s' a ∧ d = .tup [s', a]
theorem cal_applied_in (S : Ctx K mg) : Cal P w K mg base "applied_in" p_applied_in 2 (spP rApp) := by
  obtain ⟨fd, F⟩ := F_applied_in S
  have Bt := bs_of S
  refine ⟨_, fd, fn_pure F sc_applied_in ?_ ?_, g_applied_in S, F.kp, bd_applied_in F⟩
  · rintro ds d ⟨t, s, c, s', a, rfl, _⟩
    rfl
  · rintro cdv A outer s H E hr ds d ⟨t, s, c, s', a, rfl, ha, rfl⟩
    refine .inl (?_ : B _ (defBody s_applied_in) _ _)
    have ha0 := ha
    cases t with
    | counter m =>
      refine b_set 3 sc_applied_in.nd (u_ixT (u_var 0 rfl) u_int) (b_ifT (t_eq (u_var 3 rfl) u_str) (b_ret ?_))
      cases ha with
      | cadd h => exact u_ifF (t_eq (u_ixT (u_var 2 rfl) u_int) u_str) (u_tup (ua_cons (u_mod h (u_add (u_var 1 rfl) (u_ixT (u_var 2 rfl) u_int)) (u_ixT (u_var 0 rfl) u_int)) (ua_cons (u_var 1 rfl) ua_nil)))
      | clook => exact u_ifT (t_eq (u_ixT (u_var 2 rfl) u_int) u_str) (u_tup (ua_cons (u_var 1 rfl) (ua_cons (u_var 1 rfl) ua_nil)))
    | register m =>
      refine b_set 3 sc_applied_in.nd (u_ixT (u_var 0 rfl) u_int) (b_ifF (t_eq (u_var 3 rfl) u_str) (b_ifT (t_eq (u_var 3 rfl) u_str) (b_ret ?_)))
      cases ha with
      | rlook => exact u_ifT (t_eq (u_ixT (u_var 2 rfl) u_int) u_str) (u_tup (ua_cons (u_var 1 rfl) (ua_cons (u_var 1 rfl) ua_nil)))
      | rput => exact u_ifF (t_eq (u_ixT (u_var 2 rfl) u_int) u_str) (u_tup (ua_cons (u_ixT (u_var 2 rfl) u_int) (ua_cons (u_ifF (t_eq (u_ixT (u_var 2 rfl) u_int) u_str) u_non) ua_nil)))
      | rtrade => exact u_ifF (t_eq (u_ixT (u_var 2 rfl) u_int) u_str) (u_tup (ua_cons (u_ixT (u_var 2 rfl) u_int) (ua_cons (u_ifT (t_eq (u_ixT (u_var 2 rfl) u_int) u_str) (u_var 1 rfl)) ua_nil)))
    | stack r m =>
      exact b_set 3 sc_applied_in.nd (u_ixT (u_var 0 rfl) u_int) (b_ifF (t_eq (u_var 3 rfl) u_str) (b_ifF (t_eq (u_var 3 rfl) u_str) (b_ifT (t_eq (u_var 3 rfl) u_str) (b_ret (u_call (cal_on_stack S) hr (ua_cons (u_var 0 rfl) (ua_cons (u_var 1 rfl) (ua_cons (u_var 2 rfl) ua_nil))) ⟨_, _, _, _, _, _, rfl, ha0, rfl⟩)))))
    | queue r m =>
      exact b_set 3 sc_applied_in.nd (u_ixT (u_var 0 rfl) u_int) (b_ifF (t_eq (u_var 3 rfl) u_str) (b_ifF (t_eq (u_var 3 rfl) u_str) (b_ifF (t_eq (u_var 3 rfl) u_str) (b_ifT (t_eq (u_var 3 rfl) u_str) (b_ret (u_call (cal_on_queue S) hr (ua_cons (u_var 0 rfl) (ua_cons (u_var 1 rfl) (ua_cons (u_var 2 rfl) ua_nil))) ⟨_, _, _, _, _, _, rfl, ha0, rfl⟩))))))
    | set m =>
      exact b_set 3 sc_applied_in.nd (u_ixT (u_var 0 rfl) u_int) (b_ifF (t_eq (u_var 3 rfl) u_str) (b_ifF (t_eq (u_var 3 rfl) u_str) (b_ifF (t_eq (u_var 3 rfl) u_str) (b_ifF (t_eq (u_var 3 rfl) u_str) (b_ifT (t_eq (u_var 3 rfl) u_str) (b_ret (u_call (cal_on_set S) hr (ua_cons (u_var 1 rfl) (ua_cons (u_var 2 rfl) ua_nil)) ⟨_, _, _, _, _, rfl, ha0, rfl⟩)))))))
    | agree m =>
      refine b_set 3 sc_applied_in.nd (u_ixT (u_var 0 rfl) u_int) (b_ifF (t_eq (u_var 3 rfl) u_str) (b_ifF (t_eq (u_var 3 rfl) u_str) (b_ifF (t_eq (u_var 3 rfl) u_str) (b_ifF (t_eq (u_var 3 rfl) u_str) (b_ifF (t_eq (u_var 3 rfl) u_str) (b_ifT (t_eq (u_var 3 rfl) u_str) (b_ret ?_)))))))
      cases ha with
      | adec0 => exact u_ifT (t_is (t_isN (u_var 1 rfl)) rfl) (u_tup (ua_cons (u_ixT (u_var 2 rfl) u_int) (ua_cons (u_ixT (u_var 2 rfl) u_int) ua_nil)))
      | adec1 => exact u_ifF (t_is (t_isN (u_var 1 rfl)) rfl) (u_tup (ua_cons (u_var 1 rfl) (ua_cons (u_var 1 rfl) ua_nil)))
    | bank as =>
      exact b_set 3 sc_applied_in.nd (u_ixT (u_var 0 rfl) u_int) (b_ifF (t_eq (u_var 3 rfl) u_str) (b_ifF (t_eq (u_var 3 rfl) u_str) (b_ifF (t_eq (u_var 3 rfl) u_str) (b_ifF (t_eq (u_var 3 rfl) u_str) (b_ifF (t_eq (u_var 3 rfl) u_str) (b_ifF (t_eq (u_var 3 rfl) u_str) (b_ifT (t_eq (u_var 3 rfl) u_str) (b_ret (u_call (cal_on_bank S) hr (ua_cons (u_var 1 rfl) (ua_cons (u_var 2 rfl) ua_nil)) ⟨_, _, _, _, _, rfl, ha0, rfl⟩)))))))))
    | table rows =>
      refine b_set 3 sc_applied_in.nd (u_ixT (u_var 0 rfl) u_int) (b_ifF (t_eq (u_var 3 rfl) u_str) (b_ifF (t_eq (u_var 3 rfl) u_str) (b_ifF (t_eq (u_var 3 rfl) u_str) (b_ifF (t_eq (u_var 3 rfl) u_str) (b_ifF (t_eq (u_var 3 rfl) u_str) (b_ifF (t_eq (u_var 3 rfl) u_str) (b_ifF (t_eq (u_var 3 rfl) u_str) (b_ret ?_))))))))
      cases ha with
      | tdo h1 h2 => exact u_ixT (u_ixT (u_ixT (u_var 0 rfl) u_int) (u_var 1 rfl) (ix_map (f := rowD) h1)) (u_ixT (u_var 2 rfl) u_int) (ix_map (f := fun p => tI [p.1, p.2]) h2)
end
end P6
namespace P6
open PySem PySem.Spec PyProof.Rows L2
/-! ### the program's machines, as data -/
inductive Way where
  | re | lo | na
/-- a thread: calls ended, what is next, what it holds -/
structure Ca where
  e : Nat
  ph : Nat
  h : D
/-- a standing: the cells, the threads -/
structure SP where
  ce : D
  cs : List Ca
inductive Ev where
  | call (th : Nat) (c : D) | ans (th : Nat) (a : D)
def caD (c : Ca) : D := .tup [.int c.e, .int c.ph, c.h]
def spD (s : SP) : D := .tup [s.ce, .tup (s.cs.map caD)]
def evD : Ev → D
  | .call th c => .tup [.str "call", .int th, c]
  | .ans th a => .tup [.str "answer", .int th, a]
def evsD (es : List Ev) : D := .tup (es.map evD)
def ceR (n : Nat) (st : D) : D := .tup [.int n, st]
def loD : Option Nat → D
  | none => .non
  | some n => .int n
def ceL (l : Option Nat) (st : D) : D := .tup [loD l, st]
/-- a step of a thread, its call given: cells, thread, cells behind, thread behind, events -/
inductive StX : Way → Thing → D → Nat → D → Ca → D → Ca → List Ev → Prop
  | rBeg {t c th n st e} : StX .re t c th (ceR n st) ⟨e, 0, .non⟩ (ceR n st) ⟨e, 1, ceR n st⟩ [.call th c]
  | rAgain {t c th n st e} : StX .re t c th (ceR n st) ⟨e, 2, .non⟩ (ceR n st) ⟨e, 1, ceR n st⟩ []
  | rMiss {t c th n n' st st' e} : n' ≠ n → StOk t st → StOk t st' → StX .re t c th (ceR n st) ⟨e, 1, ceR n' st'⟩ (ceR n st) ⟨e, 2, .non⟩ []
  | rHit {t c th n st st' a e} : StOk t st → App t st c st' a → StX .re t c th (ceR n st) ⟨e, 1, ceR n st⟩ (ceR (n + 1) st') ⟨e + 1, 0, .non⟩ [.ans th a]
  | lBeg {t c th st e} : StX .lo t c th (ceL none st) ⟨e, 0, .non⟩ (ceL (some th) st) ⟨e, 1, .non⟩ [.call th c]
  | lBegN {t c th u st e} : StX .lo t c th (ceL (some u) st) ⟨e, 0, .non⟩ (ceL (some u) st) ⟨e, 4, .non⟩ [.call th c]
  | lTake {t c th st e} : StX .lo t c th (ceL none st) ⟨e, 4, .non⟩ (ceL (some th) st) ⟨e, 1, .non⟩ []
  | lWait {t c th u st e} : StX .lo t c th (ceL (some u) st) ⟨e, 4, .non⟩ (ceL (some u) st) ⟨e, 4, .non⟩ []
  | lRead {t c th l st st' a e} : App t st c st' a → StX .lo t c th (ceL l st) ⟨e, 1, .non⟩ (ceL l st) ⟨e, 2, .tup [st', a]⟩ []
  | lWrite {t c th l st st' a e} : StX .lo t c th (ceL l st) ⟨e, 2, .tup [st', a]⟩ (ceL l st') ⟨e, 3, .tup [st', a]⟩ []
  | lGive {t c th l st st' a e} : StX .lo t c th (ceL l st) ⟨e, 3, .tup [st', a]⟩ (ceL none st) ⟨e + 1, 0, .non⟩ [.ans th a]
  | nBeg {t c th st e} : StX .na t c th st ⟨e, 0, .non⟩ st ⟨e, 1, .tup [st]⟩ [.call th c]
  | nWrite {t c th st st0 st' a e} : App t st0 c st' a → StX .na t c th st ⟨e, 1, .tup [st0]⟩ st' ⟨e + 1, 0, .non⟩ [.ans th a]
def firstCe : Way → Thing → D
  | .re, t => .tup [.int 0, firstD t]
  | .lo, t => .tup [.non, firstD t]
  | .na, t => firstD t
def firstSP (wy : Way) (t : Thing) (ps : List (List D)) : SP := ⟨firstCe wy t, List.replicate ps.length ⟨0, 0, .non⟩⟩
/-- nothing that changes is in it -/
structure SPok (ps : List (List D)) (s : SP) : Prop where
  len : s.cs.length = ps.length
  ce : noL s.ce = true
  h : ∀ c ∈ s.cs, noL c.h = true
def caOf (s : SP) (th : Nat) : Ca := s.cs.getD th ⟨0, 0, .non⟩
/-- a step of a thread of the plans -/
structure StepP (wy : Way) (t : Thing) (ps : List (List D)) (s : SP) (th : Nat) (s' : SP) (ev : List Ev) : Prop where
  ok : SPok ps s
  ok' : SPok ps s'
  ex : ∃ ca plan call ca', s.cs[th]? = some ca ∧ ps[th]? = some plan ∧ plan[ca.e]? = some call ∧ noL call = true ∧ StX wy t call th s.ce ca s'.ce ca' ev ∧ s'.cs = s.cs.set th ca' ∧ noLs (ev.map evD) = true
def itD (p : SP × List Ev) : D := .tup [spD p.1, evsD p.2]
/-- the standings and events along a weaving -/
structure RunP (wy : Way) (t : Thing) (ps : List (List D)) (ws : List Nat) (tr : List (SP × List Ev)) : Prop where
  len : tr.length = ws.length + 1
  zero : tr[0]? = some (firstSP wy t ps, [])
  step : ∀ (k th : Nat), ws[k]? = some th → ∃ s e s' ev, tr[k]? = some (s, e) ∧ tr[k + 1]? = some (s', ev) ∧ StepP wy t ps s th s' ev
  n0 : noLs (tr.map itD) = true
theorem noL_tup {ds : List D} (h : noLs ds = true) : noL (.tup ds) = true := by simpa [noL] using h
theorem noLs_cons {d : D} {ds : List D} (h : noL d = true) (t : noLs ds = true) : noLs (d :: ds) = true := by simp [noLs, h, t]
theorem noL_caD {c : Ca} (h : noL c.h = true) : noL (caD c) = true := noL_tup (noLs_cons rfl (noLs_cons rfl (noLs_cons h rfl)))
theorem noLs_cs {cs : List Ca} (h : ∀ c ∈ cs, noL c.h = true) : noLs (cs.map caD) = true := noLs_iff.mpr fun d hd => by
  obtain ⟨c, h1, h2⟩ := List.mem_map.mp hd
  rw [← h2]
  exact noL_caD (h c h1)
theorem SPok.noL {ps : List (List D)} {s : SP} (h : SPok ps s) : noL (spD s) = true := noL_tup (noLs_cons h.ce (noLs_cons (noL_tup (noLs_cs h.h)) rfl))
end P6
namespace P6
open PySem PySem.Spec PyProof.Rows L2 H6
theorem u_succ {X : Cx} {Γ : List G} {a : Expr} {k : Nat} {p pos : Pos} {n : Nat} (ha : U X a Γ (.int n)) : U X (.BinOp a .Add (.Constant (.int 1) k p) pos) Γ (.int ((n + 1 : Nat) : Int)) := u_is (u_add ha u_int) (by simp)
def selfD (C : Addr) (t : Thing) (ps : List (List D)) : D := .mac C t.d (plansD ps) ps.length
def rFC (wy : Way) (C : Addr) (ds : List D) (d : D) : Prop := ∃ t ps, ds = [selfD C t ps] ∧ d = firstCe wy t
def rStep (wy : Way) (C : Addr) (ds : List D) (d : D) : Prop := ∃ t ps ce cs th ca plan call ca' ce' ev, ds = [selfD C t ps, spD ⟨ce, cs⟩, .int (th : Nat)] ∧ cs[th]? = some ca ∧ ps[th]? = some plan ∧ plan[ca.e]? = some call ∧ StX wy t call th ce ca ce' ca' ev ∧ d = .tup [ce', caD ca', evsD ev]
/-- the object's state, told by the cells -/
def stateOf : Way → D → D
  | .na, d => d
  | _, .tup [_, d] => d
  | _, d => d
section
variable {P : Program} {w : World} {K : PySem.W.Frag} {mg : Str → Option Value} {base : Heap}
theorem fl_Re (S : Ctx K mg) : Fl K (He.ga K "Retried") := ⟨cl_Retried S, no_Retried_thing S, no_Retried_plans S, no_Retried_many S⟩
theorem fl_Lo (S : Ctx K mg) : Fl K (He.ga K "Locked") := ⟨cl_Locked S, no_Locked_thing S, no_Locked_plans S, no_Locked_many S⟩
theorem fl_Na (S : Ctx K mg) : Fl K (He.ga K "Naive") := ⟨cl_Naive S, no_Naive_thing S, no_Naive_plans S, no_Naive_many S⟩
theorem fc_Re (S : Ctx K mg) : MCal P w K mg base (He.ga K "Retried") "first_cells" p_Retried_first_cells 2 (spP (rFC .re (He.ga K "Retried"))) := by
  obtain ⟨fd, F⟩ := F_Retried_first_cells S
  refine ⟨_, fd, fn_pure F sc_Retried_first_cells ?_ ?_, M_Retried_first_cells S, bd_Retried_first_cells F⟩
  · rintro ds d ⟨t, ps, rfl, _⟩
    rfl
  · rintro cdv A outer s H E hr ds d ⟨t, ps, rfl, rfl⟩
    exact .inl (b_ret (u_tup (ua_cons u_int (ua_cons (u_call (cal_first_in S) hr (ua_cons (u_thing (fl_Re S) (u_var 0 rfl)) ua_nil) ⟨t, rfl, rfl⟩) ua_nil))))
theorem fc_Lo (S : Ctx K mg) : MCal P w K mg base (He.ga K "Locked") "first_cells" p_Locked_first_cells 2 (spP (rFC .lo (He.ga K "Locked"))) := by
  obtain ⟨fd, F⟩ := F_Locked_first_cells S
  refine ⟨_, fd, fn_pure F sc_Locked_first_cells ?_ ?_, M_Locked_first_cells S, bd_Locked_first_cells F⟩
  · rintro ds d ⟨t, ps, rfl, _⟩
    rfl
  · rintro cdv A outer s H E hr ds d ⟨t, ps, rfl, rfl⟩
    exact .inl (b_ret (u_tup (ua_cons u_non (ua_cons (u_call (cal_first_in S) hr (ua_cons (u_thing (fl_Lo S) (u_var 0 rfl)) ua_nil) ⟨t, rfl, rfl⟩) ua_nil))))
theorem fc_Na (S : Ctx K mg) : MCal P w K mg base (He.ga K "Naive") "first_cells" p_Naive_first_cells 2 (spP (rFC .na (He.ga K "Naive"))) := by
  obtain ⟨fd, F⟩ := F_Naive_first_cells S
  refine ⟨_, fd, fn_pure F sc_Naive_first_cells ?_ ?_, M_Naive_first_cells S, bd_Naive_first_cells F⟩
  · rintro ds d ⟨t, ps, rfl, _⟩
    rfl
  · rintro cdv A outer s H E hr ds d ⟨t, ps, rfl, rfl⟩
    exact .inl (b_ret (u_call (cal_first_in S) hr (ua_cons (u_thing (fl_Na S) (u_var 0 rfl)) ua_nil) ⟨t, rfl, rfl⟩))
theorem sh_ceR {n : Nat} {st : D} (h : shN 1 st) : sh (ceR n st) = true := (shN_tup (shN_cons shN_int (shN_cons h shN_nil)) : shN 2 (ceR n st)).sh (by decide)
theorem eqD_ceR {n m : Nat} {st st' : D} (h : n ≠ m) : eqD (ceR n st) (ceR m st') = false := by
  show (((n : Int) == (m : Int)) && _) = false
  have : ((n : Int) == (m : Int)) = false := beq_eq_false_iff_ne.mpr (by omega)
  rw [this]
  rfl
theorem st_Re (S : Ctx K mg) : MCal P w K mg base (He.ga K "Retried") "step" p_Retried_step 3 (spP (rStep .re (He.ga K "Retried"))) := by
  obtain ⟨fd, F⟩ := F_Retried_step S
  refine ⟨_, fd, fn_pure F sc_Retried_step ?_ ?_, M_Retried_step S, bd_Retried_step F⟩
  · rintro ds d ⟨t, ps, ce, cs, th, ca, plan, call, ca', ce', ev, rfl, _⟩
    rfl
  · rintro cdv A outer s H E hr ds d ⟨t, ps, ce, cs, th, ca, plan, call, ca', ce', ev, rfl, hca, hp, hc, hst, rfl⟩
    refine .inl (b_unp2 3 4 sc_Retried_step.nd (u_var 1 rfl) (b_unp3 5 6 7 sc_Retried_step.nd (u_ixT (u_var 4 rfl) (u_var 2 rfl) (ix_map (f := caD) hca)) (b_set 8 sc_Retried_step.nd (u_ixT (u_ixT (u_plans (fl_Re S) (u_var 0 rfl)) (u_var 2 rfl) (ix_map (f := D.tup) hp)) (u_var 5 rfl) (atI_nat hc)) ?_)))
    cases hst with
    | rBeg => exact b_ifT (t_is (t_ne (u_var 6 rfl) u_int rfl) rfl) (b_ret (u_tup (ua_cons (u_var 3 rfl) (ua_cons (u_tup (ua_cons (u_var 5 rfl) (ua_cons u_int (ua_cons (u_var 3 rfl) ua_nil)))) (ua_cons (u_ifT (t_eq (u_var 6 rfl) u_int) (u_tup (ua_cons (u_tup (ua_cons u_str (ua_cons (u_var 2 rfl) (ua_cons (u_var 8 rfl) ua_nil)))) ua_nil))) ua_nil)))))
    | rAgain => exact b_ifT (t_is (t_ne (u_var 6 rfl) u_int rfl) rfl) (b_ret (u_tup (ua_cons (u_var 3 rfl) (ua_cons (u_tup (ua_cons (u_var 5 rfl) (ua_cons u_int (ua_cons (u_var 3 rfl) ua_nil)))) (ua_cons (u_ifF (t_eq (u_var 6 rfl) u_int) (u_tup ua_nil)) ua_nil)))))
    | rMiss h h1 h2 => exact b_ifF (t_is (t_ne (u_var 6 rfl) u_int rfl) rfl) (b_ifT (t_is (t_neD hr (sh_ceR h2.sh) (sh_ceR h1.sh) (u_var 7 rfl) (u_var 3 rfl) (eqD_ceR h)) rfl) (b_ret (u_tup (ua_cons (u_var 3 rfl) (ua_cons (u_tup (ua_cons (u_var 5 rfl) (ua_cons u_int (ua_cons u_non ua_nil)))) (ua_cons (u_tup ua_nil) ua_nil))))))
    | rHit h h1 => exact b_ifF (t_is (t_ne (u_var 6 rfl) u_int rfl) rfl) (b_ifF (t_is (t_neD hr (sh_ceR h.sh) (sh_ceR h.sh) (u_var 7 rfl) (u_var 3 rfl) (eqD_refl (sh_ceR h.sh))) rfl) (b_unp2 9 10 sc_Retried_step.nd (u_call (cal_applied_in S) hr (ua_cons (u_thing (fl_Re S) (u_var 0 rfl)) (ua_cons (u_ixT (u_var 3 rfl) u_int) (ua_cons (u_var 8 rfl) ua_nil))) ⟨_, _, _, _, _, rfl, h1, rfl⟩)
        (b_ret (u_tup (ua_cons (u_tup (ua_cons (u_succ (u_ixT (u_var 3 rfl) u_int)) (ua_cons (u_var 9 rfl) ua_nil))) (ua_cons (u_tup (ua_cons (u_succ (u_var 5 rfl)) (ua_cons u_int (ua_cons u_non ua_nil)))) (ua_cons (u_tup (ua_cons (u_tup (ua_cons u_str (ua_cons (u_var 2 rfl) (ua_cons (u_var 10 rfl) ua_nil)))) ua_nil)) ua_nil)))))))
theorem st_Lo (S : Ctx K mg) : MCal P w K mg base (He.ga K "Locked") "step" p_Locked_step 3 (spP (rStep .lo (He.ga K "Locked"))) := by
  obtain ⟨fd, F⟩ := F_Locked_step S
  refine ⟨_, fd, fn_pure F sc_Locked_step ?_ ?_, M_Locked_step S, bd_Locked_step F⟩
  · rintro ds d ⟨t, ps, ce, cs, th, ca, plan, call, ca', ce', ev, rfl, _⟩
    rfl
  · rintro cdv A outer s H E hr ds d ⟨t, ps, ce, cs, th, ca, plan, call, ca', ce', ev, rfl, hca, hp, hc, hst, rfl⟩
    refine .inl (b_unp2 3 4 sc_Locked_step.nd (u_var 1 rfl) (b_unp3 5 6 7 sc_Locked_step.nd (u_ixT (u_var 4 rfl) (u_var 2 rfl) (ix_map (f := caD) hca)) (b_set 8 sc_Locked_step.nd (u_ixT (u_ixT (u_plans (fl_Lo S) (u_var 0 rfl)) (u_var 2 rfl) (ix_map (f := D.tup) hp)) (u_var 5 rfl) (atI_nat hc)) ?_)))
    cases hst with
    | lBeg => exact b_ifT (t_inT (u_var 6 rfl) (u_tup (ua_cons u_int (ua_cons u_int ua_nil)))) (b_set 9 sc_Locked_step.nd (u_ifT (t_eq (u_var 6 rfl) u_int) (u_tup (ua_cons (u_tup (ua_cons u_str (ua_cons (u_var 2 rfl) (ua_cons (u_var 8 rfl) ua_nil)))) ua_nil))) (b_ifT (t_is (t_isN (u_ixT (u_var 3 rfl) u_int)) rfl) (b_ret
        (u_tup (ua_cons (u_tup (ua_cons (u_var 2 rfl) (ua_cons (u_ixT (u_var 3 rfl) u_int) ua_nil))) (ua_cons (u_tup (ua_cons (u_var 5 rfl) (ua_cons u_int (ua_cons u_non ua_nil)))) (ua_cons (u_var 9 rfl) ua_nil)))))))
    | lBegN => exact b_ifT (t_inT (u_var 6 rfl) (u_tup (ua_cons u_int (ua_cons u_int ua_nil)))) (b_set 9 sc_Locked_step.nd (u_ifT (t_eq (u_var 6 rfl) u_int) (u_tup (ua_cons (u_tup (ua_cons u_str (ua_cons (u_var 2 rfl) (ua_cons (u_var 8 rfl) ua_nil)))) ua_nil))) (b_ifF (t_is (t_isN (u_ixT (u_var 3 rfl) u_int)) rfl) (b_ret
        (u_tup (ua_cons (u_var 3 rfl) (ua_cons (u_tup (ua_cons (u_var 5 rfl) (ua_cons u_int (ua_cons u_non ua_nil)))) (ua_cons (u_var 9 rfl) ua_nil)))))))
    | lTake => exact b_ifT (t_inT (u_var 6 rfl) (u_tup (ua_cons u_int (ua_cons u_int ua_nil)))) (b_set 9 sc_Locked_step.nd (u_ifF (t_eq (u_var 6 rfl) u_int) (u_tup ua_nil)) (b_ifT (t_is (t_isN (u_ixT (u_var 3 rfl) u_int)) rfl) (b_ret
        (u_tup (ua_cons (u_tup (ua_cons (u_var 2 rfl) (ua_cons (u_ixT (u_var 3 rfl) u_int) ua_nil))) (ua_cons (u_tup (ua_cons (u_var 5 rfl) (ua_cons u_int (ua_cons u_non ua_nil)))) (ua_cons (u_var 9 rfl) ua_nil)))))))
    | lWait => exact b_ifT (t_inT (u_var 6 rfl) (u_tup (ua_cons u_int (ua_cons u_int ua_nil)))) (b_set 9 sc_Locked_step.nd (u_ifF (t_eq (u_var 6 rfl) u_int) (u_tup ua_nil)) (b_ifF (t_is (t_isN (u_ixT (u_var 3 rfl) u_int)) rfl) (b_ret
        (u_tup (ua_cons (u_var 3 rfl) (ua_cons (u_tup (ua_cons (u_var 5 rfl) (ua_cons u_int (ua_cons u_non ua_nil)))) (ua_cons (u_var 9 rfl) ua_nil)))))))
    | lRead h => exact b_ifF (t_inT (u_var 6 rfl) (u_tup (ua_cons u_int (ua_cons u_int ua_nil)))) (b_ifT (t_eq (u_var 6 rfl) u_int) (b_ret (u_tup (ua_cons (u_var 3 rfl) (ua_cons (u_tup (ua_cons (u_var 5 rfl) (ua_cons u_int (ua_cons (u_call (cal_applied_in S) hr (ua_cons (u_thing (fl_Lo S) (u_var 0 rfl)) (ua_cons (u_ixT (u_var 3 rfl) u_int) (ua_cons (u_var 8 rfl) ua_nil))) ⟨_, _, _, _, _, rfl, h, rfl⟩) ua_nil)))) (ua_cons (u_tup ua_nil) ua_nil))))))
    | lWrite => exact b_ifF (t_inT (u_var 6 rfl) (u_tup (ua_cons u_int (ua_cons u_int ua_nil)))) (b_ifF (t_eq (u_var 6 rfl) u_int) (b_ifT (t_eq (u_var 6 rfl) u_int) (b_ret (u_tup (ua_cons (u_tup (ua_cons (u_ixT (u_var 3 rfl) u_int) (ua_cons (u_ixT (u_var 7 rfl) u_int) ua_nil))) (ua_cons (u_tup (ua_cons (u_var 5 rfl) (ua_cons u_int (ua_cons (u_var 7 rfl) ua_nil)))) (ua_cons (u_tup ua_nil) ua_nil)))))))
    | lGive => exact b_ifF (t_inT (u_var 6 rfl) (u_tup (ua_cons u_int (ua_cons u_int ua_nil)))) (b_ifF (t_eq (u_var 6 rfl) u_int) (b_ifF (t_eq (u_var 6 rfl) u_int) (b_ret (u_tup (ua_cons (u_tup (ua_cons u_non (ua_cons (u_ixT (u_var 3 rfl) u_int) ua_nil))) (ua_cons (u_tup (ua_cons (u_succ (u_var 5 rfl)) (ua_cons u_int (ua_cons u_non ua_nil)))) (ua_cons (u_tup (ua_cons (u_tup (ua_cons u_str (ua_cons (u_var 2 rfl) (ua_cons (u_ixT (u_var 7 rfl) u_int) ua_nil)))) ua_nil)) ua_nil)))))))
theorem st_Na (S : Ctx K mg) : MCal P w K mg base (He.ga K "Naive") "step" p_Naive_step 3 (spP (rStep .na (He.ga K "Naive"))) := by
  obtain ⟨fd, F⟩ := F_Naive_step S
  refine ⟨_, fd, fn_pure F sc_Naive_step ?_ ?_, M_Naive_step S, bd_Naive_step F⟩
  · rintro ds d ⟨t, ps, ce, cs, th, ca, plan, call, ca', ce', ev, rfl, _⟩
    rfl
  · rintro cdv A outer s H E hr ds d ⟨t, ps, ce, cs, th, ca, plan, call, ca', ce', ev, rfl, hca, hp, hc, hst, rfl⟩
    refine .inl (b_unp2 3 4 sc_Naive_step.nd (u_var 1 rfl) (b_unp3 5 6 7 sc_Naive_step.nd (u_ixT (u_var 4 rfl) (u_var 2 rfl) (ix_map (f := caD) hca)) (b_set 8 sc_Naive_step.nd (u_ixT (u_ixT (u_plans (fl_Na S) (u_var 0 rfl)) (u_var 2 rfl) (ix_map (f := D.tup) hp)) (u_var 5 rfl) (atI_nat hc)) ?_)))
    cases hst with
    | nBeg => exact b_ifT (t_eq (u_var 6 rfl) u_int) (b_ret (u_tup (ua_cons (u_var 3 rfl) (ua_cons (u_tup (ua_cons (u_var 5 rfl) (ua_cons u_int (ua_cons (u_tup (ua_cons (u_var 3 rfl) ua_nil)) ua_nil)))) (ua_cons (u_tup (ua_cons (u_tup (ua_cons u_str (ua_cons (u_var 2 rfl) (ua_cons (u_var 8 rfl) ua_nil)))) ua_nil)) ua_nil)))))
    | nWrite h => exact b_ifF (t_eq (u_var 6 rfl) u_int) (b_unp2 9 10 sc_Naive_step.nd (u_call (cal_applied_in S) hr (ua_cons (u_thing (fl_Na S) (u_var 0 rfl)) (ua_cons (u_ixT (u_var 7 rfl) u_int) (ua_cons (u_var 8 rfl) ua_nil))) ⟨_, _, _, _, _, rfl, h, rfl⟩)
        (b_ret (u_tup (ua_cons (u_var 9 rfl) (ua_cons (u_tup (ua_cons (u_succ (u_var 5 rfl)) (ua_cons u_int (ua_cons u_non ua_nil)))) (ua_cons (u_tup (ua_cons (u_tup (ua_cons u_str (ua_cons (u_var 2 rfl) (ua_cons (u_var 10 rfl) ua_nil)))) ua_nil)) ua_nil))))))
/-! ### the state, what was applied -/
def rOState (wy : Way) (C : Addr) (ds : List D) (d : D) : Prop := ∃ t ps s, ds = [selfD C t ps, spD s] ∧ (match wy with | .na => d = s.ce | _ => ∃ x, s.ce = .tup [x, d])
/-- the call that a step applies -/
def newlyP (wy : Way) (s s' : SP) (th : Nat) (ls : List (Nat × Nat)) : Prop := ∃ ca, s.cs[th]? = some ca ∧ match wy with
  | .re => ∃ n st n' st', s.ce = ceR n st ∧ s'.ce = ceR n' st' ∧ ls = if n < n' then [(th, ca.e)] else []
  | .lo => ls = if ca.ph = 2 then [(th, ca.e)] else []
  | .na => ls = if ca.ph = 1 then [(th, ca.e)] else []
def logD (ls : List (Nat × Nat)) : List D := ls.map fun p => tI [p.1, p.2]
def rNewly (wy : Way) (C : Addr) (ds : List D) (d : D) : Prop := ∃ t ps s s' th ls, ds = [selfD C t ps, spD s, spD s', .int (th : Nat)] ∧ newlyP wy s s' th ls ∧ d = .lst (logD ls)
theorem os_Re (S : Ctx K mg) : MCal P w K mg base (He.ga K "Retried") "object_state" p_Retried_object_state 1 (spP (rOState .re (He.ga K "Retried"))) := by
  obtain ⟨fd, F⟩ := F_Retried_object_state S
  refine ⟨_, fd, fn_pure F sc_Retried_object_state ?_ ?_, M_Retried_object_state S, bd_Retried_object_state F⟩
  · rintro ds d ⟨t, ps, s, rfl, _⟩
    rfl
  · rintro cdv A outer s0 H E hr ds d ⟨t, ps, ⟨ce, cs⟩, rfl, x, rfl⟩
    exact .inl (b_ret (u_ixT (u_ixT (u_var 1 rfl) u_int) u_int))
theorem os_Lo (S : Ctx K mg) : MCal P w K mg base (He.ga K "Locked") "object_state" p_Locked_object_state 1 (spP (rOState .lo (He.ga K "Locked"))) := by
  obtain ⟨fd, F⟩ := F_Locked_object_state S
  refine ⟨_, fd, fn_pure F sc_Locked_object_state ?_ ?_, M_Locked_object_state S, bd_Locked_object_state F⟩
  · rintro ds d ⟨t, ps, s, rfl, _⟩
    rfl
  · rintro cdv A outer s0 H E hr ds d ⟨t, ps, ⟨ce, cs⟩, rfl, x, rfl⟩
    exact .inl (b_ret (u_ixT (u_ixT (u_var 1 rfl) u_int) u_int))
theorem os_Na (S : Ctx K mg) : MCal P w K mg base (He.ga K "Naive") "object_state" p_Naive_object_state 1 (spP (rOState .na (He.ga K "Naive"))) := by
  obtain ⟨fd, F⟩ := F_Naive_object_state S
  refine ⟨_, fd, fn_pure F sc_Naive_object_state ?_ ?_, M_Naive_object_state S, bd_Naive_object_state F⟩
  · rintro ds d ⟨t, ps, s, rfl, _⟩
    rfl
  · rintro cdv A outer s0 H E hr ds d ⟨t, ps, ⟨ce, cs⟩, rfl, rfl⟩
    exact .inl (b_ret (u_ixT (u_var 1 rfl) u_int))
theorem nw_Re (S : Ctx K mg) : MCal P w K mg base (He.ga K "Retried") "newly" p_Retried_newly 1 (spP (rNewly .re (He.ga K "Retried"))) := by
  obtain ⟨fd, F⟩ := F_Retried_newly S
  refine ⟨_, fd, fn_pure F sc_Retried_newly ?_ ?_, M_Retried_newly S, bd_Retried_newly F⟩
  · rintro ds d ⟨t, ps, s, s', th, ls, rfl, _⟩
    rfl
  · rintro cdv A outer s0 H E hr ds d ⟨t, ps, ⟨ce, cs⟩, ⟨ce', cs'⟩, th, ls, rfl, ⟨ca, hca, n, st, n', st', rfl, rfl, rfl⟩, rfl⟩
    refine .inl (b_ret ?_)
    by_cases h : n < n'
    · rw [if_pos h]
      exact u_ifT (t_is (t_gt (u_ixT (u_ixT (u_var 2 rfl) u_int) u_int) (u_ixT (u_ixT (u_var 1 rfl) u_int) u_int)) (decide_eq_true (by omega))) (u_lst (ua_cons (u_tup (ua_cons (u_var 3 rfl) (ua_cons (u_ixT (u_ixT (u_ixT (u_var 1 rfl) u_int) (u_var 3 rfl) (ix_map (f := caD) hca)) u_int) ua_nil))) ua_nil))
    · rw [if_neg h]
      exact u_ifF (t_is (t_gt (u_ixT (u_ixT (u_var 2 rfl) u_int) u_int) (u_ixT (u_ixT (u_var 1 rfl) u_int) u_int)) (decide_eq_false (by omega))) (u_lst ua_nil)
theorem eqS_ii {i j : Int} : eqS (.int i) (.int j) = some (decide (i = j)) := rfl
theorem nw_Lo (S : Ctx K mg) : MCal P w K mg base (He.ga K "Locked") "newly" p_Locked_newly 1 (spP (rNewly .lo (He.ga K "Locked"))) := by
  obtain ⟨fd, F⟩ := F_Locked_newly S
  refine ⟨_, fd, fn_pure F sc_Locked_newly ?_ ?_, M_Locked_newly S, bd_Locked_newly F⟩
  · rintro ds d ⟨t, ps, s, s', th, ls, rfl, _⟩
    rfl
  · rintro cdv A outer s0 H E hr ds d ⟨t, ps, ⟨ce, cs⟩, ⟨ce', cs'⟩, th, ls, rfl, ⟨ca, hca, rfl⟩, rfl⟩
    refine .inl (b_ret ?_)
    by_cases h : ca.ph = 2
    · rw [if_pos h]
      exact u_ifT (t_is (t_eq (u_ixT (u_ixT (u_ixT (u_var 1 rfl) u_int) (u_var 3 rfl) (ix_map (f := caD) hca)) u_int) u_int eqS_ii) (decide_eq_true (by rw [h]; rfl))) (u_lst (ua_cons (u_tup (ua_cons (u_var 3 rfl) (ua_cons (u_ixT (u_ixT (u_ixT (u_var 1 rfl) u_int) (u_var 3 rfl) (ix_map (f := caD) hca)) u_int) ua_nil))) ua_nil))
    · rw [if_neg h]
      exact u_ifF (t_is (t_eq (u_ixT (u_ixT (u_ixT (u_var 1 rfl) u_int) (u_var 3 rfl) (ix_map (f := caD) hca)) u_int) u_int eqS_ii) (decide_eq_false (by omega))) (u_lst ua_nil)
theorem nw_Na (S : Ctx K mg) : MCal P w K mg base (He.ga K "Naive") "newly" p_Naive_newly 1 (spP (rNewly .na (He.ga K "Naive"))) := by
  obtain ⟨fd, F⟩ := F_Naive_newly S
  refine ⟨_, fd, fn_pure F sc_Naive_newly ?_ ?_, M_Naive_newly S, bd_Naive_newly F⟩
  · rintro ds d ⟨t, ps, s, s', th, ls, rfl, _⟩
    rfl
  · rintro cdv A outer s0 H E hr ds d ⟨t, ps, ⟨ce, cs⟩, ⟨ce', cs'⟩, th, ls, rfl, ⟨ca, hca, rfl⟩, rfl⟩
    refine .inl (b_ret ?_)
    by_cases h : ca.ph = 1
    · rw [if_pos h]
      exact u_ifT (t_is (t_eq (u_ixT (u_ixT (u_ixT (u_var 1 rfl) u_int) (u_var 3 rfl) (ix_map (f := caD) hca)) u_int) u_int eqS_ii) (decide_eq_true (by rw [h]; rfl))) (u_lst (ua_cons (u_tup (ua_cons (u_var 3 rfl) (ua_cons (u_ixT (u_ixT (u_ixT (u_var 1 rfl) u_int) (u_var 3 rfl) (ix_map (f := caD) hca)) u_int) ua_nil))) ua_nil))
    · rw [if_neg h]
      exact u_ifF (t_is (t_eq (u_ixT (u_ixT (u_ixT (u_var 1 rfl) u_int) (u_var 3 rfl) (ix_map (f := caD) hca)) u_int) u_int eqS_ii) (decide_eq_false (by omega))) (u_lst ua_nil)
end
end P6
namespace P6
open PySem PySem.Spec PyProof.Rows L2 H6
section
variable {P : Program} {w : World} {K : PySem.W.Frag} {mg : Str → Option Value} {base : Heap}
/-- a machine's class -/
structure MC (P : Program) (w : World) (K : PySem.W.Frag) (mg : Str → Option Value) (base : Heap) (wy : Way) (C : Addr) : Prop where
  fl : Fl K C
  fc : MCal P w K mg base C "first_cells" ["self"] 2 (spP (rFC wy C))
  st : MCal P w K mg base C "step" ["self", "standing", "thread"] 3 (spP (rStep wy C))
  os : MCal P w K mg base C "object_state" ["self", "standing"] 1 (spP (rOState wy C))
  nw : MCal P w K mg base C "newly" ["self", "standing", "there", "thread"] 1 (spP (rNewly wy C))
theorem mc_Re (S : Ctx K mg) : MC P w K mg base .re (He.ga K "Retried") := ⟨fl_Re S, fc_Re S, st_Re S, os_Re S, nw_Re S⟩
theorem mc_Lo (S : Ctx K mg) : MC P w K mg base .lo (He.ga K "Locked") := ⟨fl_Lo S, fc_Lo S, st_Lo S, os_Lo S, nw_Lo S⟩
theorem mc_Na (S : Ctx K mg) : MC P w K mg base .na (He.ga K "Naive") := ⟨fl_Na S, fc_Na S, st_Na S, os_Na S, nw_Na S⟩
variable {wy : Way} {C f : Addr} {fd : FuncData}
def rFirstM (wy : Way) (C : Addr) (ds : List D) (d : D) : Prop := ∃ t ps, ds = [selfD C t ps] ∧ PlansOk t ps ∧ d = spD (firstSP wy t ps)
theorem m_first (S : Ctx K mg) (M : MC P w K mg base wy C) (F : FunD K "first" "Machine.first" (defArgs s_M_first) (defBody s_M_first) (defScope s_M_first) [] [] f fd) (m : Meth K C "first" f) : MCal P w K mg base C "first" p_M_first 3 (spP (rFirstM wy C)) := by
  have Bt := bs_of S
  refine ⟨_, fd, fn_pure F sc_M_first ?_ ?_, m, bd_M_first F⟩
  · rintro ds d ⟨t, ps, rfl, _⟩
    rfl
  · rintro cdv A outer s H E hr ds d ⟨t, ps, rfl, hp, rfl⟩
    refine .inl (b_ret (u_tup (ua_cons (u_meth0 M.fl.cls M.fc hr (u_var 0 rfl) ⟨t, ps, rfl, rfl⟩) (ua_cons (u_is (u_tupOf Bt (u_lcM (i := 1) (fun _ => caD ⟨0, 0, .non⟩) sc_M_first.nd (ui_tup (u_plans M.fl (u_var 0 rfl))) (blkOk_by (N := n_M_first) (sc := defScope s_M_first) (by decide +kernel)) (by rw [List.length_map]; exact small_lt (by have := hp.1; omega)) (fun _ _ => rfl)
      fun d hd s' H' C' cl fp => u_tup (ua_cons u_int (ua_cons u_int (ua_cons u_non ua_nil))))) ?_) ua_nil))))
    show D.tup _ = D.tup _
    show D.tup ((ps.map D.tup).map fun _ => caD ⟨0, 0, .non⟩) = D.tup ((List.replicate ps.length ⟨0, 0, .non⟩).map caD)
    rw [List.map_replicate, List.map_const', List.length_map]
def rCanGo (C : Addr) (ds : List D) (d : D) : Prop := ∃ t ps ce cs th ca plan, ds = [selfD C t ps, spD ⟨ce, cs⟩, .int (th : Nat)] ∧ cs[th]? = some ca ∧ ps[th]? = some plan ∧ d = .bl (decide (ca.e < plan.length))
theorem m_can_go (S : Ctx K mg) (M : MC P w K mg base wy C) (F : FunD K "can_go" "Machine.can_go" (defArgs s_M_can_go) (defBody s_M_can_go) (defScope s_M_can_go) [] [] f fd) (m : Meth K C "can_go" f) : MCal P w K mg base C "can_go" p_M_can_go 1 (spP (rCanGo C)) := by
  have Bt := bs_of S
  refine ⟨_, fd, fn_pure F sc_M_can_go ?_ ?_, m, bd_M_can_go F⟩
  · rintro ds d ⟨t, ps, ce, cs, th, ca, plan, rfl, _⟩
    rfl
  · rintro cdv A outer s H E hr ds d ⟨t, ps, ce, cs, th, ca, plan, rfl, hc, hp, rfl⟩
    have hl := (List.getElem?_eq_some_iff.mp hp).1
    refine .inl (b_ret (u_and (u_is (u_lt (u_var 2 rfl) (u_many M.fl (u_var 0 rfl))) (by rw [decide_eq_true (by omega)])) (u_one (u_is (u_lt (u_ixT (u_ixT (u_ixT (u_var 1 rfl) u_int) (u_var 2 rfl) (ix_map (f := caD) hc)) u_int) (u_len Bt (u_ixT (u_plans M.fl (u_var 0 rfl)) (u_var 2 rfl) (ix_map (f := D.tup) hp)))) ?_))))
    show D.bl _ = D.bl _
    congr 1
    simp
def rBusy (C : Addr) (ds : List D) (d : D) : Prop := ∃ t ps ce cs th ca, ds = [selfD C t ps, spD ⟨ce, cs⟩, .int (th : Nat)] ∧ cs[th]? = some ca ∧ d = .bl (!decide (ca.ph = 0))
theorem m_is_busy (F : FunD K "is_busy" "Machine.is_busy" (defArgs s_M_is_busy) (defBody s_M_is_busy) (defScope s_M_is_busy) [] [] f fd) (m : Meth K C "is_busy" f) : MCal P w K mg base C "is_busy" p_M_is_busy 1 (spP (rBusy C)) := by
  refine ⟨_, fd, fn_pure F sc_M_is_busy ?_ ?_, m, bd_M_is_busy F⟩
  · rintro ds d ⟨t, ps, ce, cs, th, ca, rfl, _⟩
    rfl
  · rintro cdv A outer s H E hr ds d ⟨t, ps, ce, cs, th, ca, rfl, hc, rfl⟩
    refine .inl (b_ret (u_is (u_ne (u_ixT (u_ixT (u_ixT (u_var 1 rfl) u_int) (u_var 2 rfl) (ix_map (f := caD) hc)) u_int) u_int eqS_ii) ?_))
    show D.bl _ = D.bl _
    congr 1
    simp
/-- who has a step -/
def goingL (ps : List (List D)) (s : SP) : List Nat := (List.range ps.length).filter fun th => decide ((caOf s th).e < (ps.getD th []).length)
def rGoing (C : Addr) (ds : List D) (d : D) : Prop := ∃ t ps s, ds = [selfD C t ps, spD s] ∧ s.cs.length = ps.length ∧ ps.length ≤ 4 ∧ d = .lst ((goingL ps s).map fun (n : Nat) => .int (n : Int))
theorem keep_filterN {p : Nat → Bool} : ∀ ns : List Nat, keepD (ns.map fun (n : Nat) => if p n = true then some (D.int (n : Int)) else none) = (ns.filter p).map fun (n : Nat) => .int (n : Int)
  | [] => rfl
  | n :: ns => by
    have ih := keep_filterN (p := p) ns
    unfold keepD at ih ⊢
    rw [List.map_cons, List.filterMap_cons, List.filter_cons]
    by_cases h : p n = true
    · rw [if_pos h, if_pos h]
      show D.int n :: _ = _
      rw [ih]
      rfl
    · rw [if_neg h, if_neg h]
      exact ih
theorem m_going (S : Ctx K mg) (M : MC P w K mg base wy C) (cg : MCal P w K mg base C "can_go" p_M_can_go 1 (spP (rCanGo C))) (F : FunD K "going" "Machine.going" (defArgs s_M_going) (defBody s_M_going) (defScope s_M_going) [] [] f fd) (m : Meth K C "going" f) :
    MCal P w K mg base C "going" p_M_going 2 (spP (rGoing C)) := by
  have Bt := bs_of S
  refine ⟨_, fd, fn_pure F sc_M_going ?_ ?_, m, bd_M_going F⟩
  · rintro ds d ⟨t, ps, s, rfl, _⟩
    rfl
  · rintro cdv A outer s0 H E hr ds d ⟨t, ps, ⟨ce, cs⟩, rfl, hl, h4, rfl⟩
    have hl : cs.length = ps.length := hl
    refine .inl (b_ret (u_is (u_lcI (i := 2) ((List.range ps.length).map fun (th : Nat) => if decide ((caOf ⟨ce, cs⟩ th).e < (ps.getD th []).length) = true then some (D.int (th : Int)) else none) sc_M_going.nd (ui_rng1 Bt (u_many M.fl (u_var 0 rfl)) (by omega)) (blkOk_by (N := n_M_going) (sc := defScope s_M_going) (by decide +kernel)) (by rw [List.length_map, rgD_len, List.length_range]) (by rw [rgD_len]; exact small_lt (by omega)) ?_ ?_) ?_))
    · intro o ho d e
      obtain ⟨n, _, h2⟩ := List.mem_map.mp ho
      rw [e] at h2
      split at h2
      · cases h2; rfl
      · cases h2
    · intro j d o hd ho
      obtain ⟨hj, rfl⟩ := rgD_at hd
      rw [Int.zero_add]
      rw [List.getElem?_map, List.getElem?_range hj] at ho
      have eo : (if decide ((caOf ⟨ce, cs⟩ j).e < (ps.getD j []).length) = true then some (D.int (j : Int)) else none) = o := Option.some.inj ho
      have hc : cs[j]? = some (caOf ⟨ce, cs⟩ j) := by
        show cs[j]? = some (cs.getD j _)
        rw [List.getD_eq_getElem?_getD, List.getElem?_eq_getElem (by omega)]
        rfl
      have hp : ps[j]? = some (ps.getD j []) := by
        rw [List.getD_eq_getElem?_getD, List.getElem?_eq_getElem hj]
        rfl
      by_cases q : decide ((caOf ⟨ce, cs⟩ j).e < (ps.getD j []).length) = true
      · rw [if_pos q] at eo
        subst eo
        refine ⟨fun s' H' C' cl fp => t_is (t_val (u_meth M.fl.cls cg hr (u_var 0 rfl) (ua_cons (u_var 1 rfl) (ua_cons (u_var 2 rfl) ua_nil)) ⟨t, ps, ce, cs, j, _, _, rfl, hc, hp, rfl⟩)) q, fun y hy s' H' C' cl fp => ?_⟩
        cases hy
        exact u_var 2 rfl
      · rw [if_neg q] at eo
        subst eo
        exact ⟨fun s' H' C' cl fp => t_is (t_val (u_meth M.fl.cls cg hr (u_var 0 rfl) (ua_cons (u_var 1 rfl) (ua_cons (u_var 2 rfl) ua_nil)) ⟨t, ps, ce, cs, j, _, _, rfl, hc, hp, rfl⟩)) (by simpa using q), fun y hy => nomatch hy⟩
    · rw [keep_filterN]
      rfl
def rStepped (wy : Way) (C : Addr) (ds : List D) (d : D) : Prop := ∃ t ps s th s' ev, ds = [selfD C t ps, spD s, .int (th : Nat)] ∧ ps.length ≤ 4 ∧ StepP wy t ps s th s' ev ∧ d = itD (s', ev)
theorem m_stepped (S : Ctx K mg) (M : MC P w K mg base wy C) (F : FunD K "stepped" "Machine.stepped" (defArgs s_M_stepped) (defBody s_M_stepped) (defScope s_M_stepped) [] [] f fd) (m : Meth K C "stepped" f) : MCal P w K mg base C "stepped" p_M_stepped 4 (spP (rStepped wy C)) := by
  have Bt := bs_of S
  refine ⟨_, fd, fn_pure F sc_M_stepped ?_ ?_, m, bd_M_stepped F⟩
  · rintro ds d ⟨t, ps, s, th, s', ev, rfl, _⟩
    rfl
  · rintro cdv A outer s0 H E hr ds d ⟨t, ps, ⟨ce, cs⟩, th, ⟨ce', cs'⟩, ev, rfl, h4, ⟨⟨hl, _, hn⟩, ⟨hl', _, hn'⟩, ca, plan, call, ca', hc, hp, hk, _, hx, rfl, _⟩, rfl⟩
    have hl : cs.length = ps.length := hl
    have hc : cs[th]? = some ca := hc
    have hth := (List.getElem?_eq_some_iff.mp hc).1
    refine .inl (b_unp3 3 4 5 sc_M_stepped.nd (u_meth M.fl.cls M.st hr (u_var 0 rfl) (ua_cons (u_var 1 rfl) (ua_cons (u_var 2 rfl) ua_nil)) ⟨t, ps, ce, cs, th, ca, plan, call, ca', _, _, rfl, hc, hp, hk, hx, rfl⟩) (b_set 6 sc_M_stepped.nd (d := .tup ((cs.set th ca').map caD))
      (u_tupOf Bt (u_lc (i := 7) ((cs.set th ca').map caD) sc_M_stepped.nd (ui_rng1 Bt (u_many M.fl (u_var 0 rfl)) (by omega)) (blkOk_by (N := n_M_stepped) (sc := defScope s_M_stepped) (by decide +kernel)) (by rw [List.length_map, List.length_set, rgD_len]; exact hl) (by rw [rgD_len]; exact small_lt (by omega)) (noLs_cs hn') fun j d y hd hy s' H' C' cl fp => ?_))
      (b_ret (u_tup (ua_cons (u_tup (ua_cons (u_var 3 rfl) (ua_cons (u_var 6 rfl) ua_nil))) (ua_cons (u_var 5 rfl) ua_nil))))))
    obtain ⟨hj, rfl⟩ := rgD_at hd
    rw [Int.zero_add]
    by_cases q : j = th
    · subst q
      rw [List.getElem?_map, List.getElem?_set_self hth] at hy
      cases hy
      exact u_ifT (t_is (t_eq (u_var 7 rfl) (u_var 2 rfl) eqS_ii) (decide_eq_true rfl)) (u_var 4 rfl)
    · rw [List.getElem?_map, List.getElem?_set_ne (Ne.symm q), List.getElem?_eq_getElem (by omega)] at hy
      cases hy
      exact u_ifF (t_is (t_eq (u_var 7 rfl) (u_var 2 rfl) eqS_ii) (decide_eq_false (by omega))) (u_ixT (u_ixT (u_var 1 rfl) u_int) (u_var 7 rfl) (ix_map (f := caD) (List.getElem?_eq_getElem (by omega))))
def rLine (wy : Way) (C : Addr) (ds : List D) (d : D) : Prop := ∃ t ps ws tr, ds = [selfD C t ps, wD ws] ∧ PlansOk t ps ∧ ws.length ≤ 400 ∧ RunP wy t ps ws tr ∧ d = .lst (tr.map itD)
theorem m_line (S : Ctx K mg) (M : MC P w K mg base wy C) (fi : MCal P w K mg base C "first" p_M_first 3 (spP (rFirstM wy C))) (cg : MCal P w K mg base C "can_go" p_M_can_go 1 (spP (rCanGo C))) (sd : MCal P w K mg base C "stepped" p_M_stepped 4 (spP (rStepped wy C)))
    (F : FunD K "line" "Machine.line" (defArgs s_M_line) (defBody s_M_line) (defScope s_M_line) [] [] f fd) (m : Meth K C "line" f) : MCal P w K mg base C "line" p_M_line 5 (spP (rLine wy C)) := by
  have Bt := bs_of S
  refine ⟨_, fd, fn_pure F sc_M_line ?_ ?_, m, bd_M_line F⟩
  · rintro ds d ⟨t, ps, ws, tr, rfl, _⟩
    rfl
  · rintro cdv A outer s0 H E hr ds d ⟨t, ps, ws, tr, rfl, hp, h4, R, rfl⟩
    have tl := R.len
    have t0 := R.zero
    have e1 : (tr.take 1).map itD = [itD (firstSP wy t ps, [])] := by
      rw [List.take_add_one, t0]
      rfl
    have zlen : ((ws.map fun (n : Nat) => D.int (n : Int)).length : Nat) = ws.length := List.length_map _
    refine .inl (b_new 2 sc_M_line.nd (ul_lst (ua_cons (u_tup (ua_cons (u_meth0 M.fl.cls fi (hr.mono (by decide)) (u_var 0 rfl) ⟨t, ps, rfl, hp, rfl⟩) (ua_cons (u_tup ua_nil) ua_nil))) ua_nil)) ?_ rfl (hlt := fun σ h => by rw [h]; exact (by decide : 2 < 4)))
    refine bm_for 3 (by decide) (fun _ => [.d (selfD C t ps), .d (wD ws), .un, .un]) (fun j => (tr.take (j + 1)).map itD) rfl e1 sc_M_line.nd (ur_rng1 Bt (n := ws.length) (u_is (u_len Bt (u_var 1 rfl)) (by rw [zlen])) (by omega)) rgD_noL (fun j d hd => ?_) ?_ PassesOwn.never
    · obtain ⟨hj, rfl⟩ := rgD_at hd
      rw [Int.zero_add]
      have hw : ws[j]? = some ws[j] := List.getElem?_eq_getElem hj
      obtain ⟨⟨ce, cs⟩, e, s', ev, k1, k2, st⟩ := R.step j _ hw
      obtain ⟨hok, hok', ca, plan, call, ca', hc, hpl, hk, hx⟩ := id st
      have eL : (tr.take (j + 1)).map itD = (tr.take j).map itD ++ [itD (⟨ce, cs⟩, e)] := by
        rw [List.take_add_one, k1, List.map_append]
        rfl
      have eL2 : (tr.take (j + 1 + 1)).map itD = (tr.take (j + 1)).map itD ++ [itD (s', ev)] := by
        rw [List.take_add_one, k2, List.map_append]
        rfl
      have nI : noL (itD (s', ev)) = true := noLs_iff.mp R.n0 _ (List.mem_map.mpr ⟨_, List.mem_of_getElem? k2, rfl⟩)
      have lz : ((tr.take (j + 1)).map itD).length < sizeLine := by
        rw [List.length_map, List.length_take]
        exact small_lt (by omega)
      have ll : (ca.e < plan.length) := (List.getElem?_eq_some_iff.mp hk).1
      refine bm_ifF (t_notT (t_is (t_val (u_meth M.fl.cls cg (hr.mono (by decide)) (u_var 0 rfl) (ua_cons (u_ixT (u_ixL (u_var 2 rfl) (u_neg u_int) (by rw [eL]; exact atI_last _ _)) u_int) (ua_cons (u_ixT (u_var 1 rfl) (u_var 3 rfl) (ix_map (f := fun (n : Nat) => D.int (n : Int)) hw)) ua_nil)) ⟨t, ps, ce, cs, _, ca, plan, rfl, hc, hpl, rfl⟩)) (decide_eq_true ll))) ?_
      refine bm_append (d := itD (s', ev)) (u_meth M.fl.cls sd hr (u_var 0 rfl) (ua_cons (u_ixT (u_ixL (u_var 2 rfl) (u_neg u_int) (by rw [eL]; exact atI_last _ _)) u_int) (ua_cons (u_ixT (u_var 1 rfl) (u_var 3 rfl) (ix_map (f := fun (n : Nat) => D.int (n : Int)) hw)) ua_nil)) ⟨t, ps, ⟨ce, cs⟩, _, s', ev, rfl, hp.1.2, st, rfl⟩) nI lz ?_
      rw [← eL2]
      exact bm_nilF [3]
    · rw [rgD_len, List.take_of_length_le (by omega)]
      exact bm_ret (u_var 2 rfl)
end
end P6
namespace P6
open PySem PySem.Spec PyProof.Rows L2 H6
section
variable {P : Program} {w : World} {K : PySem.W.Frag} {mg : Str → Option Value} {base : Heap}
structure MD (P : Program) (w : World) (K : PySem.W.Frag) (mg : Str → Option Value) (base : Heap) (wy : Way) (C : Addr) : Prop extends MC P w K mg base wy C where
  fi : MCal P w K mg base C "first" p_M_first 3 (spP (rFirstM wy C))
  cg : MCal P w K mg base C "can_go" p_M_can_go 1 (spP (rCanGo C))
  bz : MCal P w K mg base C "is_busy" p_M_is_busy 1 (spP (rBusy C))
  go : MCal P w K mg base C "going" p_M_going 2 (spP (rGoing C))
  sd : MCal P w K mg base C "stepped" p_M_stepped 4 (spP (rStepped wy C))
  ln : MCal P w K mg base C "line" p_M_line 5 (spP (rLine wy C))
theorem md_Re (S : Ctx K mg) : MD P w K mg base .re (He.ga K "Retried") := by
  have M : MC P w K mg base .re (He.ga K "Retried") := mc_Re S
  obtain ⟨_, F1⟩ := F_Retried_first S
  obtain ⟨_, F2⟩ := F_Retried_can_go S
  obtain ⟨_, F3⟩ := F_Retried_is_busy S
  obtain ⟨_, F4⟩ := F_Retried_going S
  obtain ⟨_, F5⟩ := F_Retried_stepped S
  obtain ⟨_, F6⟩ := F_Retried_line S
  have a := m_first S M F1 (M_Retried_first S)
  have b := m_can_go S M F2 (M_Retried_can_go S)
  have c := m_stepped S M F5 (M_Retried_stepped S)
  exact ⟨M, a, b, m_is_busy F3 (M_Retried_is_busy S), m_going S M b F4 (M_Retried_going S), c, m_line S M a b c F6 (M_Retried_line S)⟩
theorem md_Lo (S : Ctx K mg) : MD P w K mg base .lo (He.ga K "Locked") := by
  have M : MC P w K mg base .lo (He.ga K "Locked") := mc_Lo S
  obtain ⟨_, F1⟩ := F_Locked_first S
  obtain ⟨_, F2⟩ := F_Locked_can_go S
  obtain ⟨_, F3⟩ := F_Locked_is_busy S
  obtain ⟨_, F4⟩ := F_Locked_going S
  obtain ⟨_, F5⟩ := F_Locked_stepped S
  obtain ⟨_, F6⟩ := F_Locked_line S
  have a := m_first S M F1 (M_Locked_first S)
  have b := m_can_go S M F2 (M_Locked_can_go S)
  have c := m_stepped S M F5 (M_Locked_stepped S)
  exact ⟨M, a, b, m_is_busy F3 (M_Locked_is_busy S), m_going S M b F4 (M_Locked_going S), c, m_line S M a b c F6 (M_Locked_line S)⟩
theorem md_Na (S : Ctx K mg) : MD P w K mg base .na (He.ga K "Naive") := by
  have M : MC P w K mg base .na (He.ga K "Naive") := mc_Na S
  obtain ⟨_, F1⟩ := F_Naive_first S
  obtain ⟨_, F2⟩ := F_Naive_can_go S
  obtain ⟨_, F3⟩ := F_Naive_is_busy S
  obtain ⟨_, F4⟩ := F_Naive_going S
  obtain ⟨_, F5⟩ := F_Naive_stepped S
  obtain ⟨_, F6⟩ := F_Naive_line S
  have a := m_first S M F1 (M_Naive_first S)
  have b := m_can_go S M F2 (M_Naive_can_go S)
  have c := m_stepped S M F5 (M_Naive_stepped S)
  exact ⟨M, a, b, m_is_busy F3 (M_Naive_is_busy S), m_going S M b F4 (M_Naive_going S), c, m_line S M a b c F6 (M_Naive_line S)⟩
def clsA (K : PySem.W.Frag) : Way → Addr
  | .re => He.ga K "Retried"
  | .lo => He.ga K "Locked"
  | .na => He.ga K "Naive"
def wayS : Way → Str
  | .re => "retried"
  | .lo => "locked"
  | .na => "naive"
theorem md (S : Ctx K mg) : ∀ wy : Way, MD P w K mg base wy (clsA K wy)
  | .re => md_Re S
  | .lo => md_Lo S
  | .na => md_Na S
theorem clsOk (S : Ctx K mg) : ∀ wy : Way, Cls K (clsA K wy)
  | .re => cl_Retried S
  | .lo => cl_Locked S
  | .na => cl_Naive S
/-! ### __init__ -/
theorem mf_put {vt vp : V} {n : Int} : putF "many" (.int n) (putF "plans" vp (putF "thing" vt [])) = mf vt vp n := by
  have a : ¬ ("thing" : Str) = "plans" := by decide +kernel
  have b : ¬ ("thing" : Str) = "many" := by decide +kernel
  have c : ¬ ("plans" : Str) = "many" := by decide +kernel
  show putF "many" (.int n) (if ("thing" : Str) = "plans" then _ else (("thing" : Str), vt) :: putF "plans" vp []) = _
  rw [if_neg a]
  show (if ("thing" : Str) = "many" then _ else (("thing" : Str), vt) :: (if ("plans" : Str) = "many" then _ else (("plans" : Str), vp) :: putF "many" (.int n) [])) = _
  rw [if_neg b, if_neg c]
  rfl
theorem m_init {C f : Addr} {fd : FuncData} (S : Ctx K mg) (fl : Fl K C) (F : FunD K "__init__" "Machine.__init__" (defArgs s_M_init) (defBody s_M_init) (defScope s_M_init) [] [] f fd) : FnOk P w K mg base CX0 1 f fd p_M_init (spInit C) := by
  refine F.ok sc_M_init (fun vs H Q E h => ?_) (fun cdv A outer s H vs Q E hr h => ?_)
  · obtain ⟨x, dx, vt, vp, t, ps, rfl, _⟩ := h
    rfl
  · obtain ⟨x, dx, vt, vp, t, ps, rfl, hx, ht, ⟨a, xs, rfl, ha, hs⟩, k⟩ := h
    have hax : a ≠ x := ne_of ha hx (fun z => nomatch z)
    refine ⟨_, PSs.nox (pss_cons (ps_fld (pv 0) (pv 1) rfl) (pss_cons (ps_fld (pv 0) (pv 2) rfl) (pss_one (ps_fld (pv 0) (pe_callB call_len_seq rfl (b_len S) boot_len (pa_cons (pv 2) pa_nil)) rfl)))), ?_⟩
    refine ⟨vt, rfl, .ref x, rfl, x, C, dx, [], rfl, hx, fl.cls, fl.nT, (by show 0 < 1000; decide), ?_⟩
    refine ⟨.ref a, rfl, .ref x, rfl, x, C, dx, _, rfl, upd_same, fl.cls, fl.nP, (by show 1 < 1000; decide), ?_⟩
    refine ⟨.ref a, rfl, a, xs, rfl, .inr (SqT.of (by rw [upd_ne hax, upd_ne hax]; exact ha)), .ref x, rfl, x, C, dx, _, rfl, upd_same, fl.cls, fl.nM, ?_, ?_⟩
    · have l1 := length_putF "thing" vt []
      have l2 := length_putF "plans" (.ref a) (putF "thing" vt [])
      exact Nat.lt_of_le_of_lt (Nat.le_trans l2 (Nat.succ_le_succ l1)) (by show 2 < 1000; decide)
    · refine k _ (fun b o hb e => by rw [upd_ne hb, upd_ne hb, upd_ne hb]; exact e) ?_
      rw [upd_same, mf_put, hs.length]
theorem mk_len {X : Cx} {Γ : List G} {e : Expr} {C : Addr} {t : D} {ps : List (List D)} (h : U X e Γ (.mac C t (.tup (ps.map .tup)) ((ps.map D.tup).length : Nat))) : U X e Γ (.mac C t (plansD ps) ps.length) := by
  rw [List.length_map] at h
  exact h
def rMade (K : PySem.W.Frag) (ds : List D) (d : D) : Prop := ∃ wy t ps, ds = [.str (wayS wy), Thing.d t, plansD ps] ∧ d = selfD (clsA K wy) t ps
theorem cal_made (S : Ctx K mg) : Cal P w K mg base "made" p_made 3 (spP (rMade K)) := by
  obtain ⟨fd, F⟩ := F_made S
  refine ⟨_, fd, fn_pure F sc_made ?_ ?_, g_made S, F.kp, bd_made F⟩
  · rintro ds d ⟨wy, t, ps, rfl, _⟩
    rfl
  · rintro cdv A outer s H E hr ds d ⟨wy, t, ps, rfl, rfl⟩
    refine .inl ?_
    cases wy with
    | re =>
      obtain ⟨fi, Fi⟩ := F_Retried_init S
      exact b_ifF (t_eq (u_var 0 rfl) u_str) (b_ifT (t_eq (u_var 0 rfl) u_str) (b_ret (mk_len (u_make (mk_Retried S) (m_init S (fl_Re S) Fi) hr (gc_Retried S) (bd_M_init Fi) (ua_cons (u_var 1 rfl) (ua_cons (u_var 2 rfl) ua_nil))))))
    | lo =>
      obtain ⟨fi, Fi⟩ := F_Locked_init S
      exact b_ifF (t_eq (u_var 0 rfl) u_str) (b_ifF (t_eq (u_var 0 rfl) u_str) (b_ret (u_ifT (t_eq (u_var 0 rfl) u_str) (mk_len (u_make (mk_Locked S) (m_init S (fl_Lo S) Fi) hr (gc_Locked S) (bd_M_init Fi) (ua_cons (u_var 1 rfl) (ua_cons (u_var 2 rfl) ua_nil)))))))
    | na =>
      obtain ⟨fi, Fi⟩ := F_Naive_init S
      exact b_ifF (t_eq (u_var 0 rfl) u_str) (b_ifF (t_eq (u_var 0 rfl) u_str) (b_ret (u_ifF (t_eq (u_var 0 rfl) u_str) (mk_len (u_make (mk_Naive S) (m_init S (fl_Na S) Fi) hr (gc_Naive S) (bd_M_init Fi) (ua_cons (u_var 1 rfl) (ua_cons (u_var 2 rfl) ua_nil)))))))
/-! ### along a weaving -/
structure RunOk (wy : Way) (t : Thing) (ps : List (List D)) (ws : List Nat) (tr : List (SP × List Ev)) : Prop where
  k : t.ok
  p : PlansOk t ps
  l : ws.length ≤ 400
  w : ∀ x ∈ ws, x < 4
  r : RunP wy t ps ws tr
def argsD (wy : Way) (t : Thing) (ps : List (List D)) (ws : List Nat) : List D := [.str (wayS wy), t.d, plansD ps, wD ws]
def rLineOf (ds : List D) (d : D) : Prop := ∃ wy t ps ws tr, ds = argsD wy t ps ws ∧ RunOk wy t ps ws tr ∧ d = .lst (tr.map itD)
theorem cal_line_of (S : Ctx K mg) : Cal P w K mg base "line_of" p_line_of 6 (spP rLineOf) := by
  obtain ⟨fd, F⟩ := F_line_of S
  refine ⟨_, fd, fn_pure F sc_line_of ?_ ?_, g_line_of S, F.kp, bd_line_of F⟩
  · rintro ds d ⟨wy, t, ps, ws, tr, rfl, _⟩
    rfl
  · rintro cdv A outer s H E hr ds d ⟨wy, t, ps, ws, tr, rfl, R, rfl⟩
    exact .inl (b_expr (u_call (cal_need_plans S) hr (ua_cons (u_var 1 rfl) (ua_cons (u_var 2 rfl) ua_nil)) ⟨t, ps, rfl, R.k, R.p, rfl⟩) (b_expr (u_call (cal_need_weaving S) (hr.mono (by decide)) (ua_cons (u_var 3 rfl) ua_nil) ⟨ws, rfl, R.l, R.w, rfl⟩)
      (b_ret (u_meth (clsOk S wy) (md S wy).ln hr (u_call (cal_made S) (hr.mono (by decide)) (ua_cons (u_var 0 rfl) (ua_cons (u_var 1 rfl) (ua_cons (u_var 2 rfl) ua_nil))) ⟨wy, t, ps, rfl, rfl⟩) (ua_cons (u_var 3 rfl) ua_nil) ⟨t, ps, ws, tr, rfl, R.p, R.l, R.r, rfl⟩))))
/-- a line's last standing -/
theorem atI_end {α : Type} {l : List α} {n : Nat} {x : α} (hl : l.length = n + 1) (h : l[n]? = some x) : atI l (-1) = some x := by
  have e : l = l.take n ++ [x] := by
    have h1 := List.take_of_length_le (l := l) (i := n + 1) (by omega)
    rw [List.take_add_one, h] at h1
    exact h1.symm
  rw [e]
  exact atI_last _ _
theorem RunP.last {wy : Way} {t : Thing} {ps : List (List D)} {ws : List Nat} {tr : List (SP × List Ev)} {p : SP × List Ev} (R : RunP wy t ps ws tr) (h : tr[ws.length]? = some p) : atI (tr.map itD) (-1) = some (itD p) :=
  atI_end (n := ws.length) (by rw [List.length_map]; exact R.len) (by rw [List.getElem?_map, h]; rfl)
def rHistory (ds : List D) (d : D) : Prop := ∃ wy t ps ws tr, ds = argsD wy t ps ws ∧ RunOk wy t ps ws tr ∧ (∀ p ∈ tr, p.2.length ≤ 1) ∧ d = evsD (tr.map (·.2)).flatten
theorem flat_len : ∀ {l : List (List Ev)}, (∀ e ∈ l, e.length ≤ 1) → l.flatten.length ≤ l.length
  | [], _ => Nat.le_refl _
  | e :: l, h => by
    have h1 := flat_len (l := l) fun x hx => h x (List.mem_cons_of_mem _ hx)
    have h2 := h e List.mem_cons_self
    rw [List.flatten_cons, List.length_append, List.length_cons]
    omega
theorem cal_history_of (S : Ctx K mg) : Cal P w K mg base "history_of" p_history_of 7 (spP rHistory) := by
  obtain ⟨fd, F⟩ := F_history_of S
  refine ⟨_, fd, fn_pure F sc_history_of ?_ ?_, g_history_of S, F.kp, bd_history_of F⟩
  · rintro ds d ⟨wy, t, ps, ws, tr, rfl, _⟩
    rfl
  · rintro cdv A outer s H E hr ds d ⟨wy, t, ps, ws, tr, rfl, R, h1, rfl⟩
    have tl := R.r.len
    have wl := R.l
    let It : Nat → SP × List Ev := fun k => tr.getD k (⟨.non, []⟩, [])
    have iE : ∀ k, k < tr.length → tr[k]? = some (It k) := fun k hk => by
      show _ = some (tr.getD k _)
      rw [List.getD_eq_getElem?_getD, List.getElem?_eq_getElem hk]
      rfl
    refine .inl (b_set 4 sc_history_of.nd (d := evsD ((tr.take 0).map (·.2)).flatten) (u_tup ua_nil) (b_for2 5 6 (fun k => [.d (.str (wayS wy)), .d t.d, .d (plansD ps), .d (wD ws), .d (evsD ((tr.take k).map (·.2)).flatten), .un, .un]) (fun k => spD (It k).1) (fun k => evsD (It k).2) rfl sc_history_of.nd
      (ui_lst (u_call (cal_line_of S) hr (ua_cons (u_var 0 rfl) (ua_cons (u_var 1 rfl) (ua_cons (u_var 2 rfl) (ua_cons (u_var 3 rfl) ua_nil)))) ⟨wy, t, ps, ws, tr, rfl, R, rfl⟩)) (fun k hk => ?_) (fun k hk => ?_) ?_ PassesOwn.never))
    · rw [List.length_map] at hk
      rw [List.getElem?_map, iE k hk]
      rfl
    · rw [List.length_map] at hk
      have l1 : ((tr.take k).map (·.2)).flatten.length ≤ k := by
        refine Nat.le_trans (flat_len fun e he => ?_) ?_
        · obtain ⟨p, hp, rfl⟩ := List.mem_map.mp he
          exact h1 p (List.mem_of_mem_take hp)
        · rw [List.length_map, List.length_take]
          omega
      have l2 := h1 _ (List.mem_of_getElem? (iE k hk))
      refine b_set 4 sc_history_of.nd (d := evsD ((tr.take (k + 1)).map (·.2)).flatten) (u_is (u_cat (by rw [List.length_map, List.length_map]; exact small_le' (by omega)) (u_var 4 rfl) (u_var 6 rfl)) ?_) (b_nilF [5, 6])
      show D.tup _ = D.tup _
      rw [List.take_add_one, iE k hk, List.map_append, List.flatten_append, List.map_append]
      simp
    · rw [List.length_map, List.take_length]
      exact b_ret (u_var 4 rfl)
def isState (wy : Way) (ce st : D) : Prop := match wy with
  | .na => st = ce
  | _ => ∃ x, ce = .tup [x, st]
def rStateB (ds : List D) (d : D) : Prop := ∃ wy t ps ws tr s e, ds = argsD wy t ps ws ∧ RunOk wy t ps ws tr ∧ tr[ws.length]? = some (s, e) ∧ isState wy s.ce d
theorem cal_state_behind (S : Ctx K mg) : Cal P w K mg base "state_behind" p_state_behind 7 (spP rStateB) := by
  obtain ⟨fd, F⟩ := F_state_behind S
  refine ⟨_, fd, fn_pure F sc_state_behind ?_ ?_, g_state_behind S, F.kp, bd_state_behind F⟩
  · rintro ds d ⟨wy, t, ps, ws, tr, s, e, rfl, _⟩
    rfl
  · rintro cdv A outer s0 H E hr ds d ⟨wy, t, ps, ws, tr, s, e, rfl, R, hl, hd⟩
    exact .inl (b_set 4 sc_state_behind.nd (u_call (cal_line_of S) hr (ua_cons (u_var 0 rfl) (ua_cons (u_var 1 rfl) (ua_cons (u_var 2 rfl) (ua_cons (u_var 3 rfl) ua_nil)))) ⟨wy, t, ps, ws, tr, rfl, R, rfl⟩)
      (b_ret (u_meth (clsOk S wy) (md S wy).os (hr.mono (by decide)) (u_call (cal_made S) (hr.mono (by decide)) (ua_cons (u_var 0 rfl) (ua_cons (u_var 1 rfl) (ua_cons (u_var 2 rfl) ua_nil))) ⟨wy, t, ps, rfl, rfl⟩)
        (ua_cons (u_ixT (u_ixL (u_var 4 rfl) (u_neg u_int) (R.r.last hl)) u_int) ua_nil) ⟨t, ps, s, rfl, by cases wy <;> exact hd⟩)))
def natsD (ns : List Nat) : D := .tup (ns.map fun (n : Nat) => .int (n : Int))
def rGoingB (ds : List D) (d : D) : Prop := ∃ wy t ps ws tr s e, ds = argsD wy t ps ws ∧ RunOk wy t ps ws tr ∧ tr[ws.length]? = some (s, e) ∧ s.cs.length = ps.length ∧ d = natsD (goingL ps s)
theorem cal_going (S : Ctx K mg) : Cal P w K mg base "going" p_going 7 (spP rGoingB) := by
  obtain ⟨fd, F⟩ := F_going S
  have Bt := bs_of S
  refine ⟨_, fd, fn_pure F sc_going ?_ ?_, g_going S, F.kp, bd_going F⟩
  · rintro ds d ⟨wy, t, ps, ws, tr, s, e, rfl, _⟩
    rfl
  · rintro cdv A outer s0 H E hr ds d ⟨wy, t, ps, ws, tr, s, e, rfl, R, hl, hc, rfl⟩
    exact .inl (b_set 4 sc_going.nd (u_call (cal_line_of S) hr (ua_cons (u_var 0 rfl) (ua_cons (u_var 1 rfl) (ua_cons (u_var 2 rfl) (ua_cons (u_var 3 rfl) ua_nil)))) ⟨wy, t, ps, ws, tr, rfl, R, rfl⟩)
      (b_ret (u_tupOf Bt (u_meth (clsOk S wy) (md S wy).go (hr.mono (by decide)) (u_call (cal_made S) (hr.mono (by decide)) (ua_cons (u_var 0 rfl) (ua_cons (u_var 1 rfl) (ua_cons (u_var 2 rfl) ua_nil))) ⟨wy, t, ps, rfl, rfl⟩)
        (ua_cons (u_ixT (u_ixL (u_var 4 rfl) (u_neg u_int) (R.r.last hl)) u_int) ua_nil) ⟨t, ps, s, rfl, hc, R.p.1.2, rfl⟩))))
/-- what was applied at each step -/
def logsP (wy : Way) (ws : List Nat) (tr : List (SP × List Ev)) (lss : List (List (Nat × Nat))) : Prop := lss.length = ws.length ∧ (∀ l ∈ lss, l.length ≤ 1) ∧ ∀ (k th : Nat), ws[k]? = some th → ∃ s e s' e' ls, tr[k]? = some (s, e) ∧ tr[k + 1]? = some (s', e') ∧ lss[k]? = some ls ∧ newlyP wy s s' th ls
def rApplied (ds : List D) (d : D) : Prop := ∃ wy t ps ws tr lss, ds = argsD wy t ps ws ∧ RunOk wy t ps ws tr ∧ logsP wy ws tr lss ∧ d = .tup (logD lss.flatten)
theorem flat_len2 {α : Type} : ∀ {l : List (List α)}, (∀ e ∈ l, e.length ≤ 1) → l.flatten.length ≤ l.length
  | [], _ => Nat.le_refl _
  | e :: l, h => by
    have h1 := flat_len2 (l := l) fun x hx => h x (List.mem_cons_of_mem _ hx)
    have h2 := h e List.mem_cons_self
    rw [List.flatten_cons, List.length_append, List.length_cons]
    omega
theorem cal_applied_order (S : Ctx K mg) : Cal P w K mg base "applied_order" p_applied_order 7 (spP rApplied) := by
  obtain ⟨fd, F⟩ := F_applied_order S
  have Bt := bs_of S
  refine ⟨_, fd, fn_pure F sc_applied_order ?_ ?_, g_applied_order S, F.kp, bd_applied_order F⟩
  · rintro ds d ⟨wy, t, ps, ws, tr, lss, rfl, _⟩
    rfl
  · rintro cdv A outer s H E hr ds d ⟨wy, t, ps, ws, tr, lss, rfl, R, ⟨q1, q2, q3⟩, rfl⟩
    have wl := R.l
    have zlen : ((ws.map fun (n : Nat) => D.int (n : Int)).length : Nat) = ws.length := List.length_map _
    refine .inl (b_par3 4 5 6 sc_applied_order.nd (z := .tup (logD (lss.take 0).flatten)) (ua_cons (u_call (cal_line_of S) hr (ua_cons (u_var 0 rfl) (ua_cons (u_var 1 rfl) (ua_cons (u_var 2 rfl) (ua_cons (u_var 3 rfl) ua_nil)))) ⟨wy, t, ps, ws, tr, rfl, R, rfl⟩)
      (ua_cons (u_call (cal_made S) (hr.mono (by decide)) (ua_cons (u_var 0 rfl) (ua_cons (u_var 1 rfl) (ua_cons (u_var 2 rfl) ua_nil))) ⟨wy, t, ps, rfl, rfl⟩) (ua_cons (u_tup ua_nil) ua_nil)))
      (b_for 7 (fun k => [.d (.str (wayS wy)), .d t.d, .d (plansD ps), .d (wD ws), .d (.lst (tr.map itD)), .d (selfD (clsA K wy) t ps), .d (.tup (logD (lss.take k).flatten)), .un]) rfl sc_applied_order.nd (ui_rng1 Bt (n := ws.length) (u_is (u_len Bt (u_var 3 rfl)) (by rw [zlen])) (by omega)) (fun k d hd => ?_) ?_ PassesOwn.never))
    · obtain ⟨hk, rfl⟩ := rgD_at hd
      rw [Int.zero_add]
      have hw : ws[k]? = some ws[k] := List.getElem?_eq_getElem hk
      obtain ⟨s, e, s', e', ls, k1, k2, k3, k4⟩ := q3 k _ hw
      have l1 : (lss.take k).flatten.length ≤ k := by
        refine Nat.le_trans (flat_len2 fun e he => q2 e (List.mem_of_mem_take he)) ?_
        rw [List.length_take]
        omega
      have l2 := q2 ls (List.mem_of_getElem? k3)
      refine b_set 6 sc_applied_order.nd (d := .tup (logD (lss.take (k + 1)).flatten)) (u_is (u_cat (zs := logD ls) (by unfold logD; rw [List.length_map, List.length_map]; exact small_le' (by omega)) (u_var 6 rfl) (u_tupOf Bt (u_meth (clsOk S wy) (md S wy).nw (hr.mono (by decide)) (u_var 5 rfl)
        (ua_cons (u_ixT (u_ixL (u_var 4 rfl) (u_var 7 rfl) (ix_map (f := itD) k1)) u_int) (ua_cons (u_ixT (u_ixL (u_var 4 rfl) (u_succ (u_var 7 rfl)) (ix_map (f := itD) k2)) u_int) (ua_cons (u_ixT (u_var 3 rfl) (u_var 7 rfl) (ix_map (f := fun (n : Nat) => D.int (n : Int)) hw)) ua_nil))) ⟨t, ps, s, s', _, ls, rfl, k4, rfl⟩))) ?_) (b_nilF [7])
      unfold logD
      rw [List.take_add_one, k3, List.flatten_append, List.map_append]
      simp
    · rw [rgD_len, List.take_of_length_le (by omega)]
      exact b_ret (u_var 6 rfl)
end
end P6
namespace P6
open PySem PySem.Spec PyProof.Rows L2 H6
section
variable {P : Program} {w : World} {K : PySem.W.Frag} {mg : Str → Option Value} {base : Heap}
/-! ### alone -/
/-- a thread going on alone from s, its open call the e-th -/
inductive AloneP (wy : Way) (t : Thing) (ps : List (List D)) (s : SP) (th e : Nat) (d : D) : Prop
  | mk (n : Nat) (ss : Nat → SP) : ss 0 = s → (∀ k, k ≤ n → (ss k).cs.length = ps.length ∧ sh (spD (ss k)) = true) →
      (∀ k, k < n → (caOf (ss k) th).e = e ∧ (∃ ev, StepP wy t ps (ss k) th (ss (k + 1)) ev) ∧ eqD (spD (ss (k + 1))) (spD (ss k)) = false) →
      (((caOf (ss n) th).e ≠ e ∧ d = .int n) ∨ ((caOf (ss n) th).e = e ∧ d = .non ∧ ∃ s' ev, StepP wy t ps (ss n) th s' ev ∧ sh (spD s') = true ∧ eqD (spD s') (spD (ss n)) = true)) → AloneP wy t ps s th e d
def rAlone (ds : List D) (d : D) : Prop := ∃ wy t ps ws tr s e th, ds = argsD wy t ps ws ++ [.int (th : Nat)] ∧ RunOk wy t ps ws tr ∧ tr[ws.length]? = some (s, e) ∧ th < ps.length ∧ s.cs.length = ps.length ∧
  (((caOf s th).ph = 0 ∧ d = .int 0) ∨ ((caOf s th).ph ≠ 0 ∧ AloneP wy t ps s th (caOf s th).e d))
theorem caOf_get {s : SP} {th n : Nat} (h : th < n) (hl : s.cs.length = n) : s.cs[th]? = some (caOf s th) := by
  show _ = some (s.cs.getD th _)
  rw [List.getD_eq_getElem?_getD, List.getElem?_eq_getElem (by omega)]
  rfl
theorem cal_alone (S : Ctx K mg) : Cal P w K mg base "alone" p_alone 7 (spP rAlone) := by
  obtain ⟨fd, F⟩ := F_alone S
  have Bt := bs_of S
  refine ⟨_, fd, fn_pure F sc_alone ?_ ?_, g_alone S, F.kp, bd_alone F⟩
  · rintro ds d ⟨wy, t, ps, ws, tr, s, e, th, rfl, _⟩
    rfl
  · rintro cdv A outer s0 H E hr ds d ⟨wy, t, ps, ws, tr, s, e, th, rfl, R, hl, ht, hc, hd⟩
    have lp : ((ps.map D.tup).length : Int) = ps.length := by rw [List.length_map]
    have tst : (!decide ((th : Int) ≥ ((ps.map D.tup).length : Int))) = true := by rw [lp]; simp; omega
    have hca := caOf_get ht hc
    refine .inl (b_par2 5 6 sc_alone.nd (ua_cons (u_call (cal_line_of S) hr (ua_cons (u_var 0 rfl) (ua_cons (u_var 1 rfl) (ua_cons (u_var 2 rfl) (ua_cons (u_var 3 rfl) ua_nil)))) ⟨wy, t, ps, ws, tr, rfl, R, rfl⟩) (ua_cons (u_call (cal_made S) (hr.mono (by decide)) (ua_cons (u_var 0 rfl) (ua_cons (u_var 1 rfl) (ua_cons (u_var 2 rfl) ua_nil))) ⟨wy, t, ps, rfl, rfl⟩) ua_nil))
      (b_par2 7 8 sc_alone.nd (ua_cons (u_ixT (u_ixL (u_var 5 rfl) (u_neg u_int) (R.r.last hl)) u_int) (ua_cons u_int ua_nil)) ?_))
    rcases hd with ⟨h0, rfl⟩ | ⟨h0, ⟨n, ss, s0', hsh, hst, hen⟩⟩
    · exact b_ifT (t_w (w_or (t_is (t_ge (u_var 4 rfl) (u_len Bt (u_var 2 rfl))) (by simpa using tst)) (w_or1 (t_notF (t_is (t_val (u_meth (clsOk S wy) (md S wy).bz (hr.mono (by decide)) (u_var 6 rfl) (ua_cons (u_var 7 rfl) (ua_cons (u_var 4 rfl) ua_nil)) ⟨t, ps, s.ce, s.cs, th, _, rfl, hca, rfl⟩)) (by rw [h0]; rfl)))))) (b_ret u_int)
    · have hix : ∀ k, k ≤ n → (ss k).cs[th]? = some (caOf (ss k) th) := fun k hk => caOf_get ht (hsh k hk).1
      refine b_ifF (t_w (w_or (t_is (t_ge (u_var 4 rfl) (u_len Bt (u_var 2 rfl))) (by simpa using tst)) (w_or1 (t_notT (t_is (t_val (u_meth (clsOk S wy) (md S wy).bz (hr.mono (by decide)) (u_var 6 rfl) (ua_cons (u_var 7 rfl) (ua_cons (u_var 4 rfl) ua_nil)) ⟨t, ps, s.ce, s.cs, th, _, rfl, hca, rfl⟩)) (by simp [h0])))))) ?_
      refine b_set 9 sc_alone.nd (u_ixT (u_ixT (u_ixT (u_var 7 rfl) u_int) (u_var 4 rfl) (ix_map (f := caD) hca)) u_int) ?_
      refine b_while n (fun k => [.d (.str (wayS wy)), .d t.d, .d (plansD ps), .d (wD ws), .d (.int th), .d (.lst (tr.map itD)), .d (selfD (clsA K wy) t ps), .d (spD (ss k)), .d (.int (k : Nat)), .d (.int (caOf s th).e), .un]) (by rw [s0']; rfl) (fun k hk => ?_) ?_ PassesOwn.never
      · obtain ⟨he, ⟨ev, st⟩, hne⟩ := hst k hk
        refine ⟨t_is (t_eq (u_ixT (u_ixT (u_ixT (u_var 7 rfl) u_int) (u_var 4 rfl) (ix_map (f := caD) (hix k (by omega)))) u_int) (u_var 9 rfl) eqS_ii) (decide_eq_true (by rw [he])), ?_⟩
        refine b_set 10 sc_alone.nd (u_ixT (u_meth (clsOk S wy) (md S wy).sd (hr.mono (by decide)) (u_var 6 rfl) (ua_cons (u_var 7 rfl) (ua_cons (u_var 4 rfl) ua_nil)) ⟨t, ps, ss k, th, ss (k + 1), ev, rfl, R.p.1.2, st, rfl⟩) u_int) (b_ifF (t_eqD hr (hsh (k + 1) (by omega)).2 (hsh k (by omega)).2 (u_var 10 rfl) (u_var 7 rfl) hne) ?_)
        exact b_par2 7 8 sc_alone.nd (ua_cons (u_var 10 rfl) (ua_cons (u_succ (u_var 8 rfl)) ua_nil)) (b_nilF [10])
      · rcases hen with ⟨he, rfl⟩ | ⟨he, rfl, s', ev, st, hs', heq⟩
        · refine .inl ⟨t_is (t_eq (u_ixT (u_ixT (u_ixT (u_var 7 rfl) u_int) (u_var 4 rfl) (ix_map (f := caD) (hix n (Nat.le_refl _)))) u_int) (u_var 9 rfl) eqS_ii) (decide_eq_false (by omega)), b_ret (u_var 8 rfl)⟩
        · refine .inr ⟨t_is (t_eq (u_ixT (u_ixT (u_ixT (u_var 7 rfl) u_int) (u_var 4 rfl) (ix_map (f := caD) (hix n (Nat.le_refl _)))) u_int) (u_var 9 rfl) eqS_ii) (decide_eq_true (by rw [he])), ?_⟩
          exact b_set 10 sc_alone.nd (u_ixT (u_meth (clsOk S wy) (md S wy).sd (hr.mono (by decide)) (u_var 6 rfl) (ua_cons (u_var 7 rfl) (ua_cons (u_var 4 rfl) ua_nil)) ⟨t, ps, ss n, th, s', ev, rfl, R.p.1.2, st, rfl⟩) u_int) (b_ifT (t_eqD hr hs' (hsh n (Nat.le_refl _)).2 (u_var 10 rfl) (u_var 7 rfl) heq) (b_ret u_non))
/-! ### starving -/
def starveW (n : Nat) : List Nat := 0 :: ((List.replicate n [1, 1, 0, 0]).flatten ++ [0])
def rStarving (ds : List D) (d : D) : Prop := ∃ (t : Thing) (c o : D) (n : Nat), ds = [t.d, c, o, .int n] ∧ t.ok ∧ CallOk t c ∧ CallOk t o ∧ n ≤ 8 ∧ d = .tup [plansD [[c], List.replicate n o], wD (starveW n)]
theorem cal_starving (S : Ctx K mg) : Cal P w K mg base "starving" p_starving 5 (spP rStarving) := by
  obtain ⟨fd, F⟩ := F_starving S
  have Bt := bs_of S
  refine ⟨_, fd, fn_pure F sc_starving ?_ ?_, g_starving S, F.kp, bd_starving F⟩
  · rintro ds d ⟨t, c, o, n, rfl, _⟩
    rfl
  · rintro cdv A outer s0 H E hr ds d ⟨t, c, o, n, rfl, ht, hc, ho, hn, rfl⟩
    refine .inl (b_expr (u_call (cal_need_object S) hr (ua_cons (u_var 0 rfl) ua_nil) ⟨t, rfl, ht, rfl⟩) (b_expr (u_call (cal_need_call S) hr (ua_cons (u_var 0 rfl) (ua_cons (u_var 1 rfl) ua_nil)) ⟨t, c, rfl, ht, hc, rfl⟩) (b_expr (u_call (cal_need_call S) hr (ua_cons (u_var 0 rfl) (ua_cons (u_var 2 rfl) ua_nil)) ⟨t, o, rfl, ht, ho, rfl⟩)
      (b_ifF (t_w (w_or (t_val (u_isi Bt Bt.bool boot_bool (u_var 3 rfl) kb_ib)) (w_or (t_notT (t_val (u_isi Bt Bt.int boot_int (u_var 3 rfl) kb_ii))) (w_or1 (t_notT (t_ge1 (by omega) u_int (u_var 3 rfl) u_int)))))) (b_ret (u_tup (ua_cons (u_is (u_tup (ua_cons (u_tup (ua_cons (u_var 1 rfl) ua_nil)) (ua_cons (u_times (n := n) (by simp) (by simp) (by omega) (u_tup (ua_cons (u_var 2 rfl) ua_nil)) (u_var 3 rfl)) ua_nil))) ?_)
        (ua_cons (u_is (u_cat (by simp; exact small_le' (by omega)) (u_cat (by simp; exact small_le' (by omega)) (u_tup (ua_cons u_int ua_nil)) (u_times (n := n) (by simp) (by simp) (by omega) (u_tup (ua_cons u_int (ua_cons u_int (ua_cons u_int (ua_cons u_int ua_nil))))) (u_var 3 rfl))) (u_tup (ua_cons u_int ua_nil))) ?_) ua_nil))))))))
    · show D.tup _ = D.tup _
      have e : ∀ m : Nat, (List.replicate m [o]).flatten = List.replicate m o := by
        intro m
        induction m with
        | zero => rfl
        | succ m ih => rw [List.replicate_succ, List.flatten_cons, ih, List.replicate_succ]; rfl
      rw [e]
      rfl
    · show D.tup _ = D.tup _
      have e : ∀ m : Nat, (List.replicate m [D.int 1, D.int 1, D.int 0, D.int 0]).flatten = ((List.replicate m [1, 1, 0, 0]).flatten.map fun (n : Nat) => D.int (n : Int)) := by
        intro m
        induction m with
        | zero => rfl
        | succ m ih => rw [List.replicate_succ, List.flatten_cons, ih, List.replicate_succ, List.flatten_cons, List.map_append]; rfl
      rw [e]
      unfold starveW
      rw [List.map_cons, List.map_append]
      rfl
end
end P6
namespace P6
open PySem PySem.Spec PyProof.Rows L2
/-! ### own objects that change: lists and dicts of data, and above them lists and dicts of those -/
inductive I2 where
  | dat (d : D) | own (k : Nat)
inductive OH where
  | lst (xs : List I2) | dic (ks : List Str) (xs : List I2)
structure Mem where
  lo : List D
  hi : List OH
structure Ad where
  lo : List Addr
  hi : List Addr
def Ad.all (A : Ad) : List Addr := A.lo ++ A.hi
def delA (A : List Addr) (H : Hp) : Hp := fun b => if b ∈ A then none else H b
theorem delA_in {A : List Addr} {H : Hp} {b : Addr} (h : b ∈ A) : delA A H b = none := by unfold delA; rw [if_pos h]
theorem delA_out {A : List Addr} {H : Hp} {b : Addr} (h : ¬ b ∈ A) : delA A H b = H b := by unfold delA; rw [if_neg h]
theorem delA_le {A : List Addr} {H : Hp} : Same (delA A H) H := fun b o h => by
  by_cases q : b ∈ A
  · rw [delA_in q] at h; cases h
  · rw [delA_out q] at h; exact h
theorem delA_get {A : List Addr} {H : Hp} {b : Addr} {o : HO} (h : delA A H b = some o) : ¬ b ∈ A ∧ H b = some o := by
  by_cases q : b ∈ A
  · rw [delA_in q] at h; cases h
  · rw [delA_out q] at h; exact ⟨q, h⟩
theorem delA_mono {A : List Addr} {H H' : Hp} (e : Same H H') : Same (delA A H) (delA A H') := fun b o h => by
  obtain ⟨q, h⟩ := delA_get h
  rw [delA_out q]
  exact e b o h
theorem delA_upd {A : List Addr} {H : Hp} {a : Addr} {o : HO} (h : a ∈ A) : delA A (upd H a o) = delA A H := by
  funext b
  by_cases q : b ∈ A
  · rw [delA_in q, delA_in q]
  · rw [delA_out q, delA_out q, upd_ne (by intro z; subst z; exact q h)]
theorem delA_new {A A' : List Addr} {H : Hp} {l : Addr} {o : HO} (hl : H l = none) (hA : ∀ b, b ∈ A' ↔ b ∈ A ∨ b = l) : delA A' (upd H l o) = delA A H := by
  funext b
  by_cases q : b ∈ A
  · rw [delA_in q, delA_in ((hA b).mpr (.inl q))]
  · by_cases e : b = l
    · subst e
      rw [delA_in ((hA b).mpr (.inr rfl)), delA_out q, hl]
    · rw [delA_out q, delA_out (fun z => ((hA b).mp z).elim q e), upd_ne e]
def LowAt (F H : Hp) (a : Addr) : D → Prop
  | .lst ds => ∃ xs, H a = some (.lst xs) ∧ Reps F ds xs
  | .dic ks ds => ∃ vs, H a = some (.dK (kz ks vs)) ∧ ks.length = ds.length ∧ Reps F ds vs
  | _ => False
def ItR (F : Hp) (A : Ad) : I2 → V → Prop
  | .dat d, v => Rep F d v
  | .own k, v => ∃ a, A.lo[k]? = some a ∧ v = .ref a
def ItRs (F : Hp) (A : Ad) : List I2 → List V → Prop
  | [], vs => vs = []
  | x :: xs, vs => ∃ v r, vs = v :: r ∧ ItR F A x v ∧ ItRs F A xs r
def HiAt (F : Hp) (A : Ad) (H : Hp) (a : Addr) : OH → Prop
  | .lst xs => ∃ vs, H a = some (.lst vs) ∧ ItRs F A xs vs
  | .dic ks xs => ∃ vs, H a = some (.dK (kz ks vs)) ∧ ks.length = xs.length ∧ ItRs F A xs vs
structure HM (A : Ad) (M : Mem) (H : Hp) : Prop where
  l1 : A.lo.length = M.lo.length
  l2 : A.hi.length = M.hi.length
  nd : A.all.Nodup
  lo : ∀ (k : Nat) a d, A.lo[k]? = some a → M.lo[k]? = some d → LowAt (delA A.all H) H a d
  hi : ∀ (k : Nat) a o, A.hi[k]? = some a → M.hi[k]? = some o → HiAt (delA A.all H) A H a o
theorem LowAt.mono {F F' H H' : Hp} {a : Addr} (eF : Same F F') (eH : ∀ o, H a = some o → H' a = some o) : ∀ {d : D}, LowAt F H a d → LowAt F' H' a d
  | .lst _, ⟨xs, h1, h2⟩ => ⟨xs, eH _ h1, h2.mono eF⟩
  | .dic _ _, ⟨vs, h1, h2, h3⟩ => ⟨vs, eH _ h1, h2, h3.mono eF⟩
theorem ItR.mono {F F' : Hp} {A A' : Ad} (eF : Same F F') {x : I2} {v : V} (eA : ∀ k, x = .own k → ∀ a, A.lo[k]? = some a → A'.lo[k]? = some a) : ItR F A x v → ItR F' A' x v := by
  intro h
  cases x with
  | dat d => exact Rep.mono eF h
  | own k =>
    obtain ⟨a, h1, h2⟩ := h
    exact ⟨a, eA k rfl a h1, h2⟩
theorem ItRs.mono {F F' : Hp} {A A' : Ad} (eF : Same F F') : ∀ {xs : List I2} {vs : List V}, (∀ k, .own k ∈ xs → ∀ a, A.lo[k]? = some a → A'.lo[k]? = some a) → ItRs F A xs vs → ItRs F' A' xs vs
  | [], _, _, h => h
  | _ :: _, _, e, ⟨v, r, h1, h2, h3⟩ => ⟨v, r, h1, h2.mono eF (fun k q => e k (q ▸ List.mem_cons_self)), ItRs.mono eF (fun k q => e k (List.mem_cons_of_mem _ q)) h3⟩
def OH.its : OH → List I2
  | .lst xs => xs
  | .dic _ xs => xs
theorem HiAt.mono {F F' H H' : Hp} {A A' : Ad} {a : Addr} (eF : Same F F') (eH : ∀ o, H a = some o → H' a = some o) {o : OH} (eA : ∀ k, .own k ∈ o.its → ∀ a, A.lo[k]? = some a → A'.lo[k]? = some a) (h : HiAt F A H a o) : HiAt F' A' H' a o := by
  cases o with
  | lst xs =>
    obtain ⟨vs, h1, h2⟩ := h
    exact ⟨vs, eH _ h1, h2.mono eF eA⟩
  | dic ks xs =>
    obtain ⟨vs, h1, h2, h3⟩ := h
    exact ⟨vs, eH _ h1, h2, h3.mono eF eA⟩
theorem ItRs.length {F : Hp} {A : Ad} : ∀ {xs : List I2} {vs : List V}, ItRs F A xs vs → vs.length = xs.length
  | [], _, h => by cases h; rfl
  | _ :: _, _, ⟨v, r, h1, h2, h3⟩ => by subst h1; simp [ItRs.length h3]
theorem ItRs.get {F : Hp} {A : Ad} : ∀ {xs : List I2} {vs : List V} {i : Nat} {x : I2}, ItRs F A xs vs → xs[i]? = some x → ∃ v, vs[i]? = some v ∧ ItR F A x v
  | [], _, _, _, _, e => by simp at e
  | _ :: _, _, 0, _, ⟨v, r, h1, h2, h3⟩, e => by
    subst h1
    cases Option.some.inj e
    exact ⟨v, rfl, h2⟩
  | _ :: _, _, i + 1, _, ⟨v, r, h1, h2, h3⟩, e => by
    subst h1
    exact ItRs.get (i := i) h3 e
theorem ItRs.set {F : Hp} {A : Ad} {x : I2} {v : V} (hx : ItR F A x v) : ∀ {xs : List I2} {vs : List V} (i : Nat), ItRs F A xs vs → ItRs F A (xs.set i x) (vs.set i v)
  | [], _, _, h => by cases h; rfl
  | _ :: _, _, 0, ⟨w, r, h1, h2, h3⟩ => by subst h1; exact ⟨v, r, rfl, hx, h3⟩
  | _ :: _, _, i + 1, ⟨w, r, h1, h2, h3⟩ => by subst h1; exact ⟨w, _, rfl, h2, ItRs.set hx i h3⟩
theorem ItRs.append {F : Hp} {A : Ad} : ∀ {xs ys : List I2} {vs ws : List V}, ItRs F A xs vs → ItRs F A ys ws → ItRs F A (xs ++ ys) (vs ++ ws)
  | [], _, _, _, h, q => by cases h; exact q
  | _ :: _, _, _, _, ⟨v, r, h1, h2, h3⟩, q => by subst h1; exact ⟨v, _, rfl, h2, ItRs.append h3 q⟩
theorem get_of {α β : Type} {l : List α} {m : List β} {k : Nat} {a : α} (h : l.length = m.length) (e : l[k]? = some a) : ∃ b, m[k]? = some b := by
  have h1 := (List.getElem?_eq_some_iff.mp e).1
  exact ⟨m[k]'(h ▸ h1), List.getElem?_eq_getElem _⟩
section
variable {A A' : Ad} {M : Mem} {H H' : Hp}
theorem HM.at (m : HM A M H) {a : Addr} (h : a ∈ A.all) : ∃ o, H a = some o ∧ ∀ xs, o ≠ .tup xs := by
  rcases List.mem_append.mp h with h | h
  · obtain ⟨k, hk⟩ := List.mem_iff_getElem?.mp h
    obtain ⟨d, hd⟩ := get_of m.l1 hk
    have := m.lo k a d hk hd
    cases d with
    | lst ds => obtain ⟨xs, h1, _⟩ := this; exact ⟨_, h1, fun _ z => nomatch z⟩
    | dic ks ds => obtain ⟨xs, h1, _⟩ := this; exact ⟨_, h1, fun _ z => nomatch z⟩
    | _ => exact this.elim
  · obtain ⟨k, hk⟩ := List.mem_iff_getElem?.mp h
    obtain ⟨d, hd⟩ := get_of m.l2 hk
    have := m.hi k a d hk hd
    cases d with
    | lst ds => obtain ⟨xs, h1, _⟩ := this; exact ⟨_, h1, fun _ z => nomatch z⟩
    | dic ks ds => obtain ⟨xs, h1, _⟩ := this; exact ⟨_, h1, fun _ z => nomatch z⟩
theorem HM.out (m : HM A M H) {a : Addr} (h : H a = none) : ¬ a ∈ A.all := fun z => by
  obtain ⟨o, h1, _⟩ := m.at z
  rw [h] at h1
  cases h1
theorem HM.ts (m : HM A M H) : Tsm H (delA A.all H) := fun a xs h => by
  rw [delA_out]
  · exact h
  · intro z
    obtain ⟨o, h1, h2⟩ := m.at z
    rw [h] at h1
    exact h2 xs (Option.some.inj h1).symm
theorem HM.rep (m : HM A M H) {d : D} {v : V} (n : noL d = true) (h : Rep H d v) : Rep (delA A.all H) d v := Rep.monoT m.ts n h
theorem HM.reps (m : HM A M H) {d : List D} {v : List V} (n : noLs d = true) (h : Reps H d v) : Reps (delA A.all H) d v := Reps.monoT m.ts n h
theorem HM.same (m : HM A M H) (e : Same H H') : HM A M H' where
  l1 := m.l1
  l2 := m.l2
  nd := m.nd
  lo := fun k a d h1 h2 => (m.lo k a d h1 h2).mono (delA_mono e) (e a)
  hi := fun k a o h1 h2 => (m.hi k a o h1 h2).mono (delA_mono e) (e a) (fun _ _ _ h => h)
theorem lo_all {k : Nat} {a : Addr} (h : A.lo[k]? = some a) : a ∈ A.all := List.mem_append.mpr (.inl (List.mem_of_getElem? h))
theorem hi_all {k : Nat} {a : Addr} (h : A.hi[k]? = some a) : a ∈ A.all := List.mem_append.mpr (.inr (List.mem_of_getElem? h))
theorem HM.ne_lo (m : HM A M H) {j k : Nat} {a b : Addr} (h1 : A.lo[j]? = some a) (h2 : A.lo[k]? = some b) (h : j ≠ k) : a ≠ b := fun e => by
  subst e
  have nd := (List.nodup_append.mp m.nd).1
  exact h ((List.getElem?_inj (List.getElem?_eq_some_iff.mp h1).1 nd).mp (h1.trans h2.symm))
theorem HM.ne_hi (m : HM A M H) {j k : Nat} {a b : Addr} (h1 : A.hi[j]? = some a) (h2 : A.hi[k]? = some b) (h : j ≠ k) : a ≠ b := fun e => by
  subst e
  have nd := (List.nodup_append.mp m.nd).2.1
  exact h ((List.getElem?_inj (List.getElem?_eq_some_iff.mp h1).1 nd).mp (h1.trans h2.symm))
theorem HM.ne_lh (m : HM A M H) {j k : Nat} {a b : Addr} (h1 : A.lo[j]? = some a) (h2 : A.hi[k]? = some b) : a ≠ b :=
  (List.nodup_append.mp m.nd).2.2 a (List.mem_of_getElem? h1) b (List.mem_of_getElem? h2)
/-- an own object is written -/
theorem HM.setLo (m : HM A M H) {k : Nat} {a : Addr} {o : HO} {d : D} (h : A.lo[k]? = some a) (hd : LowAt (delA A.all H) (upd H a o) a d) : HM A ⟨M.lo.set k d, M.hi⟩ (upd H a o) := by
  have e : delA A.all (upd H a o) = delA A.all H := delA_upd (lo_all h)
  refine ⟨by rw [List.length_set]; exact m.l1, m.l2, m.nd, fun j b d' h1 h2 => ?_, fun j b o' h1 h2 => ?_⟩
  · rw [e]
    by_cases q : j = k
    · subst q
      rw [h] at h1
      cases h1
      obtain ⟨d0, hd0⟩ := get_of m.l1 h
      rw [List.getElem?_set_self (List.getElem?_eq_some_iff.mp hd0).1] at h2
      cases h2
      exact hd
    · rw [List.getElem?_set_ne (Ne.symm q)] at h2
      exact (m.lo j b d' h1 h2).mono (Same.refl _) fun o' ho => by rw [upd_ne (m.ne_lo h1 h q)]; exact ho
  · rw [e]
    exact (m.hi j b o' h1 h2).mono (Same.refl _) (fun o' ho => by rw [upd_ne (Ne.symm (m.ne_lh h h1))]; exact ho) (fun _ _ _ h => h)
theorem HM.setHi (m : HM A M H) {k : Nat} {a : Addr} {o : HO} {d : OH} (h : A.hi[k]? = some a) (hd : HiAt (delA A.all H) A (upd H a o) a d) : HM A ⟨M.lo, M.hi.set k d⟩ (upd H a o) := by
  have e : delA A.all (upd H a o) = delA A.all H := delA_upd (hi_all h)
  refine ⟨m.l1, by rw [List.length_set]; exact m.l2, m.nd, fun j b d' h1 h2 => ?_, fun j b o' h1 h2 => ?_⟩
  · rw [e]
    exact (m.lo j b d' h1 h2).mono (Same.refl _) fun o' ho => by rw [upd_ne (m.ne_lh h1 h)]; exact ho
  · rw [e]
    by_cases q : j = k
    · subst q
      rw [h] at h1
      cases h1
      obtain ⟨d0, hd0⟩ := get_of m.l2 h
      rw [List.getElem?_set_self (List.getElem?_eq_some_iff.mp hd0).1] at h2
      cases h2
      exact hd
    · rw [List.getElem?_set_ne (Ne.symm q)] at h2
      exact (m.hi j b o' h1 h2).mono (Same.refl _) (fun o' ho => by rw [upd_ne (m.ne_hi h1 h q)]; exact ho) (fun _ _ _ h => h)
theorem all_addLo {A : Ad} {l : Addr} (b : Addr) : b ∈ (Ad.mk (A.lo ++ [l]) A.hi).all ↔ b ∈ A.all ∨ b = l := by
  simp only [Ad.all, List.mem_append, List.mem_singleton]
  constructor <;> rintro ((h | h) | h) <;> simp [h]
theorem all_addHi {A : Ad} {l : Addr} (b : Addr) : b ∈ (Ad.mk A.lo (A.hi ++ [l])).all ↔ b ∈ A.all ∨ b = l := by
  simp [Ad.all, or_assoc]
theorem get_app {α : Type} {l : List α} {k : Nat} {a x : α} (h : l[k]? = some a) : (l ++ [x])[k]? = some a := by
  rw [List.getElem?_append_left (List.getElem?_eq_some_iff.mp h).1]
  exact h
theorem app_get {α : Type} {l : List α} {k : Nat} {a x : α} (h : (l ++ [x])[k]? = some a) : l[k]? = some a ∨ k = l.length ∧ a = x := by
  by_cases q : k < l.length
  · rw [List.getElem?_append_left q] at h
    exact .inl h
  · by_cases e : k = l.length
    · subst e
      rw [List.getElem?_append_right (Nat.le_refl _), Nat.sub_self] at h
      exact .inr ⟨rfl, (Option.some.inj h).symm⟩
    · have : k < (l ++ [x]).length := (List.getElem?_eq_some_iff.mp h).1
      simp at this
      omega
theorem get_last {α : Type} {l : List α} {x : α} : (l ++ [x])[l.length]? = some x := by simp
/-- a new own object -/
theorem HM.addLo (m : HM A M H) {l : Addr} {o : HO} {d : D} (hl : H l = none) (hd : LowAt (delA A.all H) (upd H l o) l d) : HM ⟨A.lo ++ [l], A.hi⟩ ⟨M.lo ++ [d], M.hi⟩ (upd H l o) := by
  have e : delA (Ad.mk (A.lo ++ [l]) A.hi).all (upd H l o) = delA A.all H := delA_new hl all_addLo
  have ho := m.out hl
  refine ⟨by simp [m.l1], m.l2, ?_, fun j b d' h1 h2 => ?_, fun j b o' h1 h2 => ?_⟩
  · show ((A.lo ++ [l]) ++ A.hi).Nodup
    have nd := List.nodup_append.mp m.nd
    have ho' := fun z => ho (List.mem_append.mpr z)
    refine List.nodup_append.mpr ⟨List.nodup_append.mpr ⟨nd.1, by simp, fun a ha b hb => ?_⟩, nd.2.1, fun a ha b hb => ?_⟩
    · simp at hb
      subst hb
      exact fun z => ho' (.inl (z ▸ ha))
    · rcases List.mem_append.mp ha with h | h
      · exact nd.2.2 a h b hb
      · simp at h
        subst h
        exact fun z => ho' (.inr (z ▸ hb))
  · rw [e]
    rcases app_get h1 with h1 | ⟨rfl, rfl⟩
    · obtain ⟨d0, hd0⟩ := get_of m.l1 h1
      rw [get_app hd0] at h2
      cases h2
      exact (m.lo j b _ h1 hd0).mono (Same.refl _) fun o' ho1 => by rw [upd_ne (ne_of_none ho1 hl)]; exact ho1
    · rw [m.l1, get_last] at h2
      cases h2
      exact hd
  · rw [e]
    exact (m.hi j b o' h1 h2).mono (Same.refl _) (fun o' ho1 => by rw [upd_ne (ne_of_none ho1 hl)]; exact ho1) (fun _ _ _ h => get_app h)
theorem HM.addHi (m : HM A M H) {l : Addr} {o : HO} {d : OH} (hl : H l = none) (hd : HiAt (delA A.all H) A (upd H l o) l d) : HM ⟨A.lo, A.hi ++ [l]⟩ ⟨M.lo, M.hi ++ [d]⟩ (upd H l o) := by
  have e : delA (Ad.mk A.lo (A.hi ++ [l])).all (upd H l o) = delA A.all H := delA_new hl all_addHi
  have ho := m.out hl
  refine ⟨m.l1, by simp [m.l2], ?_, fun j b d' h1 h2 => ?_, fun j b o' h1 h2 => ?_⟩
  · show (A.lo ++ (A.hi ++ [l])).Nodup
    rw [← List.append_assoc]
    refine List.nodup_append.mpr ⟨m.nd, by simp, fun a ha b hb => ?_⟩
    simp at hb
    subst hb
    exact fun z => ho (z ▸ ha)
  · rw [e]
    exact (m.lo j b d' h1 h2).mono (Same.refl _) fun o' ho1 => by rw [upd_ne (ne_of_none ho1 hl)]; exact ho1
  · rw [e]
    rcases app_get h1 with h1 | ⟨rfl, rfl⟩
    · obtain ⟨d0, hd0⟩ := get_of m.l2 h1
      rw [get_app hd0] at h2
      cases h2
      exact HiAt.mono (A := A) (Same.refl _) (fun o' ho1 => by rw [upd_ne (ne_of_none ho1 hl)]; exact ho1) (fun _ _ _ h => h) (m.hi j b _ h1 hd0)
    · rw [m.l2, get_last] at h2
      cases h2
      exact HiAt.mono (A := A) (Same.refl _) (fun _ h => h) (fun _ _ _ h => h) hd
end
/-! ### names -/
inductive GW where
  | un | d (d : D) | lo (k : Nat) | hi (k : Nat)
def GWR (F : Hp) (A : Ad) : GW → Option V → Prop
  | .un, _ => True
  | .d d, o => ∃ v, o = some v ∧ Rep F d v
  | .lo k, o => ∃ a, A.lo[k]? = some a ∧ o = some (.ref a)
  | .hi k, o => ∃ a, A.hi[k]? = some a ∧ o = some (.ref a)
def EnvW (F : Hp) (A : Ad) : List GW → L2.St → Prop
  | [], σ => σ = []
  | g :: Γ, σ => ∃ o σ', σ = o :: σ' ∧ GWR F A g o ∧ EnvW F A Γ σ'
def gI (lo : List D) : I2 → D
  | .dat d => d
  | .own k => lo.getD k .non
def gO (lo : List D) : OH → D
  | .lst xs => .lst (xs.map (gI lo))
  | .dic ks xs => .dic ks (xs.map (gI lo))
def gP (M : Mem) : GW → G
  | .un => .un
  | .d d => .d d
  | .lo k => match M.lo[k]? with
    | some d => .d d
    | none => .un
  | .hi k => match M.hi[k]? with
    | some o => .d (gO M.lo o)
    | none => .un
section
variable {A A' : Ad} {M : Mem} {H H' : Hp}
theorem LowAt.rep {F : Hp} {a : Addr} (e : Same F H) : ∀ {d : D}, LowAt F H a d → Rep H d (.ref a)
  | .lst _, ⟨xs, h1, h2⟩ => ⟨a, xs, rfl, h1, h2.mono e⟩
  | .dic _ _, ⟨vs, h1, h2, h3⟩ => ⟨a, vs, rfl, h1, h2, h3.mono e⟩
theorem HM.repLo (m : HM A M H) {k : Nat} {a : Addr} {d : D} (h : A.lo[k]? = some a) (hd : M.lo[k]? = some d) : Rep H d (.ref a) := (m.lo k a d h hd).rep delA_le
theorem HM.repIt (m : HM A M H) {x : I2} {v : V} (h : ItR (delA A.all H) A x v) : Rep H (gI M.lo x) v := by
  cases x with
  | dat d => exact Rep.mono delA_le h
  | own k =>
    obtain ⟨a, h1, rfl⟩ := h
    obtain ⟨d, hd⟩ := get_of m.l1 h1
    show Rep H (M.lo.getD k .non) _
    rw [List.getD_eq_getElem?_getD, hd]
    exact m.repLo h1 hd
theorem HM.repIts (m : HM A M H) : ∀ {xs : List I2} {vs : List V}, ItRs (delA A.all H) A xs vs → Reps H (xs.map (gI M.lo)) vs
  | [], _, h => h
  | _ :: _, _, ⟨v, r, h1, h2, h3⟩ => ⟨v, r, h1, m.repIt h2, m.repIts h3⟩
theorem HM.repHi (m : HM A M H) {k : Nat} {a : Addr} {o : OH} (h : A.hi[k]? = some a) (hd : M.hi[k]? = some o) : Rep H (gO M.lo o) (.ref a) := by
  have := m.hi k a o h hd
  cases o with
  | lst xs =>
    obtain ⟨vs, h1, h2⟩ := this
    exact ⟨a, vs, rfl, h1, m.repIts h2⟩
  | dic ks xs =>
    obtain ⟨vs, h1, h2, h3⟩ := this
    exact ⟨a, vs, rfl, h1, by rw [List.length_map]; exact h2, m.repIts h3⟩
theorem HM.env (m : HM A M H) : ∀ {Γ : List GW} {σ : L2.St}, EnvW (delA A.all H) A Γ σ → EnvR H (Γ.map (gP M)) σ
  | [], _, h => h
  | g :: Γ, _, ⟨o, σ', h1, h2, h3⟩ => by
    refine ⟨o, σ', h1, ?_, m.env h3⟩
    cases g with
    | un => exact True.intro
    | d d =>
      obtain ⟨v, k1, k2⟩ := h2
      exact ⟨v, k1, k2.mono delA_le⟩
    | lo k =>
      obtain ⟨a, k1, k2⟩ := h2
      obtain ⟨d, hd⟩ := get_of m.l1 k1
      show GR H (match M.lo[k]? with | some d => .d d | none => .un) o
      rw [hd]
      exact ⟨_, k2, m.repLo k1 hd⟩
    | hi k =>
      obtain ⟨a, k1, k2⟩ := h2
      obtain ⟨d, hd⟩ := get_of m.l2 k1
      show GR H (match M.hi[k]? with | some o => .d (gO M.lo o) | none => .un) o
      rw [hd]
      exact ⟨_, k2, m.repHi k1 hd⟩
theorem EnvW.get {F : Hp} : ∀ {Γ : List GW} {σ : L2.St} {i : Nat} {g : GW}, EnvW F A Γ σ → Γ[i]? = some g → ∃ o, σ[i]? = some o ∧ GWR F A g o
  | [], _, _, _, _, e => by simp at e
  | _ :: _, _, 0, _, ⟨o, σ', h1, h2, h3⟩, e => by
    subst h1
    cases Option.some.inj e
    exact ⟨o, rfl, h2⟩
  | _ :: _, _, i + 1, _, ⟨o, σ', h1, h2, h3⟩, e => by
    subst h1
    exact EnvW.get (i := i) h3 e
theorem EnvW.set {F : Hp} {g : GW} {o : Option V} (hg : GWR F A g o) : ∀ {Γ : List GW} {σ : L2.St} (i : Nat), EnvW F A Γ σ → EnvW F A (Γ.set i g) (σ.set i o)
  | [], _, _, h => by cases h; rfl
  | _ :: _, _, 0, ⟨o', σ', h1, h2, h3⟩ => by subst h1; exact ⟨o, σ', rfl, hg, h3⟩
  | _ :: _, _, i + 1, ⟨o', σ', h1, h2, h3⟩ => by subst h1; exact ⟨o', _, rfl, h2, EnvW.set hg i h3⟩
theorem EnvW.forget {F : Hp} : ∀ {Γ : List GW} {σ : L2.St} (i : Nat), EnvW F A Γ σ → EnvW F A (Γ.set i .un) σ
  | [], _, _, h => by cases h; rfl
  | _ :: _, _, 0, ⟨o', σ', h1, h2, h3⟩ => by subst h1; exact ⟨o', σ', rfl, True.intro, h3⟩
  | _ :: _, _, i + 1, ⟨o', σ', h1, h2, h3⟩ => by subst h1; exact ⟨o', _, rfl, h2, EnvW.forget i h3⟩
theorem EnvW.len {F : Hp} : ∀ {Γ : List GW} {σ : L2.St}, EnvW F A Γ σ → σ.length = Γ.length
  | [], _, h => by cases h; rfl
  | _ :: _, _, ⟨_, _, h1, _, h3⟩ => by subst h1; simp [EnvW.len h3]
end
/-! ### what is kept -/
structure Fr (n : Nat) (A : Ad) (H : Hp) (A' : Ad) (H' : Hp) : Prop where
  s : Same (delA A.all H) (delA A'.all H')
  f : ∀ a ∈ A'.all, a ∈ A.all ∨ H a = none
  hi : ∀ (k : Nat) a, A.hi[k]? = some a → A'.hi[k]? = some a
  lo : ∀ (k : Nat) a, A.lo[k]? = some a → (k < 4 ∨ 4 + n ≤ k) → A'.lo[k]? = some a
def GOk (n : Nat) : GW → Prop
  | .lo k => k < 4 ∨ 4 + n ≤ k
  | _ => True
theorem gok0 {Γ : List GW} : ∀ g ∈ Γ, GOk 0 g := fun g _ => by
  cases g <;> first | exact True.intro | (show _ ∨ _; omega)
section
variable {A A1 A2 : Ad} {H H1 H2 : Hp} {n m : Nat}
theorem Fr.refl : Fr n A H A H := ⟨Same.refl _, fun _ h => .inl h, fun _ _ h => h, fun _ _ h _ => h⟩
theorem Fr.grow (e : Same H H1) : Fr n A H A H1 := ⟨delA_mono e, fun _ h => .inl h, fun _ _ h => h, fun _ _ h _ => h⟩
theorem Fr.trans (a : Fr n A H A1 H1) (b : Fr n A1 H1 A2 H2) : Fr n A H A2 H2 := by
  refine ⟨a.s.trans b.s, fun x hx => ?_, fun k x h => b.hi k x (a.hi k x h), fun k x h q => b.lo k x (a.lo k x h q) q⟩
  rcases b.f x hx with h | h
  · exact a.f x h
  · by_cases q : x ∈ A.all
    · exact .inl q
    · refine .inr ?_
      cases e : H x with
      | none => rfl
      | some o =>
        have h1 := a.s x o (by rw [delA_out q]; exact e)
        obtain ⟨_, h2⟩ := delA_get h1
        rw [h] at h2
        cases h2
theorem Fr.up (a : Fr m A H A1 H1) (h : m ≤ n) : Fr n A H A1 H1 := ⟨a.s, a.f, a.hi, fun k x e q => a.lo k x e (by omega)⟩
theorem Fr.upd {a : Addr} {o : HO} (h : a ∈ A.all) : Fr n A H A (upd H a o) := ⟨by rw [delA_upd h]; exact Same.refl _, fun _ h => .inl h, fun _ _ h => h, fun _ _ h _ => h⟩
theorem Fr.addLo {l : Addr} {o : HO} (hl : H l = none) : Fr n A H ⟨A.lo ++ [l], A.hi⟩ (L2.upd H l o) := by
  refine ⟨by rw [delA_new hl all_addLo]; exact Same.refl _, fun b h => ?_, fun _ _ h => h, fun _ _ h _ => get_app h⟩
  rcases (all_addLo b).mp h with h | h
  · exact .inl h
  · subst h
    exact .inr hl
theorem Fr.addHi {l : Addr} {o : HO} (hl : H l = none) : Fr n A H ⟨A.lo, A.hi ++ [l]⟩ (L2.upd H l o) := by
  refine ⟨by rw [delA_new hl all_addHi]; exact Same.refl _, fun b h => ?_, fun _ _ h => get_app h, fun _ _ h _ => h⟩
  rcases (all_addHi b).mp h with h | h
  · exact .inl h
  · subst h
    exact .inr hl
theorem Fr.env (a : Fr n A H A1 H1) : ∀ {Γ : List GW} {σ : L2.St}, (∀ g ∈ Γ, GOk n g) → EnvW (delA A.all H) A Γ σ → EnvW (delA A1.all H1) A1 Γ σ
  | [], _, _, h => h
  | g :: Γ, _, q, ⟨o, σ', h1, h2, h3⟩ => by
    refine ⟨o, σ', h1, ?_, a.env (fun g h => q g (List.mem_cons_of_mem _ h)) h3⟩
    have q0 := q g List.mem_cons_self
    cases g with
    | un => exact True.intro
    | d d =>
      obtain ⟨v, k1, k2⟩ := h2
      exact ⟨v, k1, k2.mono a.s⟩
    | lo k =>
      obtain ⟨x, k1, k2⟩ := h2
      exact ⟨x, a.lo k x k1 q0, k2⟩
    | hi k =>
      obtain ⟨x, k1, k2⟩ := h2
      exact ⟨x, a.hi k x k1, k2⟩
/-- the addresses stand -/
theorem EnvW.mono {F F1 : Hp} (e : Same F F1) (hl : ∀ (k : Nat) a, A.lo[k]? = some a → A1.lo[k]? = some a) (hh : ∀ (k : Nat) a, A.hi[k]? = some a → A1.hi[k]? = some a) : ∀ {Γ : List GW} {σ : L2.St}, EnvW F A Γ σ → EnvW F1 A1 Γ σ
  | [], _, h => h
  | g :: Γ, _, ⟨o, σ', h1, h2, h3⟩ => by
    refine ⟨o, σ', h1, ?_, EnvW.mono e hl hh h3⟩
    cases g with
    | un => exact True.intro
    | d d =>
      obtain ⟨v, k1, k2⟩ := h2
      exact ⟨v, k1, k2.mono e⟩
    | lo k =>
      obtain ⟨x, k1, k2⟩ := h2
      exact ⟨x, hl k x k1, k2⟩
    | hi k =>
      obtain ⟨x, k1, k2⟩ := h2
      exact ⟨x, hh k x k1, k2⟩
theorem EnvW.same {Γ : List GW} {σ : L2.St} (h : EnvW (delA A.all H) A Γ σ) (e : Same H H1) : EnvW (delA A.all H1) A Γ σ := h.mono (delA_mono e) (fun _ _ h => h) (fun _ _ h => h)
theorem EnvW.upd {Γ : List GW} {σ : L2.St} {a : Addr} {o : HO} (h : EnvW (delA A.all H) A Γ σ) (ha : a ∈ A.all) : EnvW (delA A.all (L2.upd H a o)) A Γ σ := by rw [delA_upd ha]; exact h
end
end P6
namespace P6
open PySem PySem.Spec PyProof.Rows L2
/-! ### expressions that change own objects; n: own objects 4 .. 4 + n may change their places -/
def EG (X : Cx) (e : Expr) (Γ : List GW) (M : Mem) (P : GW → Mem → Prop) : Prop := ∀ σ H A, HM A M H → EnvW (delA A.all H) A Γ σ → ∀ Q : VK, (∀ v H' A' g M', P g M' → Fr 0 A H A' H' → HM A' M' H' → GWR (delA A'.all H') A' g (some v) → Q v H') → sem X e σ H Q
def semA (X : Cx) (es : List Expr) : TA := fun σ H Q => ∀ (pos : Pos) (pins : List (Addr × Obj)) (s : Shared), Inv X pins σ H s → wpAny (model X.prog X.w) X.A (spliced (backTo pos (starEach es X.env))) (AP X pins σ Q) X.xe s
theorem pa_sem {X : Cx} {es : List Expr} : PA X es (semA X es) := ⟨fun pos pins s σ H Q I h => h pos pins s I⟩
def AG (X : Cx) (es : List Expr) (Γ : List GW) (M : Mem) (P : List GW → Mem → Prop) : Prop := ∀ σ H A, HM A M H → EnvW (delA A.all H) A Γ σ → ∀ Q : List V → Hp → Prop, (∀ vs H' A' gs M', P gs M' → Fr 0 A H A' H' → HM A' M' H' → EnvW (delA A'.all H') A' gs (vs.map some) → Q vs H') → semA X es σ H Q
def TG (X : Cx) (e : Expr) (Γ : List GW) (M : Mem) (P : Bool → Mem → Prop) : Prop := ∀ σ H A, HM A M H → EnvW (delA A.all H) A Γ σ → ∀ Q : Bool → Hp → Prop, (∀ b H' A' M', P b M' → Fr 0 A H A' H' → HM A' M' H' → Q b H') → semT X e σ H Q
abbrev eqP (g : GW) (M : Mem) : GW → Mem → Prop := fun g' M' => g' = g ∧ M' = M
section
variable {X : Cx} {Γ : List GW} {M : Mem} {a b c e : Expr} {es : List Expr} {d : D} {ds : List D} {pos p : Pos} {P : GW → Mem → Prop}
theorem eg_of {t : TE} (h1 : PE X e t) (h : ∀ σ H A, HM A M H → EnvW (delA A.all H) A Γ σ → ∀ Q : VK, (∀ v H' A' g M', P g M' → Fr 0 A H A' H' → HM A' M' H' → GWR (delA A'.all H') A' g (some v) → Q v H') → t σ H Q) : EG X e Γ M P :=
  fun σ H A m e Q q pins s I => h1.run pins s σ H Q I (h σ H A m e Q q)
theorem ag_of {t : TA} {R : List GW → Mem → Prop} (h1 : PA X es t) (h : ∀ σ H A, HM A M H → EnvW (delA A.all H) A Γ σ → ∀ Q : List V → Hp → Prop, (∀ vs H' A' gs M', R gs M' → Fr 0 A H A' H' → HM A' M' H' → EnvW (delA A'.all H') A' gs (vs.map some) → Q vs H') → t σ H Q) : AG X es Γ M R :=
  fun σ H A m e Q q pos pins s I => h1.run pos pins s σ H Q I (h σ H A m e Q q)
theorem tg_of {t : TT} {R : Bool → Mem → Prop} (h1 : PT X e t) (h : ∀ σ H A, HM A M H → EnvW (delA A.all H) A Γ σ → ∀ Q : Bool → Hp → Prop, (∀ b H' A' M', R b M' → Fr 0 A H A' H' → HM A' M' H' → Q b H') → t σ H Q) : TG X e Γ M R :=
  fun σ H A m e Q q pins s I => h1.run pins s σ H Q I (h σ H A m e Q q)
theorem EG.imp {P' : GW → Mem → Prop} (h : EG X e Γ M P) (i : ∀ g M', P g M' → P' g M') : EG X e Γ M P' := fun σ H A m e Q q => h σ H A m e Q fun v H' A' g M' p => q v H' A' g M' (i g M' p)
/-- nothing changes -/
theorem eg_U (h : U X e (Γ.map (gP M)) d) (n : noL d = true := by rfl) : EG X e Γ M (eqP (.d d) M) := by
  obtain ⟨t, h1, h2⟩ := h
  exact eg_of h1 fun σ H A m e Q q => h2 σ H (m.env e) _ fun v H1 e1 r1 => q v H1 A (.d d) M ⟨rfl, rfl⟩ (Fr.grow e1) (m.same e1) ⟨v, rfl, (m.same e1).rep n r1⟩
theorem eg_var {nm : Str} {g : GW} (k : Nat) (hΓ : Γ[k]? = some g) (hg : g ≠ .un := by exact fun h => nomatch h) (hN : X.N[k]? = some nm := by rfl) (hv : Vis X.env.scope nm := by first | exact Or.inl rfl | exact Or.inr (Or.inl rfl) | exact Or.inr (Or.inr rfl))
    (hd : (nm == ("__debug__" : Str)) = false := by decide) (hcd : (nm == ("__classdict__" : Str)) = false := by decide) : EG X (.Name nm pos) Γ M (eqP g M) := eg_of (pe_var hN hv hd hcd) fun σ H A m e Q q => by
  obtain ⟨o, h1, h2⟩ := e.get hΓ
  have : ∃ v, o = some v := by
    cases g with
    | un => exact absurd rfl hg
    | d d => obtain ⟨v, k1, _⟩ := h2; exact ⟨v, k1⟩
    | lo k => obtain ⟨v, _, k1⟩ := h2; exact ⟨_, k1⟩
    | hi k => obtain ⟨v, _, k1⟩ := h2; exact ⟨_, k1⟩
  obtain ⟨v, rfl⟩ := this
  exact ⟨v, h1, q v H A g M ⟨rfl, rfl⟩ Fr.refl m h2⟩
/-- a new list of data -/
theorem eg_UL (h : UL X e (Γ.map (gP M)) ds) (n : noLs ds = true) : EG X e Γ M (eqP (.d (.lst ds)) M) := by
  obtain ⟨t, h1, h2⟩ := h
  refine eg_of h1 fun σ H A m e Q q => h2 σ H (m.env e) _ fun l H1 e1 hn ⟨xs, k1, k2⟩ => ?_
  have m1 := m.same e1
  refine q (.ref l) H1 A _ M ⟨rfl, rfl⟩ (Fr.grow e1) m1 ⟨_, rfl, l, xs, rfl, ?_, m1.reps n (k2.mono del_le)⟩
  rw [delA_out (m.out hn)]
  exact k1
/-- a new own list -/
theorem hm_newL {A : Ad} {H H1 : Hp} {l : Addr} {ds : List D} (m : HM A M H) (e1 : Same H H1) (hn : H l = none) (h : LA H1 l ds) (n : noLs ds = true ∨ A.all = []) : HM ⟨A.lo ++ [l], A.hi⟩ ⟨M.lo ++ [.lst ds], M.hi⟩ H1 ∧ Fr 0 A H ⟨A.lo ++ [l], A.hi⟩ H1 := by
  obtain ⟨xs, k1, k2⟩ := h
  have ho := m.out hn
  have eU : upd (del H1 l) l (.lst xs) = H1 := by
    funext b
    by_cases q : b = l
    · subst q; rw [upd_same]; exact k1.symm
    · rw [upd_ne q, del_ne q]
  have s1 : Same H (del H1 l) := fun b o hb => by rw [del_ne (ne_of_none hb hn)]; exact e1 b o hb
  have m1 : HM A M (del H1 l) := m.same s1
  have hd : LowAt (delA A.all (del H1 l)) (upd (del H1 l) l (.lst xs)) l (.lst ds) := by
    refine ⟨xs, upd_same, ?_⟩
    rcases n with n | n
    · exact m1.reps n k2
    · have : delA A.all (del H1 l) = del H1 l := by
        funext b
        rw [n]
        exact delA_out (by simp)
      rw [this]
      exact k2
  have r1 := m1.addLo del_same hd
  have r2 : Fr 0 A (del H1 l) ⟨A.lo ++ [l], A.hi⟩ (upd (del H1 l) l (.lst xs)) := Fr.addLo del_same
  rw [eU] at r1 r2
  refine ⟨r1, ?_⟩
  refine ⟨(delA_mono s1).trans r2.s, fun a ha => ?_, r2.hi, r2.lo⟩
  rcases (all_addLo a).mp ha with h | h
  · exact .inl h
  · subst h
    exact .inr hn
theorem eg_newL (h : UL X e (Γ.map (gP M)) ds) (n : noLs ds = true ∨ M = ⟨[], []⟩) : EG X e Γ M (eqP (.lo M.lo.length) ⟨M.lo ++ [.lst ds], M.hi⟩) := by
  obtain ⟨t, h1, h2⟩ := h
  refine eg_of h1 fun σ H A m e Q q => h2 σ H (m.env e) _ fun l H1 e1 hn hl => ?_
  obtain ⟨m1, f1⟩ := hm_newL m e1 hn hl (n.imp id fun z => by
    have a1 := m.l1
    have a2 := m.l2
    rw [z] at a1 a2
    show A.lo ++ A.hi = []
    rw [List.eq_nil_of_length_eq_zero a1, List.eq_nil_of_length_eq_zero a2]
    rfl)
  exact q (.ref l) H1 _ _ _ ⟨rfl, rfl⟩ f1 m1 ⟨l, by rw [← m.l1]; exact get_last, rfl⟩
theorem sm_pe {X : Cx} {e : Expr} : PE X e (sem X e) := pe_sem
theorem Fr.gw {A A' : Ad} {H H' : Hp} {g : GW} {o : Option V} (f : Fr 0 A H A' H') (h : GWR (delA A.all H) A g o) : GWR (delA A'.all H') A' g o := by
  have := f.env (Γ := [g]) (σ := [o]) gok0 ⟨o, [], rfl, h, rfl⟩
  obtain ⟨o', σ', h1, h2, _⟩ := this
  cases h1
  exact h2
/-- a two-place operation -/
theorem eg_op {op : Operator} {r : R2} {P1 P2 R : GW → Mem → Prop} (ho : OpR X (binaryOp op) r) (ha : EG X a Γ M P1) (hb : ∀ g M1, P1 g M1 → EG X b Γ M1 P2) (hr : ∀ g M1 g2 M2, P1 g M1 → P2 g2 M2 → ∃ x y d, g = .d x ∧ g2 = .d y ∧ RD r x y d ∧ noL d = true ∧ R (.d d) M2) : EG X (.BinOp a op b pos) Γ M R :=
  eg_of (pe_op ho pe_sem pe_sem) fun σ H A m e Q q => by
    refine ha σ H A m e _ fun v H1 A1 g M1 p1 f1 m1 r1 => ?_
    refine hb g M1 p1 σ H1 A1 m1 (f1.env gok0 e) _ fun u H2 A2 g2 M2 p2 f2 m2 r2 => ?_
    obtain ⟨x, y, d, rfl, rfl, rd, n, rr⟩ := hr g M1 g2 M2 p1 p2
    obtain ⟨_, z1, k1⟩ := f2.gw r1
    cases z1
    obtain ⟨_, z2, k2⟩ := r2
    cases z2
    exact rd H2 v u (k1.mono delA_le) (k2.mono delA_le) Q fun z H3 e3 r3 => q z H3 A2 _ M2 rr ((f1.trans f2).trans (Fr.grow e3)) (m2.same e3) ⟨z, rfl, (m2.same e3).rep n r3⟩
/-- base[e], the base data -/
theorem eg_ixL {P1 : GW → Mem → Prop} (ha : EG X a Γ M (eqP (.d (.lst ds)) M)) (hb : EG X b Γ M P1) (hr : ∀ g M1, P1 g M1 → ∃ i d, g = .d (.int i) ∧ atI ds i = some d ∧ P (.d d) M1) (hs : PlainIx b := by exact fun _ _ => rfl) : EG X (.Subscript a b pos) Γ M P :=
  eg_of (pe_ix ix_list pe_sem pe_sem hs) fun σ H A m e Q q => by
    refine ha σ H A m e _ fun v H1 A1 g M1 p1 f1 m1 r1 => ?_
    obtain ⟨rfl, rfl⟩ := p1
    refine hb σ H1 A1 m1 (f1.env gok0 e) _ fun u H2 A2 g2 M2 p2 f2 m2 r2 => ?_
    obtain ⟨i, d, rfl, hi, pp⟩ := hr _ _ p2
    obtain ⟨_, z1, x, xs, k0, k1, k2⟩ := f2.gw r1
    cases z1
    obtain ⟨_, z2, k3⟩ := r2
    cases z2
    obtain ⟨z, k4, k5⟩ := atI_map k2 hi
    exact ⟨x, xs, i, z, k0, k3, SqL.of (delA_get k1).2, k4, q z H2 A2 _ M2 pp (f1.trans f2) m2 ⟨z, rfl, k5⟩⟩
/-! arguments -/
theorem ag_nil : AG X [] Γ M (fun gs M' => gs = [] ∧ M' = M) := ag_of pa_nil fun σ H A m e Q q => q [] H A [] M ⟨rfl, rfl⟩ Fr.refl m rfl
theorem ag_cons {P1 : GW → Mem → Prop} {P2 : GW → Mem → List GW → Mem → Prop} (ha : EG X e Γ M P1) (hb : ∀ g M1, P1 g M1 → AG X es Γ M1 (P2 g M1)) (hs : starEach (e :: es) X.env = (false, eval e X.env) :: starEach es X.env := by rfl) : AG X (e :: es) Γ M (fun gs M' => ∃ g gr M1, gs = g :: gr ∧ P1 g M1 ∧ P2 g M1 gr M') :=
  ag_of (pa_cons pe_sem pa_sem hs) fun σ H A m e Q q => by
    refine ha σ H A m e _ fun v H1 A1 g M1 p1 f1 m1 r1 => ?_
    refine hb g M1 p1 σ H1 A1 m1 (f1.env gok0 e) _ fun vs H2 A2 gs M2 p2 f2 m2 r2 => ?_
    exact q (v :: vs) H2 A2 (g :: gs) M2 ⟨g, gs, M1, rfl, p1, p2⟩ (f1.trans f2) m2 ⟨_, _, rfl, f2.gw r1, r2⟩
/-- arguments of which only the memory's end is asked -/
theorem ag_c {g : GW} {gs : List GW} {M1 M2 : Mem} (ha : EG X e Γ M (eqP g M1)) (hb : AG X es Γ M1 (fun gs' M' => gs' = gs ∧ M' = M2)) (hs : starEach (e :: es) X.env = (false, eval e X.env) :: starEach es X.env := by rfl) : AG X (e :: es) Γ M (fun gs' M' => gs' = g :: gs ∧ M' = M2) := by
  have h := ag_cons (P2 := fun _ _ gs' M' => gs' = gs ∧ M' = M2) ha (fun g' M' ⟨h1, h2⟩ => by subst h2; exact hb) hs
  intro σ H A m e Q q
  refine h σ H A m e Q fun vs H' A' gs' M' ⟨g', gr, M3, h1, h2, h3⟩ => ?_
  obtain ⟨rfl, rfl⟩ := h2
  obtain ⟨rfl, rfl⟩ := h3
  exact q vs H' A' gs' _ ⟨h1, rfl⟩
theorem envW_reps {F : Hp} {A : Ad} : ∀ {ds : List D} {vs : List V}, EnvW F A (ds.map .d) (vs.map some) → Reps F ds vs
  | [], [], _ => rfl
  | [], _ :: _, h => nomatch h
  | _ :: _, [], ⟨_, _, h, _⟩ => nomatch h
  | d :: ds, v :: vs, ⟨o, σ', h1, h2, h3⟩ => by
    cases h1
    obtain ⟨v', k1, k2⟩ := h2
    cases k1
    exact ⟨v, vs, rfl, k2, envW_reps h3⟩
/-- a tuple's display -/
theorem eg_tup {PL : List GW → Mem → Prop} {n : Nat} (h : AG X es Γ M PL) (hd : ∀ gs M', PL gs M' → ∃ ds, gs = ds.map .d ∧ ds.length ≤ 1000 ∧ P (.d (.tup ds)) M') : EG X (.Tuple es n pos) Γ M P :=
  eg_of (pe_tup pa_sem) fun σ H A m e Q q => by
    refine h σ H A m e _ fun vs H1 A1 gs M1 p1 f1 m1 r1 => ?_
    obtain ⟨ds, rfl, hl, pp⟩ := hd gs M1 p1
    have r := envW_reps r1
    refine ⟨by rw [r.length]; exact small_le (Nat.ble_eq_true_of_le hl), fun l hn => ?_⟩
    have s1 : Same H1 (upd H1 l (.tup vs)) := Same.new hn
    refine q _ _ A1 _ M1 pp (f1.trans (Fr.grow s1)) (m1.same s1) ⟨_, rfl, l, vs, rfl, ?_, r.mono (delA_mono s1)⟩
    rw [delA_out (m1.out hn)]
    exact upd_same
/-! calls -/
def spW (R : List GW → Mem → (D → Mem → Prop) → Nat → Prop) : Sp := fun vs H Q _ => ∃ gs M P n A, R gs M P n ∧ HM A M H ∧ EnvW (delA A.all H) A gs (vs.map some) ∧ ∀ v H' A' d M', P d M' → Fr n A H A' H' → HM A' M' H' → Rep (delA A'.all H') d v → Q v H'
theorem eg_call {R : List GW → Mem → (D → Mem → Prop) → Nat → Prop} {x : Str} {ps : List Str} {k : Nat} {PL : List GW → Mem → Prop} (F : Cal X.prog X.w X.K X.mg X.base x ps k (spW R)) (hr : Room k X.A) (h : AG X (e :: es) Γ M PL)
    (hR : ∀ gs M1, PL gs M1 → ∃ P1, R gs M1 P1 0 ∧ ∀ d M2, P1 d M2 → P (.d d) M2) (hg : Gl X x := by rfl) (hdb : (x == ("__debug__" : Str)) = false := by decide)
    (he : starEach (e :: es) X.env = (false, eval e X.env) :: starEach es X.env := by rfl) (hpl : (backTo pos (starEach es X.env)).any (·.1) = false := by rfl) : EG X (.Call (.Name x p) (e :: es) [] pos) Γ M P := by
  obtain ⟨f, fd, h1, h2, h3, h4⟩ := F.ex
  refine eg_of (pe_call h1 hr hg h2 h3 h4 .nil pass0 pa_sem hdb he hpl) fun σ H A m e Q q => h σ H A m e _ fun vs H1 A1 gs M1 p1 f1 m1 r1 => ?_
  obtain ⟨P1, rr, ii⟩ := hR gs M1 p1
  exact ⟨gs, M1, P1, 0, A1, rr, m1, by rw [List.append_nil]; exact r1, fun v H2 A2 d M2 pp f2 m2 r2 => q v H2 A2 (.d d) M2 (ii d M2 pp) (f1.trans f2) m2 ⟨v, rfl, r2⟩⟩
/-! tests -/
theorem tg_val {P1 : GW → Mem → Prop} {R : Bool → Mem → Prop} (h : EG X e Γ M P1) (hb : ∀ g M', P1 g M' → ∃ b, g = .d (.bl b) ∧ R b M') (he : ∀ whole, isTrue e X.env whole = (do let v ← whole; standAt e.pos; holding [v] (truthy v)) := by intro _; rfl) : TG X e Γ M R :=
  tg_of (pt_val pe_sem he) fun σ H A m e Q q => h σ H A m e _ fun v H1 A1 g M1 p1 f1 m1 r1 => by
    obtain ⟨b, rfl, pp⟩ := hb g M1 p1
    obtain ⟨_, z1, k1⟩ := r1
    cases z1
    exact ⟨b, k1, q b H1 A1 M1 pp f1 m1⟩
end
end P6
namespace P6
open PySem PySem.Spec PyProof.Rows L2
/-! ### statements that change own objects -/
structure FinW (n : Nat) (A : Ad) (H : Hp) (R : D → Option Mem → Prop) (N : List GW → Mem → Prop) (E : Ends) : Prop where
  rt : ∀ d v H' A' M', R d (some M') → Fr n A H A' H' → HM A' M' H' → Rep (delA A'.all H') d v → E.rt v H'
  gv : ∀ d v H' A', R d none → Fr n A H A' H' → Rep H' d v → E.rt v H'
  nx : ∀ Γ' M' σ' H' A', N Γ' M' → Fr n A H A' H' → HM A' M' H' → EnvW (delA A'.all H') A' Γ' σ' → E.nx σ' H'
theorem FinW.mono {n : Nat} {A A1 : Ad} {H H1 : Hp} {R : D → Option Mem → Prop} {N : List GW → Mem → Prop} {E : Ends} (f : Fr n A H A1 H1) (h : FinW n A H R N E) : FinW n A1 H1 R N E :=
  ⟨fun d v H' A' M' r f' => h.rt d v H' A' M' r (f.trans f'), fun d v H' A' r f' => h.gv d v H' A' r (f.trans f'), fun Γ' M' σ' H' A' r f' => h.nx Γ' M' σ' H' A' r (f.trans f')⟩
def BW (n : Nat) (X : Cx) (st : List Stmt) (Γ : List GW) (M : Mem) (R : D → Option Mem → Prop) (N : List GW → Mem → Prop) : Prop := ∀ σ H A (E : Ends), HM A M H → EnvW (delA A.all H) A Γ σ → FinW n A H R N E → semS X st E σ H
def semG (X : Cx) (e : Expr) : L2.TG := fun v σ H Q => ∀ (pins : List (Addr × Obj)) (s : Shared) (u : Value), Inv X pins σ H s → RelV v u → wpAny (model X.prog X.w) X.A (assign e X.env u) (fun _ s' => ∃ σ' H', Inv X pins σ' H' s' ∧ Q σ' H') X.xe s
theorem pg_sem {X : Cx} {e : Expr} : PG X e (semG X e) := ⟨fun pins s σ H v u Q I r h => h pins s u I r⟩
/-- what is written to a place of an own object -/
def SG (X : Cx) (e : Expr) (Γ : List GW) (M : Mem) (d : D) (M' : Mem) : Prop := ∀ σ H A v, HM A M H → EnvW (delA A.all H) A Γ σ → Rep (delA A.all H) d v → ∀ Q : L2.St → Hp → Prop, (∀ H' A', Fr 0 A H A' H' → HM A' M' H' → Q σ H') → semG X e v σ H Q
theorem find_kz {k : Str} : ∀ {ks : List Str} {vs : List V} {i : Nat} {v : V}, ks.Nodup → ks[i]? = some k → vs[i]? = some v → valV (kz ks vs) (.inr k) = some v
  | [], _, _, _, _, e, _ => by simp at e
  | _ :: _, [], _, _, _, _, e => by simp at e
  | k' :: ks, v' :: vs, 0, v, _, e1, e2 => by
    cases Option.some.inj e1
    cases Option.some.inj e2
    exact valV_pos rfl
  | k' :: ks, v' :: vs, i + 1, v, nd, e1, e2 => by
    have hne : ¬ (Sum.inr k' : Key) = .inr k := fun z => by
      cases z
      exact (List.nodup_cons.mp nd).1 (List.mem_of_getElem? (i := i) e1)
    show valV ((Sum.inr k', v') :: kz ks vs) (.inr k) = some v
    rw [valV_neg hne]
    exact find_kz (i := i) (List.nodup_cons.mp nd).2 e1 e2
theorem map_kz {k : Str} {v : V} : ∀ {ks : List Str} {vs : List V}, ¬ k ∈ ks → (kz ks vs).map (fun kv => if kv.1 = Sum.inr k then (kv.1, v) else kv) = kz ks vs
  | [], _, _ => rfl
  | _ :: _, [], _ => rfl
  | k' :: ks, v' :: vs, h => by
    have hne : ¬ (Sum.inr k' : Key) = .inr k := fun z => by cases z; exact h List.mem_cons_self
    show (if (Sum.inr k' : Key) = .inr k then ((Sum.inr k' : Key), v) else (Sum.inr k', v')) :: (kz ks vs).map _ = (Sum.inr k', v') :: kz ks vs
    rw [if_neg hne, map_kz fun z => h (List.mem_cons_of_mem _ z)]
theorem set_kz {k : Str} {v : V} : ∀ {ks : List Str} {vs : List V} {i : Nat}, ks.Nodup → ks[i]? = some k → (kz ks vs).map (fun kv => if kv.1 = Sum.inr k then (kv.1, v) else kv) = kz ks (vs.set i v)
  | [], _, _, _, e => by simp at e
  | _ :: _, [], _, _, _ => rfl
  | k' :: ks, v' :: vs, 0, nd, e1 => by
    cases Option.some.inj e1
    show (if (Sum.inr k : Key) = .inr k then ((Sum.inr k : Key), v) else (Sum.inr k, v')) :: (kz ks vs).map _ = (Sum.inr k, v) :: kz ks vs
    rw [if_pos rfl, map_kz (List.nodup_cons.mp nd).1]
  | k' :: ks, v' :: vs, i + 1, nd, e1 => by
    have hne : ¬ (Sum.inr k' : Key) = .inr k := fun z => by
      cases z
      exact (List.nodup_cons.mp nd).1 (List.mem_of_getElem? (i := i) e1)
    show (if (Sum.inr k' : Key) = .inr k then ((Sum.inr k' : Key), v) else (Sum.inr k', v')) :: (kz ks vs).map _ = (Sum.inr k', v') :: kz ks (vs.set i v)
    rw [if_neg hne, set_kz (i := i) (List.nodup_cons.mp nd).2 e1]
theorem put_kz {k : Str} {v : V} {ks : List Str} {vs : List V} {i : Nat} (nd : ks.Nodup) (hk : ks[i]? = some k) (hl : ks.length = vs.length) : putK (kz ks vs) (.inr k) v = kz ks (vs.set i v) := by
  have hv : ∃ u, vs[i]? = some u := get_of hl hk
  obtain ⟨u, hu⟩ := hv
  have := valV_any (κ := Key) (.inr k) (kz ks vs)
  rw [find_kz nd hk hu] at this
  unfold putK
  rw [this, if_pos (by rfl)]
  exact set_kz nd hk
theorem kz_length {ks : List Str} {vs : List V} : (kz ks vs).length ≤ ks.length := by
  unfold kz
  rw [List.length_zip, List.length_map]
  exact Nat.min_le_left _ _
def rSetD : V → V → V → Hp → (Hp → Prop) → Prop := fun o i v H Q => ∃ a kvs k, o = .ref a ∧ i = .str k ∧ H a = some (.dK kvs) ∧ kvs.length < sizeLine ∧ Q (upd H a (.dK (putK kvs (.inr k) v)))
theorem set_dk {X : Cx} (hu : X.A.units + 1 < cLine) : PSet X rSetD := by
  intro pins s σ H o i v ov iv u Q I ro ri rv h
  obtain ⟨a, kvs, k, rfl, rfl, hH, hl, q⟩ := h
  cases ro
  exact d_setItem hu I (.inl ⟨kvs, .inr k, hH, rfl, hl, rfl⟩) ri rv fun s' I' => ⟨_, I', q⟩
section
variable {X : Cx} {n : Nat} {Γ Γ1 : List GW} {M : Mem} {a b c e : Expr} {es : List Expr} {st : Stmt} {rest body els : List Stmt} {d x y : D} {ds : List D} {pos p p' tp apos : Pos} {P : GW → Mem → Prop} {R : D → Option Mem → Prop} {N N1 : List GW → Mem → Prop}
theorem bw_of {sts : List Stmt} {t : TS} (h1 : PSs X sts t) (h : ∀ σ H A (E : Ends), HM A M H → EnvW (delA A.all H) A Γ σ → FinW n A H R N E → t E σ H) : BW n X sts Γ M R N :=
  fun σ H A E m e q pins s I => h1.run pins s σ H E I (h σ H A E m e q)
theorem bw_nil (h : N Γ M) : BW n X [] Γ M R N := bw_of pss_nil fun σ H A E m e q => q.nx Γ M σ H A h Fr.refl m e
def wipeW (Γ : List GW) : List Nat → List GW
  | [] => Γ
  | v :: vs => (wipeW Γ vs).set v .un
theorem EnvW.wiped {F : Hp} {A : Ad} {Γ : List GW} {σ : L2.St} (h : EnvW F A Γ σ) : ∀ vs : List Nat, EnvW F A (wipeW Γ vs) σ
  | [] => h
  | v :: vs => (EnvW.wiped h vs).forget v
/-- the block's end, some names forgotten -/
theorem bw_nilF (vs : List Nat) (h : N (wipeW Γ vs) M) : BW n X [] Γ M R N := bw_of pss_nil fun σ H A E m e q => q.nx _ M σ H A h Fr.refl m (e.wiped vs)
theorem bw_forget (vs : List Nat) {sts : List Stmt} (h : BW n X sts (wipeW Γ vs) M R N) : BW n X sts Γ M R N := fun σ H A E m e q => h σ H A E m (e.wiped vs) q
theorem bw_ret (h : EG X e Γ M P) (hR : ∀ g M', P g M' → ∃ d, g = .d d ∧ R d (some M')) : BW n X (.Return (some e) pos :: rest) Γ M R N :=
  bw_of (pss_cons (ps_ret pe_sem) pss_never) fun σ H A E m e q => h σ H A m e _ fun v H1 A1 g M1 p1 f1 m1 r1 => by
    obtain ⟨d, rfl, rr⟩ := hR g M1 p1
    obtain ⟨_, z, k⟩ := r1
    cases z
    exact q.rt d v H1 A1 M1 rr (f1.up (Nat.zero_le _)) m1 k
/-- the memory is given up: what is handed back reads as data -/
theorem bw_retX (h : U X e (Γ.map (gP M)) d) (hR : R d none) : BW n X (.Return (some e) pos :: rest) Γ M R N := by
  obtain ⟨t, h1, h2⟩ := h
  exact bw_of (pss_cons (ps_ret h1) pss_never) fun σ H A E m e q => h2 σ H (m.env e) _ fun v H1 e1 r1 => q.gv d v H1 A hR (Fr.grow e1) r1
theorem bw_retN (hR : R .non (some M)) : BW n X (.Return none pos :: rest) Γ M R N :=
  bw_of (pss_cons ps_retN pss_never) fun σ H A E m e q => q.rt .non .non H A M hR Fr.refl m rfl
theorem bw_ifG {Q : Bool → Mem → Prop} (hc : P6.TG X c Γ M Q) (h1 : ∀ M', Q true M' → BW n X body Γ M' R N1) (h2 : ∀ M', Q false M' → BW n X els Γ M' R N1) (h : ∀ Γ' M', N1 Γ' M' → BW n X rest Γ' M' R N) : BW n X (.If c body els pos :: rest) Γ M R N :=
  bw_of (pss_cons (ps_if (pt_sem (X := X) (e := c)) (ps_sem (X := X) (st := body)) (ps_sem (X := X) (st := els))) (ps_sem (X := X) (st := rest))) fun σ H A E m e q => hc σ H A m e _ fun k H1 A1 M1 p1 f1 m1 => by
    have fin : FinW n A1 H1 R N1 { E with nx := semS X rest E } := by
      have q1 := q.mono (f1.up (Nat.zero_le _))
      exact ⟨q1.rt, q1.gv, fun Γ' M' σ' H' A' n1 f' m' e' => h Γ' M' n1 σ' H' A' E m' e' (q1.mono f')⟩
    cases k with
    | true =>
      show (if true = true then _ else _)
      rw [if_pos rfl]
      exact h1 M1 p1 σ H1 A1 _ m1 (f1.env gok0 e) fin
    | false =>
      show (if false = true then _ else _)
      rw [if_neg Bool.false_ne_true]
      exact h2 M1 p1 σ H1 A1 _ m1 (f1.env gok0 e) fin
theorem tg_T {k : Bool} (h : T X c (Γ.map (gP M)) k) : P6.TG X c Γ M (fun k' M' => k' = k ∧ M' = M) := by
  obtain ⟨t, h1, h2⟩ := h
  exact tg_of h1 fun σ H A m e Q q => h2 σ H (m.env e) _ fun H1 e1 => q k H1 A M ⟨rfl, rfl⟩ (Fr.grow e1) (m.same e1)
theorem bw_ifT (hc : T X c (Γ.map (gP M)) true) (h1 : BW n X body Γ M R N1) (h : ∀ Γ' M', N1 Γ' M' → BW n X rest Γ' M' R N) : BW n X (.If c body els pos :: rest) Γ M R N :=
  bw_ifG (tg_T hc) (fun M' ⟨_, q⟩ => by subst q; exact h1) (fun M' ⟨q, _⟩ => nomatch q) h
theorem bw_ifE (hc : T X c (Γ.map (gP M)) false) (h1 : BW n X els Γ M R N1) (h : ∀ Γ' M', N1 Γ' M' → BW n X rest Γ' M' R N) : BW n X (.If c body els pos :: rest) Γ M R N :=
  bw_ifG (tg_T hc) (fun M' ⟨q, _⟩ => nomatch q) (fun M' ⟨_, q⟩ => by subst q; exact h1) h
theorem bw_ifF (hc : T X c (Γ.map (gP M)) false) (h : BW n X rest Γ M R N) : BW n X (.If c body [] pos :: rest) Γ M R N :=
  bw_ifE (N1 := fun Γ' M' => Γ' = Γ ∧ M' = M) hc (bw_nil ⟨rfl, rfl⟩) fun Γ' M' ⟨q1, q2⟩ => by subst q1 q2; exact h
theorem bw_ifR (hc : T X c (Γ.map (gP M)) true) (h1 : BW n X body Γ M R (fun _ _ => False)) : BW n X (.If c body els pos :: rest) Γ M R N := bw_ifT hc h1 fun _ _ h => h.elim
theorem bw_imp {sts : List Stmt} {R' : D → Option Mem → Prop} {N' : List GW → Mem → Prop} (h : BW n X sts Γ M R' N') (h1 : ∀ d o, R' d o → R d o) (h2 : ∀ Γ' M', N' Γ' M' → N Γ' M') : BW n X sts Γ M R N := fun σ H A E m e q =>
  h σ H A E m e ⟨fun d v H' A' M' r => q.rt d v H' A' M' (h1 _ _ r), fun d v H' A' r => q.gv d v H' A' (h1 _ _ r), fun Γ' M' σ' H' A' r => q.nx Γ' M' σ' H' A' (h2 _ _ r)⟩
theorem bw_expr (he : EG X e Γ M P) (h : ∀ g M', P g M' → BW n X rest Γ M' R N) (hs : swapsWith e none pos.line X.env = pure false := by rfl) : BW n X (.Expr e pos :: rest) Γ M R N :=
  bw_of (pss_cons (ps_expr pe_sem hs) (ps_sem (X := X) (st := rest))) fun σ H A E m e q => he σ H A m e _ fun v H1 A1 g M1 p1 f1 m1 r1 => h g M1 p1 σ H1 A1 E m1 (f1.env gok0 e) (q.mono (f1.up (Nat.zero_le _)))
theorem bw_set {nm : Str} (i : Nat) (hN : X.N.Nodup) (he : EG X e Γ M P) (h : ∀ g M', P g M' → BW n X rest (Γ.set i g) M' R N) (hi : X.N[i]? = some nm := by rfl) (hx : Loc X.env.scope nm := by first | exact Or.inl rfl | exact Or.inr rfl)
    (hs : swapsWith e (some (.Name nm p')) pos.line X.env = pure false := by rfl) (hf : X.fn nm = true ∨ X.env.scope.names.lookup nm = some .local := by first | exact .inl rfl | exact .inr rfl) : BW n X (.Assign [.Name nm p'] e pos :: rest) Γ M R N :=
  bw_of (pss_cons (ps_set hN hi hx pe_sem hs hf) (ps_sem (X := X) (st := rest))) fun σ H A E m e q => he σ H A m e _ fun v H1 A1 g M1 p1 f1 m1 r1 => h g M1 p1 _ H1 A1 E m1 (EnvW.set r1 i (f1.env gok0 e)) (q.mono (f1.up (Nat.zero_le _)))
/-- a call that may change the places of the threads -/
theorem bw_callS {Rw : List GW → Mem → (D → Mem → Prop) → Nat → Prop} {x : Str} {ps : List Str} {k : Nat} {PL : List GW → Mem → Prop} (F : Cal X.prog X.w X.K X.mg X.base x ps k (spW Rw)) (hr : Room k X.A) (hA : AG X (a :: es) Γ M PL)
    (hR : ∀ gs M1, PL gs M1 → ∃ P1, Rw gs M1 P1 n ∧ ∀ d M2, P1 d M2 → BW n X rest Γ M2 R N) (hok : ∀ g ∈ Γ, GOk n g) (hg : Gl X x := by rfl) (hdb : (x == ("__debug__" : Str)) = false := by decide)
    (he : starEach (a :: es) X.env = (false, eval a X.env) :: starEach es X.env := by rfl) (hpl : (backTo pos (starEach es X.env)).any (·.1) = false := by rfl) (hs : swapsWith (.Call (.Name x p) (a :: es) [] pos) none tp.line X.env = pure false := by rfl) : BW n X (.Expr (.Call (.Name x p) (a :: es) [] pos) tp :: rest) Γ M R N := by
  obtain ⟨f, fd, h1, h2, h3, h4⟩ := F.ex
  refine bw_of (pss_cons (ps_expr (pe_call h1 hr hg h2 h3 h4 .nil pass0 pa_sem hdb he hpl) hs) (ps_sem (X := X) (st := rest))) fun σ H A E m e q => hA σ H A m e _ fun vs H1 A1 gs M1 p1 f1 m1 r1 => ?_
  obtain ⟨P1, rr, ii⟩ := hR gs M1 p1
  have f1n := f1.up (Nat.zero_le n)
  exact ⟨gs, M1, P1, n, A1, rr, m1, by rw [List.append_nil]; exact r1, fun v H2 A2 d M2 pp f2 m2 r2 => ii d M2 pp σ H2 A2 E m2 ((f1n.trans f2).env hok e) (q.mono (f1n.trans f2))⟩
/-- its answer handed back -/
theorem bw_retS {Rw : List GW → Mem → (D → Mem → Prop) → Nat → Prop} {x : Str} {ps : List Str} {k : Nat} {PL : List GW → Mem → Prop} (F : Cal X.prog X.w X.K X.mg X.base x ps k (spW Rw)) (hr : Room k X.A) (hA : AG X (a :: es) Γ M PL)
    (hR : ∀ gs M1, PL gs M1 → ∃ P1, Rw gs M1 P1 n ∧ ∀ d M2, P1 d M2 → R d (some M2)) (hg : Gl X x := by rfl) (hdb : (x == ("__debug__" : Str)) = false := by decide)
    (he : starEach (a :: es) X.env = (false, eval a X.env) :: starEach es X.env := by rfl) (hpl : (backTo pos (starEach es X.env)).any (·.1) = false := by rfl) : BW n X (.Return (some (.Call (.Name x p) (a :: es) [] pos)) tp :: rest) Γ M R N := by
  obtain ⟨f, fd, h1, h2, h3, h4⟩ := F.ex
  refine bw_of (pss_cons (ps_ret (pe_call h1 hr hg h2 h3 h4 .nil pass0 pa_sem hdb he hpl)) pss_never) fun σ H A E m e q => hA σ H A m e _ fun vs H1 A1 gs M1 p1 f1 m1 r1 => ?_
  obtain ⟨P1, rr, ii⟩ := hR gs M1 p1
  have f1n := f1.up (Nat.zero_le n)
  exact ⟨gs, M1, P1, n, A1, rr, m1, by rw [List.append_nil]; exact r1, fun v H2 A2 d M2 pp f2 m2 r2 => q.rt d v H2 A2 M2 (ii d M2 pp) (f1n.trans f2) m2 r2⟩
end
end P6
namespace P6
open PySem PySem.Spec PyProof.Rows L2
section
variable {X : Cx} {n : Nat} {Γ Γ1 : List GW} {M : Mem} {a b c e i : Expr} {es : List Expr} {st : Stmt} {rest body els : List Stmt} {d x y : D} {ds : List D} {ks : List Str} {xs : List I2} {pos p p' tp apos : Pos} {P : GW → Mem → Prop} {R : D → Option Mem → Prop} {N N1 : List GW → Mem → Prop} {k j : Nat} {z : Int} {s : Str}
/-! ### dicts read -/
theorem u_dget {Δ : List G} (hu : X.A.units + 1 < cLine) (ha : U X a Δ (.dic ks ds)) (hb : U X b Δ (.str s)) (j : Nat) (hk : ks[j]? = some s := by rfl) (hd : ds[j]? = some d := by rfl) (nd : ks.Nodup := by decide +kernel) (hs : NoSl b := by exact fun _ _ => rfl) : U X (.Subscript a b pos) Δ d := by
  obtain ⟨ta, h1, h2⟩ := ha
  obtain ⟨tb, h3, h4⟩ := hb
  refine ⟨_, pe_dget hu h1 h3 hs, fun σ H e Q q => h2 σ H e _ fun v H1 e1 r1 => h4 σ H1 (e.mono e1) _ fun u H2 e2 r2 => ?_⟩
  obtain ⟨l, vs, k1, k2, k3, k4⟩ := r1.mono e2
  obtain ⟨w, h5, h6⟩ := k4.get hd
  cases r2
  refine ⟨l, w, k1, ?_, q w H2 (e1.trans e2) h6⟩
  have := DGet.k (k := Sum.inr s) k2
  rw [find_kz nd hk h5] at this
  exact this
/-! ### places in own objects, read -/
theorem eg_hiL {m : Nat} (ha : EG X a Γ M (eqP (.hi k) M)) (hk : M.hi[k]? = some (.lst xs)) (hb : U X b (Γ.map (gP M)) (.int z)) (hz : ixN xs.length z = some j) (hj : xs[j]? = some (.own m)) (hs : PlainIx b := by exact fun _ _ => rfl) : EG X (.Subscript a b pos) Γ M (eqP (.lo m) M) := by
  obtain ⟨tb, h3, h4⟩ := hb
  refine eg_of (pe_ix ix_list pe_sem h3 hs) fun σ H A m e Q q => ha σ H A m e _ fun v H1 A1 g M1 p1 f1 m1 r1 => ?_
  obtain ⟨rfl, rfl⟩ := p1
  obtain ⟨l, h5, h6⟩ := r1
  cases h6
  refine h4 σ H1 (m1.env (f1.env gok0 e)) _ fun u H2 e2 r2 => ?_
  have m2 := m1.same e2
  obtain ⟨vs, k1, k2⟩ := m2.hi k l _ h5 hk
  obtain ⟨w, k3, o, k4, rfl⟩ := k2.get hj
  refine ⟨l, vs, z, _, rfl, r2, SqL.of k1, ?_, q _ H2 A1 _ M1 ⟨rfl, rfl⟩ (f1.trans (Fr.grow e2)) m2 ⟨o, k4, rfl⟩⟩
  unfold atI
  rw [k2.length, hz]
  exact k3
theorem eg_hiD {m : Nat} (hu : X.A.units + 1 < cLine) (ha : EG X a Γ M (eqP (.hi k) M)) (hk : M.hi[k]? = some (.dic ks xs)) (hb : U X b (Γ.map (gP M)) (.str s)) (j : Nat) (hz : ks[j]? = some s := by rfl) (hj : xs[j]? = some (.own m) := by rfl) (nd : ks.Nodup := by decide +kernel) (hs : NoSl b := by exact fun _ _ => rfl) : EG X (.Subscript a b pos) Γ M (eqP (.lo m) M) := by
  obtain ⟨tb, h3, h4⟩ := hb
  refine eg_of (pe_dget hu pe_sem h3 hs) fun σ H A m e Q q => ha σ H A m e _ fun v H1 A1 g M1 p1 f1 m1 r1 => ?_
  obtain ⟨rfl, rfl⟩ := p1
  obtain ⟨l, h5, h6⟩ := r1
  cases h6
  refine h4 σ H1 (m1.env (f1.env gok0 e)) _ fun u H2 e2 r2 => ?_
  have m2 := m1.same e2
  obtain ⟨vs, k1, k0, k2⟩ := m2.hi k l _ h5 hk
  obtain ⟨w, k3, o, k4, rfl⟩ := k2.get hj
  cases r2
  refine ⟨l, _, rfl, ?_, q _ H2 A1 _ M1 ⟨rfl, rfl⟩ (f1.trans (Fr.grow e2)) m2 ⟨o, k4, rfl⟩⟩
  have := DGet.k (k := Sum.inr s) k1
  rw [find_kz nd hz k3] at this
  exact this
/-! ### written -/
theorem sg_of {t : L2.TG} {M' : Mem} (h1 : PG X e t) (h : ∀ σ H A v, HM A M H → EnvW (delA A.all H) A Γ σ → Rep (delA A.all H) d v → ∀ Q : L2.St → Hp → Prop, (∀ H' A', Fr 0 A H A' H' → HM A' M' H' → Q σ H') → t v σ H Q) : SG X e Γ M d M' :=
  fun σ H A v m e r Q q pins s u I rv => h1.run pins s σ H v u Q I rv (h σ H A v m e r Q q)
theorem Fr.rep0 {A A' : Ad} {H H' : Hp} {v : V} (f : Fr 0 A H A' H') (h : Rep (delA A.all H) d v) : Rep (delA A'.all H') d v := h.mono f.s
theorem sg_loL (ha : EG X a Γ M (eqP (.lo k) M)) (hk : M.lo[k]? = some (.lst ds)) (hb : U X i (Γ.map (gP M)) (.int z)) (hz : ixN ds.length z = some j)
    (hs : ∀ v, assign (.Subscript a i pos) X.env v = (do
      let ov ← holding [v] (eval a X.env)
      let iv ← holding [v, ov] (eval i X.env)
      standAt pos
      holding [v, ov, iv] (setItem ov iv v)
      release [v, ov, iv] []) := by intro _; rfl) : SG X (.Subscript a i pos) Γ M d ⟨M.lo.set k (.lst (ds.set j d)), M.hi⟩ := by
  obtain ⟨ti, h3, h4⟩ := hb
  refine sg_of (pg_sub pe_sem h3 set_list hs) fun σ H A v m e rv Q q => ha σ H A m e _ fun o H1 A1 g M1 p1 f1 m1 r1 => ?_
  obtain ⟨rfl, rfl⟩ := p1
  obtain ⟨l, h5, h6⟩ := r1
  cases h6
  refine h4 σ H1 (m1.env (f1.env gok0 e)) _ fun u H2 e2 r2 => ?_
  have m2 := m1.same e2
  obtain ⟨vs, k1, k2⟩ := m2.lo k l _ h5 hk
  have f12 := f1.trans (Fr.grow e2)
  refine ⟨l, vs, z, j, rfl, r2, k1, by rw [k2.length]; exact hz, q _ A1 (f12.trans (Fr.upd (lo_all h5))) (m2.setLo h5 ⟨_, upd_same, Reps.set (f12.rep0 rv) j k2⟩)⟩
theorem sg_loD (hu : X.A.units + 1 < cLine) (ha : EG X a Γ M (eqP (.lo k) M)) (hk : M.lo[k]? = some (.dic ks ds)) (hb : U X i (Γ.map (gP M)) (.str s)) (j : Nat) (hz : ks[j]? = some s := by rfl) (nd : ks.Nodup := by decide +kernel) (hsz : ks.length < 100 := by decide)
    (hs : ∀ v, assign (.Subscript a i pos) X.env v = (do
      let ov ← holding [v] (eval a X.env)
      let iv ← holding [v, ov] (eval i X.env)
      standAt pos
      holding [v, ov, iv] (setItem ov iv v)
      release [v, ov, iv] []) := by intro _; rfl) : SG X (.Subscript a i pos) Γ M d ⟨M.lo.set k (.dic ks (ds.set j d)), M.hi⟩ := by
  obtain ⟨ti, h3, h4⟩ := hb
  refine sg_of (pg_sub pe_sem h3 (set_dk hu) hs) fun σ H A v m e rv Q q => ha σ H A m e _ fun o H1 A1 g M1 p1 f1 m1 r1 => ?_
  obtain ⟨rfl, rfl⟩ := p1
  obtain ⟨l, h5, h6⟩ := r1
  cases h6
  refine h4 σ H1 (m1.env (f1.env gok0 e)) _ fun u H2 e2 r2 => ?_
  have m2 := m1.same e2
  obtain ⟨vs, k1, k0, k2⟩ := m2.lo k l _ h5 hk
  have f12 := f1.trans (Fr.grow e2)
  cases r2
  refine ⟨l, _, s, rfl, rfl, k1, by have := kz_length (ks := ks) (vs := vs); rw [sizeLine_eq]; omega, ?_⟩
  rw [put_kz nd hz (by rw [k0, k2.length])]
  exact q _ A1 (f12.trans (Fr.upd (lo_all h5))) (m2.setLo h5 ⟨_, upd_same, by rw [List.length_set]; exact k0, Reps.set (f12.rep0 rv) j k2⟩)
theorem sg_hiD (hu : X.A.units + 1 < cLine) (ha : EG X a Γ M (eqP (.hi k) M)) (hk : M.hi[k]? = some (.dic ks xs)) (hb : U X i (Γ.map (gP M)) (.str s)) (j : Nat) (hz : ks[j]? = some s := by rfl) (nd : ks.Nodup := by decide +kernel) (hsz : ks.length < 100 := by decide)
    (hs : ∀ v, assign (.Subscript a i pos) X.env v = (do
      let ov ← holding [v] (eval a X.env)
      let iv ← holding [v, ov] (eval i X.env)
      standAt pos
      holding [v, ov, iv] (setItem ov iv v)
      release [v, ov, iv] []) := by intro _; rfl) : SG X (.Subscript a i pos) Γ M d ⟨M.lo, M.hi.set k (.dic ks (xs.set j (.dat d)))⟩ := by
  obtain ⟨ti, h3, h4⟩ := hb
  refine sg_of (pg_sub pe_sem h3 (set_dk hu) hs) fun σ H A v m e rv Q q => ha σ H A m e _ fun o H1 A1 g M1 p1 f1 m1 r1 => ?_
  obtain ⟨rfl, rfl⟩ := p1
  obtain ⟨l, h5, h6⟩ := r1
  cases h6
  refine h4 σ H1 (m1.env (f1.env gok0 e)) _ fun u H2 e2 r2 => ?_
  have m2 := m1.same e2
  obtain ⟨vs, k1, k0, k2⟩ := m2.hi k l _ h5 hk
  have f12 := f1.trans (Fr.grow e2)
  cases r2
  refine ⟨l, _, s, rfl, rfl, k1, by have := kz_length (ks := ks) (vs := vs); rw [sizeLine_eq]; omega, ?_⟩
  rw [put_kz nd hz (by rw [k0, k2.length])]
  exact q _ A1 (f12.trans (Fr.upd (hi_all h5))) (m2.setHi h5 ⟨_, upd_same, by rw [List.length_set]; exact k0, ItRs.set (x := .dat d) (f12.rep0 rv) j k2⟩)
/-- place = e -/
theorem bw_sg {tg : Expr} (he : EG X e Γ M P) (h : ∀ g M1, P g M1 → ∃ d M2, g = .d d ∧ SG X tg Γ M1 d M2 ∧ BW n X rest Γ M2 R N) (hs : swapsWithSole [tg] e pos.line X.env = pure false := by rfl) (hw : swappedStores [tg] e X.env = pure none := by rfl)
    (h1 : (assignEach [tg] X.env).map (·.2) = [assign tg X.env] := by rfl) : BW n X (.Assign [tg] e pos :: rest) Γ M R N :=
  bw_of (pss_cons (ps_asg pe_sem pg_sem hs hw h1) (ps_sem (X := X) (st := rest))) fun σ H A E m e q => he σ H A m e _ fun v H1 A1 g M1 p1 f1 m1 r1 => by
    obtain ⟨d, M2, rfl, sg, bw⟩ := h g M1 p1
    obtain ⟨_, z, rv⟩ := r1
    cases z
    have e1 := f1.env gok0 e
    exact sg σ H1 A1 v m1 e1 rv _ fun H2 A2 f2 m2 => bw σ H2 A2 E m2 (f2.env gok0 e1) (q.mono ((f1.trans f2).up (Nat.zero_le _)))
/-- place, place = e1, e2 -/
theorem bw_sg2 {t1 t2 : Expr} {kt : Nat} {M1 M2 : Mem} (he : EG X e Γ M (eqP (.d (.tup [x, y])) M)) (h1 : SG X t1 Γ M x M1) (h2 : SG X t2 Γ M1 y M2) (h : BW n X rest Γ M2 R N) (hc : X.calm = true := by rfl)
    (hs : swapsWithSole [.Tuple [t1, t2] kt tp] e pos.line X.env = pure false := by rfl) (hw : swappedStores [.Tuple [t1, t2] kt tp] e X.env = pure none := by rfl)
    (ha : (assignEach [.Tuple [t1, t2] kt tp] X.env).map (·.2) = [assign (.Tuple [t1, t2] kt tp) X.env] := by rfl)
    (hn : (assignEach [t1, t2] X.env).length = 2 := by rfl) (hst : (assignEach [t1, t2] X.env).findIdx? (·.1) = none := by rfl)
    (hs1 : (assignEach [t1, t2] X.env).map (·.2) = assign t1 X.env :: (assignEach [t2] X.env).map (·.2) := by rfl)
    (hs2 : (assignEach [t2] X.env).map (·.2) = assign t2 X.env :: (assignEach [] X.env).map (·.2) := by rfl) : BW n X (.Assign [.Tuple [t1, t2] kt tp] e pos :: rest) Γ M R N :=
  bw_of (pss_cons (ps_asg pe_sem (pg_tup hc (pgs_cons pg_sem (pgs_cons pg_sem pgs_nil hs2) hs1) hn hst) hs hw ha) (ps_sem (X := X) (st := rest))) fun σ H A E m e q => he σ H A m e _ fun v H1 A1 g M1' p1 f1 m1 r1 => by
    obtain ⟨rfl, rfl⟩ := p1
    obtain ⟨_, z, rv⟩ := r1
    cases z
    have e1 := f1.env gok0 e
    obtain ⟨l, vs, k1, k2, v1, w1, k3, k4, v2, w2, k5, k6, k7⟩ := rv
    cases k7
    subst k5 k3
    refine ⟨l, _, k1, SqT.of (delA_get k2).2, rfl, v1, [v2], rfl, ?_⟩
    refine h1 σ H1 A1 v1 m1 e1 k4 _ fun H2 A2 f2 m2 => ⟨v2, [], rfl, ?_⟩
    refine h2 σ H2 A2 v2 m2 (f2.env gok0 e1) (f2.rep0 k6) _ fun H3 A3 f3 m3 => ⟨rfl, ?_⟩
    exact h σ H3 A3 E m3 (f3.env gok0 (f2.env gok0 e1)) (q.mono (((f1.trans f2).trans f3).up (Nat.zero_le _)))
/-- own.append(e) -/
theorem bw_append (ha : EG X a Γ M (eqP (.lo k) M)) (he : EG X e Γ M P) (h : ∀ g M1, P g M1 → ∃ d ds, g = .d d ∧ M1.lo[k]? = some (.lst ds) ∧ ds.length ≤ 1000 ∧ BW n X rest Γ ⟨M1.lo.set k (.lst (ds ++ [d])), M1.hi⟩ R N) (hty : ∃ ds, M.lo[k]? = some (.lst ds))
    (hs : swapsWith (.Call (.Attribute a "append" apos) [e] [] p) none pos.line X.env = pure false := by rfl)
    (hst : starEach [e] X.env = (false, eval e X.env) :: starEach [] X.env := by rfl) (hbase : attributeBase a "append" X.env (eval a X.env) = eval a X.env := by rfl)
    (hfew : ((backTo p (starEach [e] X.env)).all (fun x => !x.1) && (backToKw p (keywordEach [] X.env)).all (fun x => x.1.isSome) && decide ([e].length + ([] : List Keyword).length + (if ([] : List Keyword).isEmpty then 0 else 1) < 30)) = true := by rfl)
    (hline : (apos.endLine == p.line) = true := by rfl) : BW n X (.Expr (.Call (.Attribute a "append" apos) [e] [] p) pos :: rest) Γ M R N := by
  refine bw_of (pss_cons (ps_expr (pe_bm PySem.F.plainAttrs_list PySem.F.slot_list_append PySem.F.type_list_append mt_append pe_sem (pa_cons pe_sem pa_nil hst) hbase hfew hline hst) hs) (ps_sem (X := X) (st := rest))) fun σ H A E m e q => ha σ H A m e _ fun v H1 A1 g M1 p1 f1 m1 r1 => ?_
  obtain ⟨rfl, rfl⟩ := p1
  obtain ⟨l, h5, h6⟩ := r1
  cases h6
  obtain ⟨ds0, hk0⟩ := hty
  obtain ⟨vs0, k10, _⟩ := m1.lo k l _ h5 hk0
  have e1 := f1.env gok0 e
  refine .inl ⟨rfl, _, SqL.of k10⟩ |> fun hT => ⟨hT, he σ H1 A1 m1 e1 _ fun u H2 A2 g2 M2 p2 f2 m2 r2 => ?_⟩
  obtain ⟨d, ds, rfl, hk, hl, bw⟩ := h g2 M2 p2
  obtain ⟨_, z, rv⟩ := r2
  cases z
  have h52 := f2.lo k l h5 (by omega)
  obtain ⟨vs, k1, k2⟩ := m2.lo k l _ h52 hk
  refine ⟨l, vs, u, rfl, rfl, k1, by rw [k2.length, sizeLine_eq]; omega, ?_⟩
  have m3 := m2.setLo (o := .lst (vs ++ [u])) (d := .lst (ds ++ [d])) h52 ⟨_, upd_same, k2.append ⟨u, [], rfl, rv, rfl⟩⟩
  have f3 : Fr 0 A H A2 (upd H2 l (.lst (vs ++ [u]))) := (f1.trans f2).trans (Fr.upd (lo_all h52))
  exact bw σ _ A2 E m3 (f3.env gok0 e) (q.mono (f3.up (Nat.zero_le _)))
end
end P6
namespace P6
open PySem PySem.Spec PyProof.Rows L2
section
variable {X : Cx} {n : Nat} {Γ Γ1 : List GW} {M : Mem} {a b c e iter elt : Expr} {es : List Expr} {st : Stmt} {rest body els : List Stmt} {d x y : D} {ds : List D} {ks : List Str} {xs : List I2} {pos p p' tp apos : Pos} {P : GW → Mem → Prop} {R : D → Option Mem → Prop} {N N1 : List GW → Mem → Prop} {k j : Nat} {z : Int} {s : Str}
theorem envW_cons {F : Hp} {A : Ad} {g : GW} {gs : List GW} {vs : List V} (h : EnvW F A (g :: gs) (vs.map some)) : ∃ v r, vs = v :: r ∧ GWR F A g (some v) ∧ EnvW F A gs (r.map some) := by
  cases vs with
  | nil =>
    obtain ⟨_, _, h, _⟩ := h
    cases h
  | cons v r =>
    obtain ⟨o, σ', h1, h2, h3⟩ := h
    cases h1
    exact ⟨v, r, rfl, h2, h3⟩
theorem envW_nil {F : Hp} {A : Ad} {vs : List V} (h : EnvW F A [] (vs.map some)) : vs = [] := by
  cases vs with
  | nil => rfl
  | cons v r => exact absurd h (fun z => nomatch z)
/-- a, b = e1, e2 with plain locals -/
theorem bw_par2 {n1 n2 : Str} {q1 q2 tp tp2 : Pos} {k k2 : Nat} {PL : List GW → Mem → Prop} (i j : Nat) (hN : X.N.Nodup) (ha : AG X [a, b] Γ M PL) (h : ∀ gs M', PL gs M' → ∃ g1 g2, gs = [g1, g2] ∧ BW n X rest ((Γ.set i g1).set j g2) M' R N) (hij : i ≠ j := by decide) (hc : X.calm = true := by rfl)
    (hi : X.N[i]? = some n1 := by rfl) (hj : X.N[j]? = some n2 := by rfl) (hx : X.env.scope.names.lookup n1 = some .local := by rfl) (hy : X.env.scope.names.lookup n2 = some .local := by rfl)
    (hw : swappedStores [.Tuple [.Name n1 q1, .Name n2 q2] k tp] (.Tuple [a, b] k2 tp2) X.env = pure (some [n1, n2]) := by rfl)
    (hs : swapsWithSole [.Tuple [.Name n1 q1, .Name n2 q2] k tp] (.Tuple [a, b] k2 tp2) pos.line X.env = pure false := by rfl) : BW n X (.Assign [.Tuple [.Name n1 q1, .Name n2 q2] k tp] (.Tuple [a, b] k2 tp2) pos :: rest) Γ M R N :=
  bw_of (pss_cons (ps_par hc hN hi hj hij hx hy pa_sem hw hs) (ps_sem (X := X) (st := rest))) fun σ H A E m e q => ha σ H A m e _ fun vs H1 A1 gs M1 p1 f1 m1 r1 => by
    obtain ⟨g1, g2, rfl, bw⟩ := h gs M1 p1
    obtain ⟨v1, r2, rfl, k1, r3⟩ := envW_cons r1
    obtain ⟨v2, r4, rfl, k2, r5⟩ := envW_cons r3
    obtain rfl := envW_nil r5
    exact ⟨v1, v2, rfl, bw _ H1 A1 E m1 (EnvW.set k2 j (EnvW.set k1 i (f1.env gok0 e))) (q.mono (f1.up (Nat.zero_le _)))⟩
theorem bw_par3 {n1 n2 n3 : Str} {q1 q2 q3 tp tp2 : Pos} {k k2 : Nat} {PL : List GW → Mem → Prop} (i j l : Nat) (hN : X.N.Nodup) (ha : AG X [a, b, c] Γ M PL) (h : ∀ gs M', PL gs M' → ∃ g1 g2 g3, gs = [g1, g2, g3] ∧ BW n X rest (((Γ.set i g1).set j g2).set l g3) M' R N) (hij : i ≠ j := by decide) (hil : i ≠ l := by decide) (hjl : j ≠ l := by decide)
    (hc : X.calm = true := by rfl) (hi : X.N[i]? = some n1 := by rfl) (hj : X.N[j]? = some n2 := by rfl) (hl : X.N[l]? = some n3 := by rfl) (hx : X.env.scope.names.lookup n1 = some .local := by rfl) (hy : X.env.scope.names.lookup n2 = some .local := by rfl) (hz : X.env.scope.names.lookup n3 = some .local := by rfl)
    (hw : swappedStores [.Tuple [.Name n1 q1, .Name n2 q2, .Name n3 q3] k tp] (.Tuple [a, b, c] k2 tp2) X.env = pure (some [n1, n2, n3]) := by rfl)
    (hs : swapsWithSole [.Tuple [.Name n1 q1, .Name n2 q2, .Name n3 q3] k tp] (.Tuple [a, b, c] k2 tp2) pos.line X.env = pure false := by rfl) : BW n X (.Assign [.Tuple [.Name n1 q1, .Name n2 q2, .Name n3 q3] k tp] (.Tuple [a, b, c] k2 tp2) pos :: rest) Γ M R N :=
  bw_of (pss_cons (ps_par3 hc hN hi hj hl hij hil hjl hx hy hz pa_sem hw hs) (ps_sem (X := X) (st := rest))) fun σ H A E m e q => ha σ H A m e _ fun vs H1 A1 gs M1 p1 f1 m1 r1 => by
    obtain ⟨g1, g2, g3, rfl, bw⟩ := h gs M1 p1
    obtain ⟨v1, r2, rfl, k1, r3⟩ := envW_cons r1
    obtain ⟨v2, r4, rfl, k2, r5⟩ := envW_cons r3
    obtain ⟨v3, r6, rfl, k3, r7⟩ := envW_cons r5
    obtain rfl := envW_nil r7
    exact ⟨v1, v2, v3, rfl, bw _ H1 A1 E m1 (EnvW.set k3 l (EnvW.set k2 j (EnvW.set k1 i (f1.env gok0 e)))) (q.mono (f1.up (Nat.zero_le _)))⟩
/-- a, b = e: a tuple taken apart -/
theorem bw_unp2 {n1 n2 : Str} {q1 q2 tp : Pos} {k : Nat} (i j : Nat) (hN : X.N.Nodup) (he : EG X e Γ M P) (h : ∀ g M', P g M' → ∃ x y, g = .d (.tup [x, y]) ∧ BW n X rest ((Γ.set i (.d x)).set j (.d y)) M' R N) (hc : X.calm = true := by rfl) (hi : X.N[i]? = some n1 := by rfl) (hj : X.N[j]? = some n2 := by rfl)
    (hx : Loc X.env.scope n1 := by first | exact Or.inl rfl | exact Or.inr rfl) (hy : Loc X.env.scope n2 := by first | exact Or.inl rfl | exact Or.inr rfl)
    (hfx : X.fn n1 = true ∨ X.env.scope.names.lookup n1 = some .local := by first | exact .inl rfl | exact .inr rfl) (hfy : X.fn n2 = true ∨ X.env.scope.names.lookup n2 = some .local := by first | exact .inl rfl | exact .inr rfl)
    (hs : swapsWithSole [.Tuple [.Name n1 q1, .Name n2 q2] k tp] e pos.line X.env = pure false := by rfl) (hw : swappedStores [.Tuple [.Name n1 q1, .Name n2 q2] k tp] e X.env = pure none := by rfl)
    (ha : (assignEach [.Tuple [.Name n1 q1, .Name n2 q2] k tp] X.env).map (·.2) = [assign (.Tuple [.Name n1 q1, .Name n2 q2] k tp) X.env] := by rfl)
    (hn : (assignEach [.Name n1 q1, .Name n2 q2] X.env).length = 2 := by rfl) (hst : (assignEach [.Name n1 q1, .Name n2 q2] X.env).findIdx? (·.1) = none := by rfl)
    (hs1 : (assignEach [.Name n1 q1, .Name n2 q2] X.env).map (·.2) = assign (.Name n1 q1) X.env :: (assignEach [.Name n2 q2] X.env).map (·.2) := by rfl)
    (hs2 : (assignEach [.Name n2 q2] X.env).map (·.2) = assign (.Name n2 q2) X.env :: (assignEach [] X.env).map (·.2) := by rfl) : BW n X (.Assign [.Tuple [.Name n1 q1, .Name n2 q2] k tp] e pos :: rest) Γ M R N :=
  bw_of (pss_cons (ps_asg pe_sem (pg_tup hc (pgs_cons (pg_name hN hi hx hfx) (pgs_cons (pg_name hN hj hy hfy) pgs_nil hs2) hs1) hn hst) hs hw ha) (ps_sem (X := X) (st := rest))) fun σ H A E m e q => he σ H A m e _ fun v H1 A1 g M1 p1 f1 m1 r1 => by
    obtain ⟨x, y, rfl, bw⟩ := h g M1 p1
    obtain ⟨_, z, rv⟩ := r1
    cases z
    obtain ⟨a, xs, k1, k2, v1, w1, k3, k4, v2, w2, k5, k6, k7⟩ := rv
    cases k7
    subst k5 k3
    refine ⟨a, _, k1, SqT.of (delA_get k2).2, rfl, v1, [v2], rfl, v2, [], rfl, rfl, ?_⟩
    exact bw _ H1 A1 E m1 (EnvW.set (g := .d y) ⟨_, rfl, k6⟩ j (EnvW.set (g := .d x) ⟨_, rfl, k4⟩ i (f1.env gok0 e))) (q.mono (f1.up (Nat.zero_le _)))
/-! ### walks -/
def IG (X : Cx) (tg iter : Expr) (Γ : List GW) (M : Mem) (P : List D → Mem → Prop) : Prop := ∃ wi, PI X tg iter wi ∧ ∀ σ H A, HM A M H → EnvW (delA A.all H) A Γ σ → ∀ R : It → Hp → Prop,
  (∀ J H' A' ds M', P ds M' → Fr 0 A H A' H' → HM A' M' H' → (∀ n A2 M2 H2, Fr n A' H' A2 H2 → HM A2 M2 H2 → (∀ i, i < ds.length → J.go i H2 ∧ ∀ x H3, J.yld i H2 x H3 → H3 = H2 ∧ ∃ d, ds[i]? = some d ∧ Rep (delA A2.all H2) d x) ∧ J.stop ds.length H2) → R J H') → wi σ H R
theorem ig_rng (Bt : Bs X.mg) {tg : Expr} {P1 : List D → Mem → Prop} (h : EG X e Γ M P) (hP : ∀ g M', P g M' → ∃ n : Nat, g = .d (.int n) ∧ n < 2 ^ 62 ∧ P1 (rgD 0 n) M') (hg : Gl X "range" := by rfl) (hs : starEach [e] X.env = [(false, eval e X.env)] := by rfl) : IG X tg (.Call (.Name "range" p) [e] [] pos) Γ M P1 := by
  refine ⟨_, pi_range1 hg Bt.range (pa_cons pe_sem pa_nil hs) hs, fun σ H A m e R q => h σ H A m e _ fun v H1 A1 g M1 p1 f1 m1 r1 => ?_⟩
  obtain ⟨n, rfl, hn, pp⟩ := hP g M1 p1
  obtain ⟨_, z, rv⟩ := r1
  cases z
  refine ⟨n, by rw [show v = V.int n from rv], by omega, by omega, ?_⟩
  rw [Int.toNat_natCast]
  refine q _ H1 A1 _ M1 pp f1 m1 fun n' A2 M2 H2 f2 m2 => ?_
  obtain ⟨h1, h2⟩ := iterR_rng 0 n H2
  refine ⟨fun i hi => ⟨(h1 i hi).1, fun x H3 hy => ?_⟩, h2⟩
  obtain ⟨h3, d, h4, h5⟩ := (h1 i hi).2 x H3 hy
  refine ⟨h3, d, h4, ?_⟩
  obtain ⟨j, _, rfl⟩ := rgD_mem (List.mem_of_getElem? h4)
  exact h5
/-- over a tuple of data -/
theorem ig_tup {tg : Expr} (h : EG X e Γ M (eqP (.d (.tup ds)) M)) : IG X tg e Γ M (fun ds' M' => ds' = ds ∧ M' = M) := by
  refine ⟨_, pi_tup pe_sem, fun σ H A m e R q => h σ H A m e _ fun v H1 A1 g M1 p1 f1 m1 r1 => ?_⟩
  obtain ⟨rfl, rfl⟩ := p1
  obtain ⟨_, z, a, xs, k1, k2, k3⟩ := r1
  cases z
  refine ⟨a, k1, ⟨xs, SqT.of (delA_get k2).2⟩, q _ H1 A1 ds M1 ⟨rfl, rfl⟩ f1 m1 fun n' A2 M2 H2 f2 m2 => ?_⟩
  have k4 := f2.s _ _ k2
  have k5 := k3.mono f2.s
  refine ⟨fun i hi => ?_, ⟨xs, SqT.of (delA_get k4).2, by rw [k3.length]; exact Nat.le_refl _⟩⟩
  obtain ⟨x, h3, h4⟩ := k5.get (List.getElem?_eq_getElem hi)
  refine ⟨⟨xs, x, SqT.of (delA_get k4).2, h3⟩, fun y H' ⟨hy, z⟩ => ⟨hy, ds[i], List.getElem?_eq_getElem hi, ?_⟩⟩
  have := z xs (SqT.of (delA_get k4).2)
  rw [h3] at this
  cases this
  exact h4
theorem bw_for {nm : Str} {tp : Pos} {PI' : List D → Mem → Prop} (i : Nat) (hN : X.N.Nodup) (hi : IG X (.Name nm tp) iter Γ M PI') (Iv : List D → Nat → List GW → Mem → Prop) (h0 : ∀ ds M1, PI' ds M1 → Iv ds 0 Γ M1) (hok : ∀ g ∈ Γ, GOk n g)
    (hb : ∀ ds (j : Nat) d Γ1 M1, ds[j]? = some d → Iv ds j Γ1 M1 → BW n X body (Γ1.set i (.d d)) M1 R (Iv ds (j + 1))) (h : ∀ ds Γ1 M1, Iv ds ds.length Γ1 M1 → BW n X rest Γ1 M1 R N) (hp : PassesOwn (model X.prog X.w) X.A X.env X.xe) (hx : X.N[i]? = some nm := by rfl) (hc : X.calm = true := by rfl)
    (hlo : Loc X.env.scope nm := by first | exact Or.inl rfl | exact Or.inr rfl) (hf : X.fn nm = true ∨ X.env.scope.names.lookup nm = some .local := by first | exact .inl rfl | exact .inr rfl)
    (hs : ∀ x, foldedSetIterable iter X.env x = pure x := by intro _; rfl) : BW n X (.For (.Name nm tp) iter body [] pos :: rest) Γ M R N := by
  obtain ⟨wi, h1, h2⟩ := hi
  refine bw_of (pss_cons (ps_for (tb := semS X body) hp hc h1 (pg_name hN hx hlo hf) ps_sem hs) (ps_sem (X := X) (st := rest))) fun σ H A E m e q => h2 σ H A m e _ fun J H1 A1 ds M1 p1 f1 m1 hJ => ?_
  have f1n := f1.up (Nat.zero_le n)
  refine ⟨fun j t σ H2 => t = ds.length - j ∧ j ≤ ds.length ∧ ∃ A2 M2 Γ2, Fr n A1 H1 A2 H2 ∧ HM A2 M2 H2 ∧ EnvW (delA A2.all H2) A2 Γ2 σ ∧ Iv ds j Γ2 M2, ⟨_, rfl, Nat.zero_le _, A1, M1, Γ, Fr.refl, m1, f1n.env hok e, h0 ds M1 p1⟩, ?_⟩
  rintro j t σ2 H2 ⟨rfl, hj, A2, M2, Γ2, f2, m2, e2, iv⟩
  obtain ⟨hgo, hst⟩ := hJ n A2 M2 H2 f2 m2
  by_cases hlt : j < ds.length
  · obtain ⟨g1, g2⟩ := hgo j hlt
    refine .inr ⟨g1, fun σ' H' => ds.length - (j + 1) < ds.length - j ∧ ∃ A3 M3 Γ3, Fr n A1 H1 A3 H' ∧ HM A3 M3 H' ∧ EnvW (delA A3.all H') A3 Γ3 σ' ∧ Iv ds (j + 1) Γ3 M3, fun σ' H' nn => ⟨_, nn.1, rfl, hlt, nn.2⟩, fun x H' hy => ?_⟩
    obtain ⟨rfl, d, hd, rd⟩ := g2 x H' hy
    refine hb ds j d Γ2 M2 hd iv _ H' A2 _ m2 (EnvW.set (g := .d d) ⟨x, rfl, rd⟩ i e2) ?_
    have q2 := q.mono (f1n.trans f2)
    exact ⟨q2.rt, q2.gv, fun Γ' M' σ' H4 A' nn f' m' e' => ⟨by omega, A', M', Γ', f2.trans f', m', e', nn⟩⟩
  · have hje : j = ds.length := by omega
    subst hje
    exact .inl ⟨hst, h ds Γ2 M2 iv σ2 H2 A2 E m2 e2 (q.mono (f1n.trans f2))⟩
end
end P6
namespace P6
open PySem PySem.Spec PyProof.Rows L2
section
variable {X : Cx} {n : Nat} {Γ Γ1 : List GW} {M : Mem} {a b c e iter elt : Expr} {es : List Expr} {d x y : D} {ds : List D} {pos p p' tp apos : Pos} {P : GW → Mem → Prop} {k j : Nat}
/-! ### the last own object is let go -/
theorem dl_all {A : Ad} {L : List Addr} {l : Addr} (h : A.lo = L ++ [l]) (b : Addr) : b ∈ A.all ↔ b ∈ (Ad.mk L A.hi).all ∨ b = l := by
  have : A = ⟨L ++ [l], A.hi⟩ := by rw [← h]
  rw [this]
  exact all_addLo (A := ⟨L, A.hi⟩) b
theorem dl_same {A : Ad} {L : List Addr} {l : Addr} {H : Hp} (h : A.lo = L ++ [l]) : Same (delA A.all H) (delA (Ad.mk L A.hi).all H) := fun b o hb => by
  obtain ⟨k1, k2⟩ := delA_get hb
  rw [delA_out fun z => k1 ((dl_all h b).mpr (.inl z))]
  exact k2
theorem HM.dropLo {A : Ad} {H : Hp} {ms : List D} {hi : List OH} {L : List Addr} {l : Addr} (hA : A.lo = L ++ [l]) (m : HM A ⟨ms ++ [d], hi⟩ H) (hr : ∀ o ∈ hi, ∀ k, .own k ∈ o.its → k < ms.length) : HM ⟨L, A.hi⟩ ⟨ms, hi⟩ H := by
  have l1 : L.length = ms.length := by have := m.l1; rw [hA] at this; simpa using this
  refine ⟨l1, m.l2, ?_, fun j b d' h1 h2 => ?_, fun j b o' h1 h2 => ?_⟩
  · have := m.nd
    unfold Ad.all at this
    rw [hA, List.append_assoc] at this
    show (L ++ A.hi).Nodup
    refine this.sublist ?_
    exact List.Sublist.append (List.Sublist.refl _) (List.sublist_append_right _ _)
  · exact (m.lo j b d' (by rw [hA]; exact get_app h1) (get_app h2)).mono (dl_same hA) fun _ h => h
  · refine HiAt.mono (A := A) (dl_same hA) (fun _ h => h) (fun k hk b' hb => ?_) (m.hi j b o' h1 h2)
    rw [hA] at hb
    have hk' := hr o' (List.mem_of_getElem? h2) k hk
    rw [List.getElem?_append_left (by omega)] at hb
    exact hb
theorem Fr.drop {A A' : Ad} {H H0 H' : Hp} {L : List Addr} {l : Addr} (hl : H l = none) (f : Fr n ⟨A.lo ++ [l], A.hi⟩ H0 A' H') (s0 : Same (delA A.all H) (delA (Ad.mk (A.lo ++ [l]) A.hi).all H0)) (hn : ∀ b, H0 b = none → H b = none) (hA : A'.lo = L ++ [l]) (hlen : A.lo.length ≤ L.length) : Fr n A H ⟨L, A'.hi⟩ H' := by
  refine ⟨(s0.trans f.s).trans (dl_same hA), fun b hb => ?_, f.hi, fun k b h q => ?_⟩
  · rcases f.f b ((dl_all hA b).mpr (.inl hb)) with h | h
    · rcases (all_addLo b).mp h with h | h
      · exact .inl h
      · subst h
        exact .inr hl
    · exact .inr (hn b h)
  · have := f.lo k b (get_app h) q
    rw [hA] at this
    have hk := (List.getElem?_eq_some_iff.mp h).1
    rw [List.getElem?_append_left (by omega)] at this
    exact this
theorem lo_snoc {A : Ad} {ms : List D} {l : Addr} (h1 : A.lo.length = (ms ++ [d]).length) (h2 : A.lo[ms.length]? = some l) : ∃ L, A.lo = L ++ [l] ∧ L.length = ms.length := by
  have h3 : A.lo.length = ms.length + 1 := by simpa using h1
  refine ⟨A.lo.take ms.length, ?_, by rw [List.length_take]; omega⟩
  have h4 := List.take_of_length_le (l := A.lo) (i := ms.length + 1) (by omega)
  rw [List.take_add_one, h2] at h4
  exact h4.symm
/-! ### [e for _ in ..], e drawing -/
theorem eg_semB {scope : Scope} {e : Expr} {Γ : List GW} {M : Mem} {P : GW → Mem → Prop} (h : ∀ (s : Shared) (H : Hp) (C : Addr) (cl : List (Str × Addr)) (fp : List Addr), EG (X.blk s H scope (compEnvC scope cl C X.env) fp) e Γ M P) :
    ∀ σ H A, HM A M H → EnvW (delA A.all H) A Γ σ → ∀ Q : VK, (∀ v H' A' g M', P g M' → Fr 0 A H A' H' → HM A' M' H' → GWR (delA A'.all H') A' g (some v) → Q v H') → semB X scope e σ H Q := fun σ H A m e Q q s0 H0 C cl fp pins s I => h s0 H0 C cl fp σ H A m e Q q pins s I
theorem EnvW.wipe1 {F : Hp} {A : Ad} {Γ : List GW} {σ : L2.St} (h : EnvW F A Γ σ) (i : Nat) : EnvW F A (Γ.set i .un) (wipe σ [i]) := EnvW.set (g := .un) True.intro i h
/-- Iv: what holds of the memory and the items when so many are made -/
theorem eg_lc {nm : Str} {i : Nat} {scope : Scope} {tp : Pos} {PI' : List D → Mem → Prop} (Iv : List D → List D → Mem → Prop) (hN : X.N.Nodup) (hi : IG X (.Name nm tp) iter Γ M PI') (ok : BlkOk X.N X.env.scope scope [(nm, i)]) (h0 : ∀ ds M1, PI' ds M1 → ds.length ≤ 1000 ∧ noLs ds = true ∧ Iv ds [] M1)
    (hr : ∀ ds es M1, Iv ds es M1 → M1.hi = [])
    (hv : ∀ ds es d M1, Iv ds es M1 → ds[es.length]? = some d → ∀ (s : Shared) (H : Hp) (C : Addr) (cl : List (Str × Addr)) (fp : List Addr), EG (X.blk s H scope (compEnvC scope cl C X.env) fp) elt ((Γ.set i .un).set i (.d d)) ⟨M1.lo ++ [.lst es], M1.hi⟩ (fun g M2 => ∃ y M3, g = .d y ∧ noL y = true ∧ M2 = ⟨M3.lo ++ [.lst es], M3.hi⟩ ∧ M3.lo.length = M1.lo.length ∧ Iv ds (es ++ [y]) M3))
    (hP : ∀ ds es M1, Iv ds es M1 → es.length = ds.length → P (.d (.lst es)) M1) (hx : X.N[i]? = some nm := by rfl) (hc : X.calm = true := by rfl)
    (hlo : scope.names.lookup nm = some .local ∨ scope.names.lookup nm = some .cell := by first | exact Or.inl rfl | exact Or.inr rfl)
    (hs : ∀ x, foldedSetIterable iter X.env x = pure x := by intro _; rfl) : EG X (.ListComp elt [⟨.Name nm tp, iter, [], 0⟩] scope pos) Γ M P := by
  obtain ⟨wi, h1, h2⟩ := hi
  refine eg_of (pe_lc hc hN h1 ok (fun s H C cl fp => pg_name hN hx (relLoc hlo) (fnLoc hlo)) (fun _ _ _ _ _ => pts_nil) (te := semB X scope elt) pe_semB hs) fun σ H A m e Q q => h2 σ H A m e _ fun J H1 A1 ds M1 p1 f1 m1 hJ => fun D0 hD => ?_
  obtain ⟨hlen, nds, iv0⟩ := h0 ds M1 p1
  have e1 := f1.env gok0 e
  have s0 : Same (delA A1.all H1) (delA (Ad.mk (A1.lo ++ [D0]) A1.hi).all (upd H1 D0 (.lst []))) := (Fr.addLo (n := 0) hD).s
  have hn0 : ∀ b, upd H1 D0 (.lst []) b = none → H1 b = none := fun b hb => by
    by_cases q : b = D0
    · subst q; exact hD
    · rw [upd_ne q] at hb; exact hb
  refine ⟨fun j t H2 => t = ds.length - j ∧ j ≤ ds.length ∧ ∃ A2 M2 es, Fr 0 ⟨A1.lo ++ [D0], A1.hi⟩ (upd H1 D0 (.lst [])) A2 H2 ∧ HM A2 ⟨M2.lo ++ [.lst es], M2.hi⟩ H2 ∧ M2.lo.length = M1.lo.length ∧ es.length = j ∧ Iv ds es M2 ∧ noLs es = true, ⟨_, rfl, Nat.zero_le _, _, M1, [], Fr.refl, m1.addLo (o := .lst []) (d := .lst []) hD ⟨[], upd_same, rfl⟩, rfl, rfl, iv0, rfl⟩, ?_⟩
  rintro j t H2 ⟨rfl, hj, A2, M2, es, f2, m2, ln, rfl, iv, nE⟩
  have hD2 : A2.lo[M2.lo.length]? = some D0 := by
    refine f2.lo _ _ ?_ (by omega)
    rw [ln, ← m1.l1]
    exact get_last
  obtain ⟨L, hL, lL⟩ := lo_snoc m2.l1 hD2
  have fD : Fr 0 A1 H1 ⟨L, A2.hi⟩ H2 := Fr.drop hD f2 s0 hn0 hL (by rw [m1.l1, ← ln, lL]; exact Nat.le_refl _)
  have mD : HM ⟨L, A2.hi⟩ M2 H2 := m2.dropLo hL (by rw [hr ds es M2 iv]; intro o ho; cases ho)
  obtain ⟨hgo, hst⟩ := hJ 0 _ _ H2 fD mD
  by_cases hlt : es.length < ds.length
  · obtain ⟨g1, g2⟩ := hgo es.length hlt
    refine .inr ⟨g1, fun H' => ds.length - (es.length + 1) < ds.length - es.length ∧ ∃ A3 M3 es', Fr 0 ⟨A1.lo ++ [D0], A1.hi⟩ (upd H1 D0 (.lst [])) A3 H' ∧ HM A3 ⟨M3.lo ++ [.lst es'], M3.hi⟩ H' ∧ M3.lo.length = M1.lo.length ∧ es'.length = es.length + 1 ∧ Iv ds es' M3 ∧ noLs es' = true, fun H' nn => ⟨_, nn.1, rfl, hlt, nn.2⟩, fun x H' hy => ?_⟩
    obtain ⟨rfl, d, hd, rd⟩ := g2 x H' hy
    refine ⟨?_, ?_⟩
    · show ((wipe σ [i]).set i (some x)).set i none = (σ.set i none)
      show ((σ.set i none).set i (some x)).set i none = (σ.set i none)
      rw [List.set_set, List.set_set]
    · show semB X scope elt _ H' _
      -- the turn's item is data that the list does not reach
      have rd' : Rep (delA A2.all H') d x := m2.rep (noLs_iff.mp nds d (List.mem_of_getElem? hd)) (rd.mono delA_le)
      have e2 : EnvW (delA A2.all H') A2 Γ σ := f2.env (A := ⟨A1.lo ++ [D0], A1.hi⟩) gok0 (EnvW.mono (A := A1) (A1 := ⟨A1.lo ++ [D0], A1.hi⟩) s0 (fun _ _ h => get_app h) (fun _ _ h => h) e1)
      have eW : EnvW (delA A2.all H') A2 ((Γ.set i .un).set i (.d d)) ((wipe σ [i]).set i (some x)) := EnvW.set (g := .d d) ⟨x, rfl, rd'⟩ i (e2.wipe1 i)
      refine eg_semB (hv ds es d M2 iv hd) _ H' A2 m2 eW _ fun y H4 A4 g M4 ⟨dy, M3, hg, ny, hM, l3, iv4⟩ f4 m4 r4 => ?_
      subst hg hM
      obtain ⟨_, z, ry⟩ := r4
      cases z
      have hD4 : A4.lo[M3.lo.length]? = some D0 := by
        rw [l3]
        exact f4.lo _ _ hD2 (by omega)
      obtain ⟨acc, k1, k2⟩ := m4.lo M3.lo.length D0 (.lst es) hD4 get_last
      refine ⟨acc, k1, by rw [k2.length, sizeLine_eq]; omega, by omega, A4, M3, es ++ [dy], (f2.trans f4).trans (Fr.upd (lo_all hD4)), ?_, by omega, by simp, iv4, by rw [noLs_append, nE]; simp [noLs, ny]⟩
      have := m4.setLo (o := .lst (acc ++ [y])) (d := .lst (es ++ [dy])) hD4 ⟨_, upd_same, k2.append ⟨y, [], rfl, ry, rfl⟩⟩
      have eL : (M3.lo ++ [D.lst es]).set M3.lo.length (.lst (es ++ [dy])) = M3.lo ++ [.lst (es ++ [dy])] := by simp
      simp only [eL] at this
      exact this
  · have hje : es.length = ds.length := by omega
    refine .inl ⟨by rw [hje]; exact hst, ?_⟩
    obtain ⟨acc, k1, k2⟩ := m2.lo M2.lo.length D0 (.lst es) hD2 get_last
    refine q (.ref D0) H2 _ _ M2 (hP ds es M2 iv hje) (f1.trans fD) mD ⟨_, rfl, D0, acc, rfl, ?_, k2.mono (dl_same hL)⟩
    rw [delA_out]
    · exact k1
    · intro z
      have nd := m2.nd
      unfold Ad.all at nd z
      rw [hL, List.append_assoc] at nd
      have nd2 := List.nodup_append.mp nd
      rcases List.mem_append.mp z with z | z
      · exact nd2.2.2 D0 z D0 (by simp) rfl
      · exact (List.nodup_cons.mp nd2.2.1).1 z
end
end P6
namespace P6
open PySem PySem.Spec PyProof.Rows L2
section
variable {X : Cx} {n : Nat} {Γ Γ1 : List GW} {M : Mem} {a b c e iter elt : Expr} {es : List Expr} {rest body els : List Stmt} {d x y : D} {ds : List D} {pos p p' tp apos : Pos} {P : GW → Mem → Prop} {k j : Nat} {R : D → Option Mem → Prop} {N N1 : List GW → Mem → Prop}
/-- tuple(a list of data) -/
theorem eg_tupOf (B : Bs X.mg) {P1 : GW → Mem → Prop} (h : EG X a Γ M P1) (hd : ∀ g M', P1 g M' → ∃ ds, g = .d (.lst ds) ∧ P (.d (.tup ds)) M') (hg : Gl X "tuple" := by rfl) (hs : starEach [a] X.env = (false, eval a X.env) :: starEach [] X.env := by rfl) : EG X (.Call (.Name "tuple" p) [a] [] pos) Γ M P :=
  eg_of (pe_callTy call_tuple_of hg B.tuple boot_tuple (pa_cons pe_sem pa_nil hs) (he := hs)) fun σ H A m e Q q => h σ H A m e _ fun v H1 A1 g M1 p1 f1 m1 r1 => by
    obtain ⟨ds, rfl, pp⟩ := hd g M1 p1
    obtain ⟨_, z, l, xs, k1, k2, k3⟩ := r1
    cases z
    refine ⟨l, xs, by rw [k1], .inl ⟨SqL.of (delA_get k2).2, fun t ht => ?_⟩⟩
    have s1 : Same H1 (upd H1 t (.tup xs)) := Same.new ht
    refine q (.ref t) _ A1 _ M1 pp (f1.trans (Fr.grow s1)) (m1.same s1) ⟨_, rfl, t, xs, rfl, ?_, k3.mono (delA_mono s1)⟩
    rw [delA_out (m1.out ht)]
    exact upd_same
/-- a def that hands back a new list of data -/
def spF (R : List D → (List D → Prop) → Prop) : Sp := fun vs H Q _ => ∃ ds Py, R ds Py ∧ Reps H ds vs ∧ ∀ ys l H', Py ys → Same H H' → H l = none → Rep H' (.lst ys) (.ref l) → Q (.ref l) H'
theorem eg_callF {Rf : List D → (List D → Prop) → Prop} {x : Str} {ps : List Str} {k : Nat} {ds : List D} {Py : List D → Prop} (F : Cal X.prog X.w X.K X.mg X.base x ps k (spF Rf)) (hr : Room k X.A) (h : UA X (e :: es) (Γ.map (gP M)) ds) (hR : Rf ds Py) (hn : ∀ ys, Py ys → noLs ys = true) (hg : Gl X x := by rfl) (hdb : (x == ("__debug__" : Str)) = false := by decide)
    (he : starEach (e :: es) X.env = (false, eval e X.env) :: starEach es X.env := by rfl) (hpl : (backTo pos (starEach es X.env)).any (·.1) = false := by rfl) : EG X (.Call (.Name x p) (e :: es) [] pos) Γ M (fun g M' => ∃ ys, g = .d (.lst ys) ∧ Py ys ∧ M' = M) := by
  obtain ⟨f, fd, h1, h2, h3, h4⟩ := F.ex
  obtain ⟨t, h5, h6⟩ := h
  refine eg_of (pe_call h1 hr hg h2 h3 h4 .nil pass0 h5 hdb he hpl) fun σ H A m e Q q => h6 σ H (m.env e) _ fun vs H1 e1 r1 => ?_
  refine ⟨ds, Py, hR, by rw [List.append_nil]; exact r1, fun ys l H2 py e2 nl r2 => ?_⟩
  have e12 := e1.trans e2
  have m2 := m.same e12
  obtain ⟨l', xs, k1, k2, k3⟩ := r2
  cases k1
  refine q (.ref l) H2 A _ M ⟨ys, rfl, py, rfl⟩ (Fr.grow e12) m2 ⟨_, rfl, l, xs, rfl, ?_, m2.reps (hn ys py) k3⟩
  rw [delA_out (m.out (Same.free e1 nl))]
  exact k2
theorem u_callF {Δ : List G} {Rf : List D → (List D → Prop) → Prop} {x : Str} {ps : List Str} {k : Nat} {ds ys : List D} (F : Cal X.prog X.w X.K X.mg X.base x ps k (spF Rf)) (hr : Room k X.A) (h : UA X (e :: es) Δ ds) (hR : Rf ds (fun y => y = ys)) (hg : Gl X x := by rfl) (hdb : (x == ("__debug__" : Str)) = false := by decide)
    (he : starEach (e :: es) X.env = (false, eval e X.env) :: starEach es X.env := by rfl) (hpl : (backTo pos (starEach es X.env)).any (·.1) = false := by rfl) : U X (.Call (.Name x p) (e :: es) [] pos) Δ (.lst ys) := by
  obtain ⟨f, fd, h1, h2, h3, h4⟩ := F.ex
  obtain ⟨t, h5, h6⟩ := h
  refine ⟨_, pe_call h1 hr hg h2 h3 h4 .nil pass0 h5 hdb he hpl, fun σ H e Q q => h6 σ H e _ fun vs H1 e1 r1 => ?_⟩
  exact ⟨ds, _, hR, by rw [List.append_nil]; exact r1, fun ys' l H2 py e2 _ r2 => q _ H2 (e1.trans e2) (py ▸ r2)⟩
theorem b_retF {Δ : List G} {Py : List D → Prop} (h : UF X e Δ ds) (hP : Py ds) : B X (.Return (some e) pos :: rest) Δ (.retF Py) := by
  obtain ⟨t, h1, _, h2⟩ := h
  exact ⟨_, pss_cons (ps_ret h1) pss_never, fun σ H E e q => h2 σ H e _ fun l H1 e1 n r => q ds l H1 hP e1 n r⟩
theorem envW_start {F : Hp} {A : Ad} : ∀ {gs : List GW} {vs : List V} (n : Nat), EnvW F A gs (vs.map some) → EnvW F A (gs ++ List.replicate n .un) (vs.map some ++ List.replicate n none)
  | [], vs, n, h => by
    obtain rfl := envW_nil h
    induction n with
    | zero => rfl
    | succ n ih => exact ⟨none, _, rfl, True.intro, ih⟩
  | g :: gs, vs, n, h => by
    obtain ⟨v, r, rfl, k1, k2⟩ := envW_cons h
    exact ⟨some v, _, rfl, k1, envW_start n k2⟩
theorem envW_vlen {F : Hp} {A : Ad} {gs : List GW} {vs : List V} (h : EnvW F A gs (vs.map some)) : vs.length = gs.length := by
  have := h.len
  simpa using this
/-- a, b, .. = a tuple of six, the last forgotten -/
theorem bw_unp6 {n1 n2 n3 n4 n5 n6 : Str} {q1 q2 q3 q4 q5 q6 tp : Pos} {kk : Nat} {x1 x2 x3 x4 x5 x6 : D} (i1 i2 i3 i4 i5 i6 : Nat) (hN : X.N.Nodup) (he : U X e (Γ.map (gP M)) (.tup [x1, x2, x3, x4, x5, x6])) (hnl : noLs [x1, x2, x3, x4, x5] = true) (h : BW n X rest ((((((Γ.set i1 (.d x1)).set i2 (.d x2)).set i3 (.d x3)).set i4 (.d x4)).set i5 (.d x5)).set i6 .un) M R N) (hc : X.calm = true := by rfl)
    (h1 : X.N[i1]? = some n1 := by rfl) (h2 : X.N[i2]? = some n2 := by rfl) (h3 : X.N[i3]? = some n3 := by rfl) (h4 : X.N[i4]? = some n4 := by rfl) (h5 : X.N[i5]? = some n5 := by rfl) (h6 : X.N[i6]? = some n6 := by rfl)
    (l1 : Loc X.env.scope n1 := by first | exact Or.inl rfl | exact Or.inr rfl) (l2 : Loc X.env.scope n2 := by first | exact Or.inl rfl | exact Or.inr rfl) (l3 : Loc X.env.scope n3 := by first | exact Or.inl rfl | exact Or.inr rfl)
    (l4 : Loc X.env.scope n4 := by first | exact Or.inl rfl | exact Or.inr rfl) (l5 : Loc X.env.scope n5 := by first | exact Or.inl rfl | exact Or.inr rfl) (l6 : Loc X.env.scope n6 := by first | exact Or.inl rfl | exact Or.inr rfl)
    (f1 : X.fn n1 = true ∨ X.env.scope.names.lookup n1 = some .local := by first | exact .inl rfl | exact .inr rfl) (f2 : X.fn n2 = true ∨ X.env.scope.names.lookup n2 = some .local := by first | exact .inl rfl | exact .inr rfl) (f3 : X.fn n3 = true ∨ X.env.scope.names.lookup n3 = some .local := by first | exact .inl rfl | exact .inr rfl)
    (f4 : X.fn n4 = true ∨ X.env.scope.names.lookup n4 = some .local := by first | exact .inl rfl | exact .inr rfl) (f5 : X.fn n5 = true ∨ X.env.scope.names.lookup n5 = some .local := by first | exact .inl rfl | exact .inr rfl) (f6 : X.fn n6 = true ∨ X.env.scope.names.lookup n6 = some .local := by first | exact .inl rfl | exact .inr rfl)
    (hs : swapsWithSole [.Tuple [.Name n1 q1, .Name n2 q2, .Name n3 q3, .Name n4 q4, .Name n5 q5, .Name n6 q6] kk tp] e pos.line X.env = pure false := by rfl) (hw : swappedStores [.Tuple [.Name n1 q1, .Name n2 q2, .Name n3 q3, .Name n4 q4, .Name n5 q5, .Name n6 q6] kk tp] e X.env = pure none := by rfl)
    (ha : (assignEach [.Tuple [.Name n1 q1, .Name n2 q2, .Name n3 q3, .Name n4 q4, .Name n5 q5, .Name n6 q6] kk tp] X.env).map (·.2) = [assign (.Tuple [.Name n1 q1, .Name n2 q2, .Name n3 q3, .Name n4 q4, .Name n5 q5, .Name n6 q6] kk tp) X.env] := by rfl)
    (hn : (assignEach [.Name n1 q1, .Name n2 q2, .Name n3 q3, .Name n4 q4, .Name n5 q5, .Name n6 q6] X.env).length = 6 := by rfl) (hst : (assignEach [.Name n1 q1, .Name n2 q2, .Name n3 q3, .Name n4 q4, .Name n5 q5, .Name n6 q6] X.env).findIdx? (·.1) = none := by rfl)
    (e1 : (assignEach [.Name n1 q1, .Name n2 q2, .Name n3 q3, .Name n4 q4, .Name n5 q5, .Name n6 q6] X.env).map (·.2) = assign (.Name n1 q1) X.env :: (assignEach [.Name n2 q2, .Name n3 q3, .Name n4 q4, .Name n5 q5, .Name n6 q6] X.env).map (·.2) := by rfl)
    (e2 : (assignEach [.Name n2 q2, .Name n3 q3, .Name n4 q4, .Name n5 q5, .Name n6 q6] X.env).map (·.2) = assign (.Name n2 q2) X.env :: (assignEach [.Name n3 q3, .Name n4 q4, .Name n5 q5, .Name n6 q6] X.env).map (·.2) := by rfl)
    (e3 : (assignEach [.Name n3 q3, .Name n4 q4, .Name n5 q5, .Name n6 q6] X.env).map (·.2) = assign (.Name n3 q3) X.env :: (assignEach [.Name n4 q4, .Name n5 q5, .Name n6 q6] X.env).map (·.2) := by rfl)
    (e4 : (assignEach [.Name n4 q4, .Name n5 q5, .Name n6 q6] X.env).map (·.2) = assign (.Name n4 q4) X.env :: (assignEach [.Name n5 q5, .Name n6 q6] X.env).map (·.2) := by rfl)
    (e5 : (assignEach [.Name n5 q5, .Name n6 q6] X.env).map (·.2) = assign (.Name n5 q5) X.env :: (assignEach [.Name n6 q6] X.env).map (·.2) := by rfl)
    (e6 : (assignEach [.Name n6 q6] X.env).map (·.2) = assign (.Name n6 q6) X.env :: (assignEach [] X.env).map (·.2) := by rfl) : BW n X (.Assign [.Tuple [.Name n1 q1, .Name n2 q2, .Name n3 q3, .Name n4 q4, .Name n5 q5, .Name n6 q6] kk tp] e pos :: rest) Γ M R N := by
  obtain ⟨t, t1, t2⟩ := he
  refine bw_of (pss_cons (ps_asg t1 (pg_tup hc (pgs_cons (pg_name hN h1 l1 f1) (pgs_cons (pg_name hN h2 l2 f2) (pgs_cons (pg_name hN h3 l3 f3) (pgs_cons (pg_name hN h4 l4 f4) (pgs_cons (pg_name hN h5 l5 f5) (pgs_cons (pg_name hN h6 l6 f6) pgs_nil e6) e5) e4) e3) e2) e1) hn hst) hs hw ha) (ps_sem (X := X) (st := rest))) fun σ H A E m e q => t2 σ H (m.env e) _ fun v H1 s1 r1 => ?_
  have m1 := m.same s1
  obtain ⟨l, vs, k1, k2, v1, w1, z1, r1, v2, w2, z2, r2, v3, w3, z3, r3, v4, w4, z4, r4, v5, w5, z5, r5, v6, w6, z6, r6, z7⟩ := r1
  cases z7
  subst z6 z5 z4 z3 z2 z1
  simp only [noLs, Bool.and_eq_true, Bool.and_true] at hnl
  obtain ⟨a1, a2, a3, a4, a5⟩ := hnl
  refine ⟨l, _, k1, SqT.of k2, rfl, v1, _, rfl, v2, _, rfl, v3, _, rfl, v4, _, rfl, v5, _, rfl, v6, _, rfl, rfl, ?_⟩
  exact h _ H1 A E m1 (EnvW.set (g := .un) True.intro i6 (EnvW.set (g := .d x5) ⟨_, rfl, m1.rep a5 r5⟩ i5 (EnvW.set (g := .d x4) ⟨_, rfl, m1.rep a4 r4⟩ i4 (EnvW.set (g := .d x3) ⟨_, rfl, m1.rep a3 r3⟩ i3 (EnvW.set (g := .d x2) ⟨_, rfl, m1.rep a2 r2⟩ i2 (EnvW.set (g := .d x1) ⟨_, rfl, m1.rep a1 r1⟩ i1 (e.same s1))))))) (q.mono (Fr.grow s1))
end
section
variable {P : Program} {w : World} {K : PySem.W.Frag} {mg : Str → Option Value} {base : Heap} {x qual : Str} {params : Arguments} {body : List Stmt} {scope : Scope} {f : Addr} {fd : FuncData} {N ps : List Str} {k : Nat}
theorem fn_W {R : List GW → Mem → (D → Mem → Prop) → Nat → Prop} (F : FunD K x qual params body scope [] [] f fd) (S : FnScope N ps scope) (len : ∀ gs M Pq n, R gs M Pq n → gs.length = ps.length)
    (h : ∀ (cdv : Value) (A : Around) (outer : List Env) (s : Shared) (H : Hp) (E : XK), Room k (A.deeper (envOfC qual scope s.heap.objs.size f cdv)) → ∀ gs M Pq n, R gs M Pq n →
      BW n (cX P w K mg base N qual scope f cdv A outer s H E) body (gs ++ List.replicate (N.length - gs.length) .un) M (fun d o => ∃ M', o = some M' ∧ Pq d M') (fun _ M' => Pq .non M')) :
    FnOk P w K mg base CX0 (k + 1) f fd ps (spW R) := by
  refine F.ok S (fun vs H Q E hs => ?_) (fun cdv A outer s H vs Q E hr hs => ?_)
  · obtain ⟨gs, M, Pq, n, A, h1, _, h3, _⟩ := hs
    rw [envW_vlen h3]
    exact len gs M Pq n h1
  · obtain ⟨gs, M, Pq, n, A', h1, h2, h3, h4⟩ := hs
    have e0 : EnvW (delA A'.all H) A' (gs ++ List.replicate (N.length - gs.length) .un) (start N vs) := by
      unfold L2.start
      rw [envW_vlen h3]
      exact envW_start _ h3
    refine ⟨_, PSs.nox ps_sem, h cdv A outer s H E hr gs M Pq n h1 _ H A' _ h2 e0 ⟨fun d v H' A2 M' ⟨M2, z, p⟩ f' m' r' => ?_, fun d v H' A2 ⟨M2, z, p⟩ => (nomatch z), fun Γ' M' σ' H' A2 p f' m' e' => ?_⟩⟩
    · cases z
      exact h4 v H' A2 d M' p f' m' r'
    · exact h4 .non H' A2 .non M' p f' m' rfl
theorem fn_F {R : List D → (List D → Prop) → Prop} (F : FunD K x qual params body scope [] [] f fd) (S : FnScope N ps scope) (len : ∀ ds Py, R ds Py → ds.length = ps.length)
    (h : ∀ (cdv : Value) (A : Around) (outer : List Env) (s : Shared) (H : Hp) (E : XK), Room k (A.deeper (envOfC qual scope s.heap.objs.size f cdv)) → ∀ ds Py, R ds Py →
      B (cX P w K mg base N qual scope f cdv A outer s H E) body (ds.map .d ++ List.replicate (N.length - ds.length) .un) (.retF Py)) :
    FnOk P w K mg base CX0 (k + 1) f fd ps (spF R) := by
  refine F.ok S (fun vs H Q E hs => ?_) (fun cdv A outer s H vs Q E hr hs => ?_)
  · obtain ⟨ds, Py, h1, h2, _⟩ := hs
    rw [h2.length]
    exact len ds Py h1
  · obtain ⟨ds, Py, h1, h2, h3⟩ := hs
    have e0 : EnvR H (ds.map .d ++ List.replicate (N.length - ds.length) .un) (start N vs) := by
      unfold L2.start
      rw [h2.length]
      exact EnvR.start _ h2
    obtain ⟨t, k1, k2⟩ := h cdv A outer s H E hr ds Py h1
    exact ⟨t, PSs.nox k1, k2 _ H _ e0 h3⟩
/-- a def whose own objects are all its own -/
theorem fn_own {R : List D → D → Prop} (F : FunD K x qual params body scope [] [] f fd) (S : FnScope N ps scope) (len : ∀ ds d, R ds d → ds.length = ps.length)
    (h : ∀ (cdv : Value) (A : Around) (outer : List Env) (s : Shared) (H : Hp) (E : XK), Room k (A.deeper (envOfC qual scope s.heap.objs.size f cdv)) → ∀ ds d, R ds d → ∃ n,
      BW n (cX P w K mg base N qual scope f cdv A outer s H E) body (ds.map .d ++ List.replicate (N.length - ds.length) .un) ⟨[], []⟩ (fun d' _ => d' = d) (fun _ _ => False)) :
    FnOk P w K mg base CX0 (k + 1) f fd ps (spP R) := by
  refine F.ok S (fun vs H Q E hs => ?_) (fun cdv A outer s H vs Q E hr hs => ?_)
  · obtain ⟨ds, d, h1, h2, _⟩ := hs
    rw [h2.length]
    exact len ds d h1
  · obtain ⟨ds, d, h1, h2, h3⟩ := hs
    obtain ⟨n, hb⟩ := h cdv A outer s H E hr ds d h1
    have dA : ∀ H : Hp, delA (Ad.mk [] []).all H = H := fun H => by
      funext b
      exact delA_out (by simp [Ad.all])
    have m0 : HM ⟨[], []⟩ ⟨[], []⟩ H := ⟨rfl, rfl, by simp [Ad.all], fun k a d h => by simp at h, fun k a d h => by simp at h⟩
    have e00 : ∀ {ds : List D} {vs : List V}, Reps H ds vs → EnvW H ⟨[], []⟩ (ds.map .d) (vs.map some) := by
      intro ds
      induction ds with
      | nil => intro vs h; cases h; rfl
      | cons d ds ih => rintro vs ⟨v, r, h1, h2, h3⟩; subst h1; exact ⟨_, _, rfl, ⟨v, rfl, h2⟩, ih h3⟩
    have e0 : EnvW (delA (Ad.mk [] []).all H) ⟨[], []⟩ (ds.map .d ++ List.replicate (N.length - ds.length) .un) (start N vs) := by
      unfold L2.start
      rw [h2.length, dA]
      exact envW_start _ (e00 h2)
    have sm : ∀ {A' : Ad} {H' : Hp}, Fr n ⟨[], []⟩ H A' H' → Same H H' := fun f => by
      have := f.s
      rw [dA] at this
      exact this.trans delA_le
    refine ⟨_, PSs.nox ps_sem, hb _ H _ _ m0 e0 ⟨fun d' v H' A2 M' p f' m' r' => ?_, fun d' v H' A2 p f' r' => ?_, fun Γ' M' σ' H' A2 p => p.elim⟩⟩
    · cases p
      exact h3 v H' (sm f') (r'.mono delA_le)
    · cases p
      exact h3 v H' (sm f') r'
end
end P6
namespace P6
open PySem PySem.Spec PyProof.Rows L2
section
variable {X : Cx} {n : Nat} {Γ : List GW} {M : Mem} {a b c e : Expr} {rest : List Stmt} {pos tp : Pos} {R : D → Option Mem → Prop} {N : List GW → Mem → Prop}
/-- a, b, c = x, y, z by a tuple (a name is a cell) -/
theorem bw_tup3 {n1 n2 n3 : Str} {q1 q2 q3 tp tp2 : Pos} {k k2 : Nat} {PL : List GW → Mem → Prop} (i j l : Nat) (hN : X.N.Nodup) (ha : AG X [a, b, c] Γ M PL) (h : ∀ gs M', PL gs M' → ∃ g1 g2 g3, gs = [g1, g2, g3] ∧ BW n X rest (((Γ.set i g1).set j g2).set l g3) M' R N)
    (hc : X.calm = true := by rfl) (hi : X.N[i]? = some n1 := by rfl) (hj : X.N[j]? = some n2 := by rfl) (hl : X.N[l]? = some n3 := by rfl)
    (hx : Loc X.env.scope n1 := by first | exact Or.inl rfl | exact Or.inr rfl) (hy : Loc X.env.scope n2 := by first | exact Or.inl rfl | exact Or.inr rfl) (hz : Loc X.env.scope n3 := by first | exact Or.inl rfl | exact Or.inr rfl)
    (hfx : X.fn n1 = true ∨ X.env.scope.names.lookup n1 = some .local := by first | exact .inl rfl | exact .inr rfl) (hfy : X.fn n2 = true ∨ X.env.scope.names.lookup n2 = some .local := by first | exact .inl rfl | exact .inr rfl) (hfz : X.fn n3 = true ∨ X.env.scope.names.lookup n3 = some .local := by first | exact .inl rfl | exact .inr rfl)
    (hs : swapsWithSole [.Tuple [.Name n1 q1, .Name n2 q2, .Name n3 q3] k tp] (.Tuple [a, b, c] k2 tp2) pos.line X.env = pure false := by rfl) (hw : swappedStores [.Tuple [.Name n1 q1, .Name n2 q2, .Name n3 q3] k tp] (.Tuple [a, b, c] k2 tp2) X.env = pure none := by rfl)
    (h1 : (assignEach [.Tuple [.Name n1 q1, .Name n2 q2, .Name n3 q3] k tp] X.env).map (·.2) = [assign (.Tuple [.Name n1 q1, .Name n2 q2, .Name n3 q3] k tp) X.env] := by rfl)
    (hn : (assignEach [.Name n1 q1, .Name n2 q2, .Name n3 q3] X.env).length = 3 := by rfl) (hst : (assignEach [.Name n1 q1, .Name n2 q2, .Name n3 q3] X.env).findIdx? (·.1) = none := by rfl)
    (hs0 : (assignEach [.Name n1 q1, .Name n2 q2, .Name n3 q3] X.env).map (·.2) = assign (.Name n1 q1) X.env :: (assignEach [.Name n2 q2, .Name n3 q3] X.env).map (·.2) := by rfl)
    (hs1 : (assignEach [.Name n2 q2, .Name n3 q3] X.env).map (·.2) = assign (.Name n2 q2) X.env :: (assignEach [.Name n3 q3] X.env).map (·.2) := by rfl)
    (hs2 : (assignEach [.Name n3 q3] X.env).map (·.2) = assign (.Name n3 q3) X.env :: (assignEach [] X.env).map (·.2) := by rfl) :
    BW n X (.Assign [.Tuple [.Name n1 q1, .Name n2 q2, .Name n3 q3] k tp] (.Tuple [a, b, c] k2 tp2) pos :: rest) Γ M R N :=
  bw_of (pss_cons (ps_asg (pe_tup pa_sem) (pg_tup hc (pgs_cons (pg_name hN hi hx hfx) (pgs_cons (pg_name hN hj hy hfy) (pgs_cons (pg_name hN hl hz hfz) pgs_nil hs2) hs1) hs0) hn hst) hs hw h1) (ps_sem (X := X) (st := rest))) fun σ H A E m e q => ha σ H A m e _ fun vs H1 A1 gs M1 p1 f1 m1 r1 => by
    obtain ⟨g1, g2, g3, rfl, bw⟩ := h gs M1 p1
    obtain ⟨v1, r2, rfl, k1, r3⟩ := envW_cons r1
    obtain ⟨v2, r4, rfl, k2, r5⟩ := envW_cons r3
    obtain ⟨v3, r6, rfl, k3, r7⟩ := envW_cons r5
    obtain rfl := envW_nil r7
    refine ⟨by show 3 ≤ sizeLine; rw [sizeLine_eq]; decide, fun l hl => ⟨l, _, rfl, SqT.of upd_same, rfl, v1, _, rfl, v2, _, rfl, v3, _, rfl, rfl, ?_⟩⟩
    have f2 : Fr 0 A1 H1 A1 (upd H1 l (.tup [v1, v2, v3])) := Fr.grow (Same.new hl)
    exact bw _ _ A1 E (m1.same (Same.new hl)) (EnvW.set (f2.gw k3) _ (EnvW.set (f2.gw k2) j (EnvW.set (f2.gw k1) i ((f1.trans f2).env gok0 e)))) (q.mono ((f1.trans f2).up (Nat.zero_le _)))
theorem bw_tup2 {n1 n2 : Str} {q1 q2 tp tp2 : Pos} {k k2 : Nat} {PL : List GW → Mem → Prop} (i j : Nat) (hN : X.N.Nodup) (ha : AG X [a, b] Γ M PL) (h : ∀ gs M', PL gs M' → ∃ g1 g2, gs = [g1, g2] ∧ BW n X rest ((Γ.set i g1).set j g2) M' R N)
    (hc : X.calm = true := by rfl) (hi : X.N[i]? = some n1 := by rfl) (hj : X.N[j]? = some n2 := by rfl)
    (hx : Loc X.env.scope n1 := by first | exact Or.inl rfl | exact Or.inr rfl) (hy : Loc X.env.scope n2 := by first | exact Or.inl rfl | exact Or.inr rfl)
    (hfx : X.fn n1 = true ∨ X.env.scope.names.lookup n1 = some .local := by first | exact .inl rfl | exact .inr rfl) (hfy : X.fn n2 = true ∨ X.env.scope.names.lookup n2 = some .local := by first | exact .inl rfl | exact .inr rfl)
    (hs : swapsWithSole [.Tuple [.Name n1 q1, .Name n2 q2] k tp] (.Tuple [a, b] k2 tp2) pos.line X.env = pure false := by rfl) (hw : swappedStores [.Tuple [.Name n1 q1, .Name n2 q2] k tp] (.Tuple [a, b] k2 tp2) X.env = pure none := by rfl)
    (h1 : (assignEach [.Tuple [.Name n1 q1, .Name n2 q2] k tp] X.env).map (·.2) = [assign (.Tuple [.Name n1 q1, .Name n2 q2] k tp) X.env] := by rfl)
    (hn : (assignEach [.Name n1 q1, .Name n2 q2] X.env).length = 2 := by rfl) (hst : (assignEach [.Name n1 q1, .Name n2 q2] X.env).findIdx? (·.1) = none := by rfl)
    (hs0 : (assignEach [.Name n1 q1, .Name n2 q2] X.env).map (·.2) = assign (.Name n1 q1) X.env :: (assignEach [.Name n2 q2] X.env).map (·.2) := by rfl)
    (hs1 : (assignEach [.Name n2 q2] X.env).map (·.2) = assign (.Name n2 q2) X.env :: (assignEach [] X.env).map (·.2) := by rfl) :
    BW n X (.Assign [.Tuple [.Name n1 q1, .Name n2 q2] k tp] (.Tuple [a, b] k2 tp2) pos :: rest) Γ M R N :=
  bw_of (pss_cons (ps_asg (pe_tup pa_sem) (pg_tup hc (pgs_cons (pg_name hN hi hx hfx) (pgs_cons (pg_name hN hj hy hfy) pgs_nil hs1) hs0) hn hst) hs hw h1) (ps_sem (X := X) (st := rest))) fun σ H A E m e q => ha σ H A m e _ fun vs H1 A1 gs M1 p1 f1 m1 r1 => by
    obtain ⟨g1, g2, rfl, bw⟩ := h gs M1 p1
    obtain ⟨v1, r2, rfl, k1, r3⟩ := envW_cons r1
    obtain ⟨v2, r4, rfl, k2, r5⟩ := envW_cons r3
    obtain rfl := envW_nil r5
    refine ⟨by show 2 ≤ sizeLine; rw [sizeLine_eq]; decide, fun l hl => ⟨l, _, rfl, SqT.of upd_same, rfl, v1, _, rfl, v2, _, rfl, rfl, ?_⟩⟩
    have f2 : Fr 0 A1 H1 A1 (upd H1 l (.tup [v1, v2])) := Fr.grow (Same.new hl)
    exact bw _ _ A1 E (m1.same (Same.new hl)) (EnvW.set (f2.gw k2) j (EnvW.set (f2.gw k1) i ((f1.trans f2).env gok0 e))) (q.mono ((f1.trans f2).up (Nat.zero_le _)))
end
/-! ### a def lets its own new objects go -/
theorem take_get {α : Type} {l : List α} {m k : Nat} {x : α} (h : (l.take m)[k]? = some x) : k < m ∧ l[k]? = some x := by
  rw [List.getElem?_take] at h
  split at h
  · exact ⟨by assumption, h⟩
  · cases h
theorem get_take {α : Type} {l : List α} {m k : Nat} {x : α} (h : l[k]? = some x) (hk : k < m) : (l.take m)[k]? = some x := by
  rw [List.getElem?_take, if_pos hk]
  exact h
section
variable {A A' : Ad} {M : Mem} {H H' : Hp} {m n : Nat}
theorem tr_all {b : Addr} (h : b ∈ (Ad.mk (A.lo.take m) []).all) : b ∈ A.all := by
  unfold Ad.all at h ⊢
  simp only [List.append_nil] at h
  exact List.mem_append.mpr (.inl (List.mem_of_mem_take h))
theorem tr_same : Same (delA A.all H) (delA (Ad.mk (A.lo.take m) []).all H) := fun b o hb => by
  obtain ⟨k1, k2⟩ := delA_get hb
  rw [delA_out fun z => k1 (tr_all z)]
  exact k2
theorem HM.trunc (h : HM A M H) (m : Nat) : HM ⟨A.lo.take m, []⟩ ⟨M.lo.take m, []⟩ H := by
  refine ⟨by rw [List.length_take, List.length_take, h.l1], rfl, ?_, fun j b d' h1 h2 => ?_, fun j b o' h1 h2 => by simp at h1⟩
  · show (A.lo.take m ++ []).Nodup
    rw [List.append_nil]
    exact (List.nodup_append.mp h.nd).1.sublist (List.take_sublist _ _)
  · exact (h.lo j b d' (take_get h1).2 (take_get h2).2).mono tr_same fun _ h => h
theorem Fr.trunc (f : Fr n A H A' H') (hm : A.lo.length ≤ m) (hh : A.hi = []) : Fr n A H ⟨A'.lo.take m, []⟩ H' :=
  ⟨f.s.trans tr_same, fun b hb => f.f b (tr_all hb), fun k a h => by rw [hh] at h; simp at h, fun k a h q => get_take (f.lo k a h q) (Nat.lt_of_lt_of_le (List.getElem?_eq_some_iff.mp h).1 hm)⟩
end
section
variable {P : Program} {w : World} {K : PySem.W.Frag} {mg : Str → Option Value} {base : Heap} {x qual : Str} {params : Arguments} {body : List Stmt} {scope : Scope} {f : Addr} {fd : FuncData} {N ps : List Str} {k : Nat}
theorem fn_WT {R : List GW → Mem → (D → Mem → Prop) → Nat → Prop} (F : FunD K x qual params body scope [] [] f fd) (S : FnScope N ps scope) (len : ∀ gs M Pq n, R gs M Pq n → gs.length = ps.length) (hM : ∀ gs M Pq n, R gs M Pq n → M.hi = [])
    (h : ∀ (cdv : Value) (A : Around) (outer : List Env) (s : Shared) (H : Hp) (E : XK), Room k (A.deeper (envOfC qual scope s.heap.objs.size f cdv)) → ∀ gs M Pq n, R gs M Pq n → ∃ n',
      BW n' (cX P w K mg base N qual scope f cdv A outer s H E) body (gs ++ List.replicate (N.length - gs.length) .un) M (fun d o => ∃ M', o = some M' ∧ Pq d ⟨M'.lo.take M.lo.length, []⟩) (fun _ _ => False)) (hn : ∀ gs M Pq n, R gs M Pq n → M.lo.length ≤ 4) :
    FnOk P w K mg base CX0 (k + 1) f fd ps (spW R) := by
  refine F.ok S (fun vs H Q E hs => ?_) (fun cdv A outer s H vs Q E hr hs => ?_)
  · obtain ⟨gs, M, Pq, n, A, h1, _, h3, _⟩ := hs
    rw [envW_vlen h3]
    exact len gs M Pq n h1
  · obtain ⟨gs, M, Pq, n, A', h1, h2, h3, h4⟩ := hs
    obtain ⟨n', hb⟩ := h cdv A outer s H E hr gs M Pq n h1
    have e0 : EnvW (delA A'.all H) A' (gs ++ List.replicate (N.length - gs.length) .un) (start N vs) := by
      unfold L2.start
      rw [envW_vlen h3]
      exact envW_start _ h3
    have hA : A'.hi = [] := List.eq_nil_of_length_eq_zero (by rw [h2.l2, hM _ _ _ _ h1]; rfl)
    refine ⟨_, PSs.nox ps_sem, hb _ H A' _ h2 e0 ⟨fun d v H' A2 M' ⟨M2, z, p⟩ f' m' r' => ?_, fun d v H' A2 ⟨M2, z, p⟩ => (nomatch z), fun Γ' M' σ' H' A2 p => p.elim⟩⟩
    cases z
    have ft := f'.trunc (m := M.lo.length) (by rw [h2.l1]; exact Nat.le_refl _) hA
    refine h4 v H' _ d _ p ⟨ft.s, ft.f, ft.hi, fun k a hk q => ft.lo k a hk ?_⟩ (m'.trunc _) (r'.mono tr_same)
    have := (List.getElem?_eq_some_iff.mp hk).1
    have := hn gs M Pq n h1
    rw [← h2.l1] at this
    omega
end
end P6
namespace P6
open PySem PySem.Spec PyProof.Rows L2 SrtO
/-! ### sorted: tuples of a word and ints -/
def lexL : List Int → List Int → Bool
  | [], [] => false
  | [], _ :: _ => true
  | _ :: _, [] => false
  | x :: xs, y :: ys => if x = y then lexL xs ys else decide (x < y)
theorem lexL_asym : ∀ x y : List Int, lexL x y = true → lexL y x = false
  | [], [], _ => rfl
  | [], _ :: _, _ => rfl
  | _ :: _, [], h => nomatch h
  | x :: xs, y :: ys, h => by
    unfold lexL at h ⊢
    by_cases e : x = y
    · rw [if_pos e] at h
      rw [if_pos e.symm]
      exact lexL_asym xs ys h
    · rw [if_neg e, decide_eq_true_eq] at h
      rw [if_neg (Ne.symm e)]
      exact decide_eq_false (by omega)
theorem lexL_tr : ∀ x y z : List Int, lexL y x = false → lexL z y = false → lexL z x = false
  | [], [], _, _, h => h
  | [], _ :: _, [], _, _ => rfl
  | [], _ :: _, _ :: _, _, _ => rfl
  | _ :: _, [], _, h, _ => nomatch h
  | _ :: _, _ :: _, [], _, h => nomatch h
  | x :: xs, y :: ys, z :: zs, h1, h2 => by
    unfold lexL at h1 h2 ⊢
    by_cases e1 : y = x
    · rw [if_pos e1] at h1
      by_cases e2 : z = y
      · rw [if_pos e2] at h2
        rw [if_pos (e2.trans e1)]
        exact lexL_tr xs ys zs h1 h2
      · rw [if_neg e2, decide_eq_false_iff_not] at h2
        rw [if_neg (by omega)]
        exact decide_eq_false (by omega)
    · rw [if_neg e1, decide_eq_false_iff_not] at h1
      by_cases e2 : z = y
      · rw [if_neg (by omega)]
        exact decide_eq_false (by omega)
      · rw [if_neg e2, decide_eq_false_iff_not] at h2
        rw [if_neg (by omega)]
        exact decide_eq_false (by omega)
def words6 : List Str := ["add", "decide", "do", "drop", "enter", "has", "leave", "look", "move", "pop", "push", "put", "trade"]
def rank6 (s : Str) : Int := (words6.findIdx fun x => decide (x = s) : Nat)
theorem rank6_ok : ∀ s ∈ words6, ∀ t ∈ words6, decide (s.cps.toList < t.cps.toList) = decide (rank6 s < rank6 t) ∧ (rank6 s = rank6 t → s = t) := by decide +kernel
def IntsV : List Value → List Int → Prop
  | [], [] => True
  | v :: vs, n :: ns => (∃ t, v = .int n t) ∧ IntsV vs ns
  | _, _ => False
theorem IntsV.len : ∀ {vs : List Value} {ns : List Int}, IntsV vs ns → vs.length = ns.length
  | [], [], _ => rfl
  | [], _ :: _, h => h.elim
  | _ :: _, [], h => h.elim
  | _ :: _, _ :: _, ⟨_, h⟩ => by simp [h.len]
def IsSI (h : Heap) (v : Value) (s : Str) (ns : List Int) : Prop := ∃ a o t us n, v = .ref a ∧ h.get? a = some o ∧ o.cls = .type "tuple" ∧ o.data = .seq (Value.str s t :: us).toArray n ∧ IntsV us ns
theorem IsSI.keeps {h h' : Heap} {v : Value} {s : Str} {ns : List Int} (p : IsSI h v s ns) (k : ∀ b o, h.get? b = some o → o.cls = .type "tuple" → h'.get? b = some o) : IsSI h' v s ns := by
  obtain ⟨a, o, t, us, n, e, ho, hc, hd⟩ := p
  exact ⟨a, o, t, us, n, e, k a o ho hc, hc, hd⟩
section
variable {prog : Program} {w : World} {A : Around} {E : Value → Shared → Prop} {s : Shared}
theorem kat_ints {b fin r0 : Bool} : ∀ {vs us : List Value} {ns ms : List Int} (i : Nat), IntsV vs ns → IntsV us ms → fin = decide (ns.length < ms.length) → r0 = lexL ns ms → PySem.W.KatLex prog w A b fin (fun r s' => s' = s ∧ r = r0) (vs.zip us) i s
  | [], [], [], [], i, _, _, e, q => PySem.W.kat_nil ⟨rfl, by rw [e, q]; rfl⟩
  | [], _ :: _, [], _ :: _, i, _, _, e, q => PySem.W.kat_nil ⟨rfl, by rw [e, q]; simp [lexL]⟩
  | _ :: _, [], _ :: _, [], i, _, _, e, q => PySem.W.kat_nil ⟨rfl, by rw [e, q]; simp [lexL]⟩
  | _ :: vs, _ :: us, x :: ns, y :: ms, i, ⟨⟨t, rfl⟩, h1⟩, ⟨⟨u, rfl⟩, h2⟩, e, q => by
    refine PySem.W.kat_cons (SeqAt.EqAt.int_int x t y u prog w _ _ ?_)
    refine PySem.W.kat_go (fun e1 => ?_) (fun e1 => ?_)
    · have ex : x = y := by simpa using e1
      refine PySem.W.kat_yes (kat_ints (i + 1) h1 h2 (by rw [e]; simp) ?_)
      rw [q]
      show (if x = y then _ else _) = _
      rw [if_pos ex]
    · have ex : ¬ x = y := by simpa using e1
      refine PySem.W.kat_no (TS.oneLt_ints _ ⟨rfl, ?_⟩)
      rw [q]
      show _ = (if x = y then _ else _)
      rw [if_neg ex]
theorem si_cmp {vs : List Value} {k : Value → List Int} (hp : ∀ v ∈ vs, ∃ s1 ns, IsSI s.heap v s1 ns ∧ s1 ∈ words6 ∧ k v = rank6 s1 :: ns) : SrtO.Cmp prog w A s (tuples' true) (fun p => p.1 ∈ vs) (lt2 fun v u => lexL (k v) (k u)) := by
  intro p q hm hm'
  obtain ⟨s1, ns, ⟨a, o, t, us, n, e, ho, hc, hd, hi⟩, w1, k1⟩ := hp _ hm
  obtain ⟨s2, ms, ⟨a', o', t', us', n', e', ho', hc', hd', hi'⟩, w2, k2⟩ := hp _ hm'
  show wpAny (model prog w) A (keyLt' (tuples' true) p.1 q.1) (fun r s' => s' = s ∧ r = lexL (k p.1) (k q.1)) (fun _ _ => False) s
  obtain ⟨r1, r2⟩ := rank6_ok s1 w1 s2 w2
  rw [k1, k2, e, e']
  refine PySem.W.kat_lt ho hd ho' hd' ?_
  show PySem.W.KatLex prog w A true _ _ ((.str s1 t, .str s2 t') :: us.zip us') 0 s
  refine PySem.W.kat_cons (SeqAt.EqAt.str_str s1 t s2 t' prog w _ _ ?_)
  refine PySem.W.kat_go (fun e1 => ?_) (fun e1 => ?_)
  · have ex : s1 = s2 := by simpa using e1
    refine PySem.W.kat_yes (kat_ints 1 hi hi' ?_ ?_)
    · rw [List.size_toArray, List.size_toArray, List.length_cons, List.length_cons, hi.len, hi'.len]
      simp
    · show (if rank6 s1 = rank6 s2 then _ else _) = _
      rw [if_pos (by rw [ex])]
  · have ex : ¬ s1 = s2 := by simpa using e1
    refine PySem.W.kat_no (oneLt_str ⟨rfl, ?_⟩)
    show _ = (if rank6 s1 = rank6 s2 then _ else _)
    rw [if_neg (fun z => ex (r2 z)), r1]
theorem si_firsts {h : Heap} : ∀ {vs : List Value}, (∀ v ∈ vs, ∃ s ns, IsSI h v s ns) → ∃ fs : List Value, PySem.W.KatTups h vs fs ∧ fs.length = vs.length ∧ ∀ f ∈ fs, ∃ x t, f = Value.str x t
  | [], _ => ⟨[], PySem.W.KatTups.nil, rfl, fun _ hm => by simp at hm⟩
  | v :: vs, hp => by
    obtain ⟨fs, h1, h2, h3⟩ := si_firsts (vs := vs) fun v' hm => hp v' (List.mem_cons_of_mem _ hm)
    obtain ⟨x, ns, a, o, t, us, n, e, ho, hc, hd, hi⟩ := hp v (List.mem_cons_self ..)
    subst e
    refine ⟨.str x t :: fs, PySem.W.KatTups.cons ho hc hd (by simp) h1, by rw [List.length_cons, List.length_cons, h2], fun f hm => ?_⟩
    rcases List.mem_cons.mp hm with rfl | hm
    · exact ⟨x, t, rfl⟩
    · exact h3 f hm
theorem si_sortable {a : Addr} {vs : List Value} {k : Value → List Int} (h0 : 0 < vs.length) (hp : ∀ v ∈ vs, ∃ s1 ns, IsSI s.heap v s1 ns ∧ s1 ∈ words6 ∧ k v = rank6 s1 :: ns) (ha : ∀ o, s.heap.get? a = some o → o.cls ≠ .type "tuple") : SortableO prog w A s a vs fun v u => lexL (k v) (k u) := by
  intro h' keep
  have hp' : ∀ v ∈ vs, ∃ s1 ns, IsSI h' v s1 ns ∧ s1 ∈ words6 ∧ k v = rank6 s1 :: ns := fun v hm => by
    obtain ⟨s1, ns, p, q⟩ := hp v hm
    exact ⟨s1, ns, p.keeps fun b o e c => keep b o (fun z => by subst z; exact ha o e c) e, q⟩
  obtain ⟨fs, h1, h2, h3⟩ := si_firsts fun v hm => by
    obtain ⟨s1, ns, p, _⟩ := hp' v hm
    exact ⟨s1, ns, p⟩
  refine ⟨tuples' true, fun Q E hq => ?_, si_cmp hp'⟩
  refine PySem.W.kat_kind (T := .type "str") h1 (by omega) (fun f hm => ?_) (by rfl) ?_
  · obtain ⟨x, t, rfl⟩ := h3 f hm
    exact PySem.W.Looks.now
  · have e : (Value.type "str" != Value.type "tuple") = true := by first | decide +kernel | rfl | decide
    rw [e]
    exact hq
end
theorem intsV_of : ∀ {ns : List Int} {us : List Value}, Vals (ns.map V.int) us → IntsV us ns
  | [], _, h => by cases h; trivial
  | n :: ns, _, h => by
    cases h with
    | cons a b => exact ⟨a, intsV_of b⟩
def SI (H : Hp) (x : V) (s : Str) (ns : List Int) : Prop := ∃ t, x = .ref t ∧ H t = some (.tup (.str s :: ns.map V.int))
def rSortSI (K : PySem.W.Frag) : List V → Hp → VK → Prop := fun vs H Q => ∃ (a : Addr) (xs : List V), vs = [V.ref a] ∧ SqL K H a xs ∧ (∀ x ∈ xs, ∃ s ns, SI H x s ns ∧ s ∈ words6) ∧ ∀ (ys : List V) (p : Addr), ys.Perm xs → H p = none → Q (.ref p) (upd H p (.lst ys))
theorem cr_sortSI {X : Cx} : CallR X (.builtin "sorted") (rSortSI X.K) := by
  intro pins s σ H vs us Q I r h
  obtain ⟨a, xs, rfl, hs, hx, q⟩ := h
  obtain ⟨its, rv, hl, hz⟩ := I.list hs
  rw [Vals.ref1 r]
  obtain ⟨e1, e2⟩ := bkV_refs rv fun x m => by
    obtain ⟨s1, ns, ⟨t, e, _⟩, _⟩ := hx x m
    exact ⟨t, e⟩
  have hp : ∀ v ∈ its, ∃ s1 ns, IsSI s.heap v s1 ns ∧ s1 ∈ words6 := fun v hv => by
    obtain ⟨t, rfl⟩ := e2 v hv
    have hm : V.ref t ∈ xs := by
      rw [e1]
      exact List.mem_map.mpr ⟨_, hv, rfl⟩
    obtain ⟨s1, ns, ⟨t', e, ht⟩, hw⟩ := hx _ hm
    cases e
    obtain ⟨us, rv2, ⟨o, ho, hc, n, hd⟩, _⟩ := I.tuple (SqT.of ht)
    cases rv2 with
    | cons b1 b2 =>
      obtain ⟨tk, rfl⟩ := b1
      exact ⟨s1, ns, ⟨t, o, tk, _, n, rfl, ho, hc, hd, intsV_of b2⟩, hw⟩
  have hp2 : ∀ v : Value, ∃ l : List Int, v ∈ its → ∃ s1 ns, IsSI s.heap v s1 ns ∧ s1 ∈ words6 ∧ l = rank6 s1 :: ns := fun v => by
    by_cases hv : v ∈ its
    · obtain ⟨s1, ns, h1, h2⟩ := hp v hv
      exact ⟨_, fun _ => ⟨s1, ns, h1, h2, rfl⟩⟩
    · exact ⟨[], fun z => absurd z hv⟩
  let k : Value → List Int := fun v => Classical.choose (hp2 v)
  have hk : ∀ v ∈ its, ∃ s1 ns, IsSI s.heap v s1 ns ∧ s1 ∈ words6 ∧ k v = rank6 s1 :: ns := fun v hv => Classical.choose_spec (hp2 v) hv
  refine SrtO.sorted_ord (ltv := fun v u => lexL (k v) (k u)) ⟨fun x y => lexL_asym _ _, fun x y z => lexL_tr _ _ _⟩ hl.isList (by rw [← rv.length]; exact hz) (fun h2 h₁ a ha kk => ?_) fun out h1 h2 => ?_
  · refine si_sortable (s := { s with heap := h₁ }) (by omega) (fun v hm => ?_) fun o e => ?_
    · obtain ⟨s1, ns, p, q⟩ := hk v hm
      exact ⟨s1, ns, p.keeps fun b o e _ => (kk b o e).2, q⟩
    · have e' : some o = some (seqObj "list" its.toArray 0) := e.symm.trans ha
      cases e'
      intro c
      exact absurd (Value.type.inj c) (by decide)
  · obtain ⟨ep, he'⟩ := PyProof.Rows.sortedAll_at s.heap its out.toArray
    have h3 : ∀ u ∈ out, ∃ a, u = Value.ref a := fun u hu => e2 u (h2.perm.mem_iff.mp hu)
    have hpm : (out.map bkV).Perm xs := by
      rw [e1]
      exact h2.perm.map bkV
    have hlen : (out.map bkV).length ≤ sizeLine := by
      rw [hpm.length_eq]
      exact hz
    refine ⟨.ref _, upd H (s.heap.objs.size + 1) (.lst (out.map bkV)), I.laid (t' := s.toks) (fun _ _ => PyProof.Rows.sortedAll_old) (Nat.le_succ _) ⟨hlen, out, ep, bkV_vals h3, he'⟩, rfl, q _ _ hpm (I.hok.fresh (Nat.le_succ _))⟩
section
variable {X : Cx} {Γ : List G} {a : Expr} {rest : List Stmt} {ds : List D} {pos p rp : Pos}
theorem Reps.permV {H : Hp} : ∀ {xs ys : List V} {ds : List D}, ys.Perm xs → Reps H ds xs → ∃ es, es.Perm ds ∧ Reps H es ys := by
  intro xs ys ds h
  induction h generalizing ds with
  | nil => exact fun r => ⟨ds, .refl _, r⟩
  | cons x _ ih =>
    intro r
    cases ds with
    | nil => cases r
    | cons d ds =>
      obtain ⟨v, vs, k1, k2, k3⟩ := r
      cases k1
      obtain ⟨es, h1, h2⟩ := ih k3
      exact ⟨d :: es, h1.cons d, ⟨_, _, rfl, k2, h2⟩⟩
  | swap x y l =>
    intro r
    cases ds with
    | nil => cases r
    | cons d ds =>
      obtain ⟨v, vs, k1, k2, k3⟩ := r
      cases k1
      cases ds with
      | nil => cases k3
      | cons d' ds =>
        obtain ⟨v', vs', k4, k5, k6⟩ := k3
        cases k4
        exact ⟨d' :: d :: ds, List.Perm.swap .., ⟨_, _, rfl, k5, _, _, rfl, k2, k6⟩⟩
  | trans _ _ ih1 ih2 =>
    intro r
    obtain ⟨es, h1, h2⟩ := ih2 r
    obtain ⟨fs, h3, h4⟩ := ih1 h2
    exact ⟨fs, h3.trans h1, h4⟩
def wordD (d : D) : Prop := ∃ (s : Str) (ns : List Int), d = .tup (.str s :: ns.map .int) ∧ s ∈ words6
/-- return sorted(calls) -/
theorem b_retSorted (Bt : Bs X.mg) {Py : List D → Prop} (h : U X a Γ (.lst ds)) (hw : ∀ d ∈ ds, wordD d) (hP : ∀ es, es.Perm ds → Py es) (hg : Gl X "sorted" := by rfl) (hs : starEach [a] X.env = (false, eval a X.env) :: starEach [] X.env := by rfl) : B X (.Return (some (.Call (.Name "sorted" p) [a] [] pos)) rp :: rest) Γ (.retF Py) := by
  obtain ⟨t, h1, h2⟩ := h
  refine ⟨_, pss_cons (ps_ret (pe_callB cr_sortSI hg Bt.sorted boot_sorted (pa_cons h1 pa_nil hs) (he := hs))) pss_never, fun σ H E e q => h2 σ H e _ fun v H1 e1 ⟨l, xs, k1, k2, k3⟩ => ?_⟩
  refine ⟨l, xs, by rw [k1], SqL.of k2, fun x hx => ?_, fun ys p hp hn => ?_⟩
  · obtain ⟨i, hi⟩ := List.mem_iff_getElem?.mp hx
    obtain ⟨d, hd, r⟩ := k3.getV hi
    obtain ⟨s, ns, rfl, w⟩ := hw d (List.mem_of_getElem? hd)
    obtain ⟨b, zs, z1, z2, v, vs, z3, z4, z5⟩ := r
    subst z3
    cases z4
    rw [reps_int z5] at z2
    exact ⟨s, ns, ⟨b, z1, z2⟩, w⟩
  · obtain ⟨es, p1, p2⟩ := k3.permV hp
    exact q es p _ (hP es p1) (e1.trans (Same.new hn)) (Same.free e1 hn) ⟨p, ys, rfl, upd_same, p2.mono (Same.new hn)⟩
end
end P6
namespace P6
open PySem PySem.Spec PyProof.Rows L2 H6
section
variable {X : Cx} {Δ : List G} {a b e : Expr} {pos p : Pos} {i j : Int}
theorem u_intI (B : Bs X.mg) (h : U X a Δ (.int i)) (hg : Gl X "int" := by rfl) (hs : starEach [a] X.env = (false, eval a X.env) :: starEach [] X.env := by rfl) : U X (.Call (.Name "int" p) [a] [] pos) Δ (.int i) := by
  obtain ⟨t, h1, h2⟩ := h
  refine ⟨_, pe_callTy call_int1 hg B.int boot_int (pa_cons h1 pa_nil hs) (he := hs), fun σ H e Q q => h2 σ H e _ fun v H1 e1 r1 => ?_⟩
  exact .inl ⟨i, by rw [show v = V.int i from r1], q _ H1 e1 rfl⟩
theorem u_intB (B : Bs X.mg) {k : Bool} (h : U X a Δ (.bl k)) (hg : Gl X "int" := by rfl) (hs : starEach [a] X.env = (false, eval a X.env) :: starEach [] X.env := by rfl) : U X (.Call (.Name "int" p) [a] [] pos) Δ (.int (if k then 1 else 0)) := by
  obtain ⟨t, h1, h2⟩ := h
  refine ⟨_, pe_callTy call_int1 hg B.int boot_int (pa_cons h1 pa_nil hs) (he := hs), fun σ H e Q q => h2 σ H e _ fun v H1 e1 r1 => ?_⟩
  exact .inr ⟨k, by rw [show v = V.bl k from r1], q _ H1 e1 rfl⟩
theorem u_fdiv (hj : 0 < j ∧ j < 1073741824) (ha : U X a Δ (.int i)) (hb : U X b Δ (.int j)) : U X (.BinOp a .FloorDiv b pos) Δ (.int (i / j)) := u_op op_fdiv (rd_I (C := CDiv) hj) ha hb
theorem u_pow (hc : CPow i j) (ha : U X a Δ (.int i)) (hb : U X b Δ (.int j)) : U X (.BinOp a .Pow b pos) Δ (.int (i ^ j.toNat)) := u_op op_pow (rd_I (C := CPow) hc) ha hb
theorem gP_lo {M : Mem} {k : Nat} {d : D} (h : M.lo[k]? = some d) : gP M (.lo k) = .d d := by
  show (match M.lo[k]? with | some d => G.d d | none => .un) = _
  rw [h]
theorem gP_hi {M : Mem} {k : Nat} {o : OH} (h : M.hi[k]? = some o) : gP M (.hi k) = .d (gO M.lo o) := by
  show (match M.hi[k]? with | some o => G.d (gO M.lo o) | none => .un) = _
  rw [h]
theorem gv {Γ : List GW} {M : Mem} {k : Nat} {g : GW} {d : D} (h : Γ[k]? = some g) (hg : gP M g = .d d) : (Γ.map (gP M))[k]? = some (.d d) := by
  rw [List.getElem?_map, h]
  exact congrArg some hg
theorem u_lenS {sc : List Int} (B : Bs X.mg) (h : U X a Δ (.scr X.K sc)) (hg : Gl X "len" := by rfl) (hs : starEach [a] X.env = (false, eval a X.env) :: starEach [] X.env := by rfl) : U X (.Call (.Name "len" p) [a] [] pos) Δ (.int sc.length) := by
  obtain ⟨t, h1, h2⟩ := h
  refine ⟨_, pe_callB call_len_seq hg B.len boot_len (pa_cons h1 pa_nil hs) (he := hs), fun σ H e Q q => h2 σ H e _ fun v H1 e1 r1 => ?_⟩
  obtain ⟨l, k1, k2⟩ := r1
  exact ⟨l, _, by rw [k1], .inl k2, q _ H1 e1 (by rw [List.length_map]; rfl)⟩
theorem u_ixS {sc : List Int} {c : Int} (ha : U X a Δ (.scr X.K sc)) (hb : U X b Δ (.int i)) (h : atI sc i = some c) (hs : PlainIx b := by exact fun _ _ => rfl) : U X (.Subscript a b pos) Δ (.int c) := by
  obtain ⟨ta, h1, h2⟩ := ha
  obtain ⟨tb, h3, h4⟩ := hb
  refine ⟨_, pe_ix ix_list h1 h3 hs, fun σ H e Q q => h2 σ H e _ fun v H1 e1 r1 => h4 σ H1 (e.mono e1) _ fun u H2 e2 r2 => ?_⟩
  obtain ⟨l, k1, k2⟩ := r1
  refine ⟨l, _, i, .int c, k1, r2, sql_mono e2 k2, ?_, q _ H2 (e1.trans e2) rfl⟩
  unfold atI at h ⊢
  rw [List.length_map]
  cases q : ixN sc.length i with
  | none => rw [q] at h; cases h
  | some j =>
    rw [q] at h
    have h : sc[j]? = some c := h
    show (sc.map V.int)[j]? = _
    rw [List.getElem?_map, h]
    rfl
theorem set_at {l : List D} {j : Nat} {d d' : D} (h : l[j]? = some d) : (l.set j d')[j]? = some d' := List.getElem?_set_self (List.getElem?_eq_some_iff.mp h).1
end
section
variable {X : Cx} {n : Nat} {Γ : List GW} {M M2 : Mem} {e tg : Expr} {rest : List Stmt} {d : D} {pos p' : Pos} {R : D → Option Mem → Prop} {N : List GW → Mem → Prop}
theorem bw_setU {nm : Str} (i : Nat) (hN : X.N.Nodup) (he : U X e (Γ.map (gP M)) d) (h : BW n X rest (Γ.set i (.d d)) M R N) (hn : noL d = true := by rfl) (hi : X.N[i]? = some nm := by rfl) (hx : Loc X.env.scope nm := by first | exact Or.inl rfl | exact Or.inr rfl)
    (hs : swapsWith e (some (.Name nm p')) pos.line X.env = pure false := by rfl) (hf : X.fn nm = true ∨ X.env.scope.names.lookup nm = some .local := by first | exact .inl rfl | exact .inr rfl) : BW n X (.Assign [.Name nm p'] e pos :: rest) Γ M R N :=
  bw_set i hN (eg_U he hn) (fun g M' ⟨h1, h2⟩ => by subst h1 h2; exact h) hi hx hs hf
theorem bw_sgU (he : U X e (Γ.map (gP M)) d) (hg : SG X tg Γ M d M2) (h : BW n X rest Γ M2 R N) (hn : noL d = true := by rfl) (hs : swapsWithSole [tg] e pos.line X.env = pure false := by rfl) (hw : swappedStores [tg] e X.env = pure none := by rfl)
    (h1 : (assignEach [tg] X.env).map (·.2) = [assign tg X.env] := by rfl) : BW n X (.Assign [tg] e pos :: rest) Γ M R N :=
  bw_sg (eg_U he hn) (fun g M1 ⟨h1, h2⟩ => by subst h1 h2; exact ⟨d, M2, rfl, hg, h⟩) hs hw h1
theorem bw_retU (he : U X e (Γ.map (gP M)) d) (hR : R d (some M)) (hn : noL d = true := by rfl) : BW n X (.Return (some e) pos :: rest) Γ M R N :=
  bw_ret (eg_U he hn) fun g M' ⟨h1, h2⟩ => by subst h1 h2; exact ⟨d, rfl, hR⟩
end
/-! ### the draws' row: its script, place, mixed number, rest -/
def rowL (K : PySem.W.Frag) (sc : List Int) (i : Nat) (z r : Int) : D := .lst [.scr K sc, .int i, .int z, .int r]
def RowAt (K : PySem.W.Frag) (j : Nat) (M : Mem) : Prop := ∃ sc i z r, M.lo[j]? = some (rowL K sc i z r) ∧ sc.length ≤ 100 ∧ 0 ≤ z ∧ z < 2147483647
def RowTo (K : PySem.W.Frag) (j : Nat) (M M' : Mem) : Prop := ∃ sc i z r, M' = ⟨M.lo.set j (rowL K sc i z r), M.hi⟩ ∧ sc.length ≤ 100 ∧ 0 ≤ z ∧ z < 2147483647
theorem RowTo.at {K : PySem.W.Frag} {j : Nat} {M M' : Mem} (h : RowAt K j M) (t : RowTo K j M M') : RowAt K j M' := by
  obtain ⟨_, _, _, _, h1, _⟩ := h
  obtain ⟨sc, i, z, r, rfl, h2⟩ := t
  exact ⟨sc, i, z, r, set_at h1, h2⟩
theorem RowTo.trans {K : PySem.W.Frag} {j : Nat} {M M1 M2 : Mem} (a : RowTo K j M M1) (b : RowTo K j M1 M2) : RowTo K j M M2 := by
  obtain ⟨_, _, _, _, rfl, _⟩ := a
  obtain ⟨sc, i, z, r, rfl, h2⟩ := b
  exact ⟨sc, i, z, r, by simp [List.set_set], h2⟩
theorem RowTo.self {K : PySem.W.Frag} {j : Nat} {M : Mem} (h : RowAt K j M) : RowTo K j M M := by
  obtain ⟨sc, i, z, r, h1, h2⟩ := h
  refine ⟨sc, i, z, r, ?_, h2⟩
  have : M.lo.set j (rowL K sc i z r) = M.lo := by
    apply List.ext_getElem?
    intro k
    by_cases q : k = j
    · subst q
      rw [set_at h1, h1]
    · rw [List.getElem?_set_ne (Ne.symm q)]
  rw [this]
def rTaken (K : PySem.W.Frag) (gs : List GW) (M : Mem) (P : D → Mem → Prop) (n : Nat) : Prop := ∃ j many : Nat, gs = [.lo j, .d (.int many)] ∧ RowAt K j M ∧ 0 < many ∧ many ≤ 1000 ∧ n = 0 ∧ P = fun d M' => ∃ k : Nat, k < many ∧ d = .int k ∧ RowTo K j M M'
theorem mod_nat {i : Int} {many : Nat} (h : 0 < many) : ∃ k : Nat, k < many ∧ i % (many : Int) = k := by
  have h1 := Int.emod_nonneg i (b := (many : Int)) (by omega)
  have h2 := Int.emod_lt_of_pos i (b := (many : Int)) (by omega)
  exact ⟨(i % (many : Int)).toNat, by omega, by omega⟩
section
variable {P : Program} {w : World} {K : PySem.W.Frag} {mg : Str → Option Value} {base : Heap}
theorem cal_L_taken (S : Ctx K mg) : Cal P w K mg base "_law_taken" p_L_taken 1 (spW (rTaken K)) := by
  obtain ⟨fd, F⟩ := F_L_taken S
  have Bt := bs_of S
  refine ⟨_, fd, fn_W F sc_L_taken ?_ ?_, g_L_taken S, F.kp, bd_L_taken F⟩
  · rintro gs M Pq n ⟨j, many, rfl, _⟩
    rfl
  · rintro cdv A outer s H E hr gs M Pq n ⟨j, many, rfl, ⟨sc, i, z, r, h1, hz⟩, hm, hm2, rfl, rfl⟩
    have fin : ∀ (M' : Mem) (x : Int), RowTo K j M M' → ∃ M'', some M' = some M'' ∧ ∃ k : Nat, k < many ∧ D.int (x % (many : Int)) = .int k ∧ RowTo K j M M'' := fun M' x t => by
      obtain ⟨k, hk, e⟩ := mod_nat (i := x) hm
      exact ⟨M', rfl, k, hk, by rw [e], t⟩
    have hcm : ∀ x : Int, CMul x 48271 := fun x => .inr (by decide)
    have hmod : ∀ x : Int, 0 ≤ x % 2147483647 ∧ x % 2147483647 < 2147483647 := fun x => ⟨Int.emod_nonneg _ (by decide), Int.emod_lt_of_pos _ (by decide)⟩
    by_cases hrp : 0 < r
    · refine bw_ifR (t_is (t_gt (u_ixL (u_var 0 (gv rfl (gP_lo h1))) u_int) u_int) (decide_eq_true hrp)) ?_
      refine bw_setU 2 sc_L_taken.nd (u_mod (by omega) (u_intI Bt (u_ixL (u_var 0 (gv rfl (gP_lo h1))) u_int)) (u_var 1 rfl)) ?_
      refine bw_sgU (u_fdiv (by omega) (u_ixL (u_var 0 (gv rfl (gP_lo h1))) u_int) (u_var 1 rfl)) (sg_loL (eg_var 0 rfl) h1 u_int rfl) ?_
      refine bw_retU (u_var 2 rfl) (fin _ _ ⟨sc, i, z, r / many, rfl, hz⟩)
    · refine bw_ifF (t_is (t_gt (u_ixL (u_var 0 (gv rfl (gP_lo h1))) u_int) u_int) (decide_eq_false hrp)) ?_
      refine bw_sgU (u_add (u_ixL (u_var 0 (gv rfl (gP_lo h1))) u_int) u_int) (sg_loL (eg_var 0 rfl) h1 u_int rfl) ?_
      have h2 : ((M.lo.set j (rowL K sc (i + 1) z r))[j]? = some (rowL K sc (i + 1) z r)) := set_at h1
      by_cases hl : sc.length < i + 1
      · refine bw_ifR (t_is (t_gt (u_ixL (u_var 0 (gv rfl (gP_lo h2))) u_int) (u_lenS Bt (u_ixL (u_var 0 (gv rfl (gP_lo h2))) u_int))) ?_) ?_
        · exact decide_eq_true (by omega)
        · refine bw_sgU (u_mod (by decide) (u_intI Bt (u_add (u_mul (hcm _) (u_ixL (u_var 0 (gv rfl (gP_lo h2))) u_int) u_int) u_int)) u_int) (sg_loL (eg_var 0 rfl) h2 u_int rfl) ?_
          have h3 := set_at (d' := rowL K sc (i + 1) ((z * 48271 + 11) % 2147483647) r) h2
          refine bw_retU (u_mod (by omega) (u_intI Bt (u_fdiv (by decide) (u_ixL (u_var 0 (gv rfl (gP_lo h3))) u_int) u_int)) (u_var 1 rfl)) (fin _ _ ⟨sc, i + 1, (z * 48271 + 11) % 2147483647, r, ?_, hz.1, hmod _⟩)
          simp only [List.set_set]
          rfl
      · refine bw_ifF (t_is (t_gt (u_ixL (u_var 0 (gv rfl (gP_lo h2))) u_int) (u_lenS Bt (u_ixL (u_var 0 (gv rfl (gP_lo h2))) u_int))) ?_) ?_
        · exact decide_eq_false (by omega)
        · have hi : i < sc.length := by omega
          obtain ⟨c, hc⟩ : ∃ c, sc[i]? = some c := ⟨_, List.getElem?_eq_getElem hi⟩
          refine bw_setU 3 sc_L_taken.nd (d := .int c) (u_ixS (u_ixL (u_var 0 (gv rfl (gP_lo h2))) u_int) (u_sub (u_ixL (u_var 0 (gv rfl (gP_lo h2))) u_int) u_int) ?_) ?_
          · have : ((i + 1 : Nat) : Int) - 1 = (i : Nat) := by omega
            rw [this]
            exact atI_nat hc
          · refine bw_sgU (u_mod (by decide) (u_intI Bt (u_add (u_add (u_mul (hcm _) (u_ixL (u_var 0 (gv rfl (gP_lo h2))) u_int) u_int) (u_var 3 rfl)) u_int)) u_int) (sg_loL (eg_var 0 rfl) h2 u_int rfl) ?_
            have h3 := set_at (d' := rowL K sc (i + 1) ((z * 48271 + c + 11) % 2147483647) r) h2
            have tk : ∀ r', RowTo K j M ⟨((M.lo.set j (rowL K sc (i + 1) z r)).set j (rowL K sc (i + 1) ((z * 48271 + c + 11) % 2147483647) r)).set j (rowL K sc (i + 1) ((z * 48271 + c + 11) % 2147483647) r'), M.hi⟩ := fun r' => ⟨sc, i + 1, (z * 48271 + c + 11) % 2147483647, r', by simp only [List.set_set], hz.1, hmod _⟩
            have tk0 : RowTo K j M ⟨(M.lo.set j (rowL K sc (i + 1) z r)).set j (rowL K sc (i + 1) ((z * 48271 + c + 11) % 2147483647) r), M.hi⟩ := ⟨sc, i + 1, (z * 48271 + c + 11) % 2147483647, r, by simp only [List.set_set], hz.1, hmod _⟩
            by_cases hb : (10 : Int) ^ (18 : Int).toNat ≤ c
            · refine bw_ifT (N1 := fun Γ' M' => Γ' = [.lo j, .d (.int many), .un, .d (.int c)] ∧ RowTo K j M M') (t_is (t_ge (u_var 3 rfl) (u_pow ⟨by decide, by decide, by decide⟩ u_int u_int)) (decide_eq_true hb)) ?_ ?_
              · refine bw_sgU (u_fdiv (by omega) (u_var 3 rfl) (u_var 1 rfl)) (sg_loL (eg_var 0 rfl) h3 u_int rfl) (bw_nil ⟨rfl, tk _⟩)
              · rintro Γ' M' ⟨rfl, t⟩
                exact bw_retU (u_mod (by omega) (u_intI Bt (u_var 3 rfl)) (u_var 1 rfl)) (fin _ _ t)
            · refine bw_ifF (t_is (t_ge (u_var 3 rfl) (u_pow ⟨by decide, by decide, by decide⟩ u_int u_int)) (decide_eq_false hb)) ?_
              exact bw_retU (u_mod (by omega) (u_intI Bt (u_var 3 rfl)) (u_var 1 rfl)) (fin _ _ tk0)
end
end P6
namespace P6
open PySem PySem.Spec PyProof.Rows L2 H6
section
variable {P : Program} {w : World} {K : PySem.W.Frag} {mg : Str → Option Value} {base : Heap}
section
variable {X : Cx} {Γ : List GW} {M : Mem} {a b e : Expr} {pos p : Pos}
/-- a draw: its row at slot k -/
theorem eg_taken {rn : Str} {rp : Pos} {Pr : GW → Mem → Prop} {j many : Nat} (k : Nat) (C : Cal X.prog X.w X.K X.mg X.base "_law_taken" p_L_taken 1 (spW (rTaken X.K))) (hr : Room 1 X.A) (hk : Γ[k]? = some (.lo j)) (hj : RowAt X.K j M) (he : U X e (Γ.map (gP M)) (.int many)) (hm : 0 < many ∧ many ≤ 1000)
    (hP : ∀ (i : Nat) M', i < many → RowTo X.K j M M' → Pr (.d (.int i)) M') (hN : X.N[k]? = some rn := by rfl) (hv : Vis X.env.scope rn := by first | exact Or.inl rfl | exact Or.inr (Or.inl rfl) | exact Or.inr (Or.inr rfl))
    (hd : (rn == ("__debug__" : Str)) = false := by decide) (hcd : (rn == ("__classdict__" : Str)) = false := by decide) (hg : Gl X "_law_taken" := by rfl)
    (hs : starEach [.Name rn rp, e] X.env = (false, eval (.Name rn rp) X.env) :: starEach [e] X.env := by rfl) (hs2 : starEach [e] X.env = (false, eval e X.env) :: starEach [] X.env := by rfl) (hpl : (backTo pos (starEach [e] X.env)).any (·.1) = false := by rfl) : EG X (.Call (.Name "_law_taken" p) [.Name rn rp, e] [] pos) Γ M Pr :=
  eg_call C hr (ag_c (eg_var k hk (fun h => nomatch h) hN hv hd hcd) (ag_c (eg_U he) ag_nil hs2) hs) (fun gs M1 ⟨h1, h2⟩ => by
    subst h1 h2
    exact ⟨_, ⟨j, many, rfl, hj, hm.1, hm.2, rfl, rfl⟩, fun d M2 ⟨i, hi, hd, ht⟩ => by subst hd; exact hP i M2 hi ht⟩) hg (by decide) hs hpl
theorem rd_add {i j : Int} : RD (rI0 fun i j => .int (i + j)) (.int i) (.int j) (.int (i + j)) := rd_I0
/-- n + a draw -/
theorem eg_plus {c : Int} {Pr P1 : GW → Mem → Prop} {kk : Nat} {ip : Pos} (hb : EG X b Γ M P1) (h : ∀ g M', P1 g M' → ∃ i : Nat, g = .d (.int i) ∧ Pr (.d (.int (c + i))) M') : EG X (.BinOp (.Constant (.int c) kk ip) .Add b pos) Γ M Pr := by
  refine eg_op (P1 := eqP (.d (.int c)) M) (P2 := P1) op_add (eg_U u_int) ?_ ?_
  · rintro g M1 ⟨_, rfl⟩
    exact hb
  · rintro g M1 g2 M2 ⟨h1, _⟩ h3
    obtain ⟨i, h4, h5⟩ := h g2 M2 h3
    exact ⟨_, _, _, h1, h4, rd_add, rfl, h5⟩
end
def rPick (K : PySem.W.Frag) (gs : List GW) (M : Mem) (P : D → Mem → Prop) (n : Nat) : Prop := ∃ (j : Nat) (ds : List D), gs = [.lo j, .d (.lst ds)] ∧ RowAt K j M ∧ 0 < ds.length ∧ ds.length ≤ 1000 ∧ n = 0 ∧ P = fun d M' => d ∈ ds ∧ RowTo K j M M'
theorem cal_L_pick (S : Ctx K mg) : Cal P w K mg base "_law_pick" p_L_pick 2 (spW (rPick K)) := by
  obtain ⟨fd, F⟩ := F_L_pick S
  have Bt := bs_of S
  refine ⟨_, fd, fn_W F sc_L_pick ?_ ?_, g_L_pick S, F.kp, bd_L_pick F⟩
  · rintro gs M Pq n ⟨j, ds, rfl, _⟩
    rfl
  · rintro cdv A outer s H E hr gs M Pq n ⟨j, ds, rfl, h1, hm, hm2, rfl, rfl⟩
    refine bw_ret (P := fun g M' => ∃ d, g = .d d ∧ d ∈ ds ∧ RowTo K j M M') (eg_ixL (eg_var 1 rfl) (eg_taken (Pr := fun g M' => ∃ i : Nat, g = .d (.int i) ∧ i < ds.length ∧ RowTo K j M M') 0 (cal_L_taken S) hr rfl h1 (u_lenL Bt (u_var 1 rfl)) ⟨hm, hm2⟩ fun i M' hi t => ⟨i, rfl, hi, t⟩) ?_) ?_
    · rintro g M' ⟨i, rfl, hi, t⟩
      have e := List.getElem?_eq_getElem hi
      exact ⟨i, _, rfl, atI_nat e, _, rfl, List.mem_of_getElem? e, t⟩
    · rintro g M' ⟨d, rfl, hd, t⟩
      exact ⟨d, rfl, M', rfl, hd, t⟩
/-- an object is drawn -/
def rObject (K : PySem.W.Frag) (gs : List GW) (M : Mem) (P : D → Mem → Prop) (n : Nat) : Prop := ∃ (j : Nat), gs = [.lo j] ∧ RowAt K j M ∧ M.hi = [] ∧ M.lo.length ≤ 4 ∧ P = fun d M' => ∃ t : Thing, t.ok ∧ d = t.d ∧ RowTo K j M M'
theorem RowTo.len {j : Nat} {M M' : Mem} (h : RowTo K j M M') : M'.lo.length = M.lo.length ∧ M'.hi = M.hi := by
  obtain ⟨_, _, _, _, rfl, _⟩ := h
  exact ⟨by simp, rfl⟩
theorem RowTo.take {j : Nat} {M M' : Mem} (h : RowTo K j M M') (hh : M.hi = []) : (⟨M'.lo.take M.lo.length, []⟩ : Mem) = M' := by
  obtain ⟨h1, h2⟩ := h.len
  rw [List.take_of_length_le (by omega), ← hh, ← h2]
theorem RowAt.lt {j : Nat} {M : Mem} (h : RowAt K j M) : j < M.lo.length := by
  obtain ⟨_, _, _, _, h, _⟩ := h
  exact (List.getElem?_eq_some_iff.mp h).1
theorem RowAt.snoc {j : Nat} {M : Mem} {x : D} (h : RowAt K j M) : RowAt K j ⟨M.lo ++ [x], M.hi⟩ := by
  obtain ⟨sc, i, z, r, h, q⟩ := h
  exact ⟨sc, i, z, r, get_app h, q⟩
theorem RowTo.snoc {j : Nat} {M M' : Mem} {x : D} (hj : j < M.lo.length) (h : RowTo K j ⟨M.lo ++ [x], M.hi⟩ M') : ∃ M2, M' = ⟨M2.lo ++ [x], M2.hi⟩ ∧ RowTo K j M M2 := by
  obtain ⟨sc, i, z, r, rfl, q⟩ := h
  refine ⟨⟨M.lo.set j (rowL K sc i z r), M.hi⟩, ?_, sc, i, z, r, rfl, q⟩
  show (⟨(M.lo ++ [x]).set j _, M.hi⟩ : Mem) = ⟨M.lo.set j _ ++ [x], M.hi⟩
  rw [List.set_append_left _ _ hj]
end
end P6
namespace P6
open PySem PySem.Spec PyProof.Rows L2 H6
section
variable {X : Cx} {Γ : List GW} {M : Mem} {a b c e : Expr} {pos p : Pos} {P : GW → Mem → Prop}
theorem eg_tup2 {P1 : GW → Mem → Prop} {P2 : GW → GW → Mem → Prop} {n : Nat} (ha : EG X a Γ M P1) (hb : ∀ g M1, P1 g M1 → EG X b Γ M1 (P2 g)) (h : ∀ g M1 g2 M2, P1 g M1 → P2 g g2 M2 → ∃ x y, g = .d x ∧ g2 = .d y ∧ P (.d (.tup [x, y])) M2)
    (hs : starEach [a, b] X.env = (false, eval a X.env) :: starEach [b] X.env := by rfl) (hs2 : starEach [b] X.env = (false, eval b X.env) :: starEach [] X.env := by rfl) : EG X (.Tuple [a, b] n pos) Γ M P := by
  refine eg_tup (ag_cons ha (fun g M1 p1 => ag_cons (P2 := fun _ M2 gs' M' => gs' = [] ∧ M' = M2) (hb g M1 p1) (fun g2 M2 _ => ag_nil) hs2) hs) ?_
  rintro gs M' ⟨g, gr, M1, rfl, p1, g2, gr2, M2, rfl, p2, rfl, rfl⟩
  obtain ⟨x, y, rfl, rfl, pp⟩ := h g M1 g2 _ p1 p2
  exact ⟨[x, y], rfl, by simp, pp⟩
theorem eg_tup3 {P1 : GW → Mem → Prop} {P2 : GW → Mem → Prop} {P3 : GW → GW → Mem → Prop} {n : Nat} (ha : EG X a Γ M P1) (hb : ∀ g M1, P1 g M1 → EG X b Γ M1 P2) (hc : ∀ g M1, P2 g M1 → EG X c Γ M1 (P3 g))
    (h : ∀ g M1 g2 M2 g3 M3, P1 g M1 → P2 g2 M2 → P3 g2 g3 M3 → ∃ x y z, g = .d x ∧ g2 = .d y ∧ g3 = .d z ∧ P (.d (.tup [x, y, z])) M3)
    (hs : starEach [a, b, c] X.env = (false, eval a X.env) :: starEach [b, c] X.env := by rfl) (hs2 : starEach [b, c] X.env = (false, eval b X.env) :: starEach [c] X.env := by rfl) (hs3 : starEach [c] X.env = (false, eval c X.env) :: starEach [] X.env := by rfl) : EG X (.Tuple [a, b, c] n pos) Γ M P := by
  refine eg_tup (ag_cons ha (fun g M1 p1 => ag_cons (P2 := fun g2 M2 gs' M' => ∃ g3 gr M3, gs' = g3 :: gr ∧ P3 g2 g3 M3 ∧ gr = [] ∧ M' = M3) (hb g M1 p1) (fun g2 M2 p2 => ag_cons (P2 := fun _ M3 gs' M' => gs' = [] ∧ M' = M3) (hc g2 M2 p2) (fun g3 M3 _ => ag_nil) hs3) hs2) hs) ?_
  rintro gs M' ⟨g, gr, M1, rfl, p1, g2, gr2, M2, rfl, p2, g3, gr3, M3, rfl, p3, rfl, rfl⟩
  obtain ⟨x, y, z, rfl, rfl, rfl, pp⟩ := h g M1 g2 M2 g3 _ p1 p2 p3
  exact ⟨[x, y, z], rfl, by simp, pp⟩
theorem eg_cU {d : D} {Pr : GW → Mem → Prop} (h : U X e (Γ.map (gP M)) d) (hP : Pr (.d d) M) (n : noL d = true := by rfl) : EG X e Γ M Pr := (eg_U h n).imp fun g M' ⟨h1, h2⟩ => by subst h1 h2; exact hP
end
section
variable {P : Program} {w : World} {K : PySem.W.Frag} {mg : Str → Option Value} {base : Heap}
theorem rowD_noL (r : List (Int × Int)) : noL (rowD r) = true := noL_tup (noLs_iff.mpr fun d hd => by
  obtain ⟨p, _, rfl⟩ := List.mem_map.mp hd
  rfl)
theorem cal_L_object (S : Ctx K mg) : Cal P w K mg base "_law_object" p_L_object 2 (spW (rObject K)) := by
  obtain ⟨fd, F⟩ := F_L_object S
  have Bt := bs_of S
  refine ⟨_, fd, fn_WT F sc_L_object ?_ ?_ ?_ ?_, g_L_object S, F.kp, bd_L_object F⟩
  · rintro gs M Pq n ⟨j, rfl, _⟩
    rfl
  · rintro gs M Pq n ⟨j, rfl, _, h, _⟩
    exact h
  · rintro cdv A outer s H E hr gs M Pq n ⟨j, rfl, h1, hh, h4, rfl⟩
    refine ⟨0, ?_⟩
    have Ct := fun {w : World} {base : Heap} => cal_L_taken (P := P) (w := w) (base := base) S
    have fin : ∀ (t : Thing) (M' : Mem), t.ok → RowTo K j M M' → ∃ M2, some M' = some M2 ∧ ∃ t' : Thing, t'.ok ∧ t.d = t'.d ∧ RowTo K j M ⟨M2.lo.take M.lo.length, []⟩ := fun t M' ok rt => ⟨M', rfl, t, ok, rfl, by rw [rt.take hh]; exact rt⟩
    refine bw_set 1 sc_L_object.nd (eg_taken (Pr := fun g M' => ∃ i : Nat, g = .d (.int i) ∧ i < 9 ∧ RowTo K j M M') 0 Ct hr rfl h1 (u_int (i := ((9 : Nat) : Int))) (by omega) fun i M' hi t => ⟨i, rfl, hi, t⟩) ?_
    rintro g M1 ⟨i, rfl, hi, t1⟩
    have a1 := t1.at h1
    have hk : ∀ (lo : Int) (n : Nat), (i : Int) = lo → True := fun _ _ _ => trivial
    by_cases c1 : i < 2
    · refine bw_ifR (t_is (t_lt (u_var 1 rfl) u_int) (decide_eq_true (by omega))) ?_
      obtain ⟨nm, hnm⟩ : ∃ nm, atI [D.str "counter", .str "register"] (i : Int) = some nm ∧ ∀ m : Int, 2 ≤ m ∧ m ≤ 5 → ∃ t : Thing, t.ok ∧ t.d = .tup [nm, .int m] ∧ noL nm = true := by
        match i, c1 with
        | 0, _ => exact ⟨_, rfl, fun m hm => ⟨.counter m, hm, rfl, rfl⟩⟩
        | 1, _ => exact ⟨_, rfl, fun m hm => ⟨.register m, hm, rfl, rfl⟩⟩
      obtain ⟨_, _, _, nn⟩ := hnm.2 2 (by omega)
      refine bw_ret (P := fun g M' => ∃ t : Thing, t.ok ∧ g = .d t.d ∧ RowTo K j M M') (eg_tup2 (P1 := eqP (.d nm) M1) (P2 := fun _ g M' => ∃ k : Nat, k < 3 ∧ g = .d (.int (2 + k)) ∧ RowTo K j M M') (eg_U (u_ixL (u_lst (ua_cons u_str (ua_cons u_str ua_nil))) (u_var 1 rfl) hnm.1) nn) ?_ ?_) ?_
      · rintro g M2 ⟨rfl, rfl⟩
        refine eg_plus (P1 := fun g M' => ∃ k : Nat, k < 3 ∧ g = .d (.int k) ∧ RowTo K j M M') (eg_taken 0 Ct hr rfl a1 (u_int (i := ((3 : Nat) : Int))) (by omega) fun k M' hk t => ⟨k, hk, rfl, t1.trans t⟩) ?_
        rintro g M' ⟨k, hk, rfl, t⟩
        exact ⟨k, rfl, k, hk, rfl, t⟩
      · rintro g M2 g2 M3 ⟨rfl, rfl⟩ ⟨k, hk, rfl, t⟩
        obtain ⟨tt, ok, e, _⟩ := hnm.2 (2 + k) (by omega)
        exact ⟨_, _, rfl, rfl, tt, ok, by rw [e], t⟩
      · rintro g M' ⟨tt, ok, rfl, t⟩
        exact ⟨_, rfl, fin tt M' ok t⟩
    · refine bw_ifF (t_is (t_lt (u_var 1 rfl) u_int) (decide_eq_false (by omega))) ?_
      by_cases c2 : i < 4
      · refine bw_ifR (t_is (t_lt (u_var 1 rfl) u_int) (decide_eq_true (by omega))) ?_
        obtain ⟨nm, hnm⟩ : ∃ nm, atI [D.str "stack", .str "queue"] ((i : Int) - 2) = some nm ∧ ∀ r m : Int, (1 ≤ r ∧ r ≤ 3) → 1 ≤ m ∧ m ≤ 3 → ∃ t : Thing, t.ok ∧ t.d = .tup [nm, .int r, .int m] ∧ noL nm = true := by
          match i, c1, c2 with
          | 2, _, _ => exact ⟨_, rfl, fun r m hr hm => ⟨.stack r m, ⟨hr, hm⟩, rfl, rfl⟩⟩
          | 3, _, _ => exact ⟨_, rfl, fun r m hr hm => ⟨.queue r m, ⟨hr, hm⟩, rfl, rfl⟩⟩
        obtain ⟨_, _, _, nn⟩ := hnm.2 1 1 (by omega) (by omega)
        refine bw_ret (P := fun g M' => ∃ t : Thing, t.ok ∧ g = .d t.d ∧ RowTo K j M M') (eg_tup3 (P1 := eqP (.d nm) M1) (P2 := fun g M' => ∃ k : Nat, k < 2 ∧ g = .d (.int (1 + k)) ∧ RowTo K j M M') (P3 := fun _ g M' => ∃ k : Nat, k < 2 ∧ g = .d (.int (1 + k)) ∧ RowTo K j M M') (eg_U (u_ixL (u_lst (ua_cons u_str (ua_cons u_str ua_nil))) (u_sub (u_var 1 rfl) u_int) hnm.1) nn) ?_ ?_ ?_) ?_
        · rintro g M2 ⟨rfl, rfl⟩
          refine eg_plus (P1 := fun g M' => ∃ k : Nat, k < 2 ∧ g = .d (.int k) ∧ RowTo K j M M') (eg_taken 0 Ct hr rfl a1 (u_int (i := ((2 : Nat) : Int))) (by omega) fun k M' hk t => ⟨k, hk, rfl, t1.trans t⟩) ?_
          rintro g M' ⟨k, hk, rfl, t⟩
          exact ⟨k, rfl, k, hk, rfl, t⟩
        · rintro g M2 ⟨_, _, rfl, t2⟩
          refine eg_plus (P1 := fun g M' => ∃ k : Nat, k < 2 ∧ g = .d (.int k) ∧ RowTo K j M M') (eg_taken 0 Ct hr rfl (t2.at h1) (u_int (i := ((2 : Nat) : Int))) (by omega) fun k M' hk t => ⟨k, hk, rfl, t2.trans t⟩) ?_
          rintro g M' ⟨k, hk, rfl, t⟩
          exact ⟨k, rfl, k, hk, rfl, t⟩
        · rintro g M2 g2 M3 g3 M4 ⟨rfl, rfl⟩ ⟨k, hk, rfl, t⟩ ⟨k', hk', rfl, t'⟩
          obtain ⟨tt, ok, e, _⟩ := hnm.2 (1 + k) (1 + k') (by omega) (by omega)
          exact ⟨_, _, _, rfl, rfl, rfl, tt, ok, by rw [e], t'⟩
        · rintro g M' ⟨tt, ok, rfl, t⟩
          exact ⟨_, rfl, fin tt M' ok t⟩
      · refine bw_ifF (t_is (t_lt (u_var 1 rfl) u_int) (decide_eq_false (by omega))) ?_
        by_cases c3 : i < 6
        · refine bw_ifR (t_is (t_lt (u_var 1 rfl) u_int) (decide_eq_true (by omega))) ?_
          obtain ⟨nm, hnm⟩ : ∃ nm, atI [D.str "set", .str "agree"] ((i : Int) - 4) = some nm ∧ ∀ m : Int, 2 ≤ m ∧ m ≤ 5 → ∃ t : Thing, t.ok ∧ t.d = .tup [nm, .int m] ∧ noL nm = true := by
            match i, c2, c3 with
            | 4, _, _ => exact ⟨_, rfl, fun m hm => ⟨.set m, hm, rfl, rfl⟩⟩
            | 5, _, _ => exact ⟨_, rfl, fun m hm => ⟨.agree m, hm, rfl, rfl⟩⟩
          obtain ⟨_, _, _, nn⟩ := hnm.2 2 (by omega)
          refine bw_ret (P := fun g M' => ∃ t : Thing, t.ok ∧ g = .d t.d ∧ RowTo K j M M') (eg_tup2 (P1 := eqP (.d nm) M1) (P2 := fun _ g M' => ∃ k : Nat, k < 2 ∧ g = .d (.int (2 + k)) ∧ RowTo K j M M') (eg_U (u_ixL (u_lst (ua_cons u_str (ua_cons u_str ua_nil))) (u_sub (u_var 1 rfl) u_int) hnm.1) nn) ?_ ?_) ?_
          · rintro g M2 ⟨rfl, rfl⟩
            refine eg_plus (P1 := fun g M' => ∃ k : Nat, k < 2 ∧ g = .d (.int k) ∧ RowTo K j M M') (eg_taken 0 Ct hr rfl a1 (u_int (i := ((2 : Nat) : Int))) (by omega) fun k M' hk t => ⟨k, hk, rfl, t1.trans t⟩) ?_
            rintro g M' ⟨k, hk, rfl, t⟩
            exact ⟨k, rfl, k, hk, rfl, t⟩
          · rintro g M2 g2 M3 ⟨rfl, rfl⟩ ⟨k, hk, rfl, t⟩
            obtain ⟨tt, ok, e, _⟩ := hnm.2 (2 + k) (by omega)
            exact ⟨_, _, rfl, rfl, tt, ok, by rw [e], t⟩
          · rintro g M' ⟨tt, ok, rfl, t⟩
            exact ⟨_, rfl, fin tt M' ok t⟩
        · refine bw_ifF (t_is (t_lt (u_var 1 rfl) u_int) (decide_eq_false (by omega))) ?_
          by_cases c4 : i = 6
          · subst c4
            refine bw_ifR (t_is (t_eq (u_var 1 rfl) u_int) rfl) ?_
            refine bw_ret (P := fun g M' => ∃ t : Thing, t.ok ∧ g = .d t.d ∧ RowTo K j M M') (eg_tup2 (P1 := eqP (.d (.str "bank")) M1) (P2 := fun _ g M' => ∃ as : List Int, ((2 ≤ as.length ∧ as.length ≤ 3) ∧ ∀ a ∈ as, 0 ≤ a ∧ a ≤ 5) ∧ g = .d (tI as) ∧ RowTo K j M M') (eg_U u_str) ?_ ?_) ?_
            · rintro g M2 ⟨rfl, rfl⟩
              refine eg_tupOf Bt (P1 := fun g M' => ∃ as : List Int, ((2 ≤ as.length ∧ as.length ≤ 3) ∧ ∀ a ∈ as, 0 ≤ a ∧ a ≤ 5) ∧ g = .d (.lst (as.map .int)) ∧ RowTo K j M M') (eg_lc (i := 2) (PI' := fun ds M' => (2 ≤ ds.length ∧ ds.length ≤ 3) ∧ noLs ds = true ∧ RowTo K j M M') (fun ds es M' => ∃ as : List Int, (2 ≤ ds.length ∧ ds.length ≤ 3) ∧ es = as.map .int ∧ (∀ a ∈ as, 0 ≤ a ∧ a ≤ 5) ∧ RowTo K j M M')
                sc_L_object.nd (ig_rng Bt (P := fun g M' => ∃ k : Nat, k < 2 ∧ g = .d (.int (2 + k)) ∧ RowTo K j M M') (eg_plus (P1 := fun g M' => ∃ k : Nat, k < 2 ∧ g = .d (.int k) ∧ RowTo K j M M') (eg_taken 0 Ct hr rfl a1 (u_int (i := ((2 : Nat) : Int))) (by omega) fun k M' hk t => ⟨k, hk, rfl, t1.trans t⟩) ?_) ?_) (blkOk_by (N := n_L_object) (sc := defScope s_L_object) (by decide +kernel)) ?_ ?_ ?_ ?_) ?_
              · rintro g M' ⟨k, hk, rfl, t⟩
                exact ⟨k, rfl, k, hk, rfl, t⟩
              · rintro g M' ⟨k, hk, rfl, t⟩
                exact ⟨2 + k, by rw [Int.natCast_add]; rfl, by omega, by rw [rgD_len]; omega, rgD_noL, t⟩
              · rintro ds M2 ⟨hl, nd, t⟩
                exact ⟨by omega, nd, [], hl, rfl, by simp, t⟩
              · rintro ds es M2 ⟨as, _, _, _, t⟩
                rw [t.len.2, hh]
              · rintro ds es d M2 ⟨as, hl, rfl, ha, t⟩ hd s' H' C cl fp
                refine eg_taken 0 Ct hr rfl (RowAt.snoc (t.at h1)) (u_int (i := ((6 : Nat) : Int))) (by omega) fun k M' hk t' => ?_
                obtain ⟨M3, rfl, t3⟩ := t'.snoc (t.at h1).lt
                refine ⟨_, M3, rfl, rfl, rfl, t3.len.1, as ++ [(k : Int)], hl, by simp, fun a ha' => ?_, t.trans t3⟩
                rcases List.mem_append.mp ha' with h | h
                · exact ha a h
                · simp at h
                  omega
              · rintro ds es M2 ⟨as, hl, rfl, ha, t⟩ he
                rw [List.length_map] at he
                exact ⟨as, ⟨by omega, ha⟩, rfl, t⟩
              · rintro g M' ⟨as, ha, rfl, t⟩
                exact ⟨_, rfl, as, ha, rfl, t⟩
            · rintro g M2 g2 M3 ⟨rfl, rfl⟩ ⟨as, ha, rfl, t⟩
              exact ⟨_, _, rfl, rfl, .bank as, ha, rfl, t⟩
            · rintro g M' ⟨tt, ok, rfl, t⟩
              exact ⟨_, rfl, fin tt M' ok t⟩
          · refine bw_ifF (t_is (t_eq (u_var 1 rfl) u_int eqS_ii) (decide_eq_false (by omega))) ?_
            have hM : ∀ {k : Nat} {M' : Mem}, RowTo K j M M' → M'.lo.length = M.lo.length := fun t => t.len.1
            refine bw_tup3 (PL := fun gs M' => ∃ (a b : Nat) (M2 : Mem), a < 4 ∧ b < 3 ∧ RowTo K j M M2 ∧ gs = [.d (.int (1 + a)), .d (.int (1 + b)), .lo M2.lo.length] ∧ M' = ⟨M2.lo ++ [.lst []], M2.hi⟩) 3 4 5 sc_L_object.nd ?_ ?_
            · intro σ H0 A0 m0 e0 Q q
              refine ag_cons (P1 := fun g M' => ∃ a : Nat, a < 4 ∧ g = .d (.int (1 + a)) ∧ RowTo K j M M') (P2 := fun _ M1 gs M' => ∃ (b : Nat) (M2 : Mem), b < 3 ∧ RowTo K j M M2 ∧ gs = [.d (.int (1 + b)), .lo M2.lo.length] ∧ M' = ⟨M2.lo ++ [.lst []], M2.hi⟩)
                (eg_plus (P1 := fun g M' => ∃ k : Nat, k < 4 ∧ g = .d (.int k) ∧ RowTo K j M M') (eg_taken 0 Ct hr rfl a1 (u_int (i := ((4 : Nat) : Int))) (by omega) fun k M' hk t => ⟨k, hk, rfl, t1.trans t⟩) ?_) ?_ rfl σ H0 A0 m0 e0 Q ?_
              · rintro g M' ⟨k, hk, rfl, t⟩
                exact ⟨k, rfl, k, hk, rfl, t⟩
              · rintro g M2 ⟨a, ha, rfl, t2⟩
                intro σ H0 A0 m0 e0 Q q
                refine ag_cons (P1 := fun g M' => ∃ a : Nat, a < 3 ∧ g = .d (.int (1 + a)) ∧ RowTo K j M M') (P2 := fun _ M2 gs M' => gs = [.lo M2.lo.length] ∧ M' = ⟨M2.lo ++ [.lst []], M2.hi⟩)
                  (eg_plus (P1 := fun g M' => ∃ k : Nat, k < 3 ∧ g = .d (.int k) ∧ RowTo K j M M') (eg_taken 0 Ct hr rfl (t2.at h1) (u_int (i := ((3 : Nat) : Int))) (by omega) fun k M' hk t => ⟨k, hk, rfl, t2.trans t⟩) ?_) ?_ rfl σ H0 A0 m0 e0 Q ?_
                · rintro g M' ⟨k, hk, rfl, t⟩
                  exact ⟨k, rfl, k, hk, rfl, t⟩
                · rintro g M3 ⟨b, hb, rfl, t3⟩
                  exact ag_c (eg_newL (ul_lst ua_nil) (.inl rfl)) ag_nil
                · rintro vs H' A' gs M' ⟨g, gr, M3, rfl, ⟨b, hb, rfl, t3⟩, rfl, rfl⟩
                  exact q vs H' A' _ _ ⟨b, M3, hb, t3, rfl, rfl⟩
              · rintro vs H' A' gs M' ⟨g, gr, M3, rfl, ⟨a, ha, rfl, _⟩, b, M4, hb, t4, rfl, rfl⟩
                exact q vs H' A' _ _ ⟨a, b, M4, ha, hb, t4, rfl, rfl⟩
            · rintro gs M' ⟨a, b, M2, ha, hb, t2, rfl, rfl⟩
              refine ⟨_, _, _, rfl, ?_⟩
              have nl : ∀ {M3 : Mem} {x : D}, RowTo K j M M3 → (M3.lo ++ [x])[M2.lo.length]? = some x := fun {M3} {x} t => by
                rw [t2.len.1, ← t.len.1]
                exact get_last
              refine bw_for (PI' := fun ds M' => ds = rgD 0 (1 + a) ∧ M' = ⟨M2.lo ++ [.lst []], M2.hi⟩) 2 sc_L_object.nd (ig_rng Bt (eg_U (u_var 3 rfl)) ?_)
                (fun ds k Γ' M' => ds = rgD 0 (1 + a) ∧ (∃ g, Γ' = [.lo j, .d (.int i), g, .d (.int (1 + a)), .d (.int (1 + b)), .lo M2.lo.length, .un]) ∧ ∃ (M3 : Mem) (rows : List (List (Int × Int))), M' = ⟨M3.lo ++ [.lst (rows.map rowD)], M3.hi⟩ ∧ RowTo K j M M3 ∧ rows.length = k ∧ ∀ r ∈ rows, r.length = 1 + b ∧ ∀ p ∈ r, (0 ≤ p.1 ∧ p.1 < 1 + a) ∧ 0 ≤ p.2 ∧ p.2 ≤ 9) ?_ gok0 ?_ ?_ PassesOwn.never
              · rintro g M' ⟨rfl, rfl⟩
                exact ⟨1 + a, by rw [Int.natCast_add]; rfl, by omega, rfl, rfl⟩
              · rintro ds M' ⟨rfl, rfl⟩
                exact ⟨rfl, ⟨_, rfl⟩, M2, [], rfl, t2, rfl, by simp⟩
              · rintro ds k d Γ' M' hd ⟨rfl, ⟨g, rfl⟩, M3, rows, rfl, t3, hk, hrows⟩
                have kl := (rgD_at hd).1
                refine bw_append (k := M2.lo.length) (P := fun g M' => ∃ (M4 : Mem) (r : List (Int × Int)), g = .d (rowD r) ∧ M' = ⟨M4.lo ++ [.lst (rows.map rowD)], M4.hi⟩ ∧ RowTo K j M M4 ∧ r.length = 1 + b ∧ ∀ p ∈ r, (0 ≤ p.1 ∧ p.1 < 1 + a) ∧ 0 ≤ p.2 ∧ p.2 ≤ 9) (eg_var 5 rfl)
                  (eg_tupOf Bt (P1 := fun g M' => ∃ (M4 : Mem) (r : List (Int × Int)), g = .d (.lst (r.map fun p => tI [p.1, p.2])) ∧ M' = ⟨M4.lo ++ [.lst (rows.map rowD)], M4.hi⟩ ∧ RowTo K j M M4 ∧ r.length = 1 + b ∧ ∀ p ∈ r, (0 ≤ p.1 ∧ p.1 < 1 + a) ∧ 0 ≤ p.2 ∧ p.2 ≤ 9)
                    (eg_lc (i := 6) (PI' := fun ds M' => ds = rgD 0 (1 + b) ∧ M' = ⟨M3.lo ++ [.lst (rows.map rowD)], M3.hi⟩) (fun ds es M' => ∃ (M4 : Mem) (r : List (Int × Int)), ds = rgD 0 (1 + b) ∧ es = r.map (fun p => tI [p.1, p.2]) ∧ M' = ⟨M4.lo ++ [.lst (rows.map rowD)], M4.hi⟩ ∧ RowTo K j M M4 ∧ ∀ p ∈ r, (0 ≤ p.1 ∧ p.1 < 1 + a) ∧ 0 ≤ p.2 ∧ p.2 ≤ 9)
                      sc_L_object.nd (ig_rng Bt (eg_U (u_var 4 rfl)) ?_) (blkOk_by (N := n_L_object) (sc := defScope s_L_object) (by decide +kernel)) ?_ ?_ ?_ ?_) ?_) ?_ ⟨_, nl t3⟩
                · rintro g M' ⟨rfl, rfl⟩
                  exact ⟨1 + b, by rw [Int.natCast_add]; rfl, by omega, rfl, rfl⟩
                · rintro ds M' ⟨rfl, rfl⟩
                  exact ⟨by rw [rgD_len]; omega, rgD_noL, M3, [], rfl, rfl, rfl, t3, by simp⟩
                · rintro ds es M' ⟨M4, r, rfl, rfl, rfl, t, _⟩
                  rw [← hh]
                  exact t.len.2
                · rintro ds es d M' ⟨M4, r, rfl, rfl, rfl, t, hr2⟩ hd s' H' C cl fp
                  have at4 := ((t.at h1).snoc (x := .lst (rows.map rowD))).snoc (x := .lst (r.map fun p => tI [p.1, p.2]))
                  refine eg_tup2 (P1 := fun g M' => ∃ (k : Nat) (M5 : Mem), k < 1 + a ∧ g = .d (.int k) ∧ M' = ⟨(M5.lo ++ [.lst (rows.map rowD)]) ++ [.lst (r.map fun p => tI [p.1, p.2])], M5.hi⟩ ∧ RowTo K j M M5) (P2 := fun _ g M' => ∃ (k : Nat) (M5 : Mem), k < 4 ∧ g = .d (.int k) ∧ M' = ⟨(M5.lo ++ [.lst (rows.map rowD)]) ++ [.lst (r.map fun p => tI [p.1, p.2])], M5.hi⟩ ∧ RowTo K j M M5) ?_ ?_ ?_
                  · refine eg_taken (many := 1 + a) 0 Ct hr rfl at4 (u_is (u_var 3 rfl) (by rw [Int.natCast_add]; rfl)) (by omega) fun k M' hk t' => ?_
                    obtain ⟨M5, rfl, t5⟩ := RowTo.snoc (M := ⟨M4.lo ++ [.lst (rows.map rowD)], M4.hi⟩) ((t.at h1).snoc).lt t'
                    obtain ⟨M6, rfl, t6⟩ := RowTo.snoc (M := M4) (t.at h1).lt t5
                    exact ⟨k, M6, hk, rfl, rfl, t.trans t6⟩
                  · rintro g M' ⟨k, M5, hk, rfl, rfl, t5⟩
                    refine eg_taken 0 Ct hr rfl (((t5.at h1).snoc (x := .lst (rows.map rowD))).snoc (x := .lst (r.map fun (p : Int × Int) => tI [p.1, p.2]))) (u_int (i := ((4 : Nat) : Int))) (by omega) fun k' M' hk' t' => ?_
                    obtain ⟨M6, rfl, t6⟩ := RowTo.snoc (M := ⟨M5.lo ++ [.lst (rows.map rowD)], M5.hi⟩) ((t5.at h1).snoc).lt t'
                    obtain ⟨M7, rfl, t7⟩ := RowTo.snoc (M := M5) (t5.at h1).lt t6
                    exact ⟨k', M7, hk', rfl, rfl, t5.trans t7⟩
                  · rintro g M' g2 M'' ⟨k, M5, hk, rfl, rfl, t5⟩ ⟨k', M6, hk', rfl, rfl, t6⟩
                    refine ⟨_, _, rfl, rfl, _, ⟨M6.lo ++ [.lst (rows.map rowD)], M6.hi⟩, rfl, rfl, rfl, ?_, M6, r ++ [((k : Int), (k' : Int))], rfl, by simp [tI], rfl, t6, fun p hp => ?_⟩
                    · show (M6.lo ++ _).length = (M4.lo ++ _).length
                      rw [List.length_append, List.length_append, t6.len.1, t.len.1]
                    · rcases List.mem_append.mp hp with h | h
                      · exact hr2 p h
                      · simp at h
                        subst h
                        exact ⟨by simp; omega, by simp; omega⟩
                · rintro ds es M' ⟨M4, r, rfl, rfl, rfl, t, hr2⟩ he
                  rw [List.length_map, rgD_len] at he
                  exact ⟨M4, r, rfl, rfl, t, he, hr2⟩
                · rintro g M' ⟨M4, r, rfl, rfl, t, hl, hr2⟩
                  exact ⟨_, rfl, M4, r, rfl, rfl, t, hl, hr2⟩
                · rintro g2 M' ⟨M4, r, rfl, rfl, t, hl, hr2⟩
                  refine ⟨_, _, rfl, nl t, by rw [List.length_map]; omega, bw_nil ⟨rfl, ⟨_, rfl⟩, M4, rows ++ [r], ?_, t, by simp; omega, fun r' hr' => ?_⟩⟩
                  · show (⟨(M4.lo ++ [_]).set M2.lo.length _, M4.hi⟩ : Mem) = _
                    rw [t2.len.1, ← t.len.1]
                    simp
                  · rcases List.mem_append.mp hr' with h | h
                    · exact hrows r' h
                    · simp at h
                      subst h
                      exact ⟨hl, hr2⟩
              · rintro ds Γ' M' ⟨rfl, ⟨g, rfl⟩, M3, rows, rfl, t3, hl, hrows⟩
                rw [rgD_len] at hl
                refine bw_ret (P := fun g M' => g = .d (.tup [.str "table", .tup (rows.map rowD)]) ∧ M' = ⟨M3.lo ++ [.lst (rows.map rowD)], M3.hi⟩) (eg_U (u_tup (ua_cons u_str (ua_cons (u_tupOf Bt (u_var 5 (gv rfl (gP_lo (nl t3))))) ua_nil))) (noL_tup (noLs_cons rfl (noLs_cons (noL_tup (noLs_iff.mpr fun d hd => ?_)) rfl)))) ?_
                · obtain ⟨r, _, rfl⟩ := List.mem_map.mp hd
                  exact rowD_noL r
                · rintro g M' ⟨rfl, rfl⟩
                  refine ⟨_, rfl, _, rfl, .table rows, ⟨by omega, 1 + b, by omega, fun r hr' => ⟨(hrows r hr').1, fun p hp => ?_⟩⟩, rfl, ?_⟩
                  · have := (hrows r hr').2 p hp
                    exact ⟨by rw [hl]; omega, by omega⟩
                  · show RowTo K j M ⟨(M3.lo ++ [_]).take M.lo.length, []⟩
                    rw [← t3.len.1, List.take_left]
                    have : (⟨M3.lo, []⟩ : Mem) = M3 := by
                      rw [← hh, ← t3.len.2]
                    rw [this]
                    exact t3
  · rintro gs M Pq n ⟨j, rfl, _, _, h, _⟩
    exact h
end
end P6
namespace P6
open PySem PySem.Spec PyProof.Rows L2 H6
/-! ### dicts that are only read -/
def flatD : D → Bool
  | .lst ds => noLs ds
  | d => noL d
theorem Rep.flat {H : Hp} {p : Addr} {kvs : List (Key × V)} {o : HO} (hp : H p = some (.dK kvs)) : ∀ {d : D} {v : V}, flatD d = true → Rep H d v → Rep (upd H p o) d v := fun {d v} n r => by
  have ts : Tsm H (upd H p o) := Tsm.upd hp fun _ z => nomatch z
  cases d with
  | lst ds =>
    obtain ⟨a, xs, h1, h2, h3⟩ := r
    exact ⟨a, xs, h1, by rw [upd_ne (ne_of h2 hp fun z => nomatch z)]; exact h2, Reps.monoT ts n h3⟩
  | _ => exact Rep.monoT ts n r
theorem Reps.flat {H : Hp} {p : Addr} {kvs : List (Key × V)} {o : HO} (hp : H p = some (.dK kvs)) : ∀ {ds : List D} {vs : List V}, ds.all flatD = true → Reps H ds vs → Reps (upd H p o) ds vs
  | [], _, _, h => h
  | _ :: _, _, n, ⟨v, r, h1, h2, h3⟩ => by
    simp only [List.all_cons, Bool.and_eq_true] at n
    exact ⟨v, r, h1, Rep.flat hp n.1 h2, Reps.flat hp n.2 h3⟩
theorem merge_kz : ∀ {ks : List Str} {vs : List V} {acc : List (Key × V)}, ks.Nodup → ks.length = vs.length → (∀ k ∈ ks, (acc.any fun kv => decide (kv.1 = Sum.inr k)) = false) → mergeK acc (kz ks vs) = acc ++ kz ks vs
  | [], [], acc, _, _, _ => by simp [mergeK, kz]
  | [], _ :: _, _, _, h, _ => nomatch h
  | _ :: _, [], _, _, h, _ => nomatch h
  | k :: ks, v :: vs, acc, nd, hl, ha => by
    have h0 := ha k List.mem_cons_self
    have e : putK acc (Sum.inr k) v = acc ++ [(Sum.inr k, v)] := by
      unfold putK
      rw [h0, if_neg Bool.false_ne_true]
    show mergeK (putK acc (Sum.inr k) v) (kz ks vs) = acc ++ ((Sum.inr k, v) :: kz ks vs)
    rw [e, merge_kz (List.nodup_cons.mp nd).2 (by simpa using hl)]
    · simp
    · intro k' hk'
      rw [List.any_append, ha k' (List.mem_cons_of_mem _ hk')]
      have : ¬ k = k' := fun z => (List.nodup_cons.mp nd).1 (z ▸ hk')
      simp [this]
def UP (X : Cx) (pos : Pos) (keys : List (Option Expr)) (values : List Expr) (Γ : List G) (ks : List Str) (ds : List D) : Prop := ∃ trs, PPs X pos keys values trs ∧ ∀ σ H, EnvR H Γ σ → ∀ Q : List (V × V) → Hp → Prop, (∀ vs H', Same H H' → Reps H' ds vs → Q ((kz ks vs).map fun kv => (kV kv.1, kv.2)) H') → tPairs trs σ H Q
section
variable {X : Cx} {Γ : List G} {a b c e v : Expr} {pos p cpos apos : Pos} {keys : List (Option Expr)} {values : List Expr} {ks : List Str} {ds : List D} {d x : D} {s : Str}
theorem up_nil : UP X pos [] [] Γ [] [] := ⟨_, pps_nil, fun σ H e Q q => q [] H (Same.refl H) rfl⟩
theorem up_cons {k : Nat} {kp : Pos} (hv : U X v Γ d) (h : UP X pos keys values Γ ks ds) : UP X pos (some (.Constant (.str s) k kp) :: keys) (v :: values) Γ (s :: ks) (d :: ds) := by
  obtain ⟨t, h1, h2⟩ := hv
  obtain ⟨trs, h3, h4⟩ := h
  refine ⟨_, pps_cons pe_str h1 h3, fun σ H e Q q => h2 σ H e _ fun y H1 e1 r1 => h4 σ H1 (e.mono e1) _ fun vs H2 e2 r2 => ?_⟩
  exact q (y :: vs) H2 (e1.trans e2) ⟨y, vs, rfl, r1.mono e2, r2⟩
theorem u_dic (h : UP X pos keys values Γ ks ds) (hall : keys.all (·.isSome) = true := by rfl) (hl : keys.length = values.length := by rfl) (h0 : keys ≠ [] := by exact fun z => nomatch z) (h15 : keys.length ≤ 15 := by decide) (hk : ks.length = ds.length := by rfl) (nd : ks.Nodup := by decide +kernel) (hf : ds.all flatD = true := by rfl) (hk2 : ks.length ≤ 15 := by decide) : U X (.Dict keys values pos) Γ (.dic ks ds) := by
  obtain ⟨trs, h1, h2⟩ := h
  refine ⟨_, pe_disp h1 hall hl h0 h15, fun σ H e Q q => fun p hp => h2 σ _ (e.mono (Same.new hp)) _ fun vs H1 e1 r1 => ?_⟩
  have hp1 : H1 p = some (.dK []) := e1 _ _ upd_same
  refine ⟨hp1, kz ks vs, rfl, Nat.le_trans kz_length hk2, ?_⟩
  have em := merge_kz (acc := []) nd (by rw [hk, r1.length]) (fun _ _ => rfl)
  rw [em]
  refine q _ _ (fun b o hb => ?_) ⟨p, vs, rfl, upd_same, hk, Reps.flat hp1 hf r1⟩
  rw [upd_ne (ne_of_none hb hp)]
  exact e1 _ _ (by rw [upd_ne (ne_of_none hb hp)]; exact hb)
theorem val_kz_none {k : Str} : ∀ {ks : List Str} {vs : List V}, ¬ k ∈ ks → valV (kz ks vs) (.inr k) = none
  | [], _, _ => rfl
  | _ :: _, [], _ => rfl
  | k' :: ks, v' :: vs, h => by
    have hne : ¬ (Sum.inr k' : Key) = .inr k := fun z => by cases z; exact h List.mem_cons_self
    show valV ((Sum.inr k', v') :: kz ks vs) (.inr k) = none
    rw [valV_neg hne]
    exact val_kz_none fun z => h (List.mem_cons_of_mem _ z)
/-- d.get(k, x), there -/
theorem u_getT (hu : X.A.units + 1 < cLine) (ha : U X a Γ (.dic ks ds)) (hb : U X b Γ (.str s)) (hc : U X c Γ x) (j : Nat) (m : M2 X a "get" apos b c cpos) (hk : ks[j]? = some s := by rfl) (hd : ds[j]? = some d := by rfl) (nd : ks.Nodup := by decide +kernel) : U X (.Call (.Attribute a "get" apos) [b, c] [] cpos) Γ d := by
  obtain ⟨ta, h1, h2⟩ := ha
  obtain ⟨tb, h3, h4⟩ := hb
  obtain ⟨tc, h5, h6⟩ := hc
  refine ⟨_, pe_dget2 hu h1 h3 h5 m, fun σ H e Q q => h2 σ H e _ fun v H1 e1 r1 => ?_⟩
  obtain ⟨l, vs, k1, k2, k3, k4⟩ := r1
  refine ⟨l, k1, .inl ⟨_, .inl k2⟩, h4 σ H1 (e.mono e1) _ fun u H2 e2 r2 => h6 σ H2 ((e.mono e1).mono e2) _ fun w H3 e3 r3 => ?_⟩
  have e23 := e2.trans e3
  obtain ⟨y, h7, h8⟩ := (k4.mono e23).get hd
  cases r2
  have := DGet.k (k := Sum.inr s) (e23 _ _ k2)
  rw [find_kz nd hk h7] at this
  exact ⟨_, this, q y H3 (e1.trans e23) h8⟩
theorem u_getF (hu : X.A.units + 1 < cLine) (ha : U X a Γ (.dic ks ds)) (hb : U X b Γ (.str s)) (hc : U X c Γ x) (m : M2 X a "get" apos b c cpos) (hk : ¬ s ∈ ks := by decide +kernel) : U X (.Call (.Attribute a "get" apos) [b, c] [] cpos) Γ x := by
  obtain ⟨ta, h1, h2⟩ := ha
  obtain ⟨tb, h3, h4⟩ := hb
  obtain ⟨tc, h5, h6⟩ := hc
  refine ⟨_, pe_dget2 hu h1 h3 h5 m, fun σ H e Q q => h2 σ H e _ fun v H1 e1 r1 => ?_⟩
  obtain ⟨l, vs, k1, k2, k3, k4⟩ := r1
  refine ⟨l, k1, .inl ⟨_, .inl k2⟩, h4 σ H1 (e.mono e1) _ fun u H2 e2 r2 => h6 σ H2 ((e.mono e1).mono e2) _ fun w H3 e3 r3 => ?_⟩
  have e23 := e2.trans e3
  cases r2
  have := DGet.k (k := Sum.inr s) (e23 _ _ k2)
  rw [val_kz_none hk] at this
  exact ⟨_, this, q w H3 (e1.trans e23) r3⟩
end
/-! ### the law's list of calls -/
def rCalls (ds : List D) (Py : List D → Prop) : Prop := ∃ t : Thing, ds = [t.d] ∧ t.ok ∧ Py = fun ys => 0 < ys.length ∧ ys.length ≤ 1000 ∧ ∀ c ∈ ys, CallOk t c
theorem callOk_word {t : Thing} {c : D} (h : CallOk t c) : wordD c := by
  cases h <;> first
    | exact ⟨_, [], rfl, by decide +kernel⟩
    | exact ⟨_, [_], rfl, by decide +kernel⟩
    | exact ⟨_, [_, _, _], rfl, by decide +kernel⟩
theorem calls_of {t : Thing} {ds : List D} (h0 : 0 < ds.length) (h1 : ds.length ≤ 1000) (h : ∀ c ∈ ds, CallOk t c) (es : List D) (p : es.Perm ds) : 0 < es.length ∧ es.length ≤ 1000 ∧ ∀ c ∈ es, CallOk t c :=
  ⟨by rw [p.length_eq]; exact h0, by rw [p.length_eq]; exact h1, fun c hc => h c (p.mem_iff.mp hc)⟩
theorem bankD_ok {as : List Int} {n : Nat} (hn : as.length = n) (h : n ≤ 3) : ∀ c ∈ bankD n, CallOk (.bank as) c := by
  intro c hc
  unfold bankD at hc
  rcases List.mem_append.mp hc with hc | hc
  · obtain ⟨d, hd, rfl⟩ := List.mem_map.mp hc
    obtain ⟨i, hi, rfl⟩ := rgD_mem hd
    rw [Int.zero_add]
    exact .blook (a := i) (by omega)
  · unfold blkO at hc
    obtain ⟨l, hl, hc⟩ := List.mem_flatten.mp hc
    obtain ⟨a, ha, rfl⟩ := List.mem_map.mp hl
    unfold blkI at hc
    obtain ⟨l, hl, hc⟩ := List.mem_flatten.mp hc
    obtain ⟨b, hb, rfl⟩ := List.mem_map.mp hl
    have ha := List.mem_range.mp ha
    have hb := List.mem_range.mp hb
    by_cases e : a = b
    · rw [if_pos e] at hc
      cases hc
    · rw [if_neg e] at hc
      simp only [mv, List.mem_cons, List.not_mem_nil, or_false] at hc
      rcases hc with rfl | rfl | rfl <;> exact .bmove (by omega) (by omega) e (by decide) (by decide)
def segD (w : Str) (lo : Int) (n : Nat) : List D := (rgD lo n).map (cd1 w)
theorem segD_mem {w : Str} {lo : Int} {n : Nat} {c : D} (h : c ∈ segD w lo n) : ∃ k : Int, lo ≤ k ∧ k < lo + n ∧ c = c1 w k := by
  obtain ⟨d, hd, rfl⟩ := List.mem_map.mp h
  obtain ⟨i, hi, rfl⟩ := rgD_mem hd
  exact ⟨lo + i, by omega, by omega, rfl⟩
theorem segD_len {w : Str} {lo : Int} {n : Nat} : (segD w lo n).length = n := by unfold segD; rw [List.length_map, rgD_len]
theorem cd1_noL {w : Str} {lo : Int} {n : Nat} : ∀ d ∈ rgD lo n, noL (cd1 w d) = true := fun d hd => by
  obtain ⟨i, _, e⟩ := rgD_mem hd
  rw [e]
  rfl
end P6
namespace P6
open PySem PySem.Spec PyProof.Rows L2 H6
section
variable {P : Program} {w : World} {K : PySem.W.Frag} {mg : Str → Option Value} {base : Heap}
def fndD (ws : List Str) (lo : Int) (n k : Nat) : List D := ((ws.take k).map fun x => segD x lo n).flatten
theorem fndD_succ {ws : List Str} {lo : Int} {n k : Nat} {x : Str} (h : ws[k]? = some x) : fndD ws lo n (k + 1) = fndD ws lo n k ++ segD x lo n := by
  unfold fndD
  rw [List.take_add_one, h, List.map_append, List.flatten_append]
  simp
theorem fndD_len {ws : List Str} {lo : Int} {n : Nat} : ∀ k, (fndD ws lo n k).length ≤ n * k
  | 0 => by simp [fndD]
  | k + 1 => by
    have h := fndD_len (ws := ws) (lo := lo) (n := n) k
    cases e : ws[k]? with
    | none =>
      have : fndD ws lo n (k + 1) = fndD ws lo n k := by
        unfold fndD
        rw [List.take_add_one, e]
        simp
      rw [this, Nat.mul_add]
      omega
    | some x =>
      rw [fndD_succ e, List.length_append, segD_len, Nat.mul_add]
      omega
theorem fndD_mem {ws : List Str} {lo : Int} {n k : Nat} {c : D} (h : c ∈ fndD ws lo n k) : ∃ x ∈ ws, c ∈ segD x lo n := by
  unfold fndD at h
  obtain ⟨l, h1, h2⟩ := List.mem_flatten.mp h
  obtain ⟨x, h3, rfl⟩ := List.mem_map.mp h1
  exact ⟨x, List.mem_of_mem_take h3, h2⟩
theorem cal_L_calls (S : Ctx K mg) : Cal P w K mg base "_law_calls" p_L_calls 1 (spF rCalls) := by
  obtain ⟨fd, F⟩ := F_L_calls S
  have Bt := bs_of S
  refine ⟨_, fd, fn_F F sc_L_calls ?_ ?_, g_L_calls S, F.kp, bd_L_calls F⟩
  · rintro ds Py ⟨t, rfl, _⟩
    rfl
  · rintro cdv A outer s H E hr ds Py ⟨t, rfl, ok, rfl⟩
    have hu := hu_of hr
    -- the words' way
    have gen : ∀ (nm : Str) (pre : List D) (m lo : Int) (n j : Nat) (ws : List Str) (mo : List D), t.d = .tup (.str nm :: pre ++ [.int m]) → ((nm == ("bank" : Str)) = false ∧ (nm == ("table" : Str)) = false) → lo = (if decide (nm = ("counter" : Str)) = true then 1 else 0) → (m - lo).toNat = n → n ≤ 5 → (-1 ≤ m ∧ m ≤ 10) → (0 ≤ lo ∧ lo ≤ 1) →
        [("counter" : Str), "register", "stack", "queue", "set", "agree"][j]? = some nm → [D.lst [.str "add"], .lst [.str "put", .str "trade"], .lst [.str "push"], .lst [.str "enter"], .lst [.str "add", .str "drop", .str "has"], .lst [.str "decide"]][j]? = some (.lst (ws.map .str)) → ws.length ≤ 3 → mo.length ≤ 1 → 0 < (fndD ws lo n ws.length ++ mo).length →
        ((∃ i : Nat, [("counter" : Str), "register", "stack", "queue"][i]? = some nm ∧ [D.lst [c0 "look"], .lst [c0 "look"], .lst [c0 "pop"], .lst [c0 "leave"]][i]? = some (.lst mo)) ∨ (¬ nm ∈ [("counter" : Str), "register", "stack", "queue"] ∧ mo = [])) → (∀ c ∈ fndD ws lo n ws.length ++ mo, CallOk t c) →
        B (cX P w K mg base n_L_calls "_law_calls" (defScope s_L_calls) (He.ga K "_law_calls") cdv A outer s H E) (defBody s_L_calls) ([t.d].map .d ++ List.replicate (n_L_calls.length - 1) .un) (.retF fun ys => 0 < ys.length ∧ ys.length ≤ 1000 ∧ ∀ c ∈ ys, CallOk t c) := by
      intro nm pre m lo n j ws mo e1 e2 e3 e4 hn hm hlo e5 e6 hws hmo h0 e7 hok
      rw [e1]
      have nb : ¬ nm = ("bank" : Str) := fun z => by have := e2.1; rw [z] at this; exact absurd this (by decide +kernel)
      have nt : ¬ nm = ("table" : Str) := fun z => by have := e2.2; rw [z] at this; exact absurd this (by decide +kernel)
      have l1 : ∀ k, k ≤ 3 → (fndD ws lo n k).length ≤ 15 := fun k hk => Nat.le_trans (fndD_len k) (by have := Nat.mul_le_mul hn hk; omega)
      refine b_set 1 sc_L_calls.nd (d := .str nm) (u_ixT (u_var 0 rfl) u_int atI_0) ?_
      refine b_ifF (t_is (t_eq (u_var 1 rfl) u_str rfl) (decide_eq_false nb)) (b_ifF (t_is (t_eq (u_var 1 rfl) u_str rfl) (decide_eq_false nt)) ?_)
      refine b_set 6 sc_L_calls.nd (u_dget hu (u_dic (up_cons (u_lst (ua_cons u_str ua_nil)) (up_cons (u_lst (ua_cons u_str (ua_cons u_str ua_nil))) (up_cons (u_lst (ua_cons u_str ua_nil)) (up_cons (u_lst (ua_cons u_str ua_nil)) (up_cons (u_lst (ua_cons u_str (ua_cons u_str (ua_cons u_str ua_nil)))) (up_cons (u_lst (ua_cons u_str ua_nil)) up_nil))))))) (u_var 1 rfl) j e5 e6) ?_
      refine b_par3 7 8 2 sc_L_calls.nd (x := .int lo) (y := .int m) (z := .lst []) (ua_cons (u_is (u_intB Bt (u_eq (u_var 1 rfl) u_str rfl)) (by rw [e3])) (ua_cons (u_ixT (u_var 0 rfl) (u_neg u_int) (by rw [show (D.str nm :: pre ++ [.int m]) = ((D.str nm :: pre) ++ [.int m]) from rfl]; exact atI_last _ _)) (ua_cons (u_lst ua_nil) ua_nil))) ?_
      refine b_for 9 (fun k => [.d (.tup (.str nm :: pre ++ [.int m])), .d (.str nm), .d (.lst (fndD ws lo n k)), .un, .un, .un, .d (.lst (ws.map .str)), .d (.int lo), .d (.int m), .un, .un]) rfl sc_L_calls.nd (ui_lst (u_var 6 rfl)) (fun k d hd => ?_) ?_ PassesOwn.never
      · obtain ⟨x, hx, _, rfl⟩ := map_get hd
        have hk : k < ws.length := (List.getElem?_eq_some_iff.mp hx).1
        refine b_set 2 sc_L_calls.nd (d := .lst (fndD ws lo n (k + 1))) (u_is (u_catL (zs := segD x lo n) ?_ (u_var 2 rfl) (u_lcM (i := 3) (cd1 x) sc_L_calls.nd (ui_rng2 Bt (u_var 7 rfl) (u_var 8 rfl) e4 (by omega) (by omega)) (blkOk_by (N := n_L_calls) (sc := defScope s_L_calls) (by decide +kernel)) (by rw [rgD_len]; exact small_lt (by omega)) cd1_noL
          fun d hd s' H' C cl fp => u_tup (ua_cons (u_var 9 rfl) (ua_cons (u_var 3 rfl) ua_nil)))) (by rw [fndD_succ hx])) (b_nilF [9])
        have := l1 k (by omega)
        rw [segD_len]
        exact small_le' (by omega)
      · rw [List.length_map]
        refine b_set 10 sc_L_calls.nd (u_dic (ds := [.lst [c0 "look"], .lst [c0 "look"], .lst [c0 "pop"], .lst [c0 "leave"]]) (up_cons (u_lst (ua_cons (u_tup (ua_cons u_str ua_nil)) ua_nil)) (up_cons (u_lst (ua_cons (u_tup (ua_cons u_str ua_nil)) ua_nil)) (up_cons (u_lst (ua_cons (u_tup (ua_cons u_str ua_nil)) ua_nil)) (up_cons (u_lst (ua_cons (u_tup (ua_cons u_str ua_nil)) ua_nil)) up_nil))))) ?_
        have hl := l1 ws.length hws
        refine b_retSorted Bt (u_catL (ds := fndD ws lo n ws.length) (zs := mo) (small_le' (by omega)) (u_var 2 rfl) ?_) (fun d hd => callOk_word (hok d hd)) (fun es p => calls_of h0 (by rw [List.length_append]; omega) hok es p)
        rcases e7 with ⟨i, h1, h2⟩ | ⟨h1, rfl⟩
        · exact u_getT hu (u_var 10 rfl) (u_var 1 rfl) (u_lst ua_nil) i ⟨rfl, rfl, rfl, rfl⟩ h1 h2
        · exact u_getF hu (u_var 10 rfl) (u_var 1 rfl) (u_lst ua_nil) ⟨rfl, rfl, rfl, rfl⟩ h1
    cases t with
    | counter m =>
      have ok : 2 ≤ m ∧ m ≤ 5 := ok
      refine gen "counter" [] m 1 (m - 1).toNat 0 ["add"] [c0 "look"] rfl (by decide +kernel) (by decide +kernel) rfl (by omega) (by omega) (by omega) rfl rfl (by decide) (by decide) (by simp) (.inl ⟨0, rfl, rfl⟩) fun c hc => ?_
      rcases List.mem_append.mp hc with hc | hc
      · obtain ⟨x, hx, hc⟩ := fndD_mem hc
        obtain ⟨k, h1, h2, rfl⟩ := segD_mem hc
        simp at hx
        subst hx
        exact .cadd h1 (by omega)
      · simp at hc
        subst hc
        exact .clook
    | register m =>
      have ok : 2 ≤ m ∧ m ≤ 5 := ok
      refine gen "register" [] m 0 m.toNat 1 ["put", "trade"] [c0 "look"] rfl (by decide +kernel) (by decide +kernel) (by omega) (by omega) (by omega) (by omega) rfl rfl (by decide) (by decide) (by simp) (.inl ⟨1, rfl, rfl⟩) fun c hc => ?_
      rcases List.mem_append.mp hc with hc | hc
      · obtain ⟨x, hx, hc⟩ := fndD_mem hc
        obtain ⟨k, h1, h2, rfl⟩ := segD_mem hc
        simp at hx
        rcases hx with rfl | rfl
        · exact .rput h1 (by omega)
        · exact .rtrade h1 (by omega)
      · simp at hc
        subst hc
        exact .rlook
    | stack r m =>
      have ok : (1 ≤ r ∧ r ≤ 3) ∧ 1 ≤ m ∧ m ≤ 3 := ok
      refine gen "stack" [.int r] m 0 m.toNat 2 ["push"] [c0 "pop"] rfl (by decide +kernel) (by decide +kernel) (by omega) (by omega) (by omega) (by omega) rfl rfl (by decide) (by decide) (by simp) (.inl ⟨2, rfl, rfl⟩) fun c hc => ?_
      rcases List.mem_append.mp hc with hc | hc
      · obtain ⟨x, hx, hc⟩ := fndD_mem hc
        obtain ⟨k, h1, h2, rfl⟩ := segD_mem hc
        simp at hx
        subst hx
        exact .spush h1 (by omega)
      · simp at hc
        subst hc
        exact .spop
    | queue r m =>
      have ok : (1 ≤ r ∧ r ≤ 3) ∧ 1 ≤ m ∧ m ≤ 3 := ok
      refine gen "queue" [.int r] m 0 m.toNat 3 ["enter"] [c0 "leave"] rfl (by decide +kernel) (by decide +kernel) (by omega) (by omega) (by omega) (by omega) rfl rfl (by decide) (by decide) (by simp) (.inl ⟨3, rfl, rfl⟩) fun c hc => ?_
      rcases List.mem_append.mp hc with hc | hc
      · obtain ⟨x, hx, hc⟩ := fndD_mem hc
        obtain ⟨k, h1, h2, rfl⟩ := segD_mem hc
        simp at hx
        subst hx
        exact .qenter h1 (by omega)
      · simp at hc
        subst hc
        exact .qleave
    | set m =>
      have ok : 2 ≤ m ∧ m ≤ 5 := ok
      have hp : 0 < (fndD ["add", "drop", "has"] 0 m.toNat 3 ++ []).length := by
        rw [List.append_nil, fndD_succ (x := "has") rfl, List.length_append, segD_len]
        omega
      refine gen "set" [] m 0 m.toNat 4 ["add", "drop", "has"] [] rfl (by decide +kernel) (by decide +kernel) (by omega) (by omega) (by omega) (by omega) rfl rfl (by decide) (by decide) hp (.inr ⟨by decide +kernel, rfl⟩) fun c hc => ?_
      rw [List.append_nil] at hc
      obtain ⟨x, hx, hc⟩ := fndD_mem hc
      obtain ⟨k, h1, h2, rfl⟩ := segD_mem hc
      simp at hx
      rcases hx with rfl | rfl | rfl
      · exact .eadd h1 (by omega)
      · exact .edrop h1 (by omega)
      · exact .ehas h1 (by omega)
    | agree m =>
      have ok : 2 ≤ m ∧ m ≤ 5 := ok
      have hp : 0 < (fndD ["decide"] 0 m.toNat 1 ++ []).length := by
        rw [List.append_nil, fndD_succ (x := "decide") rfl, List.length_append, segD_len]
        omega
      refine gen "agree" [] m 0 m.toNat 5 ["decide"] [] rfl (by decide +kernel) (by decide +kernel) (by omega) (by omega) (by omega) (by omega) rfl rfl (by decide) (by decide) hp (.inr ⟨by decide +kernel, rfl⟩) fun c hc => ?_
      rw [List.append_nil] at hc
      obtain ⟨x, hx, hc⟩ := fndD_mem hc
      obtain ⟨k, h1, h2, rfl⟩ := segD_mem hc
      simp at hx
      subst hx
      exact .adec h1 (by omega)
    | table rows =>
      obtain ⟨hl, wd, hw, hrow⟩ := ok
      obtain ⟨r0, hr0⟩ : ∃ r0, rows[0]? = some r0 := ⟨_, List.getElem?_eq_getElem (by omega)⟩
      have hlr := (hrow r0 (List.mem_of_getElem? hr0)).1
      have hlen : r0.length ≤ 4 := by omega
      refine b_set 1 sc_L_calls.nd (d := .str "table") (u_ixT (u_var 0 rfl) u_int) (b_ifF (t_is (t_eq (u_var 1 rfl) u_str rfl) (by decide +kernel)) (b_ifTF (t_is (t_eq (u_var 1 rfl) u_str rfl) (by decide +kernel)) (b_retF (ds := segD "do" 0 r0.length) (uf_lcM (i := 3) (cd1 "do") sc_L_calls.nd (ui_rng1 Bt (u_is (u_len Bt (u_ixT (u_ixT (u_var 0 rfl) u_int) u_int (d := rowD r0) ?_)) ?_) (by omega)) (blkOk_by (N := n_L_calls) (sc := defScope s_L_calls) (by decide +kernel)) (by rw [rgD_len]; exact small_lt (by omega)) cd1_noL
        fun d hd s' H' C cl fp => u_tup (ua_cons u_str (ua_cons (u_var 3 rfl) ua_nil))) ?_)))
      · exact atI_nat (j := 0) (by rw [List.getElem?_map, hr0]; rfl)
      · rw [List.length_map]
      · refine ⟨by rw [segD_len]; omega, by rw [segD_len]; omega, fun c hc => ?_⟩
        obtain ⟨d, hd, rfl⟩ := List.mem_map.mp hc
        obtain ⟨i, hi, rfl⟩ := rgD_mem hd
        rw [Int.zero_add]
        exact .tdo hr0 hi
    | bank as =>
      have ok : (2 ≤ as.length ∧ as.length ≤ 3) ∧ ∀ a ∈ as, 0 ≤ a ∧ a ≤ 5 := ok
      obtain ⟨n, hn⟩ : ∃ n, as.length = n := ⟨_, rfl⟩
      rw [hn] at ok
      have hz : n < 2 ^ 62 := by omega
      have lT : ∀ {X : Cx} {Γ : List G} {e : Expr} {p1 p2 : Pos}, U X (.Call (.Name "len" p1) [e] [] p2) Γ (.int (as.map D.int).length) → U X (.Call (.Name "len" p1) [e] [] p2) Γ (.int (n : Nat)) := fun h => u_is h (by rw [List.length_map, hn])
      have l0 : ((rgD 0 n).map (cd1 "look")).length = n := by rw [List.length_map, rgD_len]
      have iT : atI [D.str "bank", tI as] 1 = some (tI as) := rfl
      refine b_set 1 sc_L_calls.nd (d := .str "bank") (u_ixT (u_var 0 rfl) u_int) (b_ifTF (t_is (t_eq (u_var 1 rfl) u_str rfl) (by decide +kernel)) ?_)
      refine b_setC 2 (uf_lcM (i := 3) (cd1 "look") sc_L_calls.nd (ui_rng1 Bt (lT (u_len Bt (u_ixT (u_var 0 rfl) u_int iT))) hz) (blkOk_by (N := n_L_calls) (sc := defScope s_L_calls) (by decide +kernel)) (by rw [rgD_len]; exact small_lt (by omega)) cd1_noL fun d hd s' H' C cl fp => u_tup (ua_cons u_str (ua_cons (u_var 3 rfl) ua_nil))) ?_ (sw_true rfl rfl rfl (by decide +kernel))
      have lo1 : ∀ i j, i ≤ 3 → j ≤ 3 → ((rgD 0 n).map (cd1 "look") ++ blkO n i ++ blkI i j).length ≤ 60 := fun i j hi hj => by
        have h1 := blkO_len n i
        have h2 := blkI_len i j
        have h3 : 3 * n * i ≤ 9 * 3 := Nat.mul_le_mul (by omega) hi
        rw [List.length_append, List.length_append, l0]
        omega
      refine b_for 4 (fun i => [.d (.tup [.str "bank", tI as]), .d (.str "bank"), .d (.lst ((rgD 0 n).map (cd1 "look") ++ blkO n i)), .un, .un, .un, .un, .un, .un, .un, .un]) (by simp [blkO]; rfl) sc_L_calls.nd (ui_rng1 Bt (lT (u_len Bt (u_ixT (u_var 0 rfl) u_int iT))) hz) (fun i d hd => ?_) ?_ PassesOwn.never
      · obtain ⟨hi, rfl⟩ := rgD_at hd
        rw [Int.zero_add]
        refine b_for 5 (fun j => [.d (.tup [.str "bank", tI as]), .d (.str "bank"), .d (.lst ((rgD 0 n).map (cd1 "look") ++ blkO n i ++ blkI i j)), .un, .d (.int i), .un, .un, .un, .un, .un, .un]) (by simp [blkI]) sc_L_calls.nd (ui_rng1 Bt (lT (u_len Bt (u_ixT (u_var 0 rfl) u_int iT))) hz) (fun j d hd => ?_) ?_ PassesOwn.never
        · obtain ⟨hj, rfl⟩ := rgD_at hd
          rw [Int.zero_add]
          by_cases e : i = j
          · subst e
            refine b_ifF (t_is (t_ne (u_var 4 rfl) (u_var 5 rfl) rfl) (by simp)) ?_
            rw [blkI_succ, if_pos rfl, List.append_nil]
            exact b_nilF [5]
          · refine b_ifTN (t_is (t_ne (u_var 4 rfl) (u_var 5 rfl) rfl) (by simp; omega)) (b_set 2 sc_L_calls.nd (u_catL (zs := mv i j) ?_ (u_var 2 rfl) (u_lc (i := 3) (mv i j) sc_L_calls.nd (ui_lst (u_lst (ua_cons u_int (ua_cons u_int (ua_cons u_int ua_nil))))) (blkOk_by (N := n_L_calls) (sc := defScope s_L_calls) (by decide +kernel)) rfl (by decide +kernel) rfl ?_)) b_nil) ?_
            · have := lo1 i j (by omega) (by omega)
              exact Nat.le_of_lt (small_lt (by rw [show (mv i j).length = 3 from rfl]; omega))
            · intro k d y h1 h2 s' H' C cl fp
              match k, h1, h2 with
              | 0, h1, h2 => cases h1; cases h2; exact u_tup (ua_cons u_str (ua_cons (u_var 4 rfl) (ua_cons (u_var 5 rfl) (ua_cons (u_var 3 rfl) ua_nil))))
              | 1, h1, h2 => cases h1; cases h2; exact u_tup (ua_cons u_str (ua_cons (u_var 4 rfl) (ua_cons (u_var 5 rfl) (ua_cons (u_var 3 rfl) ua_nil))))
              | 2, h1, h2 => cases h1; cases h2; exact u_tup (ua_cons u_str (ua_cons (u_var 4 rfl) (ua_cons (u_var 5 rfl) (ua_cons (u_var 3 rfl) ua_nil))))
              | k + 3, h1, h2 => simp at h1
            · rw [blkI_succ, if_neg e, ← List.append_assoc]
              exact b_nilF [5]
        · rw [rgD_len, blkO_succ, ← List.append_assoc]
          exact b_nilF [4]
      · rw [rgD_len]
        have h2 := lo1 n 0 (by omega) (by omega)
        have hb : (bankD n).length ≤ 60 := by
          show ((rgD 0 n).map (cd1 "look") ++ blkO n n).length ≤ 60
          rw [List.length_append] at h2
          omega
        exact b_retSorted Bt (u_var 2 rfl) (fun d hd => callOk_word (bankD_ok hn (by omega) d hd)) (fun es p => calls_of (ds := bankD n) (by unfold bankD; rw [List.length_append, l0]; omega) (by omega) (bankD_ok hn (by omega)) es p)
end
end P6
namespace P6
open PySem PySem.Spec PyProof.Rows L2 H6
section
variable {P : Program} {w : World} {K : PySem.W.Frag} {mg : Str → Option Value} {base : Heap}
def rPlans (K : PySem.W.Frag) (gs : List GW) (M : Mem) (P : D → Mem → Prop) (n : Nat) : Prop := ∃ (j : Nat) (t : Thing), gs = [.lo j, .d t.d, .d (.int ((4 : Nat) : Int)), .d (.int ((4 : Nat) : Int))] ∧ t.ok ∧ RowAt K j M ∧ M.hi = [] ∧ M.lo.length ≤ 4 ∧ P = fun d M' => ∃ ps, d = plansD ps ∧ PlansOk t ps ∧ (∀ p ∈ ps, p.length ≤ 4) ∧ RowTo K j M M'
theorem callsOk_noL {t : Thing} {cs : List D} (h : ∀ c ∈ cs, CallOk t c) : noLs cs = true := noLs_iff.mpr fun d hd => (h d hd).noL
theorem plansD_noL {t : Thing} {ps : List (List D)} (h : PlansOk t ps) : noL (plansD ps) = true := noL_tup (noLs_iff.mpr fun d hd => by
  obtain ⟨p, hp, rfl⟩ := List.mem_map.mp hd
  exact noL_tup (callsOk_noL (h.2 p hp).2))
theorem cal_L_plans (S : Ctx K mg) : Cal P w K mg base "_law_plans" p_L_plans 3 (spW (rPlans K)) := by
  obtain ⟨fd, F⟩ := F_L_plans S
  have Bt := bs_of S
  refine ⟨_, fd, fn_WT F sc_L_plans ?_ ?_ ?_ ?_, g_L_plans S, F.kp, bd_L_plans F⟩
  · rintro gs M Pq n ⟨j, t, rfl, _⟩
    rfl
  · rintro gs M Pq n ⟨j, t, rfl, _, _, h, _⟩
    exact h
  · rintro cdv A outer s H E hr gs M Pq n ⟨j, t, rfl, ok, h1, hh, h4, rfl⟩
    refine ⟨0, ?_⟩
    have Ct := fun {w : World} {base : Heap} => cal_L_taken (P := P) (w := w) (base := base) S
    have nl : ∀ {M3 : Mem} {x : D}, RowTo K j M M3 → (M3.lo ++ [x])[M.lo.length]? = some x := fun {M3} {x} t => by
      rw [← t.len.1]
      exact get_last
    refine bw_tup2 (PL := fun gs M' => ∃ cs : List D, (0 < cs.length ∧ cs.length ≤ 1000 ∧ ∀ c ∈ cs, CallOk t c) ∧ gs = [.d (.lst cs), .lo M.lo.length] ∧ M' = ⟨M.lo ++ [.lst []], M.hi⟩) 4 5 sc_L_plans.nd ?_ ?_
    · intro σ H0 A0 m0 e0 Q q
      refine ag_cons (P2 := fun _ M2 gs M' => gs = [.lo M2.lo.length] ∧ M' = ⟨M2.lo ++ [.lst []], M2.hi⟩) (eg_callF (cal_L_calls S) (hr.mono (by decide)) (ua_cons (u_var 1 rfl) ua_nil) ⟨t, rfl, ok, rfl⟩ fun ys h => callsOk_noL h.2.2) (fun g M1 _ => ag_c (eg_newL (ul_lst ua_nil) (.inl rfl)) ag_nil) rfl σ H0 A0 m0 e0 Q ?_
      rintro vs H' A' gs M' ⟨g, gr, M1, rfl, ⟨ys, rfl, hy, rfl⟩, rfl, rfl⟩
      exact q vs H' A' _ _ ⟨ys, hy, rfl, rfl⟩
    · rintro gs M' ⟨cs, hcs, rfl, rfl⟩
      refine ⟨_, _, rfl, ?_⟩
      have at0 := h1.snoc (x := .lst [])
      refine bw_for (PI' := fun ds M' => (1 ≤ ds.length ∧ ds.length ≤ 4) ∧ ∃ M1, M' = ⟨M1.lo ++ [.lst []], M1.hi⟩ ∧ RowTo K j M M1) 6 sc_L_plans.nd (ig_rng Bt (P := fun g M' => ∃ k : Nat, k < 4 ∧ g = .d (.int (1 + k)) ∧ ∃ M1, M' = ⟨M1.lo ++ [.lst []], M1.hi⟩ ∧ RowTo K j M M1) (eg_plus (P1 := fun g M' => ∃ k : Nat, k < 4 ∧ g = .d (.int k) ∧ ∃ M1, M' = ⟨M1.lo ++ [.lst []], M1.hi⟩ ∧ RowTo K j M M1) (eg_taken (many := 4) 0 Ct (hr.mono (by decide)) rfl at0 (u_var 2 rfl) (by omega) ?_) ?_) ?_)
        (fun ds k Γ' M' => (1 ≤ ds.length ∧ ds.length ≤ 4) ∧ (∃ g, Γ' = [.lo j, .d t.d, .d (.int ((4 : Nat) : Int)), .d (.int ((4 : Nat) : Int)), .d (.lst cs), .lo M.lo.length, g, .un]) ∧ ∃ (M3 : Mem) (ps : List (List D)), M' = ⟨M3.lo ++ [.lst (ps.map .tup)], M3.hi⟩ ∧ RowTo K j M M3 ∧ ps.length = k ∧ ∀ p ∈ ps, p.length ≤ 4 ∧ ∀ c ∈ p, CallOk t c) ?_ gok0 ?_ ?_ PassesOwn.never
      · intro i M' hi t'
        obtain ⟨M2, rfl, t2⟩ := t'.snoc h1.lt
        exact ⟨i, hi, rfl, M2, rfl, t2⟩
      · rintro g M' ⟨k, hk, rfl, h⟩
        exact ⟨k, rfl, k, hk, rfl, h⟩
      · rintro g M' ⟨k, hk, rfl, M1, rfl, t1⟩
        exact ⟨1 + k, by rw [Int.natCast_add]; rfl, by omega, by rw [rgD_len]; omega, M1, rfl, t1⟩
      · rintro ds M' ⟨hl, M1, rfl, t1⟩
        exact ⟨hl, ⟨_, rfl⟩, M1, [], rfl, t1, rfl, by simp⟩
      · rintro ds k d Γ' M' hd ⟨hl, ⟨g, rfl⟩, M3, ps, rfl, t3, hk, hps⟩
        have kl := (List.getElem?_eq_some_iff.mp hd).1
        refine bw_append (k := M.lo.length) (P := fun g M' => ∃ (M4 : Mem) (p : List D), g = .d (.tup p) ∧ M' = ⟨M4.lo ++ [.lst (ps.map .tup)], M4.hi⟩ ∧ RowTo K j M M4 ∧ p.length ≤ 4 ∧ ∀ c ∈ p, CallOk t c) (eg_var 5 rfl)
          (eg_tupOf Bt (P1 := fun g M' => ∃ (M4 : Mem) (p : List D), g = .d (.lst p) ∧ M' = ⟨M4.lo ++ [.lst (ps.map .tup)], M4.hi⟩ ∧ RowTo K j M M4 ∧ p.length ≤ 4 ∧ ∀ c ∈ p, CallOk t c)
            (eg_lc (i := 7) (PI' := fun ds M' => ds.length ≤ 4 ∧ noLs ds = true ∧ ∃ M4, M' = ⟨M4.lo ++ [.lst (ps.map .tup)], M4.hi⟩ ∧ RowTo K j M M4) (fun ds es M' => ∃ (M4 : Mem), ds.length ≤ 4 ∧ M' = ⟨M4.lo ++ [.lst (ps.map .tup)], M4.hi⟩ ∧ RowTo K j M M4 ∧ ∀ c ∈ es, CallOk t c)
              sc_L_plans.nd (ig_rng Bt (P := fun g M' => ∃ k : Nat, k < 5 ∧ g = .d (.int k) ∧ ∃ M4, M' = ⟨M4.lo ++ [.lst (ps.map .tup)], M4.hi⟩ ∧ RowTo K j M M4) (eg_taken (many := 5) 0 Ct (hr.mono (by decide)) rfl ((t3.at h1).snoc) (u_is (u_add (u_var 3 rfl) u_int) rfl) (by omega) ?_) ?_) (blkOk_by (N := n_L_plans) (sc := defScope s_L_plans) (by decide +kernel)) ?_ ?_ ?_ ?_) ?_) ?_ ⟨_, nl t3⟩
        · intro i M' hi t'
          obtain ⟨M4, rfl, t4⟩ := t'.snoc (t3.at h1).lt
          exact ⟨i, hi, rfl, M4, rfl, t3.trans t4⟩
        · rintro g M' ⟨k, hk, rfl, h⟩
          exact ⟨k, rfl, by omega, by rw [rgD_len]; omega, rgD_noL, h⟩
        · rintro ds M' ⟨hl, nd, M4, rfl, t4⟩
          exact ⟨by omega, nd, M4, hl, rfl, t4, by simp⟩
        · rintro ds es M' ⟨M4, _, rfl, t4, _⟩
          rw [← hh]
          exact t4.len.2
        · rintro ds es d M' ⟨M4, hl, rfl, t4, hes⟩ hd s' H' C cl fp
          refine eg_call (cal_L_pick S) hr (ag_c (eg_var 0 rfl) (ag_c (eg_var 4 rfl) ag_nil)) ?_
          rintro gs M'' ⟨rfl, rfl⟩
          refine ⟨_, ⟨j, cs, rfl, ((t4.at h1).snoc (x := .lst (ps.map .tup))).snoc (x := .lst es), hcs.1, hcs.2.1, rfl, rfl⟩, ?_⟩
          rintro d' M2 ⟨hd', t'⟩
          obtain ⟨M5, rfl, t5⟩ := RowTo.snoc (M := ⟨M4.lo ++ [.lst (ps.map .tup)], M4.hi⟩) ((t4.at h1).snoc).lt t'
          obtain ⟨M6, rfl, t6⟩ := RowTo.snoc (M := M4) (t4.at h1).lt t5
          refine ⟨d', ⟨M6.lo ++ [.lst (ps.map .tup)], M6.hi⟩, rfl, (hcs.2.2 d' hd').noL, rfl, ?_, M6, hl, rfl, t4.trans t6, fun c hc => ?_⟩
          · show (M6.lo ++ _).length = (M4.lo ++ _).length
            rw [List.length_append, List.length_append, t6.len.1]
          · rcases List.mem_append.mp hc with h | h
            · exact hes c h
            · simp at h
              subst h
              exact hcs.2.2 _ hd'
        · rintro ds es M' ⟨M4, hl, rfl, t4, hes⟩ he
          exact ⟨M4, es, rfl, rfl, t4, by omega, hes⟩
        · rintro g M' ⟨M4, p, rfl, rfl, t4, hp⟩
          exact ⟨_, rfl, M4, p, rfl, rfl, t4, hp⟩
        · rintro g2 M' ⟨M4, p, rfl, rfl, t4, hp⟩
          refine ⟨_, _, rfl, nl t4, by rw [List.length_map]; omega, bw_nil ⟨hl, ⟨_, rfl⟩, M4, ps ++ [p], ?_, t4, by simp; omega, fun r hr' => ?_⟩⟩
          · show (⟨(M4.lo ++ [_]).set M.lo.length _, M4.hi⟩ : Mem) = _
            rw [← t4.len.1]
            simp
          · rcases List.mem_append.mp hr' with h | h
            · exact hps r h
            · simp at h
              subst h
              exact hp
      · rintro ds Γ' M' ⟨hl, ⟨g, rfl⟩, M3, ps, rfl, t3, hk, hps⟩
        have po : PlansOk t ps := ⟨by omega, fun p hp => ⟨by have := (hps p hp).1; omega, (hps p hp).2⟩⟩
        refine bw_ret (P := fun g M' => g = .d (plansD ps) ∧ M' = ⟨M3.lo ++ [.lst (ps.map .tup)], M3.hi⟩) (eg_U (u_tupOf Bt (u_var 5 (gv rfl (gP_lo (nl t3))))) (plansD_noL po)) ?_
        rintro g M' ⟨rfl, rfl⟩
        refine ⟨_, rfl, _, rfl, ps, rfl, po, fun p hp => (hps p hp).1, ?_⟩
        show RowTo K j M ⟨(M3.lo ++ [_]).take M.lo.length, []⟩
        rw [← t3.len.1, List.take_left]
        have : (⟨M3.lo, []⟩ : Mem) = M3 := by
          rw [← hh, ← t3.len.2]
        rw [this]
        exact t3
  · rintro gs M Pq n ⟨j, t, rfl, _, _, _, h, _⟩
    exact h
end
end P6
namespace P6
open PySem PySem.Spec PyProof.Rows L2 H6
section
variable {P : Program} {w : World} {K : PySem.W.Frag} {mg : Str → Option Value} {base : Heap}
theorem cal_L_first (S : Ctx K mg) : Cal P w K mg base "_law_first" p_L_first 1 (spP rFirst) := by
  obtain ⟨fd, F⟩ := F_L_first S
  refine ⟨_, fd, fn_pure F sc_L_first ?_ ?_, g_L_first S, F.kp, bd_L_first F⟩
  · rintro ds d ⟨as, rfl, _⟩
    rfl
  · rintro cdv A outer s H E hr ds d ⟨t, rfl, rfl⟩
    refine .inl ?_
    cases t with
    | stack r m => exact b_ifT (t_inL (u_ixT (u_var 0 rfl) u_int) (u_lst (ua_cons u_str (ua_cons u_str (ua_cons u_str ua_nil))))) (b_ret (u_tup ua_nil))
    | queue r m => exact b_ifT (t_inL (u_ixT (u_var 0 rfl) u_int) (u_lst (ua_cons u_str (ua_cons u_str (ua_cons u_str ua_nil))))) (b_ret (u_tup ua_nil))
    | set m => exact b_ifT (t_inL (u_ixT (u_var 0 rfl) u_int) (u_lst (ua_cons u_str (ua_cons u_str (ua_cons u_str ua_nil))))) (b_ret (u_tup ua_nil))
    | bank as => exact b_ifF (t_inL (u_ixT (u_var 0 rfl) u_int) (u_lst (ua_cons u_str (ua_cons u_str (ua_cons u_str ua_nil))))) (b_ret (u_ifT (t_eq (u_ixT (u_var 0 rfl) u_int) u_str) (u_ixT (u_var 0 rfl) u_int)))
    | agree m => exact b_ifF (t_inL (u_ixT (u_var 0 rfl) u_int) (u_lst (ua_cons u_str (ua_cons u_str (ua_cons u_str ua_nil))))) (b_ret (u_ifF (t_eq (u_ixT (u_var 0 rfl) u_int) u_str) (u_ifT (t_eq (u_ixT (u_var 0 rfl) u_int) u_str) u_non)))
    | counter m => exact b_ifF (t_inL (u_ixT (u_var 0 rfl) u_int) (u_lst (ua_cons u_str (ua_cons u_str (ua_cons u_str ua_nil))))) (b_ret (u_ifF (t_eq (u_ixT (u_var 0 rfl) u_int) u_str) (u_ifF (t_eq (u_ixT (u_var 0 rfl) u_int) u_str) u_int)))
    | register m => exact b_ifF (t_inL (u_ixT (u_var 0 rfl) u_int) (u_lst (ua_cons u_str (ua_cons u_str (ua_cons u_str ua_nil))))) (b_ret (u_ifF (t_eq (u_ixT (u_var 0 rfl) u_int) u_str) (u_ifF (t_eq (u_ixT (u_var 0 rfl) u_int) u_str) u_int)))
    | table rows => exact b_ifF (t_inL (u_ixT (u_var 0 rfl) u_int) (u_lst (ua_cons u_str (ua_cons u_str (ua_cons u_str ua_nil))))) (b_ret (u_ifF (t_eq (u_ixT (u_var 0 rfl) u_int) u_str) (u_ifF (t_eq (u_ixT (u_var 0 rfl) u_int) u_str) u_int)))
theorem uf_lcI {X : Cx} {Γ : List G} {elt iter : Expr} {ds : List D} {pos : Pos} {nm : Str} {i : Nat} {scope : Scope} {tp : Pos} {c : Expr} (ps : List (Option D)) (hN : X.N.Nodup) (hi : UI X (.Name nm tp) iter Γ ds) (ok : BlkOk X.N X.env.scope scope [(nm, i)]) (hl : ps.length = ds.length) (hz : ds.length < sizeLine) (hn : ∀ o ∈ ps, ∀ d, o = some d → noL d = true)
    (hv : ∀ (j : Nat) d o, ds[j]? = some d → ps[j]? = some o → TB X scope c ((wipeG Γ [i]).set i (.d d)) o.isSome ∧ ∀ y, o = some y → UB X scope elt ((wipeG Γ [i]).set i (.d d)) y) (hx : X.N[i]? = some nm := by rfl) (hc : X.calm = true := by rfl)
    (hlo : scope.names.lookup nm = some .local ∨ scope.names.lookup nm = some .cell := by first | exact Or.inl rfl | exact Or.inr rfl)
    (hs : ∀ x, foldedSetIterable iter X.env x = pure x := by intro _; rfl) : UF X (.ListComp elt [⟨.Name nm tp, iter, [c], 0⟩] scope pos) Γ (keepD ps) :=
  u_lcW (tt := semBT X scope c) (te := semB X scope elt) hc hN hi ok (fun s H C cl fp => pg_name hN hx (relLoc hlo) (fnLoc hlo)) (fun s H C cl fp => pts_one (pt_semB s H C cl fp)) pe_semB hl hz hn (fun j d o h1 h2 => ⟨(hv j d o h1 h2).1.sem, fun y hy => ((hv j d o h1 h2).2 y hy).sem⟩) hs
def rDo (ds : List D) (d : D) : Prop := ∃ (t : Thing) (s c s' a : D), ds = [t.d, s, c] ∧ App t s c s' a ∧ d = .tup [s', a]
theorem tI_snoc (ns : List Int) (k : Int) : tI (ns ++ [k]) = .tup (ns.map .int ++ [.int k]) := by
  show D.tup _ = _
  rw [List.map_append]
  rfl
theorem sorted_add {ns : List Int} {k : Int} (h1 : ns.Pairwise (· < ·)) (h : k ∈ ns) : ns.Perm (ns.filter (fun n => decide (n ≠ k)) ++ [k]) := by
  induction ns with
  | nil => simp at h
  | cons x xs ih =>
    obtain ⟨h2, h3⟩ := List.pairwise_cons.mp h1
    by_cases e : x = k
    · subst e
      have : xs.filter (fun n => decide (n ≠ x)) = xs := List.filter_eq_self.mpr fun y hy => by
        have := h2 y hy
        exact decide_eq_true (by omega)
      rw [List.filter_cons_of_neg (by simp), this]
      exact (List.perm_append_comm (l₁ := [x]) (l₂ := xs))
    · rw [List.filter_cons_of_pos (by simp [e])]
      exact (ih h3 (by simpa [Ne.symm e] using h)).cons x
theorem left_noL {ns : List Int} {k : Int} : ∀ o ∈ (ns.map fun n => if n ≠ k then some (D.int n) else none), ∀ d, o = some d → noL d = true := fun o ho d e => by
  obtain ⟨n, _, h2⟩ := List.mem_map.mp ho
  by_cases q : n ≠ k
  · rw [if_pos q, e] at h2
    cases h2
    rfl
  · rw [if_neg q, e] at h2
    cases h2
theorem filter_no {ns : List Int} {k : Int} (h : ¬ k ∈ ns) : ns.filter (fun n => decide (n ≠ k)) = ns := List.filter_eq_self.mpr fun y hy => decide_eq_true fun e => h (e ▸ hy)
theorem cal_L_do (S : Ctx K mg) : Cal P w K mg base "_law_do" p_L_do 1 (spP rDo) := by
  obtain ⟨fd, F⟩ := F_L_do S
  have Bt := bs_of S
  refine ⟨_, fd, fn_pure F sc_L_do ?_ ?_, g_L_do S, F.kp, bd_L_do F⟩
  · rintro ds d ⟨t, s, c, s', a, rfl, _⟩
    rfl
  · rintro cdv A outer s0 H E hr ds d ⟨t, s, c, s', a, rfl, ha, rfl⟩
    refine .inl ?_
    have hd : ∀ {nm wd : Str} {r1 r2 : List D} {d : D} {st : D}, B (cX P w K mg base n_L_do "_law_do" (defScope s_L_do) (He.ga K "_law_do") cdv A outer s0 H E) (defBody s_L_do).tail [.d (.tup (.str nm :: r1)), .d st, .d (.tup (.str wd :: r2)), .d (.str nm), .d (.str wd), .un, .un, .un] (.ret d) →
        B (cX P w K mg base n_L_do "_law_do" (defScope s_L_do) (He.ga K "_law_do") cdv A outer s0 H E) (defBody s_L_do) [.d (.tup (.str nm :: r1)), .d st, .d (.tup (.str wd :: r2)), .un, .un, .un, .un, .un] (.ret d) := fun h =>
      b_par2 3 4 sc_L_do.nd (ua_cons (u_ixT (u_var 0 rfl) u_int atI_0) (ua_cons (u_ixT (u_var 2 rfl) u_int atI_0) ua_nil)) h
    -- a word's way through the tests
    have nq : ∀ {X : Cx} {Γ : List G} {k : Nat} {p1 p2 p3 : Pos} {a b nm : Str} {kk : Nat}, Γ[k]? = some (.d (.str a)) → (decide (a = b)) = false → X.N[k]? = some nm → Vis X.env.scope nm → (nm == ("__debug__" : Str)) = false → (nm == ("__classdict__" : Str)) = false → T X (.Compare (.Name nm p1) [.Eq] [.Constant (.str b) kk p2] p3) Γ false := fun h1 h2 h3 h4 h5 h6 => t_is (t_eq (u_var _ h1 h3 h4 h5 h6) u_str rfl) h2
    cases ha with
    | cadd hm => exact hd (b_ifF (t_eq (u_var 3 rfl) u_str) (b_ifF (t_eq (u_var 4 rfl) u_str) (b_ifT (t_eq (u_var 3 rfl) u_str) (b_ret (u_tup (ua_cons (u_mod hm (u_intI Bt (u_add (u_var 1 rfl) (u_ixT (u_var 2 rfl) u_int))) (u_ixT (u_var 0 rfl) u_int)) (ua_cons (u_var 1 rfl) ua_nil)))))))
    | clook => exact hd (b_ifF (t_eq (u_var 3 rfl) u_str) (b_ifT (t_eq (u_var 4 rfl) u_str) (b_ret (u_tup (ua_cons (u_var 1 rfl) (ua_cons (u_ifF (t_eq (u_var 3 rfl) u_str) (u_var 1 rfl)) ua_nil))))))
    | rlook => exact hd (b_ifF (t_eq (u_var 3 rfl) u_str) (b_ifT (t_eq (u_var 4 rfl) u_str) (b_ret (u_tup (ua_cons (u_var 1 rfl) (ua_cons (u_ifF (t_eq (u_var 3 rfl) u_str) (u_var 1 rfl)) ua_nil))))))
    | rput => exact hd (b_ifF (t_eq (u_var 3 rfl) u_str) (b_ifF (t_eq (u_var 4 rfl) u_str) (b_ifF (t_eq (u_var 3 rfl) u_str) (b_ifT (t_eq (u_var 3 rfl) u_str) (b_ret (u_tup (ua_cons (u_ixT (u_var 2 rfl) u_int) (ua_cons (u_ifT (t_eq (u_var 4 rfl) u_str) u_non) ua_nil))))))))
    | rtrade => exact hd (b_ifF (t_eq (u_var 3 rfl) u_str) (b_ifF (t_eq (u_var 4 rfl) u_str) (b_ifF (t_eq (u_var 3 rfl) u_str) (b_ifT (t_eq (u_var 3 rfl) u_str) (b_ret (u_tup (ua_cons (u_ixT (u_var 2 rfl) u_int) (ua_cons (u_ifF (t_eq (u_var 4 rfl) u_str) (u_var 1 rfl)) ua_nil))))))))
    | adec0 => exact hd (b_ifF (t_eq (u_var 3 rfl) u_str) (b_ifF (t_eq (u_var 4 rfl) u_str) (b_ifF (t_eq (u_var 3 rfl) u_str) (b_ifF (t_eq (u_var 3 rfl) u_str) (b_ifT (t_eq (u_var 3 rfl) u_str) (b_ret (u_ifF (t_is (t_notN (u_var 1 rfl)) rfl) (u_tup (ua_cons (u_ixT (u_var 2 rfl) u_int) (ua_cons (u_ixT (u_var 2 rfl) u_int) ua_nil)))))))))
)
    | adec1 => exact hd (b_ifF (t_eq (u_var 3 rfl) u_str) (b_ifF (t_eq (u_var 4 rfl) u_str) (b_ifF (t_eq (u_var 3 rfl) u_str) (b_ifF (t_eq (u_var 3 rfl) u_str) (b_ifT (t_eq (u_var 3 rfl) u_str) (b_ret (u_ifT (t_is (t_notN (u_var 1 rfl)) rfl) (u_tup (ua_cons (u_var 1 rfl) (ua_cons (u_var 1 rfl) ua_nil))))))))))
    | @tdo rows r s c p h1 h2 => exact hd (b_ifT (t_eq (u_var 3 rfl) u_str) (b_ret (u_ixT (u_ixT (u_ixT (u_var 0 rfl) u_int) (u_var 1 rfl) (ix_map (f := rowD) h1)) (u_ixT (u_var 2 rfl) u_int) (ix_map (f := fun p => tI [p.1, p.2]) h2))))
    | @blook as ns a x h => exact hd (b_ifF (t_eq (u_var 3 rfl) u_str) (b_ifT (t_eq (u_var 4 rfl) u_str) (b_ret (u_tup (ua_cons (u_var 1 rfl) (ua_cons (u_ifT (t_eq (u_var 3 rfl) u_str) (u_ixT (u_var 1 rfl) (u_ixT (u_var 2 rfl) u_int) (ix_map h))) ua_nil))))))
    | @bmoveF as ns a b k x hl h h1 => exact hd (b_ifF (t_eq (u_var 3 rfl) u_str) (b_ifF (t_eq (u_var 4 rfl) u_str) (b_ifF (t_eq (u_var 3 rfl) u_str) (b_ifF (t_eq (u_var 3 rfl) u_str) (b_ifF (t_eq (u_var 3 rfl) u_str) (b_ifF (t_eq (u_var 3 rfl) u_str) (b_ifT (t_eq (u_var 3 rfl) u_str) (b_ifT (t_is (t_lt (u_ixT (u_var 1 rfl) (u_ixT (u_var 2 rfl) u_int) (ix_map h)) (u_ixT (u_var 2 rfl) u_int)) (decide_eq_true h1)) (b_ret (u_tup (ua_cons (u_var 1 rfl) (ua_cons u_bl ua_nil)))))))))))) 
    | @bmove as ns a b k x y hl h h1 h2 h3 h4 h5 =>
      refine hd (b_ifF (t_eq (u_var 3 rfl) u_str) (b_ifF (t_eq (u_var 4 rfl) u_str) (b_ifF (t_eq (u_var 3 rfl) u_str) (b_ifF (t_eq (u_var 3 rfl) u_str) (b_ifF (t_eq (u_var 3 rfl) u_str) (b_ifF (t_eq (u_var 3 rfl) u_str) (b_ifT (t_eq (u_var 3 rfl) u_str) (b_ifF (t_is (t_lt (u_ixT (u_var 1 rfl) (u_ixT (u_var 2 rfl) u_int) (ix_map h)) (u_ixT (u_var 2 rfl) u_int)) (decide_eq_false (by omega))) (b_ret (u_tup (ua_cons (u_tupOf Bt (u_lc (i := 7) (((ns.set a (x - k)).set b (y + k)).map .int) sc_L_do.nd (ui_rng1 (n := ns.length) Bt (u_is (u_len Bt (u_var 1 rfl)) (by rw [List.length_map])) (by omega)) (blkOk_by (N := n_L_do) (sc := defScope s_L_do) (by decide +kernel)) (by rw [rgD_len]; simp) (by rw [rgD_len]; exact small_lt (by omega)) (noLs_iff.mpr fun d hd => by
        obtain ⟨n, _, rfl⟩ := List.mem_map.mp hd
        rfl) ?_)) (ua_cons u_bl ua_nil)))))))))))) 
      intro j d y' hd hy s' H' C cl fp
      obtain ⟨hj, rfl⟩ := rgD_at hd
      rw [Int.zero_add]
      obtain ⟨v, hv⟩ : ∃ v, ns[j]? = some v := ⟨_, List.getElem?_eq_getElem hj⟩
      have e : ((ns.set a (x - k)).set b (y + k))[j]? = some (v - k * (if decide ((j : Int) = a) = true then 1 else 0) + k * (if decide ((j : Int) = b) = true then 1 else 0)) := by
        by_cases eb : j = b
        · subst eb
          rw [h1] at hv
          cases hv
          rw [List.getElem?_set_self (by rw [List.length_set]; exact hj)]
          have : ¬ ((j : Int) = a) := by omega
          simp [this]
        · rw [List.getElem?_set_ne (Ne.symm eb)]
          have nb : ¬ ((j : Int) = b) := by omega
          by_cases ea : j = a
          · subst ea
            rw [h] at hv
            cases hv
            rw [List.getElem?_set_self hj]
            simp [nb]
          · rw [List.getElem?_set_ne (Ne.symm ea), hv]
            have na : ¬ ((j : Int) = a) := by omega
            simp [na, nb]
      rw [List.getElem?_map, e] at hy
      cases hy
      have cm : ∀ z : Int, CMul k z := fun z => .inl (by omega)
      exact u_add (u_sub (u_ixT (u_var 1 rfl) (u_var 7 rfl) (ix_map hv)) (u_mul (cm _) (u_ixT (u_var 2 rfl) u_int) (u_intB Bt (u_eq (u_var 7 rfl) (u_ixT (u_var 2 rfl) u_int) eqS_ii)))) (u_mul (cm _) (u_ixT (u_var 2 rfl) u_int) (u_intB Bt (u_eq (u_var 7 rfl) (u_ixT (u_var 2 rfl) u_int) eqS_ii)))
    | spushF h => exact hd (b_ifF (t_eq (u_var 3 rfl) u_str) (b_ifF (t_eq (u_var 4 rfl) u_str) (b_ifF (t_eq (u_var 3 rfl) u_str) (b_ifF (t_eq (u_var 3 rfl) u_str) (b_ifF (t_eq (u_var 3 rfl) u_str) (b_ifF (t_eq (u_var 3 rfl) u_str) (b_ifF (t_eq (u_var 3 rfl) u_str) (b_ifT (t_inL (u_var 4 rfl) (u_lst (ua_cons u_str (ua_cons u_str ua_nil)))) (b_ret (u_ifF (t_is (t_lt (u_len Bt (u_var 1 rfl)) (u_ixT (u_var 0 rfl) u_int)) (by rw [List.length_map]; exact decide_eq_false (by omega))) (u_tup (ua_cons (u_var 1 rfl) (ua_cons u_bl ua_nil))))))))))))) 
    | @spush r m k ns h h3 => exact hd (b_ifF (t_eq (u_var 3 rfl) u_str) (b_ifF (t_eq (u_var 4 rfl) u_str) (b_ifF (t_eq (u_var 3 rfl) u_str) (b_ifF (t_eq (u_var 3 rfl) u_str) (b_ifF (t_eq (u_var 3 rfl) u_str) (b_ifF (t_eq (u_var 3 rfl) u_str) (b_ifF (t_eq (u_var 3 rfl) u_str) (b_ifT (t_inL (u_var 4 rfl) (u_lst (ua_cons u_str (ua_cons u_str ua_nil)))) (b_ret (u_ifT (t_is (t_lt (u_len Bt (u_var 1 rfl)) (u_ixT (u_var 0 rfl) u_int)) (by rw [List.length_map]; exact decide_eq_true (by omega))) (u_tup (ua_cons (u_is (u_cat (zs := [.int k]) (by rw [List.length_map]; exact small_le' (by simp; omega)) (u_var 1 rfl) (u_tup (ua_cons (u_ixT (u_var 2 rfl) u_int) ua_nil))) (tI_snoc ns k).symm) (ua_cons u_bl ua_nil))))))))))))) 
    | spopE => exact hd (b_ifF (t_eq (u_var 3 rfl) u_str) (b_ifF (t_eq (u_var 4 rfl) u_str) (b_ifF (t_eq (u_var 3 rfl) u_str) (b_ifF (t_eq (u_var 3 rfl) u_str) (b_ifF (t_eq (u_var 3 rfl) u_str) (b_ifF (t_eq (u_var 3 rfl) u_str) (b_ifF (t_eq (u_var 3 rfl) u_str) (b_ifF (t_inL (u_var 4 rfl) (u_lst (ua_cons u_str (ua_cons u_str ua_nil)))) (b_ifT (t_eqD hr (shN_tI.sh (by decide)) ((shN_tup shN_nil : shN 1 (.tup [])).sh (by decide)) (u_var 1 rfl) (u_tup ua_nil) rfl) (b_ret (u_tup (ua_cons (u_var 1 rfl) (ua_cons u_non ua_nil))))))))))))) 
    | @spop r m k ns h =>
      have hs : shN 1 (.tup (ns.map .int ++ [.int k])) := (tI_snoc ns k) ▸ shN_tI
      rw [tI_snoc]
      exact hd (b_ifF (t_eq (u_var 3 rfl) u_str) (b_ifF (t_eq (u_var 4 rfl) u_str) (b_ifF (t_eq (u_var 3 rfl) u_str) (b_ifF (t_eq (u_var 3 rfl) u_str) (b_ifF (t_eq (u_var 3 rfl) u_str) (b_ifF (t_eq (u_var 3 rfl) u_str) (b_ifF (t_eq (u_var 3 rfl) u_str) (b_ifF (t_inL (u_var 4 rfl) (u_lst (ua_cons u_str (ua_cons u_str ua_nil)))) (b_ifF (t_eqD hr (hs.sh (by decide)) ((shN_tup shN_nil : shN 1 (.tup [])).sh (by decide)) (u_var 1 rfl) (u_tup ua_nil) eqD_snoc) (b_ret (u_ifT (t_eq (u_var 4 rfl) u_str) (u_tup (ua_cons (u_is (u_slT (u_var 1 rfl) uo_none (uo_some (u_neg u_int))) (by rw [cutD_init]; rfl)) (ua_cons (u_ixT (u_var 1 rfl) (u_neg u_int) (atI_last _ _)) ua_nil)))))))))))))) 
    | qenterF h => exact hd (b_ifF (t_eq (u_var 3 rfl) u_str) (b_ifF (t_eq (u_var 4 rfl) u_str) (b_ifF (t_eq (u_var 3 rfl) u_str) (b_ifF (t_eq (u_var 3 rfl) u_str) (b_ifF (t_eq (u_var 3 rfl) u_str) (b_ifF (t_eq (u_var 3 rfl) u_str) (b_ifF (t_eq (u_var 3 rfl) u_str) (b_ifT (t_inL (u_var 4 rfl) (u_lst (ua_cons u_str (ua_cons u_str ua_nil)))) (b_ret (u_ifF (t_is (t_lt (u_len Bt (u_var 1 rfl)) (u_ixT (u_var 0 rfl) u_int)) (by rw [List.length_map]; exact decide_eq_false (by omega))) (u_tup (ua_cons (u_var 1 rfl) (ua_cons u_bl ua_nil))))))))))))) 
    | @qenter r m k ns h h3 => exact hd (b_ifF (t_eq (u_var 3 rfl) u_str) (b_ifF (t_eq (u_var 4 rfl) u_str) (b_ifF (t_eq (u_var 3 rfl) u_str) (b_ifF (t_eq (u_var 3 rfl) u_str) (b_ifF (t_eq (u_var 3 rfl) u_str) (b_ifF (t_eq (u_var 3 rfl) u_str) (b_ifF (t_eq (u_var 3 rfl) u_str) (b_ifT (t_inL (u_var 4 rfl) (u_lst (ua_cons u_str (ua_cons u_str ua_nil)))) (b_ret (u_ifT (t_is (t_lt (u_len Bt (u_var 1 rfl)) (u_ixT (u_var 0 rfl) u_int)) (by rw [List.length_map]; exact decide_eq_true (by omega))) (u_tup (ua_cons (u_is (u_cat (zs := [.int k]) (by rw [List.length_map]; exact small_le' (by simp; omega)) (u_var 1 rfl) (u_tup (ua_cons (u_ixT (u_var 2 rfl) u_int) ua_nil))) (tI_snoc ns k).symm) (ua_cons u_bl ua_nil))))))))))))) 
    | qleaveE => exact hd (b_ifF (t_eq (u_var 3 rfl) u_str) (b_ifF (t_eq (u_var 4 rfl) u_str) (b_ifF (t_eq (u_var 3 rfl) u_str) (b_ifF (t_eq (u_var 3 rfl) u_str) (b_ifF (t_eq (u_var 3 rfl) u_str) (b_ifF (t_eq (u_var 3 rfl) u_str) (b_ifF (t_eq (u_var 3 rfl) u_str) (b_ifF (t_inL (u_var 4 rfl) (u_lst (ua_cons u_str (ua_cons u_str ua_nil)))) (b_ifT (t_eqD hr (shN_tI.sh (by decide)) ((shN_tup shN_nil : shN 1 (.tup [])).sh (by decide)) (u_var 1 rfl) (u_tup ua_nil) rfl) (b_ret (u_tup (ua_cons (u_var 1 rfl) (ua_cons u_non ua_nil))))))))))))) 
    | @qleave r m k ns h => exact hd (b_ifF (t_eq (u_var 3 rfl) u_str) (b_ifF (t_eq (u_var 4 rfl) u_str) (b_ifF (t_eq (u_var 3 rfl) u_str) (b_ifF (t_eq (u_var 3 rfl) u_str) (b_ifF (t_eq (u_var 3 rfl) u_str) (b_ifF (t_eq (u_var 3 rfl) u_str) (b_ifF (t_eq (u_var 3 rfl) u_str) (b_ifF (t_inL (u_var 4 rfl) (u_lst (ua_cons u_str (ua_cons u_str ua_nil)))) (b_ifF (t_eqD hr (shN_tI.sh (by decide)) ((shN_tup shN_nil : shN 1 (.tup [])).sh (by decide)) (u_var 1 rfl) (u_tup ua_nil) rfl) (b_ret (u_ifF (t_eq (u_var 4 rfl) u_str) (u_tup (ua_cons (u_is (u_slT (u_var 1 rfl) (uo_some u_int) uo_none) (by rw [List.map_cons, cutD_tail]; rfl)) (ua_cons (u_ixT (u_var 1 rfl) u_int atI_0) ua_nil)))))))))))))) 
    | @ehas m k ns h =>
      refine hd (b_ifF (t_eq (u_var 3 rfl) u_str) (b_ifF (t_eq (u_var 4 rfl) u_str) (b_ifF (t_eq (u_var 3 rfl) u_str) (b_ifF (t_eq (u_var 3 rfl) u_str) (b_ifF (t_eq (u_var 3 rfl) u_str) (b_ifT (t_eq (u_var 3 rfl) u_str) (b_setC 5 (uf_lcI (i := 6) (ns.map fun n => if n ≠ k then some (D.int n) else none) sc_L_do.nd (ui_tup (u_var 1 rfl)) (blkOk_by (N := n_L_do) (sc := defScope s_L_do) (by decide +kernel)) (by rw [List.length_map, List.length_map]) (by rw [List.length_map]; exact small_lt (by omega)) ?_ ?_) ?_ (sw_true rfl rfl rfl (by decide +kernel)))))))))
      · exact left_noL
      · intro j d o hd ho
        obtain ⟨n, hn, _, rfl⟩ := map_get hd
        rw [List.getElem?_map, hn] at ho
        have eo : (if n ≠ k then some (D.int n) else none) = o := Option.some.inj ho
        by_cases q : n ≠ k
        · rw [if_pos q] at eo
          subst eo
          refine ⟨fun s' H' C cl fp => t_is (t_ne (u_var 6 rfl) (u_ixT (u_var 2 rfl) u_int) rfl) (by simp [q]), fun y hy s' H' C cl fp => ?_⟩
          cases hy
          exact u_var 6 rfl
        · rw [if_neg q] at eo
          subst eo
          refine ⟨fun s' H' C cl fp => t_is (t_ne (u_var 6 rfl) (u_ixT (u_var 2 rfl) u_int) rfl) (by simp only [ne_eq, Decidable.not_not] at q; simp [q]), fun y hy => nomatch hy⟩
      · rw [keep_filter]
        exact b_ret (u_tup (ua_cons (u_ifT (t_eq (u_var 4 rfl) u_str) (u_var 1 rfl)) (ua_cons (u_is (u_ne (u_inT (r := decide (k ∈ ns)) (u_ixT (u_var 2 rfl) u_int) (u_var 1 rfl) (any_int) rfl all_fl) (u_eq (u_var 4 rfl) u_str rfl) rfl) (by cases decide (k ∈ ns) <;> rfl)) ua_nil)))
    | @eaddO m k ns h h1 h2 =>
      refine hd (b_ifF (t_eq (u_var 3 rfl) u_str) (b_ifF (t_eq (u_var 4 rfl) u_str) (b_ifF (t_eq (u_var 3 rfl) u_str) (b_ifF (t_eq (u_var 3 rfl) u_str) (b_ifF (t_eq (u_var 3 rfl) u_str) (b_ifT (t_eq (u_var 3 rfl) u_str) (b_setC 5 (uf_lcI (i := 6) (ns.map fun n => if n ≠ k then some (D.int n) else none) sc_L_do.nd (ui_tup (u_var 1 rfl)) (blkOk_by (N := n_L_do) (sc := defScope s_L_do) (by decide +kernel)) (by rw [List.length_map, List.length_map]) (by rw [List.length_map]; exact small_lt (by omega)) ?_ ?_) ?_ (sw_true rfl rfl rfl (by decide +kernel)))))))))
      · exact left_noL
      · intro j d o hd ho
        obtain ⟨n, hn, _, rfl⟩ := map_get hd
        rw [List.getElem?_map, hn] at ho
        have eo : (if n ≠ k then some (D.int n) else none) = o := Option.some.inj ho
        by_cases q : n ≠ k
        · rw [if_pos q] at eo
          subst eo
          refine ⟨fun s' H' C cl fp => t_is (t_ne (u_var 6 rfl) (u_ixT (u_var 2 rfl) u_int) rfl) (by simp [q]), fun y hy s' H' C cl fp => ?_⟩
          cases hy
          exact u_var 6 rfl
        · rw [if_neg q] at eo
          subst eo
          refine ⟨fun s' H' C cl fp => t_is (t_ne (u_var 6 rfl) (u_ixT (u_var 2 rfl) u_int) rfl) (by simp only [ne_eq, Decidable.not_not] at q; simp [q]), fun y hy => nomatch hy⟩
      · rw [keep_filter]
        exact b_ret (u_tup (ua_cons (u_ifF (t_eq (u_var 4 rfl) u_str) (u_tupOf Bt (u_sorted (ns := ns.filter (fun n => decide (n ≠ k)) ++ [k]) Bt (sorted_add h1 h2) (h1.imp fun h => by omega) (by have := (List.length_filter_le (fun n => decide (n ≠ k)) ns); simp only [List.length_append, List.length_cons, List.length_nil]; omega) (u_is (u_catL (zs := [.int k]) (by have := (List.length_filter_le (fun n => decide (n ≠ k)) ns); simp only [List.length_map, List.length_cons, List.length_nil]; exact small_le' (by omega)) (u_var 5 rfl) (u_ifT (t_eq (u_var 4 rfl) u_str) (u_lst (ua_cons (u_ixT (u_var 2 rfl) u_int) ua_nil)))) (by simp))))) (ua_cons (u_is (u_ne (u_inT (r := true) (u_ixT (u_var 2 rfl) u_int) (u_var 1 rfl) (by rw [any_int, decide_eq_true h2]) rfl all_fl) (u_eq (u_var 4 rfl) u_str rfl) rfl) (rfl)) ua_nil)))
    | @eadd m k ns ms h h1 h2 h3 h4 =>
      refine hd (b_ifF (t_eq (u_var 3 rfl) u_str) (b_ifF (t_eq (u_var 4 rfl) u_str) (b_ifF (t_eq (u_var 3 rfl) u_str) (b_ifF (t_eq (u_var 3 rfl) u_str) (b_ifF (t_eq (u_var 3 rfl) u_str) (b_ifT (t_eq (u_var 3 rfl) u_str) (b_setC 5 (uf_lcI (i := 6) (ns.map fun n => if n ≠ k then some (D.int n) else none) sc_L_do.nd (ui_tup (u_var 1 rfl)) (blkOk_by (N := n_L_do) (sc := defScope s_L_do) (by decide +kernel)) (by rw [List.length_map, List.length_map]) (by rw [List.length_map]; exact small_lt (by omega)) ?_ ?_) ?_ (sw_true rfl rfl rfl (by decide +kernel)))))))))
      · exact left_noL
      · intro j d o hd ho
        obtain ⟨n, hn, _, rfl⟩ := map_get hd
        rw [List.getElem?_map, hn] at ho
        have eo : (if n ≠ k then some (D.int n) else none) = o := Option.some.inj ho
        by_cases q : n ≠ k
        · rw [if_pos q] at eo
          subst eo
          refine ⟨fun s' H' C cl fp => t_is (t_ne (u_var 6 rfl) (u_ixT (u_var 2 rfl) u_int) rfl) (by simp [q]), fun y hy s' H' C cl fp => ?_⟩
          cases hy
          exact u_var 6 rfl
        · rw [if_neg q] at eo
          subst eo
          refine ⟨fun s' H' C cl fp => t_is (t_ne (u_var 6 rfl) (u_ixT (u_var 2 rfl) u_int) rfl) (by simp only [ne_eq, Decidable.not_not] at q; simp [q]), fun y hy => nomatch hy⟩
      · rw [keep_filter]
        exact b_ret (u_tup (ua_cons (u_ifF (t_eq (u_var 4 rfl) u_str) (u_tupOf Bt (u_sorted (ns := ns.filter (fun n => decide (n ≠ k)) ++ [k]) Bt (by rw [filter_no h2]; exact h3) (h4) (by have := (List.length_filter_le (fun n => decide (n ≠ k)) ns); simp only [List.length_append, List.length_cons, List.length_nil]; omega) (u_is (u_catL (zs := [.int k]) (by have := (List.length_filter_le (fun n => decide (n ≠ k)) ns); simp only [List.length_map, List.length_cons, List.length_nil]; exact small_le' (by omega)) (u_var 5 rfl) (u_ifT (t_eq (u_var 4 rfl) u_str) (u_lst (ua_cons (u_ixT (u_var 2 rfl) u_int) ua_nil)))) (by simp))))) (ua_cons (u_is (u_ne (u_inT (r := false) (u_ixT (u_var 2 rfl) u_int) (u_var 1 rfl) (by rw [any_int, decide_eq_false h2]) rfl all_fl) (u_eq (u_var 4 rfl) u_str rfl) rfl) (rfl)) ua_nil)))
    | @edrop m k ns h h1 =>
      refine hd (b_ifF (t_eq (u_var 3 rfl) u_str) (b_ifF (t_eq (u_var 4 rfl) u_str) (b_ifF (t_eq (u_var 3 rfl) u_str) (b_ifF (t_eq (u_var 3 rfl) u_str) (b_ifF (t_eq (u_var 3 rfl) u_str) (b_ifT (t_eq (u_var 3 rfl) u_str) (b_setC 5 (uf_lcI (i := 6) (ns.map fun n => if n ≠ k then some (D.int n) else none) sc_L_do.nd (ui_tup (u_var 1 rfl)) (blkOk_by (N := n_L_do) (sc := defScope s_L_do) (by decide +kernel)) (by rw [List.length_map, List.length_map]) (by rw [List.length_map]; exact small_lt (by omega)) ?_ ?_) ?_ (sw_true rfl rfl rfl (by decide +kernel)))))))))
      · exact left_noL
      · intro j d o hd ho
        obtain ⟨n, hn, _, rfl⟩ := map_get hd
        rw [List.getElem?_map, hn] at ho
        have eo : (if n ≠ k then some (D.int n) else none) = o := Option.some.inj ho
        by_cases q : n ≠ k
        · rw [if_pos q] at eo
          subst eo
          refine ⟨fun s' H' C cl fp => t_is (t_ne (u_var 6 rfl) (u_ixT (u_var 2 rfl) u_int) rfl) (by simp [q]), fun y hy s' H' C cl fp => ?_⟩
          cases hy
          exact u_var 6 rfl
        · rw [if_neg q] at eo
          subst eo
          refine ⟨fun s' H' C cl fp => t_is (t_ne (u_var 6 rfl) (u_ixT (u_var 2 rfl) u_int) rfl) (by simp only [ne_eq, Decidable.not_not] at q; simp [q]), fun y hy => nomatch hy⟩
      · rw [keep_filter]
        exact b_ret (u_tup (ua_cons (u_ifF (t_eq (u_var 4 rfl) u_str) (u_tupOf Bt (u_sorted (ns := ns.filter (fun n => decide (n ≠ k)) ++ []) Bt (by rw [List.append_nil]) ((h1.filter _).imp fun h => by omega) (by have := (List.length_filter_le (fun n => decide (n ≠ k)) ns); simp only [List.length_append, List.length_cons, List.length_nil]; omega) (u_is (u_catL (zs := []) (by have := (List.length_filter_le (fun n => decide (n ≠ k)) ns); simp only [List.length_map, List.length_cons, List.length_nil]; exact small_le' (by omega)) (u_var 5 rfl) (u_ifF (t_eq (u_var 4 rfl) u_str) (u_lst ua_nil))) (by simp))))) (ua_cons (u_is (u_ne (u_inT (r := decide (k ∈ ns)) (u_ixT (u_var 2 rfl) u_int) (u_var 1 rfl) (any_int) rfl all_fl) (u_eq (u_var 4 rfl) u_str rfl) rfl) (by cases decide (k ∈ ns) <;> rfl)) ua_nil)))
end
end P6
namespace P6
open PySem PySem.Spec PyProof.Rows L2 H6
section
variable {X : Cx} {Γ : List G} {a : Expr} {d : D} {pos p p2 p3 p4 : Pos}
theorem u_isiTL (B : Bs X.mg) {k1 k2 : Bool} {kk : Nat} (h : U X a Γ d) (hk1 : kitB (tyD d) "tuple" = some k1) (hk2 : kitB (tyD d) "list" = some k2) (hd : (tyD d == "") = false := by rfl) (hg : Gl X "isinstance" := by rfl) (hg1 : Gl X "tuple" := by rfl) (hg2 : Gl X "list" := by rfl)
    (hs : starEach [a, .Tuple [.Name "tuple" p2, .Name "list" p3] kk p4] X.env = (false, eval a X.env) :: starEach [.Tuple [.Name "tuple" p2, .Name "list" p3] kk p4] X.env := by rfl) (hpl : (backTo pos (starEach [.Tuple [.Name "tuple" p2, .Name "list" p3] kk p4] X.env)).any (·.1) = false := by rfl)
    (hs2 : starEach [.Name "tuple" p2, .Name "list" p3] X.env = (false, eval (.Name "tuple" p2) X.env) :: starEach [.Name "list" p3] X.env := by rfl) (hs3 : starEach [.Name "list" p3] X.env = (false, eval (.Name "list" p3) X.env) :: starEach [] X.env := by rfl)
    (hs4 : starEach [.Tuple [.Name "tuple" p2, .Name "list" p3] kk p4] X.env = (false, eval (.Tuple [.Name "tuple" p2, .Name "list" p3] kk p4) X.env) :: starEach [] X.env := by rfl) :
    U X (.Call (.Name "isinstance" p) [a, .Tuple [.Name "tuple" p2, .Name "list" p3] kk p4] [] pos) Γ (.bl (k1 || k2)) := by
  obtain ⟨t, h1, h2⟩ := h
  refine ⟨_, pe_callB call_isiT hg B.isi boot_isinstance (pa_cons h1 (pa_cons (pe_tup (pa_cons (pe_bltn (v := .ty "tuple") hg1 B.tuple boot_tuple rfl (by decide) (by decide)) (pa_cons (pe_bltn (v := .ty "list") hg2 B.list boot_list rfl (by decide) (by decide)) pa_nil hs3) hs2)) pa_nil hs4) hs) (he := hs) (hpl := hpl), fun σ H e Q q => h2 σ H e _ fun v H1 e1 r1 => ?_⟩
  refine ⟨by show 2 ≤ sizeLine; rw [sizeLine_eq]; decide, fun l hl => ?_⟩
  have s1 : Same H1 (upd H1 l (.tup [.ty "tuple", .ty "list"])) := Same.new hl
  refine ⟨v, l, [.ty "tuple", .ty "list"], .type (tyD d), [.type "tuple", .type "list"], k1 || k2, rfl, upd_same, .cons (.ty "tuple") (.cons (.ty "list") .nil), tyD_ok (r1.mono s1) hd, ?_, q _ _ (e1.trans s1) rfl⟩
  refine kitAny_cons (kit_ty hk1) (fun h => kitAny_cons (kit_ty hk2) (fun h' => ?_) (fun h' => ?_)) (fun h => ?_)
  · rw [h, h']
    exact kitAny_nil
  · rw [h, h']
    rfl
  · rw [h]
    rfl
end
/-- data of tuples so deep -/
inductive AL : Nat → D → Prop
  | non {n} : AL n .non
  | bl {n b} : AL n (.bl b)
  | int {n i} : AL n (.int i)
  | str {n s} : AL n (.str s)
  | tup {n ds} : (∀ d ∈ ds, AL n d) → ds.length ≤ 1000 → AL (n + 1) (.tup ds)
theorem AL.up {n : Nat} {d : D} (h : AL n d) : ∀ {m : Nat}, n ≤ m → AL m d := by
  induction h with
  | non => exact fun _ => .non
  | bl => exact fun _ => .bl
  | int => exact fun _ => .int
  | str => exact fun _ => .str
  | tup h hl ih =>
    intro m hm
    obtain ⟨m, rfl⟩ : ∃ k, m = k + 1 := ⟨m - 1, by omega⟩
    exact .tup (fun d hd => ih d hd (by omega)) hl
def rAlike (n : Nat) (ds : List D) (d : D) : Prop := ∃ x, ds = [x, x] ∧ AL n x ∧ d = .bl true
section
variable {P : Program} {w : World} {K : PySem.W.Frag} {mg : Str → Option Value} {base : Heap}
theorem cal_L_alike (S : Ctx K mg) : ∀ n : Nat, Cal P w K mg base "_law_alike" p_L_alike (n + 1) (spP (rAlike n)) := by
  intro n
  obtain ⟨fd, F⟩ := F_L_alike S
  have Bt := bs_of S
  induction n with
  | zero =>
    refine ⟨_, fd, fn_pure F sc_L_alike ?_ ?_, g_L_alike S, F.kp, bd_L_alike F⟩
    · rintro ds d ⟨x, rfl, _⟩
      rfl
    · rintro cdv A outer s0 H E hr ds d ⟨x, rfl, hx, rfl⟩
      refine .inl ?_
      cases hx with
      | non => exact b_ifF (t_val (u_isiTL (k1 := false) (k2 := false) Bt (u_var 1 rfl) (by decide +kernel) (by decide +kernel))) (b_ifT (t_w (w_orT (t_is (t_isN (u_var 1 rfl)) rfl))) (b_ret (u_and (u_eq (u_var 0 rfl) (u_var 1 rfl) rfl) (u_one (u_eq (u_isi Bt Bt.str boot_str (u_var 0 rfl) (k := false) (by decide +kernel)) (u_isi Bt Bt.str boot_str (u_var 1 rfl) (k := false) (by decide +kernel)))))))
      | str => exact b_ifF (t_val (u_isiTL (k1 := false) (k2 := false) Bt (u_var 1 rfl) (by show kitB "str" "tuple" = _; decide +kernel) (by show kitB "str" "list" = _; decide +kernel))) (b_ifT (t_w (w_or (t_is (t_isN (u_var 1 rfl)) rfl) (w_or1 (t_val (u_isi Bt Bt.str boot_str (u_var 1 rfl) kb_ss))))) (b_ret (u_and (u_is (u_eq (u_var 0 rfl) (u_var 1 rfl) rfl) (by simp)) (u_one (u_eq (u_isi Bt Bt.str boot_str (u_var 0 rfl) kb_ss) (u_isi Bt Bt.str boot_str (u_var 1 rfl) kb_ss))))))
      | int => exact b_ifF (t_val (u_isiTL (k1 := false) (k2 := false) Bt (u_var 1 rfl) (by show kitB "int" "tuple" = _; decide +kernel) (by show kitB "int" "list" = _; decide +kernel))) (b_ifF (t_w (w_or (t_is (t_isN (u_var 1 rfl)) rfl) (w_or1 (t_val (u_isi Bt Bt.str boot_str (u_var 1 rfl) (k := false) (by show kitB "int" "str" = _; decide +kernel)))))) (b_ret (u_and (u_isi Bt Bt.int boot_int (u_var 0 rfl) kb_ii) (u_and (u_eq (u_isi Bt Bt.bool boot_bool (u_var 0 rfl) kb_ib) (u_isi Bt Bt.bool boot_bool (u_var 1 rfl) kb_ib)) (u_one (u_is (u_eq (u_var 0 rfl) (u_var 1 rfl) eqS_ii) (by simp)))))))
      | bl => exact b_ifF (t_val (u_isiTL (k1 := false) (k2 := false) Bt (u_var 1 rfl) (by show kitB "bool" "tuple" = _; decide +kernel) (by show kitB "bool" "list" = _; decide +kernel))) (b_ifF (t_w (w_or (t_is (t_isN (u_var 1 rfl)) rfl) (w_or1 (t_val (u_isi Bt Bt.str boot_str (u_var 1 rfl) (k := false) (by show kitB "bool" "str" = _; decide +kernel)))))) (b_ret (u_and (u_isi Bt Bt.int boot_int (u_var 0 rfl) (k := true) (by show kitB "bool" "int" = _; decide +kernel)) (u_and (u_eq (u_isi Bt Bt.bool boot_bool (u_var 0 rfl) (k := true) (by show kitB "bool" "bool" = _; decide +kernel)) (u_isi Bt Bt.bool boot_bool (u_var 1 rfl) (k := true) (by show kitB "bool" "bool" = _; decide +kernel))) (u_one (u_is (u_eq (u_var 0 rfl) (u_var 1 rfl) rfl) (by simp)))))))
  | succ n ih =>
    refine ⟨_, fd, fn_pure F sc_L_alike ?_ ?_, g_L_alike S, F.kp, bd_L_alike F⟩
    · rintro ds d ⟨x, rfl, _⟩
      rfl
    · rintro cdv A outer s0 H E hr ds d ⟨x, rfl, hx, rfl⟩
      refine .inl ?_
      cases hx with
      | non => exact b_ifF (t_val (u_isiTL (k1 := false) (k2 := false) Bt (u_var 1 rfl) (by decide +kernel) (by decide +kernel))) (b_ifT (t_w (w_orT (t_is (t_isN (u_var 1 rfl)) rfl))) (b_ret (u_and (u_eq (u_var 0 rfl) (u_var 1 rfl) rfl) (u_one (u_eq (u_isi Bt Bt.str boot_str (u_var 0 rfl) (k := false) (by decide +kernel)) (u_isi Bt Bt.str boot_str (u_var 1 rfl) (k := false) (by decide +kernel)))))))
      | str => exact b_ifF (t_val (u_isiTL (k1 := false) (k2 := false) Bt (u_var 1 rfl) (by show kitB "str" "tuple" = _; decide +kernel) (by show kitB "str" "list" = _; decide +kernel))) (b_ifT (t_w (w_or (t_is (t_isN (u_var 1 rfl)) rfl) (w_or1 (t_val (u_isi Bt Bt.str boot_str (u_var 1 rfl) kb_ss))))) (b_ret (u_and (u_is (u_eq (u_var 0 rfl) (u_var 1 rfl) rfl) (by simp)) (u_one (u_eq (u_isi Bt Bt.str boot_str (u_var 0 rfl) kb_ss) (u_isi Bt Bt.str boot_str (u_var 1 rfl) kb_ss))))))
      | int => exact b_ifF (t_val (u_isiTL (k1 := false) (k2 := false) Bt (u_var 1 rfl) (by show kitB "int" "tuple" = _; decide +kernel) (by show kitB "int" "list" = _; decide +kernel))) (b_ifF (t_w (w_or (t_is (t_isN (u_var 1 rfl)) rfl) (w_or1 (t_val (u_isi Bt Bt.str boot_str (u_var 1 rfl) (k := false) (by show kitB "int" "str" = _; decide +kernel)))))) (b_ret (u_and (u_isi Bt Bt.int boot_int (u_var 0 rfl) kb_ii) (u_and (u_eq (u_isi Bt Bt.bool boot_bool (u_var 0 rfl) kb_ib) (u_isi Bt Bt.bool boot_bool (u_var 1 rfl) kb_ib)) (u_one (u_is (u_eq (u_var 0 rfl) (u_var 1 rfl) eqS_ii) (by simp)))))))
      | bl => exact b_ifF (t_val (u_isiTL (k1 := false) (k2 := false) Bt (u_var 1 rfl) (by show kitB "bool" "tuple" = _; decide +kernel) (by show kitB "bool" "list" = _; decide +kernel))) (b_ifF (t_w (w_or (t_is (t_isN (u_var 1 rfl)) rfl) (w_or1 (t_val (u_isi Bt Bt.str boot_str (u_var 1 rfl) (k := false) (by show kitB "bool" "str" = _; decide +kernel)))))) (b_ret (u_and (u_isi Bt Bt.int boot_int (u_var 0 rfl) (k := true) (by show kitB "bool" "int" = _; decide +kernel)) (u_and (u_eq (u_isi Bt Bt.bool boot_bool (u_var 0 rfl) (k := true) (by show kitB "bool" "bool" = _; decide +kernel)) (u_isi Bt Bt.bool boot_bool (u_var 1 rfl) (k := true) (by show kitB "bool" "bool" = _; decide +kernel))) (u_one (u_is (u_eq (u_var 0 rfl) (u_var 1 rfl) rfl) (by simp)))))))
      | @tup _ ds hds hl =>
        have ktt : kitB (tyD (.tup ds)) "tuple" = some true := kb_tt
        have ktl : kitB (tyD (.tup ds)) "list" = some false := by show kitB "tuple" "list" = _; decide +kernel
        have e : keepD (ds.map fun _ => (none : Option D)) = [] := by
          unfold keepD
          rw [List.filterMap_map]
          induction ds with
          | nil => rfl
          | cons d ds ih2 => exact List.filterMap_eq_nil_iff.mpr fun x hx => rfl
        refine b_ifT (t_val (u_isiTL (k1 := true) (k2 := false) Bt (u_var 1 rfl) ktt ktl)) (b_ifF (t_w (w_or (t_notT (t_val (u_isiTL (k1 := true) (k2 := false) Bt (u_var 0 rfl) ktt ktl))) (w_or1 (t_is (t_ne (u_isi Bt Bt.list boot_list (u_var 0 rfl) ktl) (u_isi Bt Bt.list boot_list (u_var 1 rfl) ktl) rfl) rfl)))) (b_ifF (t_is (t_ne (u_len Bt (u_var 0 rfl)) (u_len Bt (u_var 1 rfl)) eqS_ii) (by simp)) (b_ret (u_eqD (x := .lst []) (y := .lst []) hr rfl rfl (u_is (u_lcI (i := 2) (ds.map fun _ => none) sc_L_alike.nd (ui_rng1 Bt (u_len Bt (u_var 1 rfl)) (by omega)) (blkOk_by (N := n_L_alike) (sc := defScope s_L_alike) (by decide +kernel)) (by rw [List.length_map, rgD_len]) (by rw [rgD_len]; exact small_lt (by omega)) ?_ ?_) (by rw [e])) (u_lst ua_nil) rfl))))
        · intro o ho d e
          obtain ⟨_, _, h2⟩ := List.mem_map.mp ho
          rw [← h2] at e
          cases e
        · intro j d o hd ho
          obtain ⟨hj, rfl⟩ := rgD_at hd
          rw [Int.zero_add]
          have hx := List.getElem?_eq_getElem hj
          rw [List.getElem?_map, hx] at ho
          cases ho
          refine ⟨fun s' H' C cl fp => t_notT (t_val (u_call ih hr (ua_cons (u_ixT (u_var 0 rfl) (u_var 2 rfl) (atI_nat hx)) (ua_cons (u_ixT (u_var 1 rfl) (u_var 2 rfl) (atI_nat hx)) ua_nil)) ⟨_, rfl, hds _ (List.getElem_mem hj), rfl⟩)), fun y hy => nomatch hy⟩
end
end P6
namespace P6
open PySem PySem.Spec PyProof.Rows L2
/-! ### an own object takes another's place -/
def rnI (k l : Nat) : I2 → I2
  | .own j => if j = l then .own k else .own j
  | x => x
def rnO (k l : Nat) : OH → OH
  | .lst xs => .lst (xs.map (rnI k l))
  | .dic ks xs => .dic ks (xs.map (rnI k l))
section
variable {A : Ad} {H : Hp} {ms : List D} {d : D} {hi : List OH} {L : List Addr} {p : Addr} {k : Nat}
theorem mv_get {j : Nat} {a : Addr} (hA : A.lo = L ++ [p]) (h : A.lo[j]? = some a) (hj : j ≠ k) (hl : j ≠ L.length) : (L.set k p)[j]? = some a := by
  rw [List.getElem?_set_ne (Ne.symm hj)]
  rw [hA] at h
  rcases app_get h with h | ⟨h, _⟩
  · exact h
  · exact absurd h hl
theorem mv_all (hA : A.lo = L ++ [p]) {b : Addr} (h : b ∈ (Ad.mk (L.set k p) A.hi).all) : b ∈ A.all := by
  rcases List.mem_append.mp h with h | h
  · refine List.mem_append.mpr (.inl ?_)
    rw [hA]
    rcases List.mem_or_eq_of_mem_set h with h | h
    · exact List.mem_append.mpr (.inl h)
    · exact List.mem_append.mpr (.inr (by simp [h]))
  · exact List.mem_append.mpr (.inr h)
theorem mv_same (hA : A.lo = L ++ [p]) : Same (delA A.all H) (delA (Ad.mk (L.set k p) A.hi).all H) := fun b o hb => by
  obtain ⟨k1, k2⟩ := delA_get hb
  rw [delA_out fun z => k1 (mv_all hA z)]
  exact k2
theorem ItRs.rn {F F' : Hp} (hA : A.lo = L ++ [p]) (hk : k < L.length) (e : Same F F') : ∀ {xs : List I2} {vs : List V}, (∀ j, .own j ∈ xs → j ≠ k) → ItRs F A xs vs → ItRs F' ⟨L.set k p, A.hi⟩ (xs.map (rnI k L.length)) vs
  | [], _, _, h => h
  | x :: xs, _, q, ⟨v, r, h1, h2, h3⟩ => by
    refine ⟨v, r, h1, ?_, ItRs.rn hA hk e (fun j h => q j (List.mem_cons_of_mem _ h)) h3⟩
    cases x with
    | dat d => exact Rep.mono e h2
    | own j =>
      obtain ⟨a, h4, h5⟩ := h2
      have nk := q j List.mem_cons_self
      by_cases hj : j = L.length
      · have ea : a = p := by
          rw [hA, hj, get_last] at h4
          exact (Option.some.inj h4).symm
        subst ea
        show ItR F' _ (if j = L.length then .own k else .own j) v
        rw [if_pos hj]
        exact ⟨a, List.getElem?_set_self hk, h5⟩
      · show ItR F' _ (if j = L.length then .own k else .own j) v
        rw [if_neg hj]
        exact ⟨a, mv_get hA h4 nk hj, h5⟩
theorem nodup_set {p : Addr} : ∀ {L : List Addr} (k : Nat), L.Nodup → ¬ p ∈ L → (L.set k p).Nodup
  | [], _, h, _ => h
  | a :: L, 0, h, q => List.nodup_cons.mpr ⟨fun z => q (List.mem_cons_of_mem _ z), (List.nodup_cons.mp h).2⟩
  | a :: L, k + 1, h, q => by
    refine List.nodup_cons.mpr ⟨fun z => ?_, nodup_set k (List.nodup_cons.mp h).2 fun z => q (List.mem_cons_of_mem _ z)⟩
    rcases List.mem_or_eq_of_mem_set z with z | z
    · exact (List.nodup_cons.mp h).1 z
    · exact q (z ▸ List.mem_cons_self)
theorem HM.move (hA : A.lo = L ++ [p]) (m : HM A ⟨ms ++ [d], hi⟩ H) (hk : k < ms.length) (hr : ∀ o ∈ hi, ∀ j, .own j ∈ o.its → j ≠ k) : HM ⟨L.set k p, A.hi⟩ ⟨ms.set k d, hi.map (rnO k ms.length)⟩ H := by
  have l1 : L.length = ms.length := by have := m.l1; rw [hA] at this; simpa using this
  have nd := m.nd
  unfold Ad.all at nd
  rw [hA] at nd
  have nd1 := List.nodup_append.mp nd
  have nd2 := List.nodup_append.mp nd1.1
  have pL : ¬ p ∈ L := fun z => nd2.2.2 p z p (by simp) rfl
  refine ⟨by simp [l1], by rw [List.length_map]; exact m.l2, ?_, fun j b d' h1 h2 => ?_, fun j b o' h1 h2 => ?_⟩
  · show (L.set k p ++ A.hi).Nodup
    refine List.nodup_append.mpr ⟨?_, nd1.2.1, fun a ha b hb => ?_⟩
    · exact nodup_set k nd2.1 pL
    · refine nd1.2.2 a ?_ b hb
      rcases List.mem_or_eq_of_mem_set ha with h | h
      · exact List.mem_append.mpr (.inl h)
      · exact List.mem_append.mpr (.inr (by simp [h]))
  · by_cases ej : j = k
    · subst ej
      rw [List.getElem?_set_self (by omega)] at h1
      rw [List.getElem?_set_self hk] at h2
      cases h1
      cases h2
      exact (m.lo ms.length _ _ (by rw [hA, ← l1]; exact get_last) get_last).mono (mv_same hA) fun _ h => h
    · rw [List.getElem?_set_ne (Ne.symm ej)] at h1 h2
      exact (m.lo j b d' (by rw [hA]; exact get_app h1) (get_app h2)).mono (mv_same hA) fun _ h => h
  · rw [List.getElem?_map] at h2
    cases q : hi[j]? with
    | none => rw [q] at h2; cases h2
    | some o =>
      rw [q] at h2
      cases h2
      have := m.hi j b o h1 q
      have ho := hr o (List.mem_of_getElem? q)
      cases o with
      | lst xs =>
        obtain ⟨vs, k1, k2⟩ := this
        exact ⟨vs, k1, by rw [← l1]; exact ItRs.rn hA (by omega) (mv_same hA) ho k2⟩
      | dic ks xs =>
        obtain ⟨vs, k1, k2, k3⟩ := this
        exact ⟨vs, k1, by rw [List.length_map]; exact k2, by rw [← l1]; exact ItRs.rn hA (by omega) (mv_same hA) ho k3⟩
end
/-! ### a dict's display, new -/
def UDic (X : Cx) (e : Expr) (Γ : List G) (ks : List Str) (ds : List D) : Prop := ∃ t, PE X e t ∧ ∀ σ H, EnvR H Γ σ → ∀ Q : VK, (∀ p H1 vs, Same H H1 → H p = none → H1 p = none → ks.length = ds.length → Reps H1 ds vs → Q (.ref p) (upd H1 p (.dK (kz ks vs)))) → t σ H Q
theorem noL_del {H : Hp} {p : Addr} {kvs : List (Key × V)} (hp : H p = some (.dK kvs)) {ds : List D} {vs : List V} (n : noLs ds = true) (r : Reps H ds vs) : Reps (del H p) ds vs := by
  refine Reps.monoT (fun a xs h => ?_) n r
  rw [del_ne (ne_of h hp fun z => nomatch z)]
  exact h
theorem ud_dic {X : Cx} {Γ : List G} {pos : Pos} {keys : List (Option Expr)} {values : List Expr} {ks : List Str} {ds : List D} (h : UP X pos keys values Γ ks ds) (hn : noLs ds = true) (hall : keys.all (·.isSome) = true := by rfl) (hl : keys.length = values.length := by rfl) (h0 : keys ≠ [] := by exact fun z => nomatch z) (h15 : keys.length ≤ 15 := by decide) (hk : ks.length = ds.length := by rfl) (nd : ks.Nodup := by decide +kernel) (hk2 : ks.length ≤ 15 := by decide) : UDic X (.Dict keys values pos) Γ ks ds := by
  obtain ⟨trs, h1, h2⟩ := h
  refine ⟨_, pe_disp h1 hall hl h0 h15, fun σ H e Q q => fun p hp => h2 σ _ (e.mono (Same.new hp)) _ fun vs H1 e1 r1 => ?_⟩
  have hp1 : H1 p = some (.dK []) := e1 _ _ upd_same
  refine ⟨hp1, kz ks vs, rfl, Nat.le_trans kz_length hk2, ?_⟩
  have em := merge_kz (acc := []) nd (by rw [hk, r1.length]) (fun _ _ => rfl)
  rw [em]
  have r2 := noL_del hp1 hn r1
  have q2 := q p (del H1 p) vs (fun b o hb => by rw [del_ne (ne_of_none hb hp)]; exact e1 _ _ (by rw [upd_ne (ne_of_none hb hp)]; exact hb)) hp del_same hk r2
  have eU : upd (del H1 p) p (.dK (kz ks vs)) = upd H1 p (.dK (kz ks vs)) := by
    funext b
    by_cases e : b = p
    · subst e; rw [upd_same, upd_same]
    · rw [upd_ne e, upd_ne e, del_ne e]
  rw [eU] at q2
  exact q2
section
variable {X : Cx} {n : Nat} {Γ : List GW} {M : Mem} {a b e : Expr} {rest : List Stmt} {ks : List Str} {ds : List D} {pos p' : Pos} {R : D → Option Mem → Prop} {N : List GW → Mem → Prop} {k j t : Nat} {z : Int} {xs : List I2}
/-- threads[t] = {..}: the new dict takes the old one's place -/
theorem bw_replace (he : UDic X e (Γ.map (gP M)) ks ds) (hn : noLs ds = true) (ha : EG X a Γ ⟨M.lo ++ [.dic ks ds], M.hi⟩ (eqP (.hi t) ⟨M.lo ++ [.dic ks ds], M.hi⟩)) (ht : M.hi[t]? = some (.lst xs)) (hb : U X b (Γ.map (gP ⟨M.lo ++ [.dic ks ds], M.hi⟩)) (.int z)) (hz : ixN xs.length z = some j) (hk : k < M.lo.length)
    (hM : (M.hi.set t (.lst (xs.set j (.own M.lo.length)))).map (rnO k M.lo.length) = M.hi) (hr : ∀ o ∈ M.hi.set t (.lst (xs.set j (.own M.lo.length))), ∀ i, .own i ∈ o.its → i ≠ k) (hkn : ¬ (k < 4 ∨ 4 + n ≤ k))
    (hg : ∀ g ∈ Γ, GOk n g) (h : BW n X rest Γ ⟨M.lo.set k (.dic ks ds), M.hi⟩ R N)
    (hs : swapsWithSole [.Subscript a b p'] e pos.line X.env = pure false := by rfl) (hw : swappedStores [.Subscript a b p'] e X.env = pure none := by rfl)
    (h1 : (assignEach [.Subscript a b p'] X.env).map (·.2) = [assign (.Subscript a b p') X.env] := by rfl)
    (hsub : ∀ v, assign (.Subscript a b p') X.env v = (do
      let ov ← holding [v] (eval a X.env)
      let iv ← holding [v, ov] (eval b X.env)
      standAt p'
      holding [v, ov, iv] (setItem ov iv v)
      release [v, ov, iv] []) := by intro _; rfl) : BW n X (.Assign [.Subscript a b p'] e pos :: rest) Γ M R N := by
  obtain ⟨te, he1, he2⟩ := he
  obtain ⟨tb, hb1, hb2⟩ := hb
  refine bw_of (pss_cons (ps_asg he1 (pg_sub pe_sem hb1 set_list hsub) hs hw h1) (ps_sem (X := X) (st := rest))) fun σ H A E m e q => he2 σ H (m.env e) _ fun p H1 vs e1 hp hp1 hks r1 => ?_
  have m1 := m.same e1
  have mA := m1.addLo (o := .dK (kz ks vs)) (d := .dic ks ds) hp1 ⟨vs, upd_same, hks, m1.reps hn r1⟩
  have fA : Fr 0 A H ⟨A.lo ++ [p], A.hi⟩ (upd H1 p (.dK (kz ks vs))) := (Fr.grow e1).trans (Fr.addLo hp1)
  refine ha σ _ _ mA (fA.env gok0 e) _ fun v H2 A2 g M2 p2 f2 m2 r2 => ?_
  obtain ⟨rfl, rfl⟩ := p2
  obtain ⟨l, h5, h6⟩ := r2
  cases h6
  have f02 := fA.trans f2
  refine hb2 σ H2 (m2.env (f02.env gok0 e)) _ fun u H3 e3 r3 => ?_
  have m3 := m2.same e3
  have f03 := f02.trans (Fr.grow e3)
  obtain ⟨ws, k1, k2⟩ := m3.hi t l _ h5 ht
  have hp2 : A2.lo[M.lo.length]? = some p := f2.lo _ _ (by rw [← m.l1]; exact get_last) (by omega)
  refine ⟨l, ws, z, j, rfl, r3, k1, by rw [k2.length]; exact hz, ?_⟩
  have m4 := m3.setHi (o := .lst (ws.set j (.ref p))) (d := .lst (xs.set j (.own M.lo.length))) h5 ⟨_, upd_same, ItRs.set (x := .own M.lo.length) ⟨p, hp2, rfl⟩ j k2⟩
  have f04 : Fr 0 A H A2 (upd H3 l (.lst (ws.set j (.ref p)))) := f03.trans (Fr.upd (hi_all h5))
  obtain ⟨L, hL, lL⟩ := lo_snoc m4.l1 hp2
  have m5 := HM.move hL m4 hk hr
  rw [hM] at m5
  have f05 : Fr n A H ⟨L.set k p, A2.hi⟩ (upd H3 l (.lst (ws.set j (.ref p)))) := by
    refine ⟨f04.s.trans (mv_same hL), fun b hb => f04.f b (mv_all hL hb), f04.hi, fun i b hi q => ?_⟩
    have := (List.getElem?_eq_some_iff.mp hi).1
    have hl := m.l1
    exact mv_get hL (f04.lo i b hi (by omega)) (fun z => hkn (z ▸ q)) (by omega)
  exact h σ _ _ E m5 (f05.env hg e) (q.mono f05)
end
end P6
namespace P6
open PySem PySem.Spec PyProof.Rows L2 H6
/-! ### the law's memory -/
structure LM where
  dn : D
  hr : D
  tl : D
  lg : D
  ths : List D
  rest : List D
  sh : OH
  rh : List OH
def owns (n : Nat) : List I2 := (List.range n).map fun i => .own (i + 4)
def LM.m (x : LM) : Mem := ⟨x.dn :: x.hr :: x.tl :: x.lg :: (x.ths ++ x.rest), x.sh :: .lst (owns x.ths.length) :: x.rh⟩
theorem owns_get {n u : Nat} (h : u < n) : (owns n)[u]? = some (.own (u + 4)) := by
  unfold owns
  rw [List.getElem?_map, List.getElem?_range h]
  rfl
theorem owns_len {n : Nat} : (owns n).length = n := by simp [owns]
theorem owns_mem {n k : Nat} (h : I2.own k ∈ owns n) : 4 ≤ k ∧ k < n + 4 := by
  unfold owns at h
  obtain ⟨i, h1, h2⟩ := List.mem_map.mp h
  cases h2
  have := List.mem_range.mp h1
  omega
structure LMok (x : LM) : Prop where
  sh : ∀ k, .own k ∈ x.sh.its → k < 4
  rh : ∀ o ∈ x.rh, ∀ k, .own k ∈ o.its → x.ths.length + 4 ≤ k ∧ k < x.ths.length + 4 + x.rest.length
section
variable {x : LM} {u j : Nat} {d d' : D}
theorem LM.own (h : x.ths[u]? = some d) : x.m.lo[u + 4]? = some d := by
  show (x.ths ++ x.rest)[u]? = some d
  rw [List.getElem?_append_left (List.getElem?_eq_some_iff.mp h).1]
  exact h
theorem LM.setOwn (h : x.ths[u]? = some d') : (⟨x.m.lo.set (u + 4) d, x.m.hi⟩ : Mem) = ({ x with ths := x.ths.set u d } : LM).m := by
  have h1 := (List.getElem?_eq_some_iff.mp h).1
  show (⟨x.dn :: x.hr :: x.tl :: x.lg :: (x.ths ++ x.rest).set u d, _⟩ : Mem) = ⟨x.dn :: x.hr :: x.tl :: x.lg :: (x.ths.set u d ++ x.rest), x.sh :: .lst (owns (x.ths.set u d).length) :: x.rh⟩
  rw [List.set_append_left _ _ h1, List.length_set]
  rfl
theorem LM.re (h : x.rest[j]? = some d) : x.m.lo[j + x.ths.length + 4]? = some d := by
  show (x.ths ++ x.rest)[j + x.ths.length]? = some d
  rw [List.getElem?_append_right (by omega)]
  rw [show j + x.ths.length - x.ths.length = j by omega]
  exact h
theorem LM.setRe : (⟨x.m.lo.set (j + x.ths.length + 4) d, x.m.hi⟩ : Mem) = ({ x with rest := x.rest.set j d } : LM).m := by
  show (⟨x.dn :: x.hr :: x.tl :: x.lg :: (x.ths ++ x.rest).set (j + x.ths.length) d, _⟩ : Mem) = ⟨x.dn :: x.hr :: x.tl :: x.lg :: (x.ths ++ x.rest.set j d), _⟩
  rw [List.set_append_right _ _ (by omega), show j + x.ths.length - x.ths.length = j by omega]
  rfl
theorem ixN_nat {n u : Nat} (h : u < n) : ixN n (u : Int) = some u := by
  unfold ixN
  rw [if_pos (by omega), if_pos (by omega)]
  simp
theorem LM.thr (h : x.ths[u]? = some d) : atI ((owns x.ths.length).map (gI x.m.lo)) (u : Int) = some d := by
  have h1 := (List.getElem?_eq_some_iff.mp h).1
  refine atI_nat ?_
  rw [List.getElem?_map, owns_get h1]
  show some (x.m.lo.getD (u + 4) .non) = some d
  rw [List.getD_eq_getElem?_getD, LM.own h]
  rfl
end
def thD (e : Nat) (ph : Str) (seen pick : D) : D := .dic ["ended", "next", "seen", "pick"] [.int e, .str ph, seen, pick]
def ansD (u : Nat) (a : D) : D := .tup [.str "answer", .int u, a]
def rEnds (gs : List GW) (M : Mem) (P : D → Mem → Prop) (n : Nat) : Prop := ∃ (x : LM) (u j e : Nat) (ph : Str) (seen pick a : D) (es : List D), gs = [.hi 1, .d (.int u), .lo (j + x.ths.length + 4), .d a] ∧ M = x.m ∧ n = x.ths.length ∧ LMok x ∧ x.ths[u]? = some (thD e ph seen pick) ∧ x.rest[j]? = some (.lst es) ∧ es.length ≤ 900 ∧ noL a = true ∧
  P = fun d M' => d = .non ∧ M' = ({ x with rest := x.rest.set j (.lst (es ++ [ansD u a])), ths := x.ths.set u (thD (e + 1) "begin" .non .non) } : LM).m
theorem lm_ren {x : LM} (ok : LMok x) {u len : Nat} (hu : u < x.ths.length) (hl : len = x.m.lo.length) :
    (x.m.hi.set 1 (.lst ((owns x.ths.length).set u (.own len)))).map (rnO (u + 4) len) = x.m.hi ∧ ∀ o ∈ x.m.hi.set 1 (.lst ((owns x.ths.length).set u (.own len))), ∀ i, .own i ∈ o.its → i ≠ u + 4 := by
  have hlen : len = x.ths.length + x.rest.length + 4 := by
    rw [hl]
    show (x.dn :: x.hr :: x.tl :: x.lg :: (x.ths ++ x.rest)).length = _
    simp
  have keep : ∀ {xs : List I2}, (∀ k, .own k ∈ xs → k ≠ len) → xs.map (rnI (u + 4) len) = xs := by
    intro xs h
    refine (List.map_congr_left (g := id) fun y hy => ?_).trans (List.map_id _)
    cases y with
    | dat d => rfl
    | own k =>
      show (if k = len then I2.own (u + 4) else .own k) = _
      rw [if_neg (h k hy)]
      rfl
  have keepO : ∀ {o : OH}, (∀ k, .own k ∈ o.its → k ≠ len) → rnO (u + 4) len o = o := by
    intro o h
    cases o with
    | lst xs => exact congrArg OH.lst (keep h)
    | dic ks xs => exact congrArg (OH.dic ks) (keep h)
  refine ⟨?_, ?_⟩
  · show rnO (u + 4) len x.sh :: OH.lst (((owns x.ths.length).set u (.own len)).map (rnI (u + 4) len)) :: x.rh.map (rnO (u + 4) len) = x.sh :: .lst (owns x.ths.length) :: x.rh
    rw [keepO fun k hk => by have := ok.sh k hk; omega]
    have e1 : ((owns x.ths.length).set u (.own len)).map (rnI (u + 4) len) = owns x.ths.length := by
      apply List.ext_getElem?
      intro i
      rw [List.getElem?_map]
      by_cases hi : i < x.ths.length
      · by_cases e : i = u
        · subst e
          rw [List.getElem?_set_self (by rw [owns_len]; exact hi), owns_get hi]
          show some (if len = len then I2.own (i + 4) else .own len) = _
          rw [if_pos rfl]
        · rw [List.getElem?_set_ne (Ne.symm e), owns_get hi]
          show some (if i + 4 = len then I2.own (u + 4) else .own (i + 4)) = _
          rw [if_neg (by omega)]
      · rw [List.getElem?_eq_none (by rw [List.length_set, owns_len]; omega), List.getElem?_eq_none (by rw [owns_len]; omega)]
        rfl
    rw [e1]
    have e2 : x.rh.map (rnO (u + 4) len) = x.rh := (List.map_congr_left (g := id) fun o ho => keepO fun k hk => by have := ok.rh o ho k hk; omega).trans (List.map_id _)
    rw [e2]
  · intro o ho i hi
    have ho : o ∈ x.sh :: OH.lst ((owns x.ths.length).set u (.own len)) :: x.rh := ho
    rcases List.mem_cons.mp ho with rfl | ho
    · have := ok.sh i hi
      omega
    · rcases List.mem_cons.mp ho with rfl | ho
      · obtain ⟨y, hy⟩ := List.mem_iff_getElem?.mp (show I2.own i ∈ (owns x.ths.length).set u (.own len) from hi)
        by_cases e : y = u
        · subst e
          rw [List.getElem?_set_self (by rw [owns_len]; exact hu)] at hy
          cases hy
          omega
        · rw [List.getElem?_set_ne (Ne.symm e)] at hy
          have hy2 := (List.getElem?_eq_some_iff.mp hy).1
          rw [owns_len] at hy2
          rw [owns_get hy2] at hy
          cases hy
          omega
      · have := ok.rh o ho i hi
        omega
section
variable {P : Program} {w : World} {K : PySem.W.Frag} {mg : Str → Option Value} {base : Heap}
theorem cal_L_ends (S : Ctx K mg) : Cal P w K mg base "_law_ends" p_L_ends 1 (spW rEnds) := by
  obtain ⟨fd, F⟩ := F_L_ends S
  have Bt := bs_of S
  refine ⟨_, fd, fn_W F sc_L_ends ?_ ?_, g_L_ends S, F.kp, bd_L_ends F⟩
  · rintro gs M Pq n ⟨x, u, j, e, ph, seen, pick, a, es, rfl, _⟩
    rfl
  · rintro cdv A outer s H E hr gs M Pq n ⟨x, u, j, e, ph, seen, pick, a, es, rfl, rfl, rfl, ok, ht, hj, hl, na, rfl⟩
    have hu := hu_of hr
    have h1 := (List.getElem?_eq_some_iff.mp ht).1
    refine bw_append (k := j + x.ths.length + 4) (eg_var 2 rfl) (eg_U (u_tup (ua_cons u_str (ua_cons (u_var 1 rfl) (ua_cons (u_var 3 rfl) ua_nil)))) (noL_tup (noLs_cons rfl (noLs_cons rfl (noLs_cons na rfl))))) ?_ ⟨_, LM.re hj⟩
    rintro g M1 ⟨rfl, rfl⟩
    refine ⟨_, es, rfl, LM.re hj, by omega, ?_⟩
    rw [LM.setRe]
    obtain ⟨y, hy⟩ : ∃ y : LM, y = { x with rest := x.rest.set j (.lst (es ++ [ansD u a])) } := ⟨_, rfl⟩
    have hyt : y.ths = x.ths := by rw [hy]
    have oky : LMok y := by
      rw [hy]
      exact ⟨ok.sh, fun o ho k hk => by have := ok.rh o ho k hk; simpa using this⟩
    have hty : y.ths[u]? = some (thD e ph seen pick) := by rw [hyt]; exact ht
    have e0 : ({ x with rest := x.rest.set j (.lst (es ++ [ansD u a])) } : LM).m = y.m := by rw [hy]
    show BW _ _ _ _ ({ x with rest := x.rest.set j (.lst (es ++ [ansD u a])) } : LM).m _ _
    rw [e0]
    obtain ⟨r1, r2⟩ := lm_ren oky (u := u) (by rw [hyt]; exact h1) rfl
    refine bw_replace (t := 1) (k := u + 4) (j := u) (z := u) (xs := owns y.ths.length) (ud_dic (up_cons (d := .int ((e + 1 : Nat) : Int)) (u_is (u_add (u_dget hu (u_ixL (u_var 0 (gv rfl (gP_hi (o := .lst (owns y.ths.length)) rfl))) (u_var 1 rfl) (LM.thr hty)) u_str 0) u_int) (by simp)) (up_cons u_str (up_cons u_non (up_cons u_non up_nil)))) rfl) rfl (eg_var 0 rfl) rfl (u_var 1 rfl) ?_ ?_ r1 r2 ?_ ?_ (bw_nil ⟨rfl, ?_⟩)
    · exact ixN_nat (by rw [owns_len, hyt]; exact h1)
    · show u + 4 < (y.dn :: y.hr :: y.tl :: y.lg :: (y.ths ++ y.rest)).length
      rw [hyt]
      simp
      omega
    · omega
    · intro g hg
      simp only [List.mem_append, List.mem_cons, List.not_mem_nil, or_false] at hg
      rcases hg with (rfl | rfl | rfl | rfl) | hg
      · exact True.intro
      · exact True.intro
      · show _ ∨ _
        omega
      · exact True.intro
      · have := List.eq_of_mem_replicate hg
        subst this
        exact True.intro
    · rw [LM.setOwn hty, hy]
      rfl
end
end P6
namespace P6
open PySem PySem.Spec PyProof.Rows L2 H6
inductive Ph where
  | beg | tak | rea | wri | swa | giv
def phS : Ph → Str
  | .beg => "begin"
  | .tak => "take"
  | .rea => "read"
  | .wri => "write"
  | .swa => "swap"
  | .giv => "give"
structure LT where
  e : Nat
  ph : Ph
  seen : D
  pick : D
def LT.d (l : LT) : D := thD l.e (phS l.ph) l.seen l.pick
def LT.new (e : Nat) : LT := ⟨e, .beg, .non, .non⟩
structure LS where
  st : D
  ct : Nat
  dn : List Nat
  hr : List D
  lk : Option Nat
  lg : List (Nat × Nat)
  th : List LT
def natD (n : Nat) : D := .int n
def shK : List Str := ["state", "count", "done", "heard", "told", "lock", "log"]
def shX (st : D) (ct : Nat) (lk : D) : OH := .dic shK [.dat st, .dat (.int ct), .own 0, .own 1, .own 2, .dat lk, .own 3]
def LS.lm (s : LS) (rest : List D) (rh : List OH) : LM := ⟨.lst (s.dn.map natD), .lst s.hr, .lst (List.replicate s.th.length (.tup [.int 0, .non])), .lst (logD s.lg), s.th.map LT.d, rest, shX s.st s.ct (loD s.lk), rh⟩
def seenOf (n : Nat) (st : D) (dn : List Nat) (hr : List D) : D := .tup [.int n, st, .tup (dn.map natD), .tup hr]
def LS.seen (s : LS) : D := seenOf s.ct s.st s.dn s.hr
def LS.wr (s : LS) (u : Nat) (st' a : D) : LS := { s with st := st', ct := s.ct + 1, dn := s.dn.set u (s.dn.getD u 0 + 1), hr := s.hr.set u a, lg := s.lg ++ [(u, s.dn.getD u 0)] }
/-- a step of thread u, its call c: shared and the thread ahead, behind; events -/
inductive LX (t : Thing) (c : D) (u : Nat) : Way → LS → LT → LS → LT → List Ev → Prop
  | rBeg {s e x p} : LX t c u .re s ⟨e, .beg, x, p⟩ s ⟨e, .swa, s.seen, .non⟩ [.call u c]
  | rRead {s e x p} : LX t c u .re s ⟨e, .rea, x, p⟩ s ⟨e, .swa, s.seen, .non⟩ []
  | rMiss {s e n st0 dn hr st' a p} : App t st0 c st' a → n ≠ s.ct → LX t c u .re s ⟨e, .swa, seenOf n st0 dn hr, p⟩ s ⟨e, .rea, seenOf n st0 dn hr, p⟩ []
  | rHit {s e st0 dn hr st' a p} : App t st0 c st' a → LX t c u .re s ⟨e, .swa, seenOf s.ct st0 dn hr, p⟩ (s.wr u st' a) (.new (e + 1)) [.ans u a]
  | nBeg {s e x p} : LX t c u .na s ⟨e, .beg, x, p⟩ s ⟨e, .wri, s.seen, .non⟩ [.call u c]
  | nWrite {s e n st0 dn hr st' a p} : App t st0 c st' a → LX t c u .na s ⟨e, .wri, seenOf n st0 dn hr, p⟩ (s.wr u st' a) (.new (e + 1)) [.ans u a]
  | lBeg {s e x p} : s.lk = none → LX t c u .lo s ⟨e, .beg, x, p⟩ { s with lk := some u } ⟨e, .rea, x, p⟩ [.call u c]
  | lBegN {s e v x p} : s.lk = some v → LX t c u .lo s ⟨e, .beg, x, p⟩ s ⟨e, .tak, x, p⟩ [.call u c]
  | lTake {s e x p} : s.lk = none → LX t c u .lo s ⟨e, .tak, x, p⟩ { s with lk := some u } ⟨e, .rea, x, p⟩ []
  | lWait {s e v x p} : s.lk = some v → LX t c u .lo s ⟨e, .tak, x, p⟩ s ⟨e, .tak, x, p⟩ []
  | lRead {s e st' a x p} : App t s.st c st' a → LX t c u .lo s ⟨e, .rea, x, p⟩ s ⟨e, .wri, s.seen, .tup [st', a]⟩ []
  | lWrite {s e n st0 dn hr st' a p} : App t st0 c st' a → LX t c u .lo s ⟨e, .wri, seenOf n st0 dn hr, p⟩ (s.wr u st' a) ⟨e, .giv, seenOf n st0 dn hr, p⟩ []
  | lGive {s e st' a x} : LX t c u .lo s ⟨e, .giv, x, .tup [st', a]⟩ { s with lk := none } (.new (e + 1)) [.ans u a]
structure LSok (s : LS) : Prop where
  dn : s.dn.length = s.th.length
  hr : s.hr.length = s.th.length
  st : noL s.st = true
  hn : noLs s.hr = true
  th : ∀ l ∈ s.th, noL l.seen = true ∧ noL l.pick = true
  n : s.th.length ≤ 4
  lg : s.lg.length ≤ 800
theorem app_noL {t : Thing} {s c s' a : D} (h : App t s c s' a) (hs : noL s = true) : noL s' = true ∧ noL a = true := by
  have ti : ∀ ns : List Int, noL (tI ns) = true := fun ns => noL_tup (noLs_iff.mpr fun d hd => by
    obtain ⟨n, _, rfl⟩ := List.mem_map.mp hd
    rfl)
  cases h <;> first | exact ⟨rfl, rfl⟩ | exact ⟨ti _, rfl⟩ | exact ⟨hs, rfl⟩ | exact ⟨rfl, hs⟩ | exact ⟨hs, hs⟩
theorem natDs_noL (l : List Nat) : noLs (l.map natD) = true := noLs_iff.mpr fun d hd => by
  obtain ⟨n, _, rfl⟩ := List.mem_map.mp hd
  rfl
theorem seenOf_noL {n : Nat} {st : D} {dn : List Nat} {hr : List D} (h1 : noL st = true) (h2 : noLs hr = true) : noL (seenOf n st dn hr) = true :=
  noL_tup (noLs_cons rfl (noLs_cons h1 (noLs_cons (noL_tup (natDs_noL dn)) (noLs_cons (noL_tup h2) rfl))))
end P6
namespace P6
open PySem PySem.Spec PyProof.Rows L2 H6
def rLStep (gs : List GW) (M : Mem) (P : D → Mem → Prop) (n : Nat) : Prop := ∃ (wy : Way) (t : Thing) (ps : List (List D)) (s : LS) (rest : List D) (rh : List OH) (u j : Nat) (es : List D) (lt : LT) (plan : List D) (c : D) (s1 : LS) (lt' : LT) (ev : List Ev),
  gs = [.d (.str (wayS wy)), .d t.d, .d (plansD ps), .hi 0, .hi 1, .d (.int u), .lo (j + (s.lm rest rh).ths.length + 4)] ∧ M = (s.lm rest rh).m ∧ n = (s.lm rest rh).ths.length ∧ LSok s ∧ LMok (s.lm rest rh) ∧ s.th[u]? = some lt ∧ ps[u]? = some plan ∧ plan[lt.e]? = some c ∧ noL c = true ∧
  LX t c u wy s lt s1 lt' ev ∧ rest[j]? = some (.lst es) ∧ es.length ≤ 800 ∧ P = fun d M' => d = .non ∧ M' = (({ s1 with th := s1.th.set u lt' } : LS).lm (rest.set j (.lst (es ++ ev.map evD))) rh).m
theorem shX_ok {st : D} {ct : Nat} {lk : D} : ∀ k, I2.own k ∈ (shX st ct lk).its → k < 4 := fun k hk => by
  have hk : I2.own k ∈ [I2.dat st, .dat (.int ct), .own 0, .own 1, .own 2, .dat lk, .own 3] := hk
  simp only [List.mem_cons, List.not_mem_nil, or_false, reduceCtorEq, false_or, I2.own.injEq] at hk
  omega
theorem set_self {α : Type} {l : List α} {u : Nat} {x : α} (h : l[u]? = some x) : l.set u x = l := by
  apply List.ext_getElem?
  intro i
  by_cases e : i = u
  · subst e
    rw [List.getElem?_set_self (List.getElem?_eq_some_iff.mp h).1, h]
  · rw [List.getElem?_set_ne (Ne.symm e)]
theorem lst_self {l : List D} {j : Nat} {es : List D} (h : l[j]? = some (.lst es)) : l.set j (.lst es) = l := set_self h
section
variable {P : Program} {w : World} {K : PySem.W.Frag} {mg : Str → Option Value} {base : Heap}
/-- the names' standing behind the call's reading -/
def gS (wy : Way) (t : Thing) (ps : List (List D)) (u je : Nat) (c : D) (a b d : GW) : List GW := [.d (.str (wayS wy)), .d t.d, .d (plansD ps), .hi 0, .hi 1, .d (.int u), .lo je, .lo (u + 4), .d (.int ((ps.map D.tup).length : Nat)), .d c, .un, .un, .un, a, b, d]
section
variable {X : Cx} {wy : Way} {t : Thing} {ps : List (List D)} {u je : Nat} {c a' b' : D} {ga gb gd : GW} {y : LM} {e : Nat} {ph : Str} {seen pick : D}
end
theorem cal_L_step (S : Ctx K mg) : Cal P w K mg base "_law_step" p_L_step 2 (spW rLStep) := by
  obtain ⟨fd, F⟩ := F_L_step S
  have Bt := bs_of S
  refine ⟨_, fd, fn_W F sc_L_step ?_ ?_, g_L_step S, F.kp, bd_L_step F⟩
  · rintro gs M Pq n ⟨wy, t, ps, s, rest, rh, u, j, es, lt, plan, c, s1, lt', ev, rfl, _⟩
    rfl
  · rintro cdv A outer s0 H E hr gs M Pq n ⟨wy, t, ps, s, rest, rh, u, j, es, lt, plan, c, s1, lt', ev, rfl, rfl, rfl, ok, lok, ht, hp, hc, nc, lx, hj, hl, rfl⟩
    have hu := hu_of hr
    have hul : u < s.th.length := (List.getElem?_eq_some_iff.mp ht).1
    have ht1 : (s.lm rest rh).ths[u]? = some lt.d := by
      show (s.th.map LT.d)[u]? = _
      rw [List.getElem?_map, ht]
      rfl
    have hj1 : (s.lm rest rh).rest[j]? = some (.lst es) := hj
    refine bw_par2 7 8 sc_L_step.nd (ag_c (eg_hiL (k := 1) (eg_var 4 rfl) rfl (u_var 5 rfl) (ixN_nat (by rw [owns_len]; show u < (s.th.map LT.d).length; rw [List.length_map]; exact hul)) (owns_get (by show u < (s.th.map LT.d).length; rw [List.length_map]; exact hul))) (ag_c (eg_U (u_len Bt (u_var 2 rfl))) ag_nil)) ?_
    rintro gs M' ⟨rfl, rfl⟩
    refine ⟨_, _, rfl, bw_setU 9 sc_L_step.nd (d := c) (u_ixT (u_ixT (u_var 2 rfl) (u_var 5 rfl) (ix_map (f := .tup) hp)) (u_dget hu (u_var 7 (gv rfl (gP_lo (LM.own ht1)))) u_str 0) (atI_nat hc)) ?_ nc⟩
    show BW _ _ _ (gS wy t ps u (j + (s.lm rest rh).ths.length + 4) c .un .un .un) (s.lm rest rh).m _ _
    obtain ⟨je, hje⟩ : ∃ je, je = j + (s.lm rest rh).ths.length + 4 := ⟨_, rfl⟩
    -- the event of a call
    cases lx with
    | @rBeg s e x p =>
      have h0 : (s.lm rest rh).ths[u]? = some (thD e "begin" x p) := ht1
      refine bw_ifT (N1 := fun Γ' M' => Γ' = gS .re t ps u (j + (s.lm rest rh).ths.length + 4) c .un .un .un ∧ M' = ({ s.lm rest rh with rest := rest.set j (.lst (es ++ [evD (.call u c)])), ths := (s.th.map LT.d).set u (thD e "read" x p) } : LM).m) (t_is (t_eq (u_dget hu (u_var 7 (gv rfl (gP_lo (LM.own h0)))) u_str 1) u_str rfl) (by decide +kernel)) ?_ ?_
      · skip
        refine bw_append (k := j + (s.lm rest rh).ths.length + 4) (eg_var 6 rfl) (eg_U (u_tup (ua_cons u_str (ua_cons (u_var 5 rfl) (ua_cons (u_var 9 rfl) ua_nil)))) (noL_tup (noLs_cons rfl (noLs_cons rfl (noLs_cons nc rfl))))) ?_ ⟨_, LM.re hj1⟩
        rintro g M1 ⟨rfl, rfl⟩
        refine ⟨_, es, rfl, LM.re hj1, by omega, ?_⟩
        rw [LM.setRe]
        have h1 : ({ s.lm rest rh with rest := rest.set j (.lst (es ++ [evD (.call u c)])) } : LM).ths[u]? = some (thD e "begin" x p) := h0
        refine bw_ifF (t_is (t_eq (u_var 0 rfl) u_str rfl) (by decide +kernel)) ?_
        refine bw_sgU (u_ifF (t_is (t_eq (u_var 0 rfl) u_str rfl) (by decide +kernel)) u_str) (sg_loD hu (eg_var 7 rfl) (LM.own h1) u_str 1) ?_ rfl
        rw [LM.setOwn h1]
        have h2 := set_at (d' := thD e "read" x p) h1
        exact bw_nil ⟨rfl, rfl⟩
      · rintro Γ' M' ⟨rfl, rfl⟩
        have h1 : ({ s.lm rest rh with rest := rest.set j (.lst (es ++ [evD (.call u c)])), ths := (s.th.map LT.d).set u (thD e "read" x p) } : LM).ths[u]? = some (thD e "read" x p) := set_at h0
        refine bw_ifF (t_is (t_eq (u_dget hu (u_var 7 (gv rfl (gP_lo (LM.own h1)))) u_str 1) u_str rfl) (by decide +kernel)) ?_
        refine bw_ifR (t_is (t_eq (u_dget hu (u_var 7 (gv rfl (gP_lo (LM.own h1)))) u_str 1) u_str rfl) (by decide +kernel)) ?_
        refine bw_sgU (d := s.seen) (u_tup (ua_cons (u_dget hu (u_var 3 (gv rfl (gP_hi (o := shX s.st s.ct (loD s.lk)) rfl))) u_str 1) (ua_cons (u_dget hu (u_var 3 (gv rfl (gP_hi (o := shX s.st s.ct (loD s.lk)) rfl))) u_str 0) (ua_cons (u_tupOf Bt (u_dget hu (u_var 3 (gv rfl (gP_hi (o := shX s.st s.ct (loD s.lk)) rfl))) u_str 2)) (ua_cons (u_tupOf Bt (u_dget hu (u_var 3 (gv rfl (gP_hi (o := shX s.st s.ct (loD s.lk)) rfl))) u_str 3)) ua_nil))))) (sg_loD hu (eg_var 7 rfl) (LM.own h1) u_str 2) ?_ (seenOf_noL ok.st ok.hn)
        rw [LM.setOwn h1]
        have h2 := set_at (d' := thD e "read" s.seen p) h1
        refine bw_ifF (t_w (w_andF (t_is (t_eq (u_var 0 rfl) u_str rfl) (by decide +kernel)))) ?_
        refine bw_sgU (u_ifF (t_is (t_eq (u_var 0 rfl) u_str rfl) (by decide +kernel)) (u_ifF (t_inL (u_var 0 rfl) (u_lst (ua_cons u_str (ua_cons u_str ua_nil)))) u_str)) (sg_loD hu (eg_var 7 rfl) (LM.own h2) u_str 1) ?_ rfl
        rw [LM.setOwn h2]
        have h3 := set_at (d' := thD e "swap" s.seen p) h2
        refine bw_sgU (d := .non) (u_ifF (t_is (t_eq (u_var 0 rfl) u_str rfl) (by decide +kernel)) u_non) (sg_loD hu (eg_var 7 rfl) (LM.own h3) u_str 3) ?_ rfl
        rw [LM.setOwn h3]
        have h4 := set_at (d' := thD e "swap" s.seen .non) h3
        refine bw_retN ⟨_, rfl, rfl, ?_⟩
        simp only [LS.lm, List.map_set, List.set_set, List.length_set, LS.seen]
        rfl
    | @nBeg s e x p =>
      have h0 : (s.lm rest rh).ths[u]? = some (thD e "begin" x p) := ht1
      refine bw_ifT (N1 := fun Γ' M' => Γ' = gS .na t ps u (j + (s.lm rest rh).ths.length + 4) c .un .un .un ∧ M' = ({ s.lm rest rh with rest := rest.set j (.lst (es ++ [evD (.call u c)])), ths := (s.th.map LT.d).set u (thD e "read" x p) } : LM).m) (t_is (t_eq (u_dget hu (u_var 7 (gv rfl (gP_lo (LM.own h0)))) u_str 1) u_str rfl) (by decide +kernel)) ?_ ?_
      · skip
        refine bw_append (k := j + (s.lm rest rh).ths.length + 4) (eg_var 6 rfl) (eg_U (u_tup (ua_cons u_str (ua_cons (u_var 5 rfl) (ua_cons (u_var 9 rfl) ua_nil)))) (noL_tup (noLs_cons rfl (noLs_cons rfl (noLs_cons nc rfl))))) ?_ ⟨_, LM.re hj1⟩
        rintro g M1 ⟨rfl, rfl⟩
        refine ⟨_, es, rfl, LM.re hj1, by omega, ?_⟩
        rw [LM.setRe]
        have h1 : ({ s.lm rest rh with rest := rest.set j (.lst (es ++ [evD (.call u c)])) } : LM).ths[u]? = some (thD e "begin" x p) := h0
        refine bw_ifF (t_is (t_eq (u_var 0 rfl) u_str rfl) (by decide +kernel)) ?_
        refine bw_sgU (u_ifF (t_is (t_eq (u_var 0 rfl) u_str rfl) (by decide +kernel)) u_str) (sg_loD hu (eg_var 7 rfl) (LM.own h1) u_str 1) ?_ rfl
        rw [LM.setOwn h1]
        have h2 := set_at (d' := thD e "read" x p) h1
        exact bw_nil ⟨rfl, rfl⟩
      · rintro Γ' M' ⟨rfl, rfl⟩
        have h1 : ({ s.lm rest rh with rest := rest.set j (.lst (es ++ [evD (.call u c)])), ths := (s.th.map LT.d).set u (thD e "read" x p) } : LM).ths[u]? = some (thD e "read" x p) := set_at h0
        refine bw_ifF (t_is (t_eq (u_dget hu (u_var 7 (gv rfl (gP_lo (LM.own h1)))) u_str 1) u_str rfl) (by decide +kernel)) ?_
        refine bw_ifR (t_is (t_eq (u_dget hu (u_var 7 (gv rfl (gP_lo (LM.own h1)))) u_str 1) u_str rfl) (by decide +kernel)) ?_
        refine bw_sgU (d := s.seen) (u_tup (ua_cons (u_dget hu (u_var 3 (gv rfl (gP_hi (o := shX s.st s.ct (loD s.lk)) rfl))) u_str 1) (ua_cons (u_dget hu (u_var 3 (gv rfl (gP_hi (o := shX s.st s.ct (loD s.lk)) rfl))) u_str 0) (ua_cons (u_tupOf Bt (u_dget hu (u_var 3 (gv rfl (gP_hi (o := shX s.st s.ct (loD s.lk)) rfl))) u_str 2)) (ua_cons (u_tupOf Bt (u_dget hu (u_var 3 (gv rfl (gP_hi (o := shX s.st s.ct (loD s.lk)) rfl))) u_str 3)) ua_nil))))) (sg_loD hu (eg_var 7 rfl) (LM.own h1) u_str 2) ?_ (seenOf_noL ok.st ok.hn)
        rw [LM.setOwn h1]
        have h2 := set_at (d' := thD e "read" s.seen p) h1
        refine bw_ifF (t_w (w_andF (t_is (t_eq (u_var 0 rfl) u_str rfl) (by decide +kernel)))) ?_
        refine bw_sgU (u_ifF (t_is (t_eq (u_var 0 rfl) u_str rfl) (by decide +kernel)) (u_ifT (t_inL (u_var 0 rfl) (u_lst (ua_cons u_str (ua_cons u_str ua_nil)))) u_str)) (sg_loD hu (eg_var 7 rfl) (LM.own h2) u_str 1) ?_ rfl
        rw [LM.setOwn h2]
        have h3 := set_at (d' := thD e "write" s.seen p) h2
        refine bw_sgU (d := .non) (u_ifF (t_is (t_eq (u_var 0 rfl) u_str rfl) (by decide +kernel)) u_non) (sg_loD hu (eg_var 7 rfl) (LM.own h3) u_str 3) ?_ rfl
        rw [LM.setOwn h3]
        have h4 := set_at (d' := thD e "write" s.seen .non) h3
        refine bw_retN ⟨_, rfl, rfl, ?_⟩
        simp only [LS.lm, List.map_set, List.set_set, List.length_set, LS.seen]
        rfl
    | @rRead s e x p =>
      have h0 : (s.lm rest rh).ths[u]? = some (thD e "read" x p) := ht1
      refine bw_ifF (t_is (t_eq (u_dget hu (u_var 7 (gv rfl (gP_lo (LM.own h0)))) u_str 1) u_str rfl) (by decide +kernel)) ?_
      refine bw_ifF (t_is (t_eq (u_dget hu (u_var 7 (gv rfl (gP_lo (LM.own h0)))) u_str 1) u_str rfl) (by decide +kernel)) ?_
      refine bw_ifR (t_is (t_eq (u_dget hu (u_var 7 (gv rfl (gP_lo (LM.own h0)))) u_str 1) u_str rfl) (by decide +kernel)) ?_
      refine bw_sgU (d := s.seen) (u_tup (ua_cons (u_dget hu (u_var 3 (gv rfl (gP_hi (o := shX s.st s.ct (loD s.lk)) rfl))) u_str 1) (ua_cons (u_dget hu (u_var 3 (gv rfl (gP_hi (o := shX s.st s.ct (loD s.lk)) rfl))) u_str 0) (ua_cons (u_tupOf Bt (u_dget hu (u_var 3 (gv rfl (gP_hi (o := shX s.st s.ct (loD s.lk)) rfl))) u_str 2)) (ua_cons (u_tupOf Bt (u_dget hu (u_var 3 (gv rfl (gP_hi (o := shX s.st s.ct (loD s.lk)) rfl))) u_str 3)) ua_nil))))) (sg_loD hu (eg_var 7 rfl) (LM.own h0) u_str 2) ?_ (seenOf_noL ok.st ok.hn)
      rw [LM.setOwn h0]
      have h2 := set_at (d' := thD e "read" s.seen p) h0
      refine bw_ifF (t_w (w_andF (t_is (t_eq (u_var 0 rfl) u_str rfl) (by decide +kernel)))) ?_
      refine bw_sgU (u_ifF (t_is (t_eq (u_var 0 rfl) u_str rfl) (by decide +kernel)) (u_ifF (t_inL (u_var 0 rfl) (u_lst (ua_cons u_str (ua_cons u_str ua_nil)))) u_str)) (sg_loD hu (eg_var 7 rfl) (LM.own h2) u_str 1) ?_ rfl
      rw [LM.setOwn h2]
      have h3 := set_at (d' := thD e "swap" s.seen p) h2
      refine bw_sgU (d := .non) (u_ifF (t_is (t_eq (u_var 0 rfl) u_str rfl) (by decide +kernel)) u_non) (sg_loD hu (eg_var 7 rfl) (LM.own h3) u_str 3) ?_ rfl
      rw [LM.setOwn h3]
      have h4 := set_at (d' := thD e "swap" s.seen .non) h3
      refine bw_retN ⟨_, rfl, rfl, ?_⟩
      simp only [LS.lm, List.map_set, List.set_set, List.length_set, LS.seen, List.append_nil, List.map_nil]
      rw [lst_self hj]
      rfl
    | @lRead s e st' a x p happ =>
      have h0 : (s.lm rest rh).ths[u]? = some (thD e "read" x p) := ht1
      refine bw_ifF (t_is (t_eq (u_dget hu (u_var 7 (gv rfl (gP_lo (LM.own h0)))) u_str 1) u_str rfl) (by decide +kernel)) ?_
      refine bw_ifF (t_is (t_eq (u_dget hu (u_var 7 (gv rfl (gP_lo (LM.own h0)))) u_str 1) u_str rfl) (by decide +kernel)) ?_
      refine bw_ifR (t_is (t_eq (u_dget hu (u_var 7 (gv rfl (gP_lo (LM.own h0)))) u_str 1) u_str rfl) (by decide +kernel)) ?_
      refine bw_sgU (d := s.seen) (u_tup (ua_cons (u_dget hu (u_var 3 (gv rfl (gP_hi (o := shX s.st s.ct (loD s.lk)) rfl))) u_str 1) (ua_cons (u_dget hu (u_var 3 (gv rfl (gP_hi (o := shX s.st s.ct (loD s.lk)) rfl))) u_str 0) (ua_cons (u_tupOf Bt (u_dget hu (u_var 3 (gv rfl (gP_hi (o := shX s.st s.ct (loD s.lk)) rfl))) u_str 2)) (ua_cons (u_tupOf Bt (u_dget hu (u_var 3 (gv rfl (gP_hi (o := shX s.st s.ct (loD s.lk)) rfl))) u_str 3)) ua_nil))))) (sg_loD hu (eg_var 7 rfl) (LM.own h0) u_str 2) ?_ (seenOf_noL ok.st ok.hn)
      rw [LM.setOwn h0]
      have h2 := set_at (d' := thD e "read" s.seen p) h0
      refine bw_ifF (t_w (w_andF (t_is (t_eq (u_var 0 rfl) u_str rfl) (by decide +kernel)))) ?_
      refine bw_sgU (u_ifF (t_is (t_eq (u_var 0 rfl) u_str rfl) (by decide +kernel)) (u_ifT (t_inL (u_var 0 rfl) (u_lst (ua_cons u_str (ua_cons u_str ua_nil)))) u_str)) (sg_loD hu (eg_var 7 rfl) (LM.own h2) u_str 1) ?_ rfl
      rw [LM.setOwn h2]
      have h3 := set_at (d' := thD e "write" s.seen p) h2
      refine bw_sgU (d := .tup [st', a]) (u_ifT (t_is (t_eq (u_var 0 rfl) u_str rfl) (by decide +kernel)) (u_call (cal_L_do S) (hr.mono (by decide)) (ua_cons (u_var 1 rfl) (ua_cons (u_dget hu (u_var 3 (gv rfl (gP_hi (o := shX s.st s.ct (loD s.lk)) rfl))) u_str 0) (ua_cons (u_var 9 rfl) ua_nil))) ⟨t, s.st, c, st', a, rfl, happ, rfl⟩)) (sg_loD hu (eg_var 7 rfl) (LM.own h3) u_str 3) ?_ (noL_tup (noLs_cons (app_noL happ ok.st).1 (noLs_cons (app_noL happ ok.st).2 rfl)))
      rw [LM.setOwn h3]
      have h4 := set_at (d' := thD e "write" s.seen (.tup [st', a])) h3
      refine bw_retN ⟨_, rfl, rfl, ?_⟩
      simp only [LS.lm, List.map_set, List.set_set, List.length_set, LS.seen, List.append_nil, List.map_nil]
      rw [lst_self hj]
      rfl
    | @rMiss s e n st0 dn hs st' a p happ hne =>
      have h0 : (s.lm rest rh).ths[u]? = some (thD e "swap" (seenOf n st0 dn hs) p) := ht1
      refine bw_ifF (t_is (t_eq (u_dget hu (u_var 7 (gv rfl (gP_lo (LM.own h0)))) u_str 1) u_str rfl) (by decide +kernel)) ?_
      refine bw_ifF (t_is (t_eq (u_dget hu (u_var 7 (gv rfl (gP_lo (LM.own h0)))) u_str 1) u_str rfl) (by decide +kernel)) ?_
      refine bw_ifF (t_is (t_eq (u_dget hu (u_var 7 (gv rfl (gP_lo (LM.own h0)))) u_str 1) u_str rfl) (by decide +kernel)) ?_
      refine bw_ifF (t_is (t_eq (u_dget hu (u_var 7 (gv rfl (gP_lo (LM.own h0)))) u_str 1) u_str rfl) (by decide +kernel)) ?_
      refine bw_ifF (t_is (t_eq (u_dget hu (u_var 7 (gv rfl (gP_lo (LM.own h0)))) u_str 1) u_str rfl) (by decide +kernel)) ?_
      have nst : noL st0 = true := by
        have := (ok.th _ (List.mem_of_getElem? ht)).1
        simp only [seenOf, noL, noLs, Bool.and_eq_true] at this
        exact this.2.1
      have nap := app_noL happ nst
      refine bw_setU 13 sc_L_step.nd (d := .tup [.int u, c]) (u_ifF (t_is (t_eq (u_var 0 rfl) u_str rfl) (by decide +kernel)) (u_tup (ua_cons (u_var 5 rfl) (ua_cons (u_var 9 rfl) ua_nil)))) ?_ (noL_tup (noLs_cons rfl (noLs_cons nc rfl)))
      refine bw_unp2 (P := eqP (.d (.tup [st', a])) (s.lm rest rh).m) 14 15 sc_L_step.nd (eg_U (u_call (cal_L_do S) (hr.mono (by decide)) (ua_cons (u_var 1 rfl) (ua_cons (u_ixT (ds := [.int n, st0, .tup (dn.map natD), .tup hs]) (u_dget hu (u_var 7 (gv rfl (gP_lo (LM.own h0)))) u_str 2) u_int) (ua_cons (u_ixT (u_var 13 rfl) u_int) ua_nil))) ⟨t, st0, c, st', a, rfl, happ, rfl⟩) (noL_tup (noLs_cons nap.1 (noLs_cons nap.2 rfl)))) ?_
      rintro g M1 ⟨rfl, rfl⟩
      refine ⟨_, _, rfl, ?_⟩
      refine bw_ifR (t_w (w_and (t_is (t_eq (u_dget hu (u_var 7 (gv rfl (gP_lo (LM.own h0)))) u_str 1) u_str rfl) (by decide +kernel)) (w_and1 (t_is (t_ne (u_ixT (ds := [.int n, st0, .tup (dn.map natD), .tup hs]) (u_dget hu (u_var 7 (gv rfl (gP_lo (LM.own h0)))) u_str 2) u_int) (u_dget hu (u_var 3 (gv rfl (gP_hi (o := shX s.st s.ct (loD s.lk)) rfl))) u_str 1) eqS_ii) (by simp; omega))))) ?_
      refine bw_sgU u_str (sg_loD hu (eg_var 7 rfl) (LM.own h0) u_str 1) ?_ rfl
      rw [LM.setOwn h0]
      have h1 := set_at (d' := thD e "read" (seenOf n st0 dn hs) p) h0
      refine bw_retN ⟨_, rfl, rfl, ?_⟩
      simp only [LS.lm, List.map_set, List.set_set, List.length_set, LS.seen, List.append_nil, List.map_nil]
      rw [lst_self hj]
      rfl
    | @rHit s e st0 dn hs st' a p happ =>
      have h0 : (s.lm rest rh).ths[u]? = some (thD e "swap" (seenOf s.ct st0 dn hs) p) := ht1
      refine bw_ifF (t_is (t_eq (u_dget hu (u_var 7 (gv rfl (gP_lo (LM.own h0)))) u_str 1) u_str rfl) (by decide +kernel)) ?_
      refine bw_ifF (t_is (t_eq (u_dget hu (u_var 7 (gv rfl (gP_lo (LM.own h0)))) u_str 1) u_str rfl) (by decide +kernel)) ?_
      refine bw_ifF (t_is (t_eq (u_dget hu (u_var 7 (gv rfl (gP_lo (LM.own h0)))) u_str 1) u_str rfl) (by decide +kernel)) ?_
      refine bw_ifF (t_is (t_eq (u_dget hu (u_var 7 (gv rfl (gP_lo (LM.own h0)))) u_str 1) u_str rfl) (by decide +kernel)) ?_
      refine bw_ifF (t_is (t_eq (u_dget hu (u_var 7 (gv rfl (gP_lo (LM.own h0)))) u_str 1) u_str rfl) (by decide +kernel)) ?_
      have nst : noL st0 = true := by
        have := (ok.th _ (List.mem_of_getElem? ht)).1
        simp only [seenOf, noL, noLs, Bool.and_eq_true] at this
        exact this.2.1
      have nap := app_noL happ nst
      refine bw_setU 13 sc_L_step.nd (d := .tup [.int u, c]) (u_ifF (t_is (t_eq (u_var 0 rfl) u_str rfl) (by decide +kernel)) (u_tup (ua_cons (u_var 5 rfl) (ua_cons (u_var 9 rfl) ua_nil)))) ?_ (noL_tup (noLs_cons rfl (noLs_cons nc rfl)))
      refine bw_unp2 (P := eqP (.d (.tup [st', a])) (s.lm rest rh).m) 14 15 sc_L_step.nd (eg_U (u_call (cal_L_do S) (hr.mono (by decide)) (ua_cons (u_var 1 rfl) (ua_cons (u_ixT (ds := [.int s.ct, st0, .tup (dn.map natD), .tup hs]) (u_dget hu (u_var 7 (gv rfl (gP_lo (LM.own h0)))) u_str 2) u_int) (ua_cons (u_ixT (u_var 13 rfl) u_int) ua_nil))) ⟨t, st0, c, st', a, rfl, happ, rfl⟩) (noL_tup (noLs_cons nap.1 (noLs_cons nap.2 rfl)))) ?_
      rintro g M1 ⟨rfl, rfl⟩
      refine ⟨_, _, rfl, ?_⟩
      refine bw_ifF (t_w (w_and (t_is (t_eq (u_dget hu (u_var 7 (gv rfl (gP_lo (LM.own h0)))) u_str 1) u_str rfl) (by decide +kernel)) (w_and1 (t_is (t_ne (u_ixT (ds := [.int s.ct, st0, .tup (dn.map natD), .tup hs]) (u_dget hu (u_var 7 (gv rfl (gP_lo (LM.own h0)))) u_str 2) u_int) (u_dget hu (u_var 3 (gv rfl (gP_hi (o := shX s.st s.ct (loD s.lk)) rfl))) u_str 1) eqS_ii) (by simp))))) ?_
      refine bw_sg2 (x := st') (y := .int ((s.ct + 1 : Nat) : Int)) (eg_U (u_tup (ua_cons (u_var 14 rfl) (ua_cons (u_is (u_add (u_dget hu (u_var 3 (gv rfl (gP_hi (o := shX s.st s.ct (loD s.lk)) rfl))) u_str 1) u_int) (by simp)) ua_nil))) (noL_tup (noLs_cons nap.1 (noLs_cons rfl rfl)))) (sg_hiD hu (eg_var 3 rfl) rfl u_str 0) (sg_hiD hu (eg_var 3 rfl) rfl u_str 1) ?_
      obtain ⟨k, hk⟩ : ∃ k, s.dn[u]? = some k := ⟨_, List.getElem?_eq_getElem (by rw [ok.dn]; exact hul)⟩
      have hkD : s.dn.getD u 0 = k := by rw [List.getD_eq_getElem?_getD, hk]; rfl
      have hdl : (s.dn.map natD).length = s.th.length := by rw [List.length_map]; exact ok.dn
      show BW _ _ _ _ ({ s.lm rest rh with sh := shX st' (s.ct + 1) (loD s.lk) } : LM).m _ _
      refine bw_sgU (d := .int ((k + 1 : Nat) : Int)) (u_is (u_add (u_ixL (u_dget hu (u_var 3 (gv rfl (gP_hi (o := shX st' (s.ct + 1) (loD s.lk)) rfl))) u_str 2) (u_ixT (u_var 13 rfl) u_int) (ix_map (f := natD) hk)) u_int) (by simp)) (sg_loL (k := 0) (eg_hiD hu (eg_var 3 rfl) rfl u_str 2) rfl (u_ixT (u_var 13 rfl) u_int) (ixN_nat (by rw [hdl]; exact hul))) ?_
      have hk2 : (s.dn.set u (k + 1))[u]? = some (k + 1) := List.getElem?_set_self (by rw [ok.dn]; exact hul)
      have eDn : (s.dn.map natD).set u (.int ((k + 1 : Nat) : Int)) = (s.dn.set u (k + 1)).map natD := (List.map_set (f := natD)).symm
      show BW _ _ _ _ ({ s.lm rest rh with sh := shX st' (s.ct + 1) (loD s.lk), dn := .lst ((s.dn.map natD).set u (.int ((k + 1 : Nat) : Int))) } : LM).m _ _
      rw [eDn]
      refine bw_sgU (u_var 15 rfl) (sg_loL (k := 1) (eg_hiD hu (eg_var 3 rfl) rfl u_str 3) rfl (u_ixT (u_var 13 rfl) u_int) (ixN_nat (by rw [ok.hr]; exact hul))) ?_ nap.2
      show BW _ _ _ _ ({ s.lm rest rh with sh := shX st' (s.ct + 1) (loD s.lk), dn := .lst ((s.dn.set u (k + 1)).map natD), hr := .lst (s.hr.set u a) } : LM).m _ _
      refine bw_append (k := 3) (P := eqP (.d (tI [(u : Int), (k : Int)])) ({ s.lm rest rh with sh := shX st' (s.ct + 1) (loD s.lk), dn := .lst ((s.dn.set u (k + 1)).map natD), hr := .lst (s.hr.set u a) } : LM).m) (eg_hiD hu (eg_var 3 rfl) rfl u_str 6) (eg_U (u_tup (ua_cons (u_ixT (u_var 13 rfl) u_int) (ua_cons (u_is (u_sub (u_ixL (u_dget hu (u_var 3 (gv rfl (gP_hi (o := shX st' (s.ct + 1) (loD s.lk)) rfl))) u_str 2) (u_ixT (u_var 13 rfl) u_int) (ix_map (f := natD) hk2)) u_int) (by simp)) ua_nil))) rfl) ?_ ⟨_, rfl⟩
      rintro g M1 ⟨rfl, rfl⟩
      refine ⟨_, logD s.lg, rfl, rfl, by unfold logD; rw [List.length_map]; have := ok.lg; omega, ?_⟩
      show BW _ _ _ _ ({ s.lm rest rh with sh := shX st' (s.ct + 1) (loD s.lk), dn := .lst ((s.dn.set u (k + 1)).map natD), hr := .lst (s.hr.set u a), lg := .lst (logD s.lg ++ [tI [(u : Int), (k : Int)]]) } : LM).m _ _
      have eLg : logD s.lg ++ [tI [(u : Int), (k : Int)]] = logD (s.lg ++ [(u, k)]) := by unfold logD; simp
      refine bw_ifE (N1 := fun _ M' => D.non = .non ∧ M' = _) (t_is (t_eq (u_var 0 rfl) u_str rfl) (by decide +kernel)) (bw_ifE (N1 := fun _ M' => D.non = .non ∧ M' = _) (t_is (t_eq (u_var 0 rfl) u_str rfl) (by decide +kernel)) (bw_forget [7] (bw_callS (cal_L_ends S) hr (ag_c (eg_var 4 rfl) (ag_c (eg_var 5 rfl) (ag_c (eg_var 6 rfl) (ag_c (eg_var 15 rfl) ag_nil)))) ?_ ?_)) (fun Γ' M' h => bw_nil h)) (fun Γ' M' h => bw_nil h)
      · rintro gs M1 ⟨rfl, rfl⟩
        refine ⟨_, ⟨{ s.lm rest rh with sh := shX st' (s.ct + 1) (loD s.lk), dn := .lst ((s.dn.set u (k + 1)).map natD), hr := .lst (s.hr.set u a), lg := .lst (logD s.lg ++ [tI [(u : Int), (k : Int)]]) }, u, j, e, "swap", (seenOf s.ct st0 dn hs), p, a, es, rfl, rfl, rfl, ⟨shX_ok, lok.rh⟩, h0, hj1, by omega, nap.2, rfl⟩, ?_⟩
        rintro d M2 ⟨rfl, rfl⟩
        refine bw_nil ⟨rfl, ?_⟩
        simp only [LS.lm, LS.wr, LT.new, List.map_set, List.length_set, hkD, eLg]
        rfl
      · intro g hg
        have hg : g ∈ [GW.d (.str (wayS .re)), .d t.d, .d (plansD ps), .hi 0, .hi 1, .d (.int u), .lo (j + (s.lm rest rh).ths.length + 4), .un, .d (.int ((ps.map D.tup).length : Nat)), .d c, .un, .un, .un, .d (.tup [.int u, c]), .d st', .d a] := hg
        simp only [List.mem_cons, List.not_mem_nil, or_false] at hg
        rcases hg with rfl | rfl | rfl | rfl | rfl | rfl | rfl | rfl | rfl | rfl | rfl | rfl | rfl | rfl | rfl | rfl <;> first | exact True.intro | (show _ ∨ _; omega)
    | @nWrite s e n st0 dn hs st' a p happ =>
      have h0 : (s.lm rest rh).ths[u]? = some (thD e "write" (seenOf n st0 dn hs) p) := ht1
      refine bw_ifF (t_is (t_eq (u_dget hu (u_var 7 (gv rfl (gP_lo (LM.own h0)))) u_str 1) u_str rfl) (by decide +kernel)) ?_
      refine bw_ifF (t_is (t_eq (u_dget hu (u_var 7 (gv rfl (gP_lo (LM.own h0)))) u_str 1) u_str rfl) (by decide +kernel)) ?_
      refine bw_ifF (t_is (t_eq (u_dget hu (u_var 7 (gv rfl (gP_lo (LM.own h0)))) u_str 1) u_str rfl) (by decide +kernel)) ?_
      refine bw_ifF (t_is (t_eq (u_dget hu (u_var 7 (gv rfl (gP_lo (LM.own h0)))) u_str 1) u_str rfl) (by decide +kernel)) ?_
      refine bw_ifF (t_is (t_eq (u_dget hu (u_var 7 (gv rfl (gP_lo (LM.own h0)))) u_str 1) u_str rfl) (by decide +kernel)) ?_
      have nst : noL st0 = true := by
        have := (ok.th _ (List.mem_of_getElem? ht)).1
        simp only [seenOf, noL, noLs, Bool.and_eq_true] at this
        exact this.2.1
      have nap := app_noL happ nst
      refine bw_setU 13 sc_L_step.nd (d := .tup [.int u, c]) (u_ifF (t_is (t_eq (u_var 0 rfl) u_str rfl) (by decide +kernel)) (u_tup (ua_cons (u_var 5 rfl) (ua_cons (u_var 9 rfl) ua_nil)))) ?_ (noL_tup (noLs_cons rfl (noLs_cons nc rfl)))
      refine bw_unp2 (P := eqP (.d (.tup [st', a])) (s.lm rest rh).m) 14 15 sc_L_step.nd (eg_U (u_call (cal_L_do S) (hr.mono (by decide)) (ua_cons (u_var 1 rfl) (ua_cons (u_ixT (ds := [.int n, st0, .tup (dn.map natD), .tup hs]) (u_dget hu (u_var 7 (gv rfl (gP_lo (LM.own h0)))) u_str 2) u_int) (ua_cons (u_ixT (u_var 13 rfl) u_int) ua_nil))) ⟨t, st0, c, st', a, rfl, happ, rfl⟩) (noL_tup (noLs_cons nap.1 (noLs_cons nap.2 rfl)))) ?_
      rintro g M1 ⟨rfl, rfl⟩
      refine ⟨_, _, rfl, ?_⟩
      refine bw_ifF (t_w (w_andF (t_is (t_eq (u_dget hu (u_var 7 (gv rfl (gP_lo (LM.own h0)))) u_str 1) u_str rfl) (by decide +kernel)))) ?_
      refine bw_sg2 (x := st') (y := .int ((s.ct + 1 : Nat) : Int)) (eg_U (u_tup (ua_cons (u_var 14 rfl) (ua_cons (u_is (u_add (u_dget hu (u_var 3 (gv rfl (gP_hi (o := shX s.st s.ct (loD s.lk)) rfl))) u_str 1) u_int) (by simp)) ua_nil))) (noL_tup (noLs_cons nap.1 (noLs_cons rfl rfl)))) (sg_hiD hu (eg_var 3 rfl) rfl u_str 0) (sg_hiD hu (eg_var 3 rfl) rfl u_str 1) ?_
      obtain ⟨k, hk⟩ : ∃ k, s.dn[u]? = some k := ⟨_, List.getElem?_eq_getElem (by rw [ok.dn]; exact hul)⟩
      have hkD : s.dn.getD u 0 = k := by rw [List.getD_eq_getElem?_getD, hk]; rfl
      have hdl : (s.dn.map natD).length = s.th.length := by rw [List.length_map]; exact ok.dn
      show BW _ _ _ _ ({ s.lm rest rh with sh := shX st' (s.ct + 1) (loD s.lk) } : LM).m _ _
      refine bw_sgU (d := .int ((k + 1 : Nat) : Int)) (u_is (u_add (u_ixL (u_dget hu (u_var 3 (gv rfl (gP_hi (o := shX st' (s.ct + 1) (loD s.lk)) rfl))) u_str 2) (u_ixT (u_var 13 rfl) u_int) (ix_map (f := natD) hk)) u_int) (by simp)) (sg_loL (k := 0) (eg_hiD hu (eg_var 3 rfl) rfl u_str 2) rfl (u_ixT (u_var 13 rfl) u_int) (ixN_nat (by rw [hdl]; exact hul))) ?_
      have hk2 : (s.dn.set u (k + 1))[u]? = some (k + 1) := List.getElem?_set_self (by rw [ok.dn]; exact hul)
      have eDn : (s.dn.map natD).set u (.int ((k + 1 : Nat) : Int)) = (s.dn.set u (k + 1)).map natD := (List.map_set (f := natD)).symm
      show BW _ _ _ _ ({ s.lm rest rh with sh := shX st' (s.ct + 1) (loD s.lk), dn := .lst ((s.dn.map natD).set u (.int ((k + 1 : Nat) : Int))) } : LM).m _ _
      rw [eDn]
      refine bw_sgU (u_var 15 rfl) (sg_loL (k := 1) (eg_hiD hu (eg_var 3 rfl) rfl u_str 3) rfl (u_ixT (u_var 13 rfl) u_int) (ixN_nat (by rw [ok.hr]; exact hul))) ?_ nap.2
      show BW _ _ _ _ ({ s.lm rest rh with sh := shX st' (s.ct + 1) (loD s.lk), dn := .lst ((s.dn.set u (k + 1)).map natD), hr := .lst (s.hr.set u a) } : LM).m _ _
      refine bw_append (k := 3) (P := eqP (.d (tI [(u : Int), (k : Int)])) ({ s.lm rest rh with sh := shX st' (s.ct + 1) (loD s.lk), dn := .lst ((s.dn.set u (k + 1)).map natD), hr := .lst (s.hr.set u a) } : LM).m) (eg_hiD hu (eg_var 3 rfl) rfl u_str 6) (eg_U (u_tup (ua_cons (u_ixT (u_var 13 rfl) u_int) (ua_cons (u_is (u_sub (u_ixL (u_dget hu (u_var 3 (gv rfl (gP_hi (o := shX st' (s.ct + 1) (loD s.lk)) rfl))) u_str 2) (u_ixT (u_var 13 rfl) u_int) (ix_map (f := natD) hk2)) u_int) (by simp)) ua_nil))) rfl) ?_ ⟨_, rfl⟩
      rintro g M1 ⟨rfl, rfl⟩
      refine ⟨_, logD s.lg, rfl, rfl, by unfold logD; rw [List.length_map]; have := ok.lg; omega, ?_⟩
      show BW _ _ _ _ ({ s.lm rest rh with sh := shX st' (s.ct + 1) (loD s.lk), dn := .lst ((s.dn.set u (k + 1)).map natD), hr := .lst (s.hr.set u a), lg := .lst (logD s.lg ++ [tI [(u : Int), (k : Int)]]) } : LM).m _ _
      have eLg : logD s.lg ++ [tI [(u : Int), (k : Int)]] = logD (s.lg ++ [(u, k)]) := by unfold logD; simp
      refine bw_ifE (N1 := fun _ M' => D.non = .non ∧ M' = _) (t_is (t_eq (u_var 0 rfl) u_str rfl) (by decide +kernel)) (bw_ifE (N1 := fun _ M' => D.non = .non ∧ M' = _) (t_is (t_eq (u_var 0 rfl) u_str rfl) (by decide +kernel)) (bw_forget [7] (bw_callS (cal_L_ends S) hr (ag_c (eg_var 4 rfl) (ag_c (eg_var 5 rfl) (ag_c (eg_var 6 rfl) (ag_c (eg_var 15 rfl) ag_nil)))) ?_ ?_)) (fun Γ' M' h => bw_nil h)) (fun Γ' M' h => bw_nil h)
      · rintro gs M1 ⟨rfl, rfl⟩
        refine ⟨_, ⟨{ s.lm rest rh with sh := shX st' (s.ct + 1) (loD s.lk), dn := .lst ((s.dn.set u (k + 1)).map natD), hr := .lst (s.hr.set u a), lg := .lst (logD s.lg ++ [tI [(u : Int), (k : Int)]]) }, u, j, e, "write", (seenOf n st0 dn hs), p, a, es, rfl, rfl, rfl, ⟨shX_ok, lok.rh⟩, h0, hj1, by omega, nap.2, rfl⟩, ?_⟩
        rintro d M2 ⟨rfl, rfl⟩
        refine bw_nil ⟨rfl, ?_⟩
        simp only [LS.lm, LS.wr, LT.new, List.map_set, List.length_set, hkD, eLg]
        rfl
      · intro g hg
        have hg : g ∈ [GW.d (.str (wayS .na)), .d t.d, .d (plansD ps), .hi 0, .hi 1, .d (.int u), .lo (j + (s.lm rest rh).ths.length + 4), .un, .d (.int ((ps.map D.tup).length : Nat)), .d c, .un, .un, .un, .d (.tup [.int u, c]), .d st', .d a] := hg
        simp only [List.mem_cons, List.not_mem_nil, or_false] at hg
        rcases hg with rfl | rfl | rfl | rfl | rfl | rfl | rfl | rfl | rfl | rfl | rfl | rfl | rfl | rfl | rfl | rfl <;> first | exact True.intro | (show _ ∨ _; omega)
    | @lWrite s e n st0 dn hs st' a p happ =>
      have h0 : (s.lm rest rh).ths[u]? = some (thD e "write" (seenOf n st0 dn hs) p) := ht1
      refine bw_ifF (t_is (t_eq (u_dget hu (u_var 7 (gv rfl (gP_lo (LM.own h0)))) u_str 1) u_str rfl) (by decide +kernel)) ?_
      refine bw_ifF (t_is (t_eq (u_dget hu (u_var 7 (gv rfl (gP_lo (LM.own h0)))) u_str 1) u_str rfl) (by decide +kernel)) ?_
      refine bw_ifF (t_is (t_eq (u_dget hu (u_var 7 (gv rfl (gP_lo (LM.own h0)))) u_str 1) u_str rfl) (by decide +kernel)) ?_
      refine bw_ifF (t_is (t_eq (u_dget hu (u_var 7 (gv rfl (gP_lo (LM.own h0)))) u_str 1) u_str rfl) (by decide +kernel)) ?_
      refine bw_ifF (t_is (t_eq (u_dget hu (u_var 7 (gv rfl (gP_lo (LM.own h0)))) u_str 1) u_str rfl) (by decide +kernel)) ?_
      have nst : noL st0 = true := by
        have := (ok.th _ (List.mem_of_getElem? ht)).1
        simp only [seenOf, noL, noLs, Bool.and_eq_true] at this
        exact this.2.1
      have nap := app_noL happ nst
      refine bw_setU 13 sc_L_step.nd (d := .tup [.int u, c]) (u_ifF (t_is (t_eq (u_var 0 rfl) u_str rfl) (by decide +kernel)) (u_tup (ua_cons (u_var 5 rfl) (ua_cons (u_var 9 rfl) ua_nil)))) ?_ (noL_tup (noLs_cons rfl (noLs_cons nc rfl)))
      refine bw_unp2 (P := eqP (.d (.tup [st', a])) (s.lm rest rh).m) 14 15 sc_L_step.nd (eg_U (u_call (cal_L_do S) (hr.mono (by decide)) (ua_cons (u_var 1 rfl) (ua_cons (u_ixT (ds := [.int n, st0, .tup (dn.map natD), .tup hs]) (u_dget hu (u_var 7 (gv rfl (gP_lo (LM.own h0)))) u_str 2) u_int) (ua_cons (u_ixT (u_var 13 rfl) u_int) ua_nil))) ⟨t, st0, c, st', a, rfl, happ, rfl⟩) (noL_tup (noLs_cons nap.1 (noLs_cons nap.2 rfl)))) ?_
      rintro g M1 ⟨rfl, rfl⟩
      refine ⟨_, _, rfl, ?_⟩
      refine bw_ifF (t_w (w_andF (t_is (t_eq (u_dget hu (u_var 7 (gv rfl (gP_lo (LM.own h0)))) u_str 1) u_str rfl) (by decide +kernel)))) ?_
      refine bw_sg2 (x := st') (y := .int ((s.ct + 1 : Nat) : Int)) (eg_U (u_tup (ua_cons (u_var 14 rfl) (ua_cons (u_is (u_add (u_dget hu (u_var 3 (gv rfl (gP_hi (o := shX s.st s.ct (loD s.lk)) rfl))) u_str 1) u_int) (by simp)) ua_nil))) (noL_tup (noLs_cons nap.1 (noLs_cons rfl rfl)))) (sg_hiD hu (eg_var 3 rfl) rfl u_str 0) (sg_hiD hu (eg_var 3 rfl) rfl u_str 1) ?_
      obtain ⟨k, hk⟩ : ∃ k, s.dn[u]? = some k := ⟨_, List.getElem?_eq_getElem (by rw [ok.dn]; exact hul)⟩
      have hkD : s.dn.getD u 0 = k := by rw [List.getD_eq_getElem?_getD, hk]; rfl
      have hdl : (s.dn.map natD).length = s.th.length := by rw [List.length_map]; exact ok.dn
      show BW _ _ _ _ ({ s.lm rest rh with sh := shX st' (s.ct + 1) (loD s.lk) } : LM).m _ _
      refine bw_sgU (d := .int ((k + 1 : Nat) : Int)) (u_is (u_add (u_ixL (u_dget hu (u_var 3 (gv rfl (gP_hi (o := shX st' (s.ct + 1) (loD s.lk)) rfl))) u_str 2) (u_ixT (u_var 13 rfl) u_int) (ix_map (f := natD) hk)) u_int) (by simp)) (sg_loL (k := 0) (eg_hiD hu (eg_var 3 rfl) rfl u_str 2) rfl (u_ixT (u_var 13 rfl) u_int) (ixN_nat (by rw [hdl]; exact hul))) ?_
      have hk2 : (s.dn.set u (k + 1))[u]? = some (k + 1) := List.getElem?_set_self (by rw [ok.dn]; exact hul)
      have eDn : (s.dn.map natD).set u (.int ((k + 1 : Nat) : Int)) = (s.dn.set u (k + 1)).map natD := (List.map_set (f := natD)).symm
      show BW _ _ _ _ ({ s.lm rest rh with sh := shX st' (s.ct + 1) (loD s.lk), dn := .lst ((s.dn.map natD).set u (.int ((k + 1 : Nat) : Int))) } : LM).m _ _
      rw [eDn]
      refine bw_sgU (u_var 15 rfl) (sg_loL (k := 1) (eg_hiD hu (eg_var 3 rfl) rfl u_str 3) rfl (u_ixT (u_var 13 rfl) u_int) (ixN_nat (by rw [ok.hr]; exact hul))) ?_ nap.2
      show BW _ _ _ _ ({ s.lm rest rh with sh := shX st' (s.ct + 1) (loD s.lk), dn := .lst ((s.dn.set u (k + 1)).map natD), hr := .lst (s.hr.set u a) } : LM).m _ _
      refine bw_append (k := 3) (P := eqP (.d (tI [(u : Int), (k : Int)])) ({ s.lm rest rh with sh := shX st' (s.ct + 1) (loD s.lk), dn := .lst ((s.dn.set u (k + 1)).map natD), hr := .lst (s.hr.set u a) } : LM).m) (eg_hiD hu (eg_var 3 rfl) rfl u_str 6) (eg_U (u_tup (ua_cons (u_ixT (u_var 13 rfl) u_int) (ua_cons (u_is (u_sub (u_ixL (u_dget hu (u_var 3 (gv rfl (gP_hi (o := shX st' (s.ct + 1) (loD s.lk)) rfl))) u_str 2) (u_ixT (u_var 13 rfl) u_int) (ix_map (f := natD) hk2)) u_int) (by simp)) ua_nil))) rfl) ?_ ⟨_, rfl⟩
      rintro g M1 ⟨rfl, rfl⟩
      refine ⟨_, logD s.lg, rfl, rfl, by unfold logD; rw [List.length_map]; have := ok.lg; omega, ?_⟩
      show BW _ _ _ _ ({ s.lm rest rh with sh := shX st' (s.ct + 1) (loD s.lk), dn := .lst ((s.dn.set u (k + 1)).map natD), hr := .lst (s.hr.set u a), lg := .lst (logD s.lg ++ [tI [(u : Int), (k : Int)]]) } : LM).m _ _
      have eLg : logD s.lg ++ [tI [(u : Int), (k : Int)]] = logD (s.lg ++ [(u, k)]) := by unfold logD; simp
      refine bw_ifE (N1 := fun _ M' => D.non = .non ∧ M' = _) (t_is (t_eq (u_var 0 rfl) u_str rfl) (by decide +kernel)) (bw_ifT (N1 := fun _ M' => D.non = .non ∧ M' = _) (t_is (t_eq (u_var 0 rfl) u_str rfl) (by decide +kernel)) ?_ (fun Γ' M' h => bw_nil h)) (fun Γ' M' h => bw_nil h)
      refine bw_sgU u_str (sg_loD hu (eg_var 7 rfl) (LM.own (x := { s.lm rest rh with sh := shX st' (s.ct + 1) (loD s.lk), dn := .lst ((s.dn.set u (k + 1)).map natD), hr := .lst (s.hr.set u a), lg := .lst (logD s.lg ++ [tI [(u : Int), (k : Int)]]) }) h0) u_str 1) ?_ rfl
      rw [LM.setOwn (x := { s.lm rest rh with sh := shX st' (s.ct + 1) (loD s.lk), dn := .lst ((s.dn.set u (k + 1)).map natD), hr := .lst (s.hr.set u a), lg := .lst (logD s.lg ++ [tI [(u : Int), (k : Int)]]) }) h0]
      have h1 := set_at (d' := thD e "give" (seenOf n st0 dn hs) p) h0
      refine bw_nil ⟨rfl, ?_⟩
      simp only [LS.lm, LS.wr, List.map_set, List.set_set, List.length_set, hkD, eLg, List.append_nil, List.map_nil]
      rw [lst_self hj]
      rfl
    | @lBeg s e x p hlk =>
      have h0 : (s.lm rest rh).ths[u]? = some (thD e "begin" x p) := ht1
      refine bw_ifT (N1 := fun Γ' M' => Γ' = gS .lo t ps u (j + (s.lm rest rh).ths.length + 4) c .un .un .un ∧ M' = ({ s.lm rest rh with rest := rest.set j (.lst (es ++ [evD (.call u c)])), ths := (s.th.map LT.d).set u (thD e "take" x p) } : LM).m) (t_is (t_eq (u_dget hu (u_var 7 (gv rfl (gP_lo (LM.own h0)))) u_str 1) u_str rfl) (by decide +kernel)) ?_ ?_
      · skip
        refine bw_append (k := j + (s.lm rest rh).ths.length + 4) (eg_var 6 rfl) (eg_U (u_tup (ua_cons u_str (ua_cons (u_var 5 rfl) (ua_cons (u_var 9 rfl) ua_nil)))) (noL_tup (noLs_cons rfl (noLs_cons rfl (noLs_cons nc rfl))))) ?_ ⟨_, LM.re hj1⟩
        rintro g M1 ⟨rfl, rfl⟩
        refine ⟨_, es, rfl, LM.re hj1, by omega, ?_⟩
        rw [LM.setRe]
        have h1 : ({ s.lm rest rh with rest := rest.set j (.lst (es ++ [evD (.call u c)])) } : LM).ths[u]? = some (thD e "begin" x p) := h0
        refine bw_ifF (t_is (t_eq (u_var 0 rfl) u_str rfl) (by decide +kernel)) ?_
        refine bw_sgU (u_ifT (t_is (t_eq (u_var 0 rfl) u_str rfl) (by decide +kernel)) u_str) (sg_loD hu (eg_var 7 rfl) (LM.own h1) u_str 1) ?_ rfl
        rw [LM.setOwn h1]
        have h2 := set_at (d' := thD e "take" x p) h1
        exact bw_nil ⟨rfl, rfl⟩
      · rintro Γ' M' ⟨rfl, rfl⟩
        have h1 : ({ s.lm rest rh with rest := rest.set j (.lst (es ++ [evD (.call u c)])), ths := (s.th.map LT.d).set u (thD e "take" x p) } : LM).ths[u]? = some (thD e "take" x p) := set_at h0
        refine bw_ifR (t_is (t_eq (u_dget hu (u_var 7 (gv rfl (gP_lo (LM.own h1)))) u_str 1) u_str rfl) (by decide +kernel)) ?_
        refine bw_ifT (N1 := fun Γ' M' => M' = ({ ({ s.lm rest rh with rest := rest.set j (.lst (es ++ [evD (.call u c)])), ths := (s.th.map LT.d).set u (thD e "take" x p) } : LM) with sh := shX s.st s.ct (.int u), ths := (({ s.lm rest rh with rest := rest.set j (.lst (es ++ [evD (.call u c)])), ths := (s.th.map LT.d).set u (thD e "take" x p) } : LM)).ths.set u (thD e "read" x p) } : LM).m) (t_is (t_isN (u_dget hu (u_var 3 (gv rfl (gP_hi (o := shX s.st s.ct (loD s.lk)) rfl))) u_str 5)) (by rw [hlk]; rfl)) (bw_sg2 (x := .int u) (y := .str "read") (eg_U (u_tup (ua_cons (u_var 5 rfl) (ua_cons u_str ua_nil))) rfl) (sg_hiD hu (eg_var 3 rfl) rfl u_str 5) (sg_loD hu (eg_var 7 rfl) (LM.own (x := { ({ s.lm rest rh with rest := rest.set j (.lst (es ++ [evD (.call u c)])), ths := (s.th.map LT.d).set u (thD e "take" x p) } : LM) with sh := shX s.st s.ct (.int u) }) h1) u_str 1) ?_) ?_
        · refine bw_nil ?_
          exact LM.setOwn (x := { ({ s.lm rest rh with rest := rest.set j (.lst (es ++ [evD (.call u c)])), ths := (s.th.map LT.d).set u (thD e "take" x p) } : LM) with sh := shX s.st s.ct (.int u) }) h1
        · rintro Γ' M' rfl
          refine bw_retN ⟨_, rfl, rfl, ?_⟩
          simp only [LS.lm, List.map_set, List.set_set, List.length_set]
          rfl
    | @lBegN s e v x p hlk =>
      have h0 : (s.lm rest rh).ths[u]? = some (thD e "begin" x p) := ht1
      refine bw_ifT (N1 := fun Γ' M' => Γ' = gS .lo t ps u (j + (s.lm rest rh).ths.length + 4) c .un .un .un ∧ M' = ({ s.lm rest rh with rest := rest.set j (.lst (es ++ [evD (.call u c)])), ths := (s.th.map LT.d).set u (thD e "take" x p) } : LM).m) (t_is (t_eq (u_dget hu (u_var 7 (gv rfl (gP_lo (LM.own h0)))) u_str 1) u_str rfl) (by decide +kernel)) ?_ ?_
      · skip
        refine bw_append (k := j + (s.lm rest rh).ths.length + 4) (eg_var 6 rfl) (eg_U (u_tup (ua_cons u_str (ua_cons (u_var 5 rfl) (ua_cons (u_var 9 rfl) ua_nil)))) (noL_tup (noLs_cons rfl (noLs_cons rfl (noLs_cons nc rfl))))) ?_ ⟨_, LM.re hj1⟩
        rintro g M1 ⟨rfl, rfl⟩
        refine ⟨_, es, rfl, LM.re hj1, by omega, ?_⟩
        rw [LM.setRe]
        have h1 : ({ s.lm rest rh with rest := rest.set j (.lst (es ++ [evD (.call u c)])) } : LM).ths[u]? = some (thD e "begin" x p) := h0
        refine bw_ifF (t_is (t_eq (u_var 0 rfl) u_str rfl) (by decide +kernel)) ?_
        refine bw_sgU (u_ifT (t_is (t_eq (u_var 0 rfl) u_str rfl) (by decide +kernel)) u_str) (sg_loD hu (eg_var 7 rfl) (LM.own h1) u_str 1) ?_ rfl
        rw [LM.setOwn h1]
        have h2 := set_at (d' := thD e "take" x p) h1
        exact bw_nil ⟨rfl, rfl⟩
      · rintro Γ' M' ⟨rfl, rfl⟩
        have h1 : ({ s.lm rest rh with rest := rest.set j (.lst (es ++ [evD (.call u c)])), ths := (s.th.map LT.d).set u (thD e "take" x p) } : LM).ths[u]? = some (thD e "take" x p) := set_at h0
        refine bw_ifR (t_is (t_eq (u_dget hu (u_var 7 (gv rfl (gP_lo (LM.own h1)))) u_str 1) u_str rfl) (by decide +kernel)) ?_
        refine bw_ifF (t_is (t_isN (u_dget hu (u_var 3 (gv rfl (gP_hi (o := shX s.st s.ct (loD s.lk)) rfl))) u_str 5)) (by rw [hlk]; rfl)) ?_
        refine bw_retN ⟨_, rfl, rfl, ?_⟩
        simp only [LS.lm, List.map_set, List.set_set, List.length_set]
        rfl
    | @lTake s e x p hlk =>
      have h0 : (s.lm rest rh).ths[u]? = some (thD e "take" x p) := ht1
      refine bw_ifF (t_is (t_eq (u_dget hu (u_var 7 (gv rfl (gP_lo (LM.own h0)))) u_str 1) u_str rfl) (by decide +kernel)) ?_
      refine bw_ifR (t_is (t_eq (u_dget hu (u_var 7 (gv rfl (gP_lo (LM.own h0)))) u_str 1) u_str rfl) (by decide +kernel)) ?_
      refine bw_ifT (N1 := fun Γ' M' => M' = ({ (s.lm rest rh) with sh := shX s.st s.ct (.int u), ths := ((s.lm rest rh)).ths.set u (thD e "read" x p) } : LM).m) (t_is (t_isN (u_dget hu (u_var 3 (gv rfl (gP_hi (o := shX s.st s.ct (loD s.lk)) rfl))) u_str 5)) (by rw [hlk]; rfl)) (bw_sg2 (x := .int u) (y := .str "read") (eg_U (u_tup (ua_cons (u_var 5 rfl) (ua_cons u_str ua_nil))) rfl) (sg_hiD hu (eg_var 3 rfl) rfl u_str 5) (sg_loD hu (eg_var 7 rfl) (LM.own (x := { (s.lm rest rh) with sh := shX s.st s.ct (.int u) }) h0) u_str 1) ?_) ?_
      · refine bw_nil ?_
        exact LM.setOwn (x := { (s.lm rest rh) with sh := shX s.st s.ct (.int u) }) h0
      · rintro Γ' M' rfl
        refine bw_retN ⟨_, rfl, rfl, ?_⟩
        simp only [LS.lm, List.map_set, List.set_set, List.length_set, List.append_nil, List.map_nil]
        rw [lst_self hj]
        rfl
    | @lWait s e v x p hlk =>
      have h0 : (s.lm rest rh).ths[u]? = some (thD e "take" x p) := ht1
      refine bw_ifF (t_is (t_eq (u_dget hu (u_var 7 (gv rfl (gP_lo (LM.own h0)))) u_str 1) u_str rfl) (by decide +kernel)) ?_
      refine bw_ifR (t_is (t_eq (u_dget hu (u_var 7 (gv rfl (gP_lo (LM.own h0)))) u_str 1) u_str rfl) (by decide +kernel)) ?_
      refine bw_ifF (t_is (t_isN (u_dget hu (u_var 3 (gv rfl (gP_hi (o := shX s.st s.ct (loD s.lk)) rfl))) u_str 5)) (by rw [hlk]; rfl)) ?_
      refine bw_retN ⟨_, rfl, rfl, ?_⟩
      rw [set_self ht]
      simp only [List.append_nil, List.map_nil]
      rw [lst_self hj]
    | @lGive s e st' a x =>
      have h0 : (s.lm rest rh).ths[u]? = some (thD e "give" x (.tup [st', a])) := ht1
      refine bw_ifF (t_is (t_eq (u_dget hu (u_var 7 (gv rfl (gP_lo (LM.own h0)))) u_str 1) u_str rfl) (by decide +kernel)) ?_
      refine bw_ifF (t_is (t_eq (u_dget hu (u_var 7 (gv rfl (gP_lo (LM.own h0)))) u_str 1) u_str rfl) (by decide +kernel)) ?_
      refine bw_ifF (t_is (t_eq (u_dget hu (u_var 7 (gv rfl (gP_lo (LM.own h0)))) u_str 1) u_str rfl) (by decide +kernel)) ?_
      refine bw_ifF (t_is (t_eq (u_dget hu (u_var 7 (gv rfl (gP_lo (LM.own h0)))) u_str 1) u_str rfl) (by decide +kernel)) ?_
      refine bw_ifR (t_is (t_eq (u_dget hu (u_var 7 (gv rfl (gP_lo (LM.own h0)))) u_str 1) u_str rfl) (by decide +kernel)) ?_
      have na : noL a = true := by
        have := (ok.th _ (List.mem_of_getElem? ht)).2
        simp only [noL, noLs, Bool.and_eq_true] at this
        exact this.2.1
      refine bw_sgU u_non (sg_hiD hu (eg_var 3 rfl) rfl u_str 5) ?_
      refine bw_retS (cal_L_ends S) hr (ag_c (eg_var 4 rfl) (ag_c (eg_var 5 rfl) (ag_c (eg_var 6 rfl) (ag_c (eg_U (u_ixT (ds := [st', a]) (u_dget hu (u_var 7 (gv rfl (gP_lo (LM.own (x := { s.lm rest rh with sh := shX s.st s.ct .non }) h0)))) u_str 3) u_int) na) ag_nil)))) ?_
      rintro gs M1 ⟨rfl, rfl⟩
      refine ⟨_, ⟨{ s.lm rest rh with sh := shX s.st s.ct .non }, u, j, e, "give", x, .tup [st', a], a, es, rfl, rfl, rfl, ⟨shX_ok, lok.rh⟩, h0, hj1, by omega, na, rfl⟩, ?_⟩
      rintro d M2 ⟨rfl, rfl⟩
      refine ⟨_, rfl, rfl, ?_⟩
      simp only [LS.lm, LT.new, List.map_set, List.length_set]
      rfl
end
end P6
namespace P6
open PySem PySem.Spec PyProof.Rows L2
/-! ### new objects, one for each item -/
def NewAt (H : Hp) (a : Addr) : D → Prop
  | .lst ds => ∃ xs, H a = some (.lst xs) ∧ Reps H ds xs ∧ noLs ds = true
  | .dic ks ds => ∃ vs, H a = some (.dK (kz ks vs)) ∧ ks.length = ds.length ∧ Reps H ds vs ∧ noLs ds = true
  | _ => False
theorem NewAt.low {H : Hp} {a : Addr} {A : Ad} {M : Mem} {d : D} (m : Tsm H (delA A.all H)) (h : NewAt H a d) : LowAt (delA A.all H) H a d := by
  cases d with
  | lst ds => obtain ⟨xs, h1, h2, h3⟩ := h; exact ⟨xs, h1, Reps.monoT m h3 h2⟩
  | dic ks ds => obtain ⟨xs, h1, h2, h3, h4⟩ := h; exact ⟨xs, h1, h2, Reps.monoT m h4 h3⟩
  | _ => exact h.elim
theorem NewAt.mono {H H' : Hp} {a : Addr} (e : Tsm H H') (ea : ∀ o, H a = some o → H' a = some o) : ∀ {d : D}, NewAt H a d → NewAt H' a d
  | .lst _, ⟨xs, h1, h2, h3⟩ => ⟨xs, ea _ h1, Reps.monoT e h3 h2, h3⟩
  | .dic _ _, ⟨xs, h1, h2, h3, h4⟩ => ⟨xs, ea _ h1, h2, Reps.monoT e h4 h3, h4⟩
theorem NewAt.some {H : Hp} {a : Addr} {d : D} (h : NewAt H a d) : ∃ o, H a = some o ∧ ∀ xs, o ≠ .tup xs := by
  cases d with
  | lst ds => obtain ⟨xs, h1, _⟩ := h; exact ⟨_, h1, fun _ z => nomatch z⟩
  | dic ks ds => obtain ⟨xs, h1, _⟩ := h; exact ⟨_, h1, fun _ z => nomatch z⟩
  | _ => exact h.elim
def UN (X : Cx) (e : Expr) (Γ : List G) (d : D) : Prop := ∃ t, PE X e t ∧ ∀ σ H, EnvR H Γ σ → ∀ Q : VK, (∀ p H', Same H H' → H p = none → NewAt H' p d → Q (.ref p) H') → t σ H Q
theorem un_lst {X : Cx} {Γ : List G} {e : Expr} {ds : List D} (h : UL X e Γ ds) (n : noLs ds = true) : UN X e Γ (.lst ds) := by
  obtain ⟨t, h1, h2⟩ := h
  exact ⟨t, h1, fun σ H e Q q => h2 σ H e Q fun l H' e1 hn ⟨xs, k1, k2⟩ => q l H' e1 hn ⟨xs, k1, k2.mono del_le, n⟩⟩
theorem un_dic {X : Cx} {Γ : List G} {e : Expr} {ks : List Str} {ds : List D} (h : UDic X e Γ ks ds) (n : noLs ds = true) : UN X e Γ (.dic ks ds) := by
  obtain ⟨t, h1, h2⟩ := h
  exact ⟨t, h1, fun σ H e Q q => h2 σ H e Q fun p H1 vs e1 hp hp1 hk r => q p _ (e1.trans (Same.new hp1)) hp ⟨vs, upd_same, hk, r.mono (Same.new hp1), n⟩⟩
def UNB (X : Cx) (scope : Scope) (e : Expr) (Γ : List G) (d : D) : Prop := ∀ (s : Shared) (H : Hp) (C : Addr) (cl : List (Str × Addr)) (fp : List Addr), UN (X.blk s H scope (compEnvC scope cl C X.env) fp) e Γ d
theorem UNB.sem {X : Cx} {scope : Scope} {e : Expr} {Γ : List G} {d : D} (h : UNB X scope e Γ d) : ∀ σ H, EnvR H Γ σ → ∀ Q : VK, (∀ p H', Same H H' → H p = none → NewAt H' p d → Q (.ref p) H') → semB X scope e σ H Q := fun σ H e Q q s0 H0 C cl fp pins s I => by
  obtain ⟨t, h1, h2⟩ := h s0 H0 C cl fp
  exact h1.run pins s σ H Q I (h2 σ H e Q q)
/-- what stands behind: a new list l of new objects as -/
structure Made (H H' : Hp) (l : Addr) (as : List Addr) (d : D) : Prop where
  s : Same H H'
  ls : H' l = some (.lst (as.map .ref))
  nd : (l :: as).Nodup
  fr : ∀ a ∈ l :: as, H a = none
  new : ∀ a ∈ as, NewAt H' a d
section
variable {X : Cx} {Γ : List G} {elt iter : Expr} {ds : List D} {d : D} {pos : Pos}
theorem made_lc {nm : Str} {i : Nat} {scope : Scope} {tp : Pos} (hN : X.N.Nodup) (hi : UI X (.Name nm tp) iter Γ ds) (ok : BlkOk X.N X.env.scope scope [(nm, i)]) (hz : ds.length ≤ 1000)
    (hv : ∀ y ∈ ds, UNB X scope elt ((wipeG Γ [i]).set i (.d y)) d) (hx : X.N[i]? = some nm := by rfl) (hc : X.calm = true := by rfl)
    (hlo : scope.names.lookup nm = some .local ∨ scope.names.lookup nm = some .cell := by first | exact Or.inl rfl | exact Or.inr rfl)
    (hs : ∀ x, foldedSetIterable iter X.env x = pure x := by intro _; rfl) : ∃ t, PE X (.ListComp elt [⟨.Name nm tp, iter, [], 0⟩] scope pos) t ∧
      (∀ (k : Nat) (y : Str) (py spos : Pos), X.N[k]? = some y → X.env.scope.names.lookup y = some .local → swapsWith (.ListComp elt [⟨.Name nm tp, iter, [], 0⟩] scope pos) (some (.Name y py)) spos.line X.env = pure true → PS X (.Assign [.Name y py] (.ListComp elt [⟨.Name nm tp, iter, [], 0⟩] scope pos) spos) (tAsg t (gName k))) ∧
      ∀ σ H, EnvR H Γ σ → ∀ Q : VK, (∀ l H' as, as.length = ds.length → Made H H' l as d → Q (.ref l) H') → t σ H Q := by
  obtain ⟨wi, h1, h2⟩ := hi
  have hg := fun (s : Shared) (H : Hp) (C : Addr) (cl : List (Str × Addr)) (fp : List Addr) => pg_name (X := X.blk s H scope (compEnvC scope cl C X.env) fp) (pos := tp) hN hx (relLoc hlo) (fnLoc hlo)
  refine ⟨_, pe_lc hc hN h1 ok hg (fun _ _ _ _ _ => pts_nil) (te := semB X scope elt) pe_semB hs, fun k y py spos hy hyl hsw => ps_setLc hc hN hy hyl hsw h1 ok hg (fun _ _ _ _ _ => pts_nil) pe_semB hs, fun σ H e Q q => h2 σ H e _ fun J H1 e1 hJ => fun D0 hD => ?_⟩
  have eD : EnvR H1 Γ σ := e.mono e1
  refine ⟨fun j t H2 => t = ds.length - j ∧ j ≤ ds.length ∧ ∃ as, as.length = j ∧ Made H1 H2 D0 as d, ⟨_, rfl, Nat.zero_le _, [], rfl, Same.new hD, upd_same, by simp, by simpa using hD, by simp⟩, ?_⟩
  rintro j t H2 ⟨rfl, hj, as, rfl, md⟩
  obtain ⟨hgo, hst⟩ := hJ H2 md.s
  by_cases hlt : as.length < ds.length
  · obtain ⟨g1, g2⟩ := hgo as.length hlt
    refine .inr ⟨g1, fun H' => ds.length - (as.length + 1) < ds.length - as.length ∧ ∃ as', as'.length = as.length + 1 ∧ Made H1 H' D0 as' d, fun H' n => ⟨_, n.1, rfl, hlt, n.2⟩, fun x H' hy => ?_⟩
    obtain ⟨rfl, y, hd, rd⟩ := g2 x H' hy
    have eW : EnvR H' ((wipeG Γ [i]).set i (.d y)) ((wipe σ [i]).set i (some x)) := EnvR.setD rd i ((eD.mono md.s).wipe [i])
    refine ⟨?_, ?_⟩
    · show ((wipe σ [i]).set i (some x)).set i none = (σ.set i none)
      show ((σ.set i none).set i (some x)).set i none = (σ.set i none)
      rw [List.set_set, List.set_set]
    · show semB X scope elt _ H' _
      refine (hv y (List.mem_of_getElem? hd)).sem _ H' eW _ fun p H4 e4 hp np => ?_
      have hD4 := e4 _ _ md.ls
      refine ⟨as.map .ref, hD4, by rw [List.length_map, sizeLine_eq]; omega, by omega, as ++ [p], by simp, ?_⟩
      have pD : p ≠ D0 := (ne_of_none md.ls hp).symm
      have pas : ¬ p ∈ as := fun z => by
        obtain ⟨o, h3, _⟩ := (md.new p z).some
        rw [hp] at h3
        cases h3
      have nd := List.nodup_cons.mp md.nd
      have ts : Tsm H4 (upd H4 D0 (.lst (as.map .ref ++ [V.ref p]))) := ts_lst hD4
      refine ⟨fun b o hb => ?_, by rw [List.map_append]; exact upd_same, List.nodup_cons.mpr ⟨fun z => ?_, List.nodup_append.mpr ⟨nd.2, by simp, fun a ha b hb z => ?_⟩⟩, fun a ha => ?_, fun a ha => ?_⟩
      · rw [upd_ne (ne_of_none hb hD)]
        exact e4 _ _ (md.s _ _ hb)
      · rcases List.mem_append.mp z with z | z
        · exact nd.1 z
        · simp at z
          exact pD z.symm
      · simp at hb
        subst hb
        subst z
        exact pas ha
      · rcases List.mem_cons.mp ha with rfl | ha
        · exact hD
        · rcases List.mem_append.mp ha with ha | ha
          · exact md.fr a (List.mem_cons_of_mem _ ha)
          · simp at ha
            subst ha
            exact Same.free md.s hp
      · rcases List.mem_append.mp ha with ha | ha
        · have hne : a ≠ D0 := fun z => nd.1 (z ▸ ha)
          refine (md.new a ha).mono ((Same.ts e4).trans ts) fun o ho => ?_
          rw [upd_ne hne]
          exact e4 _ _ ho
        · simp at ha
          subst ha
          refine np.mono ts fun o ho => ?_
          rw [upd_ne pD]
          exact ho
  · have hje : as.length = ds.length := by omega
    refine .inl ⟨by rw [hje]; exact hst, q D0 H2 as hje ⟨e1.trans md.s, md.ls, md.nd, fun a ha => Same.free e1 (md.fr a ha), md.new⟩⟩
end
end P6
namespace P6
open PySem PySem.Spec PyProof.Rows L2 H6
theorem ul_rep {X : Cx} {Γ : List G} {a b : Expr} {pos : Pos} {ds : List D} {n : Nat} (ha : U X a Γ (.lst ds)) (hb : U X b Γ (.int n)) (hl : ds.length ≤ 1) (hn : n ≤ 4) : UL X (.BinOp a .Mult b pos) Γ (List.replicate n ds).flatten := by
  obtain ⟨ta, h1, h2⟩ := ha
  obtain ⟨tb, h3, h4⟩ := hb
  refine ⟨_, pe_op op_rep h1 h3, fun σ H e Q q => h2 σ H e _ fun v H1 e1 r1 => h4 σ H1 (e.mono e1) _ fun u H2 e2 r2 => ?_⟩
  obtain ⟨l, xs, k1, k2, k3⟩ := r1.mono e2
  refine ⟨l, n, xs, k1, r2, k2, by omega, by omega, ?_, fun p hp => ?_⟩
  · rw [Int.toNat_natCast, k3.length, sizeLine_eq]
    have := Nat.mul_le_mul hl hn
    omega
  · rw [Int.toNat_natCast]
    refine q p _ ((e1.trans e2).trans (Same.new hp)) (Same.free (e1.trans e2) hp) ⟨_, upd_same, ?_⟩
    refine reps_times n (k3.mono fun b o hb => ?_)
    rw [del_ne (ne_of_none hb hp), upd_ne (ne_of_none hb hp)]
    exact hb
structure ShAt (H H' : Hp) (p dn hr tl lg : Addr) (d0 : D) (n : Nat) : Prop where
  s : Same H H'
  fr : ∀ a ∈ [p, dn, hr, tl, lg], H a = none
  nd : [p, dn, hr, tl, lg].Nodup
  sh : ∃ v0, H' p = some (.dK (kz shK [v0, .int 0, .ref dn, .ref hr, .ref tl, .non, .ref lg])) ∧ Rep H' d0 v0
  a1 : NewAt H' dn (.lst (List.replicate n (.int 0)))
  a2 : NewAt H' hr (.lst (List.replicate n .non))
  a3 : NewAt H' tl (.lst (List.replicate n (.tup [.int 0, .non])))
  a4 : NewAt H' lg (.lst [])
theorem rep1_noL {n : Nat} {d : D} (h : noL d = true) : noLs (List.replicate n d) = true := noLs_iff.mpr fun y hy => by
  rw [List.eq_of_mem_replicate hy]
  exact h
theorem LA.newAt {H : Hp} {l : Addr} {ds : List D} (h : LA H l ds) (n : noLs ds = true) : NewAt H l (.lst ds) := by
  obtain ⟨xs, k1, k2⟩ := h
  exact ⟨xs, k1, k2.mono del_le, n⟩
theorem sh_dic {X : Cx} {Γ : List G} {pos k1 k2 k3 k4 k5 k6 k7 : Pos} {j1 j2 j3 j4 j5 j6 j7 : Nat} {e1 e2 e3 e4 e5 e6 e7 : Expr} {d0 : D} {n : Nat} (h1 : U X e1 Γ d0) (h2 : U X e2 Γ (.int 0)) (h3 : UL X e3 Γ (List.replicate n (.int 0))) (h4 : UL X e4 Γ (List.replicate n .non)) (h5 : UL X e5 Γ (List.replicate n (.tup [.int 0, .non]))) (h6 : U X e6 Γ .non) (h7 : UL X e7 Γ []) (n0 : noL d0 = true) :
    ∃ t, PE X (.Dict [some (.Constant (.str "state") j1 k1), some (.Constant (.str "count") j2 k2), some (.Constant (.str "done") j3 k3), some (.Constant (.str "heard") j4 k4), some (.Constant (.str "told") j5 k5), some (.Constant (.str "lock") j6 k6), some (.Constant (.str "log") j7 k7)] [e1, e2, e3, e4, e5, e6, e7] pos) t ∧
      ∀ σ H, EnvR H Γ σ → ∀ Q : VK, (∀ p dn hr tl lg H', ShAt H H' p dn hr tl lg d0 n → Q (.ref p) H') → t σ H Q := by
  obtain ⟨t1, a1, b1⟩ := h1
  obtain ⟨t2, a2, b2⟩ := h2
  obtain ⟨t3, a3, b3⟩ := h3
  obtain ⟨t4, a4, b4⟩ := h4
  obtain ⟨t5, a5, b5⟩ := h5
  obtain ⟨t6, a6, b6⟩ := h6
  obtain ⟨t7, a7, b7⟩ := h7
  refine ⟨_, pe_disp (pps_cons pe_str a1 (pps_cons pe_str a2 (pps_cons pe_str a3 (pps_cons pe_str a4 (pps_cons pe_str a5 (pps_cons pe_str a6 (pps_cons pe_str a7 pps_nil))))))) rfl rfl (fun z => nomatch z) (by simp), fun σ H e Q q => fun p hp => ?_⟩
  have e0 := e.mono (Same.new (o := .dK []) hp)
  refine b1 σ _ e0 _ fun v0 H1 s1 r0 => b2 σ H1 (e0.mono s1) _ fun vc H2 s2 rc => ?_
  have s02 := s1.trans s2
  refine b3 σ H2 (e0.mono s02) _ fun dn H3 s3 n3 l3 => ?_
  have s03 := s02.trans s3
  refine b4 σ H3 (e0.mono s03) _ fun hr H4 s4 n4 l4 => ?_
  have s04 := s03.trans s4
  refine b5 σ H4 (e0.mono s04) _ fun tl H5 s5 n5 l5 => ?_
  have s05 := s04.trans s5
  refine b6 σ H5 (e0.mono s05) _ fun vl H6 s6 rl => ?_
  have s06 := s05.trans s6
  refine b7 σ H6 (e0.mono s06) _ fun lg H7 s7 n7 l7 => ?_
  have s07 := s06.trans s7
  cases rc
  cases rl
  have hp7 : H7 p = some (.dK []) := s07 _ _ upd_same
  refine ⟨hp7, kz shK [v0, .int 0, .ref dn, .ref hr, .ref tl, .non, .ref lg], rfl, Nat.le_trans kz_length (by decide), ?_⟩
  have em := merge_kz (ks := shK) (vs := [v0, .int 0, .ref dn, .ref hr, .ref tl, .non, .ref lg]) (acc := []) (by decide +kernel) rfl (fun _ _ => rfl)
  rw [em]
  have D3 := l3.newAt (rep1_noL rfl)
  have D4 := l4.newAt (rep1_noL rfl)
  have D5 := l5.newAt (rep1_noL rfl)
  have D7 := l7.newAt rfl
  have up : ∀ {Ha Hb : Hp} {a b : Addr} {d : D}, NewAt Ha a d → Same Ha Hb → Hb b = none → a ≠ b := fun h s hb z => by
    obtain ⟨o, ho, _⟩ := h.some
    have := s _ _ ho
    rw [z, hb] at this
    cases this
  have pne : ∀ {Hb : Hp} {b : Addr}, Same (upd H p (.dK [])) Hb → Hb b = none → p ≠ b := fun s hb z => by
    have := s _ _ upd_same
    rw [z, hb] at this
    cases this
  have p3 := pne s02 n3
  have p4 := pne s03 n4
  have p5 := pne s04 n5
  have p7 := pne s06 n7
  have d34 := up D3 (Same.refl _) n4
  have d35 := up D3 s4 n5
  have d37 := up D3 ((s4.trans s5).trans s6) n7
  have d45 := up D4 (Same.refl _) n5
  have d47 := up D4 (s5.trans s6) n7
  have d57 := up D5 s6 n7
  have tsu : Tsm H7 (upd H7 p (.dK (kz shK [v0, .int 0, .ref dn, .ref hr, .ref tl, .non, .ref lg]))) := Tsm.upd hp7 fun _ z => nomatch z
  have fin : ∀ {Ha : Hp} {a : Addr} {d : D}, NewAt Ha a d → Same Ha H7 → a ≠ p → NewAt (upd H7 p (.dK (kz shK [v0, .int 0, .ref dn, .ref hr, .ref tl, .non, .ref lg]))) a d := fun h s ne => h.mono ((Same.ts s).trans tsu) fun o ho => by
    rw [upd_ne ne]
    exact s _ _ ho
  have sH : Same H (upd H p (.dK [])) := Same.new hp
  refine q p dn hr tl lg _ ⟨fun b o hb => ?_, ?_, ?_, ⟨v0, upd_same, Rep.monoT ((Same.ts ((((((s2.trans s3).trans s4).trans s5).trans s6).trans s7))).trans tsu) n0 r0⟩, fin D3 (((s4.trans s5).trans s6).trans s7) p3.symm, fin D4 ((s5.trans s6).trans s7) p4.symm, fin D5 (s6.trans s7) p5.symm, fin D7 (Same.refl _) p7.symm⟩
  · rw [upd_ne (ne_of_none hb hp)]
    exact s07 _ _ (sH _ _ hb)
  · intro a ha
    simp only [List.mem_cons, List.not_mem_nil, or_false] at ha
    rcases ha with rfl | rfl | rfl | rfl | rfl
    · exact hp
    · exact Same.free (sH.trans s02) n3
    · exact Same.free (sH.trans s03) n4
    · exact Same.free (sH.trans s04) n5
    · exact Same.free (sH.trans s06) n7
  · simp [p3, p4, p5, p7, d34, d35, d37, d45, d47, d57]
def LS.first (t : Thing) (n : Nat) : LS := ⟨firstD t, 0, List.replicate n 0, List.replicate n .non, none, [], List.replicate n (.new 0)⟩
theorem firstD_noL (t : Thing) : noL (firstD t) = true := by
  have ti : ∀ ns : List Int, noL (tI ns) = true := fun ns => noL_tup (noLs_iff.mpr fun d hd => by
    obtain ⟨n, _, rfl⟩ := List.mem_map.mp hd
    rfl)
  cases t <;> first | rfl | exact ti _
def spFresh : Sp := fun vs H Q _ => ∃ (t : Thing) (ps : List (List D)), Reps H [t.d, plansD ps] vs ∧ ps.length ≤ 4 ∧
  ∀ l H' (A : Ad) p th, Same H H' → (∀ a ∈ A.all, H a = none) → HM A ((LS.first t ps.length).lm [] []).m H' → A.hi = [p, th] → H' l = some (.tup [.ref p, .ref th]) → Q (.ref l) H'
/-- the memory that stands when the dict, the list and its dicts are made -/
theorem hm_first {H H7 H8 : Hp} {p dn hr tl lg th : Addr} {as : List Addr} {t : Thing} {n : Nat} (a : ShAt H H7 p dn hr tl lg (firstD t) n) (b : Made H7 H8 th as (thD 0 "begin" .non .non)) (hl : as.length = n) :
    HM ⟨dn :: hr :: tl :: lg :: as, [p, th]⟩ ((LS.first t n).lm [] []).m H8 ∧ ∀ c ∈ (Ad.mk (dn :: hr :: tl :: lg :: as) [p, th]).all, H c = none := by
  obtain ⟨v0, hsh, hr0⟩ := a.sh
  have hp8 := b.s _ _ hsh
  have nn : ∀ {c : Addr} {d : D}, NewAt H7 c d → NewAt H8 c d := fun h => h.mono (Same.ts b.s) fun o ho => b.s _ _ ho
  have b1 := nn a.a1
  have b2 := nn a.a2
  have b3 := nn a.a3
  have b4 := nn a.a4
  have nd1 := a.nd
  simp only [List.nodup_cons, List.mem_cons, List.not_mem_nil, or_false, not_or, List.nodup_nil, and_true, not_false_eq_true] at nd1
  have ndB := List.nodup_cons.mp b.nd
  have old : ∀ {c : Addr} {o : HO}, H7 c = some o → ¬ c ∈ th :: as := fun h z => by
    rw [b.fr _ z] at h
    cases h
  have o0 := old hsh
  obtain ⟨_, q1, _⟩ := a.a1.some
  obtain ⟨_, q2, _⟩ := a.a2.some
  obtain ⟨_, q3, _⟩ := a.a3.some
  obtain ⟨_, q4, _⟩ := a.a4.some
  have o1 := old q1
  have o2 := old q2
  have o3 := old q3
  have o4 := old q4
  simp only [List.mem_cons, not_or] at o0 o1 o2 o3 o4
  let A : Ad := ⟨dn :: hr :: tl :: lg :: as, [p, th]⟩
  have mem : ∀ c, c ∈ A.all ↔ c = dn ∨ c = hr ∨ c = tl ∨ c = lg ∨ c ∈ as ∨ c = p ∨ c = th := fun c => by
    show c ∈ (dn :: hr :: tl :: lg :: as) ++ [p, th] ↔ _
    simp [or_assoc]
  have obj : ∀ c ∈ A.all, ∃ o, H8 c = some o ∧ ∀ xs, o ≠ .tup xs := fun c hc => by
    rcases (mem c).mp hc with rfl | rfl | rfl | rfl | h | rfl | rfl
    · exact b1.some
    · exact b2.some
    · exact b3.some
    · exact b4.some
    · exact (b.new c h).some
    · exact ⟨_, hp8, fun _ z => nomatch z⟩
    · exact ⟨_, b.ls, fun _ z => nomatch z⟩
  have ts : Tsm H8 (delA A.all H8) := fun c xs h => by
    rw [delA_out]
    · exact h
    · intro z
      obtain ⟨o, h1, h2⟩ := obj c z
      rw [h] at h1
      exact h2 xs (Option.some.inj h1).symm
  refine ⟨⟨?_, rfl, ?_, fun k c d h1 h2 => ?_, fun k c o h1 h2 => ?_⟩, fun c hc => ?_⟩
  · show (dn :: hr :: tl :: lg :: as).length = (_ :: _ :: _ :: _ :: ((List.replicate n (LT.new 0)).map LT.d ++ [])).length
    simp [hl]
  · show ((dn :: hr :: tl :: lg :: as) ++ [p, th]).Nodup
    have hth : ¬ th ∈ as := ndB.1
    have s1 : ∀ c ∈ as, c ≠ dn ∧ c ≠ hr ∧ c ≠ tl ∧ c ≠ lg ∧ c ≠ p ∧ c ≠ th := fun c hc => ⟨fun z => o1.2 (z ▸ hc), fun z => o2.2 (z ▸ hc), fun z => o3.2 (z ▸ hc), fun z => o4.2 (z ▸ hc), fun z => o0.2 (z ▸ hc), fun z => hth (z ▸ hc)⟩
    obtain ⟨⟨c1, c2, c3, c4⟩, ⟨c5, c6, c7⟩, ⟨c8, c9⟩, c10⟩ := nd1
    simp only [List.cons_append, List.nodup_cons, List.mem_cons, List.mem_append, List.not_mem_nil, or_false, not_or, List.nodup_append, List.nodup_nil, not_false_eq_true, and_true]
    refine ⟨⟨c5, c6, c7, o1.2, Ne.symm c1, o1.1⟩, ⟨c8, c9, o2.2, Ne.symm c2, o2.1⟩, ⟨c10, o3.2, Ne.symm c3, o3.1⟩, ⟨o4.2, Ne.symm c4, o4.1⟩, ndB.2, o0.1, fun c hc y hy => ?_⟩
    rcases hy with rfl | rfl
    · exact (s1 c hc).2.2.2.2.1
    · exact (s1 c hc).2.2.2.2.2
  · match k, h1, h2 with
    | 0, h1, h2 =>
      cases h1
      cases h2
      have e : (LS.first t n).dn.map natD = List.replicate n (.int 0) := by simp [LS.first, natD]
      show LowAt _ _ _ (.lst _)
      rw [e]
      exact NewAt.low (M := ⟨[], []⟩) ts b1
    | 1, h1, h2 => cases h1; cases h2; exact NewAt.low (M := ⟨[], []⟩) ts b2
    | 2, h1, h2 =>
      cases h1
      cases h2
      have e : (LS.first t n).th.length = n := by simp [LS.first]
      show LowAt _ _ _ (.lst (List.replicate (LS.first t n).th.length _))
      rw [e]
      exact NewAt.low (M := ⟨[], []⟩) ts b3
    | 3, h1, h2 => cases h1; cases h2; exact NewAt.low (M := ⟨[], []⟩) ts b4
    | k + 4, h1, h2 =>
      have h1 : as[k]? = some c := h1
      have h2 : ((List.replicate n (LT.new 0)).map LT.d ++ [])[k]? = some d := h2
      rw [List.append_nil, List.map_replicate] at h2
      have := List.eq_of_mem_replicate (List.mem_of_getElem? h2)
      subst this
      exact NewAt.low (M := ⟨[], []⟩) ts (b.new c (List.mem_of_getElem? h1))
  · match k, h1, h2 with
    | 0, h1, h2 =>
      cases h1
      cases h2
      refine ⟨_, hp8, rfl, v0, _, rfl, Rep.monoT ts (firstD_noL t) (hr0.mono b.s), _, _, rfl, rfl, _, _, rfl, ⟨dn, rfl, rfl⟩, _, _, rfl, ⟨hr, rfl, rfl⟩, _, _, rfl, ⟨tl, rfl, rfl⟩, _, _, rfl, rfl, _, _, rfl, ⟨lg, rfl, rfl⟩, rfl⟩
    | 1, h1, h2 =>
      cases h1
      cases h2
      refine ⟨_, b.ls, ?_⟩
      have e : ((LS.first t n).lm [] []).ths.length = n := by simp [LS.first, LS.lm]
      rw [e]
      have gen : ∀ (bs : List Addr) (m : Nat), (∀ i c, bs[i]? = some c → A.lo[m + i + 4]? = some c) → ItRs (delA A.all H8) A ((List.range bs.length).map fun i => I2.own (m + i + 4)) (bs.map .ref) := by
        intro bs
        induction bs with
        | nil => intro m _; rfl
        | cons c bs ih =>
          intro m hm
          rw [List.length_cons, List.range_succ_eq_map, List.map_cons, List.map_map]
          refine ⟨.ref c, _, rfl, ⟨c, hm 0 c rfl, rfl⟩, ?_⟩
          have := ih (m + 1) fun i c' h => by
            have := hm (i + 1) c' h
            rw [show m + 1 + i + 4 = m + (i + 1) + 4 by omega]
            exact this
          refine cast (congrArg (fun f => ItRs (delA A.all H8) A (List.map f (List.range bs.length)) (bs.map .ref)) ?_) this
          funext i
          show I2.own (m + 1 + i + 4) = I2.own (m + (i + 1) + 4)
          rw [show m + 1 + i + 4 = m + (i + 1) + 4 by omega]
      have g := gen as 0 fun i c h => by
        show as[0 + i]? = some c
        rw [Nat.zero_add]
        exact h
      rw [hl] at g
      unfold owns
      simpa using g
    | k + 2, h1, h2 => simp at h1
  · rcases (mem c).mp hc with rfl | rfl | rfl | rfl | h | rfl | rfl
    · exact a.fr _ (by simp)
    · exact a.fr _ (by simp)
    · exact a.fr _ (by simp)
    · exact a.fr _ (by simp)
    · exact Same.free a.s (b.fr c (List.mem_cons_of_mem _ h))
    · exact a.fr _ (by simp)
    · exact Same.free a.s (b.fr _ (by simp))
end P6
namespace P6
open PySem PySem.Spec PyProof.Rows L2 H6
theorem sem_run {X : Cx} {e : Expr} {t : TE} {σ : L2.St} {H : Hp} {Q : VK} (h : PE X e t) (q : t σ H Q) : sem X e σ H Q := fun pins s I => h.run pins s σ H Q I q
section
variable {X : Cx} {Γ : List G} {elt iter : Expr} {ds : List D} {d : D} {pos : Pos}
theorem made_sem {nm : Str} {i : Nat} {scope : Scope} {tp : Pos} {σ : L2.St} {H : Hp} {Q : VK} (hN : X.N.Nodup) (hi : UI X (.Name nm tp) iter Γ ds) (ok : BlkOk X.N X.env.scope scope [(nm, i)]) (hz : ds.length ≤ 1000)
    (hv : ∀ y ∈ ds, UNB X scope elt ((wipeG Γ [i]).set i (.d y)) d) (e : EnvR H Γ σ) (q : ∀ l H' as, as.length = ds.length → Made H H' l as d → Q (.ref l) H') (hx : X.N[i]? = some nm := by rfl) (hc : X.calm = true := by rfl)
    (hlo : scope.names.lookup nm = some .local ∨ scope.names.lookup nm = some .cell := by first | exact Or.inl rfl | exact Or.inr rfl)
    (hs : ∀ x, foldedSetIterable iter X.env x = pure x := by intro _; rfl) : sem X (.ListComp elt [⟨.Name nm tp, iter, [], 0⟩] scope pos) σ H Q := by
  obtain ⟨t, h1, _, h2⟩ := made_lc (pos := pos) hN hi ok hz hv hx hc hlo hs
  exact sem_run h1 (h2 σ H e Q q)
end
section
variable {P : Program} {w : World} {K : PySem.W.Frag} {mg : Str → Option Value} {base : Heap}
theorem flat_rep {d : D} : ∀ n : Nat, (List.replicate n [d]).flatten = List.replicate n d
  | 0 => rfl
  | n + 1 => by rw [List.replicate_succ, List.flatten_cons, flat_rep n, List.replicate_succ]; rfl
theorem ul_is {X : Cx} {e : Expr} {Γ : List G} {ds es : List D} (h : UL X e Γ ds) (q : ds = es) : UL X e Γ es := q ▸ h
theorem cal_L_fresh (S : Ctx K mg) : Cal P w K mg base "_law_fresh" p_L_fresh 2 spFresh := by
  obtain ⟨fd, F⟩ := F_L_fresh S
  have Bt := bs_of S
  refine ⟨_, fd, F.ok sc_L_fresh (fun vs H Q E hs => ?_) (fun cdv A outer s H vs Q E hr hs => ?_), g_L_fresh S, F.kp, bd_L_fresh F⟩
  · obtain ⟨t, ps, h1, _⟩ := hs
    rw [h1.length]
    rfl
  · obtain ⟨t, ps, h1, hn, h3⟩ := hs
    have hu := hu_of hr
    have e0 : EnvR H [.d t.d, .d (plansD ps), .un, .un, .un] (start n_L_fresh vs) := by
      unfold L2.start
      rw [h1.length]
      exact EnvR.start 3 h1
    refine ⟨_, PSs.nox (pss_cons (ps_set (i := 2) sc_L_fresh.nd rfl (.inl rfl) pe_sem) (pss_cons (ps_set (i := 3) sc_L_fresh.nd rfl (.inl rfl) pe_sem) (pss_cons (ps_ret pe_sem) pss_never))), ?_⟩
    refine U.sem (d := .int ps.length) ?_ _ H e0 _ fun v H1 s1 r1 => ?_
    · exact u_is (u_len Bt (u_var 1 rfl)) (by rw [List.length_map])
    have e1 : EnvR H1 [.d t.d, .d (plansD ps), .d (.int ps.length), .un, .un] ((start n_L_fresh vs).set 2 (some v)) := EnvR.setD r1 2 (e0.mono s1)
    obtain ⟨ts, ps1, ps2⟩ : ∃ t' : TE, PE (cX P w K mg base n_L_fresh "_law_fresh" (defScope s_L_fresh) (He.ga K "_law_fresh") cdv A outer s H E) _ t' ∧ _ := sh_dic (X := cX P w K mg base n_L_fresh "_law_fresh" (defScope s_L_fresh) (He.ga K "_law_fresh") cdv A outer s H E) (Γ := [.d t.d, .d (plansD ps), .d (.int ps.length), .un, .un]) (d0 := firstD t) (n := ps.length)
      (u_call (cal_L_first S) hr (ua_cons (u_var 0 rfl) ua_nil) ⟨t, rfl, rfl⟩) u_int
      (ul_is (ul_rep (u_lst (ua_cons u_int ua_nil)) (u_var 2 rfl) (by simp) hn) (flat_rep _)) (ul_is (ul_rep (u_lst (ua_cons u_non ua_nil)) (u_var 2 rfl) (by simp) hn) (flat_rep _))
      (ul_is (ul_rep (u_lst (ua_cons (u_tup (ua_cons u_int (ua_cons u_non ua_nil))) ua_nil)) (u_var 2 rfl) (by simp) hn) (flat_rep _)) u_non (ul_lst ua_nil) (firstD_noL t)
    refine sem_run ps1 (ps2 _ H1 e1 _ fun p dn hr' tl lg H2 sa => ?_)
    have e2 : EnvR H2 [.d t.d, .d (plansD ps), .d (.int ps.length), .un, .un] ((((start n_L_fresh vs).set 2 (some v))).set 3 (some (.ref p))) := EnvR.set (g := .un) True.intro 3 (e1.mono sa.s)
    have hv3 : ((((start n_L_fresh vs).set 2 (some v))).set 3 (some (.ref p)))[3]? = some (some (.ref p)) := by
      rw [List.getElem?_set_self]
      have := envR_len e1
      rw [this]
      exact (by decide : 3 < 5)
    refine sem_run (pe_tup (pa_cons (pe_var (i := 3) rfl (.inl rfl) (by decide) (by decide)) (pa_cons pe_sem pa_nil))) ⟨.ref p, hv3, ?_⟩
    refine made_sem (i := 4) (d := thD 0 "begin" .non .non) sc_L_fresh.nd (ui_rng1 Bt (u_var 2 rfl) (by omega)) (blkOk_by (N := n_L_fresh) (sc := defScope s_L_fresh) (by decide +kernel)) (by rw [rgD_len]; omega) (fun y hy s' H' C cl fp => un_dic (ud_dic (up_cons u_int (up_cons u_str (up_cons u_non (up_cons u_non up_nil)))) rfl) rfl) e2 fun th H3 as hl md => ?_
    rw [rgD_len] at hl
    obtain ⟨m, fr⟩ := hm_first sa md hl
    refine ⟨by show 2 ≤ sizeLine; rw [sizeLine_eq]; decide, fun l hl' => ?_⟩
    have s2 : Same H2 (upd H3 l (.tup [.ref p, .ref th])) := md.s.trans (Same.new hl')
    refine h3 l _ _ p th ((s1.trans sa.s).trans s2) (fun a ha => Same.free s1 (fr a ha)) (m.same (Same.new hl')) rfl upd_same
end
end P6
namespace P6
open PySem PySem.Spec PyProof.Rows L2 H6
/-- own lists so many, and a list of them -/
theorem hm_made {A : Ad} {M : Mem} {H H' : Hp} {l : Addr} {as : List Addr} {d : D} (m : HM A M H) (md : Made H H' l as d) :
    HM ⟨A.lo ++ as, A.hi ++ [l]⟩ ⟨M.lo ++ List.replicate as.length d, M.hi ++ [.lst ((List.range as.length).map fun i => .own (M.lo.length + i))]⟩ H' ∧ ∀ n, Fr n A H ⟨A.lo ++ as, A.hi ++ [l]⟩ H' := by
  have nb := List.nodup_cons.mp md.nd
  have out : ∀ a ∈ l :: as, ¬ a ∈ A.all := fun a ha => m.out (md.fr a ha)
  have mem : ∀ c, c ∈ (Ad.mk (A.lo ++ as) (A.hi ++ [l])).all ↔ c ∈ A.all ∨ c ∈ l :: as := fun c => by
    show c ∈ (A.lo ++ as) ++ (A.hi ++ [l]) ↔ c ∈ A.lo ++ A.hi ∨ _
    simp only [List.mem_append, List.mem_cons, List.not_mem_nil, or_false]
    constructor
    · rintro ((h | h) | (h | h))
      · exact .inl (.inl h)
      · exact .inr (.inr h)
      · exact .inl (.inr h)
      · exact .inr (.inl h)
    · rintro ((h | h) | (h | h))
      · exact .inl (.inl h)
      · exact .inr (.inl h)
      · exact .inr (.inr h)
      · exact .inl (.inr h)
  have sF : Same (delA A.all H) (delA (Ad.mk (A.lo ++ as) (A.hi ++ [l])).all H') := fun b o hb => by
    obtain ⟨k1, k2⟩ := delA_get hb
    rw [delA_out]
    · exact md.s _ _ k2
    · intro z
      rcases (mem b).mp z with z | z
      · exact k1 z
      · rw [md.fr b z] at k2
        cases k2
  have obj : ∀ c ∈ (Ad.mk (A.lo ++ as) (A.hi ++ [l])).all, ∃ o, H' c = some o ∧ ∀ xs, o ≠ .tup xs := fun c hc => by
    rcases (mem c).mp hc with h | h
    · obtain ⟨o, h1, h2⟩ := m.at h
      exact ⟨o, md.s _ _ h1, h2⟩
    · rcases List.mem_cons.mp h with rfl | h
      · exact ⟨_, md.ls, fun _ z => nomatch z⟩
      · exact (md.new c h).some
  have ts : Tsm H' (delA (Ad.mk (A.lo ++ as) (A.hi ++ [l])).all H') := fun c xs h => by
    rw [delA_out]
    · exact h
    · intro z
      obtain ⟨o, h1, h2⟩ := obj c z
      rw [h] at h1
      exact h2 xs (Option.some.inj h1).symm
  have lk : ∀ (k : Nat) (a : Addr), A.lo[k]? = some a → (A.lo ++ as)[k]? = some a := fun k a h => by
    rw [List.getElem?_append_left (List.getElem?_eq_some_iff.mp h).1]
    exact h
  refine ⟨⟨by show (A.lo ++ as).length = (M.lo ++ List.replicate as.length d).length; rw [List.length_append, List.length_append, m.l1, List.length_replicate], by show (A.hi ++ [l]).length = (M.hi ++ [_]).length; rw [List.length_append, List.length_append, m.l2]; rfl, ?_, fun k c d' h1 h2 => ?_, fun k c o h1 h2 => ?_⟩, fun n => ⟨sF, fun c hc => ?_, fun k a h => get_app h, fun k a h _ => lk k a h⟩⟩
  · show ((A.lo ++ as) ++ (A.hi ++ [l])).Nodup
    have nd := List.nodup_append.mp m.nd
    have oa : ∀ a ∈ as, ¬ a ∈ A.lo ∧ ¬ a ∈ A.hi := fun a ha => ⟨fun z => out a (List.mem_cons_of_mem _ ha) (List.mem_append.mpr (.inl z)), fun z => out a (List.mem_cons_of_mem _ ha) (List.mem_append.mpr (.inr z))⟩
    have ol : ¬ l ∈ A.lo ∧ ¬ l ∈ A.hi := ⟨fun z => out l List.mem_cons_self (List.mem_append.mpr (.inl z)), fun z => out l List.mem_cons_self (List.mem_append.mpr (.inr z))⟩
    refine List.nodup_append.mpr ⟨List.nodup_append.mpr ⟨nd.1, nb.2, fun a ha b hb z => (oa b hb).1 (z ▸ ha)⟩, List.nodup_append.mpr ⟨nd.2.1, by simp, fun a ha b hb z => ?_⟩, fun a ha b hb z => ?_⟩
    · simp at hb
      subst hb
      exact ol.2 (z ▸ ha)
    · subst z
      rcases List.mem_append.mp ha with ha | ha <;> rcases List.mem_append.mp hb with hb | hb
      · exact nd.2.2 a ha a hb rfl
      · simp at hb
        subst hb
        exact ol.1 ha
      · exact (oa a ha).2 hb
      · simp at hb
        subst hb
        exact nb.1 ha
  · by_cases hk : k < A.lo.length
    · rw [List.getElem?_append_left hk] at h1
      rw [List.getElem?_append_left (by rw [← m.l1]; exact hk)] at h2
      exact (m.lo k c d' h1 h2).mono sF (md.s c)
    · rw [List.getElem?_append_right (by omega)] at h1
      rw [List.getElem?_append_right (by rw [← m.l1]; omega)] at h2
      have := List.eq_of_mem_replicate (List.mem_of_getElem? h2)
      subst this
      exact NewAt.low (M := ⟨[], []⟩) ts (md.new c (List.mem_of_getElem? h1))
  · rcases app_get h1 with h1 | ⟨rfl, rfl⟩
    · obtain ⟨o', ho'⟩ := get_of m.l2 h1
      rw [get_app ho'] at h2
      cases h2
      exact HiAt.mono (A := A) sF (md.s c) (fun k _ a h => lk k a h) (m.hi k c _ h1 ho')
    · rw [m.l2, get_last] at h2
      cases h2
      refine ⟨_, md.ls, ?_⟩
      have gen : ∀ (F : Hp) (B : Ad) (bs : List Addr) (f : Nat → Nat), (∀ i c, bs[i]? = some c → B.lo[f i]? = some c) → ItRs F B ((List.range bs.length).map fun i => I2.own (f i)) (bs.map .ref) := by
        intro F B bs
        induction bs with
        | nil => intro f _; rfl
        | cons c bs ih =>
          intro f hf
          rw [List.length_cons, List.range_succ_eq_map, List.map_cons, List.map_map]
          exact ⟨.ref c, _, rfl, ⟨c, hf 0 c rfl, rfl⟩, ih (fun i => f (i + 1)) fun i c' h => hf (i + 1) c' h⟩
      refine gen _ _ as (fun i => M.lo.length + i) fun i c h => ?_
      show (A.lo ++ as)[M.lo.length + i]? = some c
      rw [List.getElem?_append_right (by rw [m.l1]; omega), m.l1, Nat.add_sub_cancel_left]
      exact h
  · rcases (mem c).mp hc with h | h
    · exact .inl h
    · exact .inr (md.fr c h)
end P6
namespace P6
open PySem PySem.Spec PyProof.Rows L2 H6
section
variable {X : Cx} {n : Nat} {Γ : List GW} {M : Mem} {e elt iter : Expr} {rest : List Stmt} {d : D} {ds : List D} {pos spos py : Pos} {R : D → Option Mem → Prop} {N : List GW → Mem → Prop}
/-- data of any kind, no own object being there -/
theorem eg_U0 (h : U X e (Γ.map (gP ⟨[], []⟩)) d) : EG X e Γ ⟨[], []⟩ (eqP (.d d) ⟨[], []⟩) := by
  obtain ⟨t, h1, h2⟩ := h
  refine eg_of h1 fun σ H A m e Q q => h2 σ H (m.env e) _ fun v H1 e1 r1 => ?_
  have hA : delA A.all H1 = H1 := by
    have a1 := List.eq_nil_of_length_eq_zero m.l1
    have a2 := List.eq_nil_of_length_eq_zero m.l2
    funext b
    exact delA_out (by unfold Ad.all; rw [a1, a2]; simp)
  refine q v H1 A _ _ ⟨rfl, rfl⟩ (Fr.grow e1) (m.same e1) ⟨v, rfl, ?_⟩
  rw [hA]
  exact r1
def madeM (M : Mem) (n : Nat) (d : D) : Mem := ⟨M.lo ++ List.replicate n d, M.hi ++ [.lst ((List.range n).map fun i => .own (M.lo.length + i))]⟩
/-- name = [new for ..] -/
theorem bw_made {y nm : Str} {i j : Nat} {scope : Scope} {tp : Pos} (hN : X.N.Nodup) (hi : UI X (.Name nm tp) iter (Γ.map (gP M)) ds) (ok : BlkOk X.N X.env.scope scope [(nm, i)]) (hz : ds.length ≤ 1000)
    (hv : ∀ y ∈ ds, UNB X scope elt ((wipeG (Γ.map (gP M)) [i]).set i (.d y)) d) (h : BW n X rest (Γ.set j (.hi M.hi.length)) (madeM M ds.length d) R N) (hsw : swapsWith (.ListComp elt [⟨.Name nm tp, iter, [], 0⟩] scope pos) (some (.Name y py)) spos.line X.env = pure true)
    (hy : X.N[j]? = some y := by rfl) (hyl : X.env.scope.names.lookup y = some .local := by rfl) (hx : X.N[i]? = some nm := by rfl) (hc : X.calm = true := by rfl)
    (hlo : scope.names.lookup nm = some .local ∨ scope.names.lookup nm = some .cell := by first | exact Or.inl rfl | exact Or.inr rfl)
    (hs : ∀ x, foldedSetIterable iter X.env x = pure x := by intro _; rfl) : BW n X (.Assign [.Name y py] (.ListComp elt [⟨.Name nm tp, iter, [], 0⟩] scope pos) spos :: rest) Γ M R N := by
  obtain ⟨t, h1, h2, h3⟩ := made_lc (pos := pos) hN hi ok hz hv hx hc hlo hs
  refine bw_of (pss_cons (h2 j y py spos hy hyl hsw) (ps_sem (X := X) (st := rest))) fun σ H A E m e q => h3 σ H (m.env e) _ fun l H1 as hl md => ?_
  obtain ⟨m1, f1⟩ := hm_made m md
  rw [hl] at m1
  refine h _ H1 _ E m1 (EnvW.set (g := .hi M.hi.length) ⟨l, by rw [← m.l2]; exact get_last, rfl⟩ j ((f1 0).env gok0 e)) (q.mono (f1 n))
end
/-- the own steps of a thread's calls, one more -/
def bump (c : List Nat) (e : Nat) : List Nat := if c.length = e then c ++ [1] else c.set e (c.getD e 0 + 1)
def cntD (c : List Nat) : D := .lst (c.map natD)
def stepsD (cs : List (List Nat)) : D := .tup (cs.map natsD)
theorem bump_len {c : List Nat} {e : Nat} (h : c.length = e ∨ c.length = e + 1) : (bump c e).length = e + 1 := by
  unfold bump
  split
  · simp; omega
  · rw [List.length_set]
    omega
/-- counts along a weaving -/
structure CntP (ps : List (List D)) (ws : List Nat) (tr : List (SP × List Ev)) (cs : Nat → List (List Nat)) : Prop where
  zero : cs 0 = List.replicate ps.length []
  step : ∀ (k th : Nat), ws[k]? = some th → ∃ s e ca c, tr[k]? = some (s, e) ∧ s.cs[th]? = some ca ∧ (cs k)[th]? = some c ∧ (c.length = ca.e ∨ c.length = ca.e + 1) ∧ c.length ≤ 9 ∧ cs (k + 1) = (cs k).set th (bump c ca.e)
theorem CntP.len {ps : List (List D)} {ws : List Nat} {tr : List (SP × List Ev)} {cs : Nat → List (List Nat)} (h : CntP ps ws tr cs) : ∀ k, k ≤ ws.length → (cs k).length = ps.length
  | 0, _ => by rw [h.zero]; simp
  | k + 1, hk => by
    obtain ⟨s, e, ca, c, _, _, _, _, _, h6⟩ := h.step k ws[k] (List.getElem?_eq_getElem (by omega))
    rw [h6, List.length_set]
    exact h.len k (by omega)
def rOwnSteps (ds : List D) (d : D) : Prop := ∃ wy t ps ws tr cs, ds = argsD wy t ps ws ∧ RunOk wy t ps ws tr ∧ CntP ps ws tr cs ∧ d = stepsD (cs ws.length)
section
variable {P : Program} {w : World} {K : PySem.W.Frag} {mg : Str → Option Value} {base : Heap}
theorem owns0_get {n u : Nat} (h : u < n) : ((List.range n).map fun i => I2.own (0 + i))[u]? = some (.own u) := by
  rw [List.getElem?_map, List.getElem?_range h]
  show some (I2.own (0 + u)) = _
  rw [Nat.zero_add]
end
end P6
namespace P6
open PySem PySem.Spec PyProof.Rows L2 H6
section
variable {P : Program} {w : World} {K : PySem.W.Frag} {mg : Str → Option Value} {base : Heap}
def grown (c : List Nat) (e : Nat) : List Nat := if c.length = e then c ++ [0] else c
theorem grown_len {c : List Nat} {e : Nat} (h : c.length = e ∨ c.length = e + 1) : (grown c e).length = e + 1 := by
  unfold grown
  split
  · simp; omega
  · omega
theorem grown_bump {c : List Nat} {e : Nat} (h : c.length = e ∨ c.length = e + 1) : (grown c e).set e ((grown c e).getD e 0 + 1) = bump c e := by
  unfold grown bump
  split
  · next q =>
    subst q
    rw [List.set_append_right _ _ (Nat.le_refl _), Nat.sub_self, List.getD_eq_getElem?_getD, List.getElem?_append_right (Nat.le_refl _), Nat.sub_self]
    rfl
  · rfl
theorem own0_ix {n u : Nat} {lo : List D} {x : D} (h : u < n) (hx : lo[u]? = some x) : atI (((List.range n).map fun i => I2.own (0 + i)).map (gI lo)) (u : Int) = some x := by
  refine atI_nat ?_
  rw [List.getElem?_map, owns0_get h]
  show some (lo.getD u .non) = _
  rw [List.getD_eq_getElem?_getD, hx]
  rfl
def tupD : D → D
  | .lst ds => .tup ds
  | d => d
theorem own0_snap {n : Nat} {lo : List D} (h : lo.length = n) : (((List.range n).map fun i => I2.own (0 + i)).map (gI lo)) = lo := by
  subst h
  apply List.ext_getElem?
  intro i
  rw [List.getElem?_map]
  by_cases hi : i < lo.length
  · rw [owns0_get hi]
    show some (lo.getD i .non) = _
    rw [List.getD_eq_getElem?_getD, List.getElem?_eq_getElem hi]
    rfl
  · rw [List.getElem?_eq_none (by simp; omega), List.getElem?_eq_none (by omega)]
    rfl
def forBody : Stmt → List Stmt
  | .For _ _ b _ _ => b
  | _ => []
def owns0 (n : Nat) : OH := .lst ((List.range n).map fun i => .own (0 + i))
theorem cal_own_steps (S : Ctx K mg) : Cal P w K mg base "own_steps" p_own_steps 7 (spP rOwnSteps) := by
  obtain ⟨fd, F⟩ := F_own_steps S
  have Bt := bs_of S
  refine ⟨_, fd, fn_own F sc_own_steps ?_ ?_, g_own_steps S, F.kp, bd_own_steps F⟩
  · rintro ds d ⟨wy, t, ps, ws, tr, cs, rfl, _⟩
    rfl
  · rintro cdv A outer s0 H E hr ds d ⟨wy, t, ps, ws, tr, cs, rfl, R, C, rfl⟩
    refine ⟨0, ?_⟩
    have tl := R.r.len
    have wl := R.l
    have hn : ps.length ≤ 4 := R.p.1.2
    have clen := C.len
    let G1 : GW → GW → GW → List GW := fun a b c => [.d (.str (wayS wy)), .d t.d, .d (plansD ps), .d (wD ws), .d (.lst (tr.map itD)), .hi 0, .un, a, b, c, .un]
    refine bw_set 4 sc_own_steps.nd (eg_U0 (u_call (cal_line_of S) hr (ua_cons (u_var 0 rfl) (ua_cons (u_var 1 rfl) (ua_cons (u_var 2 rfl) (ua_cons (u_var 3 rfl) ua_nil)))) ⟨wy, t, ps, ws, tr, rfl, R, rfl⟩)) ?_
    rintro g M1 ⟨rfl, rfl⟩
    refine bw_made (j := 5) (i := 6) (d := .lst []) sc_own_steps.nd (ui_tup (u_var 2 rfl)) (blkOk_by (N := n_own_steps) (sc := defScope s_own_steps) (by decide +kernel)) (by rw [List.length_map]; omega) (fun y hy s' H' C cl fp => un_lst (ul_lst ua_nil) rfl) ?_ (sw_true rfl rfl rfl (by decide +kernel))
    have e0 : madeM ⟨[], []⟩ (ps.map D.tup).length (.lst []) = ⟨(cs 0).map cntD, [owns0 ps.length]⟩ := by
      rw [C.zero, List.length_map]
      show (⟨[] ++ List.replicate ps.length (.lst []), _⟩ : Mem) = _
      rw [List.nil_append, List.map_replicate]
      rfl
    rw [e0]
    refine bw_for (PI' := fun ds M' => ds = rgD 0 ws.length ∧ M' = ⟨(cs 0).map cntD, [owns0 ps.length]⟩) 7 sc_own_steps.nd (ig_rng Bt (eg_U (u_len Bt (u_var 3 rfl))) ?_)
      (fun ds k Γ' M' => ds = rgD 0 ws.length ∧ (∃ a b c, Γ' = G1 a b c) ∧ M' = ⟨(cs k).map cntD, [owns0 ps.length]⟩) ?_ gok0 ?_ ?_ PassesOwn.never
    · rintro g M' ⟨rfl, rfl⟩
      exact ⟨ws.length, by rw [List.length_map], by omega, rfl, rfl⟩
    · rintro ds M' ⟨rfl, rfl⟩
      exact ⟨rfl, ⟨_, _, _, rfl⟩, rfl⟩
    · rintro ds k d Γ' M' hd ⟨rfl, ⟨ga, gb, gc, rfl⟩, rfl⟩
      obtain ⟨hk, rfl⟩ := rgD_at hd
      rw [Int.zero_add]
      obtain ⟨th, hth⟩ : ∃ th, ws[k]? = some th := ⟨_, List.getElem?_eq_getElem hk⟩
      obtain ⟨s, e, ca, c, h1, h2, h3, h4, h5, h6⟩ := C.step k th hth
      have hthl : th < ps.length := by
        rw [← clen k (by omega)]
        exact (List.getElem?_eq_some_iff.mp h3).1
      have hlo : ∀ c' : List Nat, (((cs k).set th c').map cntD)[th]? = some (cntD c') := fun c' => by
        rw [List.getElem?_map, List.getElem?_set_self (by rw [clen k (by omega)]; exact hthl)]
        rfl
      have h30 : ((cs k).map cntD)[th]? = some (cntD c) := by
        rw [List.getElem?_map, h3]
        rfl
      refine bw_setU 8 sc_own_steps.nd (d := .int th) (u_ixT (u_var 3 rfl) (u_var 7 rfl) (ix_map (f := fun (n : Nat) => D.int (n : Int)) hth)) ?_
      refine bw_setU 9 sc_own_steps.nd (d := .int ca.e) (u_ixT (ds := [.int ca.e, .int ca.ph, ca.h]) (u_ixT (ds := s.cs.map caD) (u_ixT (ds := [s.ce, .tup (s.cs.map caD)]) (u_ixT (ds := [spD s, evsD e]) (u_ixL (ds := tr.map itD) (u_var 4 rfl) (u_var 7 rfl) (ix_map (f := itD) h1)) u_int) u_int) (u_var 8 rfl) (ix_map (f := caD) h2)) u_int) ?_
      show BW _ _ _ (G1 (.d (.int k)) (.d (.int th)) (.d (.int ca.e))) _ _ _
      have fin : ∀ c' : List Nat, c'.length = ca.e + 1 → c'.set ca.e (c'.getD ca.e 0 + 1) = bump c ca.e → BW 0 (cX P w K mg base n_own_steps "own_steps" (defScope s_own_steps) (He.ga K "own_steps") cdv A outer s0 H E) ((forBody ((defBody s_own_steps).getD 2 (.Pass ⟨0, 0, 0, 0⟩))).drop 3) (G1 (.d (.int k)) (.d (.int th)) (.d (.int ca.e))) ⟨((cs k).set th c').map cntD, [owns0 ps.length]⟩ (fun d' _ => d' = stepsD (cs ws.length)) (fun Γ' M' => rgD 0 ws.length = rgD 0 ws.length ∧ (∃ a b c, Γ' = G1 a b c) ∧ M' = ⟨(cs (k + 1)).map cntD, [owns0 ps.length]⟩) := fun c' hl hb => by
        obtain ⟨v, hv⟩ : ∃ v, c'[ca.e]? = some v := ⟨_, List.getElem?_eq_getElem (by omega)⟩
        refine bw_sgU (d := .int ((v + 1 : Nat) : Int)) (u_is (u_add (u_ixL (ds := c'.map natD) (u_ixL (u_var 5 (gv rfl (gP_hi (o := owns0 ps.length) rfl))) (u_var 8 rfl) (own0_ix hthl (hlo c'))) (u_var 9 rfl) (ix_map (f := natD) hv)) u_int) (by simp)) (sg_loL (k := th) (ds := c'.map natD) (eg_hiL (k := 0) (eg_var 5 rfl) rfl (u_var 8 rfl) (ixN_nat (by simpa using hthl)) (owns0_get hthl)) (hlo c') (u_var 9 rfl) (ixN_nat (by rw [List.length_map]; omega))) (bw_nil ⟨rfl, ⟨_, _, _, rfl⟩, ?_⟩)
        have e1 : c'.getD ca.e 0 = v := by rw [List.getD_eq_getElem?_getD, hv]; rfl
        rw [e1] at hb
        rw [h6, ← hb]
        show (⟨(((cs k).set th c').map cntD).set th (.lst ((c'.map natD).set ca.e (.int ((v + 1 : Nat) : Int)))), [owns0 ps.length]⟩ : Mem) = _
        have e2 : D.lst ((c'.map natD).set ca.e (.int ((v + 1 : Nat) : Int))) = cntD (c'.set ca.e (v + 1)) := by
          unfold cntD
          rw [List.map_set]
          rfl
        rw [e2, ← List.map_set, List.set_set]
      by_cases q : c.length = ca.e
      · refine bw_ifT (N1 := fun Γ' M' => Γ' = G1 (.d (.int k)) (.d (.int th)) (.d (.int ca.e)) ∧ M' = ⟨((cs k).set th (c ++ [0])).map cntD, [owns0 ps.length]⟩) (t_is (t_eq (u_lenL (ds := c.map natD) Bt (u_ixL (u_var 5 (gv rfl (gP_hi (o := owns0 ps.length) rfl))) (u_var 8 rfl) (own0_ix hthl h30))) (u_var 9 rfl) eqS_ii) (by rw [List.length_map]; exact decide_eq_true (by omega))) ?_ ?_
        · refine bw_append (k := th) (eg_hiL (k := 0) (eg_var 5 rfl) rfl (u_var 8 rfl) (ixN_nat (by simpa using hthl)) (owns0_get hthl)) (eg_U u_int) ?_ ⟨_, h30⟩
          rintro g M2 ⟨rfl, rfl⟩
          refine ⟨_, c.map natD, rfl, h30, by rw [List.length_map]; omega, bw_nil ⟨rfl, ?_⟩⟩
          show (⟨((cs k).map cntD).set th (.lst (c.map natD ++ [.int 0])), [owns0 ps.length]⟩ : Mem) = _
          have e2 : D.lst (c.map natD ++ [.int 0]) = cntD (c ++ [0]) := by
            unfold cntD
            rw [List.map_append]
            rfl
          rw [e2, ← List.map_set]
        · rintro Γ' M' ⟨rfl, rfl⟩
          refine fin (c ++ [0]) (by simp; omega) ?_
          have := grown_bump h4
          unfold grown at this
          rw [if_pos q] at this
          exact this
      · refine bw_ifF (t_is (t_eq (u_lenL (ds := c.map natD) Bt (u_ixL (u_var 5 (gv rfl (gP_hi (o := owns0 ps.length) rfl))) (u_var 8 rfl) (own0_ix hthl h30))) (u_var 9 rfl) eqS_ii) (by rw [List.length_map]; exact decide_eq_false (by omega))) ?_
        have f := fin c (by omega) (by unfold bump; rw [if_neg q])
        rw [set_self h3] at f
        exact f
    · rintro ds Γ' M' ⟨rfl, ⟨ga, gb, gc, rfl⟩, rfl⟩
      rw [rgD_len]
      have hcl := clen ws.length (Nat.le_refl _)
      have eO : (((List.range ps.length).map fun i => I2.own (0 + i)).map (gI ((cs ws.length).map cntD))) = (cs ws.length).map cntD := own0_snap (by rw [List.length_map, hcl])
      refine bw_retX (u_is (u_tupOf Bt (u_lcM (i := 10) tupD sc_own_steps.nd (ui_lst (u_is (u_var 5 (gv rfl (gP_hi (o := owns0 ps.length) rfl))) (congrArg D.lst eO))) (blkOk_by (N := n_own_steps) (sc := defScope s_own_steps) (by decide +kernel)) (by rw [List.length_map, hcl]; exact small_lt (by omega)) ?_ ?_)) ?_) rfl
      · intro d hd
        obtain ⟨c, _, rfl⟩ := List.mem_map.mp hd
        exact noL_tup (natDs_noL c)
      · intro d hd s' H' C cl fp
        obtain ⟨c, _, rfl⟩ := List.mem_map.mp hd
        exact u_tupOf Bt (u_var 10 rfl)
      · show D.tup _ = D.tup _
        rw [List.map_map]
        rfl
end
end P6
namespace P6
open PySem PySem.Spec PyProof.Rows L2 H6
/-! ### the law's run -/
structure LF where
  s : LS
  cs : List (List Nat)
  es : List Ev
def LF.first (t : Thing) (n : Nat) : LF := ⟨LS.first t n, List.replicate n [], []⟩
structure StepL (wy : Way) (t : Thing) (ps : List (List D)) (a : LF) (u : Nat) (b : LF) : Prop where
  ok : LSok a.s
  n : a.s.th.length = ps.length
  cl : a.cs.length = ps.length
  el : a.es.length ≤ 800
  ex : ∃ lt plan c s1 lt' ev cnt, a.s.th[u]? = some lt ∧ ps[u]? = some plan ∧ plan[lt.e]? = some c ∧ noL c = true ∧ LX t c u wy a.s lt s1 lt' ev ∧ a.cs[u]? = some cnt ∧ (cnt.length = lt.e ∨ cnt.length = lt.e + 1) ∧ cnt.length ≤ 9 ∧
    b = ⟨{ s1 with th := s1.th.set u lt' }, a.cs.set u (bump cnt lt.e), a.es ++ ev⟩
theorem LX.th {t : Thing} {c : D} {u : Nat} {wy : Way} {s s1 : LS} {lt lt' : LT} {ev : List Ev} (h : LX t c u wy s lt s1 lt' ev) : s1.th = s.th := by
  cases h <;> rfl
/-- the law's memory beside the events and the counts -/
def stepsO (n : Nat) : OH := .lst ((List.range n).map fun i => .own (n + 5 + i))
def LF.lm (a : LF) (n : Nat) : LM := a.s.lm (.lst (a.es.map evD) :: a.cs.map cntD) [stepsO n]
/-- two memories, the one new -/
theorem hm_union {A A1 : Ad} {M M1 : Mem} {H H1 : Hp} (m : HM A M H) (hh : M.hi = []) (s : Same H H1) (m1 : HM A1 M1 H1) (fr : ∀ a ∈ A1.all, H a = none) (nl : ∀ (k : Nat) d, M1.lo[k]? = some d → flatD d = true ∨ ∃ ks ds, d = .dic ks ds ∧ noLs ds = true)
    (nh : ∀ (k : Nat) o, M1.hi[k]? = some o → ∀ d, .dat d ∈ o.its → noL d = true) : HM ⟨A1.lo ++ A.lo, A1.hi⟩ ⟨M1.lo ++ M.lo, M1.hi⟩ H1 ∧ ∀ a, a ∈ (Ad.mk (A1.lo ++ A.lo) A1.hi).all ↔ a ∈ A.all ∨ a ∈ A1.all := by
  have hA : A.hi = [] := List.eq_nil_of_length_eq_zero (by rw [m.l2, hh]; rfl)
  have mem : ∀ a, a ∈ (Ad.mk (A1.lo ++ A.lo) A1.hi).all ↔ a ∈ A.all ∨ a ∈ A1.all := fun a => by
    show a ∈ (A1.lo ++ A.lo) ++ A1.hi ↔ a ∈ A.lo ++ A.hi ∨ a ∈ A1.lo ++ A1.hi
    rw [hA]
    simp only [List.mem_append, List.append_nil]
    constructor
    · rintro ((h | h) | h)
      · exact .inr (.inl h)
      · exact .inl h
      · exact .inr (.inr h)
    · rintro (h | h | h)
      · exact .inl (.inr h)
      · exact .inl (.inl h)
      · exact .inr h
  have dis : ∀ a, a ∈ A.all → ¬ a ∈ A1.all := fun a h z => by
    obtain ⟨o, h1, _⟩ := m.at h
    rw [fr a z] at h1
    cases h1
  have sF : Same (delA A.all H) (delA (Ad.mk (A1.lo ++ A.lo) A1.hi).all H1) := fun b o hb => by
    obtain ⟨k1, k2⟩ := delA_get hb
    rw [delA_out]
    · exact s _ _ k2
    · intro z
      rcases (mem b).mp z with z | z
      · exact k1 z
      · rw [fr b z] at k2
        cases k2
  have ts : Tsm H1 (delA (Ad.mk (A1.lo ++ A.lo) A1.hi).all H1) := fun c xs h => by
    rw [delA_out]
    · exact h
    · intro z
      rcases (mem c).mp z with z | z
      · obtain ⟨o, h1, h2⟩ := m.at z
        have := s _ _ h1
        rw [h] at this
        exact h2 xs (Option.some.inj this).symm
      · obtain ⟨o, h1, h2⟩ := m1.at z
        rw [h] at h1
        exact h2 xs (Option.some.inj h1).symm
  refine ⟨⟨?_, m1.l2, ?_, fun k c d h1 h2 => ?_, fun k c o h1 h2 => ?_⟩, mem⟩
  · show (A1.lo ++ A.lo).length = (M1.lo ++ M.lo).length
    rw [List.length_append, List.length_append, m.l1, m1.l1]
  · show ((A1.lo ++ A.lo) ++ A1.hi).Nodup
    have nd1 := List.nodup_append.mp m1.nd
    have nd := List.nodup_append.mp m.nd
    refine List.nodup_append.mpr ⟨List.nodup_append.mpr ⟨nd1.1, nd.1, fun a ha b hb z => ?_⟩, nd1.2.1, fun a ha b hb z => ?_⟩
    · subst z
      exact dis a (List.mem_append.mpr (.inl hb)) (List.mem_append.mpr (.inl ha))
    · subst z
      rcases List.mem_append.mp ha with ha | ha
      · exact nd1.2.2 a ha a hb rfl
      · exact dis a (List.mem_append.mpr (.inl ha)) (List.mem_append.mpr (.inr hb))
  · by_cases hk : k < A1.lo.length
    · rw [List.getElem?_append_left hk] at h1
      rw [List.getElem?_append_left (by rw [← m1.l1]; exact hk)] at h2
      have := m1.lo k c d h1 h2
      have nd := nl k d h2
      cases d with
      | lst ds =>
        obtain ⟨xs, k1, k2⟩ := this
        rcases nd with nd | ⟨_, _, z, _⟩
        · exact ⟨xs, k1, Reps.monoT ts nd (k2.mono delA_le)⟩
        · cases z
      | dic ks ds =>
        obtain ⟨xs, k1, k0, k2⟩ := this
        rcases nd with nd | ⟨_, _, z, nd⟩
        · exact absurd nd (by simp [flatD, noL])
        · cases z
          exact ⟨xs, k1, k0, Reps.monoT ts nd (k2.mono delA_le)⟩
      | _ => exact this.elim
    · rw [List.getElem?_append_right (by omega)] at h1
      rw [List.getElem?_append_right (by rw [← m1.l1]; omega), ← m1.l1] at h2
      exact (m.lo _ c d h1 h2).mono sF (s c)
  · have := m1.hi k c o h1 h2
    have no := nh k o h2
    have its : ∀ {xs : List I2} {vs : List V}, (∀ d, .dat d ∈ xs → noL d = true) → ItRs (delA A1.all H1) A1 xs vs → ItRs (delA (Ad.mk (A1.lo ++ A.lo) A1.hi).all H1) ⟨A1.lo ++ A.lo, A1.hi⟩ xs vs := by
      intro xs
      induction xs with
      | nil => intro vs _ h; exact h
      | cons x xs ih =>
        rintro vs q ⟨v, r, k1, k2, k3⟩
        refine ⟨v, r, k1, ?_, ih (fun d h => q d (List.mem_cons_of_mem _ h)) k3⟩
        cases x with
        | dat d => exact Rep.monoT ts (q d List.mem_cons_self) (Rep.mono delA_le k2)
        | own j =>
          obtain ⟨a, k4, k5⟩ := k2
          refine ⟨a, ?_, k5⟩
          show (A1.lo ++ A.lo)[j]? = some a
          rw [List.getElem?_append_left (List.getElem?_eq_some_iff.mp k4).1]
          exact k4
    cases o with
    | lst xs =>
      obtain ⟨vs, k1, k2⟩ := this
      exact ⟨vs, k1, its no k2⟩
    | dic ks xs =>
      obtain ⟨vs, k1, k0, k2⟩ := this
      exact ⟨vs, k1, k0, its no k2⟩
end P6
namespace P6
open PySem PySem.Spec PyProof.Rows L2 H6
section
variable {X : Cx} {Γ : List GW} {M : Mem} {e : Expr} {es : List Expr} {ds : List D} {pos p : Pos}
theorem UL.sem {Δ : List G} (h : UL X e Δ ds) {σ : L2.St} {H : Hp} {Q : VK} (en : EnvR H Δ σ) (q : ∀ l H', Same H H' → H l = none → LA H' l ds → Q (.ref l) H') : P6.sem X e σ H Q := by
  obtain ⟨t, h1, h2⟩ := h
  exact sem_run h1 (h2 σ H en Q q)
theorem first_flat {t : Thing} {n : Nat} : ∀ (k : Nat) d, ((LS.first t n).lm [] []).m.lo[k]? = some d → flatD d = true ∨ ∃ ks ds, d = .dic ks ds ∧ noLs ds = true := by
  intro k d h
  match k, h with
  | 0, h => cases h; exact .inl (natDs_noL _)
  | 1, h => cases h; exact .inl (rep1_noL rfl)
  | 2, h => cases h; exact .inl (rep1_noL rfl)
  | 3, h => cases h; exact .inl rfl
  | k + 4, h =>
    have h : ((List.replicate n (LT.new 0)).map LT.d ++ [])[k]? = some d := h
    rw [List.append_nil, List.map_replicate] at h
    have := List.eq_of_mem_replicate (List.mem_of_getElem? h)
    subst this
    exact .inr ⟨_, _, rfl, rfl⟩
theorem first_hi {t : Thing} {n : Nat} : ∀ (k : Nat) o, ((LS.first t n).lm [] []).m.hi[k]? = some o → ∀ d, .dat d ∈ o.its → noL d = true := by
  intro k o h d hd
  match k, h with
  | 0, h =>
    cases h
    have hd : I2.dat d ∈ [I2.dat (firstD t), .dat (.int (0 : Nat)), .own 0, .own 1, .own 2, .dat .non, .own 3] := hd
    simp only [List.mem_cons, List.not_mem_nil, or_false, reduceCtorEq, I2.dat.injEq, false_or] at hd
    rcases hd with rfl | rfl | rfl
    · exact firstD_noL t
    · rfl
    · rfl
  | 1, h =>
    cases h
    have hd : I2.dat d ∈ owns _ := hd
    unfold owns at hd
    obtain ⟨i, _, h2⟩ := List.mem_map.mp hd
    cases h2
  | k + 2, h => cases h
/-- the law's memory, made -/
theorem sem_fresh {k : Nat} {t : Thing} {ps : List (List D)} (F : Cal X.prog X.w X.K X.mg X.base "_law_fresh" p_L_fresh k spFresh) (hr : Room k X.A) (h : UA X (e :: es) (Γ.map (gP M)) [t.d, plansD ps]) (hn : ps.length ≤ 4) (hh : M.hi = []) {σ : L2.St} {H : Hp} {A : Ad} (m : HM A M H) (en : EnvW (delA A.all H) A Γ σ) {Q : VK}
    (q : ∀ l H' (A1 : Ad) a b, HM ⟨A1.lo ++ A.lo, [a, b]⟩ ⟨((LS.first t ps.length).lm [] []).m.lo ++ M.lo, ((LS.first t ps.length).lm [] []).m.hi⟩ H' → Same (delA A.all H) (delA (Ad.mk (A1.lo ++ A.lo) [a, b]).all H') → (∀ c ∈ (Ad.mk (A1.lo ++ A.lo) [a, b]).all, c ∈ A.all ∨ H c = none) → A1.lo.length = ps.length + 4 → H' l = some (.tup [.ref a, .ref b]) → Q (.ref l) H')
    (hg : Gl X "_law_fresh" := by rfl) (he : starEach (e :: es) X.env = (false, eval e X.env) :: starEach es X.env := by rfl) (hpl : (backTo pos (starEach es X.env)).any (·.1) = false := by rfl) : P6.sem X (.Call (.Name "_law_fresh" p) (e :: es) [] pos) σ H Q := by
  obtain ⟨f, fd, h1, h2, h3, h4⟩ := F.ex
  obtain ⟨ta, h5, h6⟩ := h
  refine sem_run (pe_call h1 hr hg h2 h3 h4 .nil pass0 h5 (by decide) he hpl) (h6 σ H (m.env en) _ fun vs H1 e1 r1 => ?_)
  refine ⟨t, ps, by rw [List.append_nil]; exact r1, hn, fun l H2 A1 a b s2 fr m2 hi hl => ?_⟩
  have m1 := m.same e1
  obtain ⟨m3, mem⟩ := hm_union m1 hh s2 m2 fr first_flat first_hi
  rw [hi] at m3 mem
  have fr0 : ∀ c ∈ A1.all, H c = none := fun c hc => Same.free e1 (fr c hc)
  refine q l H2 A1 a b m3 (fun c o hc => ?_) (fun c hc => ?_) ?_ hl
  · obtain ⟨k1, k2⟩ := delA_get hc
    rw [delA_out]
    · exact s2 _ _ (e1 _ _ k2)
    · intro z
      rcases (mem c).mp z with z | z
      · exact k1 z
      · rw [fr0 c z] at k2
        cases k2
  · rcases (mem c).mp hc with h | h
    · exact .inl h
    · exact .inr (fr0 c h)
  · rw [m2.l1]
    show (_ :: _ :: _ :: _ :: ((List.replicate ps.length (LT.new 0)).map LT.d ++ [])).length = _
    simp
end
end P6
namespace P6
open PySem PySem.Spec PyProof.Rows L2 H6
section
variable {X : Cx} {n : Nat} {Γ : List GW} {M : Mem} {e : Expr} {rest : List Stmt} {ds : List D} {pos p' : Pos} {R : D → Option Mem → Prop} {N : List GW → Mem → Prop}
/-- name = [.. for ..] of data, on one line -/
theorem bw_setF {nm : Str} (i : Nat) (he : UF X e (Γ.map (gP M)) ds) (hn : noLs ds = true) (h : BW n X rest (Γ.set i (.d (.lst ds))) M R N) (hs : swapsWith e (some (.Name nm p')) pos.line X.env = pure true) (hi : X.N[i]? = some nm := by rfl) (hx : X.env.scope.names.lookup nm = some .local := by rfl) : BW n X (.Assign [.Name nm p'] e pos :: rest) Γ M R N := by
  obtain ⟨t, h1, h5, h2⟩ := he
  refine bw_of (pss_cons (h5 i nm p' pos hi hx hs) (ps_sem (X := X) (st := rest))) fun σ H A E m e q => h2 σ H (m.env e) _ fun l H1 e1 hl r => ?_
  obtain ⟨a, xs, k1, k2, k3⟩ := r
  cases k1
  have m1 := m.same e1
  have g : GWR (delA A.all H1) A (.d (.lst ds)) (some (.ref l)) := ⟨_, rfl, l, xs, rfl, by rw [delA_out (m.out hl)]; exact k2, m1.reps hn k3⟩
  exact h _ H1 A E m1 (EnvW.set g i (e.same e1)) (q.mono (Fr.grow e1))
end
theorem ixN_back {e : Nat} : ixN (e + 1) (-1) = some e := by
  unfold ixN
  rw [if_neg (by omega)]
  first
    | rfl
    | (rw [if_pos (by omega)]; congr 1; omega)
    | (simp; omega)
theorem steps_ix {a : LF} {n u : Nat} {c : List Nat} (hn : a.s.th.length = n) (hu : u < n) (hc : a.cs[u]? = some c) : atI (((List.range n).map fun i => I2.own (n + 5 + i)).map (gI (a.lm n).m.lo)) (u : Int) = some (cntD c) := by
  refine atI_nat ?_
  rw [List.getElem?_map, List.getElem?_map, List.getElem?_range hu]
  show some ((a.lm n).m.lo.getD (n + 5 + u) .non) = _
  have h := LM.re (x := a.lm n) (j := u + 1) (d := cntD c) (by
    show (a.cs.map cntD)[u]? = _
    rw [List.getElem?_map, hc]
    rfl)
  have e : u + 1 + (a.lm n).ths.length + 4 = n + 5 + u := by
    show u + 1 + (a.s.th.map LT.d).length + 4 = _
    rw [List.length_map, hn]
    omega
  rw [e] at h
  rw [List.getD_eq_getElem?_getD, h]
  rfl
theorem steps_lo {a : LF} {n u : Nat} {c : List Nat} (hn : a.s.th.length = n) (hc : a.cs[u]? = some c) : (a.lm n).m.lo[n + 5 + u]? = some (cntD c) ∧ ∀ c' : List Nat, (⟨(a.lm n).m.lo.set (n + 5 + u) (cntD c'), (a.lm n).m.hi⟩ : Mem) = (({ a with cs := a.cs.set u c' } : LF).lm n).m := by
  have h := LM.re (x := a.lm n) (j := u + 1) (d := cntD c) (by
    show (a.cs.map cntD)[u]? = _
    rw [List.getElem?_map, hc]
    rfl)
  have e : u + 1 + (a.lm n).ths.length + 4 = n + 5 + u := by
    show u + 1 + (a.s.th.map LT.d).length + 4 = _
    rw [List.length_map, hn]
    omega
  rw [e] at h
  refine ⟨h, fun c' => ?_⟩
  have h2 := LM.setRe (x := a.lm n) (j := u + 1) (d := cntD c')
  rw [e] at h2
  rw [h2]
  show LM.m _ = LM.m _
  congr 1
  show ({ dn := _, hr := _, tl := _, lg := _, ths := _, rest := (.lst (a.es.map evD) :: a.cs.map cntD).set (u + 1) (cntD c'), sh := _, rh := _ } : LM) = { dn := _, hr := _, tl := _, lg := _, ths := _, rest := .lst (a.es.map evD) :: (a.cs.set u c').map cntD, sh := _, rh := _ }
  rw [List.map_set]
  rfl
theorem lm_ok {a : LF} {n : Nat} (hn : a.s.th.length = n) (hc : a.cs.length = n) : LMok (a.lm n) := ⟨shX_ok, fun o ho k hk => by
  have ho : o ∈ [stepsO n] := ho
  simp at ho
  subst ho
  have hk : I2.own k ∈ (List.range n).map fun i => I2.own (n + 5 + i) := hk
  obtain ⟨i, h1, h2⟩ := List.mem_map.mp hk
  cases h2
  have h1 := List.mem_range.mp h1
  show (a.s.th.map LT.d).length + 4 ≤ _ ∧ _ < (a.s.th.map LT.d).length + 4 + (_ :: a.cs.map cntD).length
  rw [List.length_map, List.length_cons, List.length_map, hn, hc]
  omega⟩
def leftL (ps : List (List D)) (s : LS) : List Nat := (List.range ps.length).filter fun i => decide ((s.th.getD i (.new 0)).e < (ps.getD i []).length)
def runD (ps : List (List D)) (a : LF) : D := .tup [evsD a.es, .tup (a.cs.map natsD), a.s.st, .tup (logD a.s.lg), natsD (leftL ps a.s), .lst (a.s.th.map LT.d)]
structure RunL (wy : Way) (t : Thing) (ps : List (List D)) (ws : List Nat) (fs : Nat → LF) : Prop where
  n : ps.length ≤ 4
  l : ws.length ≤ 400
  zero : fs 0 = LF.first t ps.length
  step : ∀ (k u : Nat), ws[k]? = some u → StepL wy t ps (fs k) u (fs (k + 1))
theorem RunL.lens {wy : Way} {t : Thing} {ps : List (List D)} {ws : List Nat} {fs : Nat → LF} (h : RunL wy t ps ws fs) : ∀ k, k ≤ ws.length → (fs k).s.th.length = ps.length ∧ (fs k).cs.length = ps.length
  | 0, _ => by rw [h.zero]; simp [LF.first, LS.first]
  | k + 1, hk => by
    have s := h.step k ws[k] (List.getElem?_eq_getElem (by omega))
    obtain ⟨lt, plan, c, s1, lt', ev, cnt, _, _, _, _, h5, _, _, _, h9⟩ := s.ex
    rw [h9]
    refine ⟨?_, ?_⟩
    · show (s1.th.set ws[k] lt').length = _
      rw [List.length_set, h5.th, s.n]
    · show ((fs k).cs.set ws[k] _).length = _
      rw [List.length_set, s.cl]
def rRun (ds : List D) (d : D) : Prop := ∃ wy t ps ws fs, ds = argsD wy t ps ws ∧ RunL wy t ps ws fs ∧ (fs ws.length).es.length ≤ 800 ∧ noL (fs ws.length).s.st = true ∧ d = runD ps (fs ws.length)
end P6
namespace P6
open PySem PySem.Spec PyProof.Rows L2 H6
theorem keepD_nat {p : Nat → Prop} [DecidablePred p] : ∀ {l : List Nat}, keepD (l.map fun i => if p i then some (D.int (i : Nat)) else none) = (l.filter fun i => decide (p i)).map natD
  | [] => rfl
  | i :: l => by
    have ih := keepD_nat (p := p) (l := l)
    unfold keepD at ih ⊢
    by_cases q : p i
    · rw [List.filter_cons_of_pos (by simp [q]), List.map_cons, List.map_cons, List.filterMap_cons, if_pos q]
      show _ :: _ = _
      rw [ih]
      rfl
    · rw [List.filter_cons_of_neg (by simp [q]), List.map_cons, List.filterMap_cons, if_neg q]
      exact ih
theorem steps_snap {a : LF} {n : Nat} (hn : a.s.th.length = n) (hc : a.cs.length = n) : (((List.range n).map fun i => I2.own (n + 5 + i)).map (gI (a.lm n).m.lo)) = a.cs.map cntD := by
  apply List.ext_getElem?
  intro i
  rw [List.getElem?_map, List.getElem?_map, List.getElem?_map]
  by_cases hi : i < n
  · obtain ⟨c, hc2⟩ : ∃ c, a.cs[i]? = some c := ⟨_, List.getElem?_eq_getElem (by omega)⟩
    obtain ⟨k1, _⟩ := steps_lo (a := a) (n := n) (u := i) hn hc2
    rw [List.getElem?_range hi, hc2]
    show some ((a.lm n).m.lo.getD (n + 5 + i) .non) = some (cntD c)
    rw [List.getD_eq_getElem?_getD, k1]
    rfl
  · rw [List.getElem?_eq_none (by simp; omega), List.getElem?_eq_none (by omega)]
    rfl
theorem thr_snap {x : LM} : (owns x.ths.length).map (gI x.m.lo) = x.ths := by
  apply List.ext_getElem?
  intro i
  rw [List.getElem?_map]
  by_cases hi : i < x.ths.length
  · have h := List.getElem?_eq_getElem hi
    have k := LM.own (x := x) h
    rw [owns_get hi, h]
    show some (x.m.lo.getD (i + 4) .non) = _
    rw [List.getD_eq_getElem?_getD, k]
    rfl
  · rw [List.getElem?_eq_none (by rw [owns_len]; omega), List.getElem?_eq_none (by omega)]
    rfl
section
variable {P : Program} {w : World} {K : PySem.W.Frag} {mg : Str → Option Value} {base : Heap}
def gR (wy : Way) (t : Thing) (ps : List (List D)) (ws : List Nat) (g : GW) : List GW := [.d (.str (wayS wy)), .d t.d, .d (plansD ps), .d (wD ws), .hi 0, .hi 1, .lo (ps.length + 4), .hi 2, .un, g, .un, .un]
theorem cal_L_run (S : Ctx K mg) : Cal P w K mg base "_law_run" p_L_run 3 (spP rRun) := by
  obtain ⟨fd, F⟩ := F_L_run S
  have Bt := bs_of S
  refine ⟨_, fd, fn_own F sc_L_run ?_ ?_, g_L_run S, F.kp, bd_L_run F⟩
  · rintro ds d ⟨wy, t, ps, ws, fs, rfl, _⟩
    rfl
  · rintro cdv A outer s0 H E hr ds d ⟨wy, t, ps, ws, fs, rfl, R, hel, hst, rfl⟩
    refine ⟨ps.length, ?_⟩
    have hu := hu_of hr
    have hn := R.n
    have wl := R.l
    have lens := R.lens
    -- the first statement
    have first : ∀ {rest : List Stmt} {R' : D → Option Mem → Prop} {N' : List GW → Mem → Prop}, BW ps.length (cX P w K mg base n_L_run "_law_run" (defScope s_L_run) (He.ga K "_law_run") cdv A outer s0 H E) rest (gR wy t ps ws .un) ((fs 0).lm ps.length).m R' N' →
        BW ps.length (cX P w K mg base n_L_run "_law_run" (defScope s_L_run) (He.ga K "_law_run") cdv A outer s0 H E) ((defBody s_L_run).head! :: rest) ((argsD wy t ps ws).map .d ++ List.replicate 8 .un) ⟨[], []⟩ R' N' := by
      intro rest R' N' hrest
      refine bw_of (pss_cons (ps_asg (pe_tup (pa_cons pe_sem (pa_cons pe_sem (pa_cons pe_sem pa_nil)))) (pg_tup rfl (pgs_cons (pg_tup rfl (pgs_cons (pg_name (i := 4) sc_L_run.nd rfl (by first | exact .inl rfl | exact .inr rfl)) (pgs_cons (pg_name (i := 5) sc_L_run.nd rfl (by first | exact .inl rfl | exact .inr rfl)) pgs_nil))) (pgs_cons (pg_name (i := 6) sc_L_run.nd rfl (by first | exact .inl rfl | exact .inr rfl)) (pgs_cons (pg_name (i := 7) sc_L_run.nd rfl (by first | exact .inl rfl | exact .inr rfl)) pgs_nil))))) (ps_sem (st := rest))) fun σ H A E m e q => ?_
      refine sem_fresh (cal_L_fresh S) hr (ua_cons (u_var 1 rfl) (ua_cons (u_var 2 rfl) ua_nil)) hn rfl m e fun l H1 A1 a b m1 sF fr hl1 hl => ?_
      have aE : A.lo = [] ∧ A.hi = [] := ⟨List.eq_nil_of_length_eq_zero m.l1, List.eq_nil_of_length_eq_zero m.l2⟩
      have f1 : Fr ps.length A H ⟨A1.lo ++ A.lo, [a, b]⟩ H1 := ⟨sF, fr, fun k c h => by rw [aE.2] at h; simp at h, fun k c h _ => by rw [aE.1] at h; simp at h⟩
      have en1 : EnvW (delA (Ad.mk (A1.lo ++ A.lo) [a, b]).all H1) ⟨A1.lo ++ A.lo, [a, b]⟩ ((argsD wy t ps ws).map .d ++ List.replicate 8 .un) σ := e.mono sF (fun k c h => by rw [aE.1] at h; simp at h) (fun k c h => by rw [aE.2] at h; simp at h)
      refine UL.sem (ul_lst ua_nil) (m1.env en1) fun ev H2 e2 nev la => ?_
      obtain ⟨m2, f2⟩ := hm_newL m1 e2 nev la (.inl rfl)
      have en2 := f2.env gok0 en1
      refine made_sem (i := 8) (d := .lst []) sc_L_run.nd (ui_tup (u_var 2 rfl)) (blkOk_by (N := n_L_run) (sc := defScope s_L_run) (by decide +kernel)) (by rw [List.length_map]; omega) (fun y hy s' H' C cl fp => un_lst (ul_lst ua_nil) rfl) (m2.env en2) fun l3 H3 as hl3 md => ?_
      obtain ⟨m3, f3⟩ := hm_made m2 md
      have en3 := (f3 0).env gok0 en2
      refine ⟨by show 3 ≤ sizeLine; rw [sizeLine_eq]; decide, fun q0 hq0 => ?_⟩
      have s4 : Same H3 (upd H3 q0 (.tup [.ref l, .ref ev, .ref l3])) := Same.new hq0
      have hl4 := s4 _ _ (md.s _ _ (e2 _ _ hl))
      refine ⟨q0, _, rfl, SqT.of upd_same, rfl, .ref l, _, rfl, ⟨l, _, rfl, SqT.of hl4, rfl, .ref a, _, rfl, .ref b, _, rfl, rfl, .ref ev, _, rfl, .ref l3, _, rfl, rfl, ?_⟩⟩
      have m4 := m3.same s4
      have fF : Fr ps.length A H _ _ := ((f1.trans (f2.up (Nat.zero_le _))).trans (f3 ps.length)).trans (Fr.grow s4)
      have aL : (A1.lo ++ A.lo).length = ps.length + 4 := by rw [aE.1, List.append_nil, hl1]
      have hev : (((A1.lo ++ A.lo) ++ [ev]) ++ as)[ps.length + 4]? = some ev := by
        rw [← aL, List.getElem?_append_left (by simp)]
        exact get_last
      have eM : (⟨((((LS.first t ps.length).lm [] []).m.lo ++ []) ++ [.lst []]) ++ List.replicate as.length (.lst []), ((LS.first t ps.length).lm [] []).m.hi ++ [.lst ((List.range as.length).map fun i => .own (((((LS.first t ps.length).lm [] []).m.lo ++ []) ++ [D.lst []]).length + i))]⟩ : Mem) = ((fs 0).lm ps.length).m := by
        rw [R.zero, hl3, List.length_map]
        have e1 : ((((LS.first t ps.length).lm [] []).m.lo ++ []) ++ [D.lst []]).length = ps.length + 5 := by
          show ((_ :: _ :: _ :: _ :: ((List.replicate ps.length (LT.new 0)).map LT.d ++ []) ++ []) ++ [_]).length = _
          simp
        rw [e1]
        show (⟨((_ :: _ :: _ :: _ :: ((List.replicate ps.length (LT.new 0)).map LT.d ++ []) ++ []) ++ [_]) ++ _, _⟩ : Mem) = ⟨_ :: _ :: _ :: _ :: ((List.replicate ps.length (LT.new 0)).map LT.d ++ (.lst [] :: (List.replicate ps.length []).map cntD)), _⟩
        simp only [List.append_nil, List.cons_append, List.append_assoc, List.nil_append, List.map_replicate]
        rfl
      have m5 : HM _ ((fs 0).lm ps.length).m _ := eM ▸ m4
      refine hrest _ _ _ E m5 ?_ (q.mono fF)
      have g4 := EnvW.set (F := delA (Ad.mk (((A1.lo ++ A.lo) ++ [ev]) ++ as) ([a, b] ++ [l3])).all (upd H3 q0 (.tup [.ref l, .ref ev, .ref l3]))) (A := ⟨((A1.lo ++ A.lo) ++ [ev]) ++ as, [a, b] ++ [l3]⟩) (g := .hi 2) (o := some (.ref l3)) ⟨l3, rfl, rfl⟩ 7 (EnvW.set (g := .lo (ps.length + 4)) (o := some (.ref ev)) ⟨ev, hev, rfl⟩ 6 (EnvW.set (g := .hi 1) (o := some (.ref b)) ⟨b, rfl, rfl⟩ 5 (EnvW.set (g := .hi 0) (o := some (.ref a)) ⟨a, rfl, rfl⟩ 4 (en3.same s4))))
      exact g4
    have hgok : ∀ g, (∀ k, g ≠ .lo k) → ∀ x ∈ gR wy t ps ws g, GOk ps.length x := fun g hg x hx => by
      simp only [gR, List.mem_cons, List.not_mem_nil, or_false] at hx
      rcases hx with rfl | rfl | rfl | rfl | rfl | rfl | rfl | rfl | rfl | rfl | rfl | rfl <;> first
        | exact True.intro
        | (show _ ∨ _; omega)
        | (cases x <;> first | exact True.intro | exact absurd rfl (hg _))
    show BW _ _ ((defBody s_L_run).head! :: (defBody s_L_run).tail) _ _ _ _
    refine first ?_
    refine bw_for (PI' := fun ds M' => ds = (ws.map fun (n : Nat) => D.int (n : Int)) ∧ M' = ((fs 0).lm ps.length).m) 9 sc_L_run.nd (ig_tup (eg_var 3 rfl))
      (fun ds k Γ' M' => ds = (ws.map fun (n : Nat) => D.int (n : Int)) ∧ (∃ g, (∀ k, g ≠ .lo k) ∧ Γ' = gR wy t ps ws g) ∧ M' = ((fs k).lm ps.length).m) ?_ (hgok .un (fun _ h => nomatch h)) ?_ ?_ PassesOwn.never
    · rintro ds M' ⟨rfl, rfl⟩
      exact ⟨rfl, ⟨.un, fun _ h => (nomatch h), rfl⟩, rfl⟩
    · rintro ds k d Γ' M' hd ⟨rfl, ⟨g0, _, rfl⟩, rfl⟩
      obtain ⟨u, hwu, _, rfl⟩ := map_get hd
      have st := R.step k u hwu
      obtain ⟨lt, plan, c, s1, lt', ev, cnt, h1, h2, h3, h4, h5, h6, h7, h8, h9⟩ := st.ex
      have hul : u < ps.length := (List.getElem?_eq_some_iff.mp h2).1
      have ht1 : ((fs k).lm ps.length).ths[u]? = some lt.d := by
        show ((fs k).s.th.map LT.d)[u]? = _
        rw [List.getElem?_map, h1]
        rfl
      show BW _ _ _ (gR wy t ps ws (.d (.int u))) _ _ _
      have own2 : ∀ {i : Nat}, i < ps.length → ((List.range ps.length).map fun i => I2.own (ps.length + 5 + i))[i]? = some (.own (ps.length + 5 + i)) := fun {i} hi => by
        rw [List.getElem?_map, List.getElem?_range hi]
        rfl
      have ixn : ixN ((List.range ps.length).map fun i => I2.own (ps.length + 5 + i)).length (u : Int) = some u := ixN_nat (by simpa using hul)
      have fin : ∀ c' : List Nat, c'.length = lt.e + 1 → c'.set lt.e (c'.getD lt.e 0 + 1) = bump cnt lt.e → BW ps.length (cX P w K mg base n_L_run "_law_run" (defScope s_L_run) (He.ga K "_law_run") cdv A outer s0 H E) ((forBody ((defBody s_L_run).getD 1 (.Pass ⟨0, 0, 0, 0⟩))).drop 1) (gR wy t ps ws (.d (.int u))) (({ fs k with cs := (fs k).cs.set u c' } : LF).lm ps.length).m (fun d' _ => d' = runD ps (fs ws.length))
          (fun Γ' M' => (ws.map fun (n : Nat) => D.int (n : Int)) = (ws.map fun (n : Nat) => D.int (n : Int)) ∧ (∃ g, (∀ k, g ≠ .lo k) ∧ Γ' = gR wy t ps ws g) ∧ M' = ((fs (k + 1)).lm ps.length).m) := fun c' hl hb => by
        obtain ⟨v, hv⟩ : ∃ v, c'[lt.e]? = some v := ⟨_, List.getElem?_eq_getElem (by omega)⟩
        have hcs : ((fs k).cs.set u c')[u]? = some c' := List.getElem?_set_self (by rw [st.cl]; exact hul)
        obtain ⟨k1, k2⟩ := steps_lo (a := { fs k with cs := (fs k).cs.set u c' }) (n := ps.length) (u := u) st.n hcs
        have eBack : atI (c'.map natD) (-1) = some (natD v) := by
          unfold atI
          rw [List.length_map, hl, ixN_back]
          show (c'.map natD)[lt.e]? = _
          rw [List.getElem?_map, hv]
          rfl
        refine bw_sgU (d := .int ((v + 1 : Nat) : Int)) (u_is (u_add (u_ixL (ds := c'.map natD) (u_ixL (u_var 7 (gv rfl (gP_hi (o := stepsO ps.length) rfl))) (u_var 9 rfl) (steps_ix (a := { fs k with cs := (fs k).cs.set u c' }) st.n hul hcs)) (u_neg u_int) eBack) u_int) (by simp)) (sg_loL (k := ps.length + 5 + u) (j := lt.e) (ds := c'.map natD) (eg_hiL (k := 2) (eg_var 7 rfl) rfl (u_var 9 rfl) ixn (own2 hul)) k1 (u_neg u_int) (by rw [List.length_map, hl]; exact ixN_back)) ?_
        have e1 : c'.getD lt.e 0 = v := by rw [List.getD_eq_getElem?_getD, hv]; rfl
        have e2 : D.lst ((c'.map natD).set lt.e (.int ((v + 1 : Nat) : Int))) = cntD (bump cnt lt.e) := by
          rw [← hb, e1]
          unfold cntD
          rw [List.map_set]
          rfl
        rw [e2, k2]
        have eC : ({ ({ fs k with cs := (fs k).cs.set u c' } : LF) with cs := ((fs k).cs.set u c').set u (bump cnt lt.e) } : LF) = { fs k with cs := (fs k).cs.set u (bump cnt lt.e) } := by rw [List.set_set]
        rw [eC]
        have hlen : ((fs k).s.th.map LT.d).length = ps.length := by rw [List.length_map]; exact st.n
        refine bw_callS (cal_L_step S) hr (ag_c (eg_var 0 rfl) (ag_c (eg_var 1 rfl) (ag_c (eg_var 2 rfl) (ag_c (eg_var 4 rfl) (ag_c (eg_var 5 rfl) (ag_c (eg_var 9 rfl) (ag_c (eg_var 6 rfl) ag_nil))))))) ?_ (hgok _ (fun _ h => nomatch h))
        rintro gs M1 ⟨rfl, rfl⟩
        refine ⟨_, ⟨wy, t, ps, (fs k).s, .lst ((fs k).es.map evD) :: ((fs k).cs.set u (bump cnt lt.e)).map cntD, [stepsO ps.length], u, 0, (fs k).es.map evD, lt, plan, c, s1, lt', ev, ?_, rfl, hlen.symm, st.ok, lm_ok (a := { fs k with cs := (fs k).cs.set u (bump cnt lt.e) }) st.n (by show ((fs k).cs.set u _).length = _; rw [List.length_set]; exact st.cl), h1, h2, h3, h4, h5, rfl, by rw [List.length_map]; exact st.el, rfl⟩, ?_⟩
        · show [_, _, _, _, _, _, GW.lo (ps.length + 4)] = [_, _, _, _, _, _, GW.lo (0 + ((fs k).s.th.map LT.d).length + 4)]
          rw [hlen, Nat.zero_add]
        · rintro d M2 ⟨rfl, rfl⟩
          refine bw_nil ⟨rfl, ⟨.d (.int u), fun _ h => (nomatch h), rfl⟩, ?_⟩
          rw [h9]
          show LM.m _ = LM.m (LS.lm _ (.lst (((fs k).es ++ ev).map evD) :: _) _)
          rw [List.map_append]
          rfl
      obtain ⟨k1, k2⟩ := steps_lo (a := fs k) (n := ps.length) (u := u) st.n h6
      by_cases q : cnt.length = lt.e
      · refine bw_ifT (N1 := fun Γ' M' => Γ' = gR wy t ps ws (.d (.int u)) ∧ M' = (({ fs k with cs := (fs k).cs.set u (cnt ++ [0]) } : LF).lm ps.length).m) (t_is (t_eq (u_lenL (ds := cnt.map natD) Bt (u_ixL (u_var 7 (gv rfl (gP_hi (o := stepsO ps.length) rfl))) (u_var 9 rfl) (steps_ix (a := fs k) st.n hul h6))) (u_dget hu (u_ixL (u_var 5 (gv rfl (gP_hi (o := .lst (owns ((fs k).lm ps.length).ths.length)) rfl))) (u_var 9 rfl) (LM.thr ht1)) u_str 0) eqS_ii) (by rw [List.length_map]; exact decide_eq_true (by omega))) ?_ ?_
        · refine bw_append (k := ps.length + 5 + u) (eg_hiL (k := 2) (eg_var 7 rfl) rfl (u_var 9 rfl) ixn (own2 hul)) (eg_U u_int) ?_ ⟨_, k1⟩
          rintro g M2 ⟨rfl, rfl⟩
          refine ⟨_, cnt.map natD, rfl, k1, by rw [List.length_map]; omega, bw_nil ⟨rfl, ?_⟩⟩
          have e2 : D.lst (cnt.map natD ++ [.int 0]) = cntD (cnt ++ [0]) := by
            unfold cntD
            rw [List.map_append]
            rfl
          rw [e2, k2]
        · rintro Γ' M' ⟨rfl, rfl⟩
          refine fin (cnt ++ [0]) (by simp; omega) ?_
          have := grown_bump h7
          unfold grown at this
          rw [if_pos q] at this
          exact this
      · refine bw_ifF (t_is (t_eq (u_lenL (ds := cnt.map natD) Bt (u_ixL (u_var 7 (gv rfl (gP_hi (o := stepsO ps.length) rfl))) (u_var 9 rfl) (steps_ix (a := fs k) st.n hul h6))) (u_dget hu (u_ixL (u_var 5 (gv rfl (gP_hi (o := .lst (owns ((fs k).lm ps.length).ths.length)) rfl))) (u_var 9 rfl) (LM.thr ht1)) u_str 0) eqS_ii) (by rw [List.length_map]; exact decide_eq_false (by omega))) ?_
        have f := fin cnt (by omega) (by unfold bump; rw [if_neg q])
        rw [set_self h6] at f
        exact f
    · rintro ds Γ' M' ⟨rfl, ⟨g0, _, rfl⟩, rfl⟩
      rw [List.length_map]
      obtain ⟨ln, lc⟩ := lens ws.length (Nat.le_refl _)
      obtain ⟨a, ha⟩ : ∃ a, a = fs ws.length := ⟨_, rfl⟩
      rw [← ha] at ln lc hel hst ⊢
      have hth : ∀ i, i < ps.length → ∃ lt, a.s.th[i]? = some lt := fun i hi => ⟨_, List.getElem?_eq_getElem (by omega)⟩
      have ht1 : ∀ {i : Nat} {lt : LT}, a.s.th[i]? = some lt → (a.lm ps.length).ths[i]? = some lt.d := fun {i lt} h => by
        show (a.s.th.map LT.d)[i]? = _
        rw [List.getElem?_map, h]
        rfl
      refine bw_setF 10 (uf_lcI (i := 9) ((List.range ps.length).map fun i => if (a.s.th.getD i (.new 0)).e < (ps.getD i []).length then some (D.int (i : Nat)) else none) sc_L_run.nd (ui_rng1 (n := ps.length) Bt (u_is (u_len Bt (u_var 2 rfl)) (by rw [List.length_map])) (by omega)) (blkOk_by (N := n_L_run) (sc := defScope s_L_run) (by decide +kernel)) (by rw [List.length_map, List.length_range, rgD_len]) (by rw [rgD_len]; exact small_lt (by omega)) ?_ ?_) ?_ ?_ (sw_true rfl rfl rfl (by decide +kernel))
      · intro o ho d e
        obtain ⟨i, _, h2⟩ := List.mem_map.mp ho
        split at h2
        · rw [e] at h2
          cases h2
          rfl
        · rw [e] at h2
          cases h2
      · intro j d o hd ho
        obtain ⟨hj, rfl⟩ := rgD_at hd
        rw [Int.zero_add]
        rw [List.getElem?_map, List.getElem?_range hj] at ho
        obtain ⟨lt, hlt⟩ := hth j hj
        obtain ⟨plan, hplan⟩ : ∃ plan, ps[j]? = some plan := ⟨_, List.getElem?_eq_getElem hj⟩
        have g1 : a.s.th.getD j (.new 0) = lt := by rw [List.getD_eq_getElem?_getD, hlt]; rfl
        have g2 : ps.getD j [] = plan := by rw [List.getD_eq_getElem?_getD, hplan]; rfl
        have eo : (if lt.e < plan.length then some (D.int (j : Nat)) else none) = o := by
          rw [← g1, ← g2]
          exact Option.some.inj ho
        by_cases q : lt.e < plan.length
        · rw [if_pos q] at eo
          subst eo
          refine ⟨fun s' H' C cl fp => t_is (t_lt (u_dget hu (u_ixL (u_var 5 (by exact congrArg some (gP_hi (M := (a.lm ps.length).m) (k := 1) (o := .lst (owns (a.lm ps.length).ths.length)) rfl))) (u_var 9 rfl) (LM.thr (ht1 hlt))) u_str 0) (u_len Bt (u_ixT (u_var 2 rfl) (u_var 9 rfl) (ix_map (f := .tup) hplan)))) (decide_eq_true (by omega)), fun y hy s' H' C cl fp => ?_⟩
          cases hy
          exact u_var 9 rfl
        · rw [if_neg q] at eo
          subst eo
          exact ⟨fun s' H' C cl fp => t_is (t_lt (u_dget hu (u_ixL (u_var 5 (by exact congrArg some (gP_hi (M := (a.lm ps.length).m) (k := 1) (o := .lst (owns (a.lm ps.length).ths.length)) rfl))) (u_var 9 rfl) (LM.thr (ht1 hlt))) u_str 0) (u_len Bt (u_ixT (u_var 2 rfl) (u_var 9 rfl) (ix_map (f := .tup) hplan)))) (decide_eq_false (by omega)), fun y hy => nomatch hy⟩
      · rw [keepD_nat]
        exact natDs_noL _
      · rw [keepD_nat]
        have eEv : (a.lm ps.length).m.lo[ps.length + 4]? = some (.lst (a.es.map evD)) := by
          have := LM.re (x := a.lm ps.length) (j := 0) (d := .lst (a.es.map evD)) rfl
          have e : 0 + (a.lm ps.length).ths.length + 4 = ps.length + 4 := by
            show 0 + (a.s.th.map LT.d).length + 4 = _
            rw [List.length_map, ln, Nat.zero_add]
          rw [e] at this
          exact this
        refine bw_retX (u_tup (ua_cons (u_tupOf Bt (u_var 6 (gv rfl (gP_lo eEv)))) (ua_cons (u_is (u_tupOf Bt (u_lcM (i := 11) tupD sc_L_run.nd (ui_lst (u_is (u_var 7 (gv rfl (gP_hi (o := stepsO ps.length) rfl))) (congrArg D.lst (steps_snap ln lc)))) (blkOk_by (N := n_L_run) (sc := defScope s_L_run) (by decide +kernel)) (by rw [List.length_map, lc]; exact small_lt (by omega)) ?_ ?_)) (y := .tup (a.cs.map natsD)) ?_)
          (ua_cons (u_dget hu (u_var 4 (gv rfl (gP_hi (o := shX a.s.st a.s.ct (loD a.s.lk)) rfl))) u_str 0) (ua_cons (u_tupOf Bt (u_dget hu (u_var 4 (gv rfl (gP_hi (o := shX a.s.st a.s.ct (loD a.s.lk)) rfl))) u_str 6)) (ua_cons (u_tupOf Bt (u_var 10 rfl)) (ua_cons (u_is (u_var 5 (gv rfl (gP_hi (o := .lst (owns (a.lm ps.length).ths.length)) rfl))) (congrArg D.lst thr_snap)) ua_nil))))))) rfl
        · intro d hd
          obtain ⟨c, _, rfl⟩ := List.mem_map.mp hd
          exact noL_tup (natDs_noL c)
        · intro d hd s' H' C cl fp
          obtain ⟨c, _, rfl⟩ := List.mem_map.mp hd
          exact u_tupOf Bt (u_var 11 rfl)
        · show D.tup _ = D.tup _
          rw [List.map_map]
          rfl
end
end P6
namespace P6
open PySem PySem.Spec PyProof.Rows L2 H6
theorem ig_rng2 {X : Cx} {Γ : List GW} {M : Mem} {e e2 tg : Expr} {p pos : Pos} (Bt : Bs X.mg) {i j : Int} {n : Nat} (h : U X e (Γ.map (gP M)) (.int i)) (h2 : U X e2 (Γ.map (gP M)) (.int j)) (hn : (j - i).toNat = n) (hi : -(2 ^ 62) ≤ i ∧ i < 2 ^ 62) (hj : -(2 ^ 62) ≤ j ∧ j < 2 ^ 62) (hg : Gl X "range" := by rfl)
    (hs : starEach [e, e2] X.env = [(false, eval e X.env), (false, eval e2 X.env)] := by rfl) (hs2 : starEach [e2] X.env = [(false, eval e2 X.env)] := by rfl) (hs1 : starEach [e, e2] X.env = (false, eval e X.env) :: starEach [e2] X.env := by rfl) : IG X tg (.Call (.Name "range" p) [e, e2] [] pos) Γ M (fun ds M' => ds = rgD i n ∧ M' = M) := by
  obtain ⟨t, h1, k1⟩ := h
  obtain ⟨t2, h3, k2⟩ := h2
  refine ⟨_, pi_range2 hg Bt.range (pa_cons h1 (pa_cons h3 pa_nil hs2) hs1) hs hs2, fun σ H A m e R q => k1 σ H (m.env e) _ fun v H1 e1 r1 => k2 σ H1 ((m.env e).mono e1) _ fun v2 H2 e2 r2 => ?_⟩
  refine ⟨i, j, by rw [show v = V.int i from r1, show v2 = V.int j from r2], ⟨hi.1, hi.2, hj.1, hj.2⟩, ?_⟩
  rw [hn]
  have e12 := e1.trans e2
  refine q _ H2 A _ M ⟨rfl, rfl⟩ (Fr.grow e12) (m.same e12) fun n' A2 M2 H3 f2 m2 => ?_
  obtain ⟨q1, q2⟩ := iterR_rng i n H3
  refine ⟨fun k hk => ⟨(q1 k hk).1, fun x H4 hy => ?_⟩, q2⟩
  obtain ⟨q3, d, q4, q5⟩ := (q1 k hk).2 x H4 hy
  refine ⟨q3, d, q4, ?_⟩
  obtain ⟨c, _, rfl⟩ := rgD_mem (List.mem_of_getElem? q4)
  exact q5
structure RunF (wy : Way) (t : Thing) (ps : List (List D)) (ws : List Nat) (a : LF) : Prop where
  ex : ∃ fs, RunL wy t ps ws fs ∧ fs ws.length = a
  el : a.es.length ≤ 800
  st : noL a.s.st = true
def rLAlone (ds : List D) (d : D) : Prop := ∃ wy t ps ws u a lt, ds = argsD wy t ps ws ++ [.int (u : Nat)] ∧ RunF wy t ps ws a ∧ ws.length ≤ 390 ∧ a.s.th[u]? = some lt ∧
  ((lt.ph = .beg ∧ d = .int 0) ∨ (lt.ph ≠ .beg ∧ ∃ (m : Nat) (gs : Nat → LF) (le : Nat → LT), m ≤ 8 ∧ (∀ i, i < m → RunF wy t ps (ws ++ List.replicate (i + 1) u) (gs i) ∧ (gs i).s.th[u]? = some (le i)) ∧ (∀ i, i + 1 < m → (le i).e ≤ lt.e) ∧
    ((1 ≤ m ∧ lt.e < (le (m - 1)).e ∧ d = .int m) ∨ (m = 8 ∧ (le 7).e ≤ lt.e ∧ d = .non))))
section
variable {P : Program} {w : World} {K : PySem.W.Frag} {mg : Str → Option Value} {base : Heap}
theorem cal_L_alone (S : Ctx K mg) : Cal P w K mg base "_law_alone" p_L_alone 4 (spP rLAlone) := by
  obtain ⟨fd, F⟩ := F_L_alone S
  have Bt := bs_of S
  refine ⟨_, fd, fn_own F sc_L_alone ?_ ?_, g_L_alone S, F.kp, bd_L_alone F⟩
  · rintro ds d ⟨wy, t, ps, ws, u, a, lt, rfl, _⟩
    rfl
  · rintro cdv A outer s0 H E hr ds d ⟨wy, t, ps, ws, u, a, lt, rfl, R, hw, hlt, hd⟩
    refine ⟨0, ?_⟩
    have hu := hu_of hr
    have ix : ∀ {b : LF} {l : LT}, b.s.th[u]? = some l → atI (b.s.th.map LT.d) (u : Int) = some l.d := fun h => ix_map (f := LT.d) h
    obtain ⟨fs, R1, R2⟩ := R.ex
    refine bw_set 5 sc_L_alone.nd (eg_U0 (u_ixT (u_call (cal_L_run S) hr (ua_cons (u_var 0 rfl) (ua_cons (u_var 1 rfl) (ua_cons (u_var 2 rfl) (ua_cons (u_var 3 rfl) ua_nil)))) ⟨wy, t, ps, ws, fs, rfl, R1, by rw [R2]; exact R.el, by rw [R2]; exact R.st, rfl⟩) u_int (d := .lst (a.s.th.map LT.d)) (by rw [R2]; rfl))) ?_
    rintro g M1 ⟨rfl, rfl⟩
    rcases hd with ⟨hp, rfl⟩ | ⟨hp, m, gs, le, hm, hgs, hle, hend⟩
    · refine bw_ifR (t_is (t_eq (u_dget hu (u_ixL (u_var 5 rfl) (u_var 4 rfl) (ix hlt)) u_str 1) u_str rfl) (by rw [hp]; decide +kernel)) ?_
      exact bw_retX u_int rfl
    · refine bw_ifF (t_is (t_eq (u_dget hu (u_ixL (u_var 5 rfl) (u_var 4 rfl) (ix hlt)) u_str 1) u_str rfl) (by
        have : ∀ q : Ph, q ≠ .beg → decide (phS q = ("begin" : Str)) = false := by
          intro q hq
          cases q <;> first | exact absurd rfl hq | decide +kernel
        exact this _ hp)) ?_
      refine bw_setU 6 sc_L_alone.nd (d := wD ws) (u_var 3 rfl) ?_ (noL_tup (natDs_noL ws))
      let G : Nat → GW → List GW := fun k g => [.d (.str (wayS wy)), .d t.d, .d (plansD ps), .d (wD ws), .d (.int u), .d (.lst (a.s.th.map LT.d)), .d (wD (ws ++ List.replicate k u)), g]
      refine bw_for (PI' := fun ds M' => ds = rgD 1 8 ∧ M' = ⟨[], []⟩) 7 sc_L_alone.nd (ig_rng2 Bt u_int u_int rfl (by decide) (by decide)) (fun ds k Γ' M' => ds = rgD 1 8 ∧ M' = ⟨[], []⟩ ∧ (∃ g, Γ' = G k g) ∧ (k < m ∨ (m = 8 ∧ k = 8 ∧ (le 7).e ≤ lt.e ∧ d = .non))) ?_ gok0 ?_ ?_ PassesOwn.never
      · rintro ds M' ⟨rfl, rfl⟩
        refine ⟨rfl, rfl, ⟨.un, ?_⟩, ?_⟩
        · show _ = [_, _, _, _, _, _, GW.d (wD (ws ++ [])), _]
          rw [List.append_nil]
          rfl
        · rcases hend with ⟨h1, _, _⟩ | ⟨h1, _, _⟩
          · exact .inl (by omega)
          · exact .inl (by omega)
      · rintro ds k d' Γ' M' hd' ⟨rfl, rfl, ⟨g0, rfl⟩, hk⟩
        obtain ⟨hk8, rfl⟩ := rgD_at hd'
        have hkm : k < m := by omega
        obtain ⟨RF, hl2⟩ := hgs k hkm
        obtain ⟨fs2, R3, R4⟩ := RF.ex
        have eA : ws ++ List.replicate k u ++ [u] = ws ++ List.replicate (k + 1) u := by
          rw [List.append_assoc, List.replicate_succ']
        refine bw_setU 6 sc_L_alone.nd (d := wD (ws ++ List.replicate (k + 1) u)) (u_is (u_cat (ds := (ws ++ List.replicate k u).map fun (n : Nat) => D.int (n : Int)) (zs := [.int u]) (by simp; exact small_le' (by omega)) (u_var 6 rfl) (u_tup (ua_cons (u_var 4 rfl) ua_nil))) (by rw [← eA]; unfold wD; simp)) ?_ (noL_tup (natDs_noL _))
        have lr : (ws ++ List.replicate (k + 1) u).length = ws.length + (k + 1) := by simp
        by_cases q : lt.e < (le k).e
        · have hmk : m = k + 1 ∧ d = .int m := by
            rcases hend with ⟨h1, h2, h3⟩ | ⟨h1, h2, _⟩
            · refine ⟨?_, h3⟩
              by_cases e : k + 1 < m
              · have := hle k e
                omega
              · omega
            · by_cases e : k + 1 < m
              · have := hle k e
                omega
              · have : k = 7 := by omega
                subst this
                omega
          obtain ⟨hmk, rfl⟩ := hmk
          refine bw_ifR (t_is (t_gt (u_dget hu (u_ixL (u_ixT (u_call (cal_L_run S) hr (ua_cons (u_var 0 rfl) (ua_cons (u_var 1 rfl) (ua_cons (u_var 2 rfl) (ua_cons (u_var 6 rfl) ua_nil)))) ⟨wy, t, ps, ws ++ List.replicate (k + 1) u, fs2, rfl, R3, by rw [R4]; exact RF.el, by rw [R4]; exact RF.st, rfl⟩) u_int (d := .lst ((gs k).s.th.map LT.d)) (by rw [R4]; rfl)) (u_var 4 rfl) (ix hl2)) u_str 0) (u_dget hu (u_ixL (u_var 5 rfl) (u_var 4 rfl) (ix hlt)) u_str 0)) (decide_eq_true (by omega))) ?_
          exact bw_retX (u_is (u_var 7 rfl) (by rw [hmk]; congr 1; omega)) rfl
        · refine bw_ifF (t_is (t_gt (u_dget hu (u_ixL (u_ixT (u_call (cal_L_run S) hr (ua_cons (u_var 0 rfl) (ua_cons (u_var 1 rfl) (ua_cons (u_var 2 rfl) (ua_cons (u_var 6 rfl) ua_nil)))) ⟨wy, t, ps, ws ++ List.replicate (k + 1) u, fs2, rfl, R3, by rw [R4]; exact RF.el, by rw [R4]; exact RF.st, rfl⟩) u_int (d := .lst ((gs k).s.th.map LT.d)) (by rw [R4]; rfl)) (u_var 4 rfl) (ix hl2)) u_str 0) (u_dget hu (u_ixL (u_var 5 rfl) (u_var 4 rfl) (ix hlt)) u_str 0)) (decide_eq_false (by omega))) ?_
          refine bw_nil ⟨rfl, rfl, ⟨_, rfl⟩, ?_⟩
          by_cases e : k + 1 < m
          · exact .inl e
          · rcases hend with ⟨h1, h2, h3⟩ | ⟨h1, h2, h3⟩
            · have : m - 1 = k := by omega
              rw [this] at h2
              exact absurd h2 q
            · exact .inr ⟨h1, by omega, h2, h3⟩
      · rintro ds Γ' M' ⟨rfl, rfl, ⟨g0, rfl⟩, hk⟩
        rw [rgD_len] at hk
        rcases hk with hk | ⟨_, _, _, rfl⟩
        · omega
        · exact bw_retX u_non rfl
end
end P6
namespace P6
open PySem PySem.Spec PyProof.Rows L2 H6
/-! ### one own object of many kept -/
theorem hm_pick {A : Ad} {M : Mem} {H : Hp} {k : Nat} {r : Addr} {d : D} (m : HM A M H) (hr : A.lo[k]? = some r) (hd : M.lo[k]? = some d) : HM ⟨[r], []⟩ ⟨[d], []⟩ H ∧ Same (delA A.all H) (delA (Ad.mk [r] []).all H) := by
  have s : Same (delA A.all H) (delA (Ad.mk [r] []).all H) := fun b o hb => by
    obtain ⟨k1, k2⟩ := delA_get hb
    rw [delA_out]
    · exact k2
    · intro z
      have z : b ∈ [r] ++ [] := z
      simp at z
      exact k1 (z ▸ lo_all hr)
  refine ⟨⟨rfl, rfl, by simp [Ad.all], fun j b d' h1 h2 => ?_, fun j b o h1 => by simp at h1⟩, s⟩
  match j, h1, h2 with
  | 0, h1, h2 =>
    cases h1
    cases h2
    exact (m.lo k r d hr hd).mono s fun _ h => h
  | j + 1, h1, _ => simp at h1
/-- from a def's start by a new memory to its end -/
theorem fr_pick {A A1 A2 : Ad} {H H1 H2 : Hp} {n k : Nat} {r : Addr} {M : Mem} (hA : A = ⟨[r], []⟩) (sF : Same (delA A.all H) (delA A1.all H1)) (f : Fr n A1 H1 A2 H2) (m : HM A2 M H2) (hr : A2.lo[k]? = some r) : Fr 0 A H ⟨[r], []⟩ H2 := by
  subst hA
  obtain ⟨d, hd⟩ := get_of m.l1 hr
  exact ⟨(sF.trans f.s).trans (hm_pick m hr hd).2, fun a ha => .inl ha, fun _ _ h => h, fun _ _ h _ => h⟩
end P6
namespace P6
open PySem PySem.Spec PyProof.Rows L2
/-! ### every call may be made at every state -/
theorem inc_len : ∀ {ns : List Int} {lo m : Int}, ns.Pairwise (· < ·) → (∀ n ∈ ns, lo ≤ n ∧ n < m) → lo ≤ m → (ns.length : Int) ≤ m - lo
  | [], _, _, _, _, h => by simp; omega
  | x :: xs, lo, m, h1, h2, _ => by
    obtain ⟨h3, h4⟩ := List.pairwise_cons.mp h1
    have hx := h2 x List.mem_cons_self
    have := inc_len (ns := xs) (lo := x + 1) (m := m) h4 (fun n hn => ⟨by have := h3 n hn; omega, (h2 n (List.mem_cons_of_mem _ hn)).2⟩) (by omega)
    rw [List.length_cons]
    omega
/-- a number put into its place -/
def insI (k : Int) : List Int → List Int
  | [] => [k]
  | x :: xs => if k < x then k :: x :: xs else x :: insI k xs
theorem insI_perm (k : Int) : ∀ ns : List Int, (insI k ns).Perm (ns ++ [k])
  | [] => List.Perm.refl _
  | x :: xs => by
    unfold insI
    split
    · exact (List.perm_append_comm (l₁ := [k]) (l₂ := x :: xs))
    · exact (insI_perm k xs).cons x
theorem insI_mem {k n : Int} {ns : List Int} (h : n ∈ insI k ns) : n ∈ ns ∨ n = k := by
  have := (insI_perm k ns).mem_iff.mp h
  simpa using this
theorem insI_inc {k : Int} : ∀ {ns : List Int}, ns.Pairwise (· < ·) → ¬ k ∈ ns → (insI k ns).Pairwise (· < ·)
  | [], _, _ => by simp [insI]
  | x :: xs, h, hk => by
    obtain ⟨h3, h4⟩ := List.pairwise_cons.mp h
    unfold insI
    split
    · refine List.pairwise_cons.mpr ⟨fun y hy => ?_, h⟩
      rcases List.mem_cons.mp hy with rfl | hy
      · assumption
      · have := h3 y hy
        omega
    · have hkx : k ≠ x := fun z => hk (z ▸ List.mem_cons_self)
      refine List.pairwise_cons.mpr ⟨fun y hy => ?_, insI_inc h4 fun z => hk (List.mem_cons_of_mem _ z)⟩
      rcases insI_mem hy with hy | rfl
      · exact h3 y hy
      · omega
theorem app_total {t : Thing} (ok : t.ok) {c s : D} (hc : CallOk t c) (hs : StOk t s) : ∃ s' a, App t s c s' a ∧ StOk t s' := by
  cases hs with
  | @c m s =>
    cases hc with
    | cadd => exact ⟨_, _, .cadd (by have : 2 ≤ m ∧ m ≤ 5 := ok; omega), .c⟩
    | clook => exact ⟨_, _, .clook, .c⟩
  | @r m s =>
    cases hc with
    | rlook => exact ⟨_, _, .rlook, .r⟩
    | rput => exact ⟨_, _, .rput, .r⟩
    | rtrade => exact ⟨_, _, .rtrade, .r⟩
  | @s r m ns hl =>
    have ok : (1 ≤ r ∧ r ≤ 3) ∧ 1 ≤ m ∧ m ≤ 3 := ok
    cases hc with
    | spush =>
      by_cases h : (ns.length : Int) = r
      · exact ⟨_, _, .spushF h, .s hl⟩
      · exact ⟨_, _, .spush (by omega) (by omega), .s (by simp; omega)⟩
    | spop =>
      rcases List.eq_nil_or_concat ns with rfl | ⟨l, x, rfl⟩
      · exact ⟨_, _, .spopE, .s hl⟩
      · rw [List.concat_eq_append] at hl ⊢
        simp at hl
        exact ⟨_, _, .spop (by omega), .s (by omega)⟩
  | @q r m ns hl =>
    have ok : (1 ≤ r ∧ r ≤ 3) ∧ 1 ≤ m ∧ m ≤ 3 := ok
    cases hc with
    | qenter =>
      by_cases h : (ns.length : Int) = r
      · exact ⟨_, _, .qenterF h, .q hl⟩
      · exact ⟨_, _, .qenter (by omega) (by omega), .q (by simp; omega)⟩
    | qleave =>
      cases ns with
      | nil => exact ⟨_, _, .qleaveE, .q hl⟩
      | cons x l =>
        simp at hl
        exact ⟨_, _, .qleave (by omega), .q (by omega)⟩
  | @e m ns hp hb =>
    have ok : 2 ≤ m ∧ m ≤ 5 := ok
    have hl : ns.length ≤ 5 := by
      have := inc_len hp (lo := 0) (m := m) hb (by omega)
      omega
    cases hc with
    | @eadd _ k h1 h2 =>
      by_cases h : k ∈ ns
      · exact ⟨_, _, .eaddO hl hp h, .e hp hb⟩
      · refine ⟨_, _, .eadd (ms := insI k ns) hl hp h (insI_perm k ns) ((insI_inc hp h).imp fun h => by omega), .e (insI_inc hp h) fun n hn => ?_⟩
        rcases insI_mem hn with hn | rfl
        · exact hb n hn
        · exact ⟨h1, h2⟩
    | edrop => exact ⟨_, _, .edrop hl hp, .e (hp.filter _) fun n hn => hb n (List.mem_filter.mp hn).1⟩
    | ehas => exact ⟨_, _, .ehas hl, .e hp hb⟩
  | a0 =>
    cases hc with
    | adec => exact ⟨_, _, .adec0, .a1⟩
  | a1 =>
    cases hc with
    | adec => exact ⟨_, _, .adec1, .a1⟩
  | @b as ns hl =>
    have ok : (2 ≤ as.length ∧ as.length ≤ 3) ∧ ∀ a ∈ as, 0 ≤ a ∧ a ≤ 5 := ok
    cases hc with
    | @blook _ a ha => exact ⟨_, _, .blook (List.getElem?_eq_getElem (by omega)), .b hl⟩
    | @bmove _ a b k ha hb hab h1 h3 =>
      have ea := List.getElem?_eq_getElem (l := ns) (i := a) (by omega)
      have eb := List.getElem?_eq_getElem (l := ns) (i := b) (by omega)
      by_cases h : ns[a] < k
      · exact ⟨_, _, .bmoveF (by omega) ea h, .b hl⟩
      · exact ⟨_, _, .bmove (by omega) ea eb hab (by omega) h1 h3, .b (by simp; exact hl)⟩
  | @t rows s hs =>
    obtain ⟨hl, wd, hw, hrow⟩ := ok
    cases hc with
    | @tdo _ r c h0 hc =>
      have es := List.getElem?_eq_getElem (l := rows) (i := s) hs
      have w0 := (hrow r (List.mem_of_getElem? h0)).1
      have w1 := (hrow rows[s] (List.getElem_mem hs)).1
      have hcl : c < rows[s].length := by omega
      have ec := List.getElem?_eq_getElem (l := rows[s]) (i := c) hcl
      have hp := (hrow rows[s] (List.getElem_mem hs)).2 rows[s][c] (List.getElem_mem hcl)
      refine ⟨_, _, .tdo es ec, ?_⟩
      have e : (rows[s][c]).1 = ((rows[s][c]).1.toNat : Int) := by omega
      rw [e]
      exact .t (by omega)
theorem first_ok (t : Thing) (ok : t.ok) : StOk t (firstD t) := by
  cases t with
  | counter m => exact .c
  | register m => exact .r
  | stack r m => exact .s (by have : (1 ≤ r ∧ r ≤ 3) ∧ 1 ≤ m ∧ m ≤ 3 := ok; simp; omega)
  | queue r m => exact .q (by have : (1 ≤ r ∧ r ≤ 3) ∧ 1 ≤ m ∧ m ≤ 3 := ok; simp; omega)
  | set m => exact .e List.Pairwise.nil (by simp)
  | agree m => exact .a0
  | bank as => exact .b rfl
  | table rows => exact .t (s := 0) (by have := ok.1; omega)
end P6
namespace P6
open PySem PySem.Spec PyProof.Rows L2
/-! ### the law's machine and the program's: the same, thread by thread -/
inductive ThR (t : Thing) (s : LS) (u : Nat) (plan : List D) : Way → LT → Ca → Prop
  | beg {wy e x p} : noL x = true → noL p = true → (wy = .lo → s.lk ≠ some u) → e ≤ plan.length → ThR t s u plan wy ⟨e, .beg, x, p⟩ ⟨e, 0, .non⟩
  | reRea {e x p} : noL x = true → noL p = true → e < plan.length → ThR t s u plan .re ⟨e, .rea, x, p⟩ ⟨e, 2, .non⟩
  | reSwa {e n st0 dn hr p} : noLs hr = true → noL p = true → e < plan.length → n ≤ s.ct → (n = s.ct → st0 = s.st) → StOk t st0 → ThR t s u plan .re ⟨e, .swa, seenOf n st0 dn hr, p⟩ ⟨e, 1, ceR n st0⟩
  | naWri {e n st0 dn hr p} : noLs hr = true → noL p = true → e < plan.length → StOk t st0 → ThR t s u plan .na ⟨e, .wri, seenOf n st0 dn hr, p⟩ ⟨e, 1, .tup [st0]⟩
  | loTak {e x p} : noL x = true → noL p = true → e < plan.length → s.lk ≠ some u → ThR t s u plan .lo ⟨e, .tak, x, p⟩ ⟨e, 4, .non⟩
  | loRea {e x p} : noL x = true → noL p = true → e < plan.length → s.lk = some u → ThR t s u plan .lo ⟨e, .rea, x, p⟩ ⟨e, 1, .non⟩
  | loWri {e n st0 dn hr st' a c} : noLs hr = true → plan[e]? = some c → s.lk = some u → st0 = s.st → App t st0 c st' a → StOk t st' → ThR t s u plan .lo ⟨e, .wri, seenOf n st0 dn hr, .tup [st', a]⟩ ⟨e, 2, .tup [st', a]⟩
  | loGiv {e x st' a} : noL x = true → StOk t st' → shN 0 a → noL a = true → e < plan.length → s.lk = some u → ThR t s u plan .lo ⟨e, .giv, x, .tup [st', a]⟩ ⟨e, 3, .tup [st', a]⟩
def ceOf : Way → LS → D
  | .re, s => ceR s.ct s.st
  | .lo, s => ceL s.lk s.st
  | .na, s => s.st
structure Rel (wy : Way) (t : Thing) (ps : List (List D)) (s : LS) (sp : SP) : Prop where
  n : s.th.length = ps.length
  n4 : ps.length ≤ 4
  c : sp.cs.length = ps.length
  dn : s.dn.length = ps.length
  hr : s.hr.length = ps.length
  hn : noLs s.hr = true
  st : StOk t s.st
  ce : sp.ce = ceOf wy s
  lk : wy = .lo → ∀ v, s.lk = some v → v < ps.length
  th : ∀ (u : Nat) lt ca plan, s.th[u]? = some lt → sp.cs[u]? = some ca → ps[u]? = some plan → ThR t s u plan wy lt ca
end P6
namespace P6
open PySem PySem.Spec PyProof.Rows L2
/-- another thread where shared memory changes -/
theorem ThR.keep {t : Thing} {s s' : LS} {v : Nat} {plan : List D} {wy : Way} {lt : LT} {ca : Ca} (h : ThR t s v plan wy lt ca) (hre : wy = .re → s.ct ≤ s'.ct ∧ (s.ct = s'.ct → s'.st = s.st)) (hlo : wy = .lo → (s.lk = some v → s'.lk = some v ∧ s'.st = s.st) ∧ (s.lk ≠ some v → s'.lk ≠ some v)) : ThR t s' v plan wy lt ca := by
  cases h with
  | beg h1 h2 h3 h4 => exact .beg h1 h2 (fun w => (hlo w).2 (h3 w)) h4
  | reRea h1 h2 h3 => exact .reRea h1 h2 h3
  | reSwa h1 h2 h3 h4 h5 h6 =>
    obtain ⟨k1, k2⟩ := hre rfl
    refine .reSwa h1 h2 h3 (Nat.le_trans h4 k1) (fun e => ?_) h6
    have e1 : s.ct = s'.ct := by omega
    rw [k2 e1]
    exact h5 (by omega)
  | naWri h1 h2 h3 h4 => exact .naWri h1 h2 h3 h4
  | loTak h1 h2 h3 h4 => exact .loTak h1 h2 h3 ((hlo rfl).2 h4)
  | loRea h1 h2 h3 h4 => exact .loRea h1 h2 h3 ((hlo rfl).1 h4).1
  | loWri h1 h2 h3 h4 h5 h6 => exact .loWri h1 h2 ((hlo rfl).1 h3).1 (by rw [((hlo rfl).1 h3).2]; exact h4) h5 h6
  | loGiv h1 h2 h3 h4 h5 h6 => exact .loGiv h1 h2 h3 h4 h5 ((hlo rfl).1 h6).1
/-- the relation behind a step of thread u -/
theorem Rel.next {wy : Way} {t : Thing} {ps : List (List D)} {s s1 : LS} {sp : SP} {u : Nat} {lt lt' : LT} {ca' : Ca} {ce' : D} {plan : List D} (R : Rel wy t ps s sp) (hu : s.th[u]? = some lt) (hp : ps[u]? = some plan) (hth : s1.th = s.th) (hdn : s1.dn.length = s.dn.length) (hhr : s1.hr.length = s.hr.length) (hhn : noLs s1.hr = true) (hst : StOk t s1.st) (hce : ce' = ceOf wy s1) (hlk : wy = .lo → ∀ v, s1.lk = some v → v < ps.length)
    (hre : wy = .re → s.ct ≤ s1.ct ∧ (s.ct = s1.ct → s1.st = s.st)) (hlo : ∀ v, v ≠ u → wy = .lo → (s.lk = some v → s1.lk = some v ∧ s1.st = s.st) ∧ (s.lk ≠ some v → s1.lk ≠ some v)) (hn : ThR t s1 u plan wy lt' ca') : Rel wy t ps { s1 with th := s1.th.set u lt' } ⟨ce', sp.cs.set u ca'⟩ := by
  have hul : u < s.th.length := (List.getElem?_eq_some_iff.mp hu).1
  refine ⟨?_, R.n4, ?_, ?_, ?_, hhn, hst, by subst hce; cases wy <;> rfl, hlk, fun v l c pl h1 h2 h3 => ?_⟩
  · show (s1.th.set u lt').length = _
    rw [List.length_set, hth]
    exact R.n
  · show (sp.cs.set u ca').length = _
    rw [List.length_set]
    exact R.c
  · show s1.dn.length = _
    rw [hdn]
    exact R.dn
  · show s1.hr.length = _
    rw [hhr]
    exact R.hr
  · have same : ∀ {l : LT} {c : Ca}, ThR t s1 v pl wy l c → ThR t { s1 with th := s1.th.set u lt' } v pl wy l c := fun h => h.keep (fun _ => ⟨Nat.le_refl _, fun _ => rfl⟩) (fun _ => ⟨fun h => ⟨h, rfl⟩, fun h => h⟩)
    have h1 : (s1.th.set u lt')[v]? = some l := h1
    have h2 : (sp.cs.set u ca')[v]? = some c := h2
    rw [hth] at h1
    by_cases e : v = u
    · subst e
      rw [List.getElem?_set_self hul] at h1
      rw [List.getElem?_set_self (by rw [R.c, ← R.n]; exact hul)] at h2
      rw [hp] at h3
      cases h1
      cases h2
      cases h3
      exact same hn
    · rw [List.getElem?_set_ne (Ne.symm e)] at h1 h2
      exact same ((R.th v l c pl h1 h2 h3).keep hre (hlo v e))
end P6
namespace P6
open PySem PySem.Spec PyProof.Rows L2
theorem stOk_noL {t : Thing} {s : D} (h : StOk t s) : noL s = true := by
  have ti : ∀ ns : List Int, noL (tI ns) = true := fun ns => noL_tup (noLs_iff.mpr fun d hd => by
    obtain ⟨n, _, rfl⟩ := List.mem_map.mp hd
    rfl)
  cases h <;> first | rfl | exact ti _
theorem noLs_set {ds : List D} {u : Nat} {d : D} (h : noLs ds = true) (hd : noL d = true) : noLs (ds.set u d) = true := noLs_iff.mpr fun x hx => by
  rcases List.mem_or_eq_of_mem_set hx with hx | rfl
  · exact noLs_iff.mp h x hx
  · exact hd
/-- a step is there, on both sides, the same -/
theorem sim {wy : Way} {t : Thing} {ps : List (List D)} {s : LS} {sp : SP} {u : Nat} {lt : LT} {ca : Ca} {plan : List D} {c : D} (ok : t.ok) (R : Rel wy t ps s sp) (hu : s.th[u]? = some lt) (hca : sp.cs[u]? = some ca) (hp : ps[u]? = some plan) (hc : plan[lt.e]? = some c) (cok : CallOk t c) :
    ∃ s1 lt' ev ce' ca', LX t c u wy s lt s1 lt' ev ∧ StX wy t c u sp.ce ca ce' ca' ev ∧ Rel wy t ps { s1 with th := s1.th.set u lt' } ⟨ce', sp.cs.set u ca'⟩ ∧ lt.e = ca.e := by
  have hul : u < ps.length := (List.getElem?_eq_some_iff.mp hp).1
  have hel : lt.e < plan.length := (List.getElem?_eq_some_iff.mp hc).1
  have ns := stOk_noL R.st
  have h := R.th u lt ca plan hu hca hp
  have noch : ∀ v, v ≠ u → wy = .lo → (s.lk = some v → s.lk = some v ∧ s.st = s.st) ∧ (s.lk ≠ some v → s.lk ≠ some v) := fun _ _ _ => ⟨fun h => ⟨h, rfl⟩, fun h => h⟩
  have rce := R.ce
  cases h with
  | @reRea e x p h1 h2 h3 =>
    refine ⟨s, _, _, _, _, .rRead, ?_, R.next hu hp rfl rfl rfl R.hn R.st rce R.lk (fun _ => ⟨Nat.le_refl _, fun _ => rfl⟩) noch (.reSwa R.hn rfl h3 (Nat.le_refl _) (fun _ => rfl) R.st), rfl⟩
    rw [rce]
    exact .rAgain
  | @beg _ e x p h1 h2 h3 h4 =>
    cases wy with
    | re =>
      refine ⟨s, _, _, _, _, .rBeg, ?_, R.next hu hp rfl rfl rfl R.hn R.st rce R.lk (fun _ => ⟨Nat.le_refl _, fun _ => rfl⟩) noch (.reSwa R.hn rfl hel (Nat.le_refl _) (fun _ => rfl) R.st), rfl⟩
      rw [rce]
      exact .rBeg
    | na =>
      refine ⟨s, _, _, _, _, .nBeg, ?_, R.next hu hp rfl rfl rfl R.hn R.st rce R.lk (fun w => nomatch w) noch (.naWri R.hn rfl hel R.st), rfl⟩
      rw [rce]
      exact .nBeg
    | lo =>
      cases hl : s.lk with
      | none =>
        refine ⟨{ s with lk := some u }, _, _, _, _, .lBeg hl, ?_, R.next (ce' := ceL (some u) s.st) hu hp rfl rfl rfl R.hn R.st rfl (fun _ v hv => by cases hv; exact hul) (fun w => nomatch w) (fun v hv _ => ⟨fun h => (by rw [hl] at h; cases h), fun _ z => hv (Option.some.inj z).symm⟩) (.loRea h1 h2 hel rfl), rfl⟩
        rw [rce]
        show StX .lo t c u (ceL s.lk s.st) _ _ _ _
        rw [hl]
        exact .lBeg
      | some v =>
        refine ⟨s, _, _, _, _, .lBegN hl, ?_, R.next hu hp rfl rfl rfl R.hn R.st rce R.lk (fun w => nomatch w) noch (.loTak h1 h2 hel (h3 rfl)), rfl⟩
        rw [rce]
        show StX .lo t c u (ceL s.lk s.st) _ (ceL s.lk s.st) _ _
        rw [hl]
        exact .lBegN
  | @reSwa e n st0 dn hr p h1 h2 h3 h4 h5 h6 =>
    obtain ⟨st', a, ha, hs'⟩ := app_total ok cok h6
    have na := app_noL ha (stOk_noL h6)
    by_cases q : n = s.ct
    · have e0 := h5 q
      subst q
      subst e0
      refine ⟨s.wr u st' a, _, _, _, _, .rHit ha, ?_, R.next (ce' := ceR (s.ct + 1) st') hu hp rfl (List.length_set ..) (List.length_set ..) (noLs_set R.hn na.2) hs' rfl (fun w => nomatch w) (fun _ => ⟨Nat.le_succ _, fun z => absurd z (Nat.ne_of_lt (Nat.lt_succ_self _))⟩) (fun _ _ w => nomatch w) (.beg rfl rfl (fun w => nomatch w) h3), rfl⟩
      rw [rce]
      exact .rHit R.st ha
    · refine ⟨s, _, _, _, _, .rMiss ha q, ?_, R.next hu hp rfl rfl rfl R.hn R.st rce R.lk (fun _ => ⟨Nat.le_refl _, fun _ => rfl⟩) noch (.reRea (seenOf_noL (stOk_noL h6) h1) h2 h3), rfl⟩
      rw [rce]
      exact .rMiss q R.st h6
  | @naWri e n st0 dn hr p h1 h2 h3 h4 =>
    obtain ⟨st', a, ha, hs'⟩ := app_total ok cok h4
    have na := app_noL ha (stOk_noL h4)
    refine ⟨s.wr u st' a, _, _, _, _, .nWrite ha, ?_, R.next (ce' := st') hu hp rfl (List.length_set ..) (List.length_set ..) (noLs_set R.hn na.2) hs' rfl (fun w => nomatch w) (fun w => nomatch w) (fun _ _ w => nomatch w) (.beg rfl rfl (fun w => nomatch w) h3), rfl⟩
    exact .nWrite ha
  | @loTak e x p h1 h2 h3 h4 =>
    cases hl : s.lk with
    | none =>
      refine ⟨{ s with lk := some u }, _, _, _, _, .lTake hl, ?_, R.next (ce' := ceL (some u) s.st) hu hp rfl rfl rfl R.hn R.st rfl (fun _ v hv => by cases hv; exact hul) (fun w => nomatch w) (fun v hv _ => ⟨fun h => (by rw [hl] at h; cases h), fun _ z => hv (Option.some.inj z).symm⟩) (.loRea h1 h2 h3 rfl), rfl⟩
      rw [rce]
      show StX .lo t c u (ceL s.lk s.st) _ _ _ _
      rw [hl]
      exact .lTake
    | some v =>
      refine ⟨s, _, _, _, _, .lWait hl, ?_, R.next hu hp rfl rfl rfl R.hn R.st rce R.lk (fun w => nomatch w) noch (.loTak h1 h2 h3 h4), rfl⟩
      rw [rce]
      show StX .lo t c u (ceL s.lk s.st) _ (ceL s.lk s.st) _ _
      rw [hl]
      exact .lWait
  | @loRea e x p h1 h2 h3 h4 =>
    obtain ⟨st', a, ha, hs'⟩ := app_total ok cok R.st
    refine ⟨s, _, _, _, _, .lRead ha, ?_, R.next hu hp rfl rfl rfl R.hn R.st rce R.lk (fun w => nomatch w) noch (.loWri R.hn hc h4 rfl ha hs'), rfl⟩
    rw [rce]
    exact .lRead ha
  | @loWri e n st0 dn hr st' a c' h1 h2 h3 h4 h5 h6 =>
    rw [h2] at hc
    cases hc
    subst h4
    have na := app_noL h5 ns
    refine ⟨s.wr u st' a, _, _, _, _, .lWrite h5, ?_, R.next (ce' := ceL s.lk st') hu hp rfl (List.length_set ..) (List.length_set ..) (noLs_set R.hn na.2) h6 rfl R.lk (fun w => nomatch w) (fun v hv _ => ⟨fun h => (by rw [h3] at h; exact absurd (Option.some.inj h).symm hv), fun h => h⟩) (.loGiv (seenOf_noL ns h1) h6 h5.ans.1 na.2 hel h3), rfl⟩
    rw [rce]
    exact .lWrite
  | @loGiv e x st' a h1 h2 h2' h3 h4 h5 =>
    refine ⟨{ s with lk := none }, _, _, _, _, .lGive, ?_, R.next (ce' := ceL none s.st) hu hp rfl rfl rfl R.hn R.st rfl (fun _ v hv => by cases hv) (fun w => nomatch w) (fun v hv _ => ⟨fun h => (by rw [h5] at h; exact absurd (Option.some.inj h).symm hv), fun _ z => nomatch z⟩) (.beg rfl rfl (fun _ z => nomatch z) h4), rfl⟩
    rw [rce]
    exact .lGive
end P6
namespace P6
open PySem PySem.Spec PyProof.Rows L2 H6
/-! ### both machines along a weaving -/
def givN : Ph → Nat
  | .giv => 1
  | _ => 0
/-- what holds of both behind k steps -/
structure Jn (wy : Way) (t : Thing) (ps : List (List D)) (k : Nat) (a : LF) (sp : SP) : Prop where
  rel : Rel wy t ps a.s sp
  cl : a.cs.length = ps.length
  cs : ∀ (u : Nat) lt, a.s.th[u]? = some lt → ∃ c, a.cs[u]? = some c ∧ (c.length = lt.e ∨ c.length = lt.e + 1) ∧ (lt.ph ≠ .beg → c.length = lt.e + 1)
  dn : ∀ (u : Nat) lt, a.s.th[u]? = some lt → a.s.dn.getD u 0 = lt.e + givN lt.ph
  el : a.es.length ≤ k
  lg : a.s.lg.length ≤ k
/-- both machines' one step -/
structure Sim (wy : Way) (t : Thing) (ps : List (List D)) (a : LF) (sp : SP) (u : Nat) (b : LF) (sp' : SP) (ev : List Ev) : Prop where
  l : StepL wy t ps a u b
  p : StepP wy t ps sp u sp' ev
  es : b.es = a.es ++ ev
  ev1 : ev.length ≤ 1
  nw : ∃ ls, newlyP wy sp sp' u ls ∧ ls.length ≤ 1 ∧ b.s.lg = a.s.lg ++ ls
  cn : ∃ ca cnt, sp.cs[u]? = some ca ∧ a.cs[u]? = some cnt ∧ (cnt.length = ca.e ∨ cnt.length = ca.e + 1) ∧ cnt.length ≤ 9 ∧ b.cs = a.cs.set u (bump cnt ca.e)
end P6
namespace P6
open PySem PySem.Spec PyProof.Rows L2
theorem ThR.noL {t : Thing} {s : LS} {u : Nat} {plan : List D} {wy : Way} {lt : LT} {ca : Ca} (h : ThR t s u plan wy lt ca) (hs : StOk t s.st) : (P6.noL lt.seen = true ∧ P6.noL lt.pick = true) ∧ P6.noL ca.h = true ∧ lt.e = ca.e ∧ lt.e ≤ plan.length := by
  cases h with
  | beg h1 h2 _ h4 => exact ⟨⟨h1, h2⟩, rfl, rfl, h4⟩
  | reRea h1 h2 h3 => exact ⟨⟨h1, h2⟩, rfl, rfl, Nat.le_of_lt h3⟩
  | reSwa h1 h2 h3 h4 h5 h6 => exact ⟨⟨seenOf_noL (stOk_noL h6) h1, h2⟩, noL_tup (noLs_cons rfl (noLs_cons (stOk_noL h6) rfl)), rfl, Nat.le_of_lt h3⟩
  | naWri h1 h2 h3 h4 => exact ⟨⟨seenOf_noL (stOk_noL h4) h1, h2⟩, noL_tup (noLs_cons (stOk_noL h4) rfl), rfl, Nat.le_of_lt h3⟩
  | loTak h1 h2 h3 => exact ⟨⟨h1, h2⟩, rfl, rfl, Nat.le_of_lt h3⟩
  | loRea h1 h2 h3 => exact ⟨⟨h1, h2⟩, rfl, rfl, Nat.le_of_lt h3⟩
  | loWri h1 h2 h3 h4 h5 h6 =>
    subst h4
    have na := app_noL h5 (stOk_noL hs)
    have hp : P6.noL (.tup [_, _]) = true := noL_tup (noLs_cons na.1 (noLs_cons na.2 rfl))
    exact ⟨⟨seenOf_noL (stOk_noL hs) h1, hp⟩, hp, rfl, Nat.le_of_lt (List.getElem?_eq_some_iff.mp h2).1⟩
  | loGiv h1 h2 _ h3 h4 =>
    have hp : P6.noL (.tup [_, _]) = true := noL_tup (noLs_cons (stOk_noL h2) (noLs_cons h3 rfl))
    exact ⟨⟨h1, hp⟩, hp, rfl, Nat.le_of_lt h4⟩
theorem ceOf_noL {wy : Way} {s : LS} (h : noL s.st = true) : noL (ceOf wy s) = true := by
  cases wy with
  | re => exact noL_tup (noLs_cons rfl (noLs_cons h rfl))
  | lo =>
    refine noL_tup (noLs_cons ?_ (noLs_cons h rfl))
    cases s.lk <;> rfl
  | na => exact h
theorem Rel.lsok {wy : Way} {t : Thing} {ps : List (List D)} {s : LS} {sp : SP} (R : Rel wy t ps s sp) (hl : s.lg.length ≤ 800) : LSok s ∧ SPok ps sp := by
  have each : ∀ u, u < ps.length → ∃ lt ca plan, s.th[u]? = some lt ∧ sp.cs[u]? = some ca ∧ ps[u]? = some plan ∧ ThR t s u plan wy lt ca := fun u hu => by
    have h1 := List.getElem?_eq_getElem (l := s.th) (i := u) (by rw [R.n]; exact hu)
    have h2 := List.getElem?_eq_getElem (l := sp.cs) (i := u) (by rw [R.c]; exact hu)
    have h3 := List.getElem?_eq_getElem (l := ps) (i := u) hu
    exact ⟨_, _, _, h1, h2, h3, R.th u _ _ _ h1 h2 h3⟩
  refine ⟨⟨by rw [R.dn, R.n], by rw [R.hr, R.n], stOk_noL R.st, R.hn, fun l hl => ?_, by rw [R.n]; exact R.n4, hl⟩, ⟨R.c, by rw [R.ce]; exact ceOf_noL (stOk_noL R.st), fun c hc => ?_⟩⟩
  · obtain ⟨u, hu⟩ := List.mem_iff_getElem?.mp hl
    obtain ⟨lt, ca, plan, h1, _, _, h4⟩ := each u (by rw [← R.n]; exact (List.getElem?_eq_some_iff.mp hu).1)
    rw [hu] at h1
    cases h1
    exact (h4.noL R.st).1
  · obtain ⟨u, hu⟩ := List.mem_iff_getElem?.mp hc
    obtain ⟨lt, ca, plan, _, h1, _, h4⟩ := each u (by rw [← R.c]; exact (List.getElem?_eq_some_iff.mp hu).1)
    rw [hu] at h1
    cases h1
    exact (h4.noL R.st).2.1
end P6
namespace P6
open PySem PySem.Spec PyProof.Rows L2 H6
/-- what a step of the law's machine does to the log and the counts -/
theorem LX.facts {t : Thing} {c : D} {u : Nat} {wy : Way} {s s1 : LS} {lt lt' : LT} {ev : List Ev} (h : LX t c u wy s lt s1 lt' ev) :
    ev.length ≤ 1 ∧ ((lt'.e = lt.e ∧ lt'.ph ≠ .beg) ∨ (lt'.e = lt.e + 1 ∧ lt'.ph = .beg)) ∧
    ((s1.dn = s.dn ∧ s1.lg = s.lg ∧ s1.ct = s.ct ∧ lt'.e + givN lt'.ph = lt.e + givN lt.ph ∧ (wy = .re ∨ lt.ph ≠ .wri)) ∨
      (s1.dn = s.dn.set u (s.dn.getD u 0 + 1) ∧ s1.lg = s.lg ++ [(u, s.dn.getD u 0)] ∧ s1.ct = s.ct + 1 ∧ lt'.e + givN lt'.ph = lt.e + 1 ∧ givN lt.ph = 0 ∧ (wy = .re ∨ lt.ph = .wri))) := by
  cases h with
  | rBeg => exact ⟨Nat.le_refl _, .inl ⟨rfl, nofun⟩, .inl ⟨rfl, rfl, rfl, rfl, .inl rfl⟩⟩
  | rRead => exact ⟨Nat.zero_le _, .inl ⟨rfl, nofun⟩, .inl ⟨rfl, rfl, rfl, rfl, .inl rfl⟩⟩
  | rMiss => exact ⟨Nat.zero_le _, .inl ⟨rfl, nofun⟩, .inl ⟨rfl, rfl, rfl, rfl, .inl rfl⟩⟩
  | rHit => exact ⟨Nat.le_refl _, .inr ⟨rfl, rfl⟩, .inr ⟨rfl, rfl, rfl, rfl, rfl, .inl rfl⟩⟩
  | nBeg => exact ⟨Nat.le_refl _, .inl ⟨rfl, nofun⟩, .inl ⟨rfl, rfl, rfl, rfl, .inr nofun⟩⟩
  | nWrite => exact ⟨Nat.le_refl _, .inr ⟨rfl, rfl⟩, .inr ⟨rfl, rfl, rfl, rfl, rfl, .inr rfl⟩⟩
  | lBeg => exact ⟨Nat.le_refl _, .inl ⟨rfl, nofun⟩, .inl ⟨rfl, rfl, rfl, rfl, .inr nofun⟩⟩
  | lBegN => exact ⟨Nat.le_refl _, .inl ⟨rfl, nofun⟩, .inl ⟨rfl, rfl, rfl, rfl, .inr nofun⟩⟩
  | lTake => exact ⟨Nat.zero_le _, .inl ⟨rfl, nofun⟩, .inl ⟨rfl, rfl, rfl, rfl, .inr nofun⟩⟩
  | lWait => exact ⟨Nat.zero_le _, .inl ⟨rfl, nofun⟩, .inl ⟨rfl, rfl, rfl, rfl, .inr nofun⟩⟩
  | lRead => exact ⟨Nat.zero_le _, .inl ⟨rfl, nofun⟩, .inl ⟨rfl, rfl, rfl, rfl, .inr nofun⟩⟩
  | lWrite => exact ⟨Nat.zero_le _, .inl ⟨rfl, nofun⟩, .inr ⟨rfl, rfl, rfl, rfl, rfl, .inr rfl⟩⟩
  | lGive => exact ⟨Nat.le_refl _, .inr ⟨rfl, rfl⟩, .inl ⟨rfl, rfl, rfl, rfl, .inr nofun⟩⟩
theorem StX.evn {wy : Way} {t : Thing} {c : D} {u : Nat} {ce ce' : D} {ca ca' : Ca} {ev : List Ev} (h : StX wy t c u ce ca ce' ca' ev) (hc : noL c = true) (hh : noL ca.h = true) : noLs (ev.map evD) = true := by
  have e1 : ∀ {d : D} {k : Str}, noL d = true → noLs [D.tup [.str k, .int u, d]] = true := fun h => noLs_cons (noL_tup (noLs_cons rfl (noLs_cons rfl (noLs_cons h rfl)))) rfl
  cases h with
  | rBeg => exact e1 hc
  | rAgain => rfl
  | rMiss => rfl
  | rHit h1 h2 => exact e1 (app_noL h2 (stOk_noL h1)).2
  | lBeg => exact e1 hc
  | lBegN => exact e1 hc
  | lTake => rfl
  | lWait => rfl
  | lRead => rfl
  | lWrite => rfl
  | lGive =>
    have hh : (noL (.tup [_, _])) = true := hh
    simp only [noL, noLs, Bool.and_eq_true] at hh
    exact e1 hh.2.1
  | nBeg => exact e1 hc
  | nWrite h1 =>
    have hh : (noL (.tup [_])) = true := hh
    simp only [noL, noLs, Bool.and_eq_true] at hh
    exact e1 (app_noL h1 hh.1).2
theorem ThR.wri {t : Thing} {s : LS} {u : Nat} {plan : List D} {wy : Way} {lt : LT} {ca : Ca} (h : ThR t s u plan wy lt ca) : (wy = .lo → (ca.ph = 2 ↔ lt.ph = .wri)) ∧ (wy = .na → (ca.ph = 1 ↔ lt.ph = .wri)) ∧ (ca.ph = 0 ↔ lt.ph = .beg) := by
  cases h <;> exact ⟨by simp, by simp, by simp⟩
theorem getD_get {α : Type} {l : List α} {i : Nat} {x d : α} (h : l[i]? = some x) : l.getD i d = x := by
  rw [List.getD_eq_getElem?_getD, h]
  rfl
/-- a step is there, on both sides, and what holds behind it -/
theorem step_ex {wy : Way} {t : Thing} {ps : List (List D)} {k : Nat} {a : LF} {sp : SP} {u : Nat} {lt : LT} {plan : List D} (ok : t.ok) (po : PlansOk t ps) (J : Jn wy t ps k a sp) (hk : k ≤ 400) (hu : a.s.th[u]? = some lt) (hp : ps[u]? = some plan) (he : lt.e < plan.length) :
    ∃ b sp' ev, Sim wy t ps a sp u b sp' ev ∧ Jn wy t ps (k + 1) b sp' := by
  have R := J.rel
  have hul : u < ps.length := (List.getElem?_eq_some_iff.mp hp).1
  obtain ⟨ca, hca⟩ : ∃ ca, sp.cs[u]? = some ca := ⟨_, List.getElem?_eq_getElem (by rw [R.c]; exact hul)⟩
  obtain ⟨c, hc⟩ : ∃ c, plan[lt.e]? = some c := ⟨_, List.getElem?_eq_getElem he⟩
  have pl := po.2 plan (List.mem_of_getElem? hp)
  have cok := pl.2 c (List.mem_of_getElem? hc)
  have nc := cok.noL
  obtain ⟨s1, lt', ev, ce', ca', lx, sx, R', ee⟩ := sim ok R hu hca hp hc cok
  obtain ⟨f1, f2, f3⟩ := lx.facts
  have hth := lx.th
  obtain ⟨cnt, hcnt, hcl, hcb⟩ := J.cs u lt hu
  have Lo := R.lsok (by have := J.lg; omega)
  have elk := J.el
  have lgk := J.lg
  have dnu := J.dn u lt hu
  have dnl : u < a.s.dn.length := by rw [R.dn]; exact hul
  have hthl : u < s1.th.length := by rw [hth]; exact (List.getElem?_eq_some_iff.mp hu).1
  have hcsl : u < a.cs.length := (List.getElem?_eq_some_iff.mp hcnt).1
  have nev := sx.evn nc ((R.th u lt ca plan hu hca hp).noL R.st).2.1
  -- the log
  have lgl : s1.lg.length ≤ k + 1 := by
    rcases f3 with ⟨_, h, _⟩ | ⟨_, h, _⟩
    · rw [h]
      omega
    · rw [h]
      simp
      omega
  have Lo' := R'.lsok (by show s1.lg.length ≤ 800; omega)
  have nw : ∃ ls, newlyP wy sp ⟨ce', sp.cs.set u ca'⟩ u ls ∧ ls.length ≤ 1 ∧ s1.lg = a.s.lg ++ ls := by
    have W := (R.th u lt ca plan hu hca hp).wri
    have r1 := R.ce
    have r2 : ce' = ceOf wy { s1 with th := s1.th.set u lt' } := R'.ce
    rcases f3 with ⟨_, h, hct, _, hw⟩ | ⟨_, h, hct, _, hg, hw⟩
    · refine ⟨[], ⟨ca, hca, ?_⟩, Nat.zero_le _, by rw [h, List.append_nil]⟩
      cases wy with
      | re => exact ⟨_, _, _, _, r1, r2, by show [] = if a.s.ct < s1.ct then _ else _; rw [if_neg (by omega)]⟩
      | lo =>
        have : ca.ph ≠ 2 := fun z => (hw.resolve_left nofun) ((W.1 rfl).mp z)
        show [] = if ca.ph = 2 then _ else _
        rw [if_neg this]
      | na =>
        have : ca.ph ≠ 1 := fun z => (hw.resolve_left nofun) ((W.2.1 rfl).mp z)
        show [] = if ca.ph = 1 then _ else _
        rw [if_neg this]
    · have e0 : a.s.dn.getD u 0 = ca.e := by omega
      rw [e0] at h
      refine ⟨[(u, ca.e)], ⟨ca, hca, ?_⟩, Nat.le_refl _, h⟩
      cases wy with
      | re => exact ⟨_, _, _, _, r1, r2, by show _ = if a.s.ct < s1.ct then _ else _; rw [if_pos (by omega)]⟩
      | lo =>
        have : ca.ph = 2 := (W.1 rfl).mpr (hw.resolve_left nofun)
        show _ = if ca.ph = 2 then _ else _
        rw [if_pos this]
      | na =>
        have : ca.ph = 1 := (W.2.1 rfl).mpr (hw.resolve_left nofun)
        show _ = if ca.ph = 1 then _ else _
        rw [if_pos this]
  refine ⟨⟨{ s1 with th := s1.th.set u lt' }, a.cs.set u (bump cnt lt.e), a.es ++ ev⟩, ⟨ce', sp.cs.set u ca'⟩, ev,
    ⟨⟨Lo.1, R.n, J.cl, by omega, lt, plan, c, s1, lt', ev, cnt, hu, hp, hc, nc, lx, hcnt, hcl, by omega, rfl⟩,
      ⟨Lo.2, Lo'.2, ca, plan, c, ca', hca, hp, by rw [← ee]; exact hc, nc, sx, rfl, nev⟩, rfl, f1, nw, ca, cnt, hca, hcnt, by rw [← ee]; exact hcl, by omega, by rw [← ee]⟩,
    ⟨R', by show (a.cs.set u _).length = _; rw [List.length_set]; exact J.cl, fun v l hl => ?_, fun v l hl => ?_, ?_, lgl⟩⟩
  · have hl : (s1.th.set u lt')[v]? = some l := hl
    show ∃ c, (a.cs.set u (bump cnt lt.e))[v]? = some c ∧ _
    by_cases e : v = u
    · subst e
      rw [List.getElem?_set_self hthl] at hl
      cases hl
      refine ⟨_, List.getElem?_set_self hcsl, ?_⟩
      rw [bump_len hcl]
      rcases f2 with ⟨h1, h2⟩ | ⟨h1, h2⟩
      · exact ⟨.inr (by omega), fun _ => by omega⟩
      · exact ⟨.inl (by omega), fun z => absurd h2 z⟩
    · rw [List.getElem?_set_ne (Ne.symm e), hth] at hl
      rw [List.getElem?_set_ne (Ne.symm e)]
      exact J.cs v l hl
  · have hl : (s1.th.set u lt')[v]? = some l := hl
    show s1.dn.getD v 0 = _
    by_cases e : v = u
    · subst e
      rw [List.getElem?_set_self hthl] at hl
      cases hl
      rcases f3 with ⟨h, _, _, h4, _⟩ | ⟨h, _, _, h4, h5, _⟩
      · rw [h]
        omega
      · rw [h, List.getD_eq_getElem?_getD, List.getElem?_set_self dnl]
        show a.s.dn.getD v 0 + 1 = _
        omega
    · rw [List.getElem?_set_ne (Ne.symm e), hth] at hl
      rw [← J.dn v l hl]
      rcases f3 with ⟨h, _⟩ | ⟨h, _⟩
      · rw [h]
      · rw [h, List.getD_eq_getElem?_getD, List.getElem?_set_ne (Ne.symm e), ← List.getD_eq_getElem?_getD]
  · show (a.es ++ ev).length ≤ _
    rw [List.length_append]
    omega
end P6
namespace P6
open PySem PySem.Spec PyProof.Rows L2 H6
theorem jn_first (wy : Way) (t : Thing) (ps : List (List D)) (ok : t.ok) (po : PlansOk t ps) : Jn wy t ps 0 (LF.first t ps.length) (firstSP wy t ps) := by
  have rep : ∀ {α : Type} {n u : Nat} {x y : α}, (List.replicate n x)[u]? = some y → u < n ∧ y = x := fun {α n u x y} h => by
    have h1 := List.eq_of_mem_replicate (List.mem_of_getElem? h)
    have h2 := (List.getElem?_eq_some_iff.mp h).1
    rw [List.length_replicate] at h2
    exact ⟨h2, h1⟩
  refine ⟨⟨List.length_replicate .., po.1.2, List.length_replicate .., List.length_replicate .., List.length_replicate .., rep1_noL rfl, first_ok t ok, by cases wy <;> rfl, fun _ v h => (nomatch h), fun u lt ca plan h1 h2 h3 => ?_⟩, List.length_replicate .., fun u lt h => ?_, fun u lt h => ?_, Nat.le_refl _, Nat.le_refl _⟩
  · obtain ⟨_, rfl⟩ := rep (show (List.replicate ps.length (LT.new 0))[u]? = some lt from h1)
    obtain ⟨_, rfl⟩ := rep (show (List.replicate ps.length (⟨0, 0, .non⟩ : Ca))[u]? = some ca from h2)
    exact .beg rfl rfl (fun _ z => nomatch z) (Nat.zero_le _)
  · obtain ⟨hn, rfl⟩ := rep (show (List.replicate ps.length (LT.new 0))[u]? = some lt from h)
    exact ⟨[], by show (List.replicate ps.length [])[u]? = _; rw [List.getElem?_replicate, if_pos hn], .inl rfl, fun z => absurd rfl z⟩
  · obtain ⟨hn, rfl⟩ := rep (show (List.replicate ps.length (LT.new 0))[u]? = some lt from h)
    show (List.replicate ps.length 0).getD u 0 = 0
    rw [List.getD_eq_getElem?_getD, List.getElem?_replicate, if_pos hn]
    rfl
/-! ### both machines along a weaving: one choice for each weaving -/
structure XS where
  k : Nat
  a : LF
  sp : SP
  ev : List Ev
def NxOk (wy : Way) (t : Thing) (ps : List (List D)) (x : XS) (u : Nat) (y : XS) : Prop := y.k = x.k + 1 ∧ Sim wy t ps x.a x.sp u y.a y.sp y.ev ∧ Jn wy t ps y.k y.a y.sp
open Classical in
noncomputable def nextX (wy : Way) (t : Thing) (ps : List (List D)) (x : XS) (u : Nat) : XS := if h : ∃ y, NxOk wy t ps x u y then choose h else x
def firstX (wy : Way) (t : Thing) (ps : List (List D)) : XS := ⟨0, LF.first t ps.length, firstSP wy t ps, []⟩
noncomputable def atX (wy : Way) (t : Thing) (ps : List (List D)) (ws : List Nat) : XS := ws.foldl (nextX wy t ps) (firstX wy t ps)
def Can (ps : List (List D)) (a : LF) (u : Nat) : Prop := ∃ lt plan, a.s.th[u]? = some lt ∧ ps[u]? = some plan ∧ lt.e < plan.length
structure Okw (wy : Way) (t : Thing) (ps : List (List D)) (ws : List Nat) : Prop where
  ok : t.ok
  po : PlansOk t ps
  l : ws.length ≤ 400
  can : ∀ (k u : Nat), ws[k]? = some u → Can ps (atX wy t ps (ws.take k)).a u
section
variable {wy : Way} {t : Thing} {ps : List (List D)} {ws : List Nat} {u : Nat}
theorem atX_nil : atX wy t ps [] = firstX wy t ps := rfl
theorem atX_snoc : atX wy t ps (ws ++ [u]) = nextX wy t ps (atX wy t ps ws) u := by
  unfold atX
  rw [List.foldl_append]
  rfl
theorem take_snoc {α : Type} {l : List α} {k : Nat} {x : α} (h : l[k]? = some x) : l.take (k + 1) = l.take k ++ [x] := by
  rw [List.take_add_one, h]
  rfl
theorem Okw.nil (ok : t.ok) (po : PlansOk t ps) : Okw wy t ps [] := ⟨ok, po, Nat.zero_le _, fun k u h => by simp at h⟩
theorem Okw.next {x : XS} (ok : t.ok) (po : PlansOk t ps) (J : Jn wy t ps x.k x.a x.sp) (hk : x.k ≤ 400) (c : Can ps x.a u) : NxOk wy t ps x u (nextX wy t ps x u) := by
  obtain ⟨lt, plan, h1, h2, h3⟩ := c
  obtain ⟨b, sp', ev, h4, h5⟩ := step_ex ok po J hk h1 h2 h3
  have h : ∃ y, NxOk wy t ps x u y := ⟨⟨x.k + 1, b, sp', ev⟩, rfl, h4, h5⟩
  unfold nextX
  rw [dif_pos h]
  exact Classical.choose_spec h
theorem Okw.jn (O : Okw wy t ps ws) : ∀ k, k ≤ ws.length → (atX wy t ps (ws.take k)).k = k ∧ Jn wy t ps k (atX wy t ps (ws.take k)).a (atX wy t ps (ws.take k)).sp
  | 0, _ => by
    rw [List.take_zero]
    exact ⟨rfl, jn_first wy t ps O.ok O.po⟩
  | k + 1, hk => by
    obtain ⟨h1, h2⟩ := O.jn k (by omega)
    have hu := List.getElem?_eq_getElem (l := ws) (i := k) (by omega)
    have c := O.can k _ hu
    have := O.l
    obtain ⟨h3, h4, h5⟩ := Okw.next O.ok O.po (x := atX wy t ps (ws.take k)) (by rw [h1]; exact h2) (by omega) c
    rw [take_snoc hu, atX_snoc]
    rw [h1] at h3
    rw [h3] at h5
    exact ⟨h3, h5⟩
theorem Okw.sim (O : Okw wy t ps ws) {k : Nat} (hu : ws[k]? = some u) : Sim wy t ps (atX wy t ps (ws.take k)).a (atX wy t ps (ws.take k)).sp u (atX wy t ps (ws.take (k + 1))).a (atX wy t ps (ws.take (k + 1))).sp (atX wy t ps (ws.take (k + 1))).ev := by
  have hk := (List.getElem?_eq_some_iff.mp hu).1
  obtain ⟨h1, h2⟩ := O.jn k (by omega)
  have c := O.can k _ hu
  have := O.l
  obtain ⟨h3, h4, h5⟩ := Okw.next O.ok O.po (x := atX wy t ps (ws.take k)) (by rw [h1]; exact h2) (by omega) c
  rw [take_snoc hu, atX_snoc]
  exact h4
theorem Okw.jnE (O : Okw wy t ps ws) : Jn wy t ps ws.length (atX wy t ps ws).a (atX wy t ps ws).sp := by
  have := (O.jn ws.length (Nat.le_refl _)).2
  rw [List.take_length] at this
  exact this
theorem Okw.snoc (O : Okw wy t ps ws) (hl : ws.length < 400) (c : Can ps (atX wy t ps ws).a u) : Okw wy t ps (ws ++ [u]) := by
  refine ⟨O.ok, O.po, by simp; omega, fun k v h => ?_⟩
  rcases app_get h with h | ⟨rfl, rfl⟩
  · have hk := (List.getElem?_eq_some_iff.mp h).1
    rw [List.take_append_of_le_length (by omega)]
    exact O.can k v h
  · rw [List.take_append_of_le_length (Nat.le_refl _), List.take_length]
    exact c
theorem Okw.simE (O : Okw wy t ps ws) (hl : ws.length < 400) (c : Can ps (atX wy t ps ws).a u) : Sim wy t ps (atX wy t ps ws).a (atX wy t ps ws).sp u (atX wy t ps (ws ++ [u])).a (atX wy t ps (ws ++ [u])).sp (atX wy t ps (ws ++ [u])).ev := by
  have h := (O.snoc hl c).sim (k := ws.length) (u := u) get_last
  rw [List.take_append_of_le_length (Nat.le_refl _), List.take_length] at h
  have e : (ws ++ [u]).take (ws.length + 1) = ws ++ [u] := List.take_of_length_le (by simp)
  rw [e] at h
  exact h
theorem Okw.lt4 (O : Okw wy t ps ws) : ∀ x ∈ ws, x < ps.length := fun x hx => by
  obtain ⟨k, hk⟩ := List.mem_iff_getElem?.mp hx
  obtain ⟨lt, plan, _, h2, _⟩ := O.can k x hk
  exact (List.getElem?_eq_some_iff.mp h2).1
end
end P6
namespace P6
open PySem PySem.Spec PyProof.Rows L2 H6
section
variable {wy : Way} {t : Thing} {ps : List (List D)} {ws : List Nat} {u : Nat}
/-! ### what comes of a weaving -/
theorem Okw.runL (O : Okw wy t ps ws) : RunL wy t ps ws fun k => (atX wy t ps (ws.take k)).a :=
  ⟨O.po.1.2, O.l, by show (atX wy t ps (ws.take 0)).a = _; rw [List.take_zero]; rfl, fun k u hu => (O.sim hu).l⟩
theorem Okw.runF (O : Okw wy t ps ws) : RunF wy t ps ws (atX wy t ps ws).a := by
  have J := O.jnE
  have := O.l
  exact ⟨⟨_, O.runL, by show (atX wy t ps (ws.take ws.length)).a = _; rw [List.take_length]⟩, by have := J.el; omega, stOk_noL J.rel.st⟩
noncomputable def trW (wy : Way) (t : Thing) (ps : List (List D)) (ws : List Nat) : List (SP × List Ev) := (List.range (ws.length + 1)).map fun k => ((atX wy t ps (ws.take k)).sp, (atX wy t ps (ws.take k)).ev)
theorem trW_get {k : Nat} (h : k ≤ ws.length) : (trW wy t ps ws)[k]? = some ((atX wy t ps (ws.take k)).sp, (atX wy t ps (ws.take k)).ev) := by
  unfold trW
  rw [List.getElem?_map, List.getElem?_range (by omega)]
  rfl
theorem trW_end : (trW wy t ps ws)[ws.length]? = some ((atX wy t ps ws).sp, (atX wy t ps ws).ev) := by
  rw [trW_get (Nat.le_refl _), List.take_length]
theorem Okw.evk (O : Okw wy t ps ws) {k : Nat} (h : k ≤ ws.length) : (atX wy t ps (ws.take k)).ev.length ≤ 1 ∧ noLs ((atX wy t ps (ws.take k)).ev.map evD) = true := by
  cases k with
  | zero =>
    rw [List.take_zero]
    exact ⟨Nat.zero_le _, rfl⟩
  | succ k =>
    have S := O.sim (k := k) (List.getElem?_eq_getElem (by omega))
    obtain ⟨ca, plan, call, ca', _, _, _, _, _, _, h⟩ := S.p.ex
    exact ⟨S.ev1, h⟩
theorem Okw.spok (O : Okw wy t ps ws) {k : Nat} (h : k ≤ ws.length) : SPok ps (atX wy t ps (ws.take k)).sp := by
  obtain ⟨_, J⟩ := O.jn k h
  have := O.l
  exact (J.rel.lsok (by have := J.lg; omega)).2
theorem Okw.runP (O : Okw wy t ps ws) : RunP wy t ps ws (trW wy t ps ws) := by
  refine ⟨by unfold trW; simp, ?_, fun k u hu => ?_, noLs_iff.mpr fun d hd => ?_⟩
  · rw [trW_get (Nat.zero_le _), List.take_zero]
    rfl
  · have hk := (List.getElem?_eq_some_iff.mp hu).1
    exact ⟨_, _, _, _, trW_get (by omega), trW_get (by omega), (O.sim hu).p⟩
  · obtain ⟨p, hp, rfl⟩ := List.mem_map.mp hd
    unfold trW at hp
    obtain ⟨k, hk, rfl⟩ := List.mem_map.mp hp
    have hk := List.mem_range.mp hk
    exact noL_tup (noLs_cons (O.spok (by omega)).noL (noLs_cons (noL_tup (O.evk (by omega)).2) rfl))
theorem Okw.runOk (O : Okw wy t ps ws) : RunOk wy t ps ws (trW wy t ps ws) := ⟨O.ok, O.po, O.l, fun x hx => by have := O.lt4 x hx; have := O.po.1.2; omega, O.runP⟩
/-- the history -/
theorem Okw.evs (O : Okw wy t ps ws) : ∀ k, k ≤ ws.length → (((List.range (k + 1)).map fun k => (atX wy t ps (ws.take k)).ev).flatten) = (atX wy t ps (ws.take k)).a.es
  | 0, _ => by
    rw [List.take_zero]
    show ([0].map _).flatten = _
    rw [List.map_cons, List.take_zero]
    rfl
  | k + 1, hk => by
    have S := O.sim (k := k) (List.getElem?_eq_getElem (by omega))
    rw [List.range_succ, List.map_append, List.flatten_append, O.evs k (by omega), S.es]
    simp
theorem Okw.hist (O : Okw wy t ps ws) : ((trW wy t ps ws).map (·.2)).flatten = (atX wy t ps ws).a.es ∧ ∀ p ∈ trW wy t ps ws, p.2.length ≤ 1 := by
  refine ⟨?_, fun p hp => ?_⟩
  · have h := O.evs ws.length (Nat.le_refl _)
    rw [List.take_length] at h
    rw [← h]
    unfold trW
    rw [List.map_map]
    rfl
  · unfold trW at hp
    obtain ⟨k, hk, rfl⟩ := List.mem_map.mp hp
    have hk := List.mem_range.mp hk
    exact (O.evk (by omega)).1
/-- own steps -/
theorem Okw.cnt (O : Okw wy t ps ws) : CntP ps ws (trW wy t ps ws) fun k => (atX wy t ps (ws.take k)).a.cs := by
  refine ⟨by show (atX wy t ps (ws.take 0)).a.cs = _; rw [List.take_zero]; rfl, fun k u hu => ?_⟩
  have hk := (List.getElem?_eq_some_iff.mp hu).1
  obtain ⟨ca, cnt, h1, h2, h3, h4, h5⟩ := (O.sim hu).cn
  exact ⟨_, _, ca, cnt, trW_get (by omega), h1, h2, h3, h4, h5⟩
/-- what was applied -/
noncomputable def lgW (wy : Way) (t : Thing) (ps : List (List D)) (ws : List Nat) : List (List (Nat × Nat)) := (List.range ws.length).map fun k => (atX wy t ps (ws.take (k + 1))).a.s.lg.drop (atX wy t ps (ws.take k)).a.s.lg.length
theorem Okw.lgs (O : Okw wy t ps ws) : ∀ k, k ≤ ws.length → ((List.range k).map fun k => (atX wy t ps (ws.take (k + 1))).a.s.lg.drop (atX wy t ps (ws.take k)).a.s.lg.length).flatten = (atX wy t ps (ws.take k)).a.s.lg
  | 0, _ => by
    rw [List.take_zero]
    rfl
  | k + 1, hk => by
    obtain ⟨ls, _, _, h3⟩ := (O.sim (k := k) (List.getElem?_eq_getElem (by omega))).nw
    rw [List.range_succ, List.map_append, List.flatten_append, O.lgs k (by omega), List.map_cons, h3]
    simp
theorem Okw.logs (O : Okw wy t ps ws) : logsP wy ws (trW wy t ps ws) (lgW wy t ps ws) ∧ (lgW wy t ps ws).flatten = (atX wy t ps ws).a.s.lg := by
  have at1 : ∀ {k : Nat}, k < ws.length → ∃ ls, (lgW wy t ps ws)[k]? = some ls ∧ ls.length ≤ 1 ∧ ∀ u, ws[k]? = some u → newlyP wy (atX wy t ps (ws.take k)).sp (atX wy t ps (ws.take (k + 1))).sp u ls := fun {k} hk => by
    obtain ⟨ls, h1, h2, h3⟩ := (O.sim (k := k) (List.getElem?_eq_getElem hk)).nw
    refine ⟨ls, ?_, h2, fun u hu => ?_⟩
    · unfold lgW
      rw [List.getElem?_map, List.getElem?_range hk]
      show some ((atX wy t ps (ws.take (k + 1))).a.s.lg.drop (atX wy t ps (ws.take k)).a.s.lg.length) = some ls
      rw [h3, List.drop_left]
    · rw [List.getElem?_eq_getElem hk] at hu
      cases hu
      exact h1
  refine ⟨⟨by unfold lgW; simp, fun l hl => ?_, fun k u hu => ?_⟩, ?_⟩
  · obtain ⟨k, hk⟩ := List.mem_iff_getElem?.mp hl
    have hk2 := (List.getElem?_eq_some_iff.mp hk).1
    unfold lgW at hk2
    rw [List.length_map, List.length_range] at hk2
    obtain ⟨ls, h1, h2, _⟩ := at1 hk2
    rw [hk] at h1
    cases h1
    exact h2
  · have hk := (List.getElem?_eq_some_iff.mp hu).1
    obtain ⟨ls, h1, _, h3⟩ := at1 hk
    exact ⟨_, _, _, _, ls, trW_get (by omega), trW_get (by omega), h1, h3 u hu⟩
  · have h := O.lgs ws.length (Nat.le_refl _)
    rw [List.take_length] at h
    exact h
/-- who has steps -/
theorem Jn.going {k : Nat} {a : LF} {sp : SP} (J : Jn wy t ps k a sp) : goingL ps sp = leftL ps a.s := by
  unfold goingL leftL
  refine List.filter_congr fun i hi => ?_
  have hi := List.mem_range.mp hi
  have R := J.rel
  have h1 := List.getElem?_eq_getElem (l := a.s.th) (i := i) (by rw [R.n]; exact hi)
  have h2 := List.getElem?_eq_getElem (l := sp.cs) (i := i) (by rw [R.c]; exact hi)
  have h3 := List.getElem?_eq_getElem (l := ps) (i := i) hi
  have h := (R.th i _ _ _ h1 h2 h3).noL R.st
  have g1 : (a.s.th.getD i (.new 0)) = a.s.th[i]'(by rw [R.n]; exact hi) := getD_get h1
  have g2 : caOf sp i = sp.cs[i]'(by rw [R.c]; exact hi) := getD_get h2
  rw [g1, g2, h.2.2.1]
theorem Jn.state {k : Nat} {a : LF} {sp : SP} (J : Jn wy t ps k a sp) : isState wy sp.ce a.s.st := by
  rw [J.rel.ce]
  cases wy with
  | re => exact ⟨_, rfl⟩
  | lo => exact ⟨_, rfl⟩
  | na => rfl
end
end P6
namespace P6
open PySem PySem.Spec PyProof.Rows L2 H6
/-! ### going on alone -/
theorem eqv_all_no : ∀ {xs ys : List D} {i : Nat} {x y : D}, xs[i]? = some x → ys[i]? = some y → eqD x y = false → PyData.eqvAll (pys xs) (pys ys) = false
  | [], _, _, _, _, h, _, _ => by simp at h
  | _ :: _, [], _, _, _, _, h, _ => by simp at h
  | a :: xs, b :: ys, 0, x, y, h1, h2, h => by
    cases Option.some.inj h1
    cases Option.some.inj h2
    show (PyData.eqv (py a) (py b) && _) = false
    have h : PyData.eqv (py a) (py b) = false := h
    rw [h]
    rfl
  | a :: xs, b :: ys, i + 1, x, y, h1, h2, h => by
    have := eqv_all_no (xs := xs) (ys := ys) (i := i) h1 h2 h
    show (PyData.eqv (py a) (py b) && PyData.eqvAll (pys xs) (pys ys)) = false
    rw [this, Bool.and_false]
theorem eqD_tup_no {xs ys : List D} {i : Nat} {x y : D} (h1 : xs[i]? = some x) (h2 : ys[i]? = some y) (h : eqD x y = false) : eqD (.tup xs) (.tup ys) = false := eqv_all_no h1 h2 h
theorem eqD_int_no {i j : Int} (h : i ≠ j) : eqD (.int i) (.int j) = false := by
  show (i == j) = false
  exact beq_eq_false_iff_ne.mpr h
theorem eqD_sp_no {s s' : SP} {u : Nat} {ca ca' : Ca} (h1 : s.cs[u]? = some ca) (h2 : s'.cs[u]? = some ca') (h : ca'.e ≠ ca.e ∨ ca'.ph ≠ ca.ph) : eqD (spD s') (spD s) = false := by
  refine eqD_tup_no (i := 1) rfl rfl (eqD_tup_no (i := u) (x := caD ca') (y := caD ca) (by rw [List.getElem?_map, h2]; rfl) (by rw [List.getElem?_map, h1]; rfl) ?_)
  rcases h with h | h
  · exact eqD_tup_no (i := 0) rfl rfl (eqD_int_no (by omega))
  · exact eqD_tup_no (i := 1) rfl rfl (eqD_int_no (by omega))
def phN : Way → Ph → Nat
  | _, .beg => 0
  | .re, .swa => 1
  | .re, .rea => 2
  | .na, .wri => 1
  | .lo, .tak => 4
  | .lo, .rea => 1
  | .lo, .wri => 2
  | .lo, .giv => 3
  | _, _ => 0
theorem ThR.phn {t : Thing} {s : LS} {u : Nat} {plan : List D} {wy : Way} {lt : LT} {ca : Ca} (h : ThR t s u plan wy lt ca) : ca.ph = phN wy lt.ph ∧ (lt.ph = .tak → ca = ⟨lt.e, 4, .non⟩) ∧ (lt.ph ≠ .beg → lt.e < plan.length) := by
  cases h with
  | beg => exact ⟨rfl, nofun, fun z => absurd rfl z⟩
  | reRea h1 h2 h3 => exact ⟨rfl, nofun, fun _ => h3⟩
  | reSwa h1 h2 h3 => exact ⟨rfl, nofun, fun _ => h3⟩
  | naWri h1 h2 h3 => exact ⟨rfl, nofun, fun _ => h3⟩
  | loTak h1 h2 h3 => exact ⟨rfl, fun _ => rfl, fun _ => h3⟩
  | loRea h1 h2 h3 => exact ⟨rfl, nofun, fun _ => h3⟩
  | loWri h1 h2 h3 => exact ⟨rfl, nofun, fun _ => (List.getElem?_eq_some_iff.mp h2).1⟩
  | loGiv h1 h2 h2' h3 h4 => exact ⟨rfl, nofun, fun _ => h4⟩
theorem ThR.shN {t : Thing} {s : LS} {u : Nat} {plan : List D} {wy : Way} {lt : LT} {ca : Ca} (h : ThR t s u plan wy lt ca) : P6.shN 2 ca.h := by
  have pr : ∀ {x y : D}, P6.shN 1 x → P6.shN 1 y → P6.shN 2 (.tup [x, y]) := fun h1 h2 => shN_tup (shN_cons h1 (shN_cons h2 shN_nil))
  cases h with
  | beg => exact shN_non
  | reRea => exact shN_non
  | reSwa h1 h2 h3 h4 h5 h6 => exact pr shN_int h6.sh
  | naWri h1 h2 h3 h4 => exact shN_tup (shN_cons h4.sh shN_nil)
  | loTak => exact shN_non
  | loRea => exact shN_non
  | loWri h1 h2 h3 h4 h5 h6 => exact pr h6.sh (h5.ans.1.mono (by decide))
  | loGiv h1 h2 h2' h3 h4 => exact pr h2.sh (h2'.mono (by decide))
theorem Rel.sh {wy : Way} {t : Thing} {ps : List (List D)} {s : LS} {sp : SP} (R : Rel wy t ps s sp) : P6.sh (spD sp) = true := by
  have hc : shN 2 sp.ce := by
    rw [R.ce]
    cases wy with
    | re => exact shN_tup (shN_cons shN_int (shN_cons R.st.sh shN_nil))
    | lo =>
      refine shN_tup (shN_cons ?_ (shN_cons R.st.sh shN_nil))
      cases s.lk with
      | none => exact shN_non
      | some v => exact shN_int
    | na => exact R.st.sh.mono (by decide)
  refine (shN_tup (n := 4) (shN_cons (hc.mono (by decide)) (shN_cons (shN_tup (n := 3) fun d hd => ?_) shN_nil))).sh (by decide)
  obtain ⟨c, h1, rfl⟩ := List.mem_map.mp hd
  obtain ⟨u, hu⟩ := List.mem_iff_getElem?.mp h1
  have hul := (List.getElem?_eq_some_iff.mp hu).1
  rw [R.c] at hul
  have h1 := List.getElem?_eq_getElem (l := s.th) (i := u) (by rw [R.n]; exact hul)
  have h3 := List.getElem?_eq_getElem (l := ps) (i := u) hul
  have h := (R.th u _ c _ h1 hu h3).shN
  exact shN_tup (shN_cons shN_int (shN_cons shN_int (shN_cons h shN_nil)))
/-- so many steps are left to a thread that goes on alone -/
inductive Lf : Way → LS → Nat → LT → Prop
  | r1 {s lt st0 dn hr} : lt.ph = .swa → lt.seen = seenOf s.ct st0 dn hr → Lf .re s 1 lt
  | r2 {s lt} : lt.ph = .rea → Lf .re s 2 lt
  | r3 {s lt n st0 dn hr} : lt.ph = .swa → lt.seen = seenOf n st0 dn hr → n ≠ s.ct → Lf .re s 3 lt
  | n1 {s lt} : lt.ph = .wri → Lf .na s 1 lt
  | l1 {s lt} : lt.ph = .giv → Lf .lo s 1 lt
  | l2 {s lt} : lt.ph = .wri → Lf .lo s 2 lt
  | l3 {s lt} : lt.ph = .rea → Lf .lo s 3 lt
  | l4 {s lt} : lt.ph = .tak → s.lk = none → Lf .lo s 4 lt
theorem seen_inj {n m : Nat} {st st' : D} {dn dn' : List Nat} {hr hr' : List D} (h : seenOf n st dn hr = seenOf m st' dn' hr') : n = m := by
  unfold seenOf at h
  injection h with h
  injection h with h
  injection h with h
  omega
theorem Lf.step {t : Thing} {c : D} {u m : Nat} {wy : Way} {s s1 s2 : LS} {lt lt' : LT} {ev : List Ev} (h : Lf wy s (m + 1) lt) (x : LX t c u wy s lt s1 lt' ev) (e1 : s2.ct = s1.ct) (e2 : s2.lk = s1.lk) : (m = 0 ∧ lt'.e = lt.e + 1) ∨ (lt'.e = lt.e ∧ Lf wy s2 m lt' ∧ phN wy lt'.ph ≠ phN wy lt.ph) := by
  cases x with
  | rBeg =>
    cases h with
    | r1 h1 => cases h1
    | r2 h1 => cases h1
    | r3 h1 => cases h1
  | rRead => 
    cases h with
    | r1 h1 => cases h1
    | r2 => exact .inr ⟨rfl, .r1 rfl (by rw [e1]; rfl), nofun⟩
    | r3 h1 => cases h1
  | rMiss h1 h2 =>
    cases h with
    | r1 _ h3 => exact absurd (seen_inj h3) h2
    | r2 h1 => cases h1
    | r3 => exact .inr ⟨rfl, .r2 rfl, nofun⟩
  | rHit h1 =>
    cases h with
    | r1 => exact .inl ⟨rfl, rfl⟩
    | r2 h1 => cases h1
    | r3 _ h3 h4 => exact absurd (seen_inj h3).symm h4
  | nBeg => cases h with | n1 h1 => cases h1
  | nWrite => cases h with | n1 => exact .inl ⟨rfl, rfl⟩
  | lBeg => cases h <;> (rename_i h1; cases h1)
  | lBegN => cases h <;> (rename_i h1; cases h1)
  | lTake => 
    cases h with
    | l1 h1 => cases h1
    | l2 h1 => cases h1
    | l3 h1 => cases h1
    | l4 => exact .inr ⟨rfl, .l3 rfl, nofun⟩
  | lWait h2 => 
    cases h with
    | l1 h1 => cases h1
    | l2 h1 => cases h1
    | l3 h1 => cases h1
    | l4 _ h1 => rw [h1] at h2; cases h2
  | lRead =>
    cases h with
    | l1 h1 => cases h1
    | l2 h1 => cases h1
    | l3 => exact .inr ⟨rfl, .l2 rfl, nofun⟩
    | l4 h1 => cases h1
  | lWrite =>
    cases h with
    | l1 h1 => cases h1
    | l2 => exact .inr ⟨rfl, .l1 rfl, nofun⟩
    | l3 h1 => cases h1
    | l4 h1 => cases h1
  | lGive =>
    cases h with
    | l1 => exact .inl ⟨rfl, rfl⟩
    | l2 h1 => cases h1
    | l3 h1 => cases h1
    | l4 h1 => cases h1
theorem ThR.left {t : Thing} {s : LS} {u : Nat} {plan : List D} {wy : Way} {lt : LT} {ca : Ca} (h : ThR t s u plan wy lt ca) (hb : lt.ph ≠ .beg) : (∃ m, 1 ≤ m ∧ m ≤ 4 ∧ Lf wy s m lt) ∨ (wy = .lo ∧ lt.ph = .tak ∧ ∃ v, s.lk = some v) := by
  cases h with
  | beg => exact absurd rfl hb
  | reRea => exact .inl ⟨2, by decide, by decide, .r2 rfl⟩
  | @reSwa e n st0 dn hr p h1 h2 h3 h4 h5 h6 =>
    by_cases q : n = s.ct
    · subst q
      exact .inl ⟨1, by decide, by decide, .r1 rfl rfl⟩
    · exact .inl ⟨3, by decide, by decide, .r3 rfl rfl q⟩
  | naWri => exact .inl ⟨1, by decide, by decide, .n1 rfl⟩
  | loTak =>
    cases hl : s.lk with
    | none => exact .inl ⟨4, by decide, by decide, .l4 rfl hl⟩
    | some v => exact .inr ⟨rfl, rfl, v, rfl⟩
  | loRea => exact .inl ⟨3, by decide, by decide, .l3 rfl⟩
  | loWri => exact .inl ⟨2, by decide, by decide, .l2 rfl⟩
  | loGiv => exact .inl ⟨1, by decide, by decide, .l1 rfl⟩
end P6
namespace P6
open PySem PySem.Spec PyProof.Rows L2 H6
section
variable {X : Cx} {Γ : List GW} {Δ : List G} {M : Mem} {a b : Expr} {x : D} {ds : List D} {pos p : Pos} {R R1 : Bool → Mem → Prop} {P1 : GW → Mem → Prop}
theorem t_notInL {r : Bool} (ha : U X a Δ x) (hb : U X b Δ (.lst ds)) (h : (!(ds.any fun z => eqF z x)) = r) (hx : flD x = true := by rfl) (hy : ds.all flD = true := by rfl) (hm : behindInMarks .NotIn b = false := by rfl) : T X (.Compare a [.NotIn] [b] pos) Δ r := by
  subst h
  exact t_cmp op_notIn_seq (rd_inL (neg := true) hx hy) ha hb hm
/-- a draw = n -/
theorem tg_eqI {k : Int} {kk : Nat} (ha : EG X a Γ M P1) (h : ∀ g M', P1 g M' → ∃ i : Int, g = .d (.int i) ∧ R (decide (i = k)) M') : P6.TG X (.Compare a [.Eq] [.Constant (.int k) kk p] pos) Γ M R :=
  tg_of (pt_cmpR op_eq pe_sem pe_int (nomark _)) fun σ H A m e Q q => ha σ H A m e _ fun v H1 A1 g M1 p1 f1 m1 r1 => by
    obtain ⟨i, rfl, pp⟩ := h g M1 p1
    obtain ⟨_, z, rv⟩ := r1
    cases z
    show rEq v (.int k) H1 (fun x H' => ∃ b, x = V.bl b ∧ Q b H')
    exact rd_eq (x := .int i) (y := .int k) (b := decide (i = k)) rfl H1 v (.int k) (rv.mono delA_le) rfl _ fun z H2 e2 r2 => ⟨_, r2, q _ H2 A1 M1 pp (f1.trans (Fr.grow e2)) (m1.same e2)⟩
theorem tg_and2 (ha : P6.TG X a Γ M R1) (hb : ∀ M1, R1 true M1 → P6.TG X b Γ M1 R) (hf : ∀ M1, R1 false M1 → R false M1) : P6.TG X (.BoolOp .And [a, b] pos) Γ M R :=
  tg_of (pw_and pt_sem (pw_and1 pt_sem)).pt fun σ H A m e Q q => ha σ H A m e _ fun k H1 A1 M1 p1 f1 m1 => by
    cases k with
    | true => exact hb M1 p1 σ H1 A1 m1 (f1.env gok0 e) _ fun k2 H2 A2 M2 p2 f2 m2 => q k2 H2 A2 M2 p2 (f1.trans f2) m2
    | false => exact q false H1 A1 M1 (hf M1 p1) f1 m1
end
theorem nat_any {ss : List Nat} {j : Nat} : ((ss.map natD).any fun z => eqF z (.int (j : Nat))) = decide (j ∈ ss) := by
  have e : ss.map natD = ((ss.map fun (n : Nat) => (n : Int)).map D.int) := by
    rw [List.map_map]
    rfl
  rw [e, any_int]
  by_cases h : j ∈ ss
  · rw [decide_eq_true h]
    exact decide_eq_true (List.mem_map.mpr ⟨j, h, rfl⟩)
  · rw [decide_eq_false h]
    refine decide_eq_false fun z => h ?_
    obtain ⟨i, h1, h2⟩ := List.mem_map.mp z
    have : i = j := by omega
    exact this ▸ h1
theorem nat_fl {ss : List Nat} : (ss.map natD).all flD = true := List.all_eq_true.mpr fun d hd => by
  obtain ⟨n, _, rfl⟩ := List.mem_map.mp hd
  rfl
/-! ### the memory of a weaving under way -/
def IsRow (K : PySem.W.Frag) (d : D) : Prop := ∃ sc i z r, d = rowL K sc i z r ∧ sc.length ≤ 100 ∧ 0 ≤ z ∧ z < 2147483647
section
variable {K : PySem.W.Frag} {s : LS} {rest : List D} {n j : Nat} {d rw : D} {M2 : Mem}
theorem wm_get (hn : s.th.length = n) (h : rest[j]? = some d) : (s.lm rest []).m.lo[j + n + 4]? = some d := by
  have := LM.re (x := s.lm rest []) (j := j) h
  have e : (s.lm rest []).ths.length = n := by
    show (s.th.map LT.d).length = n
    rw [List.length_map, hn]
  rw [e] at this
  exact this
theorem wm_set (hn : s.th.length = n) : (⟨(s.lm rest []).m.lo.set (j + n + 4) d, (s.lm rest []).m.hi⟩ : Mem) = (s.lm (rest.set j d) []).m := by
  have := LM.setRe (x := s.lm rest []) (j := j) (d := d)
  have e : (s.lm rest []).ths.length = n := by
    show (s.th.map LT.d).length = n
    rw [List.length_map, hn]
  rw [e] at this
  exact this
theorem wm_snoc : (⟨(s.lm rest []).m.lo ++ [d], (s.lm rest []).m.hi⟩ : Mem) = (s.lm (rest ++ [d]) []).m := by
  show (⟨_ :: _ :: _ :: _ :: ((s.th.map LT.d ++ rest) ++ [d]), _⟩ : Mem) = ⟨_ :: _ :: _ :: _ :: (s.th.map LT.d ++ (rest ++ [d])), _⟩
  rw [List.append_assoc]
  rfl
theorem wm_len (hn : s.th.length = n) : (s.lm rest []).m.lo.length = rest.length + n + 4 := by
  show (_ :: _ :: _ :: _ :: (s.th.map LT.d ++ rest)).length = _
  simp [hn]
  omega
theorem wm_rowAt (hn : s.th.length = n) (h : IsRow K rw) : RowAt K (0 + n + 4) (s.lm (rw :: rest) []).m := by
  obtain ⟨sc, i, z, r, rfl, q⟩ := h
  exact ⟨sc, i, z, r, wm_get hn rfl, q⟩
theorem wm_row (hn : s.th.length = n) (h : RowTo K (0 + n + 4) (s.lm (rw :: rest) []).m M2) : ∃ rw', IsRow K rw' ∧ M2 = (s.lm (rw' :: rest) []).m := by
  obtain ⟨sc, i, z, r, rfl, q⟩ := h
  exact ⟨_, ⟨sc, i, z, r, rfl, q⟩, wm_set hn⟩
theorem wm_ok : LMok (s.lm rest []) := ⟨shX_ok, fun o ho => nomatch ho⟩
end
end P6
namespace P6
open PySem PySem.Spec PyProof.Rows L2 H6
def NoLo (g : GW) : Prop := ∀ k, g ≠ .lo k
def gWv (wy : Way) (t : Thing) (ps : List (List D)) (ws : List Nat) (a b c : GW) : List GW := [.lo (0 + ps.length + 4), .d (.str (wayS wy)), .d t.d, .d (plansD ps), .d (.int ((50 : Nat) : Int)), .hi 0, .hi 1, .d (wD ws), .lo (1 + ps.length + 4), a, b, c]
theorem gWv_ok {wy : Way} {t : Thing} {ps : List (List D)} {ws : List Nat} {a b c : GW} (ha : NoLo a) (hb : NoLo b) (hc : NoLo c) : ∀ g ∈ gWv wy t ps ws a b c, GOk ps.length g := fun g hg => by
  have nl : ∀ {g : GW}, NoLo g → GOk ps.length g := fun {g} h => by
    cases g with
    | lo k => exact absurd rfl (h k)
    | _ => exact True.intro
  simp only [gWv, List.mem_cons, List.not_mem_nil, or_false] at hg
  rcases hg with rfl | rfl | rfl | rfl | rfl | rfl | rfl | rfl | rfl | rfl | rfl | rfl <;> first
    | exact True.intro
    | (show _ ∨ _; omega)
    | exact nl ha
    | exact nl hb
    | exact nl hc
def canL (ps : List (List D)) (s : LS) (ss : List Nat) : List Nat := (List.range ps.length).filter fun i => decide ((s.th.getD i (.new 0)).e < (ps.getD i []).length ∧ ¬ i ∈ ss)
theorem canL_len {ps : List (List D)} {s : LS} {ss : List Nat} : (canL ps s ss).length ≤ ps.length := by
  have := List.length_filter_le (fun i => decide ((s.th.getD i (.new 0)).e < (ps.getD i []).length ∧ ¬ i ∈ ss)) (List.range ps.length)
  rw [List.length_range] at this
  exact this
theorem canL_can {ps : List (List D)} {a : LF} {ss : List Nat} {u : Nat} (hn : a.s.th.length = ps.length) (h : u ∈ canL ps a.s ss) : Can ps a u := by
  obtain ⟨h1, h2⟩ := List.mem_filter.mp h
  have h1 := List.mem_range.mp h1
  have h2 := of_decide_eq_true h2
  have k1 := List.getElem?_eq_getElem (l := a.s.th) (i := u) (by omega)
  have k2 := List.getElem?_eq_getElem (l := ps) (i := u) h1
  refine ⟨_, _, k1, k2, ?_⟩
  have := h2.1
  rw [getD_get k1, getD_get k2] at this
  exact this
/-- what a turn leaves -/
def WvM (K : PySem.W.Frag) (wy : Way) (t : Thing) (ps : List (List D)) (ws : List Nat) (M : Mem) : Prop := ∃ (rw : D) (ss : List Nat) (gar : List D), IsRow K rw ∧ ss.length ≤ ws.length ∧ M = ((atX wy t ps ws).a.s.lm (rw :: .lst (ss.map natD) :: gar) []).m
def WvR (K : PySem.W.Frag) (wy : Way) (t : Thing) (ps : List (List D)) (d : D) (o : Option Mem) : Prop := ∃ M', o = some M' ∧ RowAt K (0 + ps.length + 4) M' ∧ ∃ ws, d = wD ws ∧ ws.length ≤ 50 ∧ Okw wy t ps ws
theorem WvM.row {K : PySem.W.Frag} {wy : Way} {t : Thing} {ps : List (List D)} {ws : List Nat} {M : Mem} (O : Okw wy t ps ws) (h : WvM K wy t ps ws M) : RowAt K (0 + ps.length + 4) M := by
  obtain ⟨rw, ss, gar, h1, _, rfl⟩ := h
  exact wm_rowAt O.jnE.rel.n h1
theorem wD_noL (ws : List Nat) : noL (wD ws) = true := noL_tup (natDs_noL ws)
section
variable {P : Program} {w : World} {K : PySem.W.Frag} {mg : Str → Option Value} {base : Heap}
theorem weave_loop (S : Ctx K mg) {cdv : Value} {A : Around} {outer : List Env} {s0 : Shared} {H : Hp} {E : XK} (hr : Room 2 (A.deeper (envOfC "_law_weave" (defScope s_L_weave) s0.heap.objs.size (He.ga K "_law_weave") cdv)))
    {wy : Way} {t : Thing} {ps : List (List D)} (ok : t.ok) (po : PlansOk t ps) {M : Mem} (hM : WvM K wy t ps [] M) :
    BW ps.length (cX P w K mg base n_L_weave "_law_weave" (defScope s_L_weave) (He.ga K "_law_weave") cdv A outer s0 H E) (defBody s_L_weave).tail (gWv wy t ps [] .un .un .un) M (WvR K wy t ps) (fun _ _ => False) := by
  have Bt := bs_of S
  have hu := hu_of hr
  have hn := po.1.2
  have nlo : ∀ d, NoLo (.d d) := fun d k z => nomatch z
  refine bw_for (PI' := fun ds M' => ds = rgD 0 50 ∧ M' = M) 9 sc_L_weave.nd (ig_rng Bt (eg_var 4 rfl) ?_)
    (fun ds k Γ' M' => ds = rgD 0 50 ∧ ∃ ws a b c, ws.length = k ∧ Okw wy t ps ws ∧ NoLo a ∧ NoLo b ∧ NoLo c ∧ Γ' = gWv wy t ps ws a b c ∧ WvM K wy t ps ws M') ?_ (gWv_ok (fun k z => nomatch z) (fun k z => nomatch z) (fun k z => nomatch z)) ?_ ?_ PassesOwn.never
  · rintro g M' ⟨rfl, rfl⟩
    exact ⟨50, rfl, by decide, rfl, rfl⟩
  · rintro ds M' ⟨rfl, rfl⟩
    exact ⟨rfl, [], .un, .un, .un, rfl, Okw.nil ok po, (fun k z => nomatch z), (fun k z => nomatch z), (fun k z => nomatch z), rfl, hM⟩
  · rintro ds k d Γ' M' hd ⟨rfl, ws, a, b, c, rfl, O, ha, hb, hc, rfl, rw, ss, gar, hrw, hss, rfl⟩
    obtain ⟨hk, rfl⟩ := rgD_at hd
    have J := O.jnE
    have lT : (atX wy t ps ws).a.s.th.length = ps.length := J.rel.n
    obtain ⟨x, hx⟩ : ∃ x, x = (atX wy t ps ws).a := ⟨_, rfl⟩
    rw [← hx] at lT ⊢
    have Jx : Jn wy t ps ws.length x (atX wy t ps ws).sp := hx ▸ J
    have hth : ∀ i, i < ps.length → ∃ lt, x.s.th[i]? = some lt := fun i hi => ⟨_, List.getElem?_eq_getElem (by omega)⟩
    obtain ⟨y, hy⟩ : ∃ y : LM, y = x.s.lm (rw :: .lst (ss.map natD) :: gar) [] := ⟨_, rfl⟩
    have hyl : y.ths.length = ps.length := by
      rw [hy]
      show (x.s.th.map LT.d).length = _
      rw [List.length_map, lT]
    have ht1 : ∀ {i : Nat} {lt : LT}, x.s.th[i]? = some lt → y.ths[i]? = some lt.d := fun {i lt} h => by
      rw [hy]
      show (x.s.th.map LT.d)[i]? = _
      rw [List.getElem?_map, h]
      rfl
    have hst : y.m.lo[1 + ps.length + 4]? = some (.lst (ss.map natD)) := by
      rw [hy]
      exact wm_get lT rfl
    rw [← hy]
    refine bw_setF 10 (uf_lcI (i := 11) ((List.range ps.length).map fun i => if ((x.s.th.getD i (.new 0)).e < (ps.getD i []).length ∧ ¬ i ∈ ss) then some (D.int (i : Nat)) else none) sc_L_weave.nd (ui_rng1 (n := ps.length) Bt (u_is (u_len Bt (u_var 3 rfl)) (by rw [List.length_map])) (by omega)) (blkOk_by (N := n_L_weave) (sc := defScope s_L_weave) (by decide +kernel)) (by rw [List.length_map, List.length_range, rgD_len]) (by rw [rgD_len]; exact small_lt (by omega)) ?_ ?_) ?_ ?_ (sw_true rfl rfl rfl (by decide +kernel))
    · intro o ho d e
      obtain ⟨i, _, h2⟩ := List.mem_map.mp ho
      split at h2
      · rw [e] at h2
        cases h2
        rfl
      · rw [e] at h2
        cases h2
    · intro j d o hd ho
      obtain ⟨hj, rfl⟩ := rgD_at hd
      rw [Int.zero_add (j : Int)]
      rw [List.getElem?_map, List.getElem?_range hj] at ho
      obtain ⟨lt, hlt⟩ := hth j hj
      obtain ⟨plan, hplan⟩ : ∃ plan, ps[j]? = some plan := ⟨_, List.getElem?_eq_getElem hj⟩
      have g1 : x.s.th.getD j (.new 0) = lt := getD_get hlt
      have g2 : ps.getD j [] = plan := getD_get hplan
      have eo : (if (lt.e < plan.length ∧ ¬ j ∈ ss) then some (D.int (j : Nat)) else none) = o := by
        rw [← g1, ← g2]
        exact Option.some.inj ho
      have q1 : y.ths[j]? = some (thD lt.e (phS lt.ph) lt.seen lt.pick) := ht1 hlt
      by_cases q : lt.e < plan.length
      · by_cases q2 : j ∈ ss
        · rw [if_neg (fun z => z.2 q2)] at eo
          subst eo
          refine ⟨fun s' H' C cl fp => t_w (w_and (t_is (t_lt (u_dget hu (u_ixL (u_var 6 (by exact congrArg some (gP_hi (M := y.m) (k := 1) (o := .lst (owns y.ths.length)) rfl))) (u_var 11 rfl) (LM.thr q1)) u_str 0) (u_len Bt (u_ixT (u_var 3 rfl) (u_var 11 rfl) (ix_map (f := .tup) hplan)))) (decide_eq_true (by omega))) (w_and1 (t_notInL (u_var 11 rfl) (u_var 8 (by exact congrArg some (gP_lo hst))) (by rw [nat_any, decide_eq_true q2]; rfl) rfl nat_fl))), fun y hy => nomatch hy⟩
        · rw [if_pos ⟨q, q2⟩] at eo
          subst eo
          refine ⟨fun s' H' C cl fp => t_w (w_and (t_is (t_lt (u_dget hu (u_ixL (u_var 6 (by exact congrArg some (gP_hi (M := y.m) (k := 1) (o := .lst (owns y.ths.length)) rfl))) (u_var 11 rfl) (LM.thr q1)) u_str 0) (u_len Bt (u_ixT (u_var 3 rfl) (u_var 11 rfl) (ix_map (f := .tup) hplan)))) (decide_eq_true (by omega))) (w_and1 (t_notInL (u_var 11 rfl) (u_var 8 (by exact congrArg some (gP_lo hst))) (by rw [nat_any, decide_eq_false q2]; rfl) rfl nat_fl))), fun y hy s' H' C cl fp => ?_⟩
          cases hy
          exact u_var 11 rfl
      · rw [if_neg (fun z => q z.1)] at eo
        subst eo
        exact ⟨fun s' H' C cl fp => t_w (w_andF (t_is (t_lt (u_dget hu (u_ixL (u_var 6 (by exact congrArg some (gP_hi (M := y.m) (k := 1) (o := .lst (owns y.ths.length)) rfl))) (u_var 11 rfl) (LM.thr q1)) u_str 0) (u_len Bt (u_ixT (u_var 3 rfl) (u_var 11 rfl) (ix_map (f := .tup) hplan)))) (decide_eq_false (by omega)))), fun y hy => nomatch hy⟩
    · rw [keepD_nat]
      exact natDs_noL _
    · rw [keepD_nat]
      show BW _ _ _ (gWv wy t ps ws (.d (.int (0 + (ws.length : Int)))) (.d (.lst ((canL ps x.s ss).map natD))) c) _ _ _
      have cl := canL_len (ps := ps) (s := x.s) (ss := ss)
      obtain ⟨cs, hcs⟩ : ∃ cs, cs = canL ps x.s ss := ⟨_, rfl⟩
      rw [← hcs] at cl ⊢
      have sh0 : sh (.lst []) = true := (shN_lst (n := 0) shN_nil).sh (by decide)
      have shc : sh (.lst (cs.map natD)) = true := (shN_lst (n := 0) fun d hd => by
        obtain ⟨i, _, rfl⟩ := List.mem_map.mp hd
        exact shN_int).sh (by decide)
      cases hcc : cs with
      | nil =>
        rw [hcc] at shc
        refine bw_ifR (t_eqD (x := .lst []) (y := .lst []) hr sh0 sh0 (u_var 10 rfl) (u_lst ua_nil) rfl) ?_
        refine bw_retU (u_var 7 rfl) ⟨_, rfl, ?_, ws, rfl, by omega, O⟩ (wD_noL ws)
        rw [hy]
        exact wm_rowAt lT hrw
      | cons c0 cr =>
        rw [← hcc]
        refine bw_ifF (t_eqD (x := .lst (cs.map natD)) (y := .lst []) hr shc sh0 (u_var 10 rfl) (u_lst ua_nil) (by rw [hcc]; rfl)) ?_
        refine bw_set 11 sc_L_weave.nd (P := fun g M' => ∃ u ∈ cs, ∃ rw', IsRow K rw' ∧ g = .d (.int (u : Nat)) ∧ M' = (x.s.lm (rw' :: .lst (ss.map natD) :: gar) []).m) (eg_call (cal_L_pick S) hr (ag_c (eg_var 0 rfl) (ag_c (eg_var 10 rfl) ag_nil)) ?_) ?_
        · rintro gs M1 ⟨rfl, rfl⟩
          rw [hy]
          refine ⟨_, ⟨_, _, rfl, wm_rowAt lT hrw, by rw [hcc]; simp, by rw [List.length_map]; omega, rfl, rfl⟩, ?_⟩
          rintro d M2 ⟨hd, ht⟩
          obtain ⟨u, hu1, rfl⟩ := List.mem_map.mp hd
          obtain ⟨rw', h1, h2⟩ := wm_row lT ht
          exact ⟨u, hu1, rw', h1, rfl, h2⟩
        · rintro g M1 ⟨u, hu1, rw', hrw', rfl, rfl⟩
          have can : Can ps x u := canL_can lT (hcs ▸ hu1)
          have canW : Can ps (atX wy t ps ws).a u := hx ▸ can
          have hw4 : ws.length < 400 := by omega
          have O2 := O.snoc hw4 canW
          have Si := O.simE hw4 canW
          rw [← hx] at Si
          obtain ⟨lt, plan, cc, s1, lt', ev, cnt, k1, k2, k3, k4, k5, k6, k7, k8, k9⟩ := Si.l.ex
          have lT2 : (atX wy t ps (ws ++ [u])).a.s.th.length = ps.length := O2.jnE.rel.n
          show BW _ _ _ (gWv wy t ps ws (.d (.int (0 + (ws.length : Int)))) (.d (.lst (cs.map natD))) (.d (.int u))) _ _ _
          refine bw_callS (cal_L_step S) hr (ag_c (eg_var 1 rfl) (ag_c (eg_var 2 rfl) (ag_c (eg_var 3 rfl) (ag_c (eg_var 5 rfl) (ag_c (eg_var 6 rfl) (ag_c (eg_var 11 rfl) (ag_c (eg_newL (ul_lst ua_nil) (.inl rfl)) ag_nil))))))) ?_ (gWv_ok (nlo _) (nlo _) (nlo _))
          rintro gs M1 ⟨rfl, rfl⟩
          obtain ⟨rs, hrs⟩ : ∃ rs, rs = rw' :: .lst (ss.map natD) :: gar := ⟨_, rfl⟩
          rw [← hrs]
          have hlen : (x.s.th.map LT.d).length = ps.length := by rw [List.length_map, lT]
          refine ⟨_, ⟨wy, t, ps, x.s, rs ++ [.lst []], [], u, rs.length, [], lt, plan, cc, s1, lt', ev, ?_, wm_snoc, hlen.symm, Si.l.ok, wm_ok, k1, k2, k3, k4, k5, get_last, Nat.zero_le _, rfl⟩, ?_⟩
          · rw [wm_len lT]
            show [_, _, _, _, _, _, GW.lo (rs.length + ps.length + 4)] = [_, _, _, _, _, _, GW.lo (rs.length + (x.s.th.map LT.d).length + 4)]
            rw [hlen]
          · rintro d M2 ⟨rfl, rfl⟩
            have eM : (({ s1 with th := s1.th.set u lt' } : LS).lm ((rs ++ [D.lst []]).set rs.length (D.lst ([] ++ ev.map evD))) []).m = ((atX wy t ps (ws ++ [u])).a.s.lm (rw' :: .lst (ss.map natD) :: (gar ++ [.lst (ev.map evD)])) []).m := by
              rw [k9, hrs]
              show _ = (({ s1 with th := s1.th.set u lt' } : LS).lm _ []).m
              congr 1
              simp
            rw [eM]
            obtain ⟨z, hz⟩ : ∃ z, z = (atX wy t ps (ws ++ [u])).a := ⟨_, rfl⟩
            obtain ⟨gar2, hg2⟩ : ∃ gar2, gar2 = gar ++ [D.lst (ev.map evD)] := ⟨_, rfl⟩
            rw [← hz] at lT2 ⊢
            rw [← hg2]
            refine bw_setU 7 sc_L_weave.nd (d := wD (ws ++ [u])) (u_is (u_cat (ds := ws.map fun (n : Nat) => D.int (n : Int)) (zs := [.int u]) (by simp; exact small_le' (by omega)) (u_var 7 rfl) (u_tup (ua_cons (u_var 11 rfl) ua_nil))) (by unfold wD; simp)) ?_ (wD_noL _)
            show BW _ _ _ (gWv wy t ps (ws ++ [u]) (.d (.int (0 + (ws.length : Int)))) (.d (.lst (cs.map natD))) (.d (.int u))) _ _ _
            refine bw_ifG (N1 := fun Γ' M' => Γ' = gWv wy t ps (ws ++ [u]) (.d (.int (0 + (ws.length : Int)))) (.d (.lst (cs.map natD))) (.d (.int u)) ∧ ∃ (rw' : D) (ss' : List Nat), IsRow K rw' ∧ ss'.length ≤ ws.length + 1 ∧ M' = (z.s.lm (rw' :: .lst (ss'.map natD) :: gar2) []).m) (Q := fun _ M' => ∃ rw', IsRow K rw' ∧ M' = (z.s.lm (rw' :: .lst (ss.map natD) :: gar2) []).m)
              (tg_and2 (R1 := fun _ M' => ∃ rw', IsRow K rw' ∧ M' = (z.s.lm (rw' :: .lst (ss.map natD) :: gar2) []).m) (tg_eqI (P1 := fun g M' => ∃ i : Nat, g = .d (.int i) ∧ ∃ rw', IsRow K rw' ∧ M' = (z.s.lm (rw' :: .lst (ss.map natD) :: gar2) []).m) (eg_taken (many := 12) 0 (cal_L_taken S) (hr.mono (by decide)) rfl (wm_rowAt lT2 hrw') u_int (by omega) ?_) ?_) ?_ ?_) ?_ ?_ ?_
            · intro i M' _ ht
              obtain ⟨rw2, h1, h2⟩ := wm_row lT2 ht
              exact ⟨i, rfl, rw2, h1, h2⟩
            · rintro g M' ⟨i, rfl, h⟩
              exact ⟨i, rfl, h⟩
            · rintro M1 ⟨rw2, h1, rfl⟩
              intro σ H0 A0 m0 e0 Q q
              exact tg_T (t_gt (u_lenL Bt (u_var 10 rfl)) u_int) σ H0 A0 m0 e0 Q fun b H' A' M' ⟨_, hM'⟩ => q b H' A' M' ⟨rw2, h1, hM'⟩
            · rintro M1 h
              exact h
            · rintro M1 ⟨rw2, h1, rfl⟩
              refine bw_append (k := 1 + ps.length + 4) (eg_var 8 rfl) (eg_U (u_var 11 rfl)) ?_ ⟨_, wm_get lT2 rfl⟩
              rintro g M2 ⟨rfl, rfl⟩
              refine ⟨_, _, rfl, wm_get lT2 rfl, by rw [List.length_map]; omega, bw_nil ⟨rfl, rw2, ss ++ [u], h1, by simp; omega, ?_⟩⟩
              rw [wm_set lT2, List.map_append]
              rfl
            · rintro M1 ⟨rw2, h1, rfl⟩
              exact bw_nil ⟨rfl, rw2, ss, h1, by omega, rfl⟩
            · rintro Γ' M1 ⟨rfl, rw2, ss', h1, h2, rfl⟩
              refine bw_nil ⟨rfl, ws ++ [u], _, _, _, by simp, O2, nlo _, nlo _, nlo _, rfl, rw2, ss', gar2, h1, by simp; omega, by rw [hz]⟩
  · rintro ds Γ' M' ⟨rfl, ws, a, b, c, hl, O, ha, hb, hc, rfl, hM'⟩
    rw [rgD_len] at hl
    exact bw_retU (u_var 7 rfl) ⟨_, rfl, hM'.row O, ws, rfl, by omega, O⟩ (wD_noL ws)
end
end P6
namespace P6
open PySem PySem.Spec PyProof.Rows L2 H6
def rWeave (K : PySem.W.Frag) (gs : List GW) (M : Mem) (Pq : D → Mem → Prop) (n : Nat) : Prop := ∃ wy t ps, gs = [.lo 0, .d (.str (wayS wy)), .d (Thing.d t), .d (plansD ps), .d (.int ((50 : Nat) : Int))] ∧ (∃ row, M = ⟨[row], []⟩) ∧ RowAt K 0 M ∧ t.ok ∧ PlansOk t ps ∧ n = 0 ∧ Pq = fun d M' => RowTo K 0 M M' ∧ ∃ ws, d = wD ws ∧ ws.length ≤ 50 ∧ Okw wy t ps ws
theorem EnvW.dat {F F1 : Hp} {A A1 : Ad} (e : Same F F1) : ∀ {Γ : List GW} {σ : L2.St}, (∀ g ∈ Γ, (∀ k, g ≠ .lo k) ∧ ∀ k, g ≠ .hi k) → EnvW F A Γ σ → EnvW F1 A1 Γ σ
  | [], _, _, h => h
  | g :: Γ, _, q, ⟨o, σ', h1, h2, h3⟩ => by
    refine ⟨o, σ', h1, ?_, EnvW.dat e (fun g h => q g (List.mem_cons_of_mem _ h)) h3⟩
    have q0 := q g List.mem_cons_self
    cases g with
    | un => exact True.intro
    | d d =>
      obtain ⟨v, k1, k2⟩ := h2
      exact ⟨v, k1, k2.mono e⟩
    | lo k => exact absurd rfl (q0.1 k)
    | hi k => exact absurd rfl (q0.2 k)
section
variable {P : Program} {w : World} {K : PySem.W.Frag} {mg : Str → Option Value} {base : Heap}
theorem cal_L_weave (S : Ctx K mg) : Cal P w K mg base "_law_weave" p_L_weave 3 (spW (rWeave K)) := by
  obtain ⟨fd, F⟩ := F_L_weave S
  have Bt := bs_of S
  refine ⟨_, fd, F.ok sc_L_weave (fun vs H Q E hs => ?_) (fun cdv A outer s0 H vs Q E hr hs => ?_), g_L_weave S, F.kp, bd_L_weave F⟩
  · obtain ⟨gs, M, Pq, n, A, ⟨wy, t, ps, rfl, _⟩, _, h3, _⟩ := hs
    rw [envW_vlen h3]
    rfl
  · obtain ⟨gs, M, Pq, n, A', ⟨wy, t, ps, rfl, ⟨row, rfl⟩, hrow, ok, po, rfl, rfl⟩, h2, h3, h4⟩ := hs
    have e0 : EnvW (delA A'.all H) A' ([.lo 0, .d (.str (wayS wy)), .d t.d, .d (plansD ps), .d (.int ((50 : Nat) : Int))] ++ List.replicate 7 .un) (start n_L_weave vs) := by
      unfold L2.start
      rw [envW_vlen h3]
      exact envW_start _ h3
    obtain ⟨r, hA⟩ : ∃ r, A' = ⟨[r], []⟩ := by
      have l1 := h2.l1
      have l2 := h2.l2
      obtain ⟨lo, hi⟩ := A'
      match lo, hi, l1, l2 with
      | [r], [], _, _ => exact ⟨r, rfl⟩
    have hn := po.1.2
    have hrw : IsRow K row := by
      obtain ⟨sc, i, z, r, h1, q⟩ := hrow
      cases h1
      exact ⟨sc, i, z, r, rfl, q⟩
    refine ⟨_, PSs.nox (ps_sem (st := (defBody s_L_weave).head! :: (defBody s_L_weave).tail)), ?_⟩
    refine fun pins s I => (pss_cons (ps_asg (pe_tup (pa_cons pe_sem (pa_cons pe_sem (pa_cons pe_sem pa_nil)))) (pg_tup rfl (pgs_cons (pg_tup rfl (pgs_cons (pg_name (i := 5) sc_L_weave.nd rfl (by first | exact .inl rfl | exact .inr rfl)) (pgs_cons (pg_name (i := 6) sc_L_weave.nd rfl (by first | exact .inl rfl | exact .inr rfl)) pgs_nil))) (pgs_cons (pg_name (i := 7) sc_L_weave.nd rfl (by first | exact .inl rfl | exact .inr rfl)) (pgs_cons (pg_name (i := 8) sc_L_weave.nd rfl (by first | exact .inl rfl | exact .inr rfl)) pgs_nil))))) (ps_sem (st := (defBody s_L_weave).tail))).run pins s _ H _ I ?_
    subst hA
    refine sem_fresh (Γ := [.lo 0, .d (.str (wayS wy)), .d t.d, .d (plansD ps), .d (.int ((50 : Nat) : Int))] ++ List.replicate 7 .un) (cal_L_fresh S) hr (ua_cons (u_var 2 rfl) (ua_cons (u_var 3 rfl) ua_nil)) hn rfl h2 e0 fun l H1 A1 a b m1 sF fr hl1 hl => ?_
    have hr1 : (A1.lo ++ [r])[0 + ps.length + 4]? = some r := by
      have e : 0 + ps.length + 4 = A1.lo.length := by omega
      rw [e]
      exact get_last
    have en1 : EnvW (delA (Ad.mk (A1.lo ++ [r]) [a, b]).all H1) ⟨A1.lo ++ [r], [a, b]⟩ ([.lo (0 + ps.length + 4), .d (.str (wayS wy)), .d t.d, .d (plansD ps), .d (.int ((50 : Nat) : Int))] ++ List.replicate 7 .un) (start n_L_weave vs) := by
      obtain ⟨o, σ', h1, ⟨a0, k1, k2⟩, eR⟩ := e0
      have k1 : [r][0]? = some a0 := k1
      cases k1
      refine ⟨o, σ', h1, ⟨_, hr1, k2⟩, EnvW.dat sF (fun g hg => ?_) eR⟩
      have hg : g ∈ ([.d (.str (wayS wy)), .d t.d, .d (plansD ps), .d (.int ((50 : Nat) : Int))] ++ List.replicate 7 .un : List GW) := hg
      rcases List.mem_append.mp hg with hg | hg
      · simp only [List.mem_cons, List.not_mem_nil, or_false] at hg
        rcases hg with rfl | rfl | rfl | rfl <;> exact ⟨fun k z => (nomatch z), fun k z => (nomatch z)⟩
      · have := List.eq_of_mem_replicate hg
        subst this
        exact ⟨fun k z => (nomatch z), fun k z => (nomatch z)⟩
    refine U.sem (u_tup ua_nil) _ H1 (m1.env en1) _ fun v2 H2 e2 r2 => ?_
    have m2 := m1.same e2
    refine UL.sem (ul_lst ua_nil) (m2.env (en1.same e2)) fun ev H3 e3 nev la => ?_
    obtain ⟨m3, f3⟩ := hm_newL m2 e3 nev la (.inl rfl)
    have en3 := f3.env gok0 (en1.same e2)
    refine ⟨by show 3 ≤ sizeLine; rw [sizeLine_eq]; decide, fun q0 hq0 => ?_⟩
    have s4 : Same H3 (upd H3 q0 (.tup [.ref l, v2, .ref ev])) := Same.new hq0
    have hl4 := s4 _ _ (e3 _ _ (e2 _ _ hl))
    refine ⟨q0, _, rfl, SqT.of upd_same, rfl, .ref l, _, rfl, ⟨l, _, rfl, SqT.of hl4, rfl, .ref a, _, rfl, .ref b, _, rfl, rfl, v2, _, rfl, .ref ev, _, rfl, rfl, ?_⟩⟩
    have m4 := m3.same s4
    have fF := ((Fr.grow (n := 0) (A := ⟨A1.lo ++ [r], [a, b]⟩) e2).trans f3).trans (Fr.grow s4)
    have hr4 : ((A1.lo ++ [r]) ++ [ev])[0 + ps.length + 4]? = some r := get_app hr1
    have hev : ((A1.lo ++ [r]) ++ [ev])[1 + ps.length + 4]? = some ev := by
      have e : 1 + ps.length + 4 = (A1.lo ++ [r]).length := by simp; omega
      rw [e]
      exact get_last
    have eM : (⟨(((LS.first t ps.length).lm [] []).m.lo ++ [row]) ++ [.lst []], ((LS.first t ps.length).lm [] []).m.hi⟩ : Mem) = ((atX wy t ps []).a.s.lm (row :: .lst (([] : List Nat).map natD) :: []) []).m := by
      show (⟨((_ :: _ :: _ :: _ :: ((LS.first t ps.length).th.map LT.d ++ [])) ++ [row]) ++ [.lst []], _⟩ : Mem) = ⟨_ :: _ :: _ :: _ :: ((LS.first t ps.length).th.map LT.d ++ [row, .lst []]), _⟩
      simp only [List.append_nil, List.cons_append, List.append_assoc, List.nil_append]
      rfl
    have m5 : HM _ ((atX wy t ps []).a.s.lm (row :: .lst (([] : List Nat).map natD) :: []) []).m _ := eM ▸ m4
    have vv : Rep (delA (Ad.mk ((A1.lo ++ [r]) ++ [ev]) [a, b]).all (upd H3 q0 (.tup [.ref l, v2, .ref ev]))) (wD []) v2 := m5.rep (wD_noL []) ((r2.mono e3).mono s4)
    have g4 := EnvW.set (g := .lo (1 + ps.length + 4)) (o := some (.ref ev)) ⟨ev, hev, rfl⟩ 8 (EnvW.set (g := .d (wD [])) (o := some v2) ⟨v2, rfl, vv⟩ 7 (EnvW.set (F := delA (Ad.mk ((A1.lo ++ [r]) ++ [ev]) [a, b]).all (upd H3 q0 (.tup [.ref l, v2, .ref ev]))) (A := ⟨(A1.lo ++ [r]) ++ [ev], [a, b]⟩) (g := .hi 1) (o := some (.ref b)) ⟨b, rfl, rfl⟩ 6 (EnvW.set (g := .hi 0) (o := some (.ref a)) ⟨a, rfl, rfl⟩ 5 (en3.same s4))))
    refine weave_loop S hr ok po ⟨row, [], [], hrw, Nat.zero_le _, rfl⟩ _ _ _ _ m5 g4 ⟨fun d v H' A2 M' hR f' m' r' => ?_, fun d v H' A2 hR => ?_, fun Γ' M' σ' H' A2 p => p.elim⟩
    · obtain ⟨M2, z, hrow', ws, hd, hl, hO⟩ := hR
      cases z
      have hr2 := f'.lo _ _ hr4 (by omega)
      have fr1 := fr_pick (A := ⟨[r], []⟩) rfl (sF.trans fF.s) f' m' hr2
      obtain ⟨sc, i, z, rr, h1, q⟩ := hrow'
      obtain ⟨mp, sp⟩ := hm_pick m' hr2 h1
      exact h4 v H' ⟨[r], []⟩ d ⟨[rowL K sc i z rr], []⟩ ⟨⟨sc, i, z, rr, rfl, q⟩, ws, hd, hl, hO⟩ fr1 mp (r'.mono sp)
    · obtain ⟨M2, z, _⟩ := hR
      cases z
end
end P6
namespace P6
open PySem PySem.Spec PyProof.Rows L2 H6
section
variable {wy : Way} {t : Thing} {ps : List (List D)} {ws : List Nat} {u : Nat}
/-- the law's thread u behind a weaving -/
noncomputable def thX (wy : Way) (t : Thing) (ps : List (List D)) (ws : List Nat) (u : Nat) : LT := (atX wy t ps ws).a.s.th.getD u (.new 0)
theorem Okw.thx (O : Okw wy t ps ws) (hu : u < ps.length) : (atX wy t ps ws).a.s.th[u]? = some (thX wy t ps ws u) := by
  have h := List.getElem?_eq_getElem (l := (atX wy t ps ws).a.s.th) (i := u) (by rw [O.jnE.rel.n]; exact hu)
  unfold thX
  rw [getD_get h]
  exact h
theorem Okw.cax (O : Okw wy t ps ws) (hu : u < ps.length) : (atX wy t ps ws).sp.cs[u]? = some (caOf (atX wy t ps ws).sp u) := caOf_get hu O.jnE.rel.c
theorem Okw.thr (O : Okw wy t ps ws) (hu : u < ps.length) : ThR t (atX wy t ps ws).a.s u (ps.getD u []) wy (thX wy t ps ws u) (caOf (atX wy t ps ws).sp u) := by
  have h := List.getElem?_eq_getElem (l := ps) (i := u) hu
  exact O.jnE.rel.th u _ _ _ (O.thx hu) (O.cax hu) (by rw [getD_get h]; exact h)
theorem Okw.canU (O : Okw wy t ps ws) (hu : u < ps.length) (he : (thX wy t ps ws u).e < (ps.getD u []).length) : Can ps (atX wy t ps ws).a u := by
  have h := List.getElem?_eq_getElem (l := ps) (i := u) hu
  exact ⟨_, _, O.thx hu, h, by rw [← getD_get (d := []) h]; exact he⟩
/-- one step of u more -/
theorem Okw.more (O : Okw wy t ps ws) (hl : ws.length < 400) (hu : u < ps.length) (he : (thX wy t ps ws u).e < (ps.getD u []).length) :
    Okw wy t ps (ws ++ [u]) ∧ (∃ c s1 ev, LX t c u wy (atX wy t ps ws).a.s (thX wy t ps ws u) s1 (thX wy t ps (ws ++ [u]) u) ev ∧ (atX wy t ps (ws ++ [u])).a.s.ct = s1.ct ∧ (atX wy t ps (ws ++ [u])).a.s.lk = s1.lk ∧ (atX wy t ps (ws ++ [u])).a.s.st = s1.st) ∧ ∃ ev, StepP wy t ps (atX wy t ps ws).sp u (atX wy t ps (ws ++ [u])).sp ev := by
  have c := O.canU hu he
  have S := O.simE hl c
  have O2 := O.snoc hl c
  refine ⟨O2, ?_, _, S.p⟩
  obtain ⟨lt, plan, cc, s1, lt', ev, cnt, k1, k2, k3, k4, k5, k6, k7, k8, k9⟩ := S.l.ex
  rw [O.thx hu] at k1
  cases k1
  have hul : u < s1.th.length := by
    rw [k5.th, O.jnE.rel.n]
    exact hu
  have e : thX wy t ps (ws ++ [u]) u = lt' := by
    unfold thX
    rw [k9]
    exact getD_get (List.getElem?_set_self hul)
  rw [e, k9]
  exact ⟨cc, s1, ev, k5, rfl, rfl, rfl⟩
theorem rep_snoc {k : Nat} : ws ++ List.replicate (k + 1) u = (ws ++ List.replicate k u) ++ [u] := by
  rw [List.replicate_succ', List.append_assoc]
/-- a thread that goes on alone and ends in m steps -/
theorem alone_run (O : Okw wy t ps ws) (hu : u < ps.length) {m : Nat} (hl : ws.length + m ≤ 400) (he : (thX wy t ps ws u).e < (ps.getD u []).length) (hf : Lf wy (atX wy t ps ws).a.s m (thX wy t ps ws u)) :
    ∀ k, k ≤ m → Okw wy t ps (ws ++ List.replicate k u) ∧ (k < m → (thX wy t ps (ws ++ List.replicate k u) u).e = (thX wy t ps ws u).e ∧ Lf wy (atX wy t ps (ws ++ List.replicate k u)).a.s (m - k) (thX wy t ps (ws ++ List.replicate k u) u)) ∧ (k = m → (thX wy t ps (ws ++ List.replicate k u) u).e = (thX wy t ps ws u).e + 1 ∨ m = 0)
  | 0, _ => by
    rw [List.replicate_zero, List.append_nil]
    exact ⟨O, fun _ => ⟨rfl, hf⟩, fun h => .inr h.symm⟩
  | k + 1, hk => by
    obtain ⟨O1, h1, _⟩ := alone_run O hu hl he hf k (by omega)
    obtain ⟨e1, f1⟩ := h1 (by omega)
    obtain ⟨O2, ⟨c, s1, ev, lx, q1, q2, _⟩, _⟩ := O1.more (u := u) (by simp; omega) hu (by rw [e1]; exact he)
    rw [rep_snoc]
    have hm : m - k = (m - (k + 1)) + 1 := by omega
    rw [hm] at f1
    refine ⟨O2, fun hlt => ?_, fun heq => .inl ?_⟩
    · rcases f1.step lx q1 q2 with ⟨z, _⟩ | ⟨z1, z2, _⟩
      · omega
      · exact ⟨by omega, z2⟩
    · rcases f1.step lx q1 q2 with ⟨_, z⟩ | ⟨_, z2, _⟩
      · omega
      · have : m - (k + 1) = 0 := by omega
        rw [this] at z2
        cases z2
/-- a thread that waits -/
theorem alone_wait (O : Okw .lo t ps ws) (hu : u < ps.length) (hl : ws.length ≤ 390) {v : Nat} (hp : (thX .lo t ps ws u).ph = .tak) (hv : (atX .lo t ps ws).a.s.lk = some v) :
    ∀ k, k ≤ 8 → Okw .lo t ps (ws ++ List.replicate k u) ∧ (thX .lo t ps (ws ++ List.replicate k u) u).e = (thX .lo t ps ws u).e ∧ (thX .lo t ps (ws ++ List.replicate k u) u).ph = .tak ∧ (atX .lo t ps (ws ++ List.replicate k u)).a.s.lk = some v ∧ (atX .lo t ps (ws ++ List.replicate k u)).a.s.st = (atX .lo t ps ws).a.s.st
  | 0, _ => by
    rw [List.replicate_zero, List.append_nil]
    exact ⟨O, rfl, hp, hv, rfl⟩
  | k + 1, hk => by
    obtain ⟨O1, h1, h2, h3, h4⟩ := alone_wait O hu hl hp hv k (by omega)
    have he := (O1.thr hu).phn.2.2 (by rw [h2]; nofun)
    obtain ⟨O2, ⟨c, s1, ev, lx, q1, q2, q3⟩, _⟩ := O1.more (u := u) (by simp; omega) hu he
    rw [rep_snoc]
    obtain ⟨l0, hl0⟩ : ∃ l, l = thX .lo t ps (ws ++ List.replicate k u) u := ⟨_, rfl⟩
    obtain ⟨l1, hl1⟩ : ∃ l, l = thX .lo t ps ((ws ++ List.replicate k u) ++ [u]) u := ⟨_, rfl⟩
    obtain ⟨sx, hsx⟩ : ∃ s, s = (atX .lo t ps (ws ++ List.replicate k u)).a.s := ⟨_, rfl⟩
    rw [← hl0, ← hl1, ← hsx] at lx
    rw [← hl0] at h1 h2
    rw [← hsx] at h3 h4
    rw [← hl1]
    have : l1.e = l0.e ∧ l1.ph = .tak ∧ s1.lk = some v ∧ s1.st = sx.st := by
      cases lx with
      | lWait h => exact ⟨rfl, rfl, h3, rfl⟩
      | lTake h => rw [h3] at h; cases h
      | lBeg h => cases h2
      | lBegN h => cases h2
      | lRead h => cases h2
      | lWrite h => cases h2
      | lGive => cases h2
    obtain ⟨z1, z2, z3, z4⟩ := this
    exact ⟨O2, by omega, z2, by rw [q2]; exact z3, by rw [q3, z4]; exact h4⟩
/-- both sides tell the same -/
theorem alone_same (O : Okw wy t ps ws) (hl : ws.length ≤ 390) (hu : u < ps.length) : ∃ d, AL 0 d ∧ rAlone (argsD wy t ps ws ++ [.int (u : Nat)]) d ∧ rLAlone (argsD wy t ps ws ++ [.int (u : Nat)]) d := by
  have T := O.thr hu
  have hc := O.jnE.rel.c
  by_cases hb : (thX wy t ps ws u).ph = .beg
  · refine ⟨.int 0, .int, ⟨wy, t, ps, ws, _, _, _, u, rfl, O.runOk, trW_end, hu, hc, .inl ⟨T.wri.2.2.mpr hb, rfl⟩⟩, ⟨wy, t, ps, ws, u, _, _, rfl, O.runF, hl, O.thx hu, .inl ⟨hb, rfl⟩⟩⟩
  · have hb0 : (caOf (atX wy t ps ws).sp u).ph ≠ 0 := fun z => hb (T.wri.2.2.mp z)
    have he := T.phn.2.2 hb
    have ee := (T.noL O.jnE.rel.st).2.2.1
    rcases T.left hb with ⟨m, h1, h4, hf⟩ | ⟨rfl, hp, v, hv⟩
    · have R := alone_run O hu (m := m) (by omega) he hf
      have ceq : ∀ k, k ≤ m → (caOf (atX wy t ps (ws ++ List.replicate k u)).sp u).e = (thX wy t ps (ws ++ List.replicate k u) u).e := fun k hk => (((R k hk).1.thr hu).noL (R k hk).1.jnE.rel.st).2.2.1.symm
      refine ⟨.int m, .int, ⟨wy, t, ps, ws, _, _, _, u, rfl, O.runOk, trW_end, hu, hc, .inr ⟨hb0, .mk m (fun k => (atX wy t ps (ws ++ List.replicate k u)).sp) (by simp) (fun k hk => ?_) (fun k hk => ?_) (.inl ⟨?_, rfl⟩)⟩⟩,
        ⟨wy, t, ps, ws, u, _, _, rfl, O.runF, hl, O.thx hu, .inr ⟨hb, m, fun i => (atX wy t ps (ws ++ List.replicate (i + 1) u)).a, fun i => thX wy t ps (ws ++ List.replicate (i + 1) u) u, by omega, fun i hi => ?_, fun i hi => ?_, .inl ⟨h1, ?_, rfl⟩⟩⟩⟩
      · exact ⟨(R k hk).1.jnE.rel.c, (R k hk).1.jnE.rel.sh⟩
      · obtain ⟨O1, r2, _⟩ := R k (by omega)
        obtain ⟨e1, f1⟩ := r2 hk
        have O2 := (R (k + 1) (by omega)).1
        obtain ⟨_, ⟨c, s1, ev, lx, q1, q2, _⟩, hst⟩ := O1.more (u := u) (by simp; omega) hu (by rw [e1]; exact he)
        have T1 := O1.thr hu
        have T2 := O2.thr hu
        have c1 := ceq k (by omega)
        have c2 := ceq (k + 1) (by omega)
        refine ⟨by rw [c1, e1, ee], by rw [rep_snoc]; exact hst, eqD_sp_no (O1.cax hu) (O2.cax hu) ?_⟩
        have hm : m - k = (m - (k + 1)) + 1 := by omega
        rw [hm] at f1
        rw [c1, c2, T1.phn.1, T2.phn.1]
        rw [rep_snoc]
        rcases f1.step lx q1 q2 with ⟨_, z⟩ | ⟨_, _, z⟩
        · exact .inl (by omega)
        · exact .inr z
      · show (caOf (atX wy t ps (ws ++ List.replicate m u)).sp u).e ≠ _
        have := (R m (Nat.le_refl _)).2.2 rfl
        rw [ceq m (Nat.le_refl _)]
        omega
      · exact ⟨(R (i + 1) (by omega)).1.runF, (R (i + 1) (by omega)).1.thx hu⟩
      · have := ((R (i + 1) (by omega)).2.1 hi).1
        exact Nat.le_of_eq this
      · have := (R m (Nat.le_refl _)).2.2 rfl
        show _ < (thX wy t ps (ws ++ List.replicate (m - 1 + 1) u) u).e
        rw [show m - 1 + 1 = m by omega]
        omega
    · have R := alone_wait O hu hl hp hv
      have e0 : ws ++ List.replicate 0 u = ws := by simp
      refine ⟨.non, .non, ⟨.lo, t, ps, ws, _, _, _, u, rfl, O.runOk, trW_end, hu, hc, .inr ⟨hb0, .mk 0 (fun _ => (atX .lo t ps ws).sp) rfl (fun k _ => ⟨hc, O.jnE.rel.sh⟩) (fun k hk => absurd hk (Nat.not_lt_zero _)) (.inr ⟨rfl, rfl, ?_⟩)⟩⟩,
        ⟨.lo, t, ps, ws, u, _, _, rfl, O.runF, hl, O.thx hu, .inr ⟨hb, 8, fun i => (atX .lo t ps (ws ++ List.replicate (i + 1) u)).a, fun i => thX .lo t ps (ws ++ List.replicate (i + 1) u) u, Nat.le_refl _, fun i hi => ⟨(R (i + 1) (by omega)).1.runF, (R (i + 1) (by omega)).1.thx hu⟩, fun i hi => Nat.le_of_eq (R (i + 1) (by omega)).2.1, .inr ⟨rfl, Nat.le_of_eq (R 8 (Nat.le_refl _)).2.1, rfl⟩⟩⟩⟩
      obtain ⟨O1, r1, r2, r3, r4⟩ := R 1 (by decide)
      obtain ⟨_, _, ev, hst⟩ := O.more (u := u) (by omega) hu he
      have T1 := O1.thr hu
      refine ⟨(atX .lo t ps (ws ++ [u])).sp, ev, hst, O1.jnE.rel.sh, ?_⟩
      obtain ⟨ca, plan, call, ca', k1, k2, k3, k4, k5, k6, k7⟩ := hst.ex
      have hcs : (atX .lo t ps (ws ++ [u])).sp.cs[u]? = some ca' := by
        rw [k6]
        exact List.getElem?_set_self (by rw [hc]; exact hu)
      have g0 : caOf (atX .lo t ps ws).sp u = ca := getD_get k1
      have g1 : caOf (atX .lo t ps (ws ++ [u])).sp u = ca' := getD_get hcs
      have eca : ca' = ca := by
        rw [← g0, ← g1, T.phn.2.1 hp]
        have := T1.phn.2.1 r2
        rw [r1] at this
        exact this
      have ece : (atX .lo t ps (ws ++ [u])).sp.ce = (atX .lo t ps ws).sp.ce := by
        have a1 : (atX .lo t ps (ws ++ [u])).sp.ce = _ := O1.jnE.rel.ce
        rw [a1, O.jnE.rel.ce]
        show ceL _ _ = ceL _ _
        rw [hv]
        show ceL (atX .lo t ps (ws ++ List.replicate 1 u)).a.s.lk (atX .lo t ps (ws ++ List.replicate 1 u)).a.s.st = _
        rw [r3, r4]
      have esp : spD (atX .lo t ps (ws ++ [u])).sp = spD (atX .lo t ps ws).sp := by
        unfold spD
        rw [ece, k6, eca, set_self k1]
      rw [esp]
      exact eqD_refl O.jnE.rel.sh
end
end P6
namespace P6
open PySem PySem.Spec PyProof.Rows L2 H6
/-! ### all that is compared is flat enough -/
theorem al_tI {ns : List Int} {n : Nat} (h : ns.length ≤ 1000) : AL (n + 1) (tI ns) := .tup (fun d hd => by
  obtain ⟨i, _, rfl⟩ := List.mem_map.mp hd
  exact .int) (by rw [List.length_map]; exact h)
theorem al_nats {ns : List Nat} {n : Nat} (h : ns.length ≤ 1000) : AL (n + 1) (natsD ns) := .tup (fun d hd => by
  obtain ⟨i, _, rfl⟩ := List.mem_map.mp hd
  exact .int) (by rw [List.length_map]; exact h)
theorem al_call {t : Thing} {c : D} (h : CallOk t c) : AL 1 c := by
  have one : ∀ {w : Str}, AL 1 (c0 w) := fun {w} => .tup (fun d hd => by simp at hd; subst hd; exact .str) (by simp)
  have two : ∀ {w : Str} {k : Int}, AL 1 (c1 w k) := fun {w k} => .tup (fun d hd => by simp at hd; rcases hd with rfl | rfl <;> first | exact .str | exact .int) (by simp)
  have four : ∀ {w : Str} {a b k : Int}, AL 1 (c3 w a b k) := fun {w a b k} => .tup (fun d hd => by simp at hd; rcases hd with rfl | rfl | rfl | rfl <;> first | exact .str | exact .int) (by simp)
  cases h <;> first | exact one | exact two | exact four
theorem al_state {t : Thing} {s : D} (ok : t.ok) (h : StOk t s) : AL 1 s := by
  cases h with
  | @s r m ns h =>
    have ok : (1 ≤ r ∧ r ≤ 3) ∧ 1 ≤ m ∧ m ≤ 3 := ok
    exact al_tI (by omega)
  | @q r m ns h =>
    have ok : (1 ≤ r ∧ r ≤ 3) ∧ 1 ≤ m ∧ m ≤ 3 := ok
    exact al_tI (by omega)
  | @e m ns hp hb =>
    have ok : 2 ≤ m ∧ m ≤ 5 := ok
    have := inc_len hp (lo := 0) (m := m) hb (by omega)
    exact al_tI (by omega)
  | @b as ns h =>
    have ok : (2 ≤ as.length ∧ as.length ≤ 3) ∧ _ := ok
    exact al_tI (by omega)
  | a0 => exact .non
  | _ => exact .int
theorem al_sh0 {d : D} (h : shN 0 d) : AL 0 d := by
  obtain ⟨h1, h2⟩ := h
  cases d with
  | non => exact .non
  | bl => exact .bl
  | int => exact .int
  | str => exact .str
  | tup ds =>
    exfalso
    have h2 : PyData.depth (.tuple (pys ds)) ≤ 0 := h2
    simp [PyData.depth] at h2
  | lst ds =>
    exfalso
    have h2 : PyData.depth (.list (pys ds)) ≤ 0 := h2
    simp [PyData.depth] at h2
  | mac => exfalso; simp [py, PyData.canLay0] at h1
  | dic => exfalso; simp [py, PyData.canLay0] at h1
  | scr => exfalso; simp [py, PyData.canLay0] at h1
def EvOk (t : Thing) : Ev → Prop
  | .call _ c => CallOk t c
  | .ans _ a => AL 0 a
theorem al_ev {t : Thing} {e : Ev} (h : EvOk t e) : AL 2 (evD e) := by
  cases e with
  | call th c => exact .tup (fun d hd => by simp at hd; rcases hd with rfl | rfl | rfl; exact .str; exact .int; exact al_call h) (by simp)
  | ans th a => exact .tup (fun d hd => by simp at hd; rcases hd with rfl | rfl | rfl; exact .str; exact .int; exact AL.up h (by decide)) (by simp)
theorem StX.evok {wy : Way} {t : Thing} {c : D} {u : Nat} {s : LS} {plan : List D} {lt : LT} {ce ce' : D} {ca ca' : Ca} {ev : List Ev} (h : StX wy t c u ce ca ce' ca' ev) (hc : CallOk t c) (T : ThR t s u plan wy lt ca) : ∀ e ∈ ev, EvOk t e := by
  have one : ∀ {e0 : Ev}, EvOk t e0 → ∀ e ∈ [e0], EvOk t e := fun h e he => by
    simp at he
    subst he
    exact h
  have none : ∀ e ∈ ([] : List Ev), EvOk t e := fun e he => nomatch he
  cases h with
  | rBeg => exact one hc
  | rAgain => exact none
  | rMiss => exact none
  | rHit h1 h2 => exact one (al_sh0 h2.ans.1)
  | lBeg => exact one hc
  | lBegN => exact one hc
  | lTake => exact none
  | lWait => exact none
  | lRead => exact none
  | lWrite => exact none
  | lGive =>
    cases T with
    | loGiv _ _ h => exact one (al_sh0 h)
  | nBeg => exact one hc
  | nWrite h1 => exact one (al_sh0 h1.ans.1)
section
variable {wy : Way} {t : Thing} {ps : List (List D)} {ws : List Nat} {u : Nat}
theorem Okw.evok (O : Okw wy t ps ws) : ∀ k, k ≤ ws.length → ∀ e ∈ (atX wy t ps (ws.take k)).a.es, EvOk t e
  | 0, _ => by
    rw [List.take_zero]
    exact fun e he => nomatch he
  | k + 1, hk => by
    have hu := List.getElem?_eq_getElem (l := ws) (i := k) (by omega)
    have S := O.sim hu
    obtain ⟨_, J⟩ := O.jn k (by omega)
    rw [S.es]
    intro e he
    rcases List.mem_append.mp he with he | he
    · exact O.evok k (by omega) e he
    · obtain ⟨ca, plan, call, ca', k1, k2, k3, k4, k5, k6, k7⟩ := S.p.ex
      have hul : ws[k] < ps.length := (List.getElem?_eq_some_iff.mp k2).1
      have h1 := List.getElem?_eq_getElem (l := (atX wy t ps (ws.take k)).a.s.th) (i := ws[k]) (by rw [J.rel.n]; exact hul)
      exact k5.evok ((O.po.2 plan (List.mem_of_getElem? k2)).2 call (List.mem_of_getElem? k3)) (J.rel.th _ _ _ _ h1 k1 k2) e he
theorem Okw.alEs (O : Okw wy t ps ws) : AL 4 (evsD (atX wy t ps ws).a.es) := by
  have h := O.evok ws.length (Nat.le_refl _)
  rw [List.take_length] at h
  have := O.jnE.el
  have := O.l
  exact .tup (fun d hd => by
    obtain ⟨e, he, rfl⟩ := List.mem_map.mp hd
    exact (al_ev (h e he)).up (by decide)) (by rw [List.length_map]; omega)
theorem Okw.csle (O : Okw wy t ps ws) : ∀ c ∈ (atX wy t ps ws).a.cs, c.length ≤ 9 := fun c hc => by
  have J := O.jnE
  obtain ⟨u, hu⟩ := List.mem_iff_getElem?.mp hc
  have hul := (List.getElem?_eq_some_iff.mp hu).1
  rw [J.cl] at hul
  have h1 := List.getElem?_eq_getElem (l := (atX wy t ps ws).a.s.th) (i := u) (by rw [J.rel.n]; exact hul)
  have h2 := List.getElem?_eq_getElem (l := (atX wy t ps ws).sp.cs) (i := u) (by rw [J.rel.c]; exact hul)
  have h3 := List.getElem?_eq_getElem (l := ps) (i := u) hul
  obtain ⟨c', k1, k2, _⟩ := J.cs u _ h1
  rw [hu] at k1
  cases k1
  have := ((J.rel.th u _ _ _ h1 h2 h3).noL J.rel.st).2.2.2
  have := (O.po.2 _ (List.mem_of_getElem? h3)).1
  omega
theorem Okw.alCs (O : Okw wy t ps ws) : AL 4 (.tup ((atX wy t ps ws).a.cs.map natsD)) := .tup (fun d hd => by
  obtain ⟨c, hc, rfl⟩ := List.mem_map.mp hd
  have := O.csle c hc
  exact al_nats (by omega)) (by rw [List.length_map, O.jnE.cl]; have := O.po.1.2; omega)
theorem Okw.alSt (O : Okw wy t ps ws) : AL 4 (atX wy t ps ws).a.s.st := (al_state O.ok O.jnE.rel.st).up (by decide)
theorem Okw.alLeft (O : Okw wy t ps ws) : AL 4 (natsD (leftL ps (atX wy t ps ws).a.s)) := al_nats (by
  have := List.length_filter_le (fun i => decide (((atX wy t ps ws).a.s.th.getD i (.new 0)).e < (ps.getD i []).length)) (List.range ps.length)
  rw [List.length_range] at this
  have := O.po.1.2
  unfold leftL
  omega)
theorem Okw.alLg (O : Okw wy t ps ws) : AL 4 (.tup (logD (atX wy t ps ws).a.s.lg)) := .tup (fun d hd => by
  obtain ⟨c, hc, rfl⟩ := List.mem_map.mp hd
  exact al_tI (by simp)) (by unfold logD; rw [List.length_map]; have := O.jnE.lg; have := O.l; omega)
theorem Okw.runNl (O : Okw wy t ps ws) : noLs [evsD (atX wy t ps ws).a.es, .tup ((atX wy t ps ws).a.cs.map natsD), (atX wy t ps ws).a.s.st, .tup (logD (atX wy t ps ws).a.s.lg), natsD (leftL ps (atX wy t ps ws).a.s)] = true := by
  refine noLs_cons (noL_tup (noLs_iff.mpr fun d hd => ?_)) (noLs_cons (noL_tup (noLs_iff.mpr fun d hd => ?_)) (noLs_cons (stOk_noL O.jnE.rel.st) (noLs_cons (noL_tup (noLs_iff.mpr fun d hd => ?_)) (noLs_cons (noL_tup (natDs_noL _)) rfl))))
  · obtain ⟨e, he, rfl⟩ := List.mem_map.mp hd
    have h := O.evok ws.length (Nat.le_refl _)
    rw [List.take_length] at h
    have h := h e he
    cases e with
    | call th c => exact noL_tup (noLs_cons rfl (noLs_cons rfl (noLs_cons (CallOk.noL h) rfl)))
    | ans th a =>
      refine noL_tup (noLs_cons rfl (noLs_cons rfl (noLs_cons ?_ rfl)))
      have h : AL 0 a := h
      cases h <;> rfl
  · obtain ⟨c, hc, rfl⟩ := List.mem_map.mp hd
    exact noL_tup (natDs_noL _)
  · obtain ⟨c, hc, rfl⟩ := List.mem_map.mp hd
    exact noL_tI
theorem Okw.rRun (O : Okw wy t ps ws) : P6.rRun (argsD wy t ps ws) (runD ps (atX wy t ps ws).a) := by
  have e : (atX wy t ps (ws.take ws.length)).a = (atX wy t ps ws).a := by rw [List.take_length]
  have J := O.jnE
  have := J.el
  have := O.l
  exact ⟨wy, t, ps, ws, _, rfl, O.runL, by show (atX wy t ps (ws.take ws.length)).a.es.length ≤ 800; rw [e]; omega, by show noL (atX wy t ps (ws.take ws.length)).a.s.st = true; rw [e]; exact stOk_noL J.rel.st, by show _ = runD ps (atX wy t ps (ws.take ws.length)).a; rw [e]⟩
theorem Okw.rHist (O : Okw wy t ps ws) : rHistory (argsD wy t ps ws) (evsD (atX wy t ps ws).a.es) := ⟨wy, t, ps, ws, _, rfl, O.runOk, O.hist.2, by rw [O.hist.1]⟩
theorem Okw.rOwn (O : Okw wy t ps ws) : rOwnSteps (argsD wy t ps ws) (.tup ((atX wy t ps ws).a.cs.map natsD)) := ⟨wy, t, ps, ws, _, _, rfl, O.runOk, O.cnt, by
  show _ = stepsD (atX wy t ps (ws.take ws.length)).a.cs
  rw [List.take_length]
  rfl⟩
theorem Okw.rSt (O : Okw wy t ps ws) : rStateB (argsD wy t ps ws) (atX wy t ps ws).a.s.st := ⟨wy, t, ps, ws, _, _, _, rfl, O.runOk, trW_end, O.jnE.state⟩
theorem Okw.rGo (O : Okw wy t ps ws) : rGoingB (argsD wy t ps ws) (natsD (leftL ps (atX wy t ps ws).a.s)) := ⟨wy, t, ps, ws, _, _, _, rfl, O.runOk, trW_end, O.jnE.rel.c, by rw [O.jnE.going]⟩
theorem Okw.rApp (O : Okw wy t ps ws) : rApplied (argsD wy t ps ws) (.tup (logD (atX wy t ps ws).a.s.lg)) := ⟨wy, t, ps, ws, _, _, rfl, O.runOk, O.logs.1, by rw [O.logs.2]⟩
end
end P6
namespace P6
open PySem PySem.Spec PyProof.Rows L2 H6
/-! ### the weaving that starves a thread -/
section
variable {wy : Way} {t : Thing} {ps : List (List D)} {ws : List Nat} {u : Nat}
theorem Okw.full (O : Okw wy t ps ws) (hl : ws.length < 400) (hu : u < ps.length) (he : (thX wy t ps ws u).e < (ps.getD u []).length) :
    Okw wy t ps (ws ++ [u]) ∧ (∃ c s1 ev, LX t c u wy (atX wy t ps ws).a.s (thX wy t ps ws u) s1 (thX wy t ps (ws ++ [u]) u) ev ∧ (atX wy t ps (ws ++ [u])).a.s.ct = s1.ct) ∧ (∀ v, v ≠ u → thX wy t ps (ws ++ [u]) v = thX wy t ps ws v) ∧
      ∃ cnt, (atX wy t ps ws).a.cs[u]? = some cnt ∧ (atX wy t ps (ws ++ [u])).a.cs = (atX wy t ps ws).a.cs.set u (bump cnt (thX wy t ps ws u).e) := by
  have c := O.canU hu he
  have S := O.simE hl c
  have O2 := O.snoc hl c
  obtain ⟨lt, plan, cc, s1, lt', ev, cnt, k1, k2, k3, k4, k5, k6, k7, k8, k9⟩ := S.l.ex
  rw [O.thx hu] at k1
  cases k1
  have hul : u < s1.th.length := by
    rw [k5.th, O.jnE.rel.n]
    exact hu
  have e : thX wy t ps (ws ++ [u]) u = lt' := by
    unfold thX
    rw [k9]
    exact getD_get (List.getElem?_set_self hul)
  refine ⟨O2, ?_, fun v hv => ?_, cnt, k6, by rw [k9]⟩
  · rw [e, k9]
    exact ⟨cc, s1, ev, k5, rfl⟩
  · unfold thX
    rw [k9]
    show (s1.th.set u lt').getD v _ = _
    rw [List.getD_eq_getElem?_getD, List.getElem?_set_ne (Ne.symm hv), k5.th, ← List.getD_eq_getElem?_getD]
end
section
variable {t : Thing} {c : D} {u : Nat} {s s1 : LS} {lt lt' : LT} {ev : List Ev}
theorem re_beg (x : LX t c u .re s lt s1 lt' ev) (h : lt.ph = .beg ∨ lt.ph = .rea) : s1.ct = s.ct ∧ lt'.e = lt.e ∧ lt'.ph = .swa ∧ ∃ st dn hr, lt'.seen = seenOf s.ct st dn hr := by
  cases x with
  | rBeg => exact ⟨rfl, rfl, rfl, _, _, _, rfl⟩
  | rRead => exact ⟨rfl, rfl, rfl, _, _, _, rfl⟩
  | rMiss => rcases h with h | h <;> cases h
  | rHit => rcases h with h | h <;> cases h
theorem re_hit {st : D} {dn : List Nat} {hr : List D} (x : LX t c u .re s lt s1 lt' ev) (h : lt.ph = .swa) (q : lt.seen = seenOf s.ct st dn hr) : s1.ct = s.ct + 1 ∧ lt'.e = lt.e + 1 ∧ lt'.ph = .beg := by
  cases x with
  | rBeg => cases h
  | rRead => cases h
  | rMiss _ h2 => exact absurd (seen_inj q) h2
  | rHit => exact ⟨rfl, rfl, rfl⟩
theorem re_miss {n : Nat} {st : D} {dn : List Nat} {hr : List D} (x : LX t c u .re s lt s1 lt' ev) (h : lt.ph = .swa) (q : lt.seen = seenOf n st dn hr) (hn : n ≠ s.ct) : s1.ct = s.ct ∧ lt'.e = lt.e ∧ lt'.ph = .rea := by
  cases x with
  | rBeg => cases h
  | rRead => cases h
  | rMiss => exact ⟨rfl, rfl, rfl⟩
  | rHit => exact absurd (seen_inj q).symm hn
end
structure Sv (t : Thing) (ps : List (List D)) (j : Nat) (ws : List Nat) : Prop where
  O : Okw .re t ps ws
  l : ws.length = 1 + 4 * j
  e0 : (thX .re t ps ws 0).e = 0
  p0 : (thX .re t ps ws 0).ph = .swa
  s0 : ∃ st dn hr, (thX .re t ps ws 0).seen = seenOf (atX .re t ps ws).a.s.ct st dn hr
  e1 : (thX .re t ps ws 1).e = j
  p1 : (thX .re t ps ws 1).ph = .beg
  c : (atX .re t ps ws).a.cs[0]? = some [1 + 2 * j]
section
variable {t : Thing} {c o : D} {n : Nat}
def svP (c o : D) (n : Nat) : List (List D) := [[c], List.replicate n o]
theorem svP_ok (hc : CallOk t c) (ho : CallOk t o) (hn : n ≤ 8) : PlansOk t (svP c o n) := by
  refine ⟨⟨by show 1 ≤ 2; decide, by show 2 ≤ 4; decide⟩, fun p hp => ?_⟩
  have hp : p = [c] ∨ p = List.replicate n o := by simpa [svP] using hp
  rcases hp with rfl | rfl
  · exact ⟨by simp, fun x hx => by simp at hx; exact hx ▸ hc⟩
  · exact ⟨by simpa using hn, fun x hx => by rw [List.eq_of_mem_replicate hx]; exact ho⟩
theorem sv_zero (ok : t.ok) (hc : CallOk t c) (ho : CallOk t o) (hn : n ≤ 8) : Sv t (svP c o n) 0 [0] := by
  have O := Okw.nil (wy := .re) ok (svP_ok hc ho hn)
  obtain ⟨O1, ⟨cc, s1, ev, lx, ct⟩, oth, cnt, k1, k2⟩ := O.full (u := 0) (by simp) (by show 0 < 2; decide) (by show 0 < 1; decide)
  obtain ⟨r1, r2, r3, st, dn, hr, r4⟩ := re_beg lx (.inl rfl)
  have k1 : some ([] : List Nat) = some cnt := k1
  cases k1
  refine ⟨O1, rfl, r2, r3, ⟨st, dn, hr, ?_⟩, by rw [show ([0] : List Nat) = [] ++ [0] from rfl, oth 1 (by decide)]; rfl, by rw [show ([0] : List Nat) = [] ++ [0] from rfl, oth 1 (by decide)]; rfl, by rw [show ([0] : List Nat) = [] ++ [0] from rfl, k2]; rfl⟩
  have ct : (atX .re t (svP c o n) ([] ++ [0])).a.s.ct = s1.ct := ct
  show (thX .re t (svP c o n) ([] ++ [0]) 0).seen = seenOf (atX .re t (svP c o n) ([] ++ [0])).a.s.ct st dn hr
  rw [r4, ct, r1]
theorem sv_step {j : Nat} {ws : List Nat} (hn : n ≤ 8) (hj : j < n) (I : Sv t (svP c o n) j ws) : Sv t (svP c o n) (j + 1) (ws ++ [1, 1, 0, 0]) := by
  have l := I.l
  have p1len : ((svP c o n).getD 1 []).length = n := by simp [svP]
  have p0len : ((svP c o n).getD 0 []).length = 1 := by simp [svP]
  have i1 : (1 : Nat) < (svP c o n).length := by show 1 < 2; decide
  have i0 : (0 : Nat) < (svP c o n).length := by show 0 < 2; decide
  obtain ⟨st, dn, hr, hs0⟩ := I.s0
  -- 1: begins
  obtain ⟨O1, ⟨_, s1, _, lx, ct⟩, oth, cnt, k1, k2⟩ := I.O.full (u := 1) (by omega) i1 (by rw [p1len, I.e1]; exact hj)
  obtain ⟨r1, r2, r3, st1, dn1, hr1, r4⟩ := re_beg lx (.inl I.p1)
  have a1 := oth 0 (by decide)
  have c1 : (atX .re t (svP c o n) (ws ++ [1])).a.cs[0]? = some [1 + 2 * j] := by
    rw [k2, List.getElem?_set_ne (by decide)]
    exact I.c
  -- 1: swaps
  obtain ⟨O2, ⟨_, s2, _, lx2, ct2⟩, oth2, cnt2, k12, k22⟩ := O1.full (u := 1) (by simp; omega) i1 (by rw [p1len, r2, I.e1]; exact hj)
  obtain ⟨q1, q2, q3⟩ := re_hit lx2 r3 (by rw [r4, ct, r1])
  have a2 := oth2 0 (by decide)
  have c2 : (atX .re t (svP c o n) ((ws ++ [1]) ++ [1])).a.cs[0]? = some [1 + 2 * j] := by
    rw [k22, List.getElem?_set_ne (by decide)]
    exact c1
  -- 0: misses
  obtain ⟨O3, ⟨_, s3, _, lx3, ct3⟩, oth3, cnt3, k13, k23⟩ := O2.full (u := 0) (by simp; omega) i0 (by rw [p0len, a2, a1, I.e0]; decide)
  obtain ⟨v1, v2, v3⟩ := re_miss lx3 (by rw [a2, a1]; exact I.p0) (by rw [a2, a1]; exact hs0) (by rw [ct2, q1, ct, r1]; exact Nat.ne_of_lt (Nat.lt_succ_self _))
  have b3 := oth3 1 (by decide)
  have c3 : (atX .re t (svP c o n) (((ws ++ [1]) ++ [1]) ++ [0])).a.cs[0]? = some [2 + 2 * j] := by
    rw [c2] at k13
    cases k13
    rw [k23, List.getElem?_set_self (List.getElem?_eq_some_iff.mp c2).1, a2, a1, I.e0]
    show some [1 + 2 * j + 1] = _
    rw [show 1 + 2 * j + 1 = 2 + 2 * j by omega]
  -- 0: reads
  obtain ⟨O4, ⟨_, s4, _, lx4, ct4⟩, oth4, cnt4, k14, k24⟩ := O3.full (u := 0) (by simp; omega) i0 (by rw [p0len, v2, a2, a1, I.e0]; decide)
  obtain ⟨w1, w2, w3, st4, dn4, hr4, w4⟩ := re_beg lx4 (.inr v3)
  have b4 := oth4 1 (by decide)
  have c4 : (atX .re t (svP c o n) ((((ws ++ [1]) ++ [1]) ++ [0]) ++ [0])).a.cs[0]? = some [3 + 2 * j] := by
    rw [c3] at k14
    cases k14
    rw [k24, List.getElem?_set_self (List.getElem?_eq_some_iff.mp c3).1, v2, a2, a1, I.e0]
    show some [2 + 2 * j + 1] = _
    rw [show 2 + 2 * j + 1 = 3 + 2 * j by omega]
  have ew : ws ++ [1, 1, 0, 0] = (((ws ++ [1]) ++ [1]) ++ [0]) ++ [0] := by simp
  rw [ew]
  refine ⟨O4, by simp; omega, by rw [w2, v2, a2, a1, I.e0], w3, ⟨st4, dn4, hr4, by rw [w4, ct4, w1]⟩, by rw [b4, b3, q2, r2, I.e1], by rw [b4, b3, q3], by rw [c4, show 3 + 2 * j = 1 + 2 * (j + 1) by omega]⟩
theorem sv_all (ok : t.ok) (hc : CallOk t c) (ho : CallOk t o) (hn : n ≤ 8) : ∀ j, j ≤ n → Sv t (svP c o n) j (0 :: (List.replicate j [1, 1, 0, 0]).flatten)
  | 0, _ => sv_zero ok hc ho hn
  | j + 1, hj => by
    have h := sv_step hn (by omega) (sv_all ok hc ho hn j (by omega))
    have e : (0 :: (List.replicate j [1, 1, 0, 0]).flatten) ++ [1, 1, 0, 0] = 0 :: (List.replicate (j + 1) [1, 1, 0, 0]).flatten := by
      rw [List.replicate_succ', List.flatten_append]
      simp
    rw [e] at h
    exact h
theorem sv_end (ok : t.ok) (hc : CallOk t c) (ho : CallOk t o) (hn : n ≤ 8) : Okw .re t (svP c o n) (starveW n) ∧ (atX .re t (svP c o n) (starveW n)).a.cs[0]? = some [2 * n + 2] := by
  have I := sv_all ok hc ho hn n (Nat.le_refl _)
  have p0len : ((svP c o n).getD 0 []).length = 1 := by simp [svP]
  have l := I.l
  obtain ⟨O1, _, _, cnt, k1, k2⟩ := I.O.full (u := 0) (by omega) (by show 0 < 2; decide) (by rw [p0len, I.e0]; decide)
  have e : (0 :: (List.replicate n [1, 1, 0, 0]).flatten) ++ [0] = starveW n := rfl
  rw [e] at O1 k2
  refine ⟨O1, ?_⟩
  rw [I.c] at k1
  cases k1
  rw [k2, List.getElem?_set_self (List.getElem?_eq_some_iff.mp I.c).1, I.e0]
  show some [1 + 2 * n + 1] = _
  rw [show 1 + 2 * n + 1 = 2 * n + 2 by omega]
end
end P6
namespace P6
open PySem PySem.Spec PyProof.Rows L2 H6
def rLaw (K : PySem.W.Frag) (ds : List D) (d : D) : Prop := ∃ sc : List Int, ds = [.scr K sc] ∧ sc.length ≤ 100 ∧ d = .bl true
def IsR (K : PySem.W.Frag) (M : Mem) : Prop := ∃ rw, IsRow K rw ∧ M = ⟨[rw], []⟩
theorem IsR.at {K : PySem.W.Frag} {M : Mem} (h : IsR K M) : RowAt K 0 M := by
  obtain ⟨rw, ⟨sc, i, z, r, rfl, q⟩, rfl⟩ := h
  exact ⟨sc, i, z, r, rfl, q⟩
theorem IsR.to {K : PySem.W.Frag} {M M' : Mem} (h : IsR K M) (t : RowTo K 0 M M') : IsR K M' := by
  obtain ⟨rw, _, rfl⟩ := h
  obtain ⟨sc, i, z, r, rfl, q⟩ := t
  exact ⟨_, ⟨sc, i, z, r, rfl, q⟩, rfl⟩
theorem IsR.hi {K : PySem.W.Frag} {M : Mem} (h : IsR K M) : M.hi = [] := by
  obtain ⟨rw, _, rfl⟩ := h
  rfl
theorem IsR.len {K : PySem.W.Frag} {M : Mem} (h : IsR K M) : M.lo.length = 1 := by
  obtain ⟨rw, _, rfl⟩ := h
  rfl
section
variable {P : Program} {w : World} {K : PySem.W.Frag} {mg : Str → Option Value} {base : Heap}
theorem law_ok (S : Ctx K mg) {fd : FuncData} (F : FunD K "law" "law" (defArgs s_law) (defBody s_law) (defScope s_law) [] [] (He.ga K "law") fd) : FnOk P w K mg base CX0 8 (He.ga K "law") fd p_law (spP (rLaw K)) := by
  have Bt := bs_of S
  refine fn_own F sc_law ?_ ?_
  · rintro ds d ⟨sc, rfl, _⟩
    rfl
  · rintro cdv A outer s0 H E hr ds d ⟨sc, rfl, hsc, rfl⟩
    refine ⟨0, ?_⟩
    have hu := hu_of hr
    have r5 := hr.mono (show 5 ≤ 7 by decide)
    have r4 := hr.mono (show 4 ≤ 7 by decide)
    have r3 := hr.mono (show 3 ≤ 7 by decide)
    have r2 := hr.mono (show 2 ≤ 7 by decide)
    have r1 := hr.mono (show 1 ≤ 7 by decide)
    -- the draws' row
    refine bw_set 1 sc_law.nd (eg_newL (ds := [.scr K sc, .int ((0 : Nat) : Int), .int 16006, .int 0]) (ul_lst (ua_cons (u_var 0 rfl) (ua_cons u_int (ua_cons u_int (ua_cons u_int ua_nil))))) (.inr rfl)) ?_
    rintro g M1 ⟨rfl, rfl⟩
    have i0 : IsR K ⟨[] ++ [.lst [.scr K sc, .int ((0 : Nat) : Int), .int 16006, .int 0]], []⟩ := ⟨_, ⟨sc, 0, 16006, 0, rfl, hsc, by decide, by decide⟩, rfl⟩
    -- object, way
    refine bw_par2 (PL := fun gs M' => ∃ (t : Thing) (wy : Way), t.ok ∧ gs = [.d t.d, .d (.str (wayS wy))] ∧ IsR K M') 2 3 sc_law.nd ?_ ?_
    · intro σ H0 A0 m0 e0 Q q
      refine ag_cons (P1 := fun g M' => ∃ t : Thing, t.ok ∧ g = .d t.d ∧ IsR K M') (P2 := fun _ _ gs M' => ∃ wy : Way, gs = [.d (.str (wayS wy))] ∧ IsR K M') (eg_call (cal_L_object S) r2 (ag_c (eg_var 1 rfl) ag_nil) ?_) ?_ rfl σ H0 A0 m0 e0 Q ?_
      · rintro gs M' ⟨rfl, rfl⟩
        refine ⟨_, ⟨0, rfl, i0.at, rfl, by show 1 ≤ 4; decide, rfl⟩, ?_⟩
        rintro d M2 ⟨t, ok, rfl, ht⟩
        exact ⟨t, ok, rfl, i0.to ht⟩
      · rintro g M2 ⟨t, ok, rfl, i1⟩
        intro σ H0 A0 m0 e0 Q q
        refine ag_cons (P1 := fun g M' => ∃ wy : Way, g = .d (.str (wayS wy)) ∧ IsR K M') (P2 := fun _ M2 gs M' => gs = [] ∧ M' = M2) (eg_call (cal_L_pick S) r2 (ag_c (eg_var 1 rfl) (ag_c (eg_UL (ul_lst (ua_cons u_str (ua_cons u_str (ua_cons u_str ua_nil)))) rfl) ag_nil)) ?_) (fun g M1 _ => ag_nil) rfl σ H0 A0 m0 e0 Q ?_
        · rintro gs M' ⟨rfl, rfl⟩
          refine ⟨_, ⟨0, _, rfl, i1.at, by decide, by decide, rfl, rfl⟩, ?_⟩
          rintro d M2 ⟨hd, ht⟩
          simp only [List.mem_cons, List.not_mem_nil, or_false] at hd
          rcases hd with rfl | rfl | rfl
          · exact ⟨.re, rfl, i1.to ht⟩
          · exact ⟨.lo, rfl, i1.to ht⟩
          · exact ⟨.na, rfl, i1.to ht⟩
        · rintro vs H' A' gs M' ⟨g, gr, M1, rfl, ⟨wy, rfl, i2⟩, rfl, rfl⟩
          exact q vs H' A' _ _ ⟨wy, rfl, i2⟩
      · rintro vs H' A' gs M' ⟨g, gr, M1, rfl, ⟨t, ok, rfl, _⟩, wy, rfl, i2⟩
        exact q vs H' A' _ _ ⟨t, wy, ok, rfl, i2⟩
    · rintro gs M1 ⟨t, wy, ok, rfl, i1⟩
      refine ⟨_, _, rfl, ?_⟩
      -- plans
      refine bw_set 4 sc_law.nd (P := fun g M' => ∃ ps, g = .d (plansD ps) ∧ PlansOk t ps ∧ IsR K M') (eg_call (cal_L_plans S) r3 (ag_c (eg_var 1 rfl) (ag_c (eg_var 2 rfl) (ag_c (eg_U u_int) (ag_c (eg_U u_int) ag_nil)))) ?_) ?_
      · rintro gs M' ⟨rfl, rfl⟩
        refine ⟨_, ⟨0, t, rfl, ok, i1.at, i1.hi, by rw [i1.len]; decide, rfl⟩, ?_⟩
        rintro d M2 ⟨ps, rfl, po, _, ht⟩
        exact ⟨ps, rfl, po, i1.to ht⟩
      · rintro g M2 ⟨ps, rfl, po, i2⟩
        -- weaving
        refine bw_set 5 sc_law.nd (P := fun g M' => ∃ ws, g = .d (wD ws) ∧ ws.length ≤ 50 ∧ Okw wy t ps ws ∧ IsR K M') (eg_call (cal_L_weave S) r3 (ag_c (eg_var 1 rfl) (ag_c (eg_var 3 rfl) (ag_c (eg_var 2 rfl) (ag_c (eg_var 4 rfl) (ag_c (eg_U u_int) ag_nil))))) ?_) ?_
        · rintro gs M' ⟨rfl, rfl⟩
          refine ⟨_, ⟨wy, t, ps, rfl, ?_, i2.at, ok, po, rfl, rfl⟩, ?_⟩
          · obtain ⟨rw, _, h⟩ := i2
            exact ⟨rw, h⟩
          · rintro d M3 ⟨ht, ws, rfl, hl, O⟩
            exact ⟨ws, rfl, hl, O, i2.to ht⟩
        · rintro g M3 ⟨ws, rfl, hl, O, i3⟩
          have hn := po.1.2
          -- the law's run
          refine bw_unp6 6 7 8 9 10 11 sc_law.nd (u_call (cal_L_run S) r3 (ua_cons (u_var 3 rfl) (ua_cons (u_var 2 rfl) (ua_cons (u_var 4 rfl) (ua_cons (u_var 5 rfl) ua_nil)))) O.rRun) O.runNl ?_
          -- history, steps
          refine bw_ifF (t_w (w_or (t_notT (t_val (u_call (cal_L_alike S 4) r5 (ua_cons (u_call (cal_history_of S) hr (ua_cons (u_var 3 rfl) (ua_cons (u_var 2 rfl) (ua_cons (u_var 4 rfl) (ua_cons (u_var 5 rfl) ua_nil)))) O.rHist) (ua_cons (u_var 6 rfl) ua_nil)) ⟨_, rfl, O.alEs, rfl⟩)))
            (w_or1 (t_notT (t_val (u_call (cal_L_alike S 4) r5 (ua_cons (u_call (cal_own_steps S) hr (ua_cons (u_var 3 rfl) (ua_cons (u_var 2 rfl) (ua_cons (u_var 4 rfl) (ua_cons (u_var 5 rfl) ua_nil)))) O.rOwn) (ua_cons (u_var 7 rfl) ua_nil)) ⟨_, rfl, O.alCs, rfl⟩)))))) ?_
          -- state, going
          refine bw_ifF (t_w (w_or (t_notT (t_val (u_call (cal_L_alike S 4) r5 (ua_cons (u_call (cal_state_behind S) hr (ua_cons (u_var 3 rfl) (ua_cons (u_var 2 rfl) (ua_cons (u_var 4 rfl) (ua_cons (u_var 5 rfl) ua_nil)))) O.rSt) (ua_cons (u_var 8 rfl) ua_nil)) ⟨_, rfl, O.alSt, rfl⟩)))
            (w_or1 (t_notT (t_val (u_call (cal_L_alike S 4) r5 (ua_cons (u_call (cal_going S) hr (ua_cons (u_var 3 rfl) (ua_cons (u_var 2 rfl) (ua_cons (u_var 4 rfl) (ua_cons (u_var 5 rfl) ua_nil)))) O.rGo) (ua_cons (u_var 10 rfl) ua_nil)) ⟨_, rfl, O.alLeft, rfl⟩)))))) ?_
          -- applied
          refine bw_ifF (t_notT (t_val (u_call (cal_L_alike S 4) r5 (ua_cons (u_call (cal_applied_order S) hr (ua_cons (u_var 3 rfl) (ua_cons (u_var 2 rfl) (ua_cons (u_var 4 rfl) (ua_cons (u_var 5 rfl) ua_nil)))) O.rApp) (ua_cons (u_var 9 rfl) ua_nil)) ⟨_, rfl, O.alLg, rfl⟩))) ?_
          -- alone
          let G : GW → List GW := fun g => [.d (.scr K sc), .lo 0, .d t.d, .d (.str (wayS wy)), .d (plansD ps), .d (wD ws), .d (evsD (atX wy t ps ws).a.es), .d (.tup ((atX wy t ps ws).a.cs.map natsD)), .d (atX wy t ps ws).a.s.st, .d (.tup (logD (atX wy t ps ws).a.s.lg)), .d (natsD (leftL ps (atX wy t ps ws).a.s)), .un, g, .un, .un, .un, .un, .un]
          refine bw_for (PI' := fun ds M' => ds = rgD 0 ps.length ∧ M' = M3) 12 sc_law.nd (ig_rng Bt (eg_U (u_len Bt (u_var 4 rfl))) ?_) (fun ds k Γ' M' => ds = rgD 0 ps.length ∧ M' = M3 ∧ ∃ g, Γ' = G g) ?_ gok0 ?_ ?_ PassesOwn.never
          · rintro g M' ⟨rfl, rfl⟩
            exact ⟨ps.length, by rw [List.length_map], by omega, rfl, rfl⟩
          · rintro ds M' ⟨rfl, rfl⟩
            exact ⟨rfl, rfl, .un, rfl⟩
          · rintro ds k d Γ' M' hd ⟨rfl, rfl, g0, rfl⟩
            obtain ⟨hk, rfl⟩ := rgD_at hd
            obtain ⟨x, ax, p1, p2⟩ := alone_same O (by omega) hk
            rw [Int.zero_add (k : Int)]
            refine bw_ifF (t_notT (t_val (u_call (cal_L_alike S 4) r5 (ua_cons (u_call (cal_alone S) hr (ua_cons (u_var 3 rfl) (ua_cons (u_var 2 rfl) (ua_cons (u_var 4 rfl) (ua_cons (u_var 5 rfl) (ua_cons (u_var 12 rfl) ua_nil))))) p1) (ua_cons (u_call (cal_L_alone S) r4 (ua_cons (u_var 3 rfl) (ua_cons (u_var 2 rfl) (ua_cons (u_var 4 rfl) (ua_cons (u_var 5 rfl) (ua_cons (u_var 12 rfl) ua_nil))))) p2) ua_nil)) ⟨x, rfl, ax.up (by decide), rfl⟩))) ?_
            exact bw_nil ⟨rfl, rfl, _, rfl⟩
          · rintro ds Γ' M' ⟨rfl, rfl, g0, rfl⟩
            -- names, many
            refine bw_par2 (PL := fun gs M' => ∃ (cs : List D) (n : Nat), (0 < cs.length ∧ cs.length ≤ 1000 ∧ ∀ c ∈ cs, CallOk t c) ∧ n ≤ 8 ∧ gs = [.d (.lst cs), .d (.int n)] ∧ IsR K M') 13 14 sc_law.nd ?_ ?_
            · intro σ H0 A0 m0 e0 Q q
              refine ag_cons (P2 := fun _ _ gs M' => ∃ n : Nat, n ≤ 8 ∧ gs = [.d (.int n)] ∧ IsR K M') (eg_callF (cal_L_calls S) r1 (ua_cons (u_var 2 rfl) ua_nil) ⟨t, rfl, ok, rfl⟩ fun ys h => callsOk_noL h.2.2) ?_ rfl σ H0 A0 m0 e0 Q ?_
              · rintro g M2 ⟨ys, rfl, hy, rfl⟩
                intro σ H0 A0 m0 e0 Q q
                refine ag_cons (P1 := fun g M' => ∃ n : Nat, n ≤ 8 ∧ g = .d (.int n) ∧ IsR K M') (P2 := fun _ M2 gs M' => gs = [] ∧ M' = M2) (eg_taken (many := 9) 1 (cal_L_taken S) r1 rfl i3.at u_int (by omega) ?_) (fun g M1 _ => ag_nil) rfl σ H0 A0 m0 e0 Q ?_
                · intro i M' hi ht
                  exact ⟨i, by omega, rfl, i3.to ht⟩
                · rintro vs H' A' gs M' ⟨g, gr, M1, rfl, ⟨n, hn, rfl, i4⟩, rfl, rfl⟩
                  exact q vs H' A' _ _ ⟨n, hn, rfl, i4⟩
              · rintro vs H' A' gs M' ⟨g, gr, M1, rfl, ⟨ys, rfl, hy, rfl⟩, n, hn, rfl, i4⟩
                exact q vs H' A' _ _ ⟨ys, n, hy, hn, rfl, i4⟩
            · rintro gs M4 ⟨cs, n, hcs, hn8, rfl, i4⟩
              refine ⟨_, _, rfl, ?_⟩
              have pick : ∀ {M : Mem}, IsR K M → ∀ {d : D} {M2 : Mem}, (d ∈ cs ∧ RowTo K 0 M M2) → CallOk t d ∧ IsR K M2 := fun {M} i {d} {M2} h => ⟨hcs.2.2 d h.1, i.to h.2⟩
              -- one, other
              refine bw_par2 (PL := fun gs M' => ∃ c o : D, CallOk t c ∧ CallOk t o ∧ gs = [.d c, .d o] ∧ IsR K M') 15 16 sc_law.nd ?_ ?_
              · intro σ H0 A0 m0 e0 Q q
                refine ag_cons (P1 := fun g M' => ∃ c : D, CallOk t c ∧ g = .d c ∧ IsR K M') (P2 := fun _ _ gs M' => ∃ o : D, CallOk t o ∧ gs = [.d o] ∧ IsR K M') (eg_call (cal_L_pick S) r2 (ag_c (eg_var 1 rfl) (ag_c (eg_var 13 rfl) ag_nil)) ?_) ?_ rfl σ H0 A0 m0 e0 Q ?_
                · rintro gs M' ⟨rfl, rfl⟩
                  refine ⟨_, ⟨0, cs, rfl, i4.at, hcs.1, hcs.2.1, rfl, rfl⟩, ?_⟩
                  intro d M2 h
                  obtain ⟨h1, h2⟩ := pick i4 h
                  exact ⟨d, h1, rfl, h2⟩
                · rintro g M2 ⟨c, hc, rfl, i5⟩
                  intro σ H0 A0 m0 e0 Q q
                  refine ag_cons (P1 := fun g M' => ∃ o : D, CallOk t o ∧ g = .d o ∧ IsR K M') (P2 := fun _ M2 gs M' => gs = [] ∧ M' = M2) (eg_call (cal_L_pick S) r2 (ag_c (eg_var 1 rfl) (ag_c (eg_var 13 rfl) ag_nil)) ?_) (fun g M1 _ => ag_nil) rfl σ H0 A0 m0 e0 Q ?_
                  · rintro gs M' ⟨rfl, rfl⟩
                    refine ⟨_, ⟨0, cs, rfl, i5.at, hcs.1, hcs.2.1, rfl, rfl⟩, ?_⟩
                    intro d M2 h
                    obtain ⟨h1, h2⟩ := pick i5 h
                    exact ⟨d, h1, rfl, h2⟩
                  · rintro vs H' A' gs M' ⟨g, gr, M1, rfl, ⟨o, ho, rfl, i6⟩, rfl, rfl⟩
                    exact q vs H' A' _ _ ⟨o, ho, rfl, i6⟩
                · rintro vs H' A' gs M' ⟨g, gr, M1, rfl, ⟨c, hc, rfl, _⟩, o, ho, rfl, i6⟩
                  exact q vs H' A' _ _ ⟨c, o, hc, ho, rfl, i6⟩
              · rintro gs M5 ⟨c, o, hc, ho, rfl, i5⟩
                refine ⟨_, _, rfl, ?_⟩
                have po2 := svP_ok hc ho hn8
                obtain ⟨O2, hc0⟩ := sv_end ok hc ho hn8
                have nd : noL (.tup [plansD (svP c o n), wD (starveW n)]) = true := noL_tup (noLs_cons (plansD_noL po2) (noLs_cons (wD_noL _) rfl))
                -- what is due
                refine bw_setU 17 sc_law.nd (d := .tup [plansD (svP c o n), wD (starveW n)]) (u_tup (ua_cons (u_is (u_tup (ua_cons (u_tup (ua_cons (u_var 15 rfl) ua_nil)) (ua_cons (u_times (n := n) (by simp) (by simp) (by omega) (u_tup (ua_cons (u_var 16 rfl) ua_nil)) (u_var 14 rfl)) ua_nil))) ?_)
                  (ua_cons (u_is (u_cat (by simp; exact small_le' (by omega)) (u_cat (by simp; exact small_le' (by omega)) (u_tup (ua_cons u_int ua_nil)) (u_times (n := n) (by simp) (by simp) (by omega) (u_tup (ua_cons u_int (ua_cons u_int (ua_cons u_int (ua_cons u_int ua_nil))))) (u_var 14 rfl))) (u_tup (ua_cons u_int ua_nil))) ?_) ua_nil))) ?_ nd
                · show D.tup _ = D.tup _
                  have e : ∀ m : Nat, (List.replicate m [o]).flatten = List.replicate m o := flat_rep
                  rw [e]
                  rfl
                · show D.tup _ = D.tup _
                  have e : ∀ m : Nat, (List.replicate m [D.int 1, D.int 1, D.int 0, D.int 0]).flatten = ((List.replicate m [1, 1, 0, 0]).flatten.map fun (n : Nat) => D.int (n : Int)) := by
                    intro m
                    induction m with
                    | zero => rfl
                    | succ m ih => rw [List.replicate_succ, List.flatten_cons, ih, List.replicate_succ, List.flatten_cons, List.map_append]; rfl
                  rw [e]
                  unfold starveW
                  rw [List.map_cons, List.map_append]
                  rfl
                -- starving
                have al2 : AL 4 (.tup [plansD (svP c o n), wD (starveW n)]) := by
                  have swl : (starveW n).length ≤ 400 := O2.l
                  refine .tup (fun d hd => ?_) (by simp)
                  simp only [List.mem_cons, List.not_mem_nil, or_false] at hd
                  rcases hd with rfl | rfl
                  · refine .tup (fun d hd => ?_) (by rw [List.length_map]; have := po2.1.2; omega)
                    obtain ⟨p, hp, rfl⟩ := List.mem_map.mp hd
                    exact .tup (fun d hd => al_call ((po2.2 p hp).2 d hd)) (by have := (po2.2 p hp).1; omega)
                  · exact al_nats (by omega)
                refine bw_ifF (t_notT (t_val (u_call (cal_L_alike S 4) r5 (ua_cons (u_call (cal_starving S) r5 (ua_cons (u_var 2 rfl) (ua_cons (u_var 15 rfl) (ua_cons (u_var 16 rfl) (ua_cons (u_var 14 rfl) ua_nil)))) ⟨t, c, o, n, rfl, ok, hc, ho, hn8, rfl⟩) (ua_cons (u_var 17 rfl) ua_nil)) ⟨_, rfl, al2, rfl⟩))) ?_
                -- its steps
                obtain ⟨cs2, hcs2⟩ : ∃ cs2, cs2 = (atX .re t (svP c o n) (starveW n)).a.cs := ⟨_, rfl⟩
                have nst : noL (.tup (cs2.map natsD)) = true := noL_tup (noLs_iff.mpr fun d hd => by
                  obtain ⟨c, hc, rfl⟩ := List.mem_map.mp hd
                  exact noL_tup (natDs_noL _))
                refine bw_setU 7 sc_law.nd (d := .tup (cs2.map natsD)) (u_ixT (u_call (cal_L_run S) r3 (ua_cons u_str (ua_cons (u_var 2 rfl) (ua_cons (u_ixT (ds := [plansD (svP c o n), wD (starveW n)]) (u_var 17 rfl) u_int) (ua_cons (u_ixT (ds := [plansD (svP c o n), wD (starveW n)]) (u_var 17 rfl) u_int) ua_nil)))) O2.rRun) u_int (by rw [hcs2]; rfl)) ?_ nst
                rw [← hcs2] at hc0
                have shs : sh (.tup (cs2.map natsD)) = true := (shN_tup (n := 1) fun d hd => by
                  obtain ⟨c, hc, rfl⟩ := List.mem_map.mp hd
                  exact shN_tup (n := 0) fun d hd => by
                    obtain ⟨i, _, rfl⟩ := List.mem_map.mp hd
                    exact shN_int).sh (by decide)
                have sh1 : sh (natsD [2 * n + 2]) = true := (shN_tup (n := 0) (shN_cons shN_int shN_nil)).sh (by decide)
                refine bw_retX (d := .bl true) (u_and (u_eqD hr sh1 sh1 (u_ixT (u_var 7 rfl) u_int (ix_map (f := natsD) (j := 0) hc0)) (u_is (u_tup (ua_cons (u_add (u_mul ?_ u_int (u_var 14 rfl)) u_int) ua_nil)) ?_) (eqD_refl sh1)) (u_one (u_eqD hr shs shs (u_call (cal_own_steps S) hr (ua_cons u_str (ua_cons (u_var 2 rfl) (ua_cons (u_ixT (ds := [plansD (svP c o n), wD (starveW n)]) (u_var 17 rfl) u_int) (ua_cons (u_ixT (ds := [plansD (svP c o n), wD (starveW n)]) (u_var 17 rfl) u_int) ua_nil)))) (hcs2 ▸ O2.rOwn)) (u_var 7 rfl) (eqD_refl shs)))) rfl
                · exact .inl ⟨by decide, by decide⟩
                · show D.tup [.int (2 * (n : Int) + 2)] = .tup [.int ((2 * n + 2 : Nat) : Int)]
                  congr 2
end
end P6
namespace H6
open PySem PySem.Spec PyProof.Rows L2 P6
theorem facts {P : Program} {w : World} {K : PySem.W.Frag} {h : Heap} {mg : Str → Option Value} {f : Addr} (X : K.In h) (G : h.Ns mainGlobals mg) (hfa : mg ("law" : Str) = some (.ref f)) (c : He.SaysD fa fn K) :
    ∃ fd : FuncData, (∀ (s : Shared) (v : Value), BindsTo s fd ⟨[v], []⟩ [("_law_script", v)]) ∧ ∀ base : Heap, K.In base → base.Ns mainGlobals mg → FnOk P w K mg base CX0 8 f fd ["_law_script"] (spP (rLaw K)) := by
  have S : Ctx K mg := ⟨c, h, X, G⟩
  obtain ⟨fd, F⟩ := F_law S
  have e := hfa.symm.trans (g_law S)
  cases e
  have b := FunD.bindsA (ps := ["_law_script"]) F fun _ _ _ _ _ _ us hl => match us, hl with | [_], _ => rfl
  exact ⟨fd, fun s v => b s [v] rfl, fun base _ _ => law_ok S F⟩
end H6
open PySem PySem.W PySem.Calls PyProof.Rows
theorem PySem.Challenge.cw_helpedcalls_k06_whole_other_ways_holds : PySem.Challenge.rw_helpedcalls_k06_whole_other_ways.Holds := by
  w_on; o_law
  refine HandSHeadRun.head_any (r := OpenLaw.row PySem.Challenge.rw_helpedcalls_k06_whole_other_ways) (q := view (OpenLaw.row PySem.Challenge.rw_helpedcalls_k06_whole_other_ways).prog [73]) (H := H6.hk) (ob := H6.ob) (M := 15000) (loose := H6.loose) (d := HandSHeadRun.topDef (OpenLaw.row PySem.Challenge.rw_helpedcalls_k06_whole_other_ways).prog 73) (kwd := []) H6.ob_eq
    (by kernel_rfl) (fun s => by kernel_rfl) H6.run (by kernel_rfl) (by kernel_rfl) (by kernel_rfl) (by rfl) (by first | assumption | decide +kernel) (by decide +kernel) ⟨rfl, rfl, rfl, rfl, rfl, by decide +kernel⟩ ?hw ?hc
  case hw => w_witness2
  case hc =>
    refine L2.walk_ofE (l := PySem.Challenge.rw_helpedcalls_k06_whole_other_ways) (n := 63) (k := 8) (x := "_law_script") (CX := L2.CX0) rfl (by decide) (by kernel_rfl) ⟨rfl, by decide, by decide⟩ ?F (fun _ _ _ _ z => z)
    intro w mg fa h Y G hmg0
    obtain ⟨K, KX, c⟩ := Y
    have hmg : mg ("law" : PySem.Str) = some (.ref fa) := by
      have e : (HandSHeadRun.topDef (OpenLaw.row PySem.Challenge.rw_helpedcalls_k06_whole_other_ways).prog 73).name = ("law" : PySem.Str) := by kernel_rfl
      rw [← e]
      exact hmg0
    obtain ⟨fd, hb, hF⟩ := H6.facts (P := (PySem.Challenge.rw_helpedcalls_k06_whole_other_ways).prog) (w := w) KX G hmg c
    refine ⟨K, fd, P6.spP (P6.rLaw K), KX, hb, fun H a ns hl _ hS => ⟨[.scr K ns], .bl true, ⟨ns, rfl, by omega, rfl⟩, ⟨_, [], rfl, ⟨a, rfl, hS⟩, rfl⟩, fun v H' _ r => r⟩, hF⟩
