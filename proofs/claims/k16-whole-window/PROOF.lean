import PyProof.Rows.All
import Wide.All
import OpenK.AllK
import Wide.FinOn
import HandS.ForMost
import HandS.ForExc
import HandS.Defaults
import PySem.Challenge.RW_takenahead_k16_whole_window_holds
import KE.DataMinMax
import KE.GoesMore
import KE.SortData
import PyProof.P3In
import HandS.MakeKwOnly
import HandS.Star
import HandS.SortKw
import HandS.SortOrd
import HandS.TupSets
import HandS.TupAny
import HandS.Deep
import HandS.IsInst
import HandS.HeadHook1
import HandS.HeadHook2
import HandS.SortInts
import HandS.Conv
import HandS.TupLen
import HandS.DictComp
import HandS.Steps
import HandS.Evl
import KE.KStateDown
import Lean
import HandS.Base
import HandS.Call
import HandS.Ends
import HandS.More
import HandS.Words
import HandS.WordsExc
import HandS.Head0
import HandS.Head1
import HandS.Head2
import HandS.HeadEnd
set_option Elab.async false
set_option linter.all false
set_option maxRecDepth 100000
set_option maxHeartbeats 4000000
namespace Tk
open PySem L2
def top (i : Nat) : Stmt := PySem.Challenge.pw_takenahead_k16_whole_window_holds.main.body.getD i (.Pass ⟨0, 0, 0, 0⟩)
abbrev sRecord___init__ : Stmt := inClass (top 2) 0
abbrev slate : Stmt := top 3
abbrev sspread : Stmt := top 4
abbrev sis_integer : Stmt := top 22
abbrev sis_name : Stmt := top 23
abbrev sis_place : Stmt := top 24
abbrev shas_form : Stmt := top 25
abbrev sfault_of : Stmt := top 26
abbrev scount_after : Stmt := top 27
abbrev scheck_branch : Stmt := top 28
abbrev schecked : Stmt := top 29
abbrev sScript___init__ : Stmt := inClass (top 30) 0
abbrev sScript___len__ : Stmt := inClass (top 30) 1
abbrev sScript___getitem__ : Stmt := inClass (top 30) 4
abbrev sScript_follow : Stmt := inClass (top 30) 6
abbrev sScript_after : Stmt := inClass (top 30) 7
abbrev swithin : Stmt := top 35
abbrev sas_script : Stmt := top 36
abbrev sKind___init__ : Stmt := inClass (top 37) 0
abbrev skinds_fault : Stmt := top 38
abbrev swindow_fits : Stmt := top 39
abbrev ssystem_fault : Stmt := top 40
abbrev sis_kept : Stmt := top 41
abbrev sSystem___init__ : Stmt := inClass (top 42) 0
abbrev sSystem___getitem__ : Stmt := inClass (top 42) 2
abbrev sSystem_kind_of : Stmt := inClass (top 42) 4
abbrev sSystem_with_values : Stmt := inClass (top 42) 5
abbrev sRunning___init__ : Stmt := inClass (top 45) 0
abbrev sRunning___call__ : Stmt := inClass (top 45) 3
abbrev sRunning_statement : Stmt := inClass (top 45) 4
abbrev sRunning_lowest : Stmt := inClass (top 45) 5
abbrev sRunning_blocked : Stmt := inClass (top 45) 6
abbrev sRunning_is_session : Stmt := inClass (top 45) 7
abbrev sRunning_fits : Stmt := inClass (top 45) 8
abbrev sRunning_perform : Stmt := inClass (top 45) 9
abbrev sRunning_crash : Stmt := inClass (top 45) 10
abbrev sRunning_restart : Stmt := inClass (top 45) 11
abbrev sRunning_finish : Stmt := inClass (top 45) 12
abbrev sRunning_hand_out : Stmt := inClass (top 45) 13
abbrev sRunning_execute : Stmt := inClass (top 45) 14
abbrev sRunning_commit : Stmt := inClass (top 45) 15
abbrev sRunning_hold : Stmt := inClass (top 45) 16
abbrev sRunning_advance : Stmt := inClass (top 45) 17
abbrev sRunning_record : Stmt := inClass (top 45) 21
abbrev sRunning_perform_all : Stmt := inClass (top 45) 23
abbrev srun : Stmt := top 46
abbrev s_law_pool : Stmt := top 48
abbrev s_law_draw : Stmt := top 49
abbrev s_law_names : Stmt := top 50
abbrev s_law_simple : Stmt := top 51
abbrev s_law_branch : Stmt := top 52
abbrev s_law_build : Stmt := top 53
abbrev s_law_system : Stmt := top 54
abbrev s_law_plan : Stmt := top 55
abbrev s_law_low : Stmt := top 56
abbrev s_law_waits : Stmt := top 57
abbrev s_law_begin : Stmt := top 58
abbrev s_law_end : Stmt := top 59
abbrev s_law_crash : Stmt := top 60
abbrev s_law_take : Stmt := top 61
abbrev s_law_act : Stmt := top 62
abbrev s_law_step : Stmt := top 63
abbrev s_law_moves : Stmt := top 64
abbrev s_law_same : Stmt := top 65
abbrev slaw : Stmt := top 66
def sc_inner : Scope := { kind := ScopeKind.function, names := [(".0", NameKind.local), ("_law_part", NameKind.local), ("range", NameKind.globalImplicit), ("_law_amount", NameKind.cell)], isGenerator := false, isCoroutine := false }
abbrev FnP (K : PySem.W.Frag) (x q : Str) (st : Stmt) (f : Addr) (fd : FuncData) : Prop := FunD K x q (defArgs st) (defBody st) (defScope st) [] [] f fd
theorem csRecord___init__ : FnScope ["self", "commits", "lost", "out", "height", "noted", "crashes", "spread"] ["self", "commits", "lost", "out", "height", "noted", "crashes", "spread"] (defScope sRecord___init__) := ⟨rfl, rfl, rfl, by decide +kernel, rfl, by decide +kernel, by decide +kernel⟩
theorem cslate : FnScope ["record", "found", "top", "session", "numbers", "number"] ["record"] (defScope slate) := ⟨rfl, rfl, rfl, by decide +kernel, rfl, by decide +kernel, by decide +kernel⟩
theorem csspread : FnScope ["record"] ["record"] (defScope sspread) := ⟨rfl, rfl, rfl, by decide +kernel, rfl, by decide +kernel, by decide +kernel⟩
theorem csis_integer : FnScope ["value"] ["value"] (defScope sis_integer) := ⟨rfl, rfl, rfl, by decide +kernel, rfl, by decide +kernel, by decide +kernel⟩
theorem csis_name : FnScope ["value", "sign"] ["value"] (defScope sis_name) := ⟨rfl, rfl, rfl, by decide +kernel, rfl, by decide +kernel, by decide +kernel⟩
theorem csis_place : FnScope ["value", "part"] ["value"] (defScope sis_place) := ⟨rfl, rfl, rfl, by decide +kernel, rfl, by decide +kernel, by decide +kernel⟩
theorem cshas_form : FnScope ["statement", "word"] ["statement"] (defScope shas_form) := ⟨rfl, rfl, rfl, by decide +kernel, rfl, by decide +kernel, by decide +kernel⟩
theorem csfault_of : FnScope ["statement", "depth", "count", "word"] ["statement", "depth", "count"] (defScope sfault_of) := ⟨rfl, rfl, rfl, by decide +kernel, rfl, by decide +kernel, by decide +kernel⟩
theorem cscount_after : FnScope ["word", "count"] ["word", "count"] (defScope scount_after) := ⟨rfl, rfl, rfl, by decide +kernel, rfl, by decide +kernel, by decide +kernel⟩
theorem cscheck_branch : FnScope ["branch", "prefix", "depth", "count", "table", "index", "statement", "place", "why", "yes", "no"] ["branch", "prefix", "depth", "count", "table"] (defScope scheck_branch) := ⟨rfl, rfl, rfl, by decide +kernel, rfl, by decide +kernel, by decide +kernel⟩
theorem cschecked : FnScope ["statements", "table"] ["statements"] (defScope schecked) := ⟨rfl, rfl, rfl, by decide +kernel, rfl, by decide +kernel, by decide +kernel⟩
theorem csScript___init__ : FnScope ["self", "statements"] ["self", "statements"] (defScope sScript___init__) := ⟨rfl, rfl, rfl, by decide +kernel, rfl, by decide +kernel, by decide +kernel⟩
theorem csScript___len__ : FnScope ["self"] ["self"] (defScope sScript___len__) := ⟨rfl, rfl, rfl, by decide +kernel, rfl, by decide +kernel, by decide +kernel⟩
theorem csScript___getitem__ : FnScope ["self", "place"] ["self", "place"] (defScope sScript___getitem__) := ⟨rfl, rfl, rfl, by decide +kernel, rfl, by decide +kernel, by decide +kernel⟩
theorem csScript_follow : FnScope ["self", "place", "beside"] ["self", "place"] (defScope sScript_follow) := ⟨rfl, rfl, rfl, by decide +kernel, rfl, by decide +kernel, by decide +kernel⟩
theorem csScript_after : FnScope ["self", "place", "answer", "word"] ["self", "place", "answer"] (defScope sScript_after) := ⟨rfl, rfl, rfl, by decide +kernel, rfl, by decide +kernel, by decide +kernel⟩
theorem cswithin : FnScope ["value", "least", "most"] ["value", "least", "most"] (defScope swithin) := ⟨rfl, rfl, rfl, by decide +kernel, rfl, by decide +kernel, by decide +kernel⟩
theorem csas_script : FnScope ["script", "e"] ["script"] (defScope sas_script) := ⟨rfl, rfl, rfl, by decide +kernel, rfl, by decide +kernel, by decide +kernel⟩
theorem csKind___init__ : FnScope ["self", "name", "script", "block", "many"] ["self", "name", "script", "block", "many"] (defScope sKind___init__) := ⟨rfl, rfl, rfl, by decide +kernel, rfl, by decide +kernel, by decide +kernel⟩
theorem cskinds_fault : FnScope ["kinds", "names", "sessions", "kind"] ["kinds"] (defScope skinds_fault) := ⟨rfl, rfl, rfl, by decide +kernel, rfl, by decide +kernel, by decide +kernel⟩
theorem cswindow_fits : FnScope ["window", "kinds", "kind"] ["window", "kinds"] (defScope swindow_fits) := ⟨rfl, rfl, rfl, by decide +kernel, rfl, by decide +kernel, by decide +kernel⟩
theorem cssystem_fault : FnScope ["kinds", "ahead", "window", "crashes", "why"] ["kinds", "ahead", "window", "crashes"] (defScope ssystem_fault) := ⟨rfl, rfl, rfl, by decide +kernel, rfl, by decide +kernel, by decide +kernel⟩
theorem csis_kept : FnScope ["value"] ["value"] (defScope sis_kept) := ⟨rfl, rfl, rfl, by decide +kernel, rfl, by decide +kernel, by decide +kernel⟩
theorem csSystem___init__ : FnScope ["self", "ahead", "window", "crashes", "kinds", "why", "kind", "k"] ["self", "ahead", "window", "crashes", "kinds"] (defScope sSystem___init__) := ⟨rfl, rfl, rfl, by decide +kernel, rfl, by decide +kernel, by decide +kernel⟩
theorem csSystem___getitem__ : FnScope ["self", "name", "kind"] ["self", "name"] (defScope sSystem___getitem__) := ⟨rfl, rfl, rfl, by decide +kernel, rfl, by decide +kernel, by decide +kernel⟩
theorem csSystem_kind_of : FnScope ["self", "session"] ["self", "session"] (defScope sSystem_kind_of) := ⟨rfl, rfl, rfl, by decide +kernel, rfl, by decide +kernel, by decide +kernel⟩
theorem csSystem_with_values : FnScope ["self", "ahead", "window", "crashes", "kinds"] ["self", "ahead", "window", "crashes"] (defScope sSystem_with_values) := ⟨rfl, rfl, rfl, by decide +kernel, rfl, by decide +kernel, by decide +kernel⟩
theorem csRunning___init__ : FnScope ["self", "system", "name"] ["self", "system"] (defScope sRunning___init__) := ⟨rfl, rfl, rfl, by decide +kernel, rfl, by decide +kernel, by decide +kernel⟩
theorem csRunning___call__ : FnScope ["self", "step"] ["self", "step"] (defScope sRunning___call__) := ⟨rfl, rfl, rfl, by decide +kernel, rfl, by decide +kernel, by decide +kernel⟩
theorem csRunning_statement : FnScope ["self", "session"] ["self", "session"] (defScope sRunning_statement) := ⟨rfl, rfl, rfl, by decide +kernel, rfl, by decide +kernel, by decide +kernel⟩
theorem csRunning_lowest : FnScope ["self", "rows", "numbers"] ["self"] (defScope sRunning_lowest) := ⟨rfl, rfl, rfl, by decide +kernel, rfl, by decide +kernel, by decide +kernel⟩
theorem csRunning_blocked : FnScope ["self", "session", "statement", "other", "names", "low", "top"] ["self", "session"] (defScope sRunning_blocked) := ⟨rfl, rfl, rfl, by decide +kernel, rfl, by decide +kernel, by decide +kernel⟩
theorem csRunning_is_session : FnScope ["self", "session"] ["self", "session"] (defScope sRunning_is_session) := ⟨rfl, rfl, rfl, by decide +kernel, rfl, by decide +kernel, by decide +kernel⟩
theorem csRunning_fits : FnScope ["self", "step", "answers"] ["self", "step"] (defScope sRunning_fits) := ⟨rfl, rfl, rfl, by decide +kernel, rfl, by decide +kernel, by decide +kernel⟩
theorem csRunning_perform : FnScope ["self", "step", "low"] ["self", "step"] (defScope sRunning_perform) := ⟨rfl, rfl, rfl, by decide +kernel, rfl, by decide +kernel, by decide +kernel⟩
theorem csRunning_crash : FnScope ["self", "session"] ["self"] (defScope sRunning_crash) := ⟨rfl, rfl, rfl, by decide +kernel, rfl, by decide +kernel, by decide +kernel⟩
theorem csRunning_restart : FnScope ["self", "session"] ["self", "session"] (defScope sRunning_restart) := ⟨rfl, rfl, rfl, by decide +kernel, rfl, by decide +kernel, by decide +kernel⟩
theorem csRunning_finish : FnScope ["self", "session"] ["self", "session"] (defScope sRunning_finish) := ⟨rfl, rfl, rfl, by decide +kernel, rfl, by decide +kernel, by decide +kernel⟩
theorem csRunning_hand_out : FnScope ["self", "session", "block"] ["self", "session"] (defScope sRunning_hand_out) := ⟨rfl, rfl, rfl, by decide +kernel, rfl, by decide +kernel, by decide +kernel⟩
theorem csRunning_execute : FnScope ["self", "session", "answer", "statement", "word"] ["self", "session", "answer"] (defScope sRunning_execute) := ⟨rfl, rfl, rfl, by decide +kernel, rfl, by decide +kernel, by decide +kernel⟩
theorem csRunning_commit : FnScope ["self", "session"] ["self", "session"] (defScope sRunning_commit) := ⟨rfl, rfl, rfl, by decide +kernel, rfl, by decide +kernel, by decide +kernel⟩
theorem csRunning_hold : FnScope ["self", "session", "name", "held", "names", "other"] ["self", "session", "name", "held"] (defScope sRunning_hold) := ⟨rfl, rfl, rfl, by decide +kernel, rfl, by decide +kernel, by decide +kernel⟩
theorem csRunning_advance : FnScope ["self", "session", "answer", "place"] ["self", "session", "answer"] (defScope sRunning_advance) := ⟨rfl, rfl, rfl, by decide +kernel, rfl, by decide +kernel, by decide +kernel⟩
theorem csRunning_record : FnScope ["self", "out", "rows", "session", "numbers", "number", "lost"] ["self"] (defScope sRunning_record) := ⟨rfl, rfl, rfl, by decide +kernel, rfl, by decide +kernel, by decide +kernel⟩
theorem csRunning_perform_all : FnScope ["self", "schedule", "index", "step"] ["self", "schedule"] (defScope sRunning_perform_all) := ⟨rfl, rfl, rfl, by decide +kernel, rfl, by decide +kernel, by decide +kernel⟩
theorem csrun : FnScope ["system", "schedule", "running"] ["system", "schedule"] (defScope srun) := ⟨rfl, rfl, rfl, by decide +kernel, rfl, by decide +kernel, by decide +kernel⟩
theorem cs_law_pool : FnScope ["_law_script", "_law_k", "_law_cell"] ["_law_script", "_law_k"] (defScope s_law_pool) := ⟨rfl, rfl, rfl, by decide +kernel, rfl, by decide +kernel, by decide +kernel⟩
theorem cs_law_draw : FnScope ["_law_pool_here", "_law_amount", "_law_digit", "_law_number"] ["_law_pool_here", "_law_amount"] (defScope s_law_draw) := ⟨rfl, rfl, rfl, by decide +kernel, rfl, by decide +kernel, by decide +kernel⟩
theorem cs_law_names : FnScope ["_law_pool_here", "_law_letters", "_law_base", "_law_k", "_law_at", "_law_first", "_law_signs", "_law_sign"] ["_law_pool_here"] (defScope s_law_names) := ⟨rfl, rfl, rfl, by decide +kernel, rfl, by decide +kernel, by decide +kernel⟩
theorem cs_law_simple : FnScope ["_law_pool_here", "_law_box", "_law_names_here", "_law_pick"] ["_law_pool_here", "_law_box", "_law_names_here"] (defScope s_law_simple) := ⟨rfl, rfl, rfl, by decide +kernel, rfl, by decide +kernel, by decide +kernel⟩
theorem cs_law_branch : FnScope ["_law_pool_here", "_law_box", "_law_names_here", "_law_length", "_law_depth", "_law_rows", "_law_k", "_law_before", "_law_yes", "_law_after", "_law_no"] ["_law_pool_here", "_law_box", "_law_names_here", "_law_length", "_law_depth"] (defScope s_law_branch) := ⟨rfl, rfl, rfl, by decide +kernel, rfl, by decide +kernel, by decide +kernel⟩
theorem cs_law_build : FnScope ["_law_pool_here", "_law_cap", "_law_names_here", "_law_rows", "_law_at", "_law_head", "_law_box", "_law_branch_here", "_law_span"] ["_law_pool_here", "_law_cap"] (defScope s_law_build) := ⟨rfl, rfl, rfl, by decide +kernel, rfl, by decide +kernel, by decide +kernel⟩
theorem cs_law_system : FnScope ["_law_built", "_law_kinds", "_law_row"] ["_law_built"] (defScope s_law_system) := ⟨rfl, rfl, rfl, by decide +kernel, rfl, by decide +kernel, by decide +kernel⟩
theorem cs_law_plan : FnScope ["_law_built", "_law_branches", "_law_blocks", "_law_row"] ["_law_built"] (defScope s_law_plan) := ⟨rfl, rfl, rfl, by decide +kernel, rfl, by decide +kernel, by decide +kernel⟩
theorem cs_law_low : FnScope ["_law_sim", "_law_rows", "_law_numbers"] ["_law_sim"] (defScope s_law_low) := ⟨rfl, rfl, rfl, by decide +kernel, rfl, by decide +kernel, by decide +kernel⟩
theorem cs_law_waits : FnScope ["_law_sim", "_law_plan_here", "_law_s", "_law_statement", "_law_other", "_law_low_here"] ["_law_sim", "_law_plan_here", "_law_s"] (defScope s_law_waits) := ⟨rfl, rfl, rfl, by decide +kernel, rfl, by decide +kernel, by decide +kernel⟩
theorem cs_law_begin : FnScope ["_law_plan_here", "_law_amount", "_law_rests", "_law_lists", "_law_branch_here", "_law_part", "_law_s"] ["_law_plan_here"] (defScope s_law_begin) := ⟨rfl, rfl, rfl, by decide +kernel, rfl, by decide +kernel, by decide +kernel⟩
theorem cs_law_end : FnScope ["_law_sim", "_law_plan_here", "_law_s"] ["_law_sim", "_law_plan_here", "_law_s"] (defScope s_law_end) := ⟨rfl, rfl, rfl, by decide +kernel, rfl, by decide +kernel, by decide +kernel⟩
theorem cs_law_crash : FnScope ["_law_sim", "_law_plan_here", "_law_s"] ["_law_sim", "_law_plan_here"] (defScope s_law_crash) := ⟨rfl, rfl, rfl, by decide +kernel, rfl, by decide +kernel, by decide +kernel⟩
theorem cs_law_take : FnScope ["_law_sim", "_law_plan_here", "_law_s"] ["_law_sim", "_law_plan_here", "_law_s"] (defScope s_law_take) := ⟨rfl, rfl, rfl, by decide +kernel, rfl, by decide +kernel, by decide +kernel⟩
theorem cs_law_act : FnScope ["_law_sim", "_law_plan_here", "_law_s", "_law_statement", "_law_word", "_law_name"] ["_law_sim", "_law_plan_here", "_law_s", "_law_statement"] (defScope s_law_act) := ⟨rfl, rfl, rfl, by decide +kernel, rfl, by decide +kernel, by decide +kernel⟩
theorem cs_law_step : FnScope ["_law_sim", "_law_plan_here", "_law_step_here", "_law_s", "_law_statement", "_law_low_here"] ["_law_sim", "_law_plan_here", "_law_step_here"] (defScope s_law_step) := ⟨rfl, rfl, rfl, by decide +kernel, rfl, by decide +kernel, by decide +kernel⟩
theorem cs_law_moves : FnScope ["_law_sim", "_law_plan_here", "_law_moves_here", "_law_s"] ["_law_sim", "_law_plan_here"] (defScope s_law_moves) := ⟨rfl, rfl, rfl, by decide +kernel, rfl, by decide +kernel, by decide +kernel⟩
theorem cs_law_same : FnScope ["_law_one", "_law_other"] ["_law_one", "_law_other"] (defScope s_law_same) := ⟨rfl, rfl, rfl, by decide +kernel, rfl, by decide +kernel, by decide +kernel⟩
theorem cslaw : FnScope ["_law_script", "_law_pool_here", "_law_built", "_law_system_here", "_law_plan_here", "_law_sim", "_law_running", "_law_schedule", "_law_k", "_law_turn", "_law_moves_here", "_law_step_here", "_law_record", "_law_wide"] ["_law_script"] (defScope slaw) := ⟨rfl, rfl, rfl, by decide +kernel, rfl, by decide +kernel, by decide +kernel⟩
end Tk
set_option maxHeartbeats 0
namespace Tk
open PySem PySem.Spec PyProof.Rows L2
def dsRecord___init__ : He.DefD := ⟨("Record", some "__init__"), "__init__", "Record.__init__", defArgs sRecord___init__, defBody sRecord___init__, defScope sRecord___init__, [], []⟩
def dslate : He.DefD := ⟨("late", none), "late", "late", defArgs slate, defBody slate, defScope slate, [], []⟩
def dsspread : He.DefD := ⟨("spread", none), "spread", "spread", defArgs sspread, defBody sspread, defScope sspread, [], []⟩
def dsis_integer : He.DefD := ⟨("is_integer", none), "is_integer", "is_integer", defArgs sis_integer, defBody sis_integer, defScope sis_integer, [], []⟩
def dsis_name : He.DefD := ⟨("is_name", none), "is_name", "is_name", defArgs sis_name, defBody sis_name, defScope sis_name, [], []⟩
def dsis_place : He.DefD := ⟨("is_place", none), "is_place", "is_place", defArgs sis_place, defBody sis_place, defScope sis_place, [], []⟩
def dshas_form : He.DefD := ⟨("has_form", none), "has_form", "has_form", defArgs shas_form, defBody shas_form, defScope shas_form, [], []⟩
def dsfault_of : He.DefD := ⟨("fault_of", none), "fault_of", "fault_of", defArgs sfault_of, defBody sfault_of, defScope sfault_of, [], []⟩
def dscount_after : He.DefD := ⟨("count_after", none), "count_after", "count_after", defArgs scount_after, defBody scount_after, defScope scount_after, [], []⟩
def dscheck_branch : He.DefD := ⟨("check_branch", none), "check_branch", "check_branch", defArgs scheck_branch, defBody scheck_branch, defScope scheck_branch, [], []⟩
def dschecked : He.DefD := ⟨("checked", none), "checked", "checked", defArgs schecked, defBody schecked, defScope schecked, [], []⟩
def dsScript___init__ : He.DefD := ⟨("Script", some "__init__"), "__init__", "Script.__init__", defArgs sScript___init__, defBody sScript___init__, defScope sScript___init__, [], []⟩
def dsScript___len__ : He.DefD := ⟨("Script", some "__len__"), "__len__", "Script.__len__", defArgs sScript___len__, defBody sScript___len__, defScope sScript___len__, [], []⟩
def dsScript___getitem__ : He.DefD := ⟨("Script", some "__getitem__"), "__getitem__", "Script.__getitem__", defArgs sScript___getitem__, defBody sScript___getitem__, defScope sScript___getitem__, [], []⟩
def dsScript_follow : He.DefD := ⟨("Script", some "follow"), "follow", "Script.follow", defArgs sScript_follow, defBody sScript_follow, defScope sScript_follow, [], []⟩
def dsScript_after : He.DefD := ⟨("Script", some "after"), "after", "Script.after", defArgs sScript_after, defBody sScript_after, defScope sScript_after, [.int (0)], []⟩
def dswithin : He.DefD := ⟨("within", none), "within", "within", defArgs swithin, defBody swithin, defScope swithin, [], []⟩
def dsas_script : He.DefD := ⟨("as_script", none), "as_script", "as_script", defArgs sas_script, defBody sas_script, defScope sas_script, [], []⟩
def dsKind___init__ : He.DefD := ⟨("Kind", some "__init__"), "__init__", "Kind.__init__", defArgs sKind___init__, defBody sKind___init__, defScope sKind___init__, [], [("block", .int (1)), ("many", .int (1))]⟩
def dskinds_fault : He.DefD := ⟨("kinds_fault", none), "kinds_fault", "kinds_fault", defArgs skinds_fault, defBody skinds_fault, defScope skinds_fault, [], []⟩
def dswindow_fits : He.DefD := ⟨("window_fits", none), "window_fits", "window_fits", defArgs swindow_fits, defBody swindow_fits, defScope swindow_fits, [], []⟩
def dssystem_fault : He.DefD := ⟨("system_fault", none), "system_fault", "system_fault", defArgs ssystem_fault, defBody ssystem_fault, defScope ssystem_fault, [], []⟩
def dsis_kept : He.DefD := ⟨("is_kept", none), "is_kept", "is_kept", defArgs sis_kept, defBody sis_kept, defScope sis_kept, [], []⟩
def dsSystem___init__ : He.DefD := ⟨("System", some "__init__"), "__init__", "System.__init__", defArgs sSystem___init__, defBody sSystem___init__, defScope sSystem___init__, [], [("ahead", .int (0)), ("window", .non), ("crashes", .int (0))]⟩
def dsSystem___getitem__ : He.DefD := ⟨("System", some "__getitem__"), "__getitem__", "System.__getitem__", defArgs sSystem___getitem__, defBody sSystem___getitem__, defScope sSystem___getitem__, [], []⟩
def dsSystem_kind_of : He.DefD := ⟨("System", some "kind_of"), "kind_of", "System.kind_of", defArgs sSystem_kind_of, defBody sSystem_kind_of, defScope sSystem_kind_of, [], []⟩
def dsSystem_with_values : He.DefD := ⟨("System", some "with_values"), "with_values", "System.with_values", defArgs sSystem_with_values, defBody sSystem_with_values, defScope sSystem_with_values, [], [("ahead", .int (-1)), ("window", .int (-1)), ("crashes", .int (-1))]⟩
def dsRunning___init__ : He.DefD := ⟨("Running", some "__init__"), "__init__", "Running.__init__", defArgs sRunning___init__, defBody sRunning___init__, defScope sRunning___init__, [], []⟩
def dsRunning___call__ : He.DefD := ⟨("Running", some "__call__"), "__call__", "Running.__call__", defArgs sRunning___call__, defBody sRunning___call__, defScope sRunning___call__, [], []⟩
def dsRunning_statement : He.DefD := ⟨("Running", some "statement"), "statement", "Running.statement", defArgs sRunning_statement, defBody sRunning_statement, defScope sRunning_statement, [], []⟩
def dsRunning_lowest : He.DefD := ⟨("Running", some "lowest"), "lowest", "Running.lowest", defArgs sRunning_lowest, defBody sRunning_lowest, defScope sRunning_lowest, [], []⟩
def dsRunning_blocked : He.DefD := ⟨("Running", some "blocked"), "blocked", "Running.blocked", defArgs sRunning_blocked, defBody sRunning_blocked, defScope sRunning_blocked, [], []⟩
def dsRunning_is_session : He.DefD := ⟨("Running", some "is_session"), "is_session", "Running.is_session", defArgs sRunning_is_session, defBody sRunning_is_session, defScope sRunning_is_session, [], []⟩
def dsRunning_fits : He.DefD := ⟨("Running", some "fits"), "fits", "Running.fits", defArgs sRunning_fits, defBody sRunning_fits, defScope sRunning_fits, [], []⟩
def dsRunning_perform : He.DefD := ⟨("Running", some "perform"), "perform", "Running.perform", defArgs sRunning_perform, defBody sRunning_perform, defScope sRunning_perform, [], []⟩
def dsRunning_crash : He.DefD := ⟨("Running", some "crash"), "crash", "Running.crash", defArgs sRunning_crash, defBody sRunning_crash, defScope sRunning_crash, [], []⟩
def dsRunning_restart : He.DefD := ⟨("Running", some "restart"), "restart", "Running.restart", defArgs sRunning_restart, defBody sRunning_restart, defScope sRunning_restart, [], []⟩
def dsRunning_finish : He.DefD := ⟨("Running", some "finish"), "finish", "Running.finish", defArgs sRunning_finish, defBody sRunning_finish, defScope sRunning_finish, [], []⟩
def dsRunning_hand_out : He.DefD := ⟨("Running", some "hand_out"), "hand_out", "Running.hand_out", defArgs sRunning_hand_out, defBody sRunning_hand_out, defScope sRunning_hand_out, [], []⟩
def dsRunning_execute : He.DefD := ⟨("Running", some "execute"), "execute", "Running.execute", defArgs sRunning_execute, defBody sRunning_execute, defScope sRunning_execute, [], []⟩
def dsRunning_commit : He.DefD := ⟨("Running", some "commit"), "commit", "Running.commit", defArgs sRunning_commit, defBody sRunning_commit, defScope sRunning_commit, [], []⟩
def dsRunning_hold : He.DefD := ⟨("Running", some "hold"), "hold", "Running.hold", defArgs sRunning_hold, defBody sRunning_hold, defScope sRunning_hold, [], []⟩
def dsRunning_advance : He.DefD := ⟨("Running", some "advance"), "advance", "Running.advance", defArgs sRunning_advance, defBody sRunning_advance, defScope sRunning_advance, [], []⟩
def dsRunning_record : He.DefD := ⟨("Running", some "record"), "record", "Running.record", defArgs sRunning_record, defBody sRunning_record, defScope sRunning_record, [], []⟩
def dsRunning_perform_all : He.DefD := ⟨("Running", some "perform_all"), "perform_all", "Running.perform_all", defArgs sRunning_perform_all, defBody sRunning_perform_all, defScope sRunning_perform_all, [], []⟩
def dsrun : He.DefD := ⟨("run", none), "run", "run", defArgs srun, defBody srun, defScope srun, [], []⟩
def ds_law_pool : He.DefD := ⟨("_law_pool", none), "_law_pool", "_law_pool", defArgs s_law_pool, defBody s_law_pool, defScope s_law_pool, [], []⟩
def ds_law_draw : He.DefD := ⟨("_law_draw", none), "_law_draw", "_law_draw", defArgs s_law_draw, defBody s_law_draw, defScope s_law_draw, [], []⟩
def ds_law_names : He.DefD := ⟨("_law_names", none), "_law_names", "_law_names", defArgs s_law_names, defBody s_law_names, defScope s_law_names, [], []⟩
def ds_law_simple : He.DefD := ⟨("_law_simple", none), "_law_simple", "_law_simple", defArgs s_law_simple, defBody s_law_simple, defScope s_law_simple, [], []⟩
def ds_law_branch : He.DefD := ⟨("_law_branch", none), "_law_branch", "_law_branch", defArgs s_law_branch, defBody s_law_branch, defScope s_law_branch, [], []⟩
def ds_law_build : He.DefD := ⟨("_law_build", none), "_law_build", "_law_build", defArgs s_law_build, defBody s_law_build, defScope s_law_build, [], []⟩
def ds_law_system : He.DefD := ⟨("_law_system", none), "_law_system", "_law_system", defArgs s_law_system, defBody s_law_system, defScope s_law_system, [], []⟩
def ds_law_plan : He.DefD := ⟨("_law_plan", none), "_law_plan", "_law_plan", defArgs s_law_plan, defBody s_law_plan, defScope s_law_plan, [], []⟩
def ds_law_low : He.DefD := ⟨("_law_low", none), "_law_low", "_law_low", defArgs s_law_low, defBody s_law_low, defScope s_law_low, [], []⟩
def ds_law_waits : He.DefD := ⟨("_law_waits", none), "_law_waits", "_law_waits", defArgs s_law_waits, defBody s_law_waits, defScope s_law_waits, [], []⟩
def ds_law_begin : He.DefD := ⟨("_law_begin", none), "_law_begin", "_law_begin", defArgs s_law_begin, defBody s_law_begin, defScope s_law_begin, [], []⟩
def ds_law_end : He.DefD := ⟨("_law_end", none), "_law_end", "_law_end", defArgs s_law_end, defBody s_law_end, defScope s_law_end, [], []⟩
def ds_law_crash : He.DefD := ⟨("_law_crash", none), "_law_crash", "_law_crash", defArgs s_law_crash, defBody s_law_crash, defScope s_law_crash, [], []⟩
def ds_law_take : He.DefD := ⟨("_law_take", none), "_law_take", "_law_take", defArgs s_law_take, defBody s_law_take, defScope s_law_take, [], []⟩
def ds_law_act : He.DefD := ⟨("_law_act", none), "_law_act", "_law_act", defArgs s_law_act, defBody s_law_act, defScope s_law_act, [], []⟩
def ds_law_step : He.DefD := ⟨("_law_step", none), "_law_step", "_law_step", defArgs s_law_step, defBody s_law_step, defScope s_law_step, [], []⟩
def ds_law_moves : He.DefD := ⟨("_law_moves", none), "_law_moves", "_law_moves", defArgs s_law_moves, defBody s_law_moves, defScope s_law_moves, [], []⟩
def ds_law_same : He.DefD := ⟨("_law_same", none), "_law_same", "_law_same", defArgs s_law_same, defBody s_law_same, defScope s_law_same, [], []⟩
def dslaw : He.DefD := ⟨("law", none), "law", "law", defArgs slaw, defBody slaw, defScope slaw, [], []⟩
def fn : List He.DefD := [dsRecord___init__, dslate, dsspread, dsis_integer, dsis_name, dsis_place, dshas_form, dsfault_of, dscount_after, dscheck_branch, dschecked, dsScript___init__, dsScript___len__, dsScript___getitem__, dsScript_follow, dsScript_after, dswithin, dsas_script, dsKind___init__, dskinds_fault, dswindow_fits, dssystem_fault, dsis_kept, dsSystem___init__, dsSystem___getitem__, dsSystem_kind_of, dsSystem_with_values, dsRunning___init__, dsRunning___call__, dsRunning_statement, dsRunning_lowest, dsRunning_blocked, dsRunning_is_session, dsRunning_fits, dsRunning_perform, dsRunning_crash, dsRunning_restart, dsRunning_finish, dsRunning_hand_out, dsRunning_execute, dsRunning_commit, dsRunning_hold, dsRunning_advance, dsRunning_record, dsRunning_perform_all, dsrun, ds_law_pool, ds_law_draw, ds_law_names, ds_law_simple, ds_law_branch, ds_law_build, ds_law_system, ds_law_plan, ds_law_low, ds_law_waits, ds_law_begin, ds_law_end, ds_law_crash, ds_law_take, ds_law_act, ds_law_step, ds_law_moves, ds_law_same, dslaw]
def fa : List He.Fa := [.glo "late", .glo "spread", .glo "is_integer", .glo "is_name", .glo "is_place", .glo "has_form", .glo "fault_of", .glo "count_after", .glo "check_branch", .glo "checked", .glo "within", .glo "as_script", .glo "kinds_fault", .glo "window_fits", .glo "system_fault", .glo "is_kept", .glo "run", .glo "_law_pool", .glo "_law_draw", .glo "_law_names", .glo "_law_simple", .glo "_law_branch", .glo "_law_build", .glo "_law_system", .glo "_law_plan", .glo "_law_low", .glo "_law_waits", .glo "_law_begin", .glo "_law_end", .glo "_law_crash", .glo "_law_take", .glo "_law_act", .glo "_law_step", .glo "_law_moves", .glo "_law_same", .glo "law", .glo "Record", .cls "Record", .mkr "Record", .noat "Record" "commits", .noat "Record" "lost", .noat "Record" "out", .noat "Record" "height", .noat "Record" "noted", .noat "Record" "crashes", .noat "Record" "spread", .glo "Script", .cls "Script", .mkr "Script", .noat "Script" "table", .noat "Script" "statements", .noat "Script" "places", .meth "Script" "__len__", .meth "Script" "__getitem__", .meth "Script" "follow", .meth "Script" "after", .glo "Kind", .cls "Kind", .mkr "Kind", .noat "Kind" "name", .noat "Kind" "script", .noat "Kind" "block", .noat "Kind" "many", .glo "System", .cls "System", .mkr "System", .noat "System" "kinds", .noat "System" "ahead", .noat "System" "window", .noat "System" "crashes", .noat "System" "sessions", .meth "System" "__getitem__", .meth "System" "kind_of", .meth "System" "with_values", .glo "Running", .cls "Running", .mkr "Running", .noat "Running" "system", .noat "Running" "height", .noat "Running" "noted", .noat "Running" "crashes", .noat "Running" "places", .noat "Running" "locks", .noat "Running" "transactions", .noat "Running" "stores", .noat "Running" "commits", .noat "Running" "lost", .noat "Running" "spread", .noat "Running" "executed", .noat "Running" "saved", .meth "Running" "__call__", .meth "Running" "statement", .meth "Running" "lowest", .meth "Running" "blocked", .meth "Running" "is_session", .meth "Running" "fits", .meth "Running" "perform", .meth "Running" "crash", .meth "Running" "restart", .meth "Running" "finish", .meth "Running" "hand_out", .meth "Running" "execute", .meth "Running" "commit", .meth "Running" "hold", .meth "Running" "advance", .meth "Running" "record", .meth "Running" "perform_all", .free "len", .free "isinstance", .free "range", .free "enumerate", .free "max", .free "min", .free "list", .free "tuple", .free "int", .free "str", .free "bool", .free "sorted", .int "MOST_STATEMENTS" 8, .int "MOST_NUMBERS" 3, .int "MOST_SESSIONS" 3, .int "MOST_BLOCK" 3, .int "SHORT_SCRIPT" 4, .str "LETTERS" "abcdefghijklmnopqrstuvwxyz", .keep "BadScript", .glo "SIMPLE", .glo "NAMED", .glo "RESETS", .glo "BadScript"]
/-- the tables of the module, and what the call of an instance asks -/
def exB (K : PySem.W.Frag) : Bool := He.tupB K "SIMPLE" [.str "take", .str "commit", .str "rollback", .str "drop", .str "leave"] && (He.tupB K "NAMED" [.str "lock", .str "unlock"] && (He.tupB K "RESETS" [.str "commit", .str "rollback", .str "leave"] &&
  (PySem.W.fnIn K (He.ma K (He.ga K "Running") "__call__") && (PySem.W.fnIn K (He.ma K (He.ga K "Script") "__getitem__") && (PySem.W.fnIn K (He.ma K (He.ga K "System") "__getitem__") &&
  (decide (PySem.W.kitOne K (.type "tuple") (.ref (He.ga K "Script")) = some false) && (decide (PySem.W.findIn K (.ref (He.ga K "Kind")) "__class__" = some (some (.builtin "object.__class__"))) &&
  (decide (PySem.W.specialIn K (.builtin "object.__class__") "__get__" = some (some (.builtin "getset_descriptor.__get__"))) && (decide (PySem.W.takesIn K (.builtin "object.__class__") = some true) && decide (PySem.W.mroIn K (He.ga K "Kind") (.type "object") = some true))))))))))
abbrev AlM : Type := He.AlD × Bool
def obsM (n : Nat) (g : Addr → Option Obj) : AlM := (He.obsDG n fa fn g, exB (He.frG g (He.asD g n)))
def hkM (n : Nat) : PySem.W.Hook where
  α := AlM
  obs := fun s => obsM n s.heap.get?
  val := fun _ => (He.valD fn, true)
  says := fun _ h => ∃ K : PySem.W.Frag, K.In h ∧ (He.SaysD fa fn K ∧ exB K = true)
  of := fun _ _ e => ⟨_, He.frG_in, ⟨congrArg (fun z : AlM => z.1) e, congrArg (fun z : AlM => z.2) e⟩⟩
  keeps := fun _ _ _ ⟨K, hK, c⟩ k => ⟨K, PySem.W.Frag.In.keeps hK k, c⟩
abbrev R : PySem.W.OpenRow := PySem.W.OpenLaw.row PySem.Challenge.rw_takenahead_k16_whole_window_holds
abbrev hk : PySem.W.Hook := hkM 4
def ob (s : PySem.W.SharedT) : AlM := obsM 4 (HandSHeadRun.getT s)
theorem ob_eq (s : PySem.W.SharedT) : ob s = hk.obs s.abs := by
  have e : HandSHeadRun.getT s = s.abs.heap.get? := funext (HandSHeadRun.getT_eq s)
  unfold ob
  rw [e]
  rfl
abbrev qv : Program := PySem.W.view R.prog [66]
def loose1 : List PySem.Str := ["_wall", "Record", "late", "spread", "TakeError", "BadScript", "NoPlace", "NoAnswer", "BadKind", "BadSystem", "NoKind", "NoSession", "BadStep", "LETTERS", "SIMPLE", "NAMED", "RESETS", "MOST_STATEMENTS", "MOST_NUMBERS", "is_integer"]
def loose2 : List PySem.Str := ["is_name", "is_place", "has_form", "fault_of", "count_after", "check_branch", "checked", "Script", "MOST_SESSIONS", "MOST_BLOCK", "SHORT_SCRIPT", "within", "as_script", "Kind", "kinds_fault", "window_fits", "system_fault", "is_kept", "System", "Saved"]
def loose3 : List PySem.Str := ["Running", "run", "_law_pool", "_law_draw", "_law_names", "_law_simple", "_law_branch", "_law_build", "_law_system", "_law_plan", "_law_low", "_law_waits", "_law_begin", "_law_end", "_law_crash", "_law_take", "_law_act", "_law_step", "_law_moves", "_law_same"]
def loose : List PySem.Str := loose1 ++ (loose2 ++ loose3)
noncomputable abbrev endS (w : World) (os : OsState) : Option PySem.W.SharedT := HandSHeadRun.endF (HandSHeadRun.stepQ (HandSHeadRun.denQ HandSHeadRun.tabQ) R.prog w) 60000 R.prog w os
def frS (s : PySem.W.SharedT) : PySem.W.Frag := He.frG (HandSHeadRun.getT s) (He.asD (HandSHeadRun.getT s) 4)
def obF (s : PySem.W.SharedT) : Bool := fa.all fun f => f.ok (frS s)
def obD (s : PySem.W.SharedT) : Bool × List He.FnW := (fn.all fun d => d.ok (frS s), fn.map fun d => He.fnW (frS s) d.at_)
def obX (s : PySem.W.SharedT) : Bool := exB (frS s)
theorem ob_join (s : PySem.W.SharedT) : ob s = ((obF s && (obD s).1, (obD s).2), obX s) := rfl
noncomputable abbrev looksS (w : World) (s : PySem.W.SharedT) : Bool := HandSHeadRun.looksF R.prog (PySem.W.boot_heap w.params) s.abs
noncomputable abbrev seenS (s : PySem.W.SharedT) := HandSHeadRun.seenQ qv loose (importedModules R.prog.main.body) (fun s => PySem.W.xlAt qv [] s && PySem.W.recOk R.toRowW.records s) s.abs
theorem map_join {w : World} {os : OsState} (a : (endS w os).map (fun s => (looksS w s, seenS s, obX s)) = some (true, PySem.W.openGood qv loose, true)) (b : (endS w os).map obF = some true) (c : (endS w os).map obD = some (true, fn.map He.DefD.val)) :
    (endS w os).map (fun s => (looksS w s, seenS s, ob s)) = some (true, PySem.W.openGood qv loose, (He.valD fn, true)) := by
  revert a b c
  generalize endS w os = e
  intro a b c
  cases e with
  | none => cases b
  | some s =>
    rw [Option.map_some] at a b c ⊢
    have b1 := Option.some.inj b
    have c1 := Option.some.inj c
    have a1 := Option.some.inj a
    have a2 : looksS w s = true := congrArg (fun q => q.1) a1
    have a3 : seenS s = PySem.W.openGood qv loose := congrArg (fun q => q.2.1) a1
    have a4 : obX s = true := congrArg (fun q => q.2.2) a1
    rw [ob_join, a2, a3, a4, b1, c1]
    rfl
/-- the run is made once for each look: less memory at a time -/
theorem run_a (w : World) (os : OsState) : (endS w os).map (fun s => (looksS w s, seenS s, obX s)) = some (true, PySem.W.openGood qv loose, true) := by
  kernel_rfl
theorem run_b (w : World) (os : OsState) : (endS w os).map obF = some true := by
  kernel_rfl
theorem run_c (w : World) (os : OsState) : (endS w os).map obD = some (true, fn.map He.DefD.val) := by
  kernel_rfl
theorem run (w : World) : HandSHeadRun.RunEq R qv hk ob 60000 loose w := fun os => map_join (run_a w os) (run_b w os) (run_c w os)
/-- the row holds, if the law's walk does -/
theorem top_ok (said : R.wellSaid = true) (hc : PySem.W.WalkO qv loose (PySem.W.XL qv []) hk.says R.toRowW (HandSHeadRun.topDef R.prog 66) [] fun f vs => PySem.call f vs) : R.Holds := by
  refine HandSHeadRun.head_any (r := R) (q := qv) (H := hk) (ob := ob) (M := 60000) (loose := loose) (d := HandSHeadRun.topDef R.prog 66) (kwd := []) ob_eq (by kernel_rfl) (fun s => by kernel_rfl) run (by kernel_rfl) (by kernel_rfl) (by kernel_rfl) (by rfl) said (by decide +kernel) ⟨rfl, rfl, rfl, rfl, rfl, by decide +kernel⟩ ?hw hc
  case hw => w_witness2
end Tk
section
open PySem PySem.W PySem.Calls PyProof.Rows
theorem Tk.top_law (hc : PySem.W.WalkO Tk.qv Tk.loose (PySem.W.XL Tk.qv []) Tk.hk.says Tk.R.toRowW (HandSHeadRun.topDef Tk.R.prog 66) [] fun f vs => PySem.call f vs) : PySem.Challenge.rw_takenahead_k16_whole_window_holds.Holds := by
  w_on; o_law
  exact Tk.top_ok (by assumption) hc
end
set_option maxHeartbeats 4000000
/-! further rules over the hand layer: own subscripts, own len, the least of a list with a default, membership in a tuple of data, enumerate of a tuple, sorted tuples of ints of any lengths, methods and makers with keywords -/
namespace Tk
open PySem PySem.Spec PyProof.Rows L2
/-! ### an own __getitem__ -/
structure GetO (K : PySem.W.Frag) (C f : Addr) : Prop where
  me : Meth K C "__getitem__" f
  fi : PySem.W.fnIn K f = true
section
variable {X : Cx} {CX : CXT} {k : Nat} {f C : Addr} {fd : FuncData} {ps : List Str} {sp : Sp} {E : XK} {o i : Expr} {pos : Pos} {ta ti : TE}
/-- o[i], o an instance of the class at C -/
def tIxO (C : Addr) (sp : Sp) (E : XK) (ta ti : TE) : TE := fun σ H Q => ta σ H fun x H1 => ti σ H1 fun y H2 => ∃ a dx fs, x = .ref a ∧ H2 a = some (.ins C dx fs) ∧ sp [x, y] H2 Q E
theorem run_in1 {pins : List (Addr × Obj)} {σ : L2.St} {H : Hp} {s : Shared} {Q : VK} {us : List Value} {vs : List V} (F : FnOk X.prog X.w X.K X.mg X.base CX k f fd ps sp) (hr : Room (k + 1) X.A) (hb : Binds X.K fd ps []) (hx : Passes CX X E)
    (I : Inv X pins σ H s) (r : Vals vs us) (h : sp vs H Q E) : wpAny (model X.prog X.w) X.A.in1 (call (.ref f) us) (EP X pins σ Q) X.xe s := by
  have hl : (us ++ []).length = ps.length := by rw [List.append_nil, ← r.length]; exact F.len _ _ _ _ h
  have hb2 := hb s us I.kIn hl
  rw [List.append_nil] at hb2
  refine wpAny_call (codeAny_mono (F.run X.A.in1 X.stack s H ⟨us, []⟩ us vs Q E hr.in1 I.env0.in1 hb2 r h) fun r s' hq => ?_)
  cases r with
  | error e => exact hx pins σ H s e s' I hq
  | ok fl =>
    cases fl with
    | ret u => exact I.after hq
    | next => exact False.elim hq
    | brk => exact False.elim hq
    | cont => exact False.elim hq
theorem pe_ixO (ha : PE X o ta) (hi : PE X i ti) (c : GetO X.K C f) (F : FnOk X.prog X.w X.K X.mg X.base CX k f fd ps sp) (hr : Room (k + 1) X.A) (hb : Binds X.K fd ps []) (hx : Passes CX X E)
    (hsl : ∀ v u, subscripted i true v u = runValue (.builtin "lifetime.subscript" ⟨[v, u], []⟩) := by intro _ _; rfl) : PE X (.Subscript o i pos) (tIxO C sp E ta ti) := by
  refine ⟨fun pins s σ H Q I h => ?_⟩
  refine Subscript_ (binT (R := fun x y H2 => ∃ a dx fs, x = .ref a ∧ H2 a = some (.ins C dx fs) ∧ sp [x, y] H2 Q E) ha hi I h fun v u s2 x y H2 I2 rx ry q => ?_)
  obtain ⟨a, dx, fs, rfl, he, hq⟩ := q
  obtain rfl : v = Value.ref a := rx
  obtain ⟨mA, O, _⟩ := ins_get I2.hok he
  obtain ⟨od, J, _⟩ := O.look
  obtain ⟨m, Fm⟩ := I2.fr
  exact PySem.W.sub_K Fm I2.ok.mod.kin J c.me.at_ c.fi c.me.fn (run_in1 F hr hb hx I2 (vs := [V.ref a, y]) (.cons (show RelV (.ref a) (.ref a) from rfl) (.cons ry .nil)) hq) (hsl _ _)
/-! ### an own __len__ -/
def rLenO (C : Addr) (sp : Sp) (E : XK) : List V → Hp → VK → Prop := fun xs H Q => ∃ a dx fs, xs = [.ref a] ∧ H a = some (.ins C dx fs) ∧ sp [.ref a] H (fun v H' => ∃ n : Int, v = .int n ∧ (0 ≤ n ∧ n < 2 ^ 63) ∧ Q (.int n) H') E
theorem call_lenO (me : Meth X.K C "__len__" f) (F : FnOk X.prog X.w X.K X.mg X.base CX k f fd ps sp) (hr : Room (k + 1) X.A) (hb : Binds X.K fd ps []) (hx : Passes CX X E) : CallR X (.builtin "len") (rLenO C sp E) := by
  intro pins s σ H xs us Q I r h
  obtain ⟨a, dx, fs, rfl, he, hq⟩ := h
  obtain ⟨u, rfl, ru⟩ := vals1 r
  obtain rfl : u = Value.ref a := ru
  obtain ⟨mA, O, _⟩ := ins_get I.hok he
  obtain ⟨od, J, _⟩ := O.look
  obtain ⟨m, Fm⟩ := I.fr
  refine PySem.W.len_K Fm I.ok.mod.kin J me.at_ me.fn (wpAny_mono (run_in1 F hr hb hx I (vs := [V.ref a]) (.cons (show RelV (.ref a) (.ref a) from rfl) .nil) hq) (fun v s' hv => ?_) fun _ _ z => z)
  obtain ⟨y, H', I', ry, n, rfl, hn, q⟩ := hv
  obtain ⟨t, rfl⟩ := ry
  exact ⟨hn, .int n, H', I'.tok _, ⟨_, rfl⟩, q⟩
end
/-! ### x in t, t a tuple of data -/
section
variable {X : Cx}
def rInT (K : PySem.W.Frag) : R2 := fun x y H Q => ∃ d ds, Dp K H x d ∧ Dp K H y (.tuple ds) ∧ SeqAt.shaped d = true ∧ SeqAt.shaped (.tuple ds) = true ∧ Q (.bl (ds.any fun z => PyData.eqv z d)) H
def rNotInT (K : PySem.W.Frag) : R2 := fun x y H Q => ∃ d ds, Dp K H x d ∧ Dp K H y (.tuple ds) ∧ SeqAt.shaped d = true ∧ SeqAt.shaped (.tuple ds) = true ∧ Q (.bl (!ds.any fun z => PyData.eqv z d)) H
theorem op_inT (hu : X.A.units + 65 < cLine) : OpR X (compareOp .In) (rInT X.K) := by
  intro pins s σ H x y v u Q I rx ry h
  obtain ⟨d, ds, hd, he, sd, se, q⟩ := h
  obtain ⟨as, r1⟩ := Dp.reads I d x v hd rx
  obtain ⟨bs, r2⟩ := Dp.reads I (.tuple ds) y u he ry
  exact SeqAt.in_tuple_reads r2 r1 (SeqAt.canLay_of_shaped se) (SeqAt.canLay_of_shaped sd) (room_in_shaped sd hu) ⟨.bl _, H, I, rfl, q⟩
theorem op_notInT (hu : X.A.units + 65 < cLine) : OpR X (compareOp .NotIn) (rNotInT X.K) := by
  intro pins s σ H x y v u Q I rx ry h
  obtain ⟨d, ds, hd, he, sd, se, q⟩ := h
  obtain ⟨as, r1⟩ := Dp.reads I d x v hd rx
  obtain ⟨bs, r2⟩ := Dp.reads I (.tuple ds) y u he ry
  exact SeqAt.notIn_tuple_reads r2 r1 (SeqAt.canLay_of_shaped se) (SeqAt.canLay_of_shaped sd) (room_in_shaped sd hu) ⟨.bl _, H, I, rfl, q⟩
end
/-! ### min(xs, default=None), xs a list of ints -/
theorem dpAll_ints {K : PySem.W.Frag} {H : Hp} : ∀ ns : List Int, DpAll K H (ns.map V.int) (ns.map PyData.int)
  | [] => .nil
  | n :: ns => .cons (.int n) (dpAll_ints ns)
theorem lt_ints (a b : Int) : PySem.W.dataLt (.int a) (.int b) = decide (a < b) := PySem.W.dataLt_int a b
theorem minD_ints : ∀ (ys : List Int) (y : Int), ∃ m, PySem.W.minD (.int y) (ys.map PyData.int) = .int m ∧ m ∈ y :: ys ∧ ∀ j ∈ y :: ys, m ≤ j
  | [], y => ⟨y, rfl, List.mem_cons_self, fun j hj => by rcases List.mem_cons.mp hj with e | e <;> first | (rw [e]; exact Int.le_refl _) | cases e⟩
  | z :: ys, y => by
    have e : PySem.W.minD (.int y) ((z :: ys).map PyData.int) = PySem.W.minD (.int (if z < y then z else y)) (ys.map PyData.int) := by
      show List.foldl _ (if PySem.W.dataLt (.int z) (.int y) = true then PyData.int z else PyData.int y) _ = List.foldl _ _ _
      rw [lt_ints]
      by_cases h : z < y
      · rw [decide_eq_true h, if_pos rfl, if_pos h]
      · rw [decide_eq_false h, if_neg Bool.false_ne_true, if_neg h]
    obtain ⟨m, h1, h2, h3⟩ := minD_ints ys (if z < y then z else y)
    refine ⟨m, e.trans h1, ?_, fun j hj => ?_⟩
    · rcases List.mem_cons.mp h2 with q | q
      · rw [q]
        by_cases h : z < y
        · rw [if_pos h]; simp
        · rw [if_neg h]; simp
      · simp [q]
    · have h0 := h3 _ List.mem_cons_self
      rcases List.mem_cons.mp hj with q | q
      · rw [q]
        by_cases h : z < y
        · rw [if_pos h] at h0; omega
        · rw [if_neg h] at h0; exact h0
      · rcases List.mem_cons.mp q with q | q
        · rw [q]
          by_cases h : z < y
          · rw [if_pos h] at h0; exact h0
          · rw [if_neg h] at h0; omega
        · exact h3 j (List.mem_cons_of_mem _ q)
section
variable {X : Cx}
def rMinD (K : PySem.W.Frag) : List V → List V → Hp → VK → Prop := fun vs zs H Q => ∃ (a : Addr) (ns : List Int), vs = [.ref a] ∧ zs = [.non] ∧ SqL K H a (ns.map V.int) ∧ (ns = [] → Q .non H) ∧ ∀ m, m ∈ ns → (∀ j ∈ ns, m ≤ j) → Q (.int m) H
theorem alike_ints (ns : List Int) : PySem.W.AlikeAll (ns.map PyData.int) := by
  refine ⟨fun x hx y hy => ?_, fun x hx => ?_⟩
  · obtain ⟨i, _, rfl⟩ := List.mem_map.mp hx
    obtain ⟨j, _, rfl⟩ := List.mem_map.mp hy
    rfl
  · obtain ⟨i, _, rfl⟩ := List.mem_map.mp hx
    intro z
    cases z
theorem depth_ints : ∀ ns : List Int, PyData.depthAll (ns.map PyData.int) ≤ 1
  | [] => by simp [PyData.depthAll]
  | n :: ns => by
    have := depth_ints ns
    simp only [List.map_cons, PyData.depthAll, PyData.depth]
    omega
theorem cr_minD (hc : X.calm = true) (hu : X.A.units + 64 < cLine) : CallRK X (.builtin "min") [Str.ofString "default"] (rMinD X.K) := by
  intro pins s σ H vs zs us ws Q I r rz h
  obtain ⟨a, ns, rfl, rfl, hs, q0, q1⟩ := h
  obtain rfl := Vals.ref1 r
  obtain ⟨w1, rfl, e1⟩ := vals1 rz
  obtain rfl : w1 = Value.none := e1
  obtain ⟨its, rv, hl, hz⟩ := I.list hs
  obtain ⟨as, hr⟩ := Dp.readsAll I (ns.map PyData.int) _ its (dpAll_ints ns) rv
  have hd := depth_ints ns
  refine PySem.W.min_list_default (d := Value.none) (I.ok.hd hc) hl.isList (by simpa using hr) (alike_ints ns) (by omega) (fun e h' tk hk => ?_) fun y ys i v h' tk bs e hv hrd hk => ?_
  · have e' : ns = [] := List.map_eq_nil_iff.mp e
    exact ⟨.non, H, I.kept hk, rfl, q0 e'⟩
  · cases ns with
    | nil => cases e
    | cons n ns =>
      rw [List.map_cons] at e
      injection e with e1 e2
      subst e1 e2
      obtain ⟨m, h1, h2, h3⟩ := minD_ints ns n
      rw [h1] at hrd
      obtain ⟨t, rfl⟩ : ∃ t, v = .int m t := by
        cases hrd with
        | int i t => exact ⟨t, rfl⟩
      exact ⟨.int m, H, I.kept hk, ⟨_, rfl⟩, q1 m h2 h3⟩
end
/-! ### sorted(xs), xs a list of tuples of ints of any lengths but 0 -/
def encT (b : Addr × List Int) : PyData := .tuple (b.2.map PyData.int)
theorem alikeAll_ints : ∀ ns ms : List Int, PySem.W.alikeAll (ns.map PyData.int) (ms.map PyData.int) = true
  | [], _ => by simp [PySem.W.alikeAll]
  | _ :: _, [] => by simp [PySem.W.alikeAll]
  | n :: ns, m :: ms => by
    simp only [List.map_cons, PySem.W.alikeAll, PySem.W.alike, Bool.true_and]
    exact alikeAll_ints ns ms
section
variable {X : Cx}
theorem each_refs : ∀ bs : List (Addr × List Int), PySem.W.EachIs (fun v (b : Addr × List Int) => v = Value.ref b.1) (bs.map fun b => Value.ref b.1) bs
  | [] => .nil
  | b :: bs => .cons rfl (each_refs bs)
theorem each_refs_of {R : Value → Addr × List Int → Prop} : ∀ bs : List (Addr × List Int), (∀ b ∈ bs, R (.ref b.1) b) → PySem.W.EachIs R (bs.map fun b => Value.ref b.1) bs
  | [], _ => .nil
  | b :: bs, h => .cons (h b List.mem_cons_self) (each_refs_of bs fun c hc => h c (List.mem_cons_of_mem _ hc))
theorem refs_each : ∀ {out : List Value} {bs : List (Addr × List Int)}, PySem.W.EachIs (fun v (b : Addr × List Int) => v = Value.ref b.1) out bs → out = bs.map fun b => Value.ref b.1
  | _, _, .nil => rfl
  | _, _, .cons e r => by rw [e, refs_each r]; rfl
theorem vals_refs : ∀ bs : List (Addr × List Int), Vals (bs.map fun b => V.ref b.1) (bs.map fun b => Value.ref b.1)
  | [] => .nil
  | b :: bs => .cons (show RelV (.ref b.1) (.ref b.1) from rfl) (vals_refs bs)
def rSortTL (K : PySem.W.Frag) : List V → Hp → VK → Prop := fun vs H Q => ∃ (a : Addr) (bs : List (Addr × List Int)), vs = [.ref a] ∧ SqL K H a (bs.map fun b => V.ref b.1) ∧ (∀ b ∈ bs, SqT K H b.1 (b.2.map V.int) ∧ b.2 ≠ []) ∧
  ∀ (cs : List (Addr × List Int)) (p : Addr), cs.Perm bs → H p = none → Q (.ref p) (upd H p (.lst (cs.map fun b => V.ref b.1)))
theorem cr_sortTL (hu : X.A.units + 64 < cLine) : CallR X (.builtin "sorted") (rSortTL X.K) := by
  intro pins s σ H vs us Q I r h
  obtain ⟨a, bs, rfl, hs, hb, q⟩ := h
  obtain ⟨its, rv, hl, hz⟩ := I.list hs
  rw [Vals.ref1 r]
  have hits : its = bs.map fun b => Value.ref b.1 := by
    clear hl hz hs hb q
    induction bs generalizing its with
    | nil => cases rv; rfl
    | cons b bs ih =>
      cases rv with
      | cons r1 r2 =>
        rw [List.map_cons, ← ih _ r2]
        exact congrArg (fun z => z :: _) r1
  subst hits
  have hlen : bs.length ≤ sizeLine := by rw [List.length_map] at hz; exact hz
  refine PySem.W.sorted_data (enc := encT) (R := fun v b => v = Value.ref b.1) (bs := bs) hl.isList ?_ ?_ (PySem.W.AllAlike.of fun b b' => by show PySem.W.alike (encT b) (encT b') = true; unfold encT; simp only [PySem.W.alike]; exact alikeAll_ints _ _) ?_ hlen (fun b hm => ?_) fun out ho eo => ?_
  · exact each_refs bs
  · refine each_refs_of bs fun b hm => ?_
    obtain ⟨h1, _⟩ := hb b hm
    obtain ⟨as, hr⟩ := Dp.reads I (encT b) (.ref b.1) (.ref b.1) (.tup h1 (dpAll_ints b.2)) rfl
    exact ⟨as, hr⟩
  · refine .inl fun d hd => ?_
    obtain ⟨b, hm, rfl⟩ := List.mem_map.mp hd
    obtain ⟨_, h2⟩ := hb b hm
    cases e : b.2 with
    | nil => exact absurd e h2
    | cons n ns => exact ⟨.int n, ns.map PyData.int, by unfold encT; rw [e]; rfl⟩
  · have hd := depth_ints b.2
    show X.A.units + 2 + (encT b).depth < cLine
    unfold encT
    simp only [PyData.depth]
    omega
  · have hout : out = (bs.mergeSort (PySem.W.dataLe false encT)).map fun b => Value.ref b.1 := refs_each eo
    obtain ⟨ep, he'⟩ := PyProof.Rows.sortedAll_at s.heap (bs.map fun b => Value.ref b.1) out.toArray
    have hp : (bs.mergeSort (PySem.W.dataLe false encT)).Perm bs := List.mergeSort_perm bs _
    have hl2 : ((bs.mergeSort (PySem.W.dataLe false encT)).map fun b => V.ref b.1).length ≤ sizeLine := by rw [List.length_map, hp.length_eq]; exact hlen
    refine ⟨.ref _, upd H (s.heap.objs.size + 1) (.lst ((bs.mergeSort (PySem.W.dataLe false encT)).map fun b => V.ref b.1)), I.laid (t' := s.toks) (fun _ _ => PyProof.Rows.sortedAll_old) (Nat.le_succ _) ⟨hl2, out, ep, ?_, by simpa using he'⟩, rfl, q _ _ hp (I.hok.fresh (Nat.le_succ _))⟩
    rw [hout]
    exact vals_refs _
end
end Tk
namespace Tk
open PySem PySem.Spec PyProof.Rows L2
/-! ### o.m(k = v, ..) -/
section
variable {X : Cx} {CX : CXT} {k : Nat} {f C : Addr} {fd : FuncData} {ps ks : List Str} {sp : Sp} {E : XK} {o : Expr} {m : Str} {apos pos : Pos} {kws : List Keyword} {ta : TE} {tk : TA} {g : List Value → List Value → List Value} {gV : List V → List V → List V}
def tMethKw (C : Addr) (m : Str) (n : Nat) (sp : Sp) (gV : List V → List V → List V) (E : XK) (ta : TE) (tk : TA) : TE := fun σ H Q => ta σ H fun x H1 => ∃ a dx fs, x = .ref a ∧ H1 a = some (.ins C dx fs) ∧ fs.lookup m = none ∧
  tk σ H1 fun zs H2 => zs.length = n ∧ sp (gV [x] zs) H2 Q E
theorem pe_methKw {pl : Sem Bool} (he : PE X o ta) (c : Cls X.K C) (hm : Meth X.K C m f) (F : FnOk X.prog X.w X.K X.mg X.base CX k f fd ps sp) (hr : Room k X.A) (hb : KBn X.K fd ps 1 ks g gV) (hx : Passes CX X E) (hkw : PK X kws tk)
    (hall : (backToKw pos (keywordEach kws X.env)).all (·.1.isSome) = true := by rfl) (hks : (backToKw pos (keywordEach kws X.env)).filterMap (·.1) = ks := by rfl)
    (hpl : ((backTo pos (starEach [] X.env)).any (·.1) || (backToKw pos (keywordEach kws X.env)).any (·.1.isNone)) = false := by rfl)
    (ht : eval (.Call (.Attribute o m apos) [] kws pos) X.env = (do
      let ov ← eval o X.env
      standAt apos.atName
      let (f, first) ← holding [ov] (getMethod ov m pl)
      callWith pos f first (backTo pos (starEach [] X.env)) (backToKw pos (keywordEach kws X.env))) := by rfl) :
    PE X (.Call (.Attribute o m apos) [] kws pos) (tMethKw C m ks.length sp gV E ta tk) := by
  refine ⟨fun pins s σ H Q I h => ?_⟩
  refine PySem.W.methodCall_KW (pl := pl) (thn (he.run pins s σ H _ I h) fun u s1 ⟨x, H1, I1, rx, a, dx, fs, ex, ea, l, q⟩ => ?_) ht
  subst ex
  obtain rfl : u = Value.ref a := rx
  refine getmeth_ok I1 ea c hm l ?_
  refine PySem.W.callWith_KW0 (first := [.ref a]) (h₀ := X.base) I.ok.mod.kin hm.kp hall (thn (hkw.run pos pins s1 σ H1 _ I1 q) fun ws s2 ⟨zs, H2, I2, rz, l2, q2⟩ => ⟨I2.kIn, ?_⟩) hpl
  rw [hks]
  exact run_fnN (us := [.ref a]) (vs := [.ref a]) F hr hb hx I2 (.cons (show RelV (.ref a) (.ref a) from rfl) .nil) rz rfl l2 q2
end
/-! ### for i, x in enumerate(t), t a tuple -/
theorem meets_enumerate_newT (l : Addr) (items : Array Value) (n : Nat) (dct : Option Addr) (sl : Array (Option Value)) :
    Meets (Builtin.«enumerate.__new__» ⟨[.type "enumerate", .ref l], []⟩) (fun _ R s => s.heap.get? l = some { cls := .type "tuple", dict := dct, data := .seq items n, slots := sl } ∧
      R (.ok (.ret (.ref (s.heap.push { cls := .type "tuple_iterator", data := .fields #[.ref l, .int 0 0] }).objs.size)))
        { s with heap := (s.heap.push { cls := .type "tuple_iterator", data := .fields #[.ref l, .int 0 0] }).push { cls := .type "enumerate", data := .fields #[.none, .bool false, .ref s.heap.objs.size, rawInt 0, .none, .none] } }) :=
  .of_wp fun prog w A R s h => by
    obtain ⟨hp, g, d, tk, os⟩ := s
    obtain ⟨hl, h⟩ := h
    have hsub := sub_enumerate
    have hL : Heap.IsTuple (Shared.heap ⟨hp, g, d, tk, os⟩) l items := ⟨_, hl, rfl, n, rfl⟩
    wp_walk using AutoSeq1.wpAny_loadPart' hl
    refine wpAny_stack_any fun st => wpAny_pure ?_
    split
    · rename_i c _ _ _ _ _
      cases (c == Value.type "enumerate")
      · wp_walk using AutoSeq1.wpAny_loadPart' hl, wpAny_pyIter_tuple hL
        exact ⟨_, rfl, h⟩
      · wp_walk using AutoSeq1.wpAny_loadPart' hl, wpAny_pyIter_tuple hL
        exact ⟨_, rfl, h⟩
    · wp_walk using AutoSeq1.wpAny_loadPart' hl, wpAny_pyIter_tuple hL
      exact ⟨_, rfl, h⟩
section
variable {prog : Program} {w : World} {A : Around} {E : Value → Shared → Prop} {s : Shared}
theorem call_enumerate_tuple {l : Addr} {items : Array Value} {Q : Value → Shared → Prop} (hL : s.heap.IsTuple l items)
    (h : ∀ h', IsEnum h' (s.heap.objs.size + 1) s.heap.objs.size 0 .none → h'.IsTupleIter s.heap.objs.size l 0 → (∀ b o, s.heap.get? b = some o → h'.get? b = some o) → Q (.ref (s.heap.objs.size + 1)) { s with heap := h' }) :
    wpAny (model prog w) A (call (.type "enumerate") [.ref l]) Q E s := by
  obtain ⟨⟨c, dct, dt, sl⟩, hl, hc, n, hd⟩ := hL
  obtain rfl : c = .type "tuple" := hc
  obtain rfl : dt = .seq items n := hd
  refine callType_new F.called_enumerate (by decide) (F.typeCall_enumerate_1 _) (F.newCall_enumerate_1 _) (fun obj => F.args_object_init_2 obj _) F.entry_enumerate_new (meets_enumerate_newT l items n dct sl) ⟨hl, ?_⟩
  have hz : (s.heap.push { cls := .type "tuple_iterator", data := .fields #[.ref l, .int 0 0] }).objs.size = s.heap.objs.size + 1 := Heap.size_push ..
  show _ ∧ _
  rw [hz]
  have he : IsEnum ((s.heap.push { cls := .type "tuple_iterator", data := .fields #[.ref l, .int 0 0] }).push { cls := .type "enumerate", data := .fields #[.none, .bool false, .ref s.heap.objs.size, rawInt 0, .none, .none] }) (s.heap.objs.size + 1) s.heap.objs.size 0 .none := by
    have z := Heap.get?_push_size (s.heap.push { cls := .type "tuple_iterator", data := .fields #[.ref l, .int 0 0] }) (o := { cls := .type "enumerate", data := .fields #[.none, .bool false, .ref s.heap.objs.size, rawInt 0, .none, .none] }) rfl
    rw [hz] at z
    exact z
  exact ⟨⟨_, he, rfl⟩, h _ he ⟨_, Heap.get?_push_of_some _ (Heap.get?_push_size _ rfl), rfl, rfl⟩ fun b o x => Heap.get?_push_of_some _ (Heap.get?_push_of_some _ x)⟩
end
/-- the tuple at a, each item in a new pair -/
def Itet (K : PySem.W.Frag) (a : Addr) : It :=
  ⟨fun i H => ∃ (xs : List V) (x : V), SqT K H a xs ∧ xs[i]? = some x, fun i H v H' => ∃ T x, v = .ref T ∧ H T = none ∧ H' = upd H T (.tup [.int (i : Nat), x]) ∧ ∀ xs, SqT K H a xs → xs[i]? = some x, fun i H => ∃ xs : List V, SqT K H a xs ∧ xs.length = i⟩
theorem tup_ne_it {h : Heap} {a it : Addr} {items : Array Value} {i : Nat} (p : IsTup h a items) (q : h.IsTupleIter it a i) : a ≠ it := fun e => by
  obtain ⟨o, h1, h2, _⟩ := p
  obtain ⟨o', h3, h4, _⟩ := q
  rw [e, h3] at h1
  cases h1
  rw [h4] at h2
  exact absurd (Value.type.inj h2) (by decide)
theorem tup_ne_en {h : Heap} {a e it : Addr} {items : Array Value} {i : Int} {old : Value} (p : IsTup h a items) (q : IsEnum h e it i old) : e ≠ a := fun z => by
  obtain ⟨o, h1, h2, _⟩ := p
  have h3 : h.get? e = _ := q
  rw [z, h1] at h3
  cases h3
  exact absurd (Value.type.inj h2) (by decide)
theorem turn_enumT {P : Program} {w : World} {K : PySem.W.Frag} {elts : List Expr} {kk : Nat} {tpos : Pos} (a e it : Addr) :
    Turn P w K (.Tuple elts kk tpos) (Itet K a) [e, it] e (fun i h => (∃ old, IsEnum h e it ((i : Nat) : Int) old) ∧ h.IsTupleIter it a i ∧ e ≠ it) where
  mem := by simp
  obj := fun i h st b hb => by
    obtain ⟨⟨old, he⟩, ⟨o, ho, hc, hd⟩, _⟩ := st
    have e' : b = e ∨ b = it := by simpa using hb
    rcases e' with z | z
    · rw [z]; exact ⟨_, he, fun v q => nomatch q⟩
    · rw [z]; exact ⟨o, ho, fun v q => by rw [hd] at q; cases q⟩
  keep := fun i h h' st k => let ⟨⟨old, he⟩, hi, hne⟩ := st; ⟨⟨old, k e (by simp) _ he⟩, hi.at fun o q => k it (by simp) o q, hne⟩
  item := by
    intro X hP hw hK hc i pins s σ H E I hf st hg
    subst hP hw hK
    obtain ⟨⟨old, he⟩, hit, hne⟩ := st
    obtain ⟨xs, x, hq, hx⟩ := hg
    obtain ⟨its, rv, p, hz⟩ := I.tuple hq
    obtain ⟨u, hu, ru⟩ := rv.get hx
    have hel : e < s.heap.objs.size := Heap.lt_size he
    have hil : it < s.heap.objs.size := by obtain ⟨_, q, _⟩ := hit; exact Heap.lt_size q
    have nai := tup_ne_it p hit
    have nea := tup_ne_en p he
    have hi : i < its.toArray.size := by
      rw [List.size_toArray]
      exact (List.getElem?_eq_some_iff.mp hu).1
    refine wpAny_pyNext_enum_itemD (Draws.tuple (A := X.A.in1) (I.ok.hd hc) it a nai its.toArray) he ⟨hit, p⟩ hi hne (by simp [hne, nea]) fun v h' tk hv ho hst' hT hsz hk => ?_
    have ev : v = u := Option.some.inj (hv.symm.trans (by simpa using hu))
    subst ev
    refine ⟨_, rfl, wpAny_letOwnedTupleGo_enum (s := { s with heap := h', toks := tk + 1 }) ho fun h'' he' sb => ?_⟩
    have hT2 : h''.get? s.heap.objs.size = some { cls := .type "tuple", data := .seq #[.int i tk, v] } := (sb.2 _ (Nat.ne_of_gt hel)).trans hT
    have new : ObjOk X.prog X.w (upd H s.heap.objs.size (.tup [.int (i : Nat), x])) h'' s.heap.objs.size (.tup [.int (i : Nat), x]) :=
      ⟨by show 2 ≤ sizeLine; decide, [.int i tk, v], .cons ⟨_, rfl⟩ (.cons ru .nil), ⟨_, hT2, rfl, _, rfl⟩⟩
    have I1 : Inv X pins σ (upd H s.heap.objs.size (.tup [.int (i : Nat), x])) { s with heap := h'', toks := tk + 1 } :=
      I.turnedNew (ch := [e, it]) (fun b ob hb q => (sb.2 b (fun z => hb (by simp [z]))).trans (hk b ob (fun z => hb (by simp [z])) (fun z => hb (by simp [z])) q)) hf (Nat.le_refl _) new
    refine ⟨.ref s.heap.objs.size, _, I1, rfl, ⟨_, x, rfl, I.hok.fresh (Nat.le_refl _), rfl, fun ys hy => by rw [I.tuple_inj hy hq]; exact hx⟩, ⟨⟨v, ?_⟩, hst'.1.at fun o q => (sb.2 it (Ne.symm hne)).trans q, hne⟩, fun b hb => ?_⟩
    · have e1 : ((i + 1 : Nat) : Int) = (i : Int) + 1 := by omega
      rw [e1]; exact he'
    · have hb' : b < s.heap.objs.size := by
        have e' : b = e ∨ b = it := by simpa using hb
        rcases e' with z | z
        · rw [z]; exact hel
        · rw [z]; exact hil
      rw [upd_ne (Nat.ne_of_lt hb')]
      exact (hf b hb).1
  done := by
    intro X hP hw hK hc i pins s σ H E I hf st hg
    subst hP hw hK
    obtain ⟨⟨old, he⟩, hit, hne⟩ := st
    obtain ⟨xs, hq, hx⟩ := hg
    obtain ⟨its, rv, p, hz⟩ := I.tuple hq
    obtain ⟨f0, f1, f2, f3, f4, f5⟩ := hf it (by simp)
    have hl := rv.length
    have nai := tup_ne_it p hit
    have hsz : its.toArray.size = i := by rw [List.size_toArray, ← hl, hx]
    refine wpAny_pyNext_enum_endD (Draws.tuple (A := X.A.in1) (I.ok.hd hc) it a nai its.toArray) he (by rw [hsz]; exact ⟨hit, p⟩) fun h' eb => ⟨rfl, I.turned (t' := s.toks) (fun b o hb q => eb b o hb q) f0 f1 f3 f4 f5⟩
  self := fun A i s Q E st h => let ⟨⟨_, he⟩, _⟩ := st; wpAny_pyIter_enum he h
def iEnumT (K : PySem.W.Frag) (ta : TA) : TI := fun σ H R => ta σ H fun vs H1 => ∃ a xs, vs = [.ref a] ∧ SqT K H1 a xs ∧ R (Itet K a) H1
theorem pi_enumT {X : Cx} {e : Expr} {ta : TA} {p pos tpos : Pos} {elts : List Expr} {kk : Nat} (hg : Gl X "enumerate") (hm : X.mg "enumerate" = none) (ha : PA X [e] ta) (hs : starEach [e] X.env = [(false, eval e X.env)] := by rfl) :
    PI X (.Tuple elts kk tpos) (.Call (.Name "enumerate" p) [e] [] pos) (iEnumT X.K ta) := by
  refine ⟨fun pins s σ H R I h => ?_⟩
  refine Call_ (ld_blt I hg hm boot_enumerate (PyProof.Rows.callWith_type1 (thn (ha.run pos pins s σ H _ I h) fun us s1 ⟨vs, H1, I1, r1, q1⟩ => ?_) hs rfl))
  obtain ⟨a, xs, ex, hq, q⟩ := q1
  subst ex
  cases r1 with
  | cons r rr =>
    cases rr
    cases r
    obtain ⟨its, rv, p', hz⟩ := I1.tuple hq
    refine call_enumerate_tuple (show Heap.IsTuple _ _ _ from p') fun h' he hit hk => wpAny_pyIter_enum he ?_
    have I2 : Inv X pins σ H1 { s1 with heap := h' } := I1.kept (t' := s1.toks) hk
    refine ⟨s1.heap.objs.size + 1, [s1.heap.objs.size + 1, s1.heap.objs.size], _, _, H1, rfl, I2, turn_enumT a (s1.heap.objs.size + 1) s1.heap.objs.size, ⟨⟨.none, he⟩, hit, Nat.succ_ne_self _⟩, fun b hb => ?_, q⟩
    have hle : s1.heap.objs.size ≤ b := by
      rcases List.mem_cons.mp hb with z | z
      · rw [z]; exact Nat.le_add_right _ _
      · rw [List.mem_singleton.mp z]; exact Nat.le_refl _
    exact I1.fpOk hle (I1.hok.fresh hle)
/-! ### the two enumerates as loops -/
theorem for_enum {K : PySem.W.Frag} {a : Addr} {xs : List V} {g : TG} {tb : TS} {D : Ends} {σ : L2.St} {H : Hp} (Pv : Nat → L2.St → Hp → Prop) (h0 : Pv 0 σ H) (hl : ∀ i σ H, i ≤ xs.length → Pv i σ H → SqL K H a xs)
    (hs : ∀ i x σ H T, xs[i]? = some x → Pv i σ H → H T = none → g (.ref T) σ (upd H T (.tup [.int (i : Nat), x])) fun σ2 H2 => tb { D with nx := Pv (i + 1), ct := Pv (i + 1), bk := D.nx } σ2 H2) (hd : ∀ σ H, Pv xs.length σ H → D.nx σ H) :
    ∃ W : Nat → Nat → L2.St → Hp → Prop, (∃ m, W 0 m σ H) ∧ ∀ i m σ H, W i m σ H →
      ((Ite K a).stop i H ∧ D.nx σ H) ∨ ((Ite K a).go i H ∧ ∃ N : L2.St → Hp → Prop, (∀ σ' H', N σ' H' → ∃ m', m' < m ∧ W (i + 1) m' σ' H') ∧ ∀ x H', (Ite K a).yld i H x H' → g x σ H' fun σ2 H2 => tb { D with nx := N, ct := N, bk := D.nx } σ2 H2) := by
  refine ⟨fun i m σ H => m = xs.length - i ∧ i ≤ xs.length ∧ Pv i σ H, ⟨xs.length, rfl, Nat.zero_le _, h0⟩, ?_⟩
  rintro i m σ H ⟨rfl, hi, p⟩
  have q := hl i σ H hi p
  rcases Nat.lt_or_ge i xs.length with c | c
  · refine .inr ⟨⟨xs, xs[i], q, List.getElem?_eq_getElem c⟩, Pv (i + 1), fun σ' H' p' => ⟨xs.length - (i + 1), by omega, rfl, c, p'⟩, ?_⟩
    rintro v H' ⟨T, x, rfl, hT, rfl, hx⟩
    exact hs i x σ H T (hx xs q) p hT
  · obtain rfl : i = xs.length := Nat.le_antisymm hi c
    exact .inl ⟨⟨xs, q, Nat.le_refl _⟩, hd σ H p⟩
theorem for_enumT {K : PySem.W.Frag} {a : Addr} {xs : List V} {g : TG} {tb : TS} {D : Ends} {σ : L2.St} {H : Hp} (Pv : Nat → L2.St → Hp → Prop) (h0 : Pv 0 σ H) (hl : ∀ i σ H, i ≤ xs.length → Pv i σ H → SqT K H a xs)
    (hs : ∀ i x σ H T, xs[i]? = some x → Pv i σ H → H T = none → g (.ref T) σ (upd H T (.tup [.int (i : Nat), x])) fun σ2 H2 => tb { D with nx := Pv (i + 1), ct := Pv (i + 1), bk := D.nx } σ2 H2) (hd : ∀ σ H, Pv xs.length σ H → D.nx σ H) :
    ∃ W : Nat → Nat → L2.St → Hp → Prop, (∃ m, W 0 m σ H) ∧ ∀ i m σ H, W i m σ H →
      ((Itet K a).stop i H ∧ D.nx σ H) ∨ ((Itet K a).go i H ∧ ∃ N : L2.St → Hp → Prop, (∀ σ' H', N σ' H' → ∃ m', m' < m ∧ W (i + 1) m' σ' H') ∧ ∀ x H', (Itet K a).yld i H x H' → g x σ H' fun σ2 H2 => tb { D with nx := N, ct := N, bk := D.nx } σ2 H2) := by
  refine ⟨fun i m σ H => m = xs.length - i ∧ i ≤ xs.length ∧ Pv i σ H, ⟨xs.length, rfl, Nat.zero_le _, h0⟩, ?_⟩
  rintro i m σ H ⟨rfl, hi, p⟩
  have q := hl i σ H hi p
  rcases Nat.lt_or_ge i xs.length with c | c
  · refine .inr ⟨⟨xs, xs[i], q, List.getElem?_eq_getElem c⟩, Pv (i + 1), fun σ' H' p' => ⟨xs.length - (i + 1), by omega, rfl, c, p'⟩, ?_⟩
    rintro v H' ⟨T, x, rfl, hT, rfl, hx⟩
    exact hs i x σ H T (hx xs q) p hT
  · obtain rfl : i = xs.length := Nat.le_antisymm hi c
    exact .inl ⟨⟨xs, q, rfl⟩, hd σ H p⟩
end Tk
namespace Tk
open PySem PySem.Spec PyProof.Rows L2
/-! ### a class made by a call whose arguments are a starred one or a few, and keywords; its __init__(self, *rest, k = .., ..) -/
abbrev SpK := List V → List V → Hp → VK → XK → Prop
def FnKS (P : Program) (w : World) (K : PySem.W.Frag) (mg : Str → Option Value) (base : Heap) (CX : CXT) (k : Nat) (f : Addr) (ks : List Str) (sp : SpK) : Prop :=
  ∀ (A : Around) (outer : List Env) (s : Shared) (H : Hp) (us ws : List Value) (vs zs : List V) (Q : VK) (E : XK), Room k A → Env0 P w K mg base A outer s H → Vals vs us → Vals zs ws → sp vs zs H Q E →
    codeAny (model P w) A (.call (.ref f) ⟨us, ks.zip ws⟩) (CR CX outer P w H s Q E) s
section
variable {X : Cx} {CX : CXT} {k : Nat} {f C : Addr} {ks : List Str} {sp : SpK} {E : XK} {x : Str} {p pos sp_ : Pos} {e : Expr} {es : List Expr} {kws : List Keyword} {t tk : TA} {te : TE}
def tMakeKS (C : Addr) (m : Nat) (sp : SpK) (E : XK) (t tk : TA) : TE := fun σ H Q => t σ H fun vs H1 => tk σ H1 fun zs H2 => zs.length = m ∧ ∀ x dx, H2 x = none → H2 dx = none → dx ≠ x →
  sp (.ref x :: vs) zs (upd (upd H2 dx (.own x)) x (.ins C dx [])) (fun v H3 => v = .non ∧ Q (.ref x) H3) E
theorem run_makeKS {pins : List (Addr × Obj)} {σ : L2.St} {H : Hp} {s : Shared} {Q : VK} {us ws : List Value} {vs zs : List V} (M : Mk X.K C f) (F : FnKS X.prog X.w X.K X.mg X.base CX k f ks sp) (hr : Room (k + 1) X.A) (hx : Passes CX X E)
    (I : Inv X pins σ H s) (r : Vals vs us) (rz : Vals zs ws)
    (h : ∀ x dx, H x = none → H dx = none → dx ≠ x → sp (.ref x :: vs) zs (upd (upd H dx (.own x)) x (.ins C dx [])) (fun v H2 => v = .non ∧ Q (.ref x) H2) E) :
    wpAny (model X.prog X.w) X.A (call (.ref C) us (ks.zip ws)) (EP X pins σ Q) X.xe s := by
  have hq := h (s.heap.objs.size + 1) s.heap.objs.size (I.hok.fresh (Nat.le_succ _)) (I.hok.fresh (Nat.le_refl _)) (Nat.ne_of_lt (Nat.lt_succ_self _))
  have I2 := Inv.made (C := C) I
  have r1 : Vals (V.ref (s.heap.objs.size + 1) :: vs) (Value.ref (s.heap.objs.size + 1) :: us) := .cons rfl r
  refine wpAny_call (make_map (f := f) I.kIn M.makes M.init (beq_iff_eq.mp M.fn) (codeAny_mono (F _ X.stack _ _ (Value.ref (s.heap.objs.size + 1) :: us) ws _ zs _ E (hr.make C us (ks.zip ws)) (I2.env0.make C us (ks.zip ws)) r1 rz hq) fun r s' hq' => ?_))
  cases r with
  | error e => exact hx pins σ _ _ e s' I2 hq'
  | ok fl =>
    cases fl with
    | ret u =>
      obtain ⟨v, H', I3, rv, ev, q3⟩ := I2.after hq'
      subst ev
      exact ⟨rv, ⟨V.ref (s.heap.objs.size + 1), H', I3, rfl, q3⟩⟩
    | next => exact False.elim hq'
    | brk => exact False.elim hq'
    | cont => exact False.elim hq'
/-- C(e, .., k = v, ..) -/
theorem pe_makeKS (M : Mk X.K C f) (F : FnKS X.prog X.w X.K X.mg X.base CX k f ks sp) (hr : Room (k + 1) X.A) (hg : Gl X x) (hm : X.mg x = some (.ref C)) (hx : Passes CX X E) (ha : PA X (e :: es) t) (hkw : PK X kws tk)
    (hall : (backToKw pos (keywordEach kws X.env)).all (·.1.isSome) = true := by rfl) (hks : (backToKw pos (keywordEach kws X.env)).filterMap (·.1) = ks := by rfl) (hdb : (x == ("__debug__" : Str)) = false := by decide)
    (he : starEach (e :: es) X.env = (false, eval e X.env) :: starEach es X.env := by rfl) (hpl : ((backTo pos (starEach (e :: es) X.env)).any (·.1) || (backToKw pos (keywordEach kws X.env)).any (·.1.isNone)) = false := by rfl) :
    PE X (.Call (.Name x p) (e :: es) kws pos) (tMakeKS C ks.length sp E t tk) := by
  refine ⟨fun pins s σ H Q I h => ?_⟩
  refine wpAny_Call_Name_kw (ld_glob I hg hm ?_ hdb)
  refine PySem.W.callWith_KW (h₀ := X.base) I.ok.mod.kin M.kp hall (thn (ha.run pos pins s σ H _ I h) fun us s1 ⟨vs, H1, I1, r, q⟩ => ?_) hpl he
  refine thn (hkw.run pos pins s1 σ H1 _ I1 q) fun ws s2 ⟨zs, H2, I2, rz, l2, q2⟩ => ⟨I2.kIn, ?_⟩
  rw [hks]
  exact run_makeKS M F hr hx I2 r rz q2
end
section
variable {M : Model} {A : Around} {E : Value → Shared → Prop} {s : Shared}
theorem lone_kw {f : Value} {x : Sem Value} {pos : Pos} {Q : Args → Shared → Prop} {keywords : List (Option Str × Sem Value)} (hall : keywords.all (·.1.isSome) = true)
    (h : wpAny M A x (fun v s₁ => wpAny M A (evalAll (keywords.map (·.2))) (fun ks s₂ => PySem.W.StarOf M A E v (fun vs s₃ => Q ⟨vs, (keywords.filterMap (·.1)).zip ks⟩ s₃) s₂) E s₁) E s) :
    wpAny M A (evalArgs f true [(true, (do let v ← x; standAt pos; pure v))] keywords) Q E s := by
  unfold evalArgs
  first
    | refine wpAny_bind (wpAny_bind (wpAny_mono h (fun v s₁ h₁ => wpAny_bind (wpAny_standAt (wpAny_pure ?_))) fun _ _ x => x))
    | refine wpAny_bind (wpAny_bind (wpAny_bind (wpAny_mono h (fun v s₁ h₁ => wpAny_bind (wpAny_standAt (wpAny_pure (wpAny_pure ?_)))) fun _ _ x => x)))
  refine wpAny_holding ?_
  simp only [hall, if_true]
  refine wpAny_bind (wpAny_mono h₁ (fun ks s₂ h₂ => ?_) fun _ _ x => x)
  unfold PySem.W.StarOf at h₂
  refine wpAny_bind (wpAny_bind (wpAny_mono h₂ (fun b s₃ h₃ => ?_) fun _ _ x => x))
  obtain ⟨rfl, h₃⟩ := h₃
  simp only [Bool.false_eq_true, if_false]
  exact wpAny_holding (wpAny_mono h₃ (fun vs s₄ h₄ => wpAny_pure h₄) fun _ _ x => x)
theorem star_callK {f : Value} {first : List Value} {pos : Pos} {Q : Value → Shared → Prop} {P : Heap → Prop} {args : List (Bool × Sem Value)} {keywords : List (Option Str × Sem Value)} (hst : args.any (·.1) = true)
    (hk : ∀ h, P h → ∃ k, (k = Keeper.frame ∨ k = Keeper.machine ∨ k = Keeper.boundFrame) ∧ PySem.W.Looks M h (keeperOf f) k)
    (h : wpAny M A (evalArgs f true args keywords) (fun a s₁ => P s₁.heap ∧ wpAny M A (call f (first ++ a.pos) a.kw) Q E s₁) E s) : wpAny M A (callWith pos f first args keywords) Q E s := by
  unfold callWith
  refine wpAny_bind (wpAny_holding (wpAny_mono h (fun a s₁ h₁ => wpAny_bind (wpAny_standAt ?_)) fun _ _ x => x))
  obtain ⟨k, hk', L⟩ := hk _ h₁.1
  simp only [hst, Bool.true_or]
  refine wpAny_bind (L.here ?_)
  have tail : ∀ {t : Sem Value}, wpAny M A t Q E s₁ → wpAny M A (t >>= fun r => holding [r] point >>= fun _ => pure r) Q E s₁ :=
    fun ht => wpAny_bind (wpAny_mono ht (fun r s₂ hr => wpAny_bind (wpAny_holding (wpAny_point (wpAny_pure hr)))) fun _ _ x => x)
  have marked (mk : Value) : wpAny M A (callMarked mk f (first ++ a.pos) a.kw) Q E s₁ := by
    unfold callMarked
    exact Calls.wpAny_keep h₁.2
  rcases hk' with rfl | rfl | rfl <;> dsimp only <;> first | exact tail (marked _) | exact tail (wpAny_operating h₁.2)
end
section
variable {X : Cx} {CX : CXT} {k : Nat} {f C : Addr} {ks : List Str} {sp : SpK} {E : XK} {x : Str} {p pos sp_ : Pos} {e : Expr} {kws : List Keyword} {tk : TA} {te : TE}
def tStarKS (K : PySem.W.Frag) (C : Addr) (m : Nat) (sp : SpK) (E : XK) (te : TE) (tk : TA) : TE := fun σ H Q => te σ H fun y H1 => tk σ H1 fun zs H2 => zs.length = m ∧ ∃ a xs, y = V.ref a ∧ (SqT K H2 a xs ∨ SqL K H2 a xs) ∧ ∀ x dx, H2 x = none → H2 dx = none → dx ≠ x →
  sp (.ref x :: xs) zs (upd (upd H2 dx (.own x)) x (.ins C dx [])) (fun v H3 => v = .non ∧ Q (.ref x) H3) E
/-- C(*e, k = v, ..) -/
theorem pe_starKS (M : Mk X.K C f) (F : FnKS X.prog X.w X.K X.mg X.base CX k f ks sp) (hr : Room (k + 1) X.A) (hg : Gl X x) (hm : X.mg x = some (.ref C)) (hx : Passes CX X E) (he : PE X e te) (hkw : PK X kws tk)
    (hall : (backToKw pos (keywordEach kws X.env)).all (·.1.isSome) = true := by rfl) (hks : (backToKw pos (keywordEach kws X.env)).filterMap (·.1) = ks := by rfl) (hdb : (x == ("__debug__" : Str)) = false := by decide)
    (hst : starEach [.Starred e sp_] X.env = [(true, eval e X.env)] := by rfl) :
    PE X (.Call (.Name x p) [.Starred e sp_] kws pos) (tStarKS X.K C ks.length sp E te tk) := by
  refine ⟨fun pins s σ H Q I h => ?_⟩
  refine wpAny_Call_Name_kw (ld_glob I hg hm ?_ hdb)
  rw [hst]
  refine star_callK (P := fun h => X.K.In h) (by rfl) (PySem.W.keeps_K M.kp) ?_
  refine lone_kw hall (thn (he.run pins s σ H _ I h) fun v s1 ⟨y, H1, I1, ry, q⟩ => thn (hkw.run pos pins s1 σ H1 _ I1 q) fun ws s2 ⟨zs, H2, I2, rz, l2, a, xs, ey, hxs, q2⟩ => ?_)
  subst ey
  obtain rfl : v = Value.ref a := ry
  refine StX.star_any I2 hxs fun us s3 I3 rv => ⟨I3.kIn, ?_⟩
  rw [hks]
  exact run_makeKS M F hr hx I3 rv rz q2
end
/-! ### the __init__ itself: the arguments behind the first are a new tuple, the last parameter -/
section
variable {P : Program} {w : World} {K : PySem.W.Frag} {mg : Str → Option Value} {base : Heap} {x qual : Str} {params : Arguments} {body : List Stmt} {scope : Scope} {kws : List (Str × V)} {f : Addr} {fd : FuncData} {k : Nat} {N : List Str} {p0 pv k1 k2 k3 : Str}
theorem fn_starK {sp : Sp} (F : FunD K x qual params body scope [] kws f fd) (S : FnScope N [p0, k1, k2, k3, pv] scope)
    (hb : ∀ (kV doc pm : Value) (an : Option Addr) (cdv ct : Value) (u w1 w2 w3 : Value) (rest : List Value), rest.length = 1 ∨ rest.length = 2 → bindArgs (PySem.W.fnOf x qual params body scope .none kV doc pm an cdv ct) ⟨u :: rest, [k1, k2, k3].zip [w1, w2, w3]⟩ =
      (newTuple rest >>= fun t => pure [(p0, u), (k1, w1), (k2, w2), (k3, w3), (pv, t)]))
    (hbody : ∀ (cdv : Value) (A : Around) (outer : List Env) (s : Shared) (H : Hp) (vs : List V) (Q : VK) (E : XK), Room k (A.deeper (envOfC qual scope s.heap.objs.size f cdv)) → sp vs H Q E →
      ∃ t, PSs (cxOf CX0 P w K mg base N qual scope f cdv A outer s H E) body t ∧ t { nx := fun _ H' => Q .non H', rt := Q } (start N vs) H) :
    FnKS P w K mg base CX0 (k + 1) f [k1, k2, k3] (fun vs zs H Q E => ∃ v rest z1 z2 z3, vs = v :: rest ∧ zs = [z1, z2, z3] ∧ (rest.length = 1 ∨ rest.length = 2) ∧ ∀ t, H t = Option.none → sp [v, z1, z2, z3, V.ref t] (upd H t (.tup rest)) Q E) := by
  intro A outer s H us ws vs zs Q E hr e0 r rz hsp
  obtain ⟨v, rest, z1, z2, z3, rfl, rfl, hlen, hq⟩ := hsp
  obtain ⟨oc, od, dV, kV, doc, pm, an, cdv, ct, osl, rfl, lk, hcd, hD, _⟩ := F.ex
  obtain rfl : dV = .none := by
    rcases hD with ⟨_, e⟩ | ⟨e, _⟩
    · exact e
    · exact absurd rfl e
  obtain ⟨u, us, rfl, ru, rus⟩ : ∃ u us', us = u :: us' ∧ RelV v u ∧ Vals rest us' := by
    cases r with
    | cons a b => exact ⟨_, _, rfl, a, b⟩
  obtain ⟨w1, w2, w3, rfl, r1, r2, r3⟩ : ∃ w1 w2 w3, ws = [w1, w2, w3] ∧ RelV z1 w1 ∧ RelV z2 w2 ∧ RelV z3 w3 := by
    cases rz with
    | cons a b =>
      cases b with
      | cons b c =>
        cases c with
        | cons c d =>
          cases d
          exact ⟨_, _, _, rfl, a, b, c⟩
  have hl2 : us.length = 1 ∨ us.length = 2 := by rw [← rus.length]; exact hlen
  have hz : us.length ≤ sizeLine := by
    have : (2 : Nat) ≤ sizeLine := by decide
    omega
  have hzr : rest.length ≤ sizeLine := by rw [rus.length]; exact hz
  have hn : H s.heap.objs.size = Option.none := e0.hok.fresh (Nat.le_refl _)
  refine StX.run_bnd (N := N) lk hcd S hr e0 (G := fun xs H2 => ∃ p, H p = Option.none ∧ xs = [v, z1, z2, z3, V.ref p] ∧ H2 = upd H p (.tup rest)) (fun A' Ex Q' h => ?_) fun s2 H2 xs ⟨p, hp, ex, eH⟩ hr' => ?_
  · rw [hb kV doc pm an cdv ct u w1 w2 w3 us hl2]
    refine wpAny_bind (wpAny_newTuple (wpAny_pure ?_) hz)
    have new : ObjOk P w (upd H s.heap.objs.size (.tup rest)) (s.heap.push ({ cls := .type "tuple", data := .seq us.toArray } : Obj)) s.heap.objs.size (.tup rest) := ⟨hzr, us, rus, ⟨_, Heap.get?_push_size _ rfl, rfl, _, rfl⟩⟩
    have un := StX.un_laid (fs := frs outer) (s := s) (o := ({ cls := .type "tuple", data := .seq us.toArray } : Obj)) (u := .tup rest) hn
    exact h _ _ [v, z1, z2, z3, V.ref s.heap.objs.size] [u, w1, w2, w3, Value.ref s.heap.objs.size] (StX.env0_laid e0 new) un rfl (fun e s' z => z) (.cons ru (.cons r1 (.cons r2 (.cons r3 (.cons (show RelV (.ref _) (.ref _) from rfl) .nil))))) rfl ⟨_, hn, rfl, rfl⟩
  · subst ex eH
    exact hbody cdv A outer s2 _ _ Q E hr' (hq p hp)
end
/-! ### rules of a comprehension's block, the written part said -/
section
variable {X : Cx} {K : PySem.W.Frag} {e : Expr} {ta te : TE} {f : Str} {pos : Pos}
theorem pe_fldB (hK : X.K = K) (he : PE X e ta) (hb : attributeBase e f X.env (eval e X.env) = eval e X.env) : PE X (.Attribute e f pos) (tFld K ta f) := hK ▸ pe_fld he hb
theorem ix_listB (hK : X.K = K) : IxR X (rIxL K) := hK ▸ ix_list
theorem ix_tupB (hK : X.K = K) : IxR X (rIxT K) := hK ▸ ix_tup
def rLenB (K : PySem.W.Frag) : List V → Hp → VK → Prop := fun xs H Q => ∃ p ys, xs = [.ref p] ∧ (SqL K H p ys ∨ SqT K H p ys) ∧ Q (.int ys.length) H
theorem call_lenB (hK : X.K = K) : CallR X (.builtin "len") (rLenB K) := by
  subst hK
  exact call_len_seq
end
end Tk
namespace Tk
open PySem PySem.Spec PyProof.Rows L2
structure Txt (K : PySem.W.Frag) (mg : Str → Option Value) : Prop where
  g_late : mg "late" = some (.ref (He.ga K "late"))
  g_spread : mg "spread" = some (.ref (He.ga K "spread"))
  g_is_integer : mg "is_integer" = some (.ref (He.ga K "is_integer"))
  g_is_name : mg "is_name" = some (.ref (He.ga K "is_name"))
  g_is_place : mg "is_place" = some (.ref (He.ga K "is_place"))
  g_has_form : mg "has_form" = some (.ref (He.ga K "has_form"))
  g_fault_of : mg "fault_of" = some (.ref (He.ga K "fault_of"))
  g_count_after : mg "count_after" = some (.ref (He.ga K "count_after"))
  g_check_branch : mg "check_branch" = some (.ref (He.ga K "check_branch"))
  g_checked : mg "checked" = some (.ref (He.ga K "checked"))
  g_within : mg "within" = some (.ref (He.ga K "within"))
  g_as_script : mg "as_script" = some (.ref (He.ga K "as_script"))
  g_kinds_fault : mg "kinds_fault" = some (.ref (He.ga K "kinds_fault"))
  g_window_fits : mg "window_fits" = some (.ref (He.ga K "window_fits"))
  g_system_fault : mg "system_fault" = some (.ref (He.ga K "system_fault"))
  g_is_kept : mg "is_kept" = some (.ref (He.ga K "is_kept"))
  g_run : mg "run" = some (.ref (He.ga K "run"))
  g__law_pool : mg "_law_pool" = some (.ref (He.ga K "_law_pool"))
  g__law_draw : mg "_law_draw" = some (.ref (He.ga K "_law_draw"))
  g__law_names : mg "_law_names" = some (.ref (He.ga K "_law_names"))
  g__law_simple : mg "_law_simple" = some (.ref (He.ga K "_law_simple"))
  g__law_branch : mg "_law_branch" = some (.ref (He.ga K "_law_branch"))
  g__law_build : mg "_law_build" = some (.ref (He.ga K "_law_build"))
  g__law_system : mg "_law_system" = some (.ref (He.ga K "_law_system"))
  g__law_plan : mg "_law_plan" = some (.ref (He.ga K "_law_plan"))
  g__law_low : mg "_law_low" = some (.ref (He.ga K "_law_low"))
  g__law_waits : mg "_law_waits" = some (.ref (He.ga K "_law_waits"))
  g__law_begin : mg "_law_begin" = some (.ref (He.ga K "_law_begin"))
  g__law_end : mg "_law_end" = some (.ref (He.ga K "_law_end"))
  g__law_crash : mg "_law_crash" = some (.ref (He.ga K "_law_crash"))
  g__law_take : mg "_law_take" = some (.ref (He.ga K "_law_take"))
  g__law_act : mg "_law_act" = some (.ref (He.ga K "_law_act"))
  g__law_step : mg "_law_step" = some (.ref (He.ga K "_law_step"))
  g__law_moves : mg "_law_moves" = some (.ref (He.ga K "_law_moves"))
  g__law_same : mg "_law_same" = some (.ref (He.ga K "_law_same"))
  g_law : mg "law" = some (.ref (He.ga K "law"))
  g_Record : mg "Record" = some (.ref (He.ga K "Record"))
  c_Record : Cls K (He.ga K "Record")
  k_Record : Mk K (He.ga K "Record") (He.ma K (He.ga K "Record") "__init__")
  n_Record_commits : NoAttr K (He.ga K "Record") "commits"
  n_Record_lost : NoAttr K (He.ga K "Record") "lost"
  n_Record_out : NoAttr K (He.ga K "Record") "out"
  n_Record_height : NoAttr K (He.ga K "Record") "height"
  n_Record_noted : NoAttr K (He.ga K "Record") "noted"
  n_Record_crashes : NoAttr K (He.ga K "Record") "crashes"
  n_Record_spread : NoAttr K (He.ga K "Record") "spread"
  g_Script : mg "Script" = some (.ref (He.ga K "Script"))
  c_Script : Cls K (He.ga K "Script")
  k_Script : Mk K (He.ga K "Script") (He.ma K (He.ga K "Script") "__init__")
  n_Script_table : NoAttr K (He.ga K "Script") "table"
  n_Script_statements : NoAttr K (He.ga K "Script") "statements"
  n_Script_places : NoAttr K (He.ga K "Script") "places"
  m_Script___len__ : Meth K (He.ga K "Script") "__len__" (He.ma K (He.ga K "Script") "__len__")
  m_Script___getitem__ : Meth K (He.ga K "Script") "__getitem__" (He.ma K (He.ga K "Script") "__getitem__")
  m_Script_follow : Meth K (He.ga K "Script") "follow" (He.ma K (He.ga K "Script") "follow")
  m_Script_after : Meth K (He.ga K "Script") "after" (He.ma K (He.ga K "Script") "after")
  g_Kind : mg "Kind" = some (.ref (He.ga K "Kind"))
  c_Kind : Cls K (He.ga K "Kind")
  k_Kind : Mk K (He.ga K "Kind") (He.ma K (He.ga K "Kind") "__init__")
  n_Kind_name : NoAttr K (He.ga K "Kind") "name"
  n_Kind_script : NoAttr K (He.ga K "Kind") "script"
  n_Kind_block : NoAttr K (He.ga K "Kind") "block"
  n_Kind_many : NoAttr K (He.ga K "Kind") "many"
  g_System : mg "System" = some (.ref (He.ga K "System"))
  c_System : Cls K (He.ga K "System")
  k_System : Mk K (He.ga K "System") (He.ma K (He.ga K "System") "__init__")
  n_System_kinds : NoAttr K (He.ga K "System") "kinds"
  n_System_ahead : NoAttr K (He.ga K "System") "ahead"
  n_System_window : NoAttr K (He.ga K "System") "window"
  n_System_crashes : NoAttr K (He.ga K "System") "crashes"
  n_System_sessions : NoAttr K (He.ga K "System") "sessions"
  m_System___getitem__ : Meth K (He.ga K "System") "__getitem__" (He.ma K (He.ga K "System") "__getitem__")
  m_System_kind_of : Meth K (He.ga K "System") "kind_of" (He.ma K (He.ga K "System") "kind_of")
  m_System_with_values : Meth K (He.ga K "System") "with_values" (He.ma K (He.ga K "System") "with_values")
  g_Running : mg "Running" = some (.ref (He.ga K "Running"))
  c_Running : Cls K (He.ga K "Running")
  k_Running : Mk K (He.ga K "Running") (He.ma K (He.ga K "Running") "__init__")
  n_Running_system : NoAttr K (He.ga K "Running") "system"
  n_Running_height : NoAttr K (He.ga K "Running") "height"
  n_Running_noted : NoAttr K (He.ga K "Running") "noted"
  n_Running_crashes : NoAttr K (He.ga K "Running") "crashes"
  n_Running_places : NoAttr K (He.ga K "Running") "places"
  n_Running_locks : NoAttr K (He.ga K "Running") "locks"
  n_Running_transactions : NoAttr K (He.ga K "Running") "transactions"
  n_Running_stores : NoAttr K (He.ga K "Running") "stores"
  n_Running_commits : NoAttr K (He.ga K "Running") "commits"
  n_Running_lost : NoAttr K (He.ga K "Running") "lost"
  n_Running_spread : NoAttr K (He.ga K "Running") "spread"
  n_Running_executed : NoAttr K (He.ga K "Running") "executed"
  n_Running_saved : NoAttr K (He.ga K "Running") "saved"
  m_Running___call__ : Meth K (He.ga K "Running") "__call__" (He.ma K (He.ga K "Running") "__call__")
  m_Running_statement : Meth K (He.ga K "Running") "statement" (He.ma K (He.ga K "Running") "statement")
  m_Running_lowest : Meth K (He.ga K "Running") "lowest" (He.ma K (He.ga K "Running") "lowest")
  m_Running_blocked : Meth K (He.ga K "Running") "blocked" (He.ma K (He.ga K "Running") "blocked")
  m_Running_is_session : Meth K (He.ga K "Running") "is_session" (He.ma K (He.ga K "Running") "is_session")
  m_Running_fits : Meth K (He.ga K "Running") "fits" (He.ma K (He.ga K "Running") "fits")
  m_Running_perform : Meth K (He.ga K "Running") "perform" (He.ma K (He.ga K "Running") "perform")
  m_Running_crash : Meth K (He.ga K "Running") "crash" (He.ma K (He.ga K "Running") "crash")
  m_Running_restart : Meth K (He.ga K "Running") "restart" (He.ma K (He.ga K "Running") "restart")
  m_Running_finish : Meth K (He.ga K "Running") "finish" (He.ma K (He.ga K "Running") "finish")
  m_Running_hand_out : Meth K (He.ga K "Running") "hand_out" (He.ma K (He.ga K "Running") "hand_out")
  m_Running_execute : Meth K (He.ga K "Running") "execute" (He.ma K (He.ga K "Running") "execute")
  m_Running_commit : Meth K (He.ga K "Running") "commit" (He.ma K (He.ga K "Running") "commit")
  m_Running_hold : Meth K (He.ga K "Running") "hold" (He.ma K (He.ga K "Running") "hold")
  m_Running_advance : Meth K (He.ga K "Running") "advance" (He.ma K (He.ga K "Running") "advance")
  m_Running_record : Meth K (He.ga K "Running") "record" (He.ma K (He.ga K "Running") "record")
  m_Running_perform_all : Meth K (He.ga K "Running") "perform_all" (He.ma K (He.ga K "Running") "perform_all")
  f_len : mg "len" = none
  f_isinstance : mg "isinstance" = none
  f_range : mg "range" = none
  f_enumerate : mg "enumerate" = none
  f_max : mg "max" = none
  f_min : mg "min" = none
  f_list : mg "list" = none
  f_tuple : mg "tuple" = none
  f_int : mg "int" = none
  f_str : mg "str" = none
  f_bool : mg "bool" = none
  f_sorted : mg "sorted" = none
  i_MOST_STATEMENTS : ∃ t, mg "MOST_STATEMENTS" = some (.int 8 t)
  i_MOST_NUMBERS : ∃ t, mg "MOST_NUMBERS" = some (.int 3 t)
  i_MOST_SESSIONS : ∃ t, mg "MOST_SESSIONS" = some (.int 3 t)
  i_MOST_BLOCK : ∃ t, mg "MOST_BLOCK" = some (.int 3 t)
  i_SHORT_SCRIPT : ∃ t, mg "SHORT_SCRIPT" = some (.int 4 t)
  s_LETTERS : ∃ t, mg "LETTERS" = some (.str "abcdefghijklmnopqrstuvwxyz" t)
  e_BadScript : PySem.W.keepIn K (.ref (He.ga K "BadScript")) = true
  g_SIMPLE : mg "SIMPLE" = some (.ref (He.ga K "SIMPLE"))
  g_NAMED : mg "NAMED" = some (.ref (He.ga K "NAMED"))
  g_RESETS : mg "RESETS" = some (.ref (He.ga K "RESETS"))
  g_BadScript : mg "BadScript" = some (.ref (He.ga K "BadScript"))
  t_SIMPLE : ∀ H : Hp, SqT K H (He.ga K "SIMPLE") [.str "take", .str "commit", .str "rollback", .str "drop", .str "leave"]
  t_NAMED : ∀ H : Hp, SqT K H (He.ga K "NAMED") [.str "lock", .str "unlock"]
  t_RESETS : ∀ H : Hp, SqT K H (He.ga K "RESETS") [.str "commit", .str "rollback", .str "leave"]
  o_Running : StX.CallO K (He.ga K "Running") (He.ma K (He.ga K "Running") "__call__")
  o_Script : GetO K (He.ga K "Script") (He.ma K (He.ga K "Script") "__getitem__")
  o_System : GetO K (He.ga K "System") (He.ma K (He.ga K "System") "__getitem__")
  q_tup : PySem.W.kitOne K (.type "tuple") (.ref (He.ga K "Script")) = some false
  q_cls : PySem.W.findIn K (.ref (He.ga K "Kind")) "__class__" = some (some (.builtin "object.__class__"))
  q_get : PySem.W.specialIn K (.builtin "object.__class__") "__get__" = some (some (.builtin "getset_descriptor.__get__"))
  q_tk : PySem.W.takesIn K (.builtin "object.__class__") = some true
  q_mro : PySem.W.mroIn K (He.ga K "Kind") (.type "object") = some true
  d_Record___init__ : ∃ fd, FunD K "__init__" "Record.__init__" (defArgs sRecord___init__) (defBody sRecord___init__) (defScope sRecord___init__) [] [] (He.ma K (He.ga K "Record") "__init__") fd
  d_late : ∃ fd, FunD K "late" "late" (defArgs slate) (defBody slate) (defScope slate) [] [] (He.ga K "late") fd
  d_spread : ∃ fd, FunD K "spread" "spread" (defArgs sspread) (defBody sspread) (defScope sspread) [] [] (He.ga K "spread") fd
  d_is_integer : ∃ fd, FunD K "is_integer" "is_integer" (defArgs sis_integer) (defBody sis_integer) (defScope sis_integer) [] [] (He.ga K "is_integer") fd
  d_is_name : ∃ fd, FunD K "is_name" "is_name" (defArgs sis_name) (defBody sis_name) (defScope sis_name) [] [] (He.ga K "is_name") fd
  d_is_place : ∃ fd, FunD K "is_place" "is_place" (defArgs sis_place) (defBody sis_place) (defScope sis_place) [] [] (He.ga K "is_place") fd
  d_has_form : ∃ fd, FunD K "has_form" "has_form" (defArgs shas_form) (defBody shas_form) (defScope shas_form) [] [] (He.ga K "has_form") fd
  d_fault_of : ∃ fd, FunD K "fault_of" "fault_of" (defArgs sfault_of) (defBody sfault_of) (defScope sfault_of) [] [] (He.ga K "fault_of") fd
  d_count_after : ∃ fd, FunD K "count_after" "count_after" (defArgs scount_after) (defBody scount_after) (defScope scount_after) [] [] (He.ga K "count_after") fd
  d_check_branch : ∃ fd, FunD K "check_branch" "check_branch" (defArgs scheck_branch) (defBody scheck_branch) (defScope scheck_branch) [] [] (He.ga K "check_branch") fd
  d_checked : ∃ fd, FunD K "checked" "checked" (defArgs schecked) (defBody schecked) (defScope schecked) [] [] (He.ga K "checked") fd
  d_Script___init__ : ∃ fd, FunD K "__init__" "Script.__init__" (defArgs sScript___init__) (defBody sScript___init__) (defScope sScript___init__) [] [] (He.ma K (He.ga K "Script") "__init__") fd
  d_Script___len__ : ∃ fd, FunD K "__len__" "Script.__len__" (defArgs sScript___len__) (defBody sScript___len__) (defScope sScript___len__) [] [] (He.ma K (He.ga K "Script") "__len__") fd
  d_Script___getitem__ : ∃ fd, FunD K "__getitem__" "Script.__getitem__" (defArgs sScript___getitem__) (defBody sScript___getitem__) (defScope sScript___getitem__) [] [] (He.ma K (He.ga K "Script") "__getitem__") fd
  d_Script_follow : ∃ fd, FunD K "follow" "Script.follow" (defArgs sScript_follow) (defBody sScript_follow) (defScope sScript_follow) [] [] (He.ma K (He.ga K "Script") "follow") fd
  d_Script_after : ∃ fd, FunD K "after" "Script.after" (defArgs sScript_after) (defBody sScript_after) (defScope sScript_after) [.int (0)] [] (He.ma K (He.ga K "Script") "after") fd
  d_within : ∃ fd, FunD K "within" "within" (defArgs swithin) (defBody swithin) (defScope swithin) [] [] (He.ga K "within") fd
  d_as_script : ∃ fd, FunD K "as_script" "as_script" (defArgs sas_script) (defBody sas_script) (defScope sas_script) [] [] (He.ga K "as_script") fd
  d_Kind___init__ : ∃ fd, FunD K "__init__" "Kind.__init__" (defArgs sKind___init__) (defBody sKind___init__) (defScope sKind___init__) [] [("block", .int (1)), ("many", .int (1))] (He.ma K (He.ga K "Kind") "__init__") fd
  d_kinds_fault : ∃ fd, FunD K "kinds_fault" "kinds_fault" (defArgs skinds_fault) (defBody skinds_fault) (defScope skinds_fault) [] [] (He.ga K "kinds_fault") fd
  d_window_fits : ∃ fd, FunD K "window_fits" "window_fits" (defArgs swindow_fits) (defBody swindow_fits) (defScope swindow_fits) [] [] (He.ga K "window_fits") fd
  d_system_fault : ∃ fd, FunD K "system_fault" "system_fault" (defArgs ssystem_fault) (defBody ssystem_fault) (defScope ssystem_fault) [] [] (He.ga K "system_fault") fd
  d_is_kept : ∃ fd, FunD K "is_kept" "is_kept" (defArgs sis_kept) (defBody sis_kept) (defScope sis_kept) [] [] (He.ga K "is_kept") fd
  d_System___init__ : ∃ fd, FunD K "__init__" "System.__init__" (defArgs sSystem___init__) (defBody sSystem___init__) (defScope sSystem___init__) [] [("ahead", .int (0)), ("window", .non), ("crashes", .int (0))] (He.ma K (He.ga K "System") "__init__") fd
  d_System___getitem__ : ∃ fd, FunD K "__getitem__" "System.__getitem__" (defArgs sSystem___getitem__) (defBody sSystem___getitem__) (defScope sSystem___getitem__) [] [] (He.ma K (He.ga K "System") "__getitem__") fd
  d_System_kind_of : ∃ fd, FunD K "kind_of" "System.kind_of" (defArgs sSystem_kind_of) (defBody sSystem_kind_of) (defScope sSystem_kind_of) [] [] (He.ma K (He.ga K "System") "kind_of") fd
  d_System_with_values : ∃ fd, FunD K "with_values" "System.with_values" (defArgs sSystem_with_values) (defBody sSystem_with_values) (defScope sSystem_with_values) [] [("ahead", .int (-1)), ("window", .int (-1)), ("crashes", .int (-1))] (He.ma K (He.ga K "System") "with_values") fd
  d_Running___init__ : ∃ fd, FunD K "__init__" "Running.__init__" (defArgs sRunning___init__) (defBody sRunning___init__) (defScope sRunning___init__) [] [] (He.ma K (He.ga K "Running") "__init__") fd
  d_Running___call__ : ∃ fd, FunD K "__call__" "Running.__call__" (defArgs sRunning___call__) (defBody sRunning___call__) (defScope sRunning___call__) [] [] (He.ma K (He.ga K "Running") "__call__") fd
  d_Running_statement : ∃ fd, FunD K "statement" "Running.statement" (defArgs sRunning_statement) (defBody sRunning_statement) (defScope sRunning_statement) [] [] (He.ma K (He.ga K "Running") "statement") fd
  d_Running_lowest : ∃ fd, FunD K "lowest" "Running.lowest" (defArgs sRunning_lowest) (defBody sRunning_lowest) (defScope sRunning_lowest) [] [] (He.ma K (He.ga K "Running") "lowest") fd
  d_Running_blocked : ∃ fd, FunD K "blocked" "Running.blocked" (defArgs sRunning_blocked) (defBody sRunning_blocked) (defScope sRunning_blocked) [] [] (He.ma K (He.ga K "Running") "blocked") fd
  d_Running_is_session : ∃ fd, FunD K "is_session" "Running.is_session" (defArgs sRunning_is_session) (defBody sRunning_is_session) (defScope sRunning_is_session) [] [] (He.ma K (He.ga K "Running") "is_session") fd
  d_Running_fits : ∃ fd, FunD K "fits" "Running.fits" (defArgs sRunning_fits) (defBody sRunning_fits) (defScope sRunning_fits) [] [] (He.ma K (He.ga K "Running") "fits") fd
  d_Running_perform : ∃ fd, FunD K "perform" "Running.perform" (defArgs sRunning_perform) (defBody sRunning_perform) (defScope sRunning_perform) [] [] (He.ma K (He.ga K "Running") "perform") fd
  d_Running_crash : ∃ fd, FunD K "crash" "Running.crash" (defArgs sRunning_crash) (defBody sRunning_crash) (defScope sRunning_crash) [] [] (He.ma K (He.ga K "Running") "crash") fd
  d_Running_restart : ∃ fd, FunD K "restart" "Running.restart" (defArgs sRunning_restart) (defBody sRunning_restart) (defScope sRunning_restart) [] [] (He.ma K (He.ga K "Running") "restart") fd
  d_Running_finish : ∃ fd, FunD K "finish" "Running.finish" (defArgs sRunning_finish) (defBody sRunning_finish) (defScope sRunning_finish) [] [] (He.ma K (He.ga K "Running") "finish") fd
  d_Running_hand_out : ∃ fd, FunD K "hand_out" "Running.hand_out" (defArgs sRunning_hand_out) (defBody sRunning_hand_out) (defScope sRunning_hand_out) [] [] (He.ma K (He.ga K "Running") "hand_out") fd
  d_Running_execute : ∃ fd, FunD K "execute" "Running.execute" (defArgs sRunning_execute) (defBody sRunning_execute) (defScope sRunning_execute) [] [] (He.ma K (He.ga K "Running") "execute") fd
  d_Running_commit : ∃ fd, FunD K "commit" "Running.commit" (defArgs sRunning_commit) (defBody sRunning_commit) (defScope sRunning_commit) [] [] (He.ma K (He.ga K "Running") "commit") fd
  d_Running_hold : ∃ fd, FunD K "hold" "Running.hold" (defArgs sRunning_hold) (defBody sRunning_hold) (defScope sRunning_hold) [] [] (He.ma K (He.ga K "Running") "hold") fd
  d_Running_advance : ∃ fd, FunD K "advance" "Running.advance" (defArgs sRunning_advance) (defBody sRunning_advance) (defScope sRunning_advance) [] [] (He.ma K (He.ga K "Running") "advance") fd
  d_Running_record : ∃ fd, FunD K "record" "Running.record" (defArgs sRunning_record) (defBody sRunning_record) (defScope sRunning_record) [] [] (He.ma K (He.ga K "Running") "record") fd
  d_Running_perform_all : ∃ fd, FunD K "perform_all" "Running.perform_all" (defArgs sRunning_perform_all) (defBody sRunning_perform_all) (defScope sRunning_perform_all) [] [] (He.ma K (He.ga K "Running") "perform_all") fd
  d_run : ∃ fd, FunD K "run" "run" (defArgs srun) (defBody srun) (defScope srun) [] [] (He.ga K "run") fd
  d__law_pool : ∃ fd, FunD K "_law_pool" "_law_pool" (defArgs s_law_pool) (defBody s_law_pool) (defScope s_law_pool) [] [] (He.ga K "_law_pool") fd
  d__law_draw : ∃ fd, FunD K "_law_draw" "_law_draw" (defArgs s_law_draw) (defBody s_law_draw) (defScope s_law_draw) [] [] (He.ga K "_law_draw") fd
  d__law_names : ∃ fd, FunD K "_law_names" "_law_names" (defArgs s_law_names) (defBody s_law_names) (defScope s_law_names) [] [] (He.ga K "_law_names") fd
  d__law_simple : ∃ fd, FunD K "_law_simple" "_law_simple" (defArgs s_law_simple) (defBody s_law_simple) (defScope s_law_simple) [] [] (He.ga K "_law_simple") fd
  d__law_branch : ∃ fd, FunD K "_law_branch" "_law_branch" (defArgs s_law_branch) (defBody s_law_branch) (defScope s_law_branch) [] [] (He.ga K "_law_branch") fd
  d__law_build : ∃ fd, FunD K "_law_build" "_law_build" (defArgs s_law_build) (defBody s_law_build) (defScope s_law_build) [] [] (He.ga K "_law_build") fd
  d__law_system : ∃ fd, FunD K "_law_system" "_law_system" (defArgs s_law_system) (defBody s_law_system) (defScope s_law_system) [] [] (He.ga K "_law_system") fd
  d__law_plan : ∃ fd, FunD K "_law_plan" "_law_plan" (defArgs s_law_plan) (defBody s_law_plan) (defScope s_law_plan) [] [] (He.ga K "_law_plan") fd
  d__law_low : ∃ fd, FunD K "_law_low" "_law_low" (defArgs s_law_low) (defBody s_law_low) (defScope s_law_low) [] [] (He.ga K "_law_low") fd
  d__law_waits : ∃ fd, FunD K "_law_waits" "_law_waits" (defArgs s_law_waits) (defBody s_law_waits) (defScope s_law_waits) [] [] (He.ga K "_law_waits") fd
  d__law_begin : ∃ fd, FunD K "_law_begin" "_law_begin" (defArgs s_law_begin) (defBody s_law_begin) (defScope s_law_begin) [] [] (He.ga K "_law_begin") fd
  d__law_end : ∃ fd, FunD K "_law_end" "_law_end" (defArgs s_law_end) (defBody s_law_end) (defScope s_law_end) [] [] (He.ga K "_law_end") fd
  d__law_crash : ∃ fd, FunD K "_law_crash" "_law_crash" (defArgs s_law_crash) (defBody s_law_crash) (defScope s_law_crash) [] [] (He.ga K "_law_crash") fd
  d__law_take : ∃ fd, FunD K "_law_take" "_law_take" (defArgs s_law_take) (defBody s_law_take) (defScope s_law_take) [] [] (He.ga K "_law_take") fd
  d__law_act : ∃ fd, FunD K "_law_act" "_law_act" (defArgs s_law_act) (defBody s_law_act) (defScope s_law_act) [] [] (He.ga K "_law_act") fd
  d__law_step : ∃ fd, FunD K "_law_step" "_law_step" (defArgs s_law_step) (defBody s_law_step) (defScope s_law_step) [] [] (He.ga K "_law_step") fd
  d__law_moves : ∃ fd, FunD K "_law_moves" "_law_moves" (defArgs s_law_moves) (defBody s_law_moves) (defScope s_law_moves) [] [] (He.ga K "_law_moves") fd
  d__law_same : ∃ fd, FunD K "_law_same" "_law_same" (defArgs s_law_same) (defBody s_law_same) (defScope s_law_same) [] [] (He.ga K "_law_same") fd
  d_law : ∃ fd, FunD K "law" "law" (defArgs slaw) (defBody slaw) (defScope slaw) [] [] (He.ga K "law") fd
def CallF (P : Program) (w : World) (K : PySem.W.Frag) (mg : Str → Option Value) (base : Heap) (k : Nat) (f : Addr) (ps : List Str) (sp : Sp) : Prop :=
  ∃ fd, FnOk P w K mg base CX0 k f fd ps sp ∧ Binds K fd ps [] ∧ PySem.W.keepIn K (.ref f) = true
end Tk
namespace Tk
open PySem PySem.Spec PyProof.Rows L2
/-! rules that take a reading apart, one former at a time -/
section
variable {K : PySem.W.Frag} {σ σ' : L2.St} {H H' : Hp} {Q : VK} {v x y z : V} {ta tb tc te : TE} {i j : Int} {a b p q : Addr} {nx : L2.St → Hp → Prop} {rt : VK} {bk ct : L2.St → Hp → Prop} {t u : TS} {f : Str}
theorem w_var {n : Nat} (e : σ[n]? = some (some v)) (h : Q v H) : tVar n σ H Q := ⟨v, e, h⟩
theorem w_c (h : Q v H) : tC v σ H Q := h
theorem w_op {r : R2} (h : ta σ H fun x H1 => tb σ H1 fun y H2 => r x y H2 Q) : tOp r ta tb σ H Q := h
theorem w_un {r : V → Hp → VK → Prop} (h : ta σ H fun x H1 => r x H1 Q) : tUn r ta σ H Q := h
theorem w_rU {g : Int → V} (h : Q (g i) H) : rU g (.int i) H Q := ⟨i, rfl, h⟩
theorem w_rI0 {g : Int → Int → V} (h : Q (g i j) H) : rI0 g (.int i) (.int j) H Q := ⟨i, j, rfl, rfl, h⟩
theorem w_rI {C : Int → Int → Prop} {g : Int → Int → V} (c : C i j) (h : Q (g i j) H) : rI C g (.int i) (.int j) H Q := ⟨i, j, rfl, rfl, c, h⟩
theorem w_eqI (h : Q (.bl (decide (i = j))) H) : rEq (.int i) (.int j) H Q := ⟨rfl, by simpa using h⟩
theorem w_eqS {i j : Str} (h : Q (.bl (decide (i = j))) H) : rEq (.str i) (.str j) H Q := ⟨rfl, by simpa using h⟩
theorem w_eqNN (h : Q (.bl true) H) : rEq .non .non H Q := ⟨rfl, h⟩
theorem w_eqNI (h : Q (.bl false) H) : rEq .non (.int i) H Q := ⟨rfl, by simpa using h⟩
theorem w_eqIN (h : Q (.bl false) H) : rEq (.int i) .non H Q := ⟨rfl, by simpa using h⟩
theorem w_neI (h : Q (.bl (!decide (i = j))) H) : rNe (.int i) (.int j) H Q := ⟨rfl, by simpa using h⟩
theorem w_neS {i j : Str} (h : Q (.bl (!decide (i = j))) H) : rNe (.str i) (.str j) H Q := ⟨rfl, by simpa using h⟩
/-- known values -/
theorem w_exbl {R : Bool → Prop} {c : Bool} (h : R c) : ∃ k, V.bl c = V.bl k ∧ R k := ⟨c, rfl, h⟩
theorem w_exint {R : Int → Prop} (h : R i) : ∃ k, V.int i = V.int k ∧ R k := ⟨i, rfl, h⟩
theorem w_andV (h : ta σ H fun x H1 => ∃ c, x = .bl c ∧ if c = true then tb σ H1 Q else Q (.bl false) H1) : tAndV ta tb σ H Q := h
theorem w_orV (h : ta σ H fun x H1 => ∃ c, x = .bl c ∧ if c = true then Q (.bl true) H1 else tb σ H1 Q) : tOrV ta tb σ H Q := h
theorem w_notV (h : ta σ H fun x H1 => ∃ c, x = .bl c ∧ Q (.bl (!c)) H1) : tNotV ta σ H Q := h
theorem w_if {c : TT} (h : c σ H fun b H1 => if b = true then ta σ H1 Q else tb σ H1 Q) : tIf c ta tb σ H Q := h
theorem w_chain {r r' : R2} (h : ta σ H fun x H1 => tb σ H1 fun y H2 => r x y H2 fun z H3 => ∃ k, z = .bl k ∧ (if k = true then tc σ H3 fun w' H4 => r' y w' H4 Q else Q (.bl false) H3)) : tChain r r' ta tb tc σ H Q := h
theorem w_test {R : Bool → Hp → Prop} (h : te σ H fun x H' => ∃ k, x = .bl k ∧ R k H') : tTest te σ H R := h
theorem w_B {R : Bool → Hp → Prop} (h : te σ H fun x H1 => ∃ c, x = .bl c ∧ R c H1) : tB te σ H R := h
theorem w_and {t u : TT} {R : Bool → Hp → Prop} (h : t σ H fun c H1 => if c = true then u σ H1 R else R false H1) : tAnd t u σ H R := h
theorem w_or {t u : TT} {R : Bool → Hp → Prop} (h : t σ H fun c H1 => if c = true then R true H1 else u σ H1 R) : tOr t u σ H R := h
theorem w_not {t : TT} {R : Bool → Hp → Prop} (h : t σ H fun c H1 => R (!c) H1) : tNot t σ H R := h
theorem w_yes {R : Bool → Hp → Prop} (h : R true H) : tYes σ H R := h
theorem w_seq (h : t ⟨fun σ H => u ⟨nx, rt, bk, ct⟩ σ H, rt, bk, ct⟩ σ H) : tSeq t u ⟨nx, rt, bk, ct⟩ σ H := h
theorem w_next (h : nx σ H) : tNext ⟨nx, rt, bk, ct⟩ σ H := h
theorem w_ret (h : te σ H rt) : tRet te ⟨nx, rt, bk, ct⟩ σ H := h
theorem w_retN (h : rt .non H) : tRetN ⟨nx, rt, bk, ct⟩ σ H := h
theorem w_drop (h : te σ H fun _ H1 => nx σ H1) : tDrop te ⟨nx, rt, bk, ct⟩ σ H := h
theorem w_ifS {c : TT} (h : c σ H fun b H1 => if b = true then t ⟨nx, rt, bk, ct⟩ σ H1 else u ⟨nx, rt, bk, ct⟩ σ H1) : tIfS c t u ⟨nx, rt, bk, ct⟩ σ H := h
theorem w_asg {g : TG} (h : te σ H fun x H1 => g x σ H1 nx) : tAsg te g ⟨nx, rt, bk, ct⟩ σ H := h
theorem w_name {n : Nat} {R : L2.St → Hp → Prop} (e : σ.set n (some v) = σ') (h : R σ' H) : gName n v σ H R := by subst e; exact h
theorem w_aug {n : Nat} {ti : TIp} (e : σ[n]? = some (some x)) (h : te σ H fun y H1 => ti x y H1 fun z H2 => nx (σ.set n (some z)) H2) : tAug n te ti ⟨nx, rt, bk, ct⟩ σ H := ⟨x, e, h⟩
theorem w_ipI {f : Int → Int → Int} (h : Q (.int (f i j)) H) : ipI f (.int i) (.int j) H Q := ⟨i, j, rfl, rfl, h⟩
theorem w_iteT {A B : Prop} (h : A) : if true = true then A else B := iteT h
theorem w_iteF {A B : Prop} (h : B) : if false = true then A else B := iteF h
theorem w_iteNT {A B : Prop} (h : B) : if (!true) = true then A else B := iteF h
theorem w_iteNF {A B : Prop} (h : A) : if (!false) = true then A else B := iteT h
theorem w_ite {c : Prop} [Decidable c] {A B : Prop} (h1 : c → A) (h2 : ¬ c → B) : if decide c = true then A else B := by
  by_cases h : c
  · rw [if_pos (decide_eq_true h)]; exact h1 h
  · rw [if_neg (by simpa using h)]; exact h2 h
theorem w_iten {c : Prop} [Decidable c] {A B : Prop} (h1 : ¬ c → A) (h2 : c → B) : if (!decide c) = true then A else B := by
  by_cases h : c
  · rw [if_neg (by simpa using h)]; exact h2 h
  · rw [if_pos (by simpa using h)]; exact h1 h
theorem w_itet {c : Prop} [Decidable c] {A B : Prop} (hc : c) (h1 : A) : if decide c = true then A else B := by rw [if_pos (decide_eq_true hc)]; exact h1
theorem w_itef {c : Prop} [Decidable c] {A B : Prop} (hc : ¬ c) (h1 : B) : if decide c = true then A else B := by rw [if_neg (by simpa using hc)]; exact h1
theorem w_itent {c : Prop} [Decidable c] {A B : Prop} (hc : ¬ c) (h1 : A) : if (!decide c) = true then A else B := by rw [if_pos (by simpa using hc)]; exact h1
theorem w_itenf {c : Prop} [Decidable c] {A B : Prop} (hc : c) (h1 : B) : if (!decide c) = true then A else B := by rw [if_neg (by simpa using hc)]; exact h1
theorem w_iteb {c : Bool} {A B : Prop} (h1 : c = true → A) (h2 : c = false → B) : if c = true then A else B := by
  cases c
  · exact iteF (h2 rfl)
  · exact iteT (h1 rfl)
theorem w_nil {R : List V → Hp → Prop} (h : R [] H) : tNil σ H R := h
theorem w_cons {tr : TA} {R : List V → Hp → Prop} (h : ta σ H fun x H1 => tr σ H1 fun xs H2 => R (x :: xs) H2) : tCons ta tr σ H R := h
theorem w_cb {r : List V → Hp → VK → Prop} {tr : TA} (h : tr σ H fun vs H1 => r vs H1 Q) : tCB r tr σ H Q := h
theorem w_call {sp : Sp} {E : XK} {tr : TA} (h : tr σ H fun vs H1 => sp vs H1 Q E) : tCall sp [] E tr σ H Q := by
  unfold tCall
  simpa only [List.append_nil] using h
/-- what one knows of the heaps -/
def Tp (H H' : Hp) : Prop := ∀ a xs, H a = some (.tup xs) → H' a = some (.tup xs)
theorem Same.at {H H' : Hp} {a : Addr} {o : HO} (e : Same H H') (h : H a = some o) : H' a = some o := e a o h
theorem same_new {o : HO} (h : H p = none) : Same H (upd H p o) := fun b u e => by
  rw [upd_ne (ne_of_none e h)]; exact e
/-- a new object of content o -/
def gNew (o : HO) (Q : VK) (H : Hp) : Prop := ∀ p, H p = none → Q (.ref p) (upd H p o)
theorem w_new {o : HO} (h : ∀ p H', H p = none → Same H H' → H' p = some o → H' = upd H p o → Q (.ref p) H') : gNew o Q H := fun p hp => h p _ hp (same_new hp) upd_same rfl
def gTupN (xs : List V) (Q : VK) (H : Hp) : Prop := xs.length ≤ sizeLine ∧ ∀ p, H p = none → Q (.ref p) (upd H p (.tup xs))
def gLstN (xs : List V) (Q : VK) (H : Hp) : Prop := xs.length ≤ sizeLine ∧ ∀ p, H p = none → Q (.ref p) (upd H p (.lst xs))
theorem upd_oth {o u u' : HO} (h : H a = some o) (h' : H b = some u) (d : o ≠ u) : upd H b u' a = some o := by rw [upd_ne (ne_of h h' d)]; exact h
theorem w_tup {tr : TA} (h : tr σ H fun xs H1 => gTupN xs Q H1) : tTup tr σ H Q := h
theorem w_lst {tr : TA} (h : tr σ H fun xs H1 => gLstN xs Q H1) : tLst tr σ H Q := h
theorem w_gTupN {xs : List V} (l : xs.length ≤ sizeLine) (h : gNew (.tup xs) Q H) : gTupN xs Q H := ⟨l, h⟩
theorem w_gLstN {xs : List V} (l : xs.length ≤ sizeLine) (h : gNew (.lst xs) Q H) : gLstN xs Q H := ⟨l, h⟩
theorem small9 {n : Nat} (h : n ≤ 1000) : n ≤ sizeLine := Nat.le_trans h (by decide)
theorem sqL (h : H a = some (.lst xs)) : SqL K H a xs := .inl (.inl h)
theorem sqT (h : H a = some (.tup xs)) : SqT K H a xs := .inl (.inl h)
theorem w_ixL {xs : List V} (h : H p = some (.lst xs)) (e : atI xs i = some v) (k : Q v H) : rIxL K (.ref p) (.int i) H Q := ⟨p, xs, i, v, rfl, rfl, sqL h, e, k⟩
theorem w_ixT {xs : List V} (h : H p = some (.tup xs)) (e : atI xs i = some v) (k : Q v H) : rIxT K (.ref p) (.int i) H Q := ⟨p, xs, i, v, rfl, rfl, sqT h, e, k⟩
theorem isi_int_int (h : Q (.bl true) H) : rIsi K [.int i, .ty "int"] H Q := ⟨_, _, .type "int", .type "int", true, rfl, .ty _, .base (.int i), kit_ty (by decide +kernel), h⟩
theorem isi_int_bool (h : Q (.bl false) H) : rIsi K [.int i, .ty "bool"] H Q := ⟨_, _, .type "int", .type "bool", false, rfl, .ty _, .base (.int i), kit_ty (by decide +kernel), h⟩
theorem isi_non_int (h : Q (.bl false) H) : rIsi K [.non, .ty "int"] H Q := ⟨_, _, .type "NoneType", .type "int", false, rfl, .ty _, .base .non, kit_ty (by decide +kernel), h⟩
theorem isi_str_str {s : Str} (h : Q (.bl true) H) : rIsi K [.str s, .ty "str"] H Q := ⟨_, _, .type "str", .type "str", true, rfl, .ty _, .base (.str s), kit_ty (by decide +kernel), h⟩
theorem isi_tup_tup {xs : List V} (e : H p = some (.tup xs)) (h : Q (.bl true) H) : rIsi K [.ref p, .ty "tuple"] H Q := ⟨_, _, .type "tuple", .type "tuple", true, rfl, .ty _, .base (.tup e), kit_ty (by decide +kernel), h⟩
theorem isi_lst_lst {xs : List V} (e : H p = some (.lst xs)) (h : Q (.bl true) H) : rIsi K [.ref p, .ty "list"] H Q := ⟨_, _, .type "list", .type "list", true, rfl, .ty _, .base (.lst e), kit_ty (by decide +kernel), h⟩
/-! named readings of the library's own -/
theorem call_lenN {X : Cx} : CallR X (.builtin "len") (rLenB X.K) := call_lenB rfl
def rLenS : List V → Hp → VK → Prop := fun xs H Q => ∃ z, xs = [.str z] ∧ z.length ≤ sizeLine ∧ Q (.int z.length) H
theorem call_lenSN {X : Cx} : CallR X (.builtin "len") rLenS := call_len_str
def rInt1 : List V → Hp → VK → Prop := fun xs H Q => (∃ i, xs = [.int i] ∧ Q (.int i) H) ∨ ∃ k, xs = [.bl k] ∧ Q (.int (if k then 1 else 0)) H
theorem call_intN {X : Cx} : CallR X (.type "int") rInt1 := call_int1
def rMax2 : List V → Hp → VK → Prop := fun xs H Q => ∃ i j, xs = [.int i, .int j] ∧ Q (.int (if j > i then j else i)) H
theorem call_maxN {X : Cx} (hc : X.calm = true) : CallR X (.builtin "max") rMax2 := call_max2 hc
def rTupOf (K : PySem.W.Frag) : List V → Hp → VK → Prop := fun xs H Q => ∃ p ys, xs = [.ref p] ∧ ((SqL K H p ys ∧ ∀ l, H l = none → Q (.ref l) (upd H l (.tup ys))) ∨ (SqT K H p ys ∧ Q (.ref p) H))
theorem call_tupN {X : Cx} : CallR X (.type "tuple") (rTupOf X.K) := call_tuple_of
def rLstOf (K : PySem.W.Frag) : List V → Hp → VK → Prop := fun xs H Q => ∃ p ys, xs = [.ref p] ∧ (SqL K H p ys ∨ SqT K H p ys) ∧ ∀ l, H l = none → Q (.ref l) (upd H l (.lst ys))
theorem call_lstN {X : Cx} : CallR X (.type "list") (rLstOf X.K) := call_list_of
def rLdT : List V → Hp → VK → Prop := fun xs H Q => ∃ d kvs, xs = [V.ref d] ∧ Rd H d (.dT kvs) ∧ ∀ p bs, H p = none → IsKeys H kvs bs → Q (.ref p) (upd H p (.lst (bs.map V.ref)))
theorem call_ldT {X : Cx} (hc : X.calm = true) : CallR X (.type "list") rLdT := call_list_dT hc
def rAddS : R2 := fun x y H Q => ∃ i j, x = .str i ∧ y = .str j ∧ i.length + j.length ≤ sizeLine ∧ Q (.str (i ++ j)) H
theorem op_addSN {X : Cx} : OpR X (binaryOp .Add) rAddS := op_add_str
def rLenD : List V → Hp → VK → Prop := fun xs H Q => ∃ a kvs, xs = [V.ref a] ∧ H a = some (.dK kvs) ∧ Q (.int kvs.length) H
theorem call_lenDN {X : Cx} : CallR X (.builtin "len") rLenD := call_lenD
theorem w_isN (h : Q (.bl (decide (x = .non))) H) : rIsN x .non H Q := ⟨rfl, h⟩
theorem w_isNI (h : Q (.bl false) H) : rIsN (.int i) .non H Q := ⟨rfl, by simpa using h⟩
theorem w_isNN (h : Q (.bl true) H) : rIsN .non .non H Q := ⟨rfl, by simpa using h⟩
theorem w_isNR (h : Q (.bl false) H) : rIsN (.ref a) .non H Q := ⟨rfl, by simpa using h⟩
theorem w_notNI (h : Q (.bl true) H) : rNotN (.int i) .non H Q := ⟨rfl, by simpa using h⟩
theorem w_notNN (h : Q (.bl false) H) : rNotN .non .non H Q := ⟨rfl, by simpa using h⟩
theorem w_notNR (h : Q (.bl true) H) : rNotN (.ref a) .non H Q := ⟨rfl, by simpa using h⟩
theorem w_lenL {xs : List V} (e : H p = some (.lst xs)) (h : Q (.int xs.length) H) : rLenB K [.ref p] H Q := ⟨p, xs, rfl, .inl (sqL e), h⟩
theorem w_lenT {xs : List V} (e : H p = some (.tup xs)) (h : Q (.int xs.length) H) : rLenB K [.ref p] H Q := ⟨p, xs, rfl, .inr (sqT e), h⟩
theorem w_lenS {s : Str} (e : s.length ≤ sizeLine) (h : Q (.int s.length) H) : rLenS [.str s] H Q := ⟨s, rfl, e, h⟩
theorem w_lenDK {kvs : List (Key × V)} (e : H a = some (.dK kvs)) (h : Q (.int kvs.length) H) : rLenD [.ref a] H Q := ⟨a, kvs, rfl, e, h⟩
theorem w_lenDT {kvs : List (List Key × V)} (e : H a = some (.dT kvs)) (h : Q (.int kvs.length) H) : rLenT [.ref a] H Q := ⟨a, kvs, rfl, e, h⟩
theorem w_int1 (h : Q (.int i) H) : rInt1 [.int i] H Q := .inl ⟨i, rfl, h⟩
theorem w_intb {c : Bool} (h : Q (.int (if c then 1 else 0)) H) : rInt1 [.bl c] H Q := .inr ⟨c, rfl, h⟩
theorem w_max2 (h : Q (.int (if j > i then j else i)) H) : rMax2 [.int i, .int j] H Q := ⟨i, j, rfl, h⟩
theorem w_tupL {xs : List V} (e : H p = some (.lst xs)) (h : gNew (.tup xs) Q H) : rTupOf K [.ref p] H Q := ⟨p, xs, rfl, .inl ⟨sqL e, h⟩⟩
theorem w_lstL {xs : List V} (e : H p = some (.lst xs)) (h : gNew (.lst xs) Q H) : rLstOf K [.ref p] H Q := ⟨p, xs, rfl, .inl (sqL e), h⟩
theorem w_addS {s t : Str} (e : s.length + t.length ≤ sizeLine) (h : Q (.str (s ++ t)) H) : rAddS (.str s) (.str t) H Q := ⟨s, t, rfl, rfl, e, h⟩
theorem w_inS {c : Nat} {z : Str} (h : Q (.bl (decide (c ∈ z.cps.toList))) H) : rInS (.str ⟨#[c]⟩) (.str z) H Q := ⟨c, z, rfl, rfl, h⟩
theorem w_notInS {c : Nat} {z : Str} (h : Q (.bl (!decide (c ∈ z.cps.toList))) H) : rNotInS (.str ⟨#[c]⟩) (.str z) H Q := ⟨c, z, rfl, rfl, h⟩
theorem w_inb {xs : List V} {b : Bool} (e : SqT K H p xs) (f1 : flatV x = true) (f2 : xs.all flatV = true) (r : inV x xs = b) (h : Q (.bl b) H) : rIn K false x (.ref p) H Q := by
  subst r
  exact ⟨p, xs, rfl, .inr e, f1, f2, h⟩
theorem w_inL {neg : Bool} {xs : List V} (e : H p = some (.lst xs) ∨ H p = some (.tup xs) ∨ SqT K H p xs) (f1 : flatV x = true) (f2 : xs.all flatV = true) (h : Q (.bl (if neg then !inV x xs else inV x xs)) H) : rIn K neg x (.ref p) H Q :=
  ⟨p, xs, rfl, e.elim (fun e => .inl (sqL e)) (fun e => .inr (e.elim sqT id)), f1, f2, h⟩
theorem w_nn {R : Prop} (h : R) : (V.non = V.non) ∧ R := ⟨rfl, h⟩
/-! fields -/
def gF (K : PySem.W.Frag) (f : Str) (x : V) (H : Hp) (Q : VK) : Prop := ∃ a C dx fs v, x = .ref a ∧ H a = some (.ins C dx fs) ∧ Cls K C ∧ NoAttr K C f ∧ fs.lookup f = some v ∧ Q v H
theorem w_fld (h : ta σ H fun x H1 => gF K f x H1 Q) : tFld K ta f σ H Q := h
theorem w_gF {a C dx : Addr} {fs : List (Str × V)} (e : H a = some (.ins C dx fs)) (c : Cls K C) (n : NoAttr K C f) (l : fs.lookup f = some v) (h : Q v H) : gF K f (.ref a) H Q := ⟨a, C, dx, fs, v, rfl, e, c, n, l, h⟩
def pF (K : PySem.W.Frag) (f : Str) (x y : V) (H : Hp) (R : Hp → Prop) : Prop := ∃ a C dx fs, x = .ref a ∧ H a = some (.ins C dx fs) ∧ Cls K C ∧ NoAttr K C f ∧ fs.length < 1000 ∧ R (upd H a (.ins C dx (putF f y fs)))
theorem w_sfld {tv : TE} (h : tv σ H fun y H1 => ta σ H1 fun x H2 => pF K f x y H2 fun H3 => nx σ H3) : sFld K ta tv f ⟨nx, rt, bk, ct⟩ σ H := h
theorem w_pF {a C dx : Addr} {fs fs' : List (Str × V)} {R : Hp → Prop} (e : H a = some (.ins C dx fs)) (c : Cls K C) (n : NoAttr K C f) (l : fs.length < 1000) (l2 : putF f y fs = fs') (h : R (upd H a (.ins C dx fs'))) : pF K f (.ref a) y H R := by subst l2; exact ⟨a, C, dx, fs, rfl, e, c, n, l, h⟩
def gFA (K : PySem.W.Frag) (f : Str) (tv : TE) (rd : V → V → Hp → VK → Prop) (σ : L2.St) (x : V) (H : Hp) (R : Hp → Prop) : Prop := ∃ a C dx fs v, x = .ref a ∧ H a = some (.ins C dx fs) ∧ Cls K C ∧ NoAttr K C f ∧ fs.lookup f = some v ∧
  tv σ H fun y H2 => rd v y H2 fun z H3 => ∃ dx' fs', H3 a = some (.ins C dx' fs') ∧ fs'.length < 1000 ∧ R (upd H3 a (.ins C dx' (putF f z fs')))
theorem w_sfldA {tv : TE} {rd : V → V → Hp → VK → Prop} (h : ta σ H fun x H1 => gFA K f tv rd σ x H1 fun H2 => nx σ H2) : sFldAug K ta tv rd f ⟨nx, rt, bk, ct⟩ σ H := h
/-- x.f op= e, where e leaves the heap -/
def gFB (K : PySem.W.Frag) (f : Str) (a C dx : Addr) (fs : List (Str × V)) (z : V) (H : Hp) (R : Hp → Prop) : Prop := R (upd H a (.ins C dx (putF f z fs)))
theorem w_gFA {a C dx : Addr} {tv : TE} {rd : V → V → Hp → VK → Prop} {fs : List (Str × V)} {R : Hp → Prop} (e : H a = some (.ins C dx fs)) (c : Cls K C) (n : NoAttr K C f) (l : fs.lookup f = some v) (l2 : fs.length < 1000)
    (h : tv σ H fun y H2 => rd v y H2 fun z H3 => H3 a = some (.ins C dx fs) ∧ R (upd H3 a (.ins C dx (putF f z fs)))) (mono : ∀ Q Q' : VK, (∀ y H2, Q y H2 → Q' y H2) → tv σ H Q → tv σ H Q')
    (mono2 : ∀ (x y : V) (H : Hp) (Q Q' : VK), (∀ y H2, Q y H2 → Q' y H2) → rd x y H Q → rd x y H Q') : gFA K f tv rd σ (.ref a) H R :=
  ⟨a, C, dx, fs, v, rfl, e, c, n, l, mono _ _ (fun y H2 q => mono2 _ _ _ _ _ (fun z H3 q => ⟨dx, fs, q.1, l2, q.2⟩) q) h⟩
theorem w_rAdd (h : Q (.int (i + j)) H) : rAdd (.int i) (.int j) H Q := ⟨i, j, rfl, rfl, h⟩
theorem w_rSub (h : Q (.int (i - j)) H) : rSub (.int i) (.int j) H Q := ⟨i, j, rfl, rfl, h⟩
theorem w_gFAsub {a C dx : Addr} {fs : List (Str × V)} {R : Hp → Prop} (e : H a = some (.ins C dx fs)) (c : Cls K C) (n : NoAttr K C f) (l : fs.lookup f = some (.int i)) (l2 : fs.length < 1000) (h : R (upd H a (.ins C dx (putF f (.int (i - j)) fs)))) : gFA K f (tC (.int j)) rSub σ (.ref a) H R :=
  ⟨a, C, dx, fs, .int i, rfl, e, c, n, l, i, j, rfl, rfl, dx, fs, e, l2, h⟩
theorem w_gFAadd {a C dx : Addr} {fs : List (Str × V)} {R : Hp → Prop} {m : Nat} (e : H a = some (.ins C dx fs)) (c : Cls K C) (n : NoAttr K C f) (l : fs.lookup f = some (.int i)) (l2 : fs.length < 1000) (s : σ[m]? = some (some (.int j))) (h : R (upd H a (.ins C dx (putF f (.int (i + j)) fs)))) : gFA K f (tVar m) rAdd σ (.ref a) H R :=
  ⟨a, C, dx, fs, .int i, rfl, e, c, n, l, .int j, s, i, j, rfl, rfl, dx, fs, e, l2, h⟩
def gLstRg (a b : Int) (Q : VK) (H : Hp) : Prop := RgOk a b ∧ ∀ q, H q = none → Q (.ref q) (upd H q (.lst (rgV a b)))
theorem w_lstRg {te : L2.St → Hp → (Int → Int → Hp → Prop) → Prop} (h : te σ H fun a b H1 => gLstRg a b Q H1) : tLstRg te σ H Q := h
theorem w_gLstRg {a b : Int} (r : RgOk a b) (h : gNew (.lst (rgV a b)) Q H) : gLstRg a b Q H := ⟨r, h⟩
def gRg2 (x y : V) (H : Hp) (R : Int → Int → Hp → Prop) : Prop := ∃ i j, x = .int i ∧ y = .int j ∧ R i j H
theorem w_rg2 {R : Int → Int → Hp → Prop} (h : ta σ H fun x H1 => tb σ H1 fun y H2 => gRg2 x y H2 R) : tRg2 ta tb σ H R := h
theorem w_gRg2 {R : Int → Int → Hp → Prop} (h : R i j H) : gRg2 (.int i) (.int j) H R := ⟨i, j, rfl, rfl, h⟩
/-! methods, makers, getters -/
def gM (m : Str) (C : Addr) (sp : Sp) (dvs : List V) (E : XK) (t : TA) (σ : L2.St) (x : V) (H : Hp) (Q : VK) : Prop := ∃ a dx fs, x = .ref a ∧ H a = some (.ins C dx fs) ∧ fs.lookup m = none ∧ t σ H fun vs H2 => sp (x :: (vs ++ dvs)) H2 Q E
theorem w_meth {m : Str} {C : Addr} {sp : Sp} {E : XK} {t : TA} (h : ta σ H fun x H1 => gM m C sp [] E t σ x H1 Q) : tMeth C m sp [] E ta t σ H Q := h
theorem w_gM {m : Str} {a C dx : Addr} {fs : List (Str × V)} {sp : Sp} {E : XK} {t : TA} (e : H a = some (.ins C dx fs)) (l : fs.lookup m = none) (h : t σ H fun vs H2 => sp (.ref a :: vs) H2 Q E) : gM m C sp [] E t σ (.ref a) H Q := by
  refine ⟨a, dx, fs, rfl, e, l, ?_⟩
  simpa only [List.append_nil] using h
def gMake (C : Addr) (sp : Sp) (E : XK) (vs : List V) (H : Hp) (Q : VK) : Prop := ∀ x dx, H x = none → H dx = none → dx ≠ x → sp (.ref x :: vs) (upd (upd H dx (.own x)) x (.ins C dx [])) (fun v H2 => v = .non ∧ Q (.ref x) H2) E
theorem w_make {C : Addr} {sp : Sp} {E : XK} {t : TA} (h : t σ H fun vs H1 => gMake C sp E vs H1 Q) : tMake C sp [] E t σ H Q := by
  unfold tMake
  simp only [List.append_nil]
  exact h
theorem same_made {x dx C : Addr} {fs : List (Str × V)} (nx : H x = none) (nd : H dx = none) : Same H (upd (upd H dx (.own x)) x (.ins C dx fs)) := fun b o e => by
  rw [upd_ne (ne_of_none e nx), upd_ne (ne_of_none e nd)]; exact e
theorem w_gMake {C : Addr} {sp : Sp} {E : XK} {vs : List V} (h : ∀ x dx H', H x = none → Same H H' → H' x = some (.ins C dx []) → (∀ o, Same H (upd H' x o)) → sp (.ref x :: vs) H' (fun v H2 => v = .non ∧ Q (.ref x) H2) E) : gMake C sp E vs H Q := fun x dx nx nd ne =>
  h x dx _ nx (same_made nx nd) upd_same fun o b u e => by
    rw [upd_ne (ne_of_none e nx), upd_ne (ne_of_none e nx), upd_ne (ne_of_none e nd)]; exact e
def gIxO (C : Addr) (sp : Sp) (E : XK) (x y : V) (H : Hp) (Q : VK) : Prop := ∃ a dx fs, x = .ref a ∧ H a = some (.ins C dx fs) ∧ sp [x, y] H Q E
theorem w_ixO {C : Addr} {sp : Sp} {E : XK} {ti : TE} (h : ta σ H fun x H1 => ti σ H1 fun y H2 => gIxO C sp E x y H2 Q) : tIxO C sp E ta ti σ H Q := h
theorem w_gIxO {C dx : Addr} {fs : List (Str × V)} {sp : Sp} {E : XK} (e : H a = some (.ins C dx fs)) (h : sp [.ref a, y] H Q E) : gIxO C sp E (.ref a) y H Q := ⟨a, dx, fs, rfl, e, h⟩
theorem w_lenO {C dx : Addr} {fs : List (Str × V)} {sp : Sp} {E : XK} (e : H a = some (.ins C dx fs)) (h : sp [.ref a] H (fun v H' => ∃ n : Int, v = .int n ∧ (0 ≤ n ∧ n < 2 ^ 63) ∧ Q (.int n) H') E) : rLenO C sp E [.ref a] H Q := ⟨a, dx, fs, rfl, e, h⟩
/-! slices -/
theorem w_sl {r : V → Option Int → Option Int → Hp → VK → Prop} {tl th : TO} (h : te σ H fun x H1 => tl σ H1 fun l H2 => th σ H2 fun u H3 => r x l u H3 Q) : tSl r te tl th σ H Q := h
theorem w_noPart {R : Option Int → Hp → Prop} (h : R none H) : tNoPart σ H R := h
theorem w_part {R : Option Int → Hp → Prop} (h : te σ H fun x H1 => ∃ i, x = .int i ∧ R (some i) H1) : tPart te σ H R := h
/-! built-in methods of lists -/
theorem tyV_lst {xs : List V} (h : H p = some (.lst xs)) : tyV K "list" (.ref p) H := .inl ⟨rfl, xs, sqL h⟩
theorem w_bm {T : String} {r : V → List V → Hp → VK → Prop} {t : TA} (h : te σ H fun x H1 => tyV K T x H1 ∧ t σ H1 fun xs H2 => r x xs H2 Q) : tBM K T r te t σ H Q := h
theorem w_bmL {xs : List V} {R : Prop} (e : H p = some (.lst xs)) (h : R) : tyV K "list" (.ref p) H ∧ R := ⟨tyV_lst e, h⟩
theorem w_append {xs : List V} (e : H p = some (.lst xs)) (l : xs.length < sizeLine) (h : Q .non (upd H p (.lst (xs ++ [y])))) : rAppend (.ref p) [y] H Q := ⟨p, xs, y, rfl, rfl, e, l, h⟩
theorem w_extend {xs zs : List V} (e : H p = some (.lst xs)) (e2 : H q = some (.lst zs)) (l : xs.length + zs.length ≤ sizeLine) (h : Q .non (upd H p (.lst (xs ++ zs)))) : rExtend (.ref p) [.ref q] H Q := ⟨p, q, xs, zs, rfl, rfl, e, e2, l, h⟩
theorem w_pop0 {xs : List V} (e : H p = some (.lst (y :: xs))) (h : Q y (upd H p (.lst xs))) : rPopAt (.ref p) [.int 0] H Q :=
  ⟨p, y :: xs, 0, 0, y, rfl, rfl, e, by decide, by decide, by simp [seqIndex?], rfl, h⟩
theorem w_cat {xs zs : List V} (e : H p = some (.lst xs)) (e2 : H q = some (.lst zs)) (l : xs.length + zs.length ≤ sizeLine) (h : gNew (.lst (xs ++ zs)) Q H) : rCat (.ref p) (.ref q) H Q := ⟨p, q, xs, zs, rfl, rfl, e, e2, l, h⟩
/-! tuples cut and joined; dicts -/
theorem w_slA {xs : List V} {lo hi : Option Int} (e : H a = some (.tup xs)) (h : ∀ p H', Same H H' → H' p = some (.tup (cutV xs lo hi)) → Q (.ref p) H') : rSlA K (.ref a) lo hi H Q := by
  refine ⟨a, xs, rfl, sqT e, fun c => h a H (Same.refl H) ?_, fun c p hp => h p _ (same_new hp) upd_same⟩
  have : cutV xs lo hi = xs := by
    unfold cutV
    rw [c.1, c.2]
    simp
  rw [this]; exact e
theorem w_catA {xs ys : List V} (e : H a = some (.tup xs)) (e2 : H b = some (.tup ys)) (l : xs.length + ys.length ≤ sizeLine) (h : ∀ p H', Same H H' → H' p = some (.tup (xs ++ ys)) → Q (.ref p) H') : rCatA K (.ref a) (.ref b) H Q :=
  ⟨a, b, xs, ys, rfl, rfl, sqT e, sqT e2, l, fun c => h b H (Same.refl H) (by subst c; exact e2), fun _ c => h a H (Same.refl H) (by subst c; rw [List.append_nil]; exact e), fun _ _ p hp => h p _ (same_new hp) upd_same⟩
theorem w_slL {xs : List V} {lo hi : Option Int} (e : H a = some (.lst xs)) (h : gNew (.lst (cutV xs lo hi)) Q H) : rSlL K (.ref a) lo hi H Q := ⟨a, xs, rfl, sqL e, h⟩
def keyP (pl : List Int) : List Key := pl.map Sum.inl
theorem keyP_kV (pl : List Int) : (keyP pl).map kV = pl.map V.int := by unfold keyP; rw [List.map_map]; rfl
def gDG (x y : V) (H : Hp) (Q : VK) : Prop := ∃ a v, x = .ref a ∧ DGet H a y (some v) ∧ Q v H
theorem w_dget {td ty : TE} (h : td σ H fun x H1 => ty σ H1 fun y H2 => gDG x y H2 Q) : tDGet td ty σ H Q := h
theorem w_gDGp {kvs : List (List Key × V)} {pl : List Int} (e : H a = some (.dT kvs)) (eb : H b = some (.tup (pl.map V.int))) (hv : valV kvs (keyP pl) = some v) (h : Q v H) : gDG (.ref a) (.ref b) H Q :=
  ⟨a, v, rfl, hv ▸ DGet.t e (by rw [keyP_kV]; exact eb), h⟩
def pDP (x y v : V) (H : Hp) (R : Hp → Prop) : Prop := ∃ a H4, x = .ref a ∧ DPut H a y v H4 ∧ R H4
theorem w_dput {td ty tv : TE} (h : tv σ H fun v H1 => td σ H1 fun x H2 => ty σ H2 fun y H3 => pDP x y v H3 fun H4 => nx σ H4) : sDPut td ty tv ⟨nx, rt, bk, ct⟩ σ H := h
theorem w_pDPp {kvs : List (List Key × V)} {pl : List Int} {R : Hp → Prop} (e : H a = some (.dT kvs)) (eb : H b = some (.tup (pl.map V.int))) (l : kvs.length < sizeLine) (h : R (upd H a (.dT (putK kvs (keyP pl) v)))) : pDP (.ref a) (.ref b) v H R :=
  ⟨a, _, rfl, DPut.t e (by rw [keyP_kV]; exact eb) l, h⟩
theorem w_pDPi {kvs : List (Key × V)} {R : Hp → Prop} (e : H a = some (.dK kvs)) (l : kvs.length < sizeLine) (h : R (upd H a (.dK (putK kvs (.inl i) v)))) : pDP (.ref a) (.int i) v H R :=
  ⟨a, _, rfl, DPut.k (k := .inl i) e l, h⟩
theorem w_dnewT (h : gNew (.dT []) Q H) : tDNewT σ H Q := h
theorem w_dnewK (h : gNew (.dK []) Q H) : tDNewK σ H Q := h
theorem w_while {c : TT} {tb : TS} {m0 : Nat} (W : Nat → L2.St → Hp → Prop) (h0 : W m0 σ H)
    (hs : ∀ m σ H, W m σ H → c σ H fun b H1 => if b = true then tb ⟨fun σ' H' => ∃ m', m' < m ∧ W m' σ' H', rt, nx, fun σ' H' => ∃ m', m' < m ∧ W m' σ' H'⟩ σ H1 else nx σ H1)
    (mono : ∀ σ H (R R' : Bool → Hp → Prop), (∀ b H1, R b H1 → R' b H1) → c σ H R → c σ H R') : tWhile c tb ⟨nx, rt, bk, ct⟩ σ H := by
  refine ⟨W, ⟨m0, h0⟩, fun m σ H w => mono _ _ _ _ (fun b H1 q => ?_) (hs m σ H w)⟩
  cases b with
  | true => exact ⟨_, fun _ _ z => z, q⟩
  | false => exact q
theorem at_zero {α : Type} (x : α) (xs : List α) : atI (x :: xs) 0 = some x := by
  unfold atI
  have : ixN (x :: xs).length 0 = some 0 := by
    unfold ixN
    rw [if_pos (by decide), if_pos (by simp)]; rfl
  rw [this]; rfl
theorem at_nat {α : Type} {xs : List α} {i : Int} {n : Nat} {x : α} (h : xs[n]? = some x) (e : i = (n : Int)) : atI xs i = some x := by
  have hl : n < xs.length := by
    rcases Nat.lt_or_ge n xs.length with c | c
    · exact c
    · rw [List.getElem?_eq_none c] at h; cases h
  subst e
  unfold atI
  have : ixN xs.length (n : Int) = some n := by
    unfold ixN
    rw [if_pos (by omega), if_pos (by omega)]; rfl
  rw [this]; exact h
theorem ix_nat {n k : Nat} {i : Int} (h : k < n) (e : i = (k : Int)) : ixN n i = some k := by
  subst e
  unfold ixN
  rw [if_pos (by omega), if_pos (by omega)]; rfl
/-! stores -/
theorem w_gSub {to ti : TE} {t : TSet} {R : L2.St → Hp → Prop} (h : to σ H fun o H1 => ti σ H1 fun i H2 => t o i v H2 fun H3 => R σ H3) : gSub to ti t v σ H R := h
theorem w_setL {xs : List V} {n : Nat} {R : Hp → Prop} (e : H p = some (.lst xs)) (e2 : ixN xs.length i = some n) (h : R (upd H p (.lst (xs.set n v)))) : rSetL (.ref p) (.int i) v H R := ⟨p, xs, i, n, rfl, rfl, e, e2, h⟩
/-! target tuples -/
theorem w_gTup {n : Nat} {t : TGs} {xs : List V} {R : L2.St → Hp → Prop} (e : H p = some (.tup xs)) (l : xs.length = n) (h : t xs σ H R) : gTup K n t (.ref p) σ H R := ⟨p, xs, rfl, sqT e, l, h⟩
theorem w_gCons {g : TG} {gs : TGs} {xs : List V} {R : L2.St → Hp → Prop} (h : g v σ H fun σ' H' => gs xs σ' H' R) : gCons g gs (v :: xs) σ H R := ⟨v, xs, rfl, h⟩
theorem w_gNil {R : L2.St → Hp → Prop} (h : R σ H) : gNil [] σ H R := ⟨rfl, h⟩
/-! loops -/
def gForT (K : PySem.W.Frag) (g : TG) (tb : TS) (D : Ends) (σ : L2.St) (x : V) (H : Hp) : Prop := ∃ a, x = .ref a ∧ (∃ xs, SqT K H a xs) ∧ ∃ W : Nat → Nat → L2.St → Hp → Prop, (∃ m, W 0 m σ H) ∧ ∀ i m σ H, W i m σ H →
  ((Itt K a).stop i H ∧ D.nx σ H) ∨ ((Itt K a).go i H ∧ ∃ N : L2.St → Hp → Prop, (∀ σ' H', N σ' H' → ∃ m', m' < m ∧ W (i + 1) m' σ' H') ∧ ∀ x H', (Itt K a).yld i H x H' → g x σ H' fun σ2 H2 => tb { D with nx := N, ct := N, bk := D.nx } σ2 H2)
theorem w_forT {tl : TE} {g : TG} {tb : TS} {D : Ends} (h : tl σ H fun x H1 => gForT K g tb D σ x H1) : tFor (iTup K tl) g tb D σ H := h
def gForL (K : PySem.W.Frag) (g : TG) (tb : TS) (D : Ends) (σ : L2.St) (x : V) (H : Hp) : Prop := ∃ a, x = .ref a ∧ (∃ xs, SqL K H a xs) ∧ ∃ W : Nat → Nat → L2.St → Hp → Prop, (∃ m, W 0 m σ H) ∧ ∀ i m σ H, W i m σ H →
  ((Itl K a).stop i H ∧ D.nx σ H) ∨ ((Itl K a).go i H ∧ ∃ N : L2.St → Hp → Prop, (∀ σ' H', N σ' H' → ∃ m', m' < m ∧ W (i + 1) m' σ' H') ∧ ∀ x H', (Itl K a).yld i H x H' → g x σ H' fun σ2 H2 => tb { D with nx := N, ct := N, bk := D.nx } σ2 H2)
theorem w_forL {tl : TE} {g : TG} {tb : TS} {D : Ends} (h : tl σ H fun x H1 => gForL K g tb D σ x H1) : tFor (iList K tl) g tb D σ H := h
def gForR (g : TG) (tb : TS) (D : Ends) (σ : L2.St) (lo : Int) (n : Nat) (H : Hp) : Prop := ∃ W : Nat → Nat → L2.St → Hp → Prop, (∃ m, W 0 m σ H) ∧ ∀ i m σ H, W i m σ H →
  ((Itr lo n).stop i H ∧ D.nx σ H) ∨ ((Itr lo n).go i H ∧ ∃ N : L2.St → Hp → Prop, (∀ σ' H', N σ' H' → ∃ m', m' < m ∧ W (i + 1) m' σ' H') ∧ ∀ x H', (Itr lo n).yld i H x H' → g x σ H' fun σ2 H2 => tb { D with nx := N, ct := N, bk := D.nx } σ2 H2)
def gR1 (vs : List V) (H : Hp) (R : Int → Nat → Hp → Prop) : Prop := ∃ j : Int, vs = [.int j] ∧ -(2 ^ 62) ≤ j ∧ j < 2 ^ 62 ∧ R 0 j.toNat H
def gR2 (vs : List V) (H : Hp) (R : Int → Nat → Hp → Prop) : Prop := ∃ i j : Int, vs = [.int i, .int j] ∧ (-(2 ^ 62) ≤ i ∧ i < 2 ^ 62 ∧ -(2 ^ 62) ≤ j ∧ j < 2 ^ 62) ∧ R i (j - i).toNat H
theorem w_forR1 {tl : TA} {g : TG} {tb : TS} {D : Ends} (h : tl σ H fun xs H1 => gR1 xs H1 fun lo n H2 => gForR g tb D σ lo n H2) : tFor (iRng1 tl) g tb D σ H := h
theorem w_forR2 {tl : TA} {g : TG} {tb : TS} {D : Ends} (h : tl σ H fun xs H1 => gR2 xs H1 fun lo n H2 => gForR g tb D σ lo n H2) : tFor (iRng2 tl) g tb D σ H := h
theorem w_gR1 {R : Int → Nat → Hp → Prop} (h1 : -(2 ^ 62) ≤ i) (h2 : i < 2 ^ 62) (h : R 0 i.toNat H) : gR1 [.int i] H R := ⟨i, rfl, h1, h2, h⟩
theorem w_gR2 {R : Int → Nat → Hp → Prop} (h1 : -(2 ^ 62) ≤ i ∧ i < 2 ^ 62 ∧ -(2 ^ 62) ≤ j ∧ j < 2 ^ 62) (h : R i (j - i).toNat H) : gR2 [.int i, .int j] H R := ⟨i, j, rfl, h1, h⟩
theorem w_iR1 {tl : TA} {R : It → Hp → Prop} (h : tl σ H fun xs H1 => gR1 xs H1 fun lo n H2 => R (Itr lo n) H2) : iRng1 tl σ H R := h
def gForS (g : TG) (tb : TS) (D : Ends) (σ : L2.St) (v : V) (H : Hp) : Prop := ∃ z, v = .str z ∧ ∃ W : Nat → Nat → L2.St → Hp → Prop, (∃ m, W 0 m σ H) ∧ ∀ i m σ H, W i m σ H →
  ((Its z).stop i H ∧ D.nx σ H) ∨ ((Its z).go i H ∧ ∃ N : L2.St → Hp → Prop, (∀ σ' H', N σ' H' → ∃ m', m' < m ∧ W (i + 1) m' σ' H') ∧ ∀ x H', (Its z).yld i H x H' → g x σ H' fun σ2 H2 => tb { D with nx := N, ct := N, bk := D.nx } σ2 H2)
theorem w_forS {tl : TE} {g : TG} {tb : TS} {D : Ends} (h : tl σ H fun x H1 => gForS g tb D σ x H1) : tFor (iStr tl) g tb D σ H := h
def gForE (K : PySem.W.Frag) (g : TG) (tb : TS) (D : Ends) (σ : L2.St) (vs : List V) (H : Hp) : Prop := ∃ a xs, vs = [.ref a] ∧ SqT K H a xs ∧ ∃ W : Nat → Nat → L2.St → Hp → Prop, (∃ m, W 0 m σ H) ∧ ∀ i m σ H, W i m σ H →
  ((Itet K a).stop i H ∧ D.nx σ H) ∨ ((Itet K a).go i H ∧ ∃ N : L2.St → Hp → Prop, (∀ σ' H', N σ' H' → ∃ m', m' < m ∧ W (i + 1) m' σ' H') ∧ ∀ x H', (Itet K a).yld i H x H' → g x σ H' fun σ2 H2 => tb { D with nx := N, ct := N, bk := D.nx } σ2 H2)
theorem w_forE {tl : TA} {g : TG} {tb : TS} {D : Ends} (h : tl σ H fun x H1 => gForE K g tb D σ x H1) : tFor (iEnumT K tl) g tb D σ H := h
/-- the loops by the part that is done -/
theorem take_at {β : Type} {ys : List β} {i : Nat} {y : β} (h : ys[i]? = some y) : ys = ys.take i ++ y :: ys.drop (i + 1) ∧ ys.take (i + 1) = ys.take i ++ [y] := by
  have hl : i < ys.length := by
    rcases Nat.lt_or_ge i ys.length with c | c
    · exact c
    · rw [List.getElem?_eq_none c] at h; cases h
  have e : ys[i] = y := by rw [List.getElem?_eq_getElem hl] at h; exact Option.some.inj h
  refine ⟨?_, ?_⟩
  · rw [← e, ← List.drop_eq_getElem_cons hl, List.take_append_drop]
  · rw [List.take_add_one, h]; rfl
theorem map_at {β : Type} {f : β → V} {ys : List β} {i : Nat} {x : V} (h : (ys.map f)[i]? = some x) : ∃ y, ys[i]? = some y ∧ x = f y := by
  rw [List.getElem?_map] at h
  cases e : ys[i]? with
  | none => rw [e] at h; cases h
  | some y => rw [e] at h; exact ⟨y, rfl, (Option.some.inj h).symm⟩
variable {β : Type} {ys : List β} {val : β → V} {g : TG} {tb : TS}
theorem forT (Pv : List β → L2.St → Hp → Prop) (h0 : Pv [] σ H) (st : ∀ pre σ H, Pv pre σ H → H a = some (.tup (ys.map val)))
    (hs : ∀ pre y post σ H, ys = pre ++ y :: post → Pv pre σ H → g (val y) σ H fun σ2 H2 => tb ⟨Pv (pre ++ [y]), rt, nx, Pv (pre ++ [y])⟩ σ2 H2) (hd : ∀ σ H, Pv ys σ H → nx σ H) : gForT K g tb ⟨nx, rt, bk, ct⟩ σ (.ref a) H := by
  refine ⟨a, rfl, ⟨_, sqT (st _ _ _ h0)⟩, for_tup (K := K) (xs := ys.map val) (fun i σ H => Pv (ys.take i) σ H) (by simpa using h0) (fun i σ H _ p => sqT (st _ _ _ p)) (fun i x σ H hx p => ?_) (fun σ H p => hd σ H (by simpa using p))⟩
  obtain ⟨y, hy, rfl⟩ := map_at hx
  obtain ⟨e1, e2⟩ := take_at hy
  rw [e2]
  exact hs _ _ _ σ H e1 p
theorem forL (Pv : List β → L2.St → Hp → Prop) (h0 : Pv [] σ H) (st : ∀ pre σ H, Pv pre σ H → H a = some (.lst (ys.map val)))
    (hs : ∀ pre y post σ H, ys = pre ++ y :: post → Pv pre σ H → g (val y) σ H fun σ2 H2 => tb ⟨Pv (pre ++ [y]), rt, nx, Pv (pre ++ [y])⟩ σ2 H2) (hd : ∀ σ H, Pv ys σ H → nx σ H) : gForL K g tb ⟨nx, rt, bk, ct⟩ σ (.ref a) H := by
  refine ⟨a, rfl, ⟨_, sqL (st _ _ _ h0)⟩, for_list (K := K) (xs := ys.map val) (fun i σ H => Pv (ys.take i) σ H) (by simpa using h0) (fun i σ H _ p => sqL (st _ _ _ p)) (fun i x σ H hx p => ?_) (fun σ H p => hd σ H (by simpa using p))⟩
  obtain ⟨y, hy, rfl⟩ := map_at hx
  obtain ⟨e1, e2⟩ := take_at hy
  rw [e2]
  exact hs _ _ _ σ H e1 p
theorem forR {lo : Int} {n : Nat} (Pv : Nat → L2.St → Hp → Prop) (h0 : Pv 0 σ H)
    (hs : ∀ i σ H, i < n → Pv i σ H → g (.int (lo + i)) σ H fun σ2 H2 => tb ⟨Pv (i + 1), rt, nx, Pv (i + 1)⟩ σ2 H2) (hd : ∀ σ H, Pv n σ H → nx σ H) : gForR g tb ⟨nx, rt, bk, ct⟩ σ lo n H :=
  for_range Pv h0 hs hd
theorem forE (Pv : List β → L2.St → Hp → Prop) (h0 : Pv [] σ H) (st : ∀ pre σ H, Pv pre σ H → H a = some (.tup (ys.map val)))
    (hs : ∀ pre y post σ H H1 T, ys = pre ++ y :: post → Pv pre σ H → H T = none → Same H H1 → H1 T = some (.tup [.int (pre.length : Nat), val y]) → g (.ref T) σ H1 fun σ2 H2 => tb ⟨Pv (pre ++ [y]), rt, nx, Pv (pre ++ [y])⟩ σ2 H2) (hd : ∀ σ H, Pv ys σ H → nx σ H) : gForE K g tb ⟨nx, rt, bk, ct⟩ σ [.ref a] H := by
  refine ⟨a, _, rfl, sqT (st _ _ _ h0), for_enumT (K := K) (xs := ys.map val) (fun i σ H => Pv (ys.take i) σ H) (by simpa using h0) (fun i σ H _ p => sqT (st _ _ _ p)) (fun i x σ H T hx p hT => ?_) (fun σ H p => hd σ H (by simpa using p))⟩
  obtain ⟨y, hy, rfl⟩ := map_at hx
  obtain ⟨e1, e2⟩ := take_at hy
  have hl : (ys.take i).length = i := by
    have : i < ys.length := by
      rcases Nat.lt_or_ge i ys.length with c | c
      · exact c
      · rw [List.getElem?_eq_none c] at hy; cases hy
    rw [List.length_take]; omega
  rw [e2]
  have := hs (ys.take i) y _ σ H _ T e1 p hT (same_new hT) upd_same
  rw [hl] at this
  exact this
theorem forS {z : Str} (Pv : List Nat → L2.St → Hp → Prop) (h0 : Pv [] σ H)
    (hs : ∀ pre c post σ H, z.cps.toList = pre ++ c :: post → Pv pre σ H → g (.str ⟨#[c]⟩) σ H fun σ2 H2 => tb ⟨Pv (pre ++ [c]), rt, nx, Pv (pre ++ [c])⟩ σ2 H2) (hd : ∀ σ H, Pv z.cps.toList σ H → nx σ H) : gForS g tb ⟨nx, rt, bk, ct⟩ σ (.str z) H := by
  refine ⟨z, rfl, fun i m σ H => m = z.cps.size - i ∧ i ≤ z.cps.size ∧ Pv (z.cps.toList.take i) σ H, ⟨z.cps.size, by simp, Nat.zero_le _, by simpa using h0⟩, ?_⟩
  rintro i m σ H ⟨rfl, hi, p⟩
  by_cases hlt : i < z.cps.size
  · refine .inr ⟨hlt, Pv (z.cps.toList.take (i + 1)), fun σ' H' p' => ⟨z.cps.size - (i + 1), by omega, rfl, hlt, p'⟩, ?_⟩
    rintro x H' ⟨rfl, c, hc, rfl⟩
    have hc' : z.cps.toList[i]? = some c := by rw [← hc]; simp
    obtain ⟨e1, e2⟩ := take_at hc'
    rw [e2]
    exact hs _ _ _ σ _ e1 p
  · have e : i = z.cps.size := by omega
    subst e
    refine .inl ⟨Nat.le_refl _, hd σ H ?_⟩
    have : z.cps.toList.take z.cps.size = z.cps.toList := List.take_of_length_le (by simp)
    rw [this] at p
    exact p
/-! comprehensions -/
def gLc (J : It) (g : TG) (tt : TT) (te : TE) (vs : List Nat) (σ : L2.St) (H1 : Hp) (Q : VK) : Prop := ∀ D, H1 D = none → ∃ W : Nat → Nat → Hp → Prop, (∃ m, W 0 m (upd H1 D (.lst []))) ∧ ∀ i m H, W i m H →
  (J.stop i H ∧ Q (.ref D) H) ∨ (J.go i H ∧ ∃ Nx : Hp → Prop, (∀ H', Nx H' → ∃ m', m' < m ∧ W (i + 1) m' H') ∧ ∀ x H', J.yld i H x H' → g x (wipe σ vs) H' fun σ2 H2 => wipe σ2 vs = wipe σ vs ∧ tt σ2 H2 fun b H3 =>
    if b = true then te σ2 H3 fun y H4 => ∃ acc, H4 D = some (.lst acc) ∧ acc.length < sizeLine ∧ Nx (upd H4 D (.lst (acc ++ [y]))) else Nx H3)
def gLcT (K : PySem.W.Frag) (g : TG) (tt : TT) (te : TE) (vs : List Nat) (σ : L2.St) (x : V) (H : Hp) (Q : VK) : Prop := ∃ a, x = .ref a ∧ (∃ xs, SqT K H a xs) ∧ gLc (Itt K a) g tt te vs σ H Q
def gLcL (K : PySem.W.Frag) (g : TG) (tt : TT) (te : TE) (vs : List Nat) (σ : L2.St) (x : V) (H : Hp) (Q : VK) : Prop := ∃ a, x = .ref a ∧ (∃ xs, SqL K H a xs) ∧ gLc (Itl K a) g tt te vs σ H Q
theorem w_lcT {tl : TE} {tt : TT} {vs : List Nat} (h : tl σ H fun x H1 => gLcT K g tt te vs σ x H1 Q) : tLc (iTup K tl) g tt te vs σ H Q := h
theorem w_lcL {tl : TE} {tt : TT} {vs : List Nat} (h : tl σ H fun x H1 => gLcL K g tt te vs σ x H1 Q) : tLc (iList K tl) g tt te vs σ H Q := h
theorem w_lcR1 {tl : TA} {tt : TT} {vs : List Nat} (h : tl σ H fun xs H1 => gR1 xs H1 fun lo n H2 => gLc (Itr lo n) g tt te vs σ H2 Q) : tLc (iRng1 tl) g tt te vs σ H Q := h
/-- the part that is done gives acc; the heap but the new list: Pv's word -/
theorem lcL {tt : TT} {vs : List Nat} (e : H a = some (.lst (ys.map val))) (Pv : Addr → List β → List V → Hp → Prop) (h0 : ∀ D, H D = none → Pv D [] [] (upd H D (.lst [])))
    (st : ∀ D pre acc H, Pv D pre acc H → H a = some (.lst (ys.map val)))
    (hs : ∀ D pre y post acc H1, H D = none → ys = pre ++ y :: post → Pv D pre acc H1 → g (val y) (wipe σ vs) H1 fun σ2 H2 => wipe σ2 vs = wipe σ vs ∧ tt σ2 H2 fun b H3 =>
      if b = true then te σ2 H3 fun y' H4 => ∃ acc', H4 D = some (.lst acc') ∧ acc'.length < sizeLine ∧ ∃ acc2, Pv D (pre ++ [y]) acc2 (upd H4 D (.lst (acc' ++ [y']))) else ∃ acc2, Pv D (pre ++ [y]) acc2 H3)
    (hd : ∀ D acc H1, H D = none → Pv D ys acc H1 → Q (.ref D) H1) : gLcL K g tt te vs σ (.ref a) H Q := by
  refine ⟨a, rfl, ⟨_, sqL e⟩, fun D hD => ?_⟩
  refine lc_list (K := K) (xs := ys.map val) (Qd := fun H => Q (.ref D) H) (fun i H1 => ∃ acc, Pv D (ys.take i) acc H1) ⟨[], by simpa using h0 D hD⟩ (fun i H1 _ p => sqL (st _ _ _ _ p.choose_spec)) (fun i x H1 hx p => ?_) (fun H1 p => ?_)
  · obtain ⟨y, hy, rfl⟩ := map_at hx
    obtain ⟨e1, e2⟩ := take_at hy
    obtain ⟨acc, p⟩ := p
    rw [e2]
    exact hs D _ _ _ acc H1 hD e1 p
  · obtain ⟨acc, p⟩ := p
    exact hd D acc H1 hD (by simpa using p)
theorem lcT {tt : TT} {vs : List Nat} (e : H a = some (.tup (ys.map val))) (Pv : Addr → List β → List V → Hp → Prop) (h0 : ∀ D, H D = none → Pv D [] [] (upd H D (.lst [])))
    (st : ∀ D pre acc H, Pv D pre acc H → H a = some (.tup (ys.map val)))
    (hs : ∀ D pre y post acc H1, H D = none → ys = pre ++ y :: post → Pv D pre acc H1 → g (val y) (wipe σ vs) H1 fun σ2 H2 => wipe σ2 vs = wipe σ vs ∧ tt σ2 H2 fun b H3 =>
      if b = true then te σ2 H3 fun y' H4 => ∃ acc', H4 D = some (.lst acc') ∧ acc'.length < sizeLine ∧ ∃ acc2, Pv D (pre ++ [y]) acc2 (upd H4 D (.lst (acc' ++ [y']))) else ∃ acc2, Pv D (pre ++ [y]) acc2 H3)
    (hd : ∀ D acc H1, H D = none → Pv D ys acc H1 → Q (.ref D) H1) : gLcT K g tt te vs σ (.ref a) H Q := by
  refine ⟨a, rfl, ⟨_, sqT e⟩, fun D hD => ?_⟩
  refine lc_tup (K := K) (xs := ys.map val) (Qd := fun H => Q (.ref D) H) (fun i H1 => ∃ acc, Pv D (ys.take i) acc H1) ⟨[], by simpa using h0 D hD⟩ (fun i H1 _ p => sqT (st _ _ _ _ p.choose_spec)) (fun i x H1 hx p => ?_) (fun H1 p => ?_)
  · obtain ⟨y, hy, rfl⟩ := map_at hx
    obtain ⟨e1, e2⟩ := take_at hy
    obtain ⟨acc, p⟩ := p
    rw [e2]
    exact hs D _ _ _ acc H1 hD e1 p
  · obtain ⟨acc, p⟩ := p
    exact hd D acc H1 hD (by simpa using p)
/-- one that leaves the heap: f tells what each gives -/
theorem upd_fresh_at {b D : Addr} {o u : HO} (hD : H D = none) (e : H b = some o) : upd H D u b = some o := by rw [upd_ne (ne_of_none e hD)]; exact e
theorem lcL0 {tt : TT} {vs : List Nat} (f : β → Option V) (e : H a = some (.lst (ys.map val))) (sz : ys.length < sizeLine)
    (hs : ∀ y, y ∈ ys → ∀ H1, Same H H1 → ∀ (NT : VK) (NF : Hp → Prop), (∀ z, f y = some z → NT z H1) → (f y = none → NF H1) → g (val y) (wipe σ vs) H1 fun σ2 H2 => wipe σ2 vs = wipe σ vs ∧ tt σ2 H2 fun b H3 =>
      if b = true then te σ2 H3 NT else NF H3)
    (hd : gNew (.lst (ys.filterMap f)) Q H) : gLcL K g tt te vs σ (.ref a) H Q := by
  refine lcL e (fun D pre acc H1 => acc = pre.filterMap f ∧ H1 = upd H D (.lst acc) ∧ H D = none) (fun D hD => ⟨rfl, rfl, hD⟩) (fun D pre acc H1 p => by rw [p.2.1]; exact upd_fresh_at p.2.2 e) (fun D pre y post acc H1 hD ey p => ?_) (fun D acc H1 hD p => by rw [p.2.1, p.1]; exact hd D hD)
  obtain ⟨rfl, rfl, _⟩ := p
  have hm : y ∈ ys := by rw [ey]; simp
  have hl : (pre.filterMap f).length < sizeLine := by
    have h1 := List.length_filterMap_le f pre
    have h2 : pre.length ≤ ys.length := by rw [ey]; simp
    omega
  refine hs y hm _ (same_new hD) _ _ (fun z fz => ?_) (fun fz => ?_)
  · exact ⟨pre.filterMap f, upd_same, hl, pre.filterMap f ++ [z], by rw [List.filterMap_append]; simp [fz], upd_upd, hD⟩
  · exact ⟨pre.filterMap f, by rw [List.filterMap_append]; simp [fz], rfl, hD⟩
theorem lcT0 {tt : TT} {vs : List Nat} (f : β → Option V) (e : H a = some (.tup (ys.map val))) (sz : ys.length < sizeLine)
    (hs : ∀ y, y ∈ ys → ∀ H1, Same H H1 → ∀ (NT : VK) (NF : Hp → Prop), (∀ z, f y = some z → NT z H1) → (f y = none → NF H1) → g (val y) (wipe σ vs) H1 fun σ2 H2 => wipe σ2 vs = wipe σ vs ∧ tt σ2 H2 fun b H3 =>
      if b = true then te σ2 H3 NT else NF H3)
    (hd : gNew (.lst (ys.filterMap f)) Q H) : gLcT K g tt te vs σ (.ref a) H Q := by
  refine lcT e (fun D pre acc H1 => acc = pre.filterMap f ∧ H1 = upd H D (.lst acc) ∧ H D = none) (fun D hD => ⟨rfl, rfl, hD⟩) (fun D pre acc H1 p => by rw [p.2.1]; exact upd_fresh_at p.2.2 e) (fun D pre y post acc H1 hD ey p => ?_) (fun D acc H1 hD p => by rw [p.2.1, p.1]; exact hd D hD)
  obtain ⟨rfl, rfl, _⟩ := p
  have hm : y ∈ ys := by rw [ey]; simp
  have hl : (pre.filterMap f).length < sizeLine := by
    have h1 := List.length_filterMap_le f pre
    have h2 : pre.length ≤ ys.length := by rw [ey]; simp
    omega
  refine hs y hm _ (same_new hD) _ _ (fun z fz => ?_) (fun fz => ?_)
  · exact ⟨pre.filterMap f, upd_same, hl, pre.filterMap f ++ [z], by rw [List.filterMap_append]; simp [fz], upd_upd, hD⟩
  · exact ⟨pre.filterMap f, by rw [List.filterMap_append]; simp [fz], rfl, hD⟩
end
theorem cxOf_K {CX : CXT} {P : Program} {w : World} {K : PySem.W.Frag} {mg : Str → Option Value} {base : Heap} {N : List Str} {qual : Str} {scope : Scope} {f : Addr} {cd : Value} {A : Around} {outer : List Env} {s : Shared} {H : Hp} {E : XK} :
    (cxOf CX P w K mg base N qual scope f cd A outer s H E).nox.K = K := rfl
local macro_rules | `(tactic| walk_at "st") => `(tactic| dsimp only [cxOf_K, L2.start, List.map_cons, List.map_nil, List.length_cons, List.length_nil, List.cons_append, List.nil_append, Nat.reduceAdd, Nat.reduceSub, List.replicate])
local macro_rules | `(tactic| array_get_dec) => `(tactic| first | assumption | exact upd_same | (refine Same.at (by assumption) ?_; array_get_dec) | (refine' upd_oth ?k1 ?k2 ?k3; (case k1 => array_get_dec); (case k2 => array_get_dec); (case k3 => with_unfolding_all exact fun h => HO.noConfusion h)) | (rw [upd_ne (by assumption)]; array_get_dec))
local macro_rules | `(tactic| array_mem_dec) => `(tactic| with_unfolding_all first | assumption | exact (show Txt _ _ by assumption).c_Record | exact (show Txt _ _ by assumption).c_Script | exact (show Txt _ _ by assumption).c_Kind | exact (show Txt _ _ by assumption).c_System | exact (show Txt _ _ by assumption).c_Running)
local macro_rules | `(tactic| sizeOf_list_dec) => `(tactic| with_unfolding_all first | assumption | exact (show Txt _ _ by assumption).n_Record_commits | exact (show Txt _ _ by assumption).n_Record_lost | exact (show Txt _ _ by assumption).n_Record_out | exact (show Txt _ _ by assumption).n_Record_height | exact (show Txt _ _ by assumption).n_Record_noted | exact (show Txt _ _ by assumption).n_Record_crashes | exact (show Txt _ _ by assumption).n_Record_spread | exact (show Txt _ _ by assumption).n_Script_table | exact (show Txt _ _ by assumption).n_Script_statements | exact (show Txt _ _ by assumption).n_Script_places | exact (show Txt _ _ by assumption).n_Kind_name | exact (show Txt _ _ by assumption).n_Kind_script | exact (show Txt _ _ by assumption).n_Kind_block | exact (show Txt _ _ by assumption).n_Kind_many | exact (show Txt _ _ by assumption).n_System_kinds | exact (show Txt _ _ by assumption).n_System_ahead | exact (show Txt _ _ by assumption).n_System_window | exact (show Txt _ _ by assumption).n_System_crashes | exact (show Txt _ _ by assumption).n_System_sessions | exact (show Txt _ _ by assumption).n_Running_system | exact (show Txt _ _ by assumption).n_Running_height | exact (show Txt _ _ by assumption).n_Running_noted | exact (show Txt _ _ by assumption).n_Running_crashes | exact (show Txt _ _ by assumption).n_Running_places | exact (show Txt _ _ by assumption).n_Running_locks | exact (show Txt _ _ by assumption).n_Running_transactions | exact (show Txt _ _ by assumption).n_Running_stores | exact (show Txt _ _ by assumption).n_Running_commits | exact (show Txt _ _ by assumption).n_Running_lost | exact (show Txt _ _ by assumption).n_Running_spread | exact (show Txt _ _ by assumption).n_Running_executed | exact (show Txt _ _ by assumption).n_Running_saved)
local macro_rules | `(tactic| clean_wf) => `(tactic| with_unfolding_all first | exact (show Txt _ _ by assumption).t_SIMPLE _ | exact (show Txt _ _ by assumption).t_NAMED _ | exact (show Txt _ _ by assumption).t_RESETS _)
local macro_rules | `(tactic| decreasing_trivial_pre_omega) => `(tactic| with_unfolding_all first | assumption | decide +kernel | omega | (simp; done))
local macro_rules | `(tactic| bv_omega) => `(tactic| with_unfolding_all first | assumption | exact small9 (Nat.le_of_ble_eq_true rfl) | exact small1000 (Nat.le_of_ble_eq_true rfl) | omega | (refine small9 ?_; simp; done) | (refine small9 ?_; (try simp); omega) | (refine small1000 ?_; (try simp); omega))
local macro_rules | `(tactic| walk_at "rd") => `(tactic| repeat' (with_reducible first
  | refine w_seq ?_ | (refine' w_var ?k0 ?_; (case k0 => with_unfolding_all rfl)) | refine w_c ?_ | refine w_op ?_ | refine w_cb ?_ | refine w_cons ?_ | refine w_nil ?_ | refine w_test ?_ | refine w_B ?_ | refine w_exbl ?_ | refine w_exint ?_ | refine w_ifS ?_
  | refine w_asg ?_ | (refine' w_name ?k0 ?_; (case k0 => with_unfolding_all rfl)) | refine w_next ?_ | refine w_ret ?_ | refine w_retN ?_ | refine w_drop ?_ | refine w_and ?_ | refine w_or ?_ | refine w_not ?_ | refine w_andV ?_ | refine w_orV ?_ | refine w_notV ?_ | refine w_if ?_ | refine w_chain ?_ | refine w_yes ?_
  | refine w_un ?_ | refine w_rU ?_ | refine w_rI0 ?_ | refine w_eqI ?_ | refine w_eqS ?_ | refine w_neI ?_ | refine w_neS ?_ | refine w_iteT ?_ | refine w_iteF ?_ | refine w_iteNT ?_ | refine w_iteNF ?_ | refine w_call ?_ | (refine' w_aug ?k0 ?_; (case k0 => with_unfolding_all rfl)) | refine w_ipI ?_ | refine w_nn ?_
  | refine isi_int_int ?_ | refine isi_int_bool ?_ | refine isi_non_int ?_ | refine isi_str_str ?_ | (refine' isi_tup_tup ?k0 ?_; (case k0 => array_get_dec)) | (refine' isi_lst_lst ?k0 ?_; (case k0 => array_get_dec))
  | (refine' w_ixL ?k0 ?k1 ?_; (case k0 => array_get_dec); (case k1 => first | assumption | exact at_zero _ _ | with_unfolding_all rfl)) | (refine' w_ixT ?k0 ?k1 ?_; (case k0 => array_get_dec); (case k1 => first | assumption | exact at_zero _ _ | with_unfolding_all rfl)) | (refine' w_lenL ?k0 ?_; (case k0 => array_get_dec)) | (refine' w_lenT ?k0 ?_; (case k0 => array_get_dec)) | (refine' w_lenDT ?k0 ?_; (case k0 => array_get_dec)) | (refine' w_lenDK ?k0 ?_; (case k0 => array_get_dec)) | refine w_isNI ?_ | refine w_isNN ?_ | refine w_isNR ?_ | refine w_notNI ?_ | refine w_notNN ?_ | refine w_notNR ?_ | refine w_int1 ?_ | refine w_intb ?_ | refine w_max2 ?_ | (refine' w_tupL ?k0 ?_; (case k0 => array_get_dec)) | (refine' w_lstL ?k0 ?_; (case k0 => array_get_dec)) | refine w_inS ?_ | refine w_notInS ?_ | (refine' w_addS ?k0 ?_; (case k0 => assumption)) | (refine' w_lenS ?k0 ?_; (case k0 => assumption))
  | (refine' w_inb (b := true) ?k0 ?k1 ?k2 ?k3 ?_; (case k0 => clean_wf); (case k1 => with_unfolding_all rfl); (case k2 => with_unfolding_all rfl); (case k3 => with_unfolding_all decide +kernel)) | (refine' w_inb (b := false) ?k0 ?k1 ?k2 ?k3 ?_; (case k0 => clean_wf); (case k1 => with_unfolding_all rfl); (case k2 => with_unfolding_all rfl); (case k3 => with_unfolding_all decide +kernel))
  | refine w_fld ?_ | (refine' w_gF ?k0 ?k1 ?k2 ?k3 ?_; (case k0 => array_get_dec); (case k1 => array_mem_dec); (case k2 => sizeOf_list_dec); (case k3 => with_unfolding_all rfl)) | refine w_sfld ?_ | (refine' w_pF ?k0 ?k1 ?k2 ?k3 ?k4 ?_; (case k0 => array_get_dec); (case k1 => array_mem_dec); (case k2 => sizeOf_list_dec); (case k3 => with_unfolding_all exact Nat.le_of_ble_eq_true rfl); (case k4 => with_unfolding_all rfl)) | refine w_sfldA ?_ | (refine' w_gFAsub ?k0 ?k1 ?k2 ?k3 ?k4 ?_; (case k0 => array_get_dec); (case k1 => array_mem_dec); (case k2 => sizeOf_list_dec); (case k3 => with_unfolding_all rfl); (case k4 => with_unfolding_all exact Nat.le_of_ble_eq_true rfl)) | (refine' w_gFAadd ?k0 ?k1 ?k2 ?k3 ?k4 ?k5 ?_; (case k0 => array_get_dec); (case k1 => array_mem_dec); (case k2 => sizeOf_list_dec); (case k3 => with_unfolding_all rfl); (case k4 => with_unfolding_all exact Nat.le_of_ble_eq_true rfl); (case k5 => with_unfolding_all rfl)) | refine w_lstRg ?_ | refine w_rg2 ?_ | refine w_gRg2 ?_ | refine w_rAdd ?_ | refine w_rSub ?_ | refine w_meth ?_ | (refine' w_gM ?k0 ?k1 ?_; (case k0 => array_get_dec); (case k1 => with_unfolding_all rfl)) | refine w_make ?_ | refine w_ixO ?_ | (refine' w_gIxO ?k0 ?_; (case k0 => array_get_dec)) | (refine' w_lenO ?k0 ?_; (case k0 => array_get_dec))
  | refine w_tup ?_ | refine w_lst ?_ | (refine' w_gTupN ?k0 ?_; (case k0 => bv_omega)) | (refine' w_gLstN ?k0 ?_; (case k0 => bv_omega)) | refine w_sl ?_ | refine w_noPart ?_ | refine w_part ?_ | refine w_bm ?_ | (refine' w_bmL ?k0 ?_; (case k0 => array_get_dec)) | refine w_gSub ?_ | (refine' w_gTup ?k0 ?k1 ?_; (case k0 => array_get_dec); (case k1 => with_unfolding_all rfl)) | refine w_gCons ?_ | refine w_gNil ?_
  | refine w_dget ?_ | (refine' w_gDGp ?k0 ?k1 ?k2 ?_; (case k0 => array_get_dec); (case k1 => array_get_dec); (case k2 => assumption)) | refine w_dput ?_ | refine w_dnewT ?_ | refine w_dnewK ?_ | (refine w_new ?_; intro p H1 hn hs hp he) | (refine' w_slA ?k0 ?_; (case k0 => array_get_dec); intro p H1 hs hp) | (refine' w_catA ?k0 ?k1 ?k2 ?_; (case k0 => array_get_dec); (case k1 => array_get_dec); (case k2 => bv_omega); intro p H1 hs hp) | (refine' w_slL ?k0 ?_; (case k0 => array_get_dec)) | (refine' w_append ?k0 ?k1 ?_; (case k0 => array_get_dec); (case k1 => bv_omega)) | (refine' w_cat ?k0 ?k1 ?k2 ?_; (case k0 => array_get_dec); (case k1 => array_get_dec); (case k2 => bv_omega))
  | refine w_iR1 ?_ | refine w_forT ?_ | refine w_forL ?_ | refine w_forR1 ?_ | refine w_forR2 ?_ | refine w_forS ?_ | refine w_forE ?_ | refine w_lcT ?_ | refine w_lcL ?_ | refine w_lcR1 ?_
  | (refine' w_itet ?k0 ?_; (case k0 => decreasing_trivial_pre_omega)) | (refine' w_itef ?k0 ?_; (case k0 => decreasing_trivial_pre_omega)) | (refine' w_itent ?k0 ?_; (case k0 => decreasing_trivial_pre_omega)) | (refine' w_itenf ?k0 ?_; (case k0 => decreasing_trivial_pre_omega)) | fail))
local macro_rules | `(tactic| walk_at "rdn") => `(tactic| repeat' (with_reducible first
  | refine w_seq ?_ | (refine' w_var ?k0 ?_; (case k0 => with_unfolding_all rfl)) | refine w_c ?_ | refine w_op ?_ | refine w_cb ?_ | refine w_cons ?_ | refine w_nil ?_ | refine w_test ?_ | refine w_B ?_ | refine w_exbl ?_ | refine w_exint ?_ | refine w_ifS ?_
  | refine w_asg ?_ | (refine' w_name ?k0 ?_; (case k0 => with_unfolding_all rfl)) | refine w_next ?_ | refine w_ret ?_ | refine w_retN ?_ | refine w_drop ?_ | refine w_and ?_ | refine w_or ?_ | refine w_not ?_ | refine w_andV ?_ | refine w_orV ?_ | refine w_notV ?_ | refine w_if ?_ | refine w_chain ?_ | refine w_yes ?_
  | refine w_un ?_ | refine w_rU ?_ | refine w_rI0 ?_ | refine w_eqI ?_ | refine w_eqS ?_ | refine w_neI ?_ | refine w_neS ?_ | refine w_iteT ?_ | refine w_iteF ?_ | refine w_iteNT ?_ | refine w_iteNF ?_ | refine w_call ?_ | (refine' w_aug ?k0 ?_; (case k0 => with_unfolding_all rfl)) | refine w_ipI ?_ | refine w_nn ?_
  | refine isi_int_int ?_ | refine isi_int_bool ?_ | refine isi_non_int ?_ | refine isi_str_str ?_ | (refine' isi_tup_tup ?k0 ?_; (case k0 => array_get_dec)) | (refine' isi_lst_lst ?k0 ?_; (case k0 => array_get_dec))
  | (refine' w_ixL ?k0 ?k1 ?_; (case k0 => array_get_dec); (case k1 => first | assumption | exact at_zero _ _ | with_unfolding_all rfl)) | (refine' w_ixT ?k0 ?k1 ?_; (case k0 => array_get_dec); (case k1 => first | assumption | exact at_zero _ _ | with_unfolding_all rfl)) | (refine' w_lenL ?k0 ?_; (case k0 => array_get_dec)) | (refine' w_lenT ?k0 ?_; (case k0 => array_get_dec)) | (refine' w_lenDT ?k0 ?_; (case k0 => array_get_dec)) | (refine' w_lenDK ?k0 ?_; (case k0 => array_get_dec)) | refine w_isNI ?_ | refine w_isNN ?_ | refine w_isNR ?_ | refine w_notNI ?_ | refine w_notNN ?_ | refine w_notNR ?_ | refine w_int1 ?_ | refine w_intb ?_ | refine w_max2 ?_ | (refine' w_tupL ?k0 ?_; (case k0 => array_get_dec)) | (refine' w_lstL ?k0 ?_; (case k0 => array_get_dec)) | refine w_inS ?_ | refine w_notInS ?_ | (refine' w_addS ?k0 ?_; (case k0 => assumption)) | (refine' w_lenS ?k0 ?_; (case k0 => assumption))
  | (refine' w_inb (b := true) ?k0 ?k1 ?k2 ?k3 ?_; (case k0 => clean_wf); (case k1 => with_unfolding_all rfl); (case k2 => with_unfolding_all rfl); (case k3 => with_unfolding_all decide +kernel)) | (refine' w_inb (b := false) ?k0 ?k1 ?k2 ?k3 ?_; (case k0 => clean_wf); (case k1 => with_unfolding_all rfl); (case k2 => with_unfolding_all rfl); (case k3 => with_unfolding_all decide +kernel))
  | refine w_fld ?_ | (refine' w_gF ?k0 ?k1 ?k2 ?k3 ?_; (case k0 => array_get_dec); (case k1 => array_mem_dec); (case k2 => sizeOf_list_dec); (case k3 => with_unfolding_all rfl)) | refine w_sfld ?_ | refine w_sfldA ?_ | (refine' w_gFAsub ?k0 ?k1 ?k2 ?k3 ?k4 ?_; (case k0 => array_get_dec); (case k1 => array_mem_dec); (case k2 => sizeOf_list_dec); (case k3 => with_unfolding_all rfl); (case k4 => with_unfolding_all exact Nat.le_of_ble_eq_true rfl)) | (refine' w_gFAadd ?k0 ?k1 ?k2 ?k3 ?k4 ?k5 ?_; (case k0 => array_get_dec); (case k1 => array_mem_dec); (case k2 => sizeOf_list_dec); (case k3 => with_unfolding_all rfl); (case k4 => with_unfolding_all exact Nat.le_of_ble_eq_true rfl); (case k5 => with_unfolding_all rfl)) | refine w_lstRg ?_ | refine w_rg2 ?_ | refine w_gRg2 ?_ | refine w_rAdd ?_ | refine w_rSub ?_ | refine w_meth ?_ | (refine' w_gM ?k0 ?k1 ?_; (case k0 => array_get_dec); (case k1 => with_unfolding_all rfl)) | refine w_make ?_ | refine w_ixO ?_ | (refine' w_gIxO ?k0 ?_; (case k0 => array_get_dec)) | (refine' w_lenO ?k0 ?_; (case k0 => array_get_dec))
  | refine w_tup ?_ | refine w_lst ?_ | (refine' w_gTupN ?k0 ?_; (case k0 => bv_omega)) | (refine' w_gLstN ?k0 ?_; (case k0 => bv_omega)) | refine w_sl ?_ | refine w_noPart ?_ | refine w_part ?_ | refine w_bm ?_ | (refine' w_bmL ?k0 ?_; (case k0 => array_get_dec)) | refine w_gSub ?_ | (refine' w_gTup ?k0 ?k1 ?_; (case k0 => array_get_dec); (case k1 => with_unfolding_all rfl)) | refine w_gCons ?_ | refine w_gNil ?_
  | refine w_dget ?_ | (refine' w_gDGp ?k0 ?k1 ?k2 ?_; (case k0 => array_get_dec); (case k1 => array_get_dec); (case k2 => assumption)) | refine w_dput ?_ | refine w_dnewT ?_ | refine w_dnewK ?_ | (refine w_new ?_; intro p H1 hn hs hp he) | (refine' w_slA ?k0 ?_; (case k0 => array_get_dec); intro p H1 hs hp) | (refine' w_catA ?k0 ?k1 ?k2 ?_; (case k0 => array_get_dec); (case k1 => array_get_dec); (case k2 => bv_omega); intro p H1 hs hp) | (refine' w_slL ?k0 ?_; (case k0 => array_get_dec)) | (refine' w_append ?k0 ?k1 ?_; (case k0 => array_get_dec); (case k1 => bv_omega)) | (refine' w_cat ?k0 ?k1 ?k2 ?_; (case k0 => array_get_dec); (case k1 => array_get_dec); (case k2 => bv_omega))
  | refine w_iR1 ?_ | refine w_forT ?_ | refine w_forL ?_ | refine w_forR1 ?_ | refine w_forR2 ?_ | refine w_forS ?_ | refine w_forE ?_ | refine w_lcT ?_ | refine w_lcL ?_ | refine w_lcR1 ?_
  | (refine' w_itet ?k0 ?_; (case k0 => decreasing_trivial_pre_omega)) | (refine' w_itef ?k0 ?_; (case k0 => decreasing_trivial_pre_omega)) | (refine' w_itent ?k0 ?_; (case k0 => decreasing_trivial_pre_omega)) | (refine' w_itenf ?k0 ?_; (case k0 => decreasing_trivial_pre_omega)) | fail))
local macro_rules | `(tactic| walk_at "rdt") => `(tactic| repeat' (with_reducible first
  | refine w_seq ?_ | (refine' w_var ?k0 ?_; (case k0 => with_unfolding_all rfl)) | refine w_c ?_ | refine w_op ?_ | refine w_cb ?_ | refine w_cons ?_ | refine w_nil ?_ | refine w_test ?_ | refine w_B ?_ | refine w_exbl ?_ | refine w_exint ?_ | refine w_ifS ?_
  | refine w_asg ?_ | (refine' w_name ?k0 ?_; (case k0 => with_unfolding_all rfl)) | refine w_next ?_ | refine w_ret ?_ | refine w_retN ?_ | refine w_drop ?_ | refine w_and ?_ | refine w_or ?_ | refine w_not ?_ | refine w_andV ?_ | refine w_orV ?_ | refine w_notV ?_ | refine w_if ?_ | refine w_chain ?_ | refine w_yes ?_
  | refine w_un ?_ | refine w_rU ?_ | refine w_rI0 ?_ | refine w_eqI ?_ | refine w_eqS ?_ | refine w_neI ?_ | refine w_neS ?_ | refine w_iteT ?_ | refine w_iteF ?_ | refine w_iteNT ?_ | refine w_iteNF ?_ | refine w_call ?_ | (refine' w_aug ?k0 ?_; (case k0 => with_unfolding_all rfl)) | refine w_ipI ?_ | refine w_nn ?_
  | refine isi_int_int ?_ | refine isi_int_bool ?_ | refine isi_non_int ?_ | refine isi_str_str ?_ | (refine' isi_tup_tup ?k0 ?_; (case k0 => array_get_dec)) | (refine' isi_lst_lst ?k0 ?_; (case k0 => array_get_dec))
  | (refine' w_ixL ?k0 ?k1 ?_; (case k0 => array_get_dec); (case k1 => first | assumption | exact at_zero _ _ | with_unfolding_all rfl)) | (refine' w_ixT ?k0 ?k1 ?_; (case k0 => array_get_dec); (case k1 => first | assumption | exact at_zero _ _ | with_unfolding_all rfl)) | (refine' w_lenL ?k0 ?_; (case k0 => array_get_dec)) | (refine' w_lenT ?k0 ?_; (case k0 => array_get_dec)) | (refine' w_lenDT ?k0 ?_; (case k0 => array_get_dec)) | (refine' w_lenDK ?k0 ?_; (case k0 => array_get_dec)) | refine w_isNI ?_ | refine w_isNN ?_ | refine w_isNR ?_ | refine w_notNI ?_ | refine w_notNN ?_ | refine w_notNR ?_ | refine w_int1 ?_ | refine w_intb ?_ | refine w_max2 ?_ | (refine' w_tupL ?k0 ?_; (case k0 => array_get_dec)) | (refine' w_lstL ?k0 ?_; (case k0 => array_get_dec)) | refine w_inS ?_ | refine w_notInS ?_ | (refine' w_addS ?k0 ?_; (case k0 => assumption)) | (refine' w_lenS ?k0 ?_; (case k0 => assumption))
  | (refine' w_inb (b := true) ?k0 ?k1 ?k2 ?k3 ?_; (case k0 => clean_wf); (case k1 => with_unfolding_all rfl); (case k2 => with_unfolding_all rfl); (case k3 => with_unfolding_all decide +kernel)) | (refine' w_inb (b := false) ?k0 ?k1 ?k2 ?k3 ?_; (case k0 => clean_wf); (case k1 => with_unfolding_all rfl); (case k2 => with_unfolding_all rfl); (case k3 => with_unfolding_all decide +kernel))
  | refine w_fld ?_ | (refine' w_gF ?k0 ?k1 ?k2 ?k3 ?_; (case k0 => array_get_dec); (case k1 => array_mem_dec); (case k2 => sizeOf_list_dec); (case k3 => with_unfolding_all rfl)) | refine w_sfld ?_ | (refine' w_pF ?k0 ?k1 ?k2 ?k3 ?k4 ?_; (case k0 => array_get_dec); (case k1 => array_mem_dec); (case k2 => sizeOf_list_dec); (case k3 => with_unfolding_all exact Nat.le_of_ble_eq_true rfl); (case k4 => with_unfolding_all rfl)) | refine w_sfldA ?_ | (refine' w_gFAsub ?k0 ?k1 ?k2 ?k3 ?k4 ?_; (case k0 => array_get_dec); (case k1 => array_mem_dec); (case k2 => sizeOf_list_dec); (case k3 => with_unfolding_all rfl); (case k4 => with_unfolding_all exact Nat.le_of_ble_eq_true rfl)) | (refine' w_gFAadd ?k0 ?k1 ?k2 ?k3 ?k4 ?k5 ?_; (case k0 => array_get_dec); (case k1 => array_mem_dec); (case k2 => sizeOf_list_dec); (case k3 => with_unfolding_all rfl); (case k4 => with_unfolding_all exact Nat.le_of_ble_eq_true rfl); (case k5 => with_unfolding_all rfl)) | refine w_lstRg ?_ | refine w_rg2 ?_ | refine w_gRg2 ?_ | refine w_rAdd ?_ | refine w_rSub ?_ | refine w_meth ?_ | (refine' w_gM ?k0 ?k1 ?_; (case k0 => array_get_dec); (case k1 => with_unfolding_all rfl)) | refine w_make ?_ | refine w_ixO ?_ | (refine' w_gIxO ?k0 ?_; (case k0 => array_get_dec)) | (refine' w_lenO ?k0 ?_; (case k0 => array_get_dec))
  | refine w_tup ?_ | refine w_lst ?_ | (refine' w_gTupN ?k0 ?_; (case k0 => bv_omega)) | (refine' w_gLstN ?k0 ?_; (case k0 => bv_omega)) | refine w_sl ?_ | refine w_noPart ?_ | refine w_part ?_ | refine w_bm ?_ | (refine' w_bmL ?k0 ?_; (case k0 => array_get_dec)) | refine w_gSub ?_ | (refine' w_gTup ?k0 ?k1 ?_; (case k0 => array_get_dec); (case k1 => with_unfolding_all rfl)) | refine w_gCons ?_ | refine w_gNil ?_
  | refine w_dget ?_ | (refine' w_gDGp ?k0 ?k1 ?k2 ?_; (case k0 => array_get_dec); (case k1 => array_get_dec); (case k2 => assumption)) | refine w_dput ?_ | refine w_dnewT ?_ | refine w_dnewK ?_ | (refine w_new ?_; intro p H1 hn hs hp he) | (refine' w_slL ?k0 ?_; (case k0 => array_get_dec)) | (refine' w_append ?k0 ?k1 ?_; (case k0 => array_get_dec); (case k1 => bv_omega)) | (refine' w_cat ?k0 ?k1 ?k2 ?_; (case k0 => array_get_dec); (case k1 => array_get_dec); (case k2 => bv_omega))
  | refine w_iR1 ?_ | refine w_forT ?_ | refine w_forL ?_ | refine w_forR1 ?_ | refine w_forR2 ?_ | refine w_forS ?_ | refine w_forE ?_ | refine w_lcT ?_ | refine w_lcL ?_ | refine w_lcR1 ?_
  | (refine' w_itet ?k0 ?_; (case k0 => decreasing_trivial_pre_omega)) | (refine' w_itef ?k0 ?_; (case k0 => decreasing_trivial_pre_omega)) | (refine' w_itent ?k0 ?_; (case k0 => decreasing_trivial_pre_omega)) | (refine' w_itenf ?k0 ?_; (case k0 => decreasing_trivial_pre_omega)) | fail))
local macro_rules | `(tactic| walk_at "rd1") => `(tactic| (with_reducible first
  | refine w_seq ?_ | (refine' w_var ?k0 ?_; (case k0 => with_unfolding_all rfl)) | refine w_c ?_ | refine w_op ?_ | refine w_cb ?_ | refine w_cons ?_ | refine w_nil ?_ | refine w_test ?_ | refine w_B ?_ | refine w_exbl ?_ | refine w_exint ?_ | refine w_ifS ?_
  | refine w_asg ?_ | (refine' w_name ?k0 ?_; (case k0 => with_unfolding_all rfl)) | refine w_next ?_ | refine w_ret ?_ | refine w_retN ?_ | refine w_drop ?_ | refine w_and ?_ | refine w_or ?_ | refine w_not ?_ | refine w_andV ?_ | refine w_orV ?_ | refine w_notV ?_ | refine w_if ?_ | refine w_chain ?_ | refine w_yes ?_
  | refine w_un ?_ | refine w_rU ?_ | refine w_rI0 ?_ | refine w_eqI ?_ | refine w_eqS ?_ | refine w_neI ?_ | refine w_neS ?_ | refine w_iteT ?_ | refine w_iteF ?_ | refine w_iteNT ?_ | refine w_iteNF ?_ | refine w_call ?_ | (refine' w_aug ?k0 ?_; (case k0 => with_unfolding_all rfl)) | refine w_ipI ?_ | refine w_nn ?_
  | refine isi_int_int ?_ | refine isi_int_bool ?_ | refine isi_non_int ?_ | refine isi_str_str ?_ | (refine' isi_tup_tup ?k0 ?_; (case k0 => array_get_dec)) | (refine' isi_lst_lst ?k0 ?_; (case k0 => array_get_dec))
  | (refine' w_ixL ?k0 ?k1 ?_; (case k0 => array_get_dec); (case k1 => first | assumption | exact at_zero _ _ | with_unfolding_all rfl)) | (refine' w_ixT ?k0 ?k1 ?_; (case k0 => array_get_dec); (case k1 => first | assumption | exact at_zero _ _ | with_unfolding_all rfl)) | (refine' w_lenL ?k0 ?_; (case k0 => array_get_dec)) | (refine' w_lenT ?k0 ?_; (case k0 => array_get_dec)) | (refine' w_lenDT ?k0 ?_; (case k0 => array_get_dec)) | (refine' w_lenDK ?k0 ?_; (case k0 => array_get_dec)) | refine w_isNI ?_ | refine w_isNN ?_ | refine w_isNR ?_ | refine w_notNI ?_ | refine w_notNN ?_ | refine w_notNR ?_ | refine w_int1 ?_ | refine w_intb ?_ | refine w_max2 ?_ | (refine' w_tupL ?k0 ?_; (case k0 => array_get_dec)) | (refine' w_lstL ?k0 ?_; (case k0 => array_get_dec)) | refine w_inS ?_ | refine w_notInS ?_ | (refine' w_addS ?k0 ?_; (case k0 => assumption)) | (refine' w_lenS ?k0 ?_; (case k0 => assumption))
  | (refine' w_inb (b := true) ?k0 ?k1 ?k2 ?k3 ?_; (case k0 => clean_wf); (case k1 => with_unfolding_all rfl); (case k2 => with_unfolding_all rfl); (case k3 => with_unfolding_all decide +kernel)) | (refine' w_inb (b := false) ?k0 ?k1 ?k2 ?k3 ?_; (case k0 => clean_wf); (case k1 => with_unfolding_all rfl); (case k2 => with_unfolding_all rfl); (case k3 => with_unfolding_all decide +kernel))
  | refine w_fld ?_ | (refine' w_gF ?k0 ?k1 ?k2 ?k3 ?_; (case k0 => array_get_dec); (case k1 => array_mem_dec); (case k2 => sizeOf_list_dec); (case k3 => with_unfolding_all rfl)) | refine w_sfld ?_ | (refine' w_pF ?k0 ?k1 ?k2 ?k3 ?k4 ?_; (case k0 => array_get_dec); (case k1 => array_mem_dec); (case k2 => sizeOf_list_dec); (case k3 => with_unfolding_all exact Nat.le_of_ble_eq_true rfl); (case k4 => with_unfolding_all rfl)) | refine w_sfldA ?_ | (refine' w_gFAsub ?k0 ?k1 ?k2 ?k3 ?k4 ?_; (case k0 => array_get_dec); (case k1 => array_mem_dec); (case k2 => sizeOf_list_dec); (case k3 => with_unfolding_all rfl); (case k4 => with_unfolding_all exact Nat.le_of_ble_eq_true rfl)) | (refine' w_gFAadd ?k0 ?k1 ?k2 ?k3 ?k4 ?k5 ?_; (case k0 => array_get_dec); (case k1 => array_mem_dec); (case k2 => sizeOf_list_dec); (case k3 => with_unfolding_all rfl); (case k4 => with_unfolding_all exact Nat.le_of_ble_eq_true rfl); (case k5 => with_unfolding_all rfl)) | refine w_lstRg ?_ | refine w_rg2 ?_ | refine w_gRg2 ?_ | refine w_rAdd ?_ | refine w_rSub ?_ | refine w_meth ?_ | (refine' w_gM ?k0 ?k1 ?_; (case k0 => array_get_dec); (case k1 => with_unfolding_all rfl)) | refine w_make ?_ | refine w_ixO ?_ | (refine' w_gIxO ?k0 ?_; (case k0 => array_get_dec)) | (refine' w_lenO ?k0 ?_; (case k0 => array_get_dec))
  | refine w_tup ?_ | refine w_lst ?_ | (refine' w_gTupN ?k0 ?_; (case k0 => bv_omega)) | (refine' w_gLstN ?k0 ?_; (case k0 => bv_omega)) | refine w_sl ?_ | refine w_noPart ?_ | refine w_part ?_ | refine w_bm ?_ | (refine' w_bmL ?k0 ?_; (case k0 => array_get_dec)) | refine w_gSub ?_ | (refine' w_gTup ?k0 ?k1 ?_; (case k0 => array_get_dec); (case k1 => with_unfolding_all rfl)) | refine w_gCons ?_ | refine w_gNil ?_
  | refine w_dget ?_ | (refine' w_gDGp ?k0 ?k1 ?k2 ?_; (case k0 => array_get_dec); (case k1 => array_get_dec); (case k2 => assumption)) | refine w_dput ?_ | refine w_dnewT ?_ | refine w_dnewK ?_ | (refine w_new ?_; intro p H1 hn hs hp he) | (refine' w_slA ?k0 ?_; (case k0 => array_get_dec); intro p H1 hs hp) | (refine' w_catA ?k0 ?k1 ?k2 ?_; (case k0 => array_get_dec); (case k1 => array_get_dec); (case k2 => bv_omega); intro p H1 hs hp) | (refine' w_slL ?k0 ?_; (case k0 => array_get_dec)) | (refine' w_append ?k0 ?k1 ?_; (case k0 => array_get_dec); (case k1 => bv_omega)) | (refine' w_cat ?k0 ?k1 ?k2 ?_; (case k0 => array_get_dec); (case k1 => array_get_dec); (case k2 => bv_omega))
  | refine w_iR1 ?_ | refine w_forT ?_ | refine w_forL ?_ | refine w_forR1 ?_ | refine w_forR2 ?_ | refine w_forS ?_ | refine w_forE ?_ | refine w_lcT ?_ | refine w_lcL ?_ | refine w_lcR1 ?_
  | (refine' w_itet ?k0 ?_; (case k0 => decreasing_trivial_pre_omega)) | (refine' w_itef ?k0 ?_; (case k0 => decreasing_trivial_pre_omega)) | (refine' w_itent ?k0 ?_; (case k0 => decreasing_trivial_pre_omega)) | (refine' w_itenf ?k0 ?_; (case k0 => decreasing_trivial_pre_omega)) | fail))
/-! the statements of a script -/
inductive Sm where
  | take | commit | rollback | drop | leave
  | lock (n : Str) | unlock (n : Str)
  | choose (y n : List Sm)
def Sm.word : Sm → Str
  | .take => "take" | .commit => "commit" | .rollback => "rollback" | .drop => "drop" | .leave => "leave"
  | .lock _ => "lock" | .unlock _ => "unlock" | .choose _ _ => "choose"
def Sm.simple : Sm → Bool
  | .choose _ _ => false
  | _ => true
def Sm.form : Sm → List V
  | .lock n => [.str "lock", .str n]
  | .unlock n => [.str "unlock", .str n]
  | s => [.str s.word]
mutual
inductive Ds (H : Hp) : V → Sm → Prop
  | one {a : Addr} {s : Sm} : s.simple = true → H a = some (.tup s.form) → Ds H (.ref a) s
  | choose {a y n : Addr} {ys ns : List V} {sy sn : List Sm} : H a = some (.tup [.str "choose", .ref y, .ref n]) → H y = some (.tup ys) → DsAll H ys sy → H n = some (.tup ns) → DsAll H ns sn → Ds H (.ref a) (.choose sy sn)
inductive DsAll (H : Hp) : List V → List Sm → Prop
  | nil : DsAll H [] []
  | cons {v : V} {vs : List V} {s : Sm} {ss : List Sm} : Ds H v s → DsAll H vs ss → DsAll H (v :: vs) (s :: ss)
end
mutual
theorem Ds.mono {H H' : Hp} (t : Tp H H') : ∀ {v : V} {s : Sm}, Ds H v s → Ds H' v s
  | _, _, .one h e => .one h (t _ _ e)
  | _, _, .choose e ey dy en dn => .choose (t _ _ e) (t _ _ ey) (dy.mono t) (t _ _ en) (dn.mono t)
theorem DsAll.mono {H H' : Hp} (t : Tp H H') : ∀ {vs : List V} {ss : List Sm}, DsAll H vs ss → DsAll H' vs ss
  | _, _, .nil => .nil
  | _, _, .cons d ds => .cons (d.mono t) (ds.mono t)
end
theorem Tp.refl (H : Hp) : Tp H H := fun _ _ h => h
theorem Tp.trans {H H1 H2 : Hp} (a : Tp H H1) (b : Tp H1 H2) : Tp H H2 := fun x y h => b x y (a x y h)
theorem Same.tp {H H' : Hp} (e : Same H H') : Tp H H' := fun a xs h => e a _ h
theorem DsAll.length {H : Hp} {vs : List V} {ss : List Sm} (d : DsAll H vs ss) : vs.length = ss.length := by
  induction vs generalizing ss with
  | nil => cases d; rfl
  | cons v vs ih => cases d with | cons a b => simp [ih b]
theorem DsAll.get {H : Hp} {vs : List V} {ss : List Sm} (d : DsAll H vs ss) {i : Nat} {v : V} (h : vs[i]? = some v) : ∃ s, ss[i]? = some s ∧ Ds H v s := by
  induction vs generalizing ss i with
  | nil => simp at h
  | cons w vs ih =>
    cases d with
    | cons a b =>
      cases i with
      | zero => simp at h; subst h; exact ⟨_, rfl, a⟩
      | succ i => simpa using ih b (by simpa using h)
/-- an element that one knows to be there -/
theorem DsAll.at {H : Hp} {vs : List V} {ss : List Sm} (d : DsAll H vs ss) {i : Nat} {s : Sm} (h : ss[i]? = some s) : ∃ v, vs[i]? = some v ∧ Ds H v s := by
  induction vs generalizing ss i with
  | nil => cases d; simp at h
  | cons w vs ih =>
    cases d with
    | cons a b =>
      cases i with
      | zero => simp at h; subst h; exact ⟨_, rfl, a⟩
      | succ i => simpa using ih b (by simpa using h)
theorem DsAll.append {H : Hp} {vs ws : List V} {ss ts : List Sm} (d : DsAll H vs ss) (e : DsAll H ws ts) : DsAll H (vs ++ ws) (ss ++ ts) := by
  induction vs generalizing ss with
  | nil => cases d; exact e
  | cons v vs ih => cases d with | cons a b => exact .cons a (ih b)
theorem DsAll.drop {H : Hp} {vs : List V} {ss : List Sm} (d : DsAll H vs ss) (n : Nat) : DsAll H (vs.drop n) (ss.drop n) := by
  induction n generalizing vs ss with
  | zero => exact d
  | succ n ih => cases d with
    | nil => exact .nil
    | cons a b => exact ih b
/-- names of locks and kinds -/
abbrev letters : Str := "abcdefghijklmnopqrstuvwxyz"
def NameOk (s : Str) : Prop := 1 ≤ s.length ∧ s.length ≤ 8 ∧ ∀ c ∈ s.cps.toList, c ∈ letters.cps.toList
def Sm.after : Sm → Int → Int
  | .take, c => c + 1
  | .commit, _ => 0
  | .rollback, _ => 0
  | .leave, _ => 0
  | _, c => c
def Sm.fine : Sm → Int → Int → Prop
  | .take, _, c => c ≠ 3
  | .lock n, _, _ => NameOk n
  | .unlock n, _, _ => NameOk n
  | .choose _ _, d, _ => d ≠ 2
  | _, _, _ => True
section
variable {P : Program} {w : World} {K : PySem.W.Frag} {mg : Str → Option Value} {base : Heap}
def sp_is_integer (K : PySem.W.Frag) : Sp := fun vs H Q E => ∃ v b, vs = [v] ∧ ((∃ i, v = .int i) ∧ b = true ∨ v = .non ∧ b = false) ∧ Q (.bl b) H
theorem len_is_integer (K : PySem.W.Frag) : ∀ (vs : List V) (H : Hp) (Q : VK) (E : XK), sp_is_integer K vs H Q E → vs.length = 1 := by
  rintro vs H Q E ⟨_, _, rfl, _⟩
  rfl
theorem ok_is_integer (T : Txt K mg) : CallF P w K mg base 1 (He.ga K "is_integer") ["value"] (sp_is_integer K) := by
  obtain ⟨fd, F⟩ := T.d_is_integer
  refine ⟨fd, F.ok csis_integer (len_is_integer K) (fun cdv A outer s H vs Q E hr hsp => ?_), F.bindsN (fun _ _ _ _ _ _ us hl => match us, hl with | [_], _ => rfl), F.kp⟩
  have hu := hu_of hr
  have hu65 : (A.deeper (envOfC "is_integer" (defScope sis_integer) s.heap.objs.size (He.ga K "is_integer") cdv)).units + 65 < cLine := by have := hr.un; omega
  have hu0 := hr.units0
  refine ⟨_, PSs.nox (pss_one (ps_ret (pe_and (pe_callB call_isi (by rfl) T.f_isinstance (by decide +kernel) (pa_cons (pv 0) (pa_cons (pe_bltn (v := .ty "int") (by rfl) T.f_int (by decide +kernel) rfl) pa_nil))) (pe_one (pe_not (pe_callB call_isi (by rfl) T.f_isinstance (by decide +kernel) (pa_cons (pv 0) (pa_cons (pe_bltn (v := .ty "bool") (by rfl) T.f_bool (by decide +kernel) rfl) pa_nil)))))))), ?_⟩
  obtain ⟨v, b, rfl, hv, q⟩ := hsp
  rcases hv with ⟨⟨i, rfl⟩, rfl⟩ | ⟨rfl, rfl⟩
  · walk_at "st"
    walk_at "rd"
    exact q
  · walk_at "st"
    walk_at "rd"
    exact q
theorem u_int {K : PySem.W.Frag} {H : Hp} {Q : VK} {E : XK} {i : Int} (q : Q (.bl true) H) : sp_is_integer K [.int i] H Q E := ⟨_, _, rfl, .inl ⟨⟨_, rfl⟩, rfl⟩, q⟩
theorem u_intN {K : PySem.W.Frag} {H : Hp} {Q : VK} {E : XK} (q : Q (.bl false) H) : sp_is_integer K [.non] H Q E := ⟨_, _, rfl, .inr ⟨rfl, rfl⟩, q⟩
def sp_within (K : PySem.W.Frag) : Sp := fun vs H Q E => ∃ i l m, vs = [.int i, .int l, .int m] ∧ Q (.bl (decide (l ≤ i ∧ i ≤ m))) H
theorem len_within (K : PySem.W.Frag) : ∀ (vs : List V) (H : Hp) (Q : VK) (E : XK), sp_within K vs H Q E → vs.length = 3 := by
  rintro vs H Q E ⟨_, _, _, rfl, _⟩
  rfl
theorem ok_within (T : Txt K mg) : CallF P w K mg base 2 (He.ga K "within") ["value", "least", "most"] (sp_within K) := by
  obtain ⟨fd, F⟩ := T.d_within
  obtain ⟨fd_is_integer, G_is_integer, b_is_integer, k_is_integer⟩ := ok_is_integer (P := P) (w := w) (base := base) T
  refine ⟨fd, F.ok cswithin (len_within K) (fun cdv A outer s H vs Q E hr hsp => ?_), F.bindsN (fun _ _ _ _ _ _ us hl => match us, hl with | [_, _, _], _ => rfl), F.kp⟩
  have hu := hu_of hr
  have hu65 : (A.deeper (envOfC "within" (defScope swithin) s.heap.objs.size (He.ga K "within") cdv)).units + 65 < cLine := by have := hr.un; omega
  have hu0 := hr.units0
  refine ⟨_, PSs.nox (pss_one (ps_ret (pe_and (pe_call G_is_integer (hr.mono (by decide)) (by rfl) T.g_is_integer k_is_integer b_is_integer .nil pass0 (pa_cons (pv 0) pa_nil)) (pe_one (pe_chain op_le op_le (pv 1) (pv 0) (pv 2)))))), ?_⟩
  obtain ⟨i, l, m, rfl, q⟩ := hsp
  walk_at "st"
  walk_at "rd"
  refine u_int ?_
  walk_at "rd"
  refine w_ite (fun h => ?_) (fun h => ?_)
  · walk_at "rd"
    simpa [h] using q
  · simpa [h] using q
theorem u_within {K : PySem.W.Frag} {H : Hp} {Q : VK} {E : XK} {i l m : Int} (h : l ≤ i ∧ i ≤ m) (q : Q (.bl true) H) : sp_within K [.int i, .int l, .int m] H Q E := ⟨_, _, _, rfl, by simpa [h] using q⟩
def sp_is_kept (K : PySem.W.Frag) : Sp := fun vs H Q E => ∃ v b, vs = [v] ∧ ((∃ i, v = .int i ∧ b = decide (i = -1)) ∨ v = .non ∧ b = false) ∧ Q (.bl b) H
theorem len_is_kept (K : PySem.W.Frag) : ∀ (vs : List V) (H : Hp) (Q : VK) (E : XK), sp_is_kept K vs H Q E → vs.length = 1 := by
  rintro vs H Q E ⟨_, _, rfl, _⟩
  rfl
theorem ok_is_kept (T : Txt K mg) : CallF P w K mg base 2 (He.ga K "is_kept") ["value"] (sp_is_kept K) := by
  obtain ⟨fd, F⟩ := T.d_is_kept
  obtain ⟨fd_is_integer, G_is_integer, b_is_integer, k_is_integer⟩ := ok_is_integer (P := P) (w := w) (base := base) T
  refine ⟨fd, F.ok csis_kept (len_is_kept K) (fun cdv A outer s H vs Q E hr hsp => ?_), F.bindsN (fun _ _ _ _ _ _ us hl => match us, hl with | [_], _ => rfl), F.kp⟩
  have hu := hu_of hr
  have hu65 : (A.deeper (envOfC "is_kept" (defScope sis_kept) s.heap.objs.size (He.ga K "is_kept") cdv)).units + 65 < cLine := by have := hr.un; omega
  have hu0 := hr.units0
  refine ⟨_, PSs.nox (pss_one (ps_ret (pe_and (pe_call G_is_integer (hr.mono (by decide)) (by rfl) T.g_is_integer k_is_integer b_is_integer .nil pass0 (pa_cons (pv 0) pa_nil)) (pe_one (pe_cmpR op_eq (pv 0) (pe_un un_neg pe_int) (nomark _)))))), ?_⟩
  obtain ⟨v, b, rfl, hv, q⟩ := hsp
  rcases hv with ⟨i, rfl, rfl⟩ | ⟨rfl, rfl⟩
  · walk_at "st"
    walk_at "rd"
    refine u_int ?_
    walk_at "rd"
    exact q
  · walk_at "st"
    walk_at "rd"
    refine u_intN ?_
    walk_at "rd"
    exact q
def sp_count_after (K : PySem.W.Frag) : Sp := fun vs H Q E => ∃ s c, vs = [.str (Sm.word s), .int c] ∧ s.simple = true ∧ Q (.int (s.after c)) H
theorem len_count_after (K : PySem.W.Frag) : ∀ (vs : List V) (H : Hp) (Q : VK) (E : XK), sp_count_after K vs H Q E → vs.length = 2 := by
  rintro vs H Q E ⟨_, _, rfl, _⟩
  rfl
theorem ok_count_after (T : Txt K mg) : CallF P w K mg base 1 (He.ga K "count_after") ["word", "count"] (sp_count_after K) := by
  obtain ⟨fd, F⟩ := T.d_count_after
  refine ⟨fd, F.ok cscount_after (len_count_after K) (fun cdv A outer s H vs Q E hr hsp => ?_), F.bindsN (fun _ _ _ _ _ _ us hl => match us, hl with | [_, _], _ => rfl), F.kp⟩
  have hu := hu_of hr
  have hu65 : (A.deeper (envOfC "count_after" (defScope scount_after) s.heap.objs.size (He.ga K "count_after") cdv)).units + 65 < cLine := by have := hr.un; omega
  have hu0 := hr.units0
  refine ⟨_, PSs.nox (pss_cons (ps_if (pt_cmpR op_eq (pv 0) pe_str (nomark _)) (pss_one (ps_ret (pe_op op_add (pv 1) pe_int))) pss_nil)
      (pss_cons (ps_if (pt_cmpR op_in_seq (pv 0) (pe_glob (v := .ref (He.ga K "RESETS")) rfl T.g_RESETS rfl) (by rfl)) (pss_one (ps_ret pe_int)) pss_nil)
      (pss_one (ps_ret (pv 1))))), ?_⟩
  obtain ⟨s, c, rfl, hs, q⟩ := hsp
  cases s with
  | choose y n => cases hs
  | _ =>
    walk_at "st"
    dsimp only [Sm.word]
    walk_at "rd"
    all_goals exact q
def sp_is_name (K : PySem.W.Frag) : Sp := fun vs H Q E => ∃ s, vs = [.str s] ∧ NameOk s ∧ Q (.bl true) H
theorem len_is_name (K : PySem.W.Frag) : ∀ (vs : List V) (H : Hp) (Q : VK) (E : XK), sp_is_name K vs H Q E → vs.length = 1 := by
  rintro vs H Q E ⟨_, rfl, _⟩
  rfl
theorem ok_is_name (T : Txt K mg) : CallF P w K mg base 1 (He.ga K "is_name") ["value"] (sp_is_name K) := by
  obtain ⟨fd, F⟩ := T.d_is_name
  refine ⟨fd, F.ok csis_name (len_is_name K) (fun cdv A outer s H vs Q E hr hsp => ?_), F.bindsN (fun _ _ _ _ _ _ us hl => match us, hl with | [_], _ => rfl), F.kp⟩
  have hu := hu_of hr
  have hu65 : (A.deeper (envOfC "is_name" (defScope sis_name) s.heap.objs.size (He.ga K "is_name") cdv)).units + 65 < cLine := by have := hr.un; omega
  have hu0 := hr.units0
  obtain ⟨_, s_LETTERS⟩ := T.s_LETTERS
  refine ⟨_, PSs.nox (pss_cons (ps_if (PW.pt (pw_or (pt_not (pt_val (pe_callB call_isi (by rfl) T.f_isinstance (by decide +kernel) (pa_cons (pv 0) (pa_cons (pe_bltn (v := .ty "str") (by rfl) T.f_str (by decide +kernel) rfl) pa_nil))))) (pw_or1 (pt_not (pt_chain op_le op_le pe_int (pe_callB call_lenSN (by rfl) T.f_len (by decide +kernel) (pa_cons (pv 0) pa_nil)) pe_int))))) (pss_one (ps_ret pe_bl)) pss_nil)
      (pss_cons (ps_for PassesOwn.never rfl (pi_str (pv 0)) (pg_name (i := 1) csis_name.nd rfl (Or.inl rfl)) (pss_one (ps_if (pt_cmpR op_notInS (pv 1) (pe_glob (v := .str "abcdefghijklmnopqrstuvwxyz") rfl s_LETTERS ⟨_, rfl⟩) rfl) (pss_one (ps_ret pe_bl)) pss_nil)))
      (pss_one (ps_ret pe_bl)))), ?_⟩
  obtain ⟨s, rfl, ⟨h1, h2, h3⟩, q⟩ := hsp
  have hs : s.length ≤ sizeLine := small9 (by omega)
  walk_at "st"
  walk_at "rd"
  refine forS (fun pre σ H' => H' = H ∧ ∃ o, σ = [some (.str s), o]) ⟨rfl, _, rfl⟩ ?_ ?_
  · rintro pre c post σ H' e ⟨rfl, o, rfl⟩
    walk_at "rd"
    have hc : c ∈ letters.cps.toList := h3 c (by rw [e]; simp)
    refine w_itenf hc ?_
    walk_at "rd"
    exact ⟨rfl, _, rfl⟩
  · rintro σ H' ⟨rfl, o, rfl⟩
    walk_at "rd"
    exact q
def sp_is_place (K : PySem.W.Frag) : Sp := fun vs H Q E => ∃ (a : Addr) (ns : List Int), vs = [.ref a] ∧ H a = some (.tup (ns.map V.int)) ∧ Q (.bl true) H
theorem len_is_place (K : PySem.W.Frag) : ∀ (vs : List V) (H : Hp) (Q : VK) (E : XK), sp_is_place K vs H Q E → vs.length = 1 := by
  rintro vs H Q E ⟨_, _, rfl, _⟩
  rfl
theorem ok_is_place (T : Txt K mg) : CallF P w K mg base 2 (He.ga K "is_place") ["value"] (sp_is_place K) := by
  obtain ⟨fd, F⟩ := T.d_is_place
  obtain ⟨fd_is_integer, G_is_integer, b_is_integer, k_is_integer⟩ := ok_is_integer (P := P) (w := w) (base := base) T
  refine ⟨fd, F.ok csis_place (len_is_place K) (fun cdv A outer s H vs Q E hr hsp => ?_), F.bindsN (fun _ _ _ _ _ _ us hl => match us, hl with | [_], _ => rfl), F.kp⟩
  have hu := hu_of hr
  have hu65 : (A.deeper (envOfC "is_place" (defScope sis_place) s.heap.objs.size (He.ga K "is_place") cdv)).units + 65 < cLine := by have := hr.un; omega
  have hu0 := hr.units0
  refine ⟨_, PSs.nox (pss_cons (ps_if (pt_not (pt_val (pe_callB call_isi (by rfl) T.f_isinstance (by decide +kernel) (pa_cons (pv 0) (pa_cons (pe_bltn (v := .ty "tuple") (by rfl) T.f_tuple (by decide +kernel) rfl) pa_nil))))) (pss_one (ps_ret pe_bl)) pss_nil)
      (pss_cons (ps_for PassesOwn.never rfl (pi_tup (pv 0)) (pg_name (i := 1) csis_place.nd rfl (Or.inl rfl)) (pss_one (ps_if (pt_not (pt_val (pe_call G_is_integer (hr.mono (by decide)) (by rfl) T.g_is_integer k_is_integer b_is_integer .nil pass0 (pa_cons (pv 1) pa_nil)))) (pss_one (ps_ret pe_bl)) pss_nil)))
      (pss_one (ps_ret pe_bl)))), ?_⟩
  obtain ⟨a, ns, rfl, e, q⟩ := hsp
  walk_at "st"
  walk_at "rd"
  refine forT (ys := ns) (val := V.int) (fun pre σ H' => H' = H ∧ ∃ o, σ = [some (.ref a), o]) ⟨rfl, _, rfl⟩ (fun pre σ H' h => by rw [h.1]; exact e) ?_ ?_
  · rintro pre c post σ H' _ ⟨rfl, o, rfl⟩
    walk_at "rd"
    refine u_int ?_
    walk_at "rd"
    exact ⟨rfl, _, rfl⟩
  · rintro σ H' ⟨rfl, o, rfl⟩
    walk_at "rd"
    exact q
def sp_has_form (K : PySem.W.Frag) : Sp := fun vs H Q E => ∃ v s, vs = [v] ∧ Ds H v s ∧ Q (.bl true) H
theorem len_has_form (K : PySem.W.Frag) : ∀ (vs : List V) (H : Hp) (Q : VK) (E : XK), sp_has_form K vs H Q E → vs.length = 1 := by
  rintro vs H Q E ⟨_, _, rfl, _⟩
  rfl
theorem ok_has_form (T : Txt K mg) : CallF P w K mg base 1 (He.ga K "has_form") ["statement"] (sp_has_form K) := by
  obtain ⟨fd, F⟩ := T.d_has_form
  refine ⟨fd, F.ok cshas_form (len_has_form K) (fun cdv A outer s H vs Q E hr hsp => ?_), F.bindsN (fun _ _ _ _ _ _ us hl => match us, hl with | [_], _ => rfl), F.kp⟩
  have hu := hu_of hr
  have hu65 : (A.deeper (envOfC "has_form" (defScope shas_form) s.heap.objs.size (He.ga K "has_form") cdv)).units + 65 < cLine := by have := hr.un; omega
  have hu0 := hr.units0
  refine ⟨_, PSs.nox (pss_cons (ps_if (PW.pt (pw_or (pt_not (pt_val (pe_callB call_isi (by rfl) T.f_isinstance (by decide +kernel) (pa_cons (pv 0) (pa_cons (pe_bltn (v := .ty "tuple") (by rfl) T.f_tuple (by decide +kernel) rfl) pa_nil))))) (pw_or (pt_cmpR op_eq (pe_callB call_lenN (by rfl) T.f_len (by decide +kernel) (pa_cons (pv 0) pa_nil)) pe_int (nomark _)) (pw_or1 (pt_not (pt_val (pe_callB call_isi (by rfl) T.f_isinstance (by decide +kernel) (pa_cons (pe_ix ix_tup (pv 0) pe_int (fun _ _ => rfl)) (pa_cons (pe_bltn (v := .ty "str") (by rfl) T.f_str (by decide +kernel) rfl) pa_nil))))))))) (pss_one (ps_ret pe_bl)) pss_nil)
      (pss_cons (ps_set (i := 1) cshas_form.nd rfl (Or.inl rfl) (pe_ix ix_tup (pv 0) pe_int (fun _ _ => rfl)))
      (pss_cons (ps_if (pt_cmpR op_in_seq (pv 1) (pe_glob (v := .ref (He.ga K "SIMPLE")) rfl T.g_SIMPLE rfl) (by rfl)) (pss_one (ps_ret (pe_cmpR op_eq (pe_callB call_lenN (by rfl) T.f_len (by decide +kernel) (pa_cons (pv 0) pa_nil)) pe_int (nomark _)))) pss_nil)
      (pss_cons (ps_if (pt_cmpR op_in_seq (pv 1) (pe_glob (v := .ref (He.ga K "NAMED")) rfl T.g_NAMED rfl) (by rfl)) (pss_one (ps_ret (pe_cmpR op_eq (pe_callB call_lenN (by rfl) T.f_len (by decide +kernel) (pa_cons (pv 0) pa_nil)) pe_int (nomark _)))) pss_nil)
      (pss_cons (ps_if (PW.pt (pw_or (pt_cmpR op_ne (pv 1) pe_str (nomark _)) (pw_or1 (pt_cmpR op_ne (pe_callB call_lenN (by rfl) T.f_len (by decide +kernel) (pa_cons (pv 0) pa_nil)) pe_int (nomark _))))) (pss_one (ps_ret pe_bl)) pss_nil)
      (pss_one (ps_ret (pe_and (pe_callB call_isi (by rfl) T.f_isinstance (by decide +kernel) (pa_cons (pe_ix ix_tup (pv 0) pe_int (fun _ _ => rfl)) (pa_cons (pe_bltn (v := .ty "tuple") (by rfl) T.f_tuple (by decide +kernel) rfl) pa_nil))) (pe_one (pe_callB call_isi (by rfl) T.f_isinstance (by decide +kernel) (pa_cons (pe_ix ix_tup (pv 0) pe_int (fun _ _ => rfl)) (pa_cons (pe_bltn (v := .ty "tuple") (by rfl) T.f_tuple (by decide +kernel) rfl) pa_nil)))))))))))), ?_⟩
  obtain ⟨v, s, rfl, hd, q⟩ := hsp
  cases hd with
  | one h e =>
    cases s with
    | choose y n => cases h
    | _ =>
      dsimp only [Sm.form, Sm.word] at e
      walk_at "st"
      walk_at "rd"
      all_goals exact q
  | choose e ey dy en dn =>
    walk_at "st"
    walk_at "rd"
    all_goals exact q
def sp_fault_of (K : PySem.W.Frag) : Sp := fun vs H Q E => ∃ v s d c, vs = [v, .int d, .int c] ∧ Ds H v s ∧ s.fine d c ∧ Q .non H
theorem len_fault_of (K : PySem.W.Frag) : ∀ (vs : List V) (H : Hp) (Q : VK) (E : XK), sp_fault_of K vs H Q E → vs.length = 3 := by
  rintro vs H Q E ⟨_, _, _, _, rfl, _⟩
  rfl
theorem ok_fault_of (T : Txt K mg) : CallF P w K mg base 2 (He.ga K "fault_of") ["statement", "depth", "count"] (sp_fault_of K) := by
  obtain ⟨fd, F⟩ := T.d_fault_of
  obtain ⟨fd_is_name, G_is_name, b_is_name, k_is_name⟩ := ok_is_name (P := P) (w := w) (base := base) T
  obtain ⟨fd_has_form, G_has_form, b_has_form, k_has_form⟩ := ok_has_form (P := P) (w := w) (base := base) T
  refine ⟨fd, F.ok csfault_of (len_fault_of K) (fun cdv A outer s H vs Q E hr hsp => ?_), F.bindsN (fun _ _ _ _ _ _ us hl => match us, hl with | [_, _, _], _ => rfl), F.kp⟩
  have hu := hu_of hr
  have hu65 : (A.deeper (envOfC "fault_of" (defScope sfault_of) s.heap.objs.size (He.ga K "fault_of") cdv)).units + 65 < cLine := by have := hr.un; omega
  have hu0 := hr.units0
  obtain ⟨_, i_MOST_NUMBERS⟩ := T.i_MOST_NUMBERS
  refine ⟨_, PSs.nox (pss_cons (ps_if (pt_not (pt_val (pe_call G_has_form (hr.mono (by decide)) (by rfl) T.g_has_form k_has_form b_has_form .nil pass0 (pa_cons (pv 0) pa_nil)))) (pss_one (ps_ret pe_str)) pss_nil)
      (pss_cons (ps_set (i := 3) csfault_of.nd rfl (Or.inl rfl) (pe_ix ix_tup (pv 0) pe_int (fun _ _ => rfl)))
      (pss_cons (ps_if (PW.pt (pw_and (pt_cmpR op_eq (pv 3) pe_str (nomark _)) (pw_and1 (pt_cmpR op_eq (pv 1) pe_int (nomark _))))) (pss_one (ps_ret pe_str)) pss_nil)
      (pss_cons (ps_if (PW.pt (pw_and (pt_cmpR op_in_seq (pv 3) (pe_glob (v := .ref (He.ga K "NAMED")) rfl T.g_NAMED rfl) (by rfl)) (pw_and1 (pt_not (pt_val (pe_call G_is_name (hr.mono (by decide)) (by rfl) T.g_is_name k_is_name b_is_name .nil pass0 (pa_cons (pe_ix ix_tup (pv 0) pe_int (fun _ _ => rfl)) pa_nil))))))) (pss_one (ps_ret pe_str)) pss_nil)
      (pss_cons (ps_if (PW.pt (pw_and (pt_cmpR op_eq (pv 3) pe_str (nomark _)) (pw_and1 (pt_cmpR op_eq (pv 2) (pe_glob (v := .int 3) rfl i_MOST_NUMBERS ⟨_, rfl⟩) (nomark _))))) (pss_one (ps_ret pe_str)) pss_nil)
      (pss_one (ps_ret pe_non))))))), ?_⟩
  obtain ⟨v, s, d, c, rfl, hd, hf, q⟩ := hsp
  have hd' := hd
  cases hd with
  | one h e =>
    cases s with
    | choose y n => cases h
    | take =>
      dsimp only [Sm.form, Sm.word, Sm.fine] at e hf
      walk_at "st"
      walk_at "rd"
      refine ⟨_, _, rfl, hd', ?_⟩
      walk_at "rd"
      exact q
    | lock n =>
      dsimp only [Sm.form, Sm.word, Sm.fine] at e hf
      walk_at "st"
      walk_at "rd"
      refine ⟨_, _, rfl, hd', ?_⟩
      walk_at "rd"
      refine ⟨_, rfl, hf, ?_⟩
      walk_at "rd"
      exact q
    | unlock n =>
      dsimp only [Sm.form, Sm.word, Sm.fine] at e hf
      walk_at "st"
      walk_at "rd"
      refine ⟨_, _, rfl, hd', ?_⟩
      walk_at "rd"
      refine ⟨_, rfl, hf, ?_⟩
      walk_at "rd"
      exact q
    | _ =>
      dsimp only [Sm.form, Sm.word, Sm.fine] at e hf
      walk_at "st"
      walk_at "rd"
      refine ⟨_, _, rfl, hd', ?_⟩
      walk_at "rd"
      exact q
  | choose e ey dy en dn =>
    dsimp only [Sm.fine] at hf
    walk_at "st"
    walk_at "rd"
    refine ⟨_, _, rfl, hd', ?_⟩
    walk_at "rd"
    exact q
end
/-! ### places: plain mathematics -/
def brOf : Sm → Int → Option (List Sm)
  | .choose y n, b => if b = 0 then some y else if b = 1 then some n else none
  | _, _ => none
/-- the statement with the number i -/
def nthI (ss : List Sm) (i : Int) : Option Sm := if 0 ≤ i then ss[i.toNat]? else none
/-- what is yet to be executed from a place on (none: no such place) -/
def restAt : List Sm → List Int → Option (List Sm)
  | _, [] => none
  | ss, [i] => if 0 ≤ i ∧ i < ss.length then some (ss.drop i.toNat) else none
  | ss, i :: b :: pl => match nthI ss i with
    | some s => match brOf s b with
      | some br => (restAt br pl).map (· ++ ss.drop (i.toNat + 1))
      | none => none
    | none => none
theorem restAt_two {ss : List Sm} {i b : Int} {pl : List Int} {r : List Sm} (h : restAt ss (i :: b :: pl) = some r) : ∃ s br r2, nthI ss i = some s ∧ brOf s b = some br ∧ restAt br pl = some r2 ∧ r = r2 ++ ss.drop (i.toNat + 1) := by
  unfold restAt at h
  cases h1 : nthI ss i with
  | none => rw [h1] at h; cases h
  | some s =>
    rw [h1] at h
    cases h2 : brOf s b with
    | none => simp only [h2] at h; cases h
    | some br =>
      simp only [h2] at h
      cases h3 : restAt br pl with
      | none => rw [h3] at h; cases h
      | some r2 => rw [h3] at h; exact ⟨s, br, r2, rfl, h2, h3, (Option.some.inj h).symm⟩
theorem restAt_two' {ss : List Sm} {i b : Int} {pl : List Int} {s : Sm} {br r2 : List Sm} (h1 : nthI ss i = some s) (h2 : brOf s b = some br) (h3 : restAt br pl = some r2) : restAt ss (i :: b :: pl) = some (r2 ++ ss.drop (i.toNat + 1)) := by
  unfold restAt
  simp only [h1, h2, h3]
  rfl
theorem restAt_one {ss : List Sm} {i : Int} {r : List Sm} (h : restAt ss [i] = some r) : 0 ≤ i ∧ i < ss.length ∧ r = ss.drop i.toNat := by
  unfold restAt at h
  split at h
  · rename_i c; exact ⟨c.1, c.2, (Option.some.inj h).symm⟩
  · cases h
theorem nthI_drop {ss : List Sm} {i : Int} {s : Sm} (h : nthI ss i = some s) : 0 ≤ i ∧ ss.drop i.toNat = s :: ss.drop (i.toNat + 1) ∧ i < ss.length := by
  unfold nthI at h
  split at h
  · rename_i c
    obtain ⟨e1, e2⟩ := take_at h
    have hl : i.toNat < ss.length := by
      rcases Nat.lt_or_ge i.toNat ss.length with c | c
      · exact c
      · rw [List.getElem?_eq_none c] at h; cases h
    refine ⟨c, ?_, by omega⟩
    rw [List.drop_eq_getElem_cons hl]
    rw [List.getElem?_eq_getElem hl] at h
    rw [Option.some.inj h]
  · cases h
theorem drop_nthI {ss : List Sm} {i : Int} {s : Sm} {r : List Sm} (h0 : 0 ≤ i) (h : ss.drop i.toNat = s :: r) : nthI ss i = some s ∧ r = ss.drop (i.toNat + 1) := by
  have hl : i.toNat < ss.length := by
    rcases Nat.lt_or_ge i.toNat ss.length with c | c
    · exact c
    · rw [List.drop_eq_nil_of_le c] at h; cases h
  rw [List.drop_eq_getElem_cons hl] at h
  injection h with h1 h2
  refine ⟨?_, h2.symm⟩
  unfold nthI
  rw [if_pos h0, List.getElem?_eq_getElem hl, h1]
theorem restAt_ne {pl : List Int} : ∀ {ss r : List Sm}, restAt ss pl = some r → r ≠ [] := by
  intro ss r h e
  subst e
  match pl with
  | [] => unfold restAt at h; cases h
  | [i] =>
    obtain ⟨h1, h2, h3⟩ := restAt_one h
    have := congrArg List.length h3
    rw [List.length_drop, List.length_nil] at this
    omega
  | i :: b :: pl =>
    obtain ⟨s, br, r2, h1, h2, h3, h4⟩ := restAt_two h
    have := restAt_ne h3
    have h4' := h4.symm
    rw [List.append_eq_nil_iff] at h4'
    exact this h4'.1
/-- the place beside -/
def beside (pl : List Int) : List Int := pl.dropLast ++ [pl.getLastD 0 + 1]
theorem beside_two (i b j : Int) (pl : List Int) : beside (i :: b :: j :: pl) = i :: b :: beside (j :: pl) := by
  cases pl with
  | nil => rfl
  | cons k pl => simp [beside]
/-- going up from a place whose rest is s' :: r' -/
theorem up_beside : ∀ {pl : List Int} {ss r r2 : List Sm} {s : Sm}, restAt ss pl = some (s :: r) → restAt ss (beside pl) = some r2 → r2 = r := by
  intro pl ss r r2 s h g
  match pl with
  | [] => unfold restAt at h; cases h
  | [i] =>
    obtain ⟨h1, h2, h3⟩ := restAt_one h
    obtain ⟨g1, g2, g3⟩ := restAt_one (show restAt ss [i + 1] = some r2 from g)
    obtain ⟨_, e⟩ := drop_nthI h1 h3.symm
    rw [g3, e]
    congr 1
    omega
  | [i, b] =>
    obtain ⟨s1, br, r3, h1, h2, h3, h4⟩ := restAt_two h
    unfold restAt at h3; cases h3
  | i :: b :: j :: pl =>
    obtain ⟨s1, br, r3, h1, h2, h3, h4⟩ := restAt_two h
    rw [beside_two] at g
    obtain ⟨s1', br', r4, g1, g2, g3, g4⟩ := restAt_two g
    rw [h1] at g1; cases g1
    rw [h2] at g2; cases g2
    cases r3 with
    | nil => exact absurd rfl (restAt_ne h3)
    | cons s3 r3 =>
      obtain ⟨h5, h6⟩ := List.cons.inj (h4.trans (List.cons_append ..))
      have := up_beside (pl := j :: pl) h3 g3
      rw [g4, h6, this]
theorem up_end {ss r : List Sm} {s : Sm} {i : Int} (h : restAt ss [i] = some (s :: r)) (g : restAt ss (beside [i]) = none) : r = [] := by
  obtain ⟨h1, h2, h3⟩ := restAt_one h
  obtain ⟨_, e⟩ := drop_nthI h1 h3.symm
  rw [e]
  have g : restAt ss [i + 1] = none := g
  unfold restAt at g
  split at g
  · cases g
  · rename_i c
    apply List.drop_eq_nil_of_le
    omega
theorem up_out : ∀ {pl : List Int} {ss r : List Sm} {s : Sm}, restAt ss pl = some (s :: r) → restAt ss (beside pl) = none → pl.length ≠ 1 → 3 ≤ pl.length ∧ ∃ s', restAt ss pl.dropLast.dropLast = some (s' :: r) := by
  intro pl ss r s h g hl
  match pl with
  | [] => unfold restAt at h; cases h
  | [i] => exact absurd rfl hl
  | [i, b] =>
    obtain ⟨s1, br, r3, h1, h2, h3, h4⟩ := restAt_two h
    unfold restAt at h3; cases h3
  | [i, b, j] =>
    obtain ⟨s1, br, r3, h1, h2, h3, h4⟩ := restAt_two h
    rw [beside_two] at g
    have g3 : restAt br (beside [j]) = none := by
      cases e : restAt br (beside [j]) with
      | none => rfl
      | some r4 => rw [restAt_two' h1 h2 e] at g; cases g
    cases r3 with
    | nil => exact absurd rfl (restAt_ne h3)
    | cons s3 r3 =>
      obtain ⟨h5, h6⟩ := List.cons.inj (h4.trans (List.cons_append ..))
      have := up_end h3 g3
      subst this
      obtain ⟨n1, n2, n3⟩ := nthI_drop h1
      refine ⟨by simp, s1, ?_⟩
      show restAt ss [i] = _
      unfold restAt
      rw [if_pos ⟨n1, n3⟩, n2, h6]
      rfl
  | i :: b :: j :: k :: pl =>
    obtain ⟨s1, br, r3, h1, h2, h3, h4⟩ := restAt_two h
    rw [beside_two] at g
    have g3 : restAt br (beside (j :: k :: pl)) = none := by
      cases e : restAt br (beside (j :: k :: pl)) with
      | none => rfl
      | some r4 => rw [restAt_two' h1 h2 e] at g; cases g
    cases r3 with
    | nil => exact absurd rfl (restAt_ne h3)
    | cons s3 r3 =>
      obtain ⟨h5, h6⟩ := List.cons.inj (h4.trans (List.cons_append ..))
      obtain ⟨l, s', e⟩ := up_out (pl := j :: k :: pl) h3 g3 (by simp)
      refine ⟨by simp, s', ?_⟩
      cases pl with
      | nil => simp at l
      | cons m pl =>
        show restAt ss (i :: b :: (j :: k :: m :: pl).dropLast.dropLast) = _
        rw [restAt_two' h1 h2 e, h6]
        rfl
/-- what is executed behind a statement -/
def Sm.next (s : Sm) (a : Int) (r : List Sm) : List Sm := match s with
  | .leave => []
  | .choose y n => (if a = 0 then y else n) ++ r
  | _ => r
theorem down : ∀ {pl : List Int} {ss r y n : List Sm} {a : Int}, restAt ss pl = some (.choose y n :: r) → (a = 0 ∨ a = 1) → (if a = 0 then y else n) ≠ [] → restAt ss (pl ++ [a, 0]) = some ((if a = 0 then y else n) ++ r) := by
  intro pl ss r y n a h ha ne
  match pl with
  | [] => unfold restAt at h; cases h
  | [i] =>
    obtain ⟨h1, h2, h3⟩ := restAt_one h
    obtain ⟨e1, e2⟩ := drop_nthI h1 h3.symm
    have hb : brOf (.choose y n) a = some (if a = 0 then y else n) := by
      rcases ha with rfl | rfl <;> rfl
    have h0 : restAt (if a = 0 then y else n) [0] = some (if a = 0 then y else n) := by
      generalize (if a = 0 then y else n) = br at ne
      unfold restAt
      rw [if_pos]
      · rfl
      · refine ⟨Int.le_refl _, ?_⟩
        cases br with
        | nil => exact absurd rfl ne
        | cons x xs => simp
    have := restAt_two' e1 hb h0
    rw [e2]
    exact this
  | [i, b] =>
    obtain ⟨s1, br, r3, h1, h2, h3, h4⟩ := restAt_two h
    unfold restAt at h3; cases h3
  | i :: b :: j :: pl =>
    obtain ⟨s1, br, r3, h1, h2, h3, h4⟩ := restAt_two h
    cases r3 with
    | nil => exact absurd rfl (restAt_ne h3)
    | cons s3 r3 =>
      obtain ⟨h5, h6⟩ := List.cons.inj (h4.trans (List.cons_append ..))
      subst h5
      have := restAt_two' h1 h2 (down (pl := j :: pl) h3 ha ne)
      show restAt ss (i :: b :: (j :: pl ++ [a, 0])) = _
      rw [this, h6, List.append_assoc]
/-! ### tuples of ints as data -/
def encP (pl : List Int) : PyData := .tuple (pl.map PyData.int)
theorem eqvAll_ints : ∀ xs ys : List Int, PyData.eqvAll (xs.map PyData.int) (ys.map PyData.int) = decide (xs = ys)
  | [], [] => by simp [PyData.eqvAll]
  | [], _ :: _ => by simp [PyData.eqvAll]
  | _ :: _, [] => by simp [PyData.eqvAll]
  | x :: xs, y :: ys => by
    simp only [List.map_cons, PyData.eqvAll, eqvAll_ints xs ys, PyData.eqv]
    by_cases h : x = y <;> by_cases g : xs = ys <;> simp [h, g]
theorem eqv_encP (xs ys : List Int) : PyData.eqv (encP xs) (encP ys) = decide (xs = ys) := by
  simp only [encP, PyData.eqv, eqvAll_ints]
theorem dp_tup {K : PySem.W.Frag} {H : Hp} {a : Addr} {ns : List Int} (h : H a = some (.tup (ns.map V.int))) : Dp K H (.ref a) (encP ns) := .tup (sqT h) (dpAll_ints ns)
theorem dpAll_places {K : PySem.W.Frag} {H : Hp} : ∀ {bs : List (Addr × List Int)}, (∀ b ∈ bs, H b.1 = some (.tup (b.2.map V.int))) → DpAll K H (bs.map fun b => V.ref b.1) (bs.map fun b => encP b.2)
  | [], _ => .nil
  | b :: bs, h => .cons (dp_tup (h b (by simp))) (dpAll_places fun c hc => h c (by simp [hc]))
theorem canLay_ints : ∀ ns : List Int, PyData.canLayAll0 (ns.map PyData.int) = true
  | [] => rfl
  | _ :: r => by simp [PyData.canLayAll0, PyData.canLay0, canLay_ints r]
theorem depthA_ints : ∀ ns : List Int, PyData.depthAll (ns.map PyData.int) = 0
  | [] => rfl
  | _ :: r => by simp [PyData.depthAll, PyData.depth, depthA_ints r]
theorem shaped_ints (ns : List Int) : SeqAt.shaped (encP ns) = true := by
  simp [SeqAt.shaped, encP, PyData.canLay0, PyData.depth, canLay_ints, depthA_ints]
theorem canLay_places : ∀ bs : List (Addr × List Int), PyData.canLayAll0 (bs.map fun b => encP b.2) = true
  | [] => rfl
  | _ :: r => by simp [encP, PyData.canLayAll0, PyData.canLay0, canLay_ints]; exact canLay_places r
theorem depthA_places : ∀ bs : List (Addr × List Int), PyData.depthAll (bs.map fun b => encP b.2) ≤ 1
  | [] => by simp [PyData.depthAll]
  | _ :: r => by
    have := depthA_places r
    simp only [List.map_cons, encP, PyData.depthAll, PyData.depth, depthA_ints]
    simp only [encP] at this
    omega
theorem shaped_places (bs : List (Addr × List Int)) : SeqAt.shaped (.tuple (bs.map fun b => encP b.2)) = true := by
  have := depthA_places bs
  have h2 : (PyData.tuple (bs.map fun b => encP b.2)).depth ≤ 64 := by
    rw [PyData.depth]
    omega
  unfold SeqAt.shaped
  rw [PyData.canLay0, canLay_places, decide_eq_true h2]
  rfl
theorem any_place (bs : List (Addr × List Int)) (pl : List Int) : ((bs.map fun b => encP b.2).any fun z => PyData.eqv z (encP pl)) = decide (∃ b ∈ bs, b.2 = pl) := by
  rw [Bool.eq_iff_iff]
  simp [eqv_encP]
/-- place in places -/
theorem in_places {K : PySem.W.Frag} {H : Hp} {a q : Addr} {pl : List Int} {bs : List (Addr × List Int)} {Q : VK} (e : H a = some (.tup (pl.map V.int))) (e2 : H q = some (.tup (bs.map fun b => V.ref b.1))) (e3 : ∀ b ∈ bs, H b.1 = some (.tup (b.2.map V.int)))
    (h : Q (.bl (decide (∃ b ∈ bs, b.2 = pl))) H) : rInT K (.ref a) (.ref q) H Q :=
  ⟨encP pl, _, dp_tup e, .tup (sqT e2) (dpAll_places e3), shaped_ints pl, shaped_places bs, by rw [any_place]; exact h⟩
theorem notIn_places {K : PySem.W.Frag} {H : Hp} {a q : Addr} {pl : List Int} {bs : List (Addr × List Int)} {Q : VK} (e : H a = some (.tup (pl.map V.int))) (e2 : H q = some (.tup (bs.map fun b => V.ref b.1))) (e3 : ∀ b ∈ bs, H b.1 = some (.tup (b.2.map V.int)))
    (h : Q (.bl (!decide (∃ b ∈ bs, b.2 = pl))) H) : rNotInT K (.ref a) (.ref q) H Q :=
  ⟨encP pl, _, dp_tup e, .tup (sqT e2) (dpAll_places e3), shaped_ints pl, shaped_places bs, by rw [any_place]; exact h⟩
/-! ### scripts, kinds, systems in the heap -/
def fsScript (t s p : V) : List (Str × V) := [("table", t), ("statements", s), ("places", p)]
def fsKind (n s b m : V) : List (Str × V) := [("name", n), ("script", s), ("block", b), ("many", m)]
def fsSystem (k a w c s : V) : List (Str × V) := [("kinds", k), ("ahead", a), ("window", w), ("crashes", c), ("sessions", s)]
def oV : Option Int → V
  | none => .non
  | some i => .int i
structure ScriptIn (K : PySem.W.Frag) (H : Hp) (ss : List Sm) (n : Nat) (p dx t a q : Addr) (kvs : List (List Key × V)) (bs : List (Addr × List Int)) (vs : List V) : Prop where
  ins : H p = some (.ins (He.ga K "Script") dx (fsScript (.ref t) (.ref a) (.ref q)))
  stm : H a = some (.tup vs)
  all : DsAll H vs ss
  tab : H t = some (.dT kvs)
  pls : H q = some (.tup (bs.map fun b => .ref b.1))
  pl : ∀ b ∈ bs, H b.1 = some (.tup (b.2.map V.int))
  key : ∀ pl, (∃ b ∈ bs, b.2 = pl) ↔ (restAt ss pl).isSome = true
  val : ∀ pl s r, restAt ss pl = some (s :: r) → ∃ v, valV kvs (keyP pl) = some v ∧ Ds H v s
  len : bs.length = n
  short : ∀ b ∈ bs, b.2.length ≤ 7
theorem ScriptIn.sh {K : PySem.W.Frag} {H : Hp} {ss : List Sm} {n : Nat} {p dx t a q : Addr} {kvs : List (List Key × V)} {bs : List (Addr × List Int)} {vs : List V} (S : ScriptIn K H ss n p dx t a q kvs bs vs) {pl : List Int} {r : List Sm} (h : restAt ss pl = some r) : pl.length ≤ 7 := by
  obtain ⟨b, hb, rfl⟩ := (S.key pl).mpr (by rw [h]; rfl)
  exact S.short b hb
def ScriptAt (K : PySem.W.Frag) (H : Hp) (p : Addr) (ss : List Sm) (n : Nat) : Prop := ∃ dx t a q kvs bs vs, ScriptIn K H ss n p dx t a q kvs bs vs
structure Kd where
  name : Str
  ss : List Sm
  n : Nat
  block : Int
  many : Int
def KindAt (K : PySem.W.Frag) (H : Hp) (p : Addr) (k : Kd) : Prop := ∃ dx sc, H p = some (.ins (He.ga K "Kind") dx (fsKind (.str k.name) (.ref sc) (.int k.block) (.int k.many))) ∧ ScriptAt K H sc k.ss k.n
/-- the kinds at some addresses -/
def KindsAt (K : PySem.W.Frag) (H : Hp) (ps : List (Addr × Kd)) : Prop := ∀ p ∈ ps, KindAt K H p.1 p.2
def sess (ks : List Kd) : List Kd := ks.flatMap fun k => List.replicate k.many.toNat k
structure SysIn (K : PySem.W.Frag) (H : Hp) (ps : List (Addr × Kd)) (ahead : Int) (window : Option Int) (crashes : Int) (p dx kt st : Addr) : Prop where
  ins : H p = some (.ins (He.ga K "System") dx (fsSystem (.ref kt) (.int ahead) (oV window) (.int crashes) (.ref st)))
  kt : H kt = some (.tup (ps.map fun b => .ref b.1))
  st : H st = some (.tup ((sess (ps.map (·.2))).map fun k => .str k.name))
  ks : KindsAt K H ps
  nd : (ps.map fun b => b.2.name).Nodup
def SysAt (K : PySem.W.Frag) (H : Hp) (p : Addr) (ks : List Kd) (ahead : Int) (window : Option Int) (crashes : Int) : Prop := ∃ ps dx kt st, SysIn K H ps ahead window crashes p dx kt st ∧ ps.map (·.2) = ks
theorem ScriptIn.mono {K : PySem.W.Frag} {H H' : Hp} {ss : List Sm} {n : Nat} {p dx t a q : Addr} {kvs : List (List Key × V)} {bs : List (Addr × List Int)} {vs : List V} (e : Same H H') (s : ScriptIn K H ss n p dx t a q kvs bs vs) : ScriptIn K H' ss n p dx t a q kvs bs vs where
  ins := e _ _ s.ins
  stm := e _ _ s.stm
  all := s.all.mono (Tk.Same.tp e)
  tab := e _ _ s.tab
  pls := e _ _ s.pls
  pl := fun b hb => e _ _ (s.pl b hb)
  key := s.key
  val := fun pl st r h => let ⟨v, h1, h2⟩ := s.val pl st r h; ⟨v, h1, h2.mono (Tk.Same.tp e)⟩
  len := s.len
  short := s.short
theorem ScriptAt.mono {K : PySem.W.Frag} {H H' : Hp} {p : Addr} {ss : List Sm} {n : Nat} (e : Same H H') : ScriptAt K H p ss n → ScriptAt K H' p ss n := fun ⟨a, b, c, d, f, g, h, s⟩ => ⟨a, b, c, d, f, g, h, s.mono e⟩
theorem KindAt.mono {K : PySem.W.Frag} {H H' : Hp} {p : Addr} {k : Kd} (e : Same H H') : KindAt K H p k → KindAt K H' p k := fun ⟨a, b, c, d⟩ => ⟨a, b, e _ _ c, d.mono e⟩
theorem KindsAt.mono {K : PySem.W.Frag} {H H' : Hp} {ps : List (Addr × Kd)} (e : Same H H') (h : KindsAt K H ps) : KindsAt K H' ps := fun p hp => (h p hp).mono e
theorem SysIn.mono {K : PySem.W.Frag} {H H' : Hp} {ps : List (Addr × Kd)} {ahead : Int} {window : Option Int} {crashes : Int} {p dx kt st : Addr} (e : Same H H') (s : SysIn K H ps ahead window crashes p dx kt st) : SysIn K H' ps ahead window crashes p dx kt st :=
  ⟨e _ _ s.ins, e _ _ s.kt, e _ _ s.st, s.ks.mono e, s.nd⟩
theorem SysAt.mono {K : PySem.W.Frag} {H H' : Hp} {p : Addr} {ks : List Kd} {ahead : Int} {window : Option Int} {crashes : Int} (e : Same H H') : SysAt K H p ks ahead window crashes → SysAt K H' p ks ahead window crashes := fun ⟨a, b, c, d, s, h⟩ => ⟨a, b, c, d, s.mono e, h⟩
section
variable {P : Program} {w : World} {K : PySem.W.Frag} {mg : Str → Option Value} {base : Heap}
def sp_Script___len__ (K : PySem.W.Frag) : Sp := fun vs H Q E => ∃ p ss n, vs = [.ref p] ∧ ScriptAt K H p ss n ∧ Q (.int (n : Nat)) H
theorem len_Script___len__ (K : PySem.W.Frag) : ∀ (vs : List V) (H : Hp) (Q : VK) (E : XK), sp_Script___len__ K vs H Q E → vs.length = 1 := by
  rintro vs H Q E ⟨_, _, _, rfl, _⟩
  rfl
theorem ok_Script___len__ (T : Txt K mg) : CallF P w K mg base 1 (He.ma K (He.ga K "Script") "__len__") ["self"] (sp_Script___len__ K) := by
  obtain ⟨fd, F⟩ := T.d_Script___len__
  refine ⟨fd, F.ok csScript___len__ (len_Script___len__ K) (fun cdv A outer s H vs Q E hr hsp => ?_), F.bindsN (fun _ _ _ _ _ _ us hl => match us, hl with | [_], _ => rfl), F.kp⟩
  have hu := hu_of hr
  have hu65 : (A.deeper (envOfC "Script.__len__" (defScope sScript___len__) s.heap.objs.size (He.ma K (He.ga K "Script") "__len__") cdv)).units + 65 < cLine := by have := hr.un; omega
  have hu0 := hr.units0
  refine ⟨_, PSs.nox (pss_one (ps_ret (pe_callB call_lenN (by rfl) T.f_len (by decide +kernel) (pa_cons (pe_fld (pv 0) rfl) pa_nil)))), ?_⟩
  obtain ⟨p, ss, n, rfl, ⟨dx, t, a, q, kvs, bs, vs, S⟩, hq⟩ := hsp
  have e1 := S.ins
  have e2 := S.pls
  walk_at "st"
  walk_at "rd"
  have := S.len
  simp only [List.length_map, S.len]
  exact hq
def sp_Script___getitem__ (K : PySem.W.Frag) : Sp := fun vs H Q E => ∃ p ss n b pl s r, vs = [.ref p, .ref b] ∧ ScriptAt K H p ss n ∧ H b = some (.tup (pl.map V.int)) ∧ restAt ss pl = some (s :: r) ∧ ∀ v, Ds H v s → Q v H
theorem len_Script___getitem__ (K : PySem.W.Frag) : ∀ (vs : List V) (H : Hp) (Q : VK) (E : XK), sp_Script___getitem__ K vs H Q E → vs.length = 2 := by
  rintro vs H Q E ⟨_, _, _, _, _, _, _, rfl, _⟩
  rfl
theorem ok_Script___getitem__ (T : Txt K mg) : CallF P w K mg base 3 (He.ma K (He.ga K "Script") "__getitem__") ["self", "place"] (sp_Script___getitem__ K) := by
  obtain ⟨fd, F⟩ := T.d_Script___getitem__
  obtain ⟨fd_is_place, G_is_place, b_is_place, k_is_place⟩ := ok_is_place (P := P) (w := w) (base := base) T
  refine ⟨fd, F.ok csScript___getitem__ (len_Script___getitem__ K) (fun cdv A outer s H vs Q E hr hsp => ?_), F.bindsN (fun _ _ _ _ _ _ us hl => match us, hl with | [_, _], _ => rfl), F.kp⟩
  have hu := hu_of hr
  have hu65 : (A.deeper (envOfC "Script.__getitem__" (defScope sScript___getitem__) s.heap.objs.size (He.ma K (He.ga K "Script") "__getitem__") cdv)).units + 65 < cLine := by have := hr.un; omega
  have hu0 := hr.units0
  refine ⟨_, PSs.nox (pss_cons (ps_if (PW.pt (pw_or (pt_not (pt_val (pe_call G_is_place (hr.mono (by decide)) (by rfl) T.g_is_place k_is_place b_is_place .nil pass0 (pa_cons (pv 1) pa_nil)))) (pw_or1 (pt_cmpR (op_notInT hu65) (pv 1) (pe_fld (pv 0) rfl) (by rfl))))) (pss_one ps_never) pss_nil)
      (pss_one (ps_ret (pe_dget hu (pe_fld (pv 0) rfl) (pv 1) (fun _ _ => rfl))))), ?_⟩
  obtain ⟨p, ss, n, b, pl, s, r, rfl, ⟨dx, t, a, q, kvs, bs, vs, S⟩, eb, hr0, hq⟩ := hsp
  have e1 := S.ins
  have e2 := S.pls
  have e3 := S.tab
  obtain ⟨v, h1, h2⟩ := S.val _ _ _ hr0
  have hk : ∃ b ∈ bs, b.2 = pl := (S.key pl).mpr (by rw [hr0]; rfl)
  walk_at "st"
  walk_at "rd"
  refine ⟨b, pl, rfl, eb, ?_⟩
  walk_at "rd"
  refine notIn_places eb e2 S.pl ?_
  walk_at "rd"
  exact hq _ h2
theorem cut_last (xs : List V) : cutV xs none (some (-1)) = xs.dropLast := by
  unfold cutV
  rw [HT.sIx_none xs.length 0]
  have : HT.sIx xs.length xs.length (some (-1)) = xs.length - 1 := by
    show (if ((-1 : Int) < 0) then ((-1 : Int) + (xs.length : Int)).toNat else min (-1 : Int).toNat xs.length) = _
    rw [if_pos (by decide)]; omega
  rw [this, List.dropLast_eq_take, List.drop_zero, Nat.sub_zero]
theorem cut_last2 (xs : List V) : cutV xs none (some (-2)) = xs.dropLast.dropLast := by
  unfold cutV
  rw [HT.sIx_none xs.length 0]
  have : HT.sIx xs.length xs.length (some (-2)) = xs.length - 2 := by
    show (if ((-2 : Int) < 0) then ((-2 : Int) + (xs.length : Int)).toNat else min (-2 : Int).toNat xs.length) = _
    rw [if_pos (by decide)]; omega
  rw [this, List.dropLast_eq_take, List.dropLast_eq_take, List.length_take, List.take_take, List.drop_zero]
  congr 1; omega
theorem at_last {pl : List Int} (h : pl ≠ []) : atI (pl.map V.int) (-1) = some (.int (pl.getLastD 0)) := by
  have hl : 0 < pl.length := List.length_pos_iff.mpr h
  have : ixN (pl.map V.int).length (-1) = some (pl.length - 1) := by
    unfold ixN
    rw [if_neg (by decide), List.length_map, if_pos (by omega)]
    congr 1; omega
  unfold atI
  rw [this]
  show (pl.map V.int)[pl.length - 1]? = _
  rw [List.getElem?_map, List.getElem?_eq_getElem (by omega)]
  simp [List.getLastD_eq_getLast?, List.getLast?_eq_getElem?, List.getElem?_eq_getElem (show pl.length - 1 < pl.length by omega)]
/-- the length of a place -/
theorem restAt_length : ∀ {pl : List Int} {ss r : List Sm}, restAt ss pl = some r → pl ≠ [] := by
  intro pl ss r h e
  subst e
  unfold restAt at h; cases h
def sp_Script_follow (K : PySem.W.Frag) : Sp := fun vs H Q E => ∃ p ss n b pl s r, vs = [.ref p, .ref b] ∧ ScriptAt K H p ss n ∧ H b = some (.tup (pl.map V.int)) ∧ restAt ss pl = some (s :: r) ∧
  (∀ H', Same H H' → r = [] → Q .non H') ∧ (∀ H' b' pl', Same H H' → H' b' = some (.tup (pl'.map V.int)) → restAt ss pl' = some r → Q (.ref b') H')
theorem len_Script_follow (K : PySem.W.Frag) : ∀ (vs : List V) (H : Hp) (Q : VK) (E : XK), sp_Script_follow K vs H Q E → vs.length = 2 := by
  rintro vs H Q E ⟨_, _, _, _, _, _, _, rfl, _⟩
  rfl
theorem ok_Script_follow (T : Txt K mg) : CallF P w K mg base 1 (He.ma K (He.ga K "Script") "follow") ["self", "place"] (sp_Script_follow K) := by
  obtain ⟨fd, F⟩ := T.d_Script_follow
  refine ⟨fd, F.ok csScript_follow (len_Script_follow K) (fun cdv A outer s H vs Q E hr hsp => ?_), F.bindsN (fun _ _ _ _ _ _ us hl => match us, hl with | [_, _], _ => rfl), F.kp⟩
  have hu := hu_of hr
  have hu65 : (A.deeper (envOfC "Script.follow" (defScope sScript_follow) s.heap.objs.size (He.ma K (He.ga K "Script") "follow") cdv)).units + 65 < cLine := by have := hr.un; omega
  have hu0 := hr.units0
  refine ⟨_, PSs.nox (pss_one (ps_while PassesOwn.never (pt_val pe_bl) (pss_cons (ps_set (i := 2) csScript_follow.nd rfl (Or.inl rfl) (pe_op op_catA (pe_slice sl_tupA (pv 1) po_none (po_some (pe_un un_neg pe_int))) (pe_tup (pa_cons (pe_op op_add (pe_ix ix_tup (pv 1) (pe_un un_neg pe_int) (fun _ _ => rfl)) pe_int) pa_nil))))
      (pss_cons (ps_if (pt_cmpR (op_inT hu65) (pv 2) (pe_fld (pv 0) rfl) (by rfl)) (pss_one (ps_ret (pv 2))) pss_nil)
      (pss_cons (ps_if (pt_cmpR op_eq (pe_callB call_lenN (by rfl) T.f_len (by decide +kernel) (pa_cons (pv 1) pa_nil)) pe_int (nomark _)) (pss_one (ps_ret pe_non)) pss_nil)
      (pss_one (ps_set (i := 1) csScript_follow.nd rfl (Or.inl rfl) (pe_slice sl_tupA (pv 1) po_none (po_some (pe_un un_neg pe_int)))))))))), ?_⟩
  obtain ⟨p, ss, n, b, pl, s, r, rfl, ⟨dx, t, a, q, kvs, bs, vs, S⟩, eb, hr0, hq1, hq2⟩ := hsp
  have hl := S.sh hr0
  walk_at "st"
  refine w_while (m0 := pl.length) (fun m σ H' => ∃ c cur o s', m = cur.length ∧ σ = [some (.ref p), some (.ref c), o] ∧ Same H H' ∧ H' c = some (.tup (cur.map V.int)) ∧ cur.length ≤ pl.length ∧ restAt ss cur = some (s' :: r))
    ⟨b, pl, none, s, rfl, rfl, Same.refl H, eb, Nat.le_refl _, hr0⟩ ?_ (fun σ H R R' m h => by obtain ⟨c, e, h⟩ := h; exact ⟨c, e, m _ _ h⟩)
  rintro m σ H' ⟨c, cur, o, s', rfl, rfl, hs, ec, hl2, hr⟩
  have hne := restAt_length hr
  have e1 := hs _ _ S.ins
  have e2 := hs _ _ S.pls
  have e3 : ∀ b ∈ bs, H' b.1 = some (.tup (b.2.map V.int)) := fun b hb => hs _ _ (S.pl b hb)
  have el := at_last hne
  walk_at "rd"
  rename_i p1 H1 hs1 hp1 p2 H2 hn2 hs2 hp2 he2
  rw [cut_last, ← List.map_dropLast] at hp1
  have ebs : ∀ p H3, Same H2 H3 → H3 p = some (.tup (cur.dropLast.map V.int ++ [V.int (cur.getLastD 0 + 1)])) → H3 p = some (.tup ((beside cur).map V.int)) := fun p H3 _ h => by rw [h]; simp [beside]
  have hlb : (beside cur).length = cur.length := by
    have : 0 < cur.length := List.length_pos_iff.mpr hne
    simp [beside]; omega
  refine w_catA (hs2 _ _ hp1) hp2 (small9 (by simp; omega)) fun p3 H3 hs3 hp3 => ?_
  replace hp3 := ebs _ _ hs3 hp3
  have hs' : Same H H3 := hs.trans (hs1.trans (hs2.trans hs3))
  have i1 := hs' _ _ S.ins
  have i2 := hs' _ _ S.pls
  have ec' := hs3 _ _ (hs2 _ _ (hs1 _ _ ec))
  walk_at "rd"
  refine in_places hp3 (hs' _ _ S.pls) (fun b hb => hs' _ _ (S.pl b hb)) ?_
  walk_at "rd"
  refine w_ite (fun hin => ?_) (fun hin => ?_)
  · walk_at "rd"
    have h1 := (S.key _).mp hin
    obtain ⟨r2, h2⟩ := Option.isSome_iff_exists.mp h1
    have := up_beside hr h2
    subst this
    exact hq2 _ _ _ hs' hp3 h2
  · have h1 : restAt ss (beside cur) = none := by
      cases e : restAt ss (beside cur) with
      | none => rfl
      | some r2 => exact absurd ((S.key _).mpr (by rw [e]; rfl)) hin
    walk_at "rd"
    refine w_ite (fun h1l => ?_) (fun h1l => ?_)
    · walk_at "rd"
      refine hq1 _ hs' ?_
      have hc1 : cur.length = 1 := by rw [List.length_map] at h1l; omega
      obtain ⟨i, rfl⟩ := List.length_eq_one_iff.mp hc1
      exact up_end hr h1
    · have hc1 : cur.length ≠ 1 := by rw [List.length_map] at h1l; omega
      obtain ⟨l3, s2, h2⟩ := up_out hr h1 hc1
      walk_at "rd"
      rename_i p4 H4 hs4 hp4
      rw [cut_last2, ← List.map_dropLast, ← List.map_dropLast] at hp4
      exact ⟨cur.dropLast.dropLast.length, by simp; omega, p4, _, _, s2, rfl, rfl, hs'.trans hs4, hp4, by simp; omega, h2⟩
theorem Ds.head {H : Hp} {v : V} {s : Sm} (d : Ds H v s) : ∃ a xs, v = .ref a ∧ H a = some (.tup (.str s.word :: xs)) := by
  cases d with
  | one h e => cases s <;> first | exact ⟨_, _, rfl, e⟩ | cases h
  | choose e _ _ _ _ => exact ⟨_, _, rfl, e⟩
theorem Sm.next_plain {s : Sm} {a : Int} {r : List Sm} (h1 : ¬ s.word = "leave") (h2 : ¬ s.word = "choose") : s.next a r = r := by
  cases s <;> first | rfl | exact absurd rfl h1 | exact absurd rfl h2
theorem word_leave {s : Sm} (h : s.word = "leave") : s = .leave := by
  cases s <;> first | rfl | exact absurd h (by dsimp only [Sm.word]; decide +kernel)
theorem word_choose {s : Sm} (h : s.word = "choose") : ∃ y n, s = .choose y n := by
  cases s <;> first | exact ⟨_, _, rfl⟩ | exact absurd h (by dsimp only [Sm.word]; decide +kernel)
theorem Ds.ch {H : Hp} {v : V} {y n : List Sm} (d : Ds H v (.choose y n)) : ∃ a ya na ys ns, v = .ref a ∧ H a = some (.tup [.str "choose", .ref ya, .ref na]) ∧ H ya = some (.tup ys) ∧ DsAll H ys y ∧ H na = some (.tup ns) ∧ DsAll H ns n := by
  cases d with
  | one h e => cases h
  | choose e ey dy en dn => exact ⟨_, _, _, _, _, rfl, e, ey, dy, en, dn⟩
/-- what an answer may be -/
def Sm.ans (s : Sm) (a : Int) : Prop := a = 0 ∨ a = 1 ∧ s.word = "choose"
def sp_Script_after (K : PySem.W.Frag) : Sp := fun vs H Q E => ∃ p ss n b pl s r a, vs = [.ref p, .ref b, .int a] ∧ ScriptAt K H p ss n ∧ H b = some (.tup (pl.map V.int)) ∧ restAt ss pl = some (s :: r) ∧ s.ans a ∧
  (∀ H', Same H H' → s.next a r = [] → Q .non H') ∧ (∀ H' b' pl', Same H H' → H' b' = some (.tup (pl'.map V.int)) → restAt ss pl' = some (s.next a r) → Q (.ref b') H')
theorem len_Script_after (K : PySem.W.Frag) : ∀ (vs : List V) (H : Hp) (Q : VK) (E : XK), sp_Script_after K vs H Q E → vs.length = 3 := by
  rintro vs H Q E ⟨_, _, _, _, _, _, _, _, rfl, _⟩
  rfl
theorem ok_Script_after (T : Txt K mg) : CallF P w K mg base 5 (He.ma K (He.ga K "Script") "after") ["self", "place", "answer"] (sp_Script_after K) := by
  obtain ⟨fd, F⟩ := T.d_Script_after
  obtain ⟨fd_Script_follow, G_Script_follow, b_Script_follow, k_Script_follow⟩ := ok_Script_follow (P := P) (w := w) (base := base) T
  obtain ⟨fd_is_integer, G_is_integer, b_is_integer, k_is_integer⟩ := ok_is_integer (P := P) (w := w) (base := base) T
  obtain ⟨fd_Script___getitem__, G_Script___getitem__, b_Script___getitem__, k_Script___getitem__⟩ := ok_Script___getitem__ (P := P) (w := w) (base := base) T
  refine ⟨fd, F.ok csScript_after (len_Script_after K) (fun cdv A outer s H vs Q E hr hsp => ?_), (by obtain ⟨ds, hv, hb⟩ := F.binds1 (ps := ["self", "place", "answer"]) 3 1 (by simp) rfl (fun _ _ _ _ _ _ _ us its h1 h2 => match us, its, h1, h2 with | [_, _, _], [_], _, _ => ⟨_, rfl, rfl⟩); cases hv; exact hb), F.kp⟩
  have hu := hu_of hr
  have hu65 : (A.deeper (envOfC "Script.after" (defScope sScript_after) s.heap.objs.size (He.ma K (He.ga K "Script") "after") cdv)).units + 65 < cLine := by have := hr.un; omega
  have hu0 := hr.units0
  refine ⟨_, PSs.nox (pss_cons (ps_set (i := 3) csScript_after.nd rfl (Or.inl rfl) (pe_ix ix_tup (pe_ixO (pv 0) (pv 1) T.o_Script G_Script___getitem__ (hr.mono (by decide)) b_Script___getitem__ pass0) pe_int (fun _ _ => rfl)))
      (pss_cons (ps_if (PW.pt (pw_or (pt_not (pt_val (pe_call G_is_integer (hr.mono (by decide)) (by rfl) T.g_is_integer k_is_integer b_is_integer .nil pass0 (pa_cons (pv 2) pa_nil)))) (pw_or (pt_cmpR op_lt (pv 2) pe_int (nomark _)) (pw_or1 (pt_cmpR op_gt (pv 2) (pe_callTy call_intN (by rfl) T.f_int (by decide +kernel) (pa_cons (pe_cmpR op_eq (pv 3) pe_str (nomark _)) pa_nil)) (nomark _)))))) (pss_one ps_never) pss_nil)
      (pss_cons (ps_if (pt_cmpR op_eq (pv 3) pe_str (nomark _)) (pss_one (ps_ret pe_non)) pss_nil)
      (pss_cons (ps_if (PW.pt (pw_and (pt_cmpR op_eq (pv 3) pe_str (nomark _)) (pw_and1 (pt_cmpR op_gt (pe_callB call_lenN (by rfl) T.f_len (by decide +kernel) (pa_cons (pe_ix ix_tup (pe_dget hu (pe_fld (pv 0) rfl) (pv 1) (fun _ _ => rfl)) (pe_op op_add pe_int (pv 2)) (fun _ _ => rfl)) pa_nil)) pe_int (nomark _))))) (pss_one (ps_ret (pe_op op_catA (pv 1) (pe_tup (pa_cons (pv 2) (pa_cons pe_int pa_nil)))))) pss_nil)
      (pss_one (ps_ret (pe_meth (pv 0) T.c_Script T.m_Script_follow G_Script_follow (hr.mono (by decide)) b_Script_follow .nil pass0 (pa_cons (pv 1) pa_nil)))))))), ?_⟩
  obtain ⟨p, ss, n, b, pl, s, r, a, rfl, SA, eb, hr0, ha, hq1, hq2⟩ := hsp
  obtain ⟨dx, t, st, q, kvs, bs, vs, S⟩ := id SA
  have e1 := S.ins
  have e3 := S.tab
  have hl := S.sh hr0
  obtain ⟨v, hv, dv⟩ := S.val _ _ _ hr0
  have hans : a = 0 ∨ a = 1 := ha.elim .inl fun h => .inr h.1
  walk_at "st"
  walk_at "rd"
  refine ⟨p, ss, n, b, pl, s, r, rfl, SA, eb, hr0, fun v2 d2 => ?_⟩
  obtain ⟨a2, xs2, rfl, ea2⟩ := d2.head
  walk_at "rd"
  refine u_int ?_
  walk_at "rd"
  by_cases hlv : s.word = "leave"
  · have := word_leave hlv
    subst this
    have h0 : a = 0 := ha.elim id fun h => absurd h.2 (by decide +kernel)
    subst h0
    walk_at "rd"
    refine hq1 _ (Same.refl H) rfl
  · by_cases hch : s.word = "choose"
    · obtain ⟨y, nn, rfl⟩ := word_choose hch
      have hle : ¬ a < 0 := by omega
      have hle2 : ¬ (if decide ((Sm.choose y nn).word = "choose") = true then 1 else 0) < a := by
        rw [if_pos (by simp [hch])]; omega
      refine w_itef hle2 ?_
      walk_at "rd"
      obtain ⟨va, ya, na, ys, ns, rfl, ea, ey, dy, en, dn⟩ := dv.ch
      obtain ⟨br, xs, sx, eb2, d2, hsx, hat⟩ : ∃ br xs sx, H br = some (.tup xs) ∧ DsAll H xs sx ∧ (if a = 0 then y else nn) = sx ∧ atI [V.str "choose", .ref ya, .ref na] (1 + a) = some (.ref br) := by
        rcases hans with rfl | rfl
        · exact ⟨ya, ys, y, ey, dy, rfl, rfl⟩
        · exact ⟨na, ns, nn, en, dn, rfl, rfl⟩
      have hxl := d2.length
      have hnx : (Sm.choose y nn).next a r = sx ++ r := by rw [← hsx]; rfl
      walk_at "rd"
      refine w_ite (fun hp => ?_) (fun hp => ?_)
      · walk_at "rd"
        rename_i p1 H1 hn1 hs1 hp1 he1 p3 H3 hs3 hp3
        refine hq2 H3 p3 (pl ++ [a, 0]) (hs1.trans hs3) (by rw [hp3]; simp) ?_
        have hne : (if a = 0 then y else nn) ≠ [] := by
          rw [hsx]; rintro rfl
          rw [List.length_nil] at hxl
          rw [hxl] at hp; simp at hp
        rw [down hr0 hans hne, hnx, hsx]
      · have hx0 : sx = [] := by
          have : xs.length = 0 := by omega
          exact List.length_eq_zero_iff.mp (by omega)
        walk_at "rd"
        refine ⟨p, ss, n, b, pl, _, r, rfl, SA, eb, hr0, fun H' hs e => ?_, fun H' b' pl' hs e e2 => ?_⟩
        · exact hq1 H' hs (by rw [hnx, hx0]; exact e)
        · exact hq2 H' b' pl' hs e (by rw [hnx, hx0]; exact e2)
    · have h0 : a = 0 := ha.elim id fun h => absurd h.2 hch
      subst h0
      walk_at "rd"
      refine ⟨p, ss, n, b, pl, s, r, rfl, SA, eb, hr0, fun H' hs e => ?_, fun H' b' pl' hs e e2 => ?_⟩
      · exact hq1 H' hs (by rw [Sm.next_plain hlv hch]; exact e)
      · exact hq2 H' b' pl' hs e (by rw [Sm.next_plain hlv hch]; exact e2)
theorem nd_inj {α β : Type} {f : α → β} : ∀ {ps : List α} {c b : α}, (ps.map f).Nodup → c ∈ ps → b ∈ ps → f c = f b → c = b
  | [], _, _, _, h, _, _ => by cases h
  | p :: ps, c, b, nd, hc, hb, e => by
    rw [List.map_cons, List.nodup_cons] at nd
    rcases List.mem_cons.mp hc with h1 | h1 <;> rcases List.mem_cons.mp hb with h2 | h2
    · rw [h1, h2]
    · exact absurd (List.mem_map.mpr ⟨b, h2, by rw [← h1]; exact e.symm⟩) nd.1
    · exact absurd (List.mem_map.mpr ⟨c, h1, by rw [← h2]; exact e⟩) nd.1
    · exact nd_inj nd.2 h1 h2 e
def sp_System___getitem__ (K : PySem.W.Frag) : Sp := fun vs H Q E => ∃ p ks ahead window crashes k, vs = [.ref p, .str k.name] ∧ SysAt K H p ks ahead window crashes ∧ k ∈ ks ∧ (∀ a, KindAt K H a k → Q (.ref a) H)
theorem len_System___getitem__ (K : PySem.W.Frag) : ∀ (vs : List V) (H : Hp) (Q : VK) (E : XK), sp_System___getitem__ K vs H Q E → vs.length = 2 := by
  rintro vs H Q E ⟨_, _, _, _, _, _, rfl, _⟩
  rfl
theorem ok_System___getitem__ (T : Txt K mg) : CallF P w K mg base 1 (He.ma K (He.ga K "System") "__getitem__") ["self", "name"] (sp_System___getitem__ K) := by
  obtain ⟨fd, F⟩ := T.d_System___getitem__
  refine ⟨fd, F.ok csSystem___getitem__ (len_System___getitem__ K) (fun cdv A outer s H vs Q E hr hsp => ?_), F.bindsN (fun _ _ _ _ _ _ us hl => match us, hl with | [_, _], _ => rfl), F.kp⟩
  have hu := hu_of hr
  have hu65 : (A.deeper (envOfC "System.__getitem__" (defScope sSystem___getitem__) s.heap.objs.size (He.ma K (He.ga K "System") "__getitem__") cdv)).units + 65 < cLine := by have := hr.un; omega
  have hu0 := hr.units0
  refine ⟨_, PSs.nox (pss_cons (ps_if (pt_val (pe_callB call_isi (by rfl) T.f_isinstance (by decide +kernel) (pa_cons (pv 1) (pa_cons (pe_bltn (v := .ty "str") (by rfl) T.f_str (by decide +kernel) rfl) pa_nil)))) (pss_one (ps_for PassesOwn.never rfl (pi_tup (pe_fld (pv 0) rfl)) (pg_name (i := 2) csSystem___getitem__.nd rfl (Or.inl rfl)) (pss_one (ps_if (pt_cmpR op_eq (pe_fld (pv 2) rfl) (pv 1) (nomark _)) (pss_one (ps_ret (pv 2))) pss_nil)))) pss_nil)
      (pss_one ps_never)), ?_⟩
  obtain ⟨p, ks, ahead, window, crashes, k, rfl, ⟨ps, dx, kt, st, S, rfl⟩, hk, hq⟩ := hsp
  obtain ⟨b0, hb0, rfl⟩ := List.mem_map.mp hk
  have e1 := S.ins
  have e2 := S.kt
  walk_at "st"
  walk_at "rd"
  refine forT (ys := ps) (val := fun b => .ref b.1) (fun pre σ H' => H' = H ∧ (∃ o, σ = [some (.ref p), some (.str b0.2.name), o]) ∧ ∀ b ∈ pre, b ≠ b0) ⟨rfl, ⟨_, rfl⟩, by simp⟩ (fun pre σ H' h => by rw [h.1]; exact e2) ?_ ?_
  · rintro pre c post σ H' he ⟨rfl, ⟨o, rfl⟩, hpre⟩
    obtain ⟨dx2, sc, ec, _⟩ := S.ks c (by rw [he]; simp)
    walk_at "rd"
    refine w_ite (fun hn => ?_) (fun hn => ?_)
    · walk_at "rd"
      have : c = b0 :=
         nd_inj (f := fun b : Addr × Kd => b.2.name) S.nd (by rw [he]; simp) hb0 hn
      subst this
      exact hq _ (S.ks _ hb0)
    · walk_at "rd"
      exact ⟨rfl, ⟨_, rfl⟩, fun b hb => by
        rcases List.mem_append.mp hb with h | h
        · exact hpre b h
        · rw [List.mem_singleton.mp h]; rintro rfl; exact hn rfl⟩
  · rintro σ H' ⟨rfl, _, h⟩
    exact absurd rfl (h b0 hb0)
def sp_System_kind_of (K : PySem.W.Frag) : Sp := fun vs H Q E => ∃ p ks ahead window crashes i k, vs = [.ref p, .int (i : Nat)] ∧ SysAt K H p ks ahead window crashes ∧ (sess ks)[i]? = some k ∧ (∀ a, KindAt K H a k → Q (.ref a) H)
theorem sess_mem {ks : List Kd} {k : Kd} (h : k ∈ sess ks) : k ∈ ks := by
  obtain ⟨k2, h1, h2⟩ := List.mem_flatMap.mp h
  rw [(List.mem_replicate.mp h2).2]; exact h1
theorem len_System_kind_of (K : PySem.W.Frag) : ∀ (vs : List V) (H : Hp) (Q : VK) (E : XK), sp_System_kind_of K vs H Q E → vs.length = 2 := by
  rintro vs H Q E ⟨_, _, _, _, _, _, _, rfl, _⟩
  rfl
theorem ok_System_kind_of (T : Txt K mg) : CallF P w K mg base 3 (He.ma K (He.ga K "System") "kind_of") ["self", "session"] (sp_System_kind_of K) := by
  obtain ⟨fd, F⟩ := T.d_System_kind_of
  obtain ⟨fd_System___getitem__, G_System___getitem__, b_System___getitem__, k_System___getitem__⟩ := ok_System___getitem__ (P := P) (w := w) (base := base) T
  obtain ⟨fd_within, G_within, b_within, k_within⟩ := ok_within (P := P) (w := w) (base := base) T
  refine ⟨fd, F.ok csSystem_kind_of (len_System_kind_of K) (fun cdv A outer s H vs Q E hr hsp => ?_), F.bindsN (fun _ _ _ _ _ _ us hl => match us, hl with | [_, _], _ => rfl), F.kp⟩
  have hu := hu_of hr
  have hu65 : (A.deeper (envOfC "System.kind_of" (defScope sSystem_kind_of) s.heap.objs.size (He.ma K (He.ga K "System") "kind_of") cdv)).units + 65 < cLine := by have := hr.un; omega
  have hu0 := hr.units0
  refine ⟨_, PSs.nox (pss_cons (ps_if (pt_not (pt_val (pe_call G_within (hr.mono (by decide)) (by rfl) T.g_within k_within b_within .nil pass0 (pa_cons (pv 1) (pa_cons pe_int (pa_cons (pe_op op_sub (pe_callB call_lenN (by rfl) T.f_len (by decide +kernel) (pa_cons (pe_fld (pv 0) rfl) pa_nil)) pe_int) pa_nil)))))) (pss_one ps_never) pss_nil)
      (pss_one (ps_ret (pe_ixO (pv 0) (pe_ix ix_tup (pe_fld (pv 0) rfl) (pv 1) (fun _ _ => rfl)) T.o_System G_System___getitem__ (hr.mono (by decide)) b_System___getitem__ pass0)))), ?_⟩
  obtain ⟨p, ks, ahead, window, crashes, i, k, rfl, ⟨ps, dx, kt, st, S, rfl⟩, hk, hq⟩ := hsp
  have e1 := S.ins
  have e2 := S.st
  have hl : i < (sess (ps.map (·.2))).length := by
    rcases Nat.lt_or_ge i (sess (ps.map (·.2))).length with c | c
    · exact c
    · rw [List.getElem?_eq_none c] at hk; cases hk
  walk_at "st"
  walk_at "rd"
  refine u_within ?_ ?_
  · simp only [List.length_map]
    omega
  walk_at "rd"
  have hat : atI ((sess (ps.map (·.2))).map fun k => V.str k.name) (i : Nat) = some (.str k.name) := at_nat (n := i) (by rw [List.getElem?_map, hk]; rfl) rfl
  walk_at "rd"
  exact ⟨p, ps.map (·.2), ahead, window, crashes, k, rfl, ⟨ps, dx, kt, st, S, rfl⟩, sess_mem (List.mem_of_getElem? hk), hq⟩
end
theorem kit_self {K : PySem.W.Frag} {C : Addr} : PySem.W.kitOne K (.ref C) (.ref C) = some true := by
  unfold PySem.W.kitOne
  exact if_pos (beq_self_eq_true _)
theorem isi_kind {K : PySem.W.Frag} {mg : Str → Option Value} {H : Hp} {a dx : Addr} {fs : List (Str × V)} {Q : VK} (T : Txt K mg) (e : H a = some (.ins (He.ga K "Kind") dx fs)) (h : Q (.bl true) H) : rIsi K [.ref a, .ref (He.ga K "Kind")] H Q :=
  ⟨_, _, .ref (He.ga K "Kind"), .ref (He.ga K "Kind"), true, rfl, .own _, .base (.ins e T.c_Kind T.q_cls T.q_get T.q_tk T.q_mro), kit_self, h⟩
theorem isi_script {K : PySem.W.Frag} {mg : Str → Option Value} {H : Hp} {a : Addr} {xs : List V} {Q : VK} (T : Txt K mg) (e : H a = some (.tup xs)) (h : Q (.bl false) H) : rIsi K [.ref a, .ref (He.ga K "Script")] H Q :=
  ⟨_, _, .type "tuple", .ref (He.ga K "Script"), false, rfl, .own _, .base (.tup e), T.q_tup, h⟩
theorem inV_strs (x : Str) (ys : List Str) : inV (.str x) (ys.map V.str) = decide (x ∈ ys) := by
  induction ys with
  | nil => simp [inV]
  | cons y ys ih =>
    unfold inV at ih ⊢
    rw [List.map_cons, List.any_cons, ih]
    show ((y == x) || _) = _
    by_cases h : y = x
    · subst h; simp
    · rw [beq_eq_false_iff_ne.mpr h, Bool.false_or, Bool.eq_iff_iff]
      have : ¬ x = y := fun e => h e.symm
      simp [this]
theorem in_strs {K : PySem.W.Frag} {H : Hp} {p : Addr} {x : Str} {ys : List Str} {Q : VK} (e : H p = some (.lst (ys.map V.str))) (h : Q (.bl (decide (x ∈ ys))) H) : rIn K false (.str x) (.ref p) H Q :=
  ⟨p, ys.map V.str, rfl, .inl (sqL e), rfl, by simp [List.all_map, Function.comp_def, flatV], by simpa [inV_strs] using h⟩
theorem notIn_strs {K : PySem.W.Frag} {H : Hp} {p : Addr} {x : Str} {ys : List Str} {Q : VK} (e : H p = some (.lst (ys.map V.str))) (h : Q (.bl (!decide (x ∈ ys))) H) : rIn K true (.str x) (.ref p) H Q :=
  ⟨p, ys.map V.str, rfl, .inl (sqL e), rfl, by simp [List.all_map, Function.comp_def, flatV], by simpa [inV_strs] using h⟩
/-- a new object may be written -/
theorem same_put {H H' : Hp} {p : Addr} {o : HO} (e : Same H H') (n : H p = none) : Same H (upd H' p o) := fun b u h => by
  rw [upd_ne (ne_of_none h n)]; exact e b u h
structure Fit (ks : List Kd) (ahead : Int) (window : Option Int) (crashes : Int) : Prop where
  ne : ks ≠ []
  len : ks.length ≤ 2
  nd : (ks.map (·.name)).Nodup
  many : ∀ k ∈ ks, 1 ≤ k.many
  tot : (ks.map (·.many)).sum ≤ 3
  short : (ks.map (·.many)).sum = 3 → ∀ k ∈ ks, k.n ≤ 4
  small : ∀ k ∈ ks, k.n ≤ 8
  ah : 0 ≤ ahead ∧ ahead ≤ 4
  cr : 0 ≤ crashes ∧ crashes ≤ 2
  win : ∀ w, window = some w → 1 ≤ w ∧ w ≤ 8 ∧ ∀ k ∈ ks, k.block ≤ w
theorem sum_pre {ks pre post : List Kd} {k : Kd} (h : ks = pre ++ k :: post) (hm : ∀ k ∈ ks, 1 ≤ k.many) : (pre.map (·.many)).sum + k.many ≤ (ks.map (·.many)).sum := by
  have h2 : ∀ l : List Kd, (∀ k ∈ l, 1 ≤ k.many) → 0 ≤ (l.map (·.many)).sum := by
    intro l
    induction l with
    | nil => intro _; simp
    | cons a l ih => intro h; have := ih fun k hk => h k (by simp [hk]); have := h a (by simp); simp only [List.map_cons, List.sum_cons]; omega
  have h3 := h2 post fun k hk => hm k (by rw [h]; simp [hk])
  rw [h]
  simp only [List.map_append, List.sum_append, List.map_cons, List.sum_cons]
  omega
section
variable {P : Program} {w : World} {K : PySem.W.Frag} {mg : Str → Option Value} {base : Heap}
def sp_kinds_fault (K : PySem.W.Frag) : Sp := fun vs H Q E => ∃ kt ps ahead window crashes, vs = [.ref kt] ∧ H kt = some (.tup (List.map (fun b : Addr × Kd => V.ref b.1) ps)) ∧ KindsAt K H ps ∧ Fit (ps.map (·.2)) ahead window crashes ∧ (∀ H', Same H H' → Q .non H')
theorem len_kinds_fault (K : PySem.W.Frag) : ∀ (vs : List V) (H : Hp) (Q : VK) (E : XK), sp_kinds_fault K vs H Q E → vs.length = 1 := by
  rintro vs H Q E ⟨_, _, _, _, _, rfl, _⟩
  rfl
theorem ok_kinds_fault (T : Txt K mg) : CallF P w K mg base 3 (He.ga K "kinds_fault") ["kinds"] (sp_kinds_fault K) := by
  obtain ⟨fd, F⟩ := T.d_kinds_fault
  obtain ⟨fd_Script___len__, G_Script___len__, b_Script___len__, k_Script___len__⟩ := ok_Script___len__ (P := P) (w := w) (base := base) T
  refine ⟨fd, F.ok cskinds_fault (len_kinds_fault K) (fun cdv A outer s H vs Q E hr hsp => ?_), F.bindsN (fun _ _ _ _ _ _ us hl => match us, hl with | [_], _ => rfl), F.kp⟩
  have hu := hu_of hr
  have hu65 : (A.deeper (envOfC "kinds_fault" (defScope skinds_fault) s.heap.objs.size (He.ga K "kinds_fault") cdv)).units + 65 < cLine := by have := hr.un; omega
  have hu0 := hr.units0
  obtain ⟨_, i_MOST_SESSIONS⟩ := T.i_MOST_SESSIONS
  obtain ⟨_, i_SHORT_SCRIPT⟩ := T.i_SHORT_SCRIPT
  refine ⟨_, PSs.nox (pss_cons (ps_if (pt_cmpR op_eq (pe_callB call_lenN (by rfl) T.f_len (by decide +kernel) (pa_cons (pv 0) pa_nil)) pe_int (nomark _)) (pss_one (ps_ret pe_str)) pss_nil)
      (pss_cons (ps_set (i := 1) cskinds_fault.nd rfl (Or.inl rfl) (pe_lst pa_nil))
      (pss_cons (ps_set (i := 2) cskinds_fault.nd rfl (Or.inl rfl) pe_int)
      (pss_cons (ps_for PassesOwn.never rfl (pi_tup (pv 0)) (pg_name (i := 3) cskinds_fault.nd rfl (Or.inl rfl)) (pss_cons (ps_if (PW.pt (pw_or (pt_not (pt_val (pe_callB call_isi (by rfl) T.f_isinstance (by decide +kernel) (pa_cons (pv 3) (pa_cons (pe_glob (v := .ref (He.ga K "Kind")) rfl T.g_Kind rfl) pa_nil))))) (pw_or1 (pt_cmpR op_in_seq (pe_fld (pv 3) rfl) (pv 1) (by rfl))))) (pss_one (ps_ret pe_str)) pss_nil)
      (pss_cons (ps_expr (pe_bm PySem.F.plainAttrs_list PySem.F.slot_list_append PySem.F.type_list_append mt_append (pv 1) (pa_cons (pe_fld (pv 3) rfl) pa_nil)))
      (pss_one (ps_aug (i := 2) cskinds_fault.nd rfl (.inl rfl) (pe_fld (pv 3) rfl) ip_add)))))
      (pss_cons (ps_if (pt_cmpR op_gt (pv 2) (pe_glob (v := .int 3) rfl i_MOST_SESSIONS ⟨_, rfl⟩) (nomark _)) (pss_one (ps_ret pe_str)) pss_nil)
      (pss_cons (ps_if (pt_cmpR op_eq (pv 2) (pe_glob (v := .int 3) rfl i_MOST_SESSIONS ⟨_, rfl⟩) (nomark _)) (pss_one (ps_for PassesOwn.never rfl (pi_tup (pv 0)) (pg_name (i := 3) cskinds_fault.nd rfl (Or.inl rfl)) (pss_one (ps_if (pt_cmpR op_gt (pe_callB (call_lenO T.m_Script___len__ G_Script___len__ (hr.mono (by decide)) b_Script___len__ pass0) (by rfl) T.f_len (by decide +kernel) (pa_cons (pe_fld (pv 3) rfl) pa_nil)) (pe_glob (v := .int 4) rfl i_SHORT_SCRIPT ⟨_, rfl⟩) (nomark _)) (pss_one (ps_ret pe_str)) pss_nil)))) pss_nil)
      (pss_one (ps_ret pe_non)))))))), ?_⟩
  obtain ⟨kt, ps, ahead, window, crashes, rfl, ek, KA, F, hq⟩ := hsp
  have hne : ps ≠ [] := by rintro rfl; exact F.ne rfl
  have hl : ps.length ≤ 2 := by have := F.len; simpa using this
  have hl0 : 0 < ps.length := List.length_pos_iff.mpr hne
  walk_at "st"
  walk_at "rd"
  refine w_itef (by rw [List.length_map]; omega) ?_
  walk_at "rd"
  rename_i D H1 hn0 hs hD he
  refine forT (ys := ps) (val := fun b => .ref b.1) (fun pre σ H' => Same H H' ∧ H' D = some (.lst ((pre.map fun b => b.2.name).map V.str)) ∧ ∃ o, σ = [some (.ref kt), some (.ref D), some (.int ((pre.map fun b => b.2.many).sum)), o]) ⟨hs, hD, _, rfl⟩ (fun pre σ H' h => h.1 _ _ ek) ?_ ?_
  · rintro pre c post σ H' hy ⟨hs', hD', o, rfl⟩
    obtain ⟨dx, sc, ec, _⟩ := (KA c (by rw [hy]; simp)).mono hs'
    have hnn : ¬ c.2.name ∈ pre.map fun b => b.2.name := by
      have := F.nd
      rw [hy] at this
      simp only [List.map_append, List.map_cons, List.map_map] at this
      have := (List.nodup_append.mp this).2.2
      intro hm
      exact this _ hm _ (by simp) rfl
    walk_at "rd"
    refine isi_kind T ec ?_
    walk_at "rd"
    refine in_strs hD' ?_
    walk_at "rd"
    have hpl : pre.length ≤ 2 := by rw [hy] at hl; simp at hl; omega
    walk_at "rd"
    exact ⟨same_put hs' hn0, by rw [upd_same]; simp, some (.ref c.1), by simp⟩
  · rintro σ H' ⟨hs', hD', o, rfl⟩
    have ek' := hs' _ _ ek
    have htot : (ps.map fun b => b.2.many).sum ≤ 3 := by simpa [List.map_map, Function.comp_def] using F.tot
    walk_at "rd"
    refine w_ite (fun h3 => ?_) (fun h3 => ?_)
    · walk_at "rd"
      have hsh := F.short (by simpa [List.map_map, Function.comp_def] using h3)
      refine forT (ys := ps) (val := fun b => .ref b.1) (fun pre σ H2 => H2 = H' ∧ ∃ o, σ = [some (.ref kt), some (.ref D), some (.int ((ps.map fun b => b.2.many).sum)), o]) ⟨rfl, _, rfl⟩ (fun pre σ H2 h => by rw [h.1]; exact ek') ?_ ?_
      · rintro pre c post σ H2 hy ⟨rfl, o, rfl⟩
        have hc : c ∈ ps := by rw [hy]; simp
        obtain ⟨dx, sc, ec, hsc⟩ := (KA c hc).mono hs'
        obtain ⟨dx2, t2, a2, q2, kvs2, bs2, vs2, S2⟩ := id hsc
        have es := S2.ins
        have hn4 := hsh c.2 (List.mem_map.mpr ⟨c, hc, rfl⟩)
        walk_at "rd"
        refine ⟨sc, c.2.ss, c.2.n, rfl, hsc, c.2.n, rfl, by omega, ?_⟩
        walk_at "rd"
        exact ⟨rfl, _, rfl⟩
      · rintro σ H2 ⟨rfl, o, rfl⟩
        walk_at "rd"
        exact hq _ hs'
    · walk_at "rd"
      exact hq _ hs'
def sp_window_fits (K : PySem.W.Frag) : Sp := fun vs H Q E => ∃ kt ps ahead window crashes, vs = [oV window, .ref kt] ∧ H kt = some (.tup (List.map (fun b : Addr × Kd => V.ref b.1) ps)) ∧ KindsAt K H ps ∧ Fit (ps.map (·.2)) ahead window crashes ∧ Q (.bl true) H
theorem len_window_fits (K : PySem.W.Frag) : ∀ (vs : List V) (H : Hp) (Q : VK) (E : XK), sp_window_fits K vs H Q E → vs.length = 2 := by
  rintro vs H Q E ⟨_, _, _, _, _, rfl, _⟩
  rfl
theorem ok_window_fits (T : Txt K mg) : CallF P w K mg base 3 (He.ga K "window_fits") ["window", "kinds"] (sp_window_fits K) := by
  obtain ⟨fd, F⟩ := T.d_window_fits
  obtain ⟨fd_within, G_within, b_within, k_within⟩ := ok_within (P := P) (w := w) (base := base) T
  refine ⟨fd, F.ok cswindow_fits (len_window_fits K) (fun cdv A outer s H vs Q E hr hsp => ?_), F.bindsN (fun _ _ _ _ _ _ us hl => match us, hl with | [_, _], _ => rfl), F.kp⟩
  have hu := hu_of hr
  have hu65 : (A.deeper (envOfC "window_fits" (defScope swindow_fits) s.heap.objs.size (He.ga K "window_fits") cdv)).units + 65 < cLine := by have := hr.un; omega
  have hu0 := hr.units0
  refine ⟨_, PSs.nox (pss_cons (ps_if (pt_cmpR op_isN1 (pv 0) pe_non (nomark _)) (pss_one (ps_ret pe_bl)) pss_nil)
      (pss_cons (ps_if (pt_not (pt_val (pe_call G_within (hr.mono (by decide)) (by rfl) T.g_within k_within b_within .nil pass0 (pa_cons (pv 0) (pa_cons pe_int (pa_cons pe_int pa_nil)))))) (pss_one (ps_ret pe_bl)) pss_nil)
      (pss_cons (ps_for PassesOwn.never rfl (pi_tup (pv 1)) (pg_name (i := 2) cswindow_fits.nd rfl (Or.inl rfl)) (pss_one (ps_if (pt_cmpR op_gt (pe_fld (pv 2) rfl) (pv 0) (nomark _)) (pss_one (ps_ret pe_bl)) pss_nil)))
      (pss_one (ps_ret pe_bl))))), ?_⟩
  obtain ⟨kt, ps, ahead, window, crashes, rfl, ek, KA, F, hq⟩ := hsp
  cases window with
  | none =>
    dsimp only [oV]
    walk_at "st"
    walk_at "rd"
    exact hq
  | some w =>
    obtain ⟨w1, w2, w3⟩ := F.win w rfl
    dsimp only [oV]
    walk_at "st"
    walk_at "rd"
    refine u_within ⟨w1, w2⟩ ?_
    walk_at "rd"
    refine forT (ys := ps) (val := fun b => .ref b.1) (fun pre σ H2 => H2 = H ∧ ∃ o, σ = [some (.int w), some (.ref kt), o]) ⟨rfl, _, rfl⟩ (fun pre σ H2 h => by rw [h.1]; exact ek) ?_ ?_
    · rintro pre c post σ H2 hy ⟨rfl, o, rfl⟩
      have hc : c ∈ ps := by rw [hy]; simp
      obtain ⟨dx, sc, ec, hsc⟩ := KA c hc
      have hb := w3 c.2 (List.mem_map.mpr ⟨c, hc, rfl⟩)
      walk_at "rd"
      exact ⟨rfl, _, rfl⟩
    · rintro σ H2 ⟨rfl, o, rfl⟩
      walk_at "rd"
      exact hq
def sp_system_fault (K : PySem.W.Frag) : Sp := fun vs H Q E => ∃ kt ps ahead window crashes, vs = [.ref kt, .int ahead, oV window, .int crashes] ∧ H kt = some (.tup (List.map (fun b : Addr × Kd => V.ref b.1) ps)) ∧ KindsAt K H ps ∧ Fit (ps.map (·.2)) ahead window crashes ∧ (∀ H', Same H H' → Q .non H')
theorem len_system_fault (K : PySem.W.Frag) : ∀ (vs : List V) (H : Hp) (Q : VK) (E : XK), sp_system_fault K vs H Q E → vs.length = 4 := by
  rintro vs H Q E ⟨_, _, _, _, _, rfl, _⟩
  rfl
theorem ok_system_fault (T : Txt K mg) : CallF P w K mg base 4 (He.ga K "system_fault") ["kinds", "ahead", "window", "crashes"] (sp_system_fault K) := by
  obtain ⟨fd, F⟩ := T.d_system_fault
  obtain ⟨fd_within, G_within, b_within, k_within⟩ := ok_within (P := P) (w := w) (base := base) T
  obtain ⟨fd_window_fits, G_window_fits, b_window_fits, k_window_fits⟩ := ok_window_fits (P := P) (w := w) (base := base) T
  obtain ⟨fd_kinds_fault, G_kinds_fault, b_kinds_fault, k_kinds_fault⟩ := ok_kinds_fault (P := P) (w := w) (base := base) T
  refine ⟨fd, F.ok cssystem_fault (len_system_fault K) (fun cdv A outer s H vs Q E hr hsp => ?_), F.bindsN (fun _ _ _ _ _ _ us hl => match us, hl with | [_, _, _, _], _ => rfl), F.kp⟩
  have hu := hu_of hr
  have hu65 : (A.deeper (envOfC "system_fault" (defScope ssystem_fault) s.heap.objs.size (He.ga K "system_fault") cdv)).units + 65 < cLine := by have := hr.un; omega
  have hu0 := hr.units0
  refine ⟨_, PSs.nox (pss_cons (ps_set (i := 4) cssystem_fault.nd rfl (Or.inl rfl) (pe_call G_kinds_fault (hr.mono (by decide)) (by rfl) T.g_kinds_fault k_kinds_fault b_kinds_fault .nil pass0 (pa_cons (pv 0) pa_nil)))
      (pss_cons (ps_if (pt_cmpR op_notN1 (pv 4) pe_non (nomark _)) (pss_one (ps_ret (pv 4))) pss_nil)
      (pss_cons (ps_if (pt_not (pt_val (pe_call G_within (hr.mono (by decide)) (by rfl) T.g_within k_within b_within .nil pass0 (pa_cons (pv 1) (pa_cons pe_int (pa_cons pe_int pa_nil)))))) (pss_one (ps_ret pe_str)) pss_nil)
      (pss_cons (ps_if (pt_not (pt_val (pe_call G_window_fits (hr.mono (by decide)) (by rfl) T.g_window_fits k_window_fits b_window_fits .nil pass0 (pa_cons (pv 2) (pa_cons (pv 0) pa_nil))))) (pss_one (ps_ret pe_str)) pss_nil)
      (pss_cons (ps_if (pt_not (pt_val (pe_call G_within (hr.mono (by decide)) (by rfl) T.g_within k_within b_within .nil pass0 (pa_cons (pv 3) (pa_cons pe_int (pa_cons pe_int pa_nil)))))) (pss_one (ps_ret pe_str)) pss_nil)
      (pss_one (ps_ret pe_non))))))), ?_⟩
  obtain ⟨kt, ps, ahead, window, crashes, rfl, ek, KA, F, hq⟩ := hsp
  walk_at "st"
  walk_at "rd"
  refine ⟨kt, ps, ahead, window, crashes, rfl, ek, KA, F, fun H' hs => ?_⟩
  walk_at "rd"
  refine u_within F.ah ?_
  walk_at "rd"
  refine ⟨kt, ps, ahead, window, crashes, rfl, hs _ _ ek, KA.mono hs, F, ?_⟩
  walk_at "rd"
  refine u_within F.cr ?_
  walk_at "rd"
  exact hq _ hs
end
/-! ### the table of a script: plain mathematics -/
inductive Vb : Int → Int → Nat → List Sm → Int → Nat → Prop
  | nil {d c : Int} {n : Nat} : Vb d c n [] c n
  | one {d c c' : Int} {n n' : Nat} {s : Sm} {ss : List Sm} : s.simple = true → n < 8 → s.fine d c → Vb d (s.after c) (n + 1) ss c' n' → Vb d c n (s :: ss) c' n'
  | choose {d c c1 c2 c' : Int} {n n1 n2 n' : Nat} {y no ss : List Sm} : n < 8 → d ≠ 2 → Vb (d + 1) c (n + 1) y c1 n1 → Vb (d + 1) c n1 no c2 n2 → Vb d (if c2 > c1 then c2 else c1) n2 ss c' n' → Vb d c n (.choose y no :: ss) c' n'
theorem Vb.le {d c c' : Int} {n n' : Nat} {ss : List Sm} (h : Vb d c n ss c' n') : n ≤ n' ∧ (n' ≤ 8 ∨ n' = n) := by
  induction h with
  | nil => omega
  | one _ _ _ _ ih => omega
  | choose _ _ _ _ _ ih1 ih2 ih3 => omega
theorem Vb.len {d c c' : Int} {n n' : Nat} {ss : List Sm} (h : Vb d c n ss c' n') : n + ss.length ≤ n' ∧ (n ≤ 8 → n' ≤ 8) := by
  induction h with
  | nil => simp
  | one _ _ _ _ ih => simp only [List.length_cons]; omega
  | choose _ _ _ _ _ ih1 ih2 ih3 => simp only [List.length_cons]; omega
mutual
def Sm.ents (pre : List Int) : Sm → List (List Int × Sm)
  | .choose y n => (pre, .choose y n) :: (entsL (pre ++ [0]) 0 y ++ entsL (pre ++ [1]) 0 n)
  | s => [(pre, s)]
def entsL (pre : List Int) (k : Nat) : List Sm → List (List Int × Sm)
  | [] => []
  | s :: ss => Sm.ents (pre ++ [(k : Int)]) s ++ entsL pre (k + 1) ss
end
theorem entsL_append (pre : List Int) : ∀ (k : Nat) (a b : List Sm), entsL pre k (a ++ b) = entsL pre k a ++ entsL pre (k + a.length) b
  | k, [], b => by simp [entsL]
  | k, s :: a, b => by
    have : k + (a.length + 1) = k + 1 + a.length := by omega
    simp only [List.cons_append, entsL, entsL_append pre (k + 1) a b, List.append_assoc, List.length_cons, this]
theorem ents_simple {s : Sm} (h : s.simple = true) (pre : List Int) : s.ents pre = [(pre, s)] := by
  cases s <;> first | rfl | (simp [Sm.ents]; done) | cases h
/-- what the entries are -/
theorem ents_rest : ∀ (n : Nat) (ss : List Sm), sizeOf ss ≤ n → ∀ (pre : List Int) (k : Nat) (pl : List Int) (s : Sm), (pl, s) ∈ entsL pre k ss ↔ ∃ (i : Int) (pl2 : List Int) (r : List Sm), pl = pre ++ (i + k) :: pl2 ∧ restAt ss (i :: pl2) = some (s :: r) := by
  intro n
  induction n with
  | zero => intro ss h; cases ss <;> simp at h
  | succ n ih =>
    intro ss hn pre k pl s
    cases ss with
    | nil =>
      simp only [entsL, List.not_mem_nil, false_iff]
      rintro ⟨i, pl2, r, -, h⟩
      match pl2 with
      | [] => obtain ⟨h1, h2, _⟩ := restAt_one h; simp at h2; omega
      | b :: pl3 => obtain ⟨s1, _, _, h1, _⟩ := restAt_two h; have := nthI_drop h1; simp at this
    | cons s0 ss =>
      have hs : sizeOf ss ≤ n := by simp at hn; omega
      rw [entsL, List.mem_append, ih ss hs pre (k + 1) pl s]
      constructor
      · rintro (h | ⟨i, pl2, r, rfl, h⟩)
        · by_cases hsim : s0.simple = true
          · rw [ents_simple hsim] at h
            cases List.mem_singleton.mp h
            refine ⟨0, [], ss, by simp, ?_⟩
            unfold restAt
            rw [if_pos ⟨Int.le_refl _, by simp⟩]; rfl
          · cases s0 with
            | choose y no =>
              have hy : sizeOf y ≤ n := by simp at hn; omega
              have hno : sizeOf no ≤ n := by simp at hn; omega
              have hz : nthI (Sm.choose y no :: ss) 0 = some (.choose y no) := rfl
              rw [Sm.ents, List.mem_cons, List.mem_append] at h
              rcases h with h | h | h
              · cases h
                refine ⟨0, [], ss, by simp, ?_⟩
                unfold restAt
                rw [if_pos ⟨Int.le_refl _, by simp⟩]; rfl
              · obtain ⟨i, pl2, r, hpl, h9⟩ := (ih y hy _ _ _ _).mp h
                refine ⟨0, 0 :: i :: pl2, r ++ ss, by rw [hpl]; simp, ?_⟩
                exact restAt_two' hz (b := 0) rfl h9
              · obtain ⟨i, pl2, r, hpl, h9⟩ := (ih no hno _ _ _ _).mp h
                refine ⟨0, 1 :: i :: pl2, r ++ ss, by rw [hpl]; simp, ?_⟩
                exact restAt_two' hz (b := 1) rfl h9
            | _ => exact absurd rfl hsim
        · refine ⟨i + 1, pl2, r, by simp; omega, ?_⟩
          match pl2 with
          | [] =>
            obtain ⟨h1, h2, h3⟩ := restAt_one h
            unfold restAt
            rw [if_pos ⟨by omega, by simp; omega⟩, h3]
            have : (i + 1).toNat = i.toNat + 1 := by omega
            rw [this]; rfl
          | b :: pl3 =>
            obtain ⟨s1, br, r2, h1, h2, h3, h4⟩ := restAt_two h
            have hi := (nthI_drop h1).1
            have e1 : (i + 1).toNat = i.toNat + 1 := by omega
            have h1' : nthI (s0 :: ss) (i + 1) = some s1 := by
              unfold nthI at h1 ⊢
              rw [if_pos hi] at h1
              rw [if_pos (by omega), e1]; exact h1
            rw [restAt_two' h1' h2 h3, h4, e1]; rfl
      · rintro ⟨i, pl2, r, rfl, h⟩
        have hi0 : 0 ≤ i := by
          match pl2 with
          | [] => exact (restAt_one h).1
          | b :: pl3 => obtain ⟨s1, _, _, h1, _⟩ := restAt_two h; exact (nthI_drop h1).1
        by_cases hi : i = 0
        · subst hi
          left
          match pl2 with
          | [] =>
            obtain ⟨_, _, h3⟩ := restAt_one h
            have h3' : s :: r = s0 :: ss := h3
            rw [(List.cons.inj h3').1]
            by_cases hsim : s0.simple = true
            · rw [ents_simple hsim]; simp
            · cases s0 with
              | choose y no => simp [Sm.ents]
              | _ => exact absurd rfl hsim
          | b :: pl3 =>
            obtain ⟨s1, br, r2, h1, h2, h3, h4⟩ := restAt_two h
            cases h1
            cases s0 with
            | choose y no =>
              have hy : sizeOf y ≤ n := by simp at hn; omega
              have hno : sizeOf no ≤ n := by simp at hn; omega
              cases r2 with
              | nil => exact absurd rfl (restAt_ne h3)
              | cons s3 r3 =>
                obtain ⟨h5, h6⟩ := List.cons.inj (h4.trans (List.cons_append ..))
                subst h5
                have hpl3 := restAt_length h3
                obtain ⟨j, pl4, rfl⟩ : ∃ j pl4, pl3 = j :: pl4 := by
                  cases pl3 with
                  | nil => exact absurd rfl hpl3
                  | cons j pl4 => exact ⟨j, pl4, rfl⟩
                rw [Sm.ents, List.mem_cons, List.mem_append]
                have h2 : (if b = 0 then some y else if b = 1 then some no else none) = some br := h2
                by_cases hb : b = 0
                · rw [if_pos hb] at h2
                  subst hb
                  cases h2
                  exact .inr (.inl ((ih _ hy _ _ _ _).mpr ⟨j, pl4, r3, by simp, h3⟩))
                · rw [if_neg hb] at h2
                  by_cases hb1 : b = 1
                  · rw [if_pos hb1] at h2
                    subst hb1
                    cases h2
                    exact .inr (.inr ((ih _ hno _ _ _ _).mpr ⟨j, pl4, r3, by simp, h3⟩))
                  · rw [if_neg hb1] at h2; cases h2
            | _ => cases h2
        · right
          refine ⟨i - 1, pl2, r, by simp; omega, ?_⟩
          have e1 : i.toNat = (i - 1).toNat + 1 := by omega
          match pl2 with
          | [] =>
            obtain ⟨h1, h2, h3⟩ := restAt_one h
            unfold restAt
            rw [if_pos ⟨by omega, by simp at h2; omega⟩, h3, e1]; rfl
          | b :: pl3 =>
            obtain ⟨s1, br, r2, h1, h2, h3, h4⟩ := restAt_two h
            have h1' : nthI ss (i - 1) = some s1 := by
              unfold nthI at h1 ⊢
              rw [if_pos hi0, e1] at h1
              rw [if_pos (by omega)]; exact h1
            rw [restAt_two' h1' h2 h3, h4, e1]; rfl
theorem ents_top (ss : List Sm) (pl : List Int) (s : Sm) : (pl, s) ∈ entsL [] 0 ss ↔ ∃ r, restAt ss pl = some (s :: r) := by
  rw [ents_rest _ ss (Nat.le_refl _)]
  constructor
  · rintro ⟨i, pl2, r, rfl, h⟩; exact ⟨r, by simpa using h⟩
  · rintro ⟨r, h⟩
    have hp := restAt_length h
    cases pl with
    | nil => exact absurd rfl hp
    | cons i pl2 => exact ⟨i, pl2, r, by simp, h⟩
theorem Vb.inn {d c c' : Int} {n n' : Nat} {ss : List Sm} (h : Vb d c n ss c' n') : ∀ y no, Sm.choose y no ∈ ss → d ≠ 2 ∧ (∃ a b e f, Vb (d + 1) a b y e f) ∧ ∃ a b e f, Vb (d + 1) a b no e f := by
  induction h with
  | nil => intro y no hm; cases hm
  | one hs _ _ _ ih =>
    intro y no hm
    rcases List.mem_cons.mp hm with e | hm
    · rw [← e] at hs; cases hs
    · exact ih y no hm
  | choose _ hd h1 h2 _ _ _ ih3 =>
    intro y no hm
    rcases List.mem_cons.mp hm with e | hm
    · cases e; exact ⟨hd, ⟨_, _, _, _, h1⟩, ⟨_, _, _, _, h2⟩⟩
    · exact ih3 y no hm
/-- how long places can be -/
theorem restAt_short : ∀ {pl : List Int} {d c c' : Int} {n n' : Nat} {ss r : List Sm}, Vb d c n ss c' n' → d ≤ 2 → restAt ss pl = some r → (pl.length : Int) ≤ 2 * (2 - d) + 1 := by
  intro pl d c c' n n' ss r hv hd h
  match pl with
  | [] => unfold restAt at h; cases h
  | [i] => simp; omega
  | i :: b :: pl =>
    obtain ⟨s1, br, r2, h1, h2, h3, h4⟩ := restAt_two h
    have hm : s1 ∈ ss := by
      unfold nthI at h1
      split at h1
      · exact List.mem_of_getElem? h1
      · cases h1
    cases s1 with
    | choose y no =>
      obtain ⟨hd2, ⟨_, _, _, _, v1⟩, ⟨_, _, _, _, v2⟩⟩ := hv.inn y no hm
      have h2 : (if b = 0 then some y else if b = 1 then some no else none) = some br := h2
      have : (pl.length : Int) ≤ 2 * (2 - (d + 1)) + 1 := by
        by_cases hb : b = 0
        · rw [if_pos hb] at h2; cases h2; exact restAt_short v1 (by omega) h3
        · rw [if_neg hb] at h2
          by_cases hb1 : b = 1
          · rw [if_pos hb1] at h2; cases h2; exact restAt_short v2 (by omega) h3
          · rw [if_neg hb1] at h2; cases h2
      simp only [List.length_cons]; omega
    | _ => cases h2
theorem DsAll.zip {H : Hp} {vs : List V} {ss : List Sm} (d : DsAll H vs ss) : ∃ ys : List (V × Sm), vs = ys.map (·.1) ∧ ss = ys.map (·.2) ∧ ∀ y ∈ ys, Ds H y.1 y.2 := by
  induction vs generalizing ss with
  | nil => cases d; exact ⟨[], rfl, rfl, by simp⟩
  | cons v vs ih =>
    cases d with
    | cons a b =>
      obtain ⟨ys, h1, h2, h3⟩ := ih b
      refine ⟨(v, _) :: ys, by rw [h1]; rfl, by rw [h2]; rfl, ?_⟩
      intro y hy
      rcases List.mem_cons.mp hy with rfl | hy
      · exact a
      · exact h3 y hy
/-! ### the table in the heap -/
structure TabR (H : Hp) (kvs : List (List Key × V)) (E : List (List Int × Sm)) : Prop where
  keys : ∀ p ∈ kvs, ∃ pl, p.1 = keyP pl
  has : ∀ pl v, valV kvs (keyP pl) = some v → ∃ s, (pl, s) ∈ E ∧ Ds H v s
  all : ∀ pl s, (pl, s) ∈ E → (valV kvs (keyP pl)).isSome = true
theorem keyP_inj {a b : List Int} (h : keyP a = keyP b) : a = b := by
  unfold keyP at h
  exact (List.map_inj_right (fun x y e => Sum.inl.inj e)).mp h
theorem TabR.mono {H H' : Hp} {kvs : List (List Key × V)} {E : List (List Int × Sm)} (t : TabR H kvs E) (e : Tp H H') : TabR H' kvs E :=
  ⟨t.keys, fun pl v h => let ⟨s, h1, h2⟩ := t.has pl v h; ⟨s, h1, h2.mono e⟩, t.all⟩
theorem putK_keys {κ : Type} [DecidableEq κ] {kvs : List (κ × V)} {k : κ} {v : V} : ∀ p ∈ putK kvs k v, p.1 = k ∨ ∃ q ∈ kvs, q.1 = p.1 := by
  intro p hp
  unfold putK at hp
  split at hp
  · obtain ⟨q, hq, rfl⟩ := List.mem_map.mp hp
    by_cases e : q.1 = k
    · rw [if_pos e]; exact .inl e
    · rw [if_neg e]; exact .inr ⟨q, hq, rfl⟩
  · rcases List.mem_append.mp hp with h | h
    · exact .inr ⟨p, h, rfl⟩
    · rw [List.mem_singleton.mp h]; exact .inl rfl
theorem TabR.put {H : Hp} {kvs : List (List Key × V)} {E : List (List Int × Sm)} {pl : List Int} {v : V} {s : Sm} (t : TabR H kvs E) (d : Ds H v s) : TabR H (putK kvs (keyP pl) v) (E ++ [(pl, s)]) where
  keys := fun p hp => by
    rcases putK_keys p hp with h | ⟨q, hq, h⟩
    · exact ⟨pl, h⟩
    · rw [← h]; exact t.keys q hq
  has := fun pl2 v2 h => by
    rw [valV_put] at h
    split at h
    · rename_i e
      cases h
      rw [keyP_inj e]
      exact ⟨s, by simp, d⟩
    · obtain ⟨s2, h1, h2⟩ := t.has pl2 v2 h
      exact ⟨s2, by simp [h1], h2⟩
  all := fun pl2 s2 h => by
    rw [valV_put]
    split
    · rfl
    · rename_i e
      rcases List.mem_append.mp h with h | h
      · exact t.all pl2 s2 h
      · cases List.mem_singleton.mp h; exact absurd rfl e
/-- all but x is as it was -/
def SameBut (x : Addr) (H H' : Hp) : Prop := ∀ b o, b ≠ x → H b = some o → H' b = some o
theorem SameBut.refl (x : Addr) (H : Hp) : SameBut x H H := fun _ _ _ h => h
theorem SameBut.trans {x : Addr} {H H1 H2 : Hp} (a : SameBut x H H1) (b : SameBut x H1 H2) : SameBut x H H2 := fun c o n h => b c o n (a c o n h)
theorem SameBut.of {x : Addr} {H H' : Hp} (e : Same H H') : SameBut x H H' := fun b o _ h => e b o h
theorem SameBut.put {x : Addr} {H H' : Hp} {o : HO} (e : SameBut x H H') : SameBut x H (upd H' x o) := fun b u n h => by rw [upd_ne n]; exact e b u n h
theorem SameBut.new {x : Addr} {H H1 H2 : Hp} (e : Same H H1) (b : SameBut x H1 H2) (n : H x = none) : Same H H2 := fun c o h => b c o (ne_of_none h n) (e c o h)
/-- tuples are kept where x is none -/
theorem SameBut.tp {x : Addr} {H H' : Hp} {o : HO} (e : SameBut x H H') (hx : H x = some o) (ho : ∀ xs, o ≠ .tup xs) : Tp H H' := fun b xs h => e b _ (ne_of h hx fun z => ho xs z.symm) h
section
variable {P : Program} {w : World} {K : PySem.W.Frag} {mg : Str → Option Value} {base : Heap}
def sp_cb (K : PySem.W.Frag) : Nat → Sp
  | 0 => fun _ _ _ _ => False
  | j + 1 => fun vs H Q E => ∃ br pre d c t bvs ss pp kvs n c' n' E0, vs = [.ref br, .ref pre, .int d, .int c, .ref t] ∧ H br = some (.tup bvs) ∧ DsAll H bvs ss ∧ H pre = some (.tup (List.map V.int pp)) ∧ (pp.length : Int) ≤ 2 * d ∧ H t = some (.dT kvs) ∧ kvs.length ≤ n ∧
      Vb d c n ss c' n' ∧ d ≤ 2 ∧ 2 ≤ d + j ∧ ss.length ≤ 1000 ∧ TabR H kvs E0 ∧ (∀ H' kvs', SameBut t H H' → H' t = some (.dT kvs') → kvs'.length ≤ n' → TabR H' kvs' (E0 ++ entsL pp 0 ss) → Q (.int c') H')
theorem _root_.L2.Same.tp' {H H' : Hp} (e : Same H H') : Tp H H' := fun a xs h => e a _ h
theorem len_cb (K : PySem.W.Frag) : ∀ (j : Nat) (vs : List V) (H : Hp) (Q : VK) (E : XK), sp_cb K j vs H Q E → vs.length = 5 := by
  intro j vs H Q E h
  cases j with
  | zero => exact h.elim
  | succ j => obtain ⟨_, _, _, _, _, _, _, _, _, _, _, _, _, rfl, _⟩ := h; rfl
theorem okd_check_branch (T : Txt K mg) : ∀ j : Nat, CallF P w K mg base (j + 2) (He.ga K "check_branch") ["branch", "prefix", "depth", "count", "table"] (sp_cb K j) := by
  intro j
  induction j with
  | zero =>
    obtain ⟨fd, F⟩ := T.d_check_branch
    exact ⟨fd, ⟨len_cb K 0, fun A outer s H args us vs Q E hr e0 hb r hsp => hsp.elim⟩, F.bindsN (fun _ _ _ _ _ _ us hl => match us, hl with | [_, _, _, _, _], _ => rfl), F.kp⟩
  | succ j ih =>
  obtain ⟨fd, F⟩ := T.d_check_branch
  obtain ⟨fd_check_branch, G_check_branch, b_check_branch, k_check_branch⟩ := ih
  obtain ⟨fd_count_after, G_count_after, b_count_after, k_count_after⟩ := ok_count_after (P := P) (w := w) (base := base) T
  obtain ⟨fd_fault_of, G_fault_of, b_fault_of, k_fault_of⟩ := ok_fault_of (P := P) (w := w) (base := base) T
  refine ⟨fd, F.ok cscheck_branch (len_cb K (j + 1)) (fun cdv A outer s H vs Q E hr hsp => ?_), F.bindsN (fun _ _ _ _ _ _ us hl => match us, hl with | [_, _, _, _, _], _ => rfl), F.kp⟩
  have hu := hu_of hr
  have hu65 : (A.deeper (envOfC "check_branch" (defScope scheck_branch) s.heap.objs.size (He.ga K "check_branch") cdv)).units + 65 < cLine := by have := hr.un; omega
  have hu0 := hr.units0
  obtain ⟨_, i_MOST_STATEMENTS⟩ := T.i_MOST_STATEMENTS
  refine ⟨_, PSs.nox (pss_cons (ps_for PassesOwn.never rfl (pi_enumT (by rfl) T.f_enumerate (pa_cons (pv 0) pa_nil)) (pg_tup rfl (pgs_cons (pg_name (i := 5) cscheck_branch.nd rfl (Or.inl rfl)) (pgs_cons (pg_name (i := 6) cscheck_branch.nd rfl (Or.inl rfl)) pgs_nil))) (pss_cons (ps_set (i := 7) cscheck_branch.nd rfl (Or.inl rfl) (pe_op op_catA (pv 1) (pe_tup (pa_cons (pv 5) pa_nil))))
      (pss_cons (ps_if (pt_cmpR op_eq (pe_callB call_len_dT (by rfl) T.f_len (by decide +kernel) (pa_cons (pv 4) pa_nil)) (pe_glob (v := .int 8) rfl i_MOST_STATEMENTS ⟨_, rfl⟩) (nomark _)) (pss_one ps_never) pss_nil)
      (pss_cons (ps_set (i := 8) cscheck_branch.nd rfl (Or.inl rfl) (pe_call G_fault_of (hr.mono (by omega)) (by rfl) T.g_fault_of k_fault_of b_fault_of .nil pass0 (pa_cons (pv 6) (pa_cons (pv 2) (pa_cons (pv 3) pa_nil)))))
      (pss_cons (ps_if (pt_cmpR op_notN1 (pv 8) pe_non (nomark _)) (pss_one ps_never) pss_nil)
      (pss_cons (ps_dput hu (pv 4) (pv 7) (pv 6) rfl)
      (pss_one (ps_if (pt_cmpR op_eq (pe_ix ix_tup (pv 6) pe_int (fun _ _ => rfl)) pe_str (nomark _)) (pss_cons (ps_set (i := 9) cscheck_branch.nd rfl (Or.inl rfl) (pe_call G_check_branch (hr.mono (by omega)) (by rfl) T.g_check_branch k_check_branch b_check_branch .nil pass0 (pa_cons (pe_ix ix_tup (pv 6) pe_int (fun _ _ => rfl)) (pa_cons (pe_op op_catA (pv 7) (pe_tup (pa_cons pe_int pa_nil))) (pa_cons (pe_op op_add (pv 2) pe_int) (pa_cons (pv 3) (pa_cons (pv 4) pa_nil)))))))
      (pss_cons (ps_set (i := 10) cscheck_branch.nd rfl (Or.inl rfl) (pe_call G_check_branch (hr.mono (by omega)) (by rfl) T.g_check_branch k_check_branch b_check_branch .nil pass0 (pa_cons (pe_ix ix_tup (pv 6) pe_int (fun _ _ => rfl)) (pa_cons (pe_op op_catA (pv 7) (pe_tup (pa_cons pe_int pa_nil))) (pa_cons (pe_op op_add (pv 2) pe_int) (pa_cons (pv 3) (pa_cons (pv 4) pa_nil)))))))
      (pss_one (ps_set (i := 3) cscheck_branch.nd rfl (Or.inl rfl) (pe_callB (call_maxN rfl) (by rfl) T.f_max (by decide +kernel) (pa_cons (pv 9) (pa_cons (pv 10) pa_nil))))))) (pss_one (ps_set (i := 3) cscheck_branch.nd rfl (Or.inl rfl) (pe_call G_count_after (hr.mono (by omega)) (by rfl) T.g_count_after k_count_after b_count_after .nil pass0 (pa_cons (pe_ix ix_tup (pv 6) pe_int (fun _ _ => rfl)) (pa_cons (pv 3) pa_nil)))))))))))))
      (pss_one (ps_ret (pv 3)))), ?_⟩
  obtain ⟨br, pre, d, c, t, bvs, ss, pp, kvs, n, c', n', E0, rfl, eb, db, ep, hpp, et, hkl, hv, hd2, hdj, hssl, tr, hq⟩ := hsp
  obtain ⟨ys, rfl, rfl, hds⟩ := db.zip
  have htp : ∀ {H' : Hp}, SameBut t H H' → Tp H H' := fun h => h.tp et (fun _ z => nomatch z)
  walk_at "st"
  walk_at "rd"
  refine forE (ys := ys) (val := (·.1)) (fun done σ H' => ∃ post c1 n1 kvs1 o1 o2 o3 o4 o5 o6, ys = done ++ post ∧ Vb d c1 n1 (post.map (·.2)) c' n' ∧ SameBut t H H' ∧ H' t = some (.dT kvs1) ∧ kvs1.length ≤ n1 ∧ TabR H' kvs1 (E0 ++ entsL pp 0 (done.map (·.2))) ∧
    σ = [some (.ref br), some (.ref pre), some (.int d), some (.int c1), some (.ref t), o1, o2, o3, o4, o5, o6]) ⟨ys, c, n, kvs, none, none, none, none, none, none, rfl, hv, SameBut.refl t H, et, hkl, by simpa [entsL] using tr, rfl⟩ (fun done σ H' ⟨_, _, _, _, _, _, _, _, _, _, _, _, h, _⟩ => h _ _ (ne_of eb et (fun z => nomatch z)) eb) ?_ ?_
  · rintro done y post0 σ H' H1 T0 hys ⟨post, c1, n1, kvs1, o1, o2, o3, o4, o5, o6, hp, hv1, hsb, et1, hk1, tr1, rfl⟩ hT0 hs1 hT1
    rw [hys] at hp
    obtain rfl := List.append_cancel_left hp
    have hyd := hds y (by rw [hys]; simp)
    have hdl : done.length ≤ 1000 := by rw [hys] at hssl; simp at hssl; omega
    have ep1 : H' pre = some (.tup (pp.map V.int)) := hsb _ _ (ne_of ep et (fun z => nomatch z)) ep
    have hyd1 := (hyd.mono (htp hsb)).mono hs1.tp'
    have hE : entsL pp 0 ((done ++ [y]).map (·.2)) = entsL pp 0 (done.map (·.2)) ++ y.2.ents (pp ++ [(done.length : Int)]) := by
      rw [List.map_append, entsL_append]; simp [entsL]
    obtain ⟨v, sy⟩ := y
    dsimp only at hyd1 hE
    have hn8 : n1 < 8 := by
      cases hv1 with
      | one _ h _ _ => exact h
      | choose h _ _ _ _ => exact h
    have hfine : sy.fine d c1 := by
      cases hv1 with
      | one _ _ h _ => exact h
      | choose _ h _ _ _ => exact h
    walk_at "rd"
    rename_i p2 H2 hn2 hs2 hp2 he2 p3 H3 hs3 hp3
    have hs13 : Same H' H3 := hs1.trans (hs2.trans hs3)
    have hyd3 : Ds H3 v sy := hyd1.mono (hs2.trans hs3).tp'
    have et3 : H3 t = some (.dT kvs1) := hs13 _ _ et1
    have ep3 : H3 p3 = some (.tup ((pp ++ [(done.length : Int)]).map V.int)) := by rw [hp3]; simp
    refine ⟨v, sy, d, c1, rfl, hyd3, hfine, ?_⟩
    walk_at "rd"
    refine w_pDPp et3 ep3 (small1000 (by omega)) ?_
    have hsb4 : SameBut t H (upd H3 t (.dT (putK kvs1 (keyP (pp ++ [(done.length : Int)])) v))) := (hsb.trans (SameBut.of hs13)).put
    have htp3 : Tp H3 (upd H3 t (.dT (putK kvs1 (keyP (pp ++ [(done.length : Int)])) v))) := (SameBut.put (SameBut.refl t H3)).tp et3 (fun _ z => nomatch z)
    have et4 : (upd H3 t (.dT (putK kvs1 (keyP (pp ++ [(done.length : Int)])) v))) t = some (.dT (putK kvs1 (keyP (pp ++ [(done.length : Int)])) v)) := upd_same
    have tr4 : TabR (upd H3 t (.dT (putK kvs1 (keyP (pp ++ [(done.length : Int)])) v))) (putK kvs1 (keyP (pp ++ [(done.length : Int)])) v) (E0 ++ entsL pp 0 (done.map (·.2)) ++ [(pp ++ [(done.length : Int)], sy)]) := ((tr1.mono hs13.tp').put hyd3).mono htp3 |> fun z => z
    have hk4 : (putK kvs1 (keyP (pp ++ [(done.length : Int)])) v).length ≤ n1 + 1 := by have := length_putK kvs1 (keyP (pp ++ [(done.length : Int)])) v; omega
    have ep4 : (upd H3 t (.dT (putK kvs1 (keyP (pp ++ [(done.length : Int)])) v))) p3 = some (.tup ((pp ++ [(done.length : Int)]).map V.int)) := htp3 _ _ ep3
    have hyd4 := hyd3.mono htp3
    generalize upd H3 t (.dT (putK kvs1 (keyP (pp ++ [(done.length : Int)])) v)) = H4 at *
    generalize putK kvs1 (keyP (pp ++ [(done.length : Int)])) v = kvs4 at *
    cases hv1 with
    | one hsim _ _ hv2 =>
      obtain ⟨a, xs, rfl, ea⟩ := hyd4.head
      have hnc : ¬ sy.word = "choose" := fun h => by obtain ⟨_, _, rfl⟩ := word_choose h; cases hsim
      walk_at "rd"
      refine ⟨sy, c1, rfl, hsim, ?_⟩
      walk_at "rd"
      exact ⟨post0, _, n1 + 1, kvs4, _, _, _, _, o5, o6, by rw [hys]; simp, hv2, hsb4, et4, hk4, by rw [hE, ents_simple hsim, ← List.append_assoc]; exact tr4, rfl⟩
    | choose _ hd2' hv2 hv3 hv4 =>
      cases j with
      | zero => omega
      | succ j =>
        obtain ⟨a, ya, na, yv, nv, rfl, ea, ey, dy, en, dn⟩ := hyd4.ch
        have hlv : ∀ {a b : Int} {n m : Nat} {d : Int} {ss : List Sm}, Vb d a n ss b m → n ≤ 8 → ss.length ≤ 8 := fun h h8 => by
          have := h.len
          omega
        have hl2 := hv2.len
        have hl3 := hv3.len
        have hpp2 : ((pp ++ [(done.length : Int)]).length : Int) ≤ 2 * d + 1 := by simp; omega
        walk_at "rd"
        rename_i p5 H5 hn5 hs5 hp5 he5 p6 H6 hs6 hp6
        have hs46 : Same H4 H6 := hs5.trans hs6
        refine ⟨ya, p6, d + 1, c1, t, yv, _, pp ++ [(done.length : Int)] ++ [0], kvs4, n1 + 1, _, _, _, rfl, hs46 _ _ ey, dy.mono hs46.tp', by rw [hp6]; simp, by simp at hpp2 ⊢; omega, hs46 _ _ et4, hk4, hv2, by omega, by omega, by omega, tr4.mono hs46.tp', fun H7 kvs7 hsb7 et7 hk7 tr7 => ?_⟩
        have htp7 : Tp H4 H7 := hs46.tp'.trans (hsb7.tp (hs46 _ _ et4) (fun _ z => nomatch z))
        have ea7 := htp7 _ _ ea
        have ep7 := htp7 _ _ ep4
        walk_at "rd"
        rename_i p8 H8 hn8 hs8 hp8 he8 p9 H9 hs9 hp9
        have hs79 : Same H7 H9 := hs8.trans hs9
        have htp9 := htp7.trans hs79.tp'
        refine ⟨na, p9, d + 1, c1, t, nv, _, pp ++ [(done.length : Int)] ++ [1], kvs7, _, _, _, _, rfl, htp9 _ _ en, dn.mono htp9, by rw [hp9]; simp, by simp at hpp2 ⊢; omega, hs79 _ _ et7, hk7, hv3, by omega, by omega, by omega, tr7.mono hs79.tp', fun H10 kvs10 hsb10 et10 hk10 tr10 => ?_⟩
        walk_at "rd"
        refine ⟨post0, _, _, kvs10, _, _, _, _, _, _, by rw [hys]; simp, hv4, ((hsb4.trans (SameBut.of hs46)).trans hsb7).trans ((SameBut.of hs79).trans hsb10), et10, hk10, ?_, rfl⟩
        rw [hE, Sm.ents]
        simpa [List.append_assoc] using tr10
  · rintro σ H' ⟨post, c1, n1, kvs1, o1, o2, o3, o4, o5, o6, hp, hv1, hsb, et1, hk1, tr1, rfl⟩
    have : post = [] := by
      have := congrArg List.length hp
      rw [List.length_append] at this
      exact List.length_eq_zero_iff.mp (by omega)
    subst this
    cases hv1
    walk_at "rd"
    exact hq _ _ hsb et1 hk1 tr1
def sp_check_branch (K : PySem.W.Frag) : Sp := sp_cb K 3
theorem ok_check_branch (T : Txt K mg) : CallF P w K mg base 6 (He.ga K "check_branch") ["branch", "prefix", "depth", "count", "table"] (sp_check_branch K) := by
  obtain ⟨fd, G, b, k⟩ := okd_check_branch (P := P) (w := w) (base := base) T 3
  exact ⟨fd, G.mono (by omega), b, k⟩
def sp_checked (K : PySem.W.Frag) : Sp := fun vs H Q E => ∃ br bvs ss c' n', vs = [.ref br] ∧ H br = some (.tup bvs) ∧ DsAll H bvs ss ∧ Vb 0 0 0 ss c' n' ∧ ss ≠ [] ∧ (∀ H' t kvs, Same H H' → H t = none → H' t = some (.dT kvs) → kvs.length ≤ n' → TabR H' kvs (entsL [] 0 ss) → Q (.ref t) H')
theorem len_checked (K : PySem.W.Frag) : ∀ (vs : List V) (H : Hp) (Q : VK) (E : XK), sp_checked K vs H Q E → vs.length = 1 := by
  rintro vs H Q E ⟨_, _, _, _, _, rfl, _⟩
  rfl
theorem ok_checked (T : Txt K mg) : CallF P w K mg base 7 (He.ga K "checked") ["statements"] (sp_checked K) := by
  obtain ⟨fd, F⟩ := T.d_checked
  obtain ⟨fd_check_branch, G_check_branch, b_check_branch, k_check_branch⟩ := ok_check_branch (P := P) (w := w) (base := base) T
  refine ⟨fd, F.ok cschecked (len_checked K) (fun cdv A outer s H vs Q E hr hsp => ?_), F.bindsN (fun _ _ _ _ _ _ us hl => match us, hl with | [_], _ => rfl), F.kp⟩
  have hu := hu_of hr
  have hu65 : (A.deeper (envOfC "checked" (defScope schecked) s.heap.objs.size (He.ga K "checked") cdv)).units + 65 < cLine := by have := hr.un; omega
  have hu0 := hr.units0
  refine ⟨_, PSs.nox (pss_cons (ps_if (pt_not (pt_val (pe_callB call_isi (by rfl) T.f_isinstance (by decide +kernel) (pa_cons (pv 0) (pa_cons (pe_bltn (v := .ty "tuple") (by rfl) T.f_tuple (by decide +kernel) rfl) pa_nil))))) (pss_one ps_never) pss_nil)
      (pss_cons (ps_if (pt_cmpR op_eq (pe_callB call_lenN (by rfl) T.f_len (by decide +kernel) (pa_cons (pv 0) pa_nil)) pe_int (nomark _)) (pss_one ps_never) pss_nil)
      (pss_cons (ps_set (i := 1) cschecked.nd rfl (Or.inl rfl) pe_dnewT)
      (pss_cons (ps_expr (pe_call G_check_branch (hr.mono (by decide)) (by rfl) T.g_check_branch k_check_branch b_check_branch .nil pass0 (pa_cons (pv 0) (pa_cons (pe_tup pa_nil) (pa_cons pe_int (pa_cons pe_int (pa_cons (pv 1) pa_nil)))))))
      (pss_one (ps_ret (pv 1))))))), ?_⟩
  obtain ⟨br, bvs, ss, c', n', rfl, eb, db, hv, hne, hq⟩ := hsp
  have hl := hv.len
  have hbl := db.length
  have hsl : 0 < ss.length := List.length_pos_iff.mpr hne
  walk_at "st"
  walk_at "rd"
  rename_i t H1 hn1 hs1 et he1 p2 H2 hn2 hs2 hp2 he2
  refine ⟨br, p2, 0, 0, t, bvs, ss, [], [], 0, c', n', [], rfl, hs2 _ _ (hs1 _ _ eb), db.mono (hs1.trans hs2).tp', hp2, by simp, hs2 _ _ et, by simp, hv, by omega, by decide, by omega, ⟨by simp, by simp [valV_nil], by simp⟩, fun H3 kvs hsb et3 hk tr => ?_⟩
  walk_at "rd"
  exact hq _ _ _ (SameBut.new (hs1.trans hs2) hsb hn1) hn1 et3 hk (by simpa using tr)
end
theorem isKeys_zip {H : Hp} : ∀ {kvs : List (List Key × V)} {bs : List Addr}, IsKeys H kvs bs → (∀ p ∈ kvs, ∃ pl, p.1 = keyP pl) → ∃ cs : List (Addr × List Int), bs = cs.map (·.1) ∧ (∀ c ∈ cs, H c.1 = some (.tup (c.2.map V.int))) ∧ cs.map (fun c => keyP c.2) = kvs.map (·.1)
  | [], _, .nil, _ => ⟨[], rfl, by simp, rfl⟩
  | p :: kvs, b :: bs, .cons h t, hk => by
    obtain ⟨cs, e1, e2, e3⟩ := isKeys_zip t fun q hq => hk q (by simp [hq])
    obtain ⟨pl, hp⟩ := hk p (by simp)
    refine ⟨(b, pl) :: cs, by simp [e1], ?_, by simp [e3, hp]⟩
    intro c hc
    rcases List.mem_cons.mp hc with rfl | hc
    · rw [hp, keyP_kV] at h; exact h
    · exact e2 c hc
theorem val_of_mem {κ : Type} [DecidableEq κ] {kvs : List (κ × V)} {k : κ} (h : k ∈ kvs.map (·.1)) : (valV kvs k).isSome = true := by
  rw [← valV_any]
  obtain ⟨p, hp, rfl⟩ := List.mem_map.mp h
  exact List.any_eq_true.mpr ⟨p, hp, by simp⟩
theorem mem_of_val {κ : Type} [DecidableEq κ] {kvs : List (κ × V)} {k : κ} (h : (valV kvs k).isSome = true) : k ∈ kvs.map (·.1) := by
  rw [← valV_any] at h
  obtain ⟨p, hp, e⟩ := List.any_eq_true.mp h
  exact List.mem_map.mpr ⟨p, hp, by simpa using e⟩
/-- what stays where only x changes, an instance that is not filled yet -/
theorem ScriptAt.but {K : PySem.W.Frag} {H H' : Hp} {x C dx : Addr} {p : Addr} {ss : List Sm} {n : Nat} (sb : SameBut x H H') (ex : H x = some (.ins C dx [])) : ScriptAt K H p ss n → ScriptAt K H' p ss n := by
  rintro ⟨a, b, c, d, f, g, h, S⟩
  have tp : Tp H H' := sb.tp ex (fun _ z => nomatch z)
  exact ⟨a, b, c, d, f, g, h, {
    ins := sb _ _ (ne_of S.ins ex (fun z => nomatch z)) S.ins
    stm := tp _ _ S.stm
    all := S.all.mono tp
    tab := sb _ _ (ne_of S.tab ex (fun z => nomatch z)) S.tab
    pls := tp _ _ S.pls
    pl := fun b hb => tp _ _ (S.pl b hb)
    key := S.key
    val := fun pl st r h => let ⟨v, h1, h2⟩ := S.val pl st r h; ⟨v, h1, h2.mono tp⟩
    len := S.len
    short := S.short }⟩
theorem KindAt.but {K : PySem.W.Frag} {H H' : Hp} {x C dx : Addr} {p : Addr} {k : Kd} (sb : SameBut x H H') (ex : H x = some (.ins C dx [])) : KindAt K H p k → KindAt K H' p k := by
  rintro ⟨a, b, e, s⟩
  exact ⟨a, b, sb _ _ (ne_of e ex (fun z => nomatch z)) e, s.but sb ex⟩
theorem KindsAt.but {K : PySem.W.Frag} {H H' : Hp} {x C dx : Addr} {ps : List (Addr × Kd)} (sb : SameBut x H H') (ex : H x = some (.ins C dx [])) (h : KindsAt K H ps) : KindsAt K H' ps := fun p hp => (h p hp).but sb ex
section
variable {P : Program} {w : World} {K : PySem.W.Frag} {mg : Str → Option Value} {base : Heap}
def sp_Script___init__ (K : PySem.W.Frag) : Sp := fun vs H Q E => ∃ x br dx bvs ss c' n', vs = [.ref x, .ref br] ∧ H x = some (.ins (He.ga K "Script") dx []) ∧ H br = some (.tup bvs) ∧ DsAll H bvs ss ∧ Vb 0 0 0 ss c' n' ∧ ss ≠ [] ∧ (∀ H' n, SameBut x H H' → n ≤ n' → ScriptAt K H' x ss n → Q .non H')
theorem len_Script___init__ (K : PySem.W.Frag) : ∀ (vs : List V) (H : Hp) (Q : VK) (E : XK), sp_Script___init__ K vs H Q E → vs.length = 2 := by
  rintro vs H Q E ⟨_, _, _, _, _, _, _, rfl, _⟩
  rfl
theorem ok_Script___init__ (T : Txt K mg) : CallF P w K mg base 8 (He.ma K (He.ga K "Script") "__init__") ["self", "statements"] (sp_Script___init__ K) := by
  obtain ⟨fd, F⟩ := T.d_Script___init__
  obtain ⟨fd_checked, G_checked, b_checked, k_checked⟩ := ok_checked (P := P) (w := w) (base := base) T
  refine ⟨fd, F.ok csScript___init__ (len_Script___init__ K) (fun cdv A outer s H vs Q E hr hsp => ?_), F.bindsN (fun _ _ _ _ _ _ us hl => match us, hl with | [_, _], _ => rfl), F.kp⟩
  have hu := hu_of hr
  have hu65 : (A.deeper (envOfC "Script.__init__" (defScope sScript___init__) s.heap.objs.size (He.ma K (He.ga K "Script") "__init__") cdv)).units + 65 < cLine := by have := hr.un; omega
  have hu0 := hr.units0
  refine ⟨_, PSs.nox (pss_cons (ps_fld (pv 0) (pe_call G_checked (hr.mono (by decide)) (by rfl) T.g_checked k_checked b_checked .nil pass0 (pa_cons (pv 1) pa_nil)) rfl)
      (pss_cons (ps_fld (pv 0) (pv 1) rfl)
      (pss_one (ps_fld (pv 0) (pe_callTy call_tupN (by rfl) T.f_tuple (by decide +kernel) (pa_cons (pe_callB (cr_sortTL hr.units) (by rfl) T.f_sorted (by decide +kernel) (pa_cons (pe_callTy (call_ldT rfl) (by rfl) T.f_list (by decide +kernel) (pa_cons (pe_fld (pv 0) rfl) pa_nil)) pa_nil)) pa_nil)) rfl)))), ?_⟩
  obtain ⟨x, br, dx, bvs, ss, c', n', rfl, ex, eb, db, hv, hne, hq⟩ := hsp
  have hl := hv.len
  walk_at "st"
  walk_at "rd"
  refine ⟨br, bvs, ss, c', n', rfl, eb, db, hv, hne, fun H1 t kvs hs1 hn1 et hk tr => ?_⟩
  have ex1 := hs1 _ _ ex
  have htx : t ≠ x := by rintro rfl; rw [ex] at hn1; cases hn1
  walk_at "rd"
  have sb2 : SameBut x H1 (upd (upd H1 x (HO.ins (He.ga K (Str.ofString "Script")) dx (putF (Str.ofString "table") (V.ref t) []))) x (HO.ins (He.ga K (Str.ofString "Script")) dx (putF (Str.ofString "statements") (V.ref br) (putF (Str.ofString "table") (V.ref t) [])))) := (SameBut.refl x H1).put.put
  have ex2 : upd (upd H1 x (HO.ins (He.ga K (Str.ofString "Script")) dx (putF (Str.ofString "table") (V.ref t) []))) x (HO.ins (He.ga K (Str.ofString "Script")) dx (putF (Str.ofString "statements") (V.ref br) (putF (Str.ofString "table") (V.ref t) []))) x = some _ := upd_same
  generalize upd (upd H1 x (HO.ins (He.ga K (Str.ofString "Script")) dx (putF (Str.ofString "table") (V.ref t) []))) x (HO.ins (He.ga K (Str.ofString "Script")) dx (putF (Str.ofString "statements") (V.ref br) (putF (Str.ofString "table") (V.ref t) []))) = H2 at *
  have tp2 : Tp H1 H2 := sb2.tp ex1 (fun _ z => nomatch z)
  have et2 := sb2 _ _ htx et
  have tr2 := tr.mono tp2
  refine ⟨t, kvs, rfl, .inl et2, fun p3 bs3 hn3 hk3 => ?_⟩
  obtain ⟨cs, rfl, hcs, hck⟩ := isKeys_zip hk3 tr2.keys
  have hs3 := same_new (H := H2) (o := .lst ((cs.map (·.1)).map V.ref)) hn3
  have ep3 : upd H2 p3 (.lst ((cs.map (·.1)).map V.ref)) p3 = some _ := upd_same
  generalize upd H2 p3 (.lst ((cs.map (·.1)).map V.ref)) = H3 at *
  have hin : ∀ pl, (∃ b ∈ cs, b.2 = pl) ↔ (restAt ss pl).isSome = true := by
    intro pl
    have h1 : (∃ b ∈ cs, b.2 = pl) ↔ (valV kvs (keyP pl)).isSome = true := by
      constructor
      · rintro ⟨b, hb, rfl⟩
        refine val_of_mem ?_
        rw [← hck]
        exact List.mem_map.mpr ⟨b, hb, rfl⟩
      · intro h
        have := mem_of_val h
        rw [← hck] at this
        obtain ⟨b, hb, e⟩ := List.mem_map.mp this
        exact ⟨b, hb, keyP_inj e⟩
    rw [h1]
    constructor
    · intro h
      obtain ⟨v, hv⟩ := Option.isSome_iff_exists.mp h
      obtain ⟨s, hs, _⟩ := tr2.has pl v hv
      obtain ⟨r, hr⟩ := (ents_top ss pl s).mp hs
      rw [hr]; rfl
    · intro h
      obtain ⟨r, hr⟩ := Option.isSome_iff_exists.mp h
      cases r with
      | nil => exact absurd rfl (restAt_ne hr)
      | cons s r => exact tr2.all pl s ((ents_top ss pl s).mpr ⟨r, hr⟩)
  have hshort : ∀ b ∈ cs, b.2 ≠ [] ∧ b.2.length ≤ 7 := by
    intro b hb
    obtain ⟨r, hr⟩ := Option.isSome_iff_exists.mp ((hin b.2).mp ⟨b, hb, rfl⟩)
    have := restAt_short hv (by decide) hr
    exact ⟨restAt_length hr, by omega⟩
  walk_at "rd"
  refine ⟨p3, cs, rfl, .inl (.inl (by rw [ep3]; simp)), fun b hb => ⟨.inl (.inl (hs3 _ _ (hcs b hb))), (hshort b hb).1⟩, fun cs2 p4 hperm hn4 => ?_⟩
  have hs4 := same_new (H := H3) (o := .lst (cs2.map fun b => V.ref b.1)) hn4
  have ep4 : upd H3 p4 (.lst (cs2.map fun b => V.ref b.1)) p4 = some _ := upd_same
  generalize upd H3 p4 (.lst (cs2.map fun b => V.ref b.1)) = H4 at *
  walk_at "rd"
  rename_i p5 H5 hn5 hs5 hp5 he5
  have hs25 : Same H2 H5 := hs3.trans (hs4.trans hs5)
  have ex5 := hs25 _ _ ex2
  walk_at "rd"
  have sb6 : ∀ o, SameBut x H5 (upd H5 x o) := fun o => (SameBut.refl x H5).put
  have sbA : ∀ o, SameBut x H (upd H5 x o) := fun o => ((SameBut.of hs1).trans sb2).trans ((SameBut.of hs25).trans (sb6 o))
  have hlen : cs2.length ≤ n' := by
    have := congrArg List.length hck
    rw [List.length_map, List.length_map] at this
    rw [hperm.length_eq]; omega
  have tp6 : ∀ o, Tp H5 (upd H5 x o) := fun o => (sb6 o).tp ex5 (fun _ z => nomatch z)
  have tpA : ∀ o, Tp H (upd H5 x o) := fun o => hs1.tp'.trans (tp2.trans (hs25.tp'.trans (tp6 o)))
  refine hq _ cs2.length (sbA _) hlen ⟨dx, t, br, p5, kvs, cs2, bvs, ?_⟩
  exact {
    ins := upd_same
    stm := tpA _ _ _ eb
    all := db.mono (tpA _)
    tab := sb6 _ _ _ htx (hs25 _ _ et2)
    pls := tp6 _ _ _ hp5
    pl := fun b hb => tp6 _ _ _ ((hs3.trans (hs4.trans hs5)) _ _ (hcs b (hperm.mem_iff.mp hb)))
    key := fun pl => by rw [← hin pl]; exact ⟨fun ⟨b, hb, e⟩ => ⟨b, hperm.mem_iff.mp hb, e⟩, fun ⟨b, hb, e⟩ => ⟨b, hperm.mem_iff.mpr hb, e⟩⟩
    val := fun pl s r hr => by
      obtain ⟨v, hvv⟩ := Option.isSome_iff_exists.mp (tr2.all pl s ((ents_top ss pl s).mpr ⟨r, hr⟩))
      obtain ⟨s2, hs2, d2⟩ := tr2.has pl v hvv
      obtain ⟨r2, hr2⟩ := (ents_top ss pl s2).mp hs2
      rw [hr] at hr2; cases hr2
      exact ⟨v, hvv, d2.mono (hs25.tp'.trans (tp6 _))⟩
    len := rfl
    short := fun b hb => (hshort b (hperm.mem_iff.mp hb)).2 }
def sp_as_script (K : PySem.W.Frag) : Sp := fun vs H Q E => ∃ br bvs ss c' n', vs = [.ref br] ∧ H br = some (.tup bvs) ∧ DsAll H bvs ss ∧ Vb 0 0 0 ss c' n' ∧ ss ≠ [] ∧ (∀ H' a n, Same H H' → H a = none → n ≤ n' → ScriptAt K H' a ss n → Q (.ref a) H')
theorem len_as_script (K : PySem.W.Frag) : ∀ (vs : List V) (H : Hp) (Q : VK) (E : XK), sp_as_script K vs H Q E → vs.length = 1 := by
  rintro vs H Q E ⟨_, _, _, _, _, rfl, _⟩
  rfl
theorem ok_as_script (T : Txt K mg) : CallF P w K mg base 10 (He.ga K "as_script") ["script"] (sp_as_script K) := by
  obtain ⟨fd, F⟩ := T.d_as_script
  obtain ⟨fd_Script___init__, G_Script___init__, b_Script___init__, k_Script___init__⟩ := ok_Script___init__ (P := P) (w := w) (base := base) T
  refine ⟨fd, F.ok csas_script (len_as_script K) (fun cdv A outer s H vs Q E hr hsp => ?_), F.bindsN (fun _ _ _ _ _ _ us hl => match us, hl with | [_], _ => rfl), F.kp⟩
  have hu := hu_of hr
  have hu65 : (A.deeper (envOfC "as_script" (defScope sas_script) s.heap.objs.size (He.ga K "as_script") cdv)).units + 65 < cLine := by have := hr.un; omega
  have hu0 := hr.units0
  refine ⟨_, PSs.nox (pss_cons (ps_if (pt_val (pe_callB call_isi (by rfl) T.f_isinstance (by decide +kernel) (pa_cons (pv 0) (pa_cons (pe_glob (v := .ref (He.ga K "Script")) rfl T.g_Script rfl) pa_nil)))) (pss_one (ps_ret (pv 0))) pss_nil)
      (pss_one (ps_try_thru0 (pss_one (ps_ret (pe_make T.k_Script G_Script___init__ (hr.mono (by decide)) (by rfl) T.g_Script b_Script___init__ .nil pass0 (pa_cons (pv 0) pa_nil))))))), ?_⟩
  obtain ⟨br, bvs, ss, c', n', rfl, eb, db, hv, hne, hq⟩ := hsp
  walk_at "st"
  walk_at "rd"
  refine isi_script T eb ?_
  walk_at "rd"
  refine w_gMake fun x dx H1 hn1 hs1 ex _ => ?_
  refine ⟨x, br, dx, bvs, ss, c', n', rfl, ex, hs1 _ _ eb, db.mono hs1.tp', hv, hne, fun H2 n sb hn hsc => ⟨rfl, ?_⟩⟩
  exact hq _ _ _ (SameBut.new hs1 sb hn1) hn1 hn hsc
def sp_Kind___init__ (K : PySem.W.Frag) : Sp := fun vs H Q E => ∃ x nm br b m dx bvs ss c' n', vs = [.ref x, .str nm, .ref br, .int b, .int m] ∧ H x = some (.ins (He.ga K "Kind") dx []) ∧ NameOk nm ∧ 1 ≤ b ∧ b ≤ 3 ∧ 1 ≤ m ∧ m ≤ 3 ∧ H br = some (.tup bvs) ∧ DsAll H bvs ss ∧ Vb 0 0 0 ss c' n' ∧ ss ≠ [] ∧ (∀ H' n, SameBut x H H' → n ≤ n' → KindAt K H' x ⟨nm, ss, n, b, m⟩ → Q .non H')
theorem len_Kind___init__ (K : PySem.W.Frag) : ∀ (vs : List V) (H : Hp) (Q : VK) (E : XK), sp_Kind___init__ K vs H Q E → vs.length = 5 := by
  rintro vs H Q E ⟨_, _, _, _, _, _, _, _, _, _, rfl, _⟩
  rfl
theorem ok_Kind___init__ (T : Txt K mg) : ∃ fd, FnOk P w K mg base CX0 11 (He.ma K (He.ga K "Kind") "__init__") fd ["self", "name", "script", "block", "many"] (sp_Kind___init__ K) ∧ ∃ g, KBn K fd ["self", "name", "script", "block", "many"] 3 ["block", "many"] g (fun vs zs => vs ++ zs) := by
  obtain ⟨fd, F⟩ := T.d_Kind___init__
  obtain ⟨fd_within, G_within, b_within, k_within⟩ := ok_within (P := P) (w := w) (base := base) T
  obtain ⟨fd_as_script, G_as_script, b_as_script, k_as_script⟩ := ok_as_script (P := P) (w := w) (base := base) T
  obtain ⟨fd_is_name, G_is_name, b_is_name, k_is_name⟩ := ok_is_name (P := P) (w := w) (base := base) T
  refine ⟨fd, F.ok csKind___init__ (len_Kind___init__ K) (fun cdv A outer s H vs Q E hr hsp => ?_), ?_⟩
  rotate_left
  · obtain ⟨mv, hb⟩ := F.kbinds0 (ps := ["self", "name", "script", "block", "many"]) 3 ["block", "many"] [] (fun vs _ zs => vs ++ zs) (by simp) (by simp) (fun r _ z => r.append z) (fun _ _ _ _ _ _ us mv ws h1 h2 h3 => match us, mv, ws, h1, h2, h3 with | [_, _, _], [], [_, _], _, _, _ => rfl)
    exact ⟨_, hb⟩
  have hu := hu_of hr
  have hu65 : (A.deeper (envOfC "Kind.__init__" (defScope sKind___init__) s.heap.objs.size (He.ma K (He.ga K "Kind") "__init__") cdv)).units + 65 < cLine := by have := hr.un; omega
  have hu0 := hr.units0
  obtain ⟨_, i_MOST_SESSIONS⟩ := T.i_MOST_SESSIONS
  obtain ⟨_, i_MOST_BLOCK⟩ := T.i_MOST_BLOCK
  refine ⟨_, PSs.nox (pss_cons (ps_if (pt_not (pt_val (pe_call G_is_name (hr.mono (by decide)) (by rfl) T.g_is_name k_is_name b_is_name .nil pass0 (pa_cons (pv 1) pa_nil)))) (pss_one ps_never) pss_nil)
      (pss_cons (ps_set (i := 2) csKind___init__.nd rfl (Or.inl rfl) (pe_call G_as_script (hr.mono (by decide)) (by rfl) T.g_as_script k_as_script b_as_script .nil pass0 (pa_cons (pv 2) pa_nil)))
      (pss_cons (ps_if (pt_not (pt_val (pe_call G_within (hr.mono (by decide)) (by rfl) T.g_within k_within b_within .nil pass0 (pa_cons (pv 3) (pa_cons pe_int (pa_cons (pe_glob (v := .int 3) rfl i_MOST_BLOCK ⟨_, rfl⟩) pa_nil)))))) (pss_one ps_never) pss_nil)
      (pss_cons (ps_if (pt_not (pt_val (pe_call G_within (hr.mono (by decide)) (by rfl) T.g_within k_within b_within .nil pass0 (pa_cons (pv 4) (pa_cons pe_int (pa_cons (pe_glob (v := .int 3) rfl i_MOST_SESSIONS ⟨_, rfl⟩) pa_nil)))))) (pss_one ps_never) pss_nil)
      (pss_cons (ps_fld (pv 0) (pv 1) rfl)
      (pss_cons (ps_fld (pv 0) (pv 2) rfl)
      (pss_cons (ps_fld (pv 0) (pv 3) rfl)
      (pss_one (ps_fld (pv 0) (pv 4) rfl))))))))), ?_⟩
  obtain ⟨x, nm, br, b, m, dx, bvs, ss, c', n', rfl, ex, hnm, hb1, hb2, hm1, hm2, eb, db, hv, hne, hq⟩ := hsp
  walk_at "st"
  walk_at "rd"
  refine ⟨nm, rfl, hnm, ?_⟩
  walk_at "rd"
  refine ⟨br, bvs, ss, c', n', rfl, eb, db, hv, hne, fun H1 sc n hs1 hsn hn hsc => ?_⟩
  have ex1 := hs1 _ _ ex
  have hscx : sc ≠ x := by rintro rfl; rw [ex] at hsn; cases hsn
  walk_at "rd"
  refine u_within ⟨hb1, hb2⟩ ?_
  walk_at "rd"
  refine u_within ⟨hm1, hm2⟩ ?_
  walk_at "rd"
  have sb1 := ((((SameBut.refl x H1).put (o := (HO.ins (He.ga K (Str.ofString "Kind")) dx (putF (Str.ofString "name") (V.str nm) [])))).put (o := (HO.ins (He.ga K (Str.ofString "Kind")) dx
            (putF (Str.ofString "script") (V.ref sc) (putF (Str.ofString "name") (V.str nm) []))))).put (o := (HO.ins (He.ga K (Str.ofString "Kind")) dx
          (putF (Str.ofString "block") (V.int b)
            (putF (Str.ofString "script") (V.ref sc) (putF (Str.ofString "name") (V.str nm) [])))))).put (o := (HO.ins (He.ga K (Str.ofString "Kind")) dx
        (putF (Str.ofString "many") (V.int m) (putF (Str.ofString "block") (V.int b)
            (putF (Str.ofString "script") (V.ref sc) (putF (Str.ofString "name") (V.str nm) []))))))
  exact hq _ n ((SameBut.of hs1).trans sb1) hn ⟨dx, sc, upd_same, hsc.but sb1 ex1⟩
def sp_System___init__ (K : PySem.W.Frag) : Sp := fun vs H Q E => ∃ x ahead window crashes kt dx ps, vs = [.ref x, .int ahead, oV window, .int crashes, .ref kt] ∧ H x = some (.ins (He.ga K "System") dx []) ∧ H kt = some (.tup (List.map (fun b : Addr × Kd => V.ref b.1) ps)) ∧ KindsAt K H ps ∧ Fit (ps.map (·.2)) ahead window crashes ∧
  (∀ H', SameBut x H H' → SysAt K H' x (ps.map (·.2)) ahead window crashes → Q .non H')
def spk_System (K : PySem.W.Frag) : SpK := fun vs zs H Q E => ∃ v rest z1 z2 z3, vs = v :: rest ∧ zs = [z1, z2, z3] ∧ (rest.length = 1 ∨ rest.length = 2) ∧ ∀ t, H t = Option.none → sp_System___init__ K [v, z1, z2, z3, V.ref t] (upd H t (.tup rest)) Q E
theorem ok_System___init__ (T : Txt K mg) : FnKS P w K mg base CX0 5 (He.ma K (He.ga K "System") "__init__") ["ahead", "window", "crashes"] (spk_System K) := by
  obtain ⟨fd, F⟩ := T.d_System___init__
  obtain ⟨fd_system_fault, G_system_fault, b_system_fault, k_system_fault⟩ := ok_system_fault (P := P) (w := w) (base := base) T
  refine fn_starK (k := 4) F csSystem___init__ (fun _ _ _ _ _ _ _ _ _ _ rest h => ?_) (fun cdv A outer s H vs Q E hr hsp => ?_)
  · rcases h with h | h
    · match rest, h with
      | [_], _ => rfl
    · match rest, h with
      | [_, _], _ => rfl
  have hu := hu_of hr
  have hu65 : (A.deeper (envOfC "System.__init__" (defScope sSystem___init__) s.heap.objs.size (He.ma K (He.ga K "System") "__init__") cdv)).units + 65 < cLine := by have := hr.un; omega
  have hu0 := hr.units0
  refine ⟨_, PSs.nox (pss_cons (ps_set (i := 5) csSystem___init__.nd rfl (Or.inl rfl) (pe_call G_system_fault (hr.mono (by decide)) (by rfl) T.g_system_fault k_system_fault b_system_fault .nil pass0 (pa_cons (pv 4) (pa_cons (pv 1) (pa_cons (pv 2) (pa_cons (pv 3) pa_nil))))))
      (pss_cons (ps_if (pt_cmpR op_notN1 (pv 5) pe_non (nomark _)) (pss_one ps_never) pss_nil)
      (pss_cons (ps_fld (pv 0) (pv 4) rfl)
      (pss_cons (ps_fld (pv 0) (pv 1) rfl)
      (pss_cons (ps_fld (pv 0) (pv 2) rfl)
      (pss_cons (ps_fld (pv 0) (pv 3) rfl)
      (pss_one (ps_fld (pv 0) (pe_callTy call_tupN (by rfl) T.f_tuple (by decide +kernel) (pa_cons (pe_lc2 (own := [("kind", 6), ("k", 7)]) rfl csSystem___init__.nd (vs1 := [7]) (pi_tup (pv 4)) (blkOk_by (own := [("kind", 6), ("k", 7)]) (N := ["self", "ahead", "window", "crashes", "kinds", "why", "kind", "k"]) (sc := defScope sSystem___init__) (by decide +kernel)) (by decide) (fun _ _ _ _ _ => (pg_name (i := 6) csSystem___init__.nd rfl (Or.inl rfl))) (fun _ _ _ _ _ => pts_nil) (fun _ _ _ _ _ => (pi_range1 (by rfl) T.f_range (pa_cons (pe_fldB (K := K) rfl (pv 6) rfl) pa_nil))) (fun _ _ _ _ _ => (pg_name (i := 7) csSystem___init__.nd rfl (Or.inl rfl))) (fun _ _ _ _ _ => pts_nil) (fun _ _ _ _ _ => (pe_fldB (K := K) rfl (pv 6) rfl))) pa_nil)) rfl)))))))), ?_⟩
  obtain ⟨x, ahead, window, crashes, kt, dx, ps, rfl, ex, ek, KA, F, hq⟩ := hsp
  walk_at "st"
  walk_at "rd"
  refine ⟨kt, ps, ahead, window, crashes, rfl, ek, KA, F, fun H1 hs1 => ?_⟩
  have ex1 := hs1 _ _ ex
  walk_at "rd"
  have sb2 := ((((SameBut.refl x H1).put (o := (HO.ins (He.ga K (Str.ofString "System")) dx (putF (Str.ofString "kinds") (V.ref kt) [])))).put (o := (HO.ins (He.ga K (Str.ofString "System")) dx
            (putF (Str.ofString "ahead") (V.int ahead) (putF (Str.ofString "kinds") (V.ref kt) []))))).put (o := (HO.ins (He.ga K (Str.ofString "System")) dx
          (putF (Str.ofString "window") (oV window)
            (putF (Str.ofString "ahead") (V.int ahead) (putF (Str.ofString "kinds") (V.ref kt) [])))))).put (o := (HO.ins (He.ga K (Str.ofString "System")) dx
        (putF (Str.ofString "crashes") (V.int crashes)
          (putF (Str.ofString "window") (oV window)
            (putF (Str.ofString "ahead") (V.int ahead) (putF (Str.ofString "kinds") (V.ref kt) []))))))
  have ex2 : upd _ x _ x = some _ := upd_same (H := (upd
        (upd (upd H1 x (HO.ins (He.ga K (Str.ofString "System")) dx (putF (Str.ofString "kinds") (V.ref kt) []))) x
          (HO.ins (He.ga K (Str.ofString "System")) dx
            (putF (Str.ofString "ahead") (V.int ahead) (putF (Str.ofString "kinds") (V.ref kt) []))))
        x
        (HO.ins (He.ga K (Str.ofString "System")) dx
          (putF (Str.ofString "window") (oV window)
            (putF (Str.ofString "ahead") (V.int ahead) (putF (Str.ofString "kinds") (V.ref kt) [])))))) (a := x) (o := (HO.ins (He.ga K (Str.ofString "System")) dx
        (putF (Str.ofString "crashes") (V.int crashes)
          (putF (Str.ofString "window") (oV window)
            (putF (Str.ofString "ahead") (V.int ahead) (putF (Str.ofString "kinds") (V.ref kt) []))))))
  generalize upd (upd
        (upd (upd H1 x (HO.ins (He.ga K (Str.ofString "System")) dx (putF (Str.ofString "kinds") (V.ref kt) []))) x
          (HO.ins (He.ga K (Str.ofString "System")) dx
            (putF (Str.ofString "ahead") (V.int ahead) (putF (Str.ofString "kinds") (V.ref kt) []))))
        x
        (HO.ins (He.ga K (Str.ofString "System")) dx
          (putF (Str.ofString "window") (oV window)
            (putF (Str.ofString "ahead") (V.int ahead) (putF (Str.ofString "kinds") (V.ref kt) []))))) x (HO.ins (He.ga K (Str.ofString "System")) dx
        (putF (Str.ofString "crashes") (V.int crashes)
          (putF (Str.ofString "window") (oV window)
            (putF (Str.ofString "ahead") (V.int ahead) (putF (Str.ofString "kinds") (V.ref kt) []))))) = H2 at *
  have KA2 : KindsAt K H2 ps := (KA.mono hs1).but sb2 ex1
  have tp2 : Tp H1 H2 := sb2.tp ex1 (fun _ z => nomatch z)
  have ek2 := tp2 _ _ (hs1 _ _ ek)
  have hmany : ∀ b ∈ ps, 1 ≤ b.2.many ∧ b.2.many ≤ 3 := by
    intro b hb
    have h1 := F.many b.2 (List.mem_map.mpr ⟨b, hb, rfl⟩)
    obtain ⟨pre, post, hpp⟩ := List.append_of_mem (List.mem_map.mpr ⟨b, hb, rfl⟩ : b.2 ∈ ps.map (·.2))
    have h2 := sum_pre hpp F.many
    have h3 := F.tot
    have h4 : 0 ≤ (pre.map (·.many)).sum := by
      have : ∀ l : List Kd, (∀ k ∈ l, 1 ≤ k.many) → 0 ≤ (l.map (·.many)).sum := by
        intro l
        induction l with
        | nil => intro _; simp
        | cons a l ih => intro h; have := ih fun k hk => h k (by simp [hk]); have := h a (by simp); simp only [List.map_cons, List.sum_cons]; omega
      exact this pre fun k hk => F.many k (by rw [hpp]; simp [hk])
    omega
  have hpl : ps.length ≤ 2 := by have := F.len; simpa using this
  let A : List (Addr × Kd) → List V := fun l => l.flatMap fun b => List.replicate b.2.many.toNat (V.str b.2.name)
  have hA : ∀ l : List (Addr × Kd), A l = (sess (l.map (·.2))).map fun k => V.str k.name := by
    intro l
    show l.flatMap _ = _
    unfold sess
    induction l with
    | nil => rfl
    | cons b l ih => simp only [List.flatMap_cons, List.map_cons, List.map_append, ih, List.map_replicate]
  have hAl : ∀ l : List (Addr × Kd), (∀ b ∈ l, b.2.many ≤ 3) → (A l).length ≤ 3 * l.length := by
    intro l
    induction l with
    | nil => intro _; simp [A]
    | cons b l ih =>
      intro h
      have h1 := ih fun c hc => h c (by simp [hc])
      have h2 := h b (by simp)
      show (List.replicate b.2.many.toNat (V.str b.2.name) ++ A l).length ≤ _
      rw [List.length_append, List.length_replicate, List.length_cons]; omega
  refine ⟨.ref kt, rfl, kt, rfl, ⟨_, sqT ek2⟩, fun D hD => ?_⟩
  refine ⟨fun i m H => m = ps.length - i ∧ i ≤ ps.length ∧ H = upd H2 D (.lst (A (ps.take i))), ⟨ps.length, rfl, Nat.zero_le _, rfl⟩, ?_⟩
  rintro i m H4 ⟨rfl, hi, rfl⟩
  have hsD : ∀ o, Same H2 (upd H2 D o) := fun o => same_new hD
  by_cases hlt : i < ps.length
  · have hat : ps[i]? = some ps[i] := List.getElem?_eq_getElem hlt
    generalize hb : ps[i] = b at hat
    have hbm : b ∈ ps := List.mem_of_getElem? hat
    obtain ⟨e1, e2⟩ := take_at hat
    obtain ⟨dx3, sc3, eb3, _⟩ := KA2 b hbm
    obtain ⟨hm1, hm3⟩ := hmany b hbm
    have hbv : (ps.map fun b => V.ref b.1)[i]? = some (.ref b.1) := by rw [List.getElem?_map, hat]; rfl
    refine .inr ⟨⟨_, _, sqT (hsD _ _ _ ek2), hbv⟩, fun H' => H' = upd H2 D (.lst (A (ps.take (i + 1)))), fun H' e => ⟨_, by omega, rfl, hlt, e⟩, ?_⟩
    rintro y H5 ⟨rfl, hy⟩
    have := hy _ (sqT (hsD _ _ _ ek2))
    rw [hbv] at this
    cases this
    have eb4 := hsD (.lst (A (ps.take i))) _ _ eb3
    refine w_name rfl ⟨rfl, ?_⟩
    walk_at "rd"
    refine w_gR1 (by omega) (by omega) ?_
    have hAi : A (ps.take (i + 1)) = A (ps.take i) ++ List.replicate b.2.many.toNat (V.str b.2.name) := by
      rw [e2]
      show (ps.take i ++ [b]).flatMap _ = _
      simp [A]
    have hAll := hAl (ps.take i) fun c hc => (hmany c (List.mem_of_mem_take hc)).2
    have htl : (ps.take i).length ≤ 2 := by rw [List.length_take]; omega
    refine ⟨fun j k H => k = b.2.many.toNat - j ∧ j ≤ b.2.many.toNat ∧ H = upd H2 D (.lst (A (ps.take i) ++ List.replicate j (V.str b.2.name))), ⟨_, rfl, Nat.zero_le _, by simp⟩, ?_⟩
    rintro j k H6 ⟨rfl, hj, rfl⟩
    by_cases hjl : j < b.2.many.toNat
    · refine .inr ⟨hjl, fun H' => H' = upd H2 D (.lst (A (ps.take i) ++ List.replicate (j + 1) (V.str b.2.name))), fun H' e => ⟨_, by omega, rfl, hjl, e⟩, ?_⟩
      rintro y H7 ⟨rfl, rfl⟩
      have eb5 := hsD (.lst (A (ps.take i) ++ List.replicate j (V.str b.2.name))) _ _ eb3
      refine w_name rfl ⟨rfl, ?_⟩
      walk_at "rd"
      refine ⟨_, upd_same, small1000 (by simp; omega), ?_⟩
      rw [upd_upd, List.append_assoc, ← List.replicate_succ']
    · obtain rfl : j = b.2.many.toNat := by omega
      exact .inl ⟨Nat.le_refl _, by rw [hAi]⟩
  · obtain rfl : i = ps.length := by omega
    refine .inl ⟨⟨_, sqT (hsD _ _ _ ek2), by simp⟩, ?_⟩
    rw [List.take_length]
    have eD : upd H2 D (.lst (A ps)) D = some _ := upd_same
    have hs3 := hsD (.lst (A ps))
    have ex3 := hs3 _ _ ex2
    generalize upd H2 D (.lst (A ps)) = H3 at *
    walk_at "rd"
    rename_i p5 H5 hn5 hs5 hp5 he5
    refine hq _ ((((SameBut.of hs1).trans sb2).trans (SameBut.of (hs3.trans hs5))).trans (SameBut.refl x H5).put) ?_
    have ex5 := hs5 _ _ ex3
    have tp6 : ∀ o, Tp H5 (upd H5 x o) := fun o => (SameBut.refl x H5).put.tp ex5 (fun _ z => nomatch z)
    refine ⟨ps, dx, kt, p5, ⟨upd_same, tp6 _ _ _ (hs5 _ _ (hs3 _ _ ek2)), tp6 _ _ _ (by rw [hp5, hA]), ?_, by simpa [List.map_map, Function.comp_def] using F.nd⟩, rfl⟩
    exact (KA.mono hs1).but ((sb2.trans (SameBut.of (hs3.trans hs5))).trans (SameBut.refl x H5).put) ex1
end
/-! ### what is owned: a graph of mutable objects, by labels -/
inductive Loc where
  | self | pl | lk | tr | st | cm | lo | ex
  | lki (i : Nat) | tri (i : Nat) | sti (i : Nat)
  deriving DecidableEq
structure Ad where
  self : Addr
  dct : Addr
  pl : Addr
  lk : Addr
  tr : Addr
  st : Addr
  cm : Addr
  lo : Addr
  ex : Addr
  lki : Nat → Addr
  tri : Nat → Addr
  sti : Nat → Addr
def Ad.at (A : Ad) : Loc → Addr
  | .self => A.self | .pl => A.pl | .lk => A.lk | .tr => A.tr | .st => A.st | .cm => A.cm | .lo => A.lo | .ex => A.ex
  | .lki i => A.lki i | .tri i => A.tri i | .sti i => A.sti i
structure Lay (ow : Addr → Option Loc) (A : Ad) (Fr H : Hp) (O : Loc → Option HO) : Prop where
  at_ : ∀ l o, O l = some o → H (A.at l) = some o
  own : ∀ l o, O l = some o → ow (A.at l) = some l
  fr : Same Fr H
  sep : ∀ a, ow a ≠ none → Fr a = none
  sup : ∀ a, ow a ≠ none → ∃ o, H a = some o
section
variable {own : Addr → Option Loc} {A A' : Ad} {Fr H H1 : Hp} {O O' : Loc → Option HO} {l l1 m : Loc} {o o0 o1 : HO} {p : Addr}
theorem Lay.ne (L : Lay own A Fr H O) (h : O l = some o) (h1 : O m = some o1) (n : l ≠ m) : A.at l ≠ A.at m := fun e => by
  have h2 := L.own _ _ h
  rw [e, L.own _ _ h1] at h2
  exact n (Option.some.inj h2).symm
theorem Lay.grow (L : Lay own A Fr H O) (s : Same H H1) : Lay own A Fr H1 O :=
  ⟨fun l o h => s _ _ (L.at_ l o h), L.own, L.fr.trans s, L.sep, fun a h => let ⟨o, e⟩ := L.sup a h; ⟨o, s _ _ e⟩⟩
theorem Lay.frame (L : Lay own A Fr H O) (h : O l = some o0) : Same Fr (upd H (A.at l) o) := fun b u e => by
  have : b ≠ A.at l := fun z => by
    have := L.sep (A.at l) (by rw [L.own _ _ h]; simp)
    rw [← z, e] at this; cases this
  rw [upd_ne this]; exact L.fr _ _ e
theorem Lay.write (L : Lay own A Fr H O) (h0 : O l = some o0) (h1 : O' l = some o) (h2 : ∀ m, m ≠ l → O' m = O m) : Lay own A Fr (upd H (A.at l) o) O' where
  at_ := fun m u h => by
    by_cases e : m = l
    · subst e; rw [h1] at h; cases h; exact upd_same
    · rw [h2 m e] at h
      rw [upd_ne (L.ne h h0 e)]; exact L.at_ _ _ h
  own := fun m u h => by
    by_cases e : m = l
    · subst e; exact L.own _ _ h0
    · rw [h2 m e] at h; exact L.own _ _ h
  fr := L.frame h0
  sep := L.sep
  sup := fun a h => by
    by_cases e : a = A.at l
    · exact ⟨o, by rw [e]; exact upd_same⟩
    · obtain ⟨u, hu⟩ := L.sup a h; exact ⟨u, by rw [upd_ne e]; exact hu⟩
/-- a new object takes the place l1, the one at l is written -/
theorem Lay.swap (L : Lay own A Fr H O) (hn : H p = none) (hs : Same H H1) (hp : H1 p = some o1) (h0 : O l = some o0) (hne : l ≠ l1) (ha : A'.at l1 = p) (ha2 : ∀ m, m ≠ l1 → A'.at m = A.at m) (h1 : O' l = some o) (h1' : O' l1 = some o1) (h2 : ∀ m, m ≠ l → m ≠ l1 → O' m = O m) :
    Lay (fun a => if a = p then some l1 else own a) A' Fr (upd H1 (A.at l) o) O' := by
  have hpl : p ≠ A.at l := fun e => by have := L.at_ _ _ h0; rw [← e, hn] at this; cases this
  have hpn : ∀ {m u}, O m = some u → A.at m ≠ p := fun {m u} h e => by have := L.at_ _ _ h; rw [e, hn] at this; cases this
  have hFp : Fr p = none := by
    cases e : Fr p with
    | none => rfl
    | some u => rw [L.fr _ _ e] at hn; cases hn
  refine ⟨fun m u h => ?_, fun m u h => ?_, fun b u e => ?_, fun a h => ?_, fun a h => ?_⟩
  · by_cases e1 : m = l1
    · subst e1; rw [h1'] at h; cases h; rw [ha, upd_ne hpl]; exact hp
    · rw [ha2 m e1]
      by_cases e : m = l
      · subst e; rw [h1] at h; cases h; exact upd_same
      · rw [h2 m e e1] at h
        rw [upd_ne (L.ne h h0 e)]; exact hs _ _ (L.at_ _ _ h)
  · by_cases e1 : m = l1
    · subst e1; rw [ha, if_pos rfl]
    · rw [ha2 m e1]
      by_cases e : m = l
      · subst e; rw [if_neg (hpn h0)]; exact L.own _ _ h0
      · rw [h2 m e e1] at h; rw [if_neg (hpn h)]; exact L.own _ _ h
  · have : b ≠ A.at l := fun z => by
      have := L.sep (A.at l) (by rw [L.own _ _ h0]; simp)
      rw [← z, e] at this; cases this
    rw [upd_ne this]; exact hs _ _ (L.fr _ _ e)
  · by_cases e : a = p
    · subst e; exact hFp
    · rw [if_neg e] at h; exact L.sep a h
  · by_cases e : a = A.at l
    · exact ⟨o, by rw [e]; exact upd_same⟩
    · rw [upd_ne e]
      by_cases e2 : a = p
      · subst e2; exact ⟨o1, hp⟩
      · rw [if_neg e2] at h
        obtain ⟨u, hu⟩ := L.sup a h
        exact ⟨u, hs _ _ hu⟩
theorem Lay.tp (L : Lay own A Fr H O) (h0 : O l = some o0) (ho : ∀ xs, o0 ≠ .tup xs) : Tp H (upd H (A.at l) o) := (SameBut.put (SameBut.refl _ H)).tp (L.at_ _ _ h0) ho
end
/-! ### the state of a system at work -/
structure Rs where
  height : Int
  noted : Int
  crashes : Int
  rests : List (List Sm)
  locks : List (List Str)
  trans : List (List Int)
  stores : List (List Int)
  commits : List (Int × List Int)
  lost : List Int
  spread : Option Int
def rg (a b : Int) : List Int := (List.range (b - a).toNat).map fun i => a + (i : Nat)
def Rs.fin (B : List (List Sm)) (s : Nat) (R : Rs) : Rs := { R with lost := R.lost ++ R.trans.getD s [], trans := R.trans.set s [], locks := R.locks.set s [], rests := R.rests.set s (B.getD s []) }
def Rs.dropS (s : Nat) (R : Rs) : Rs := { R with lost := R.lost ++ R.stores.getD s [], stores := R.stores.set s [] }
def Rs.restart (B : List (List Sm)) (s : Nat) (R : Rs) : Rs := (R.dropS s).fin B s
def Rs.loseAll (B : List (List Sm)) (n : Nat) (R : Rs) : Rs := (List.range n).foldl (fun R s => R.restart B s) R
def Rs.crash (B : List (List Sm)) (ahead : Int) (n : Nat) (R : Rs) : Rs :=
  let R1 := R.loseAll B n
  { R1 with lost := R1.lost ++ rg R1.height R1.noted, height := R1.noted, noted := R1.noted + ahead, crashes := R1.crashes - 1 }
def Rs.handOut (blk ahead : Int) (s : Nat) (R : Rs) : Rs := { R with stores := R.stores.set s (rg R.height (R.height + blk)), height := R.height + blk, noted := if R.noted < R.height + blk then R.height + blk + ahead else R.noted }
def Rs.pick (s : Nat) (R : Rs) : Rs := { R with trans := R.trans.set s (R.trans.getD s [] ++ [(R.stores.getD s []).headD 0]), stores := R.stores.set s (R.stores.getD s []).tail }
def Rs.take (blk ahead : Int) (s : Nat) (R : Rs) : Rs := (if R.stores.getD s [] = [] then R.handOut blk ahead s else R).pick s
def Rs.commit (s : Nat) (R : Rs) : Rs := if R.trans.getD s [] = [] then R else { R with commits := R.commits ++ [((s : Int), R.trans.getD s [])], trans := R.trans.set s [] }
def Rs.rollback (s : Nat) (R : Rs) : Rs := { R with lost := R.lost ++ R.trans.getD s [], trans := R.trans.set s [] }
def Rs.hold (s : Nat) (n : Str) (held : Bool) (R : Rs) : Rs := { R with locks := R.locks.set s ((R.locks.getD s []).filter (fun x => !decide (x = n)) ++ if held then [n] else []) }
def Rs.act (blk ahead : Int) (s : Nat) (st : Sm) (R : Rs) : Rs := match st with
  | .take => R.take blk ahead s
  | .commit => R.commit s
  | .rollback => R.rollback s
  | .drop => R.dropS s
  | .lock n => R.hold s n true
  | .unlock n => R.hold s n false
  | _ => R
def Rs.adv (B : List (List Sm)) (s : Nat) (r : List Sm) (R : Rs) : Rs := if r = [] then R.fin B s else { R with rests := R.rests.set s r }
def Rs.exec (B : List (List Sm)) (blk ahead : Int) (s : Nat) (st : Sm) (a : Int) (R : Rs) : Rs := match st with
  | .leave => R.restart B s
  | st => (R.act blk ahead s st).adv B s (st.next a (R.rests.getD s []).tail)
def heads (rows : List (List Int)) : List Int := rows.filterMap List.head?
def minL : List Int → Option Int
  | [] => none
  | x :: xs => some (xs.foldl (fun a b => if b < a then b else a) x)
def Rs.low (R : Rs) : Option Int := minL (heads (R.trans ++ R.stores))
def Rs.spr (R : Rs) : Rs := match R.low with
  | none => R
  | some l => if R.spread = none ∨ (∃ p, R.spread = some p ∧ p < R.height - l) then { R with spread := some (R.height - l) } else R
structure Lens (n : Nat) (R : Rs) : Prop where
  rests : R.rests.length = n
  locks : R.locks.length = n
  trans : R.trans.length = n
  stores : R.stores.length = n
def lsum (l : List (List Int)) : Nat := (l.map List.length).sum
def Rs.tot (R : Rs) : Nat := R.lost.length + lsum R.trans + lsum R.stores
structure Lim (R : Rs) : Prop where
  h0 : 0 ≤ R.height
  h1 : R.height ≤ R.noted
  h2 : R.noted ≤ 1000000
  tot : R.tot ≤ 1000000
  cm : R.commits.length ≤ 1000000
/-! ### a Running in the heap -/
def fsRun (sy h n c pl lk tr st cm lo sp ex sv : V) : List (Str × V) :=
  [("system", sy), ("height", h), ("noted", n), ("crashes", c), ("places", pl), ("locks", lk), ("transactions", tr), ("stores", st), ("commits", cm), ("lost", lo), ("spread", sp), ("executed", ex), ("saved", sv)]
def refs (n : Nat) (f : Nat → Addr) : List V := (List.range n).map fun i => .ref (f i)
def runO (K : PySem.W.Frag) (n : Nat) (sy : Addr) (A : Ad) (R : Rs) (pv cv xv : List V) : Loc → Option HO
  | .self => some (.ins (He.ga K "Running") A.dct (fsRun (.ref sy) (.int R.height) (.int R.noted) (.int R.crashes) (.ref A.pl) (.ref A.lk) (.ref A.tr) (.ref A.st) (.ref A.cm) (.ref A.lo) (oV R.spread) (.ref A.ex) .non))
  | .pl => some (.lst pv)
  | .lk => some (.lst (refs n A.lki))
  | .tr => some (.lst (refs n A.tri))
  | .st => some (.lst (refs n A.sti))
  | .cm => some (.lst cv)
  | .lo => some (.lst (R.lost.map V.int))
  | .ex => some (.lst xv)
  | .lki i => if i < n then some (.lst ((R.locks.getD i []).map V.str)) else none
  | .tri i => if i < n then some (.lst ((R.trans.getD i []).map V.int)) else none
  | .sti i => if i < n then some (.lst ((R.stores.getD i []).map V.int)) else none
structure SysD where
  ks : List Kd
  ahead : Int
  window : Option Int
  crashes : Int
def SysD.ss (D : SysD) : List Kd := sess D.ks
def SysD.n (D : SysD) : Nat := D.ss.length
def SysD.B (D : SysD) : List (List Sm) := D.ss.map (·.ss)
def SysD.blk (D : SysD) (s : Nat) : Int := (D.ss.map (·.block)).getD s 0
structure DOk (D : SysD) : Prop where
  ne : ∀ ss ∈ D.B, ss ≠ []
  n3 : D.n ≤ 3
  ah : 0 ≤ D.ahead ∧ D.ahead ≤ 4
  blk : ∀ k ∈ D.ss, 1 ≤ k.block ∧ k.block ≤ 3
/-- the places tell the rests -/
def PlOk (H : Hp) (D : SysD) (rests : List (List Sm)) (pv : List V) : Prop := pv.length = D.n ∧ ∀ (i : Nat) (r : List Sm), rests[i]? = some r → ∃ (a : Addr) (pl : List Int) (ss : List Sm), pv[i]? = some (V.ref a) ∧ H a = some (.tup (pl.map V.int)) ∧ D.B[i]? = some ss ∧ restAt ss pl = some r
def CmOk (H : Hp) : List (Int × List Int) → List V → Prop
  | [], [] => True
  | (s, ns) :: cs, v :: vs => (∃ (a b : Addr), v = V.ref a ∧ H a = some (.tup [V.int s, V.ref b]) ∧ H b = some (.tup (ns.map V.int))) ∧ CmOk H cs vs
  | _, _ => False
theorem PlOk.mono {H H' : Hp} {D : SysD} {rests : List (List Sm)} {pv : List V} (h : PlOk H D rests pv) (t : Tp H H') : PlOk H' D rests pv :=
  ⟨h.1, fun i r e => let ⟨a, pl, ss, h1, h2, h3, h4⟩ := h.2 i r e; ⟨a, pl, ss, h1, t _ _ h2, h3, h4⟩⟩
theorem CmOk.mono {H H' : Hp} (t : Tp H H') : ∀ {cs : List (Int × List Int)} {vs : List V}, CmOk H cs vs → CmOk H' cs vs
  | [], [], _ => trivial
  | (_, _) :: _, _ :: _, ⟨⟨a, b, h1, h2, h3⟩, r⟩ => ⟨⟨a, b, h1, t _ _ h2, t _ _ h3⟩, r.mono t⟩
  | [], _ :: _, h => h.elim
  | _ :: _, [], h => h.elim
theorem CmOk.snoc {H : Hp} {s : Int} {ns : List Int} {a b : Addr} (h1 : H a = some (.tup [.int s, .ref b])) (h2 : H b = some (.tup (ns.map V.int))) : ∀ {cs : List (Int × List Int)} {vs : List V}, CmOk H cs vs → CmOk H (cs ++ [(s, ns)]) (vs ++ [V.ref a])
  | [], [], _ => ⟨⟨a, b, rfl, h1, h2⟩, trivial⟩
  | (_, _) :: _, _ :: _, ⟨h, r⟩ => ⟨h, CmOk.snoc h1 h2 r⟩
  | [], _ :: _, h => h.elim
  | _ :: _, [], h => h.elim
theorem CmOk.length {H : Hp} : ∀ {cs : List (Int × List Int)} {vs : List V}, CmOk H cs vs → vs.length = cs.length
  | [], [], _ => rfl
  | (_, _) :: _, _ :: _, ⟨_, r⟩ => by simp [r.length]
  | [], _ :: _, h => h.elim
  | _ :: _, [], h => h.elim
structure RunIn (K : PySem.W.Frag) (Fr H : Hp) (sy : Addr) (D : SysD) (R : Rs) (xv : List V) (p : Addr) (ow : Addr → Option Loc) (A : Ad) (pv cv : List V) : Prop where
  self : A.self = p
  lay : Lay ow A Fr H (runO K D.n sy A R pv cv xv)
  pl : PlOk H D R.rests pv
  cm : CmOk H R.commits cv
  len : Lens D.n R
  sys : SysAt K Fr sy D.ks D.ahead D.window D.crashes
  dok : DOk D
def RunAt (K : PySem.W.Frag) (Fr H : Hp) (sy : Addr) (D : SysD) (R : Rs) (xv : List V) (p : Addr) : Prop := ∃ ow A pv cv, RunIn K Fr H sy D R xv p ow A pv cv
theorem RunIn.grow {K : PySem.W.Frag} {Fr H H1 : Hp} {sy : Addr} {D : SysD} {R : Rs} {xv : List V} {p : Addr} {ow : Addr → Option Loc} {A : Ad} {pv cv : List V} (r : RunIn K Fr H sy D R xv p ow A pv cv) (s : Same H H1) : RunIn K Fr H1 sy D R xv p ow A pv cv :=
  ⟨r.self, r.lay.grow s, r.pl.mono s.tp', r.cm.mono s.tp', r.len, r.sys, r.dok⟩
theorem RunAt.grow {K : PySem.W.Frag} {Fr H H1 : Hp} {sy : Addr} {D : SysD} {R : Rs} {xv : List V} {p : Addr} (s : Same H H1) : RunAt K Fr H sy D R xv p → RunAt K Fr H1 sy D R xv p := fun ⟨a, b, c, d, r⟩ => ⟨a, b, c, d, r.grow s⟩
theorem refs_at {n s : Nat} {f : Nat → Addr} (h : s < n) : (refs n f)[s]? = some (.ref (f s)) := by
  unfold refs; rw [List.getElem?_map, List.getElem?_range h]; rfl
theorem refs_length {n : Nat} {f : Nat → Addr} : (refs n f).length = n := by simp [refs]
theorem refs_set {n s : Nat} {f g : Nat → Addr} {p : Addr} (hs : g s = p) (ho : ∀ i, i ≠ s → g i = f i) : refs n g = (refs n f).set s (V.ref p) := by
  apply List.ext_getElem?
  intro i
  rw [List.getElem?_set, refs_length]
  by_cases h : i < n
  · rw [refs_at h, refs_at h]
    by_cases e : s = i
    · subst e; rw [if_pos rfl, if_pos h, hs]
    · rw [if_neg e, ho i (fun z => e z.symm)]
  · rw [List.getElem?_eq_none (by rw [refs_length]; omega), List.getElem?_eq_none (l := refs n f) (by rw [refs_length]; omega)]
    by_cases e : s = i
    · subst e; rw [if_pos rfl, if_neg h]
    · rw [if_neg e]
theorem getD_set_ne {α : Type} {l : List α} {s i : Nat} {x d : α} (h : i ≠ s) : (l.set s x).getD i d = l.getD i d := by
  simp [List.getD_eq_getElem?_getD, List.getElem?_set, Ne.symm h]
theorem getD_set_eq {α : Type} {l : List α} {s : Nat} {x d : α} (h : s < l.length) : (l.set s x).getD s d = x := by
  simp [List.getD_eq_getElem?_getD, List.getElem?_set, h]
section
variable {K : PySem.W.Frag} {Fr H H1 : Hp} {sy : Addr} {D : SysD} {R : Rs} {xv : List V} {p : Addr} {ow : Addr → Option Loc} {A : Ad} {pv cv : List V}
namespace RunIn
theorem eself (r : RunIn K Fr H sy D R xv p ow A pv cv) : H p = some (.ins (He.ga K "Running") A.dct (fsRun (.ref sy) (.int R.height) (.int R.noted) (.int R.crashes) (.ref A.pl) (.ref A.lk) (.ref A.tr) (.ref A.st) (.ref A.cm) (.ref A.lo) (oV R.spread) (.ref A.ex) .non)) := by
  have := r.lay.at_ .self _ rfl
  rw [← r.self]; exact this
theorem esys (r : RunIn K Fr H sy D R xv p ow A pv cv) : ∃ dx kt st, H sy = some (.ins (He.ga K "System") dx (fsSystem (.ref kt) (.int D.ahead) (oV D.window) (.int D.crashes) (.ref st))) := by
  obtain ⟨ps, dx, kt, st, s, _⟩ := r.sys
  exact ⟨dx, kt, st, r.lay.fr _ _ s.ins⟩
theorem sne (r : RunIn K Fr H sy D R xv p ow A pv cv) : sy ≠ p := fun e => by
  obtain ⟨ps, dx, kt, st, s, _⟩ := r.sys
  have h := r.lay.sep p (by rw [← r.self]; have := r.lay.own .self _ rfl; rw [show A.self = A.at .self from rfl, this]; simp)
  rw [← e, s.ins] at h; cases h
theorem epl (r : RunIn K Fr H sy D R xv p ow A pv cv) : H A.pl = some (.lst pv) := r.lay.at_ .pl _ rfl
theorem elk (r : RunIn K Fr H sy D R xv p ow A pv cv) : H A.lk = some (.lst (refs D.n A.lki)) := r.lay.at_ .lk _ rfl
theorem etr (r : RunIn K Fr H sy D R xv p ow A pv cv) : H A.tr = some (.lst (refs D.n A.tri)) := r.lay.at_ .tr _ rfl
theorem est (r : RunIn K Fr H sy D R xv p ow A pv cv) : H A.st = some (.lst (refs D.n A.sti)) := r.lay.at_ .st _ rfl
theorem ecm (r : RunIn K Fr H sy D R xv p ow A pv cv) : H A.cm = some (.lst cv) := r.lay.at_ .cm _ rfl
theorem elo (r : RunIn K Fr H sy D R xv p ow A pv cv) : H A.lo = some (.lst (R.lost.map V.int)) := r.lay.at_ .lo _ rfl
theorem eex (r : RunIn K Fr H sy D R xv p ow A pv cv) : H A.ex = some (.lst xv) := r.lay.at_ .ex _ rfl
theorem elki (r : RunIn K Fr H sy D R xv p ow A pv cv) {i : Nat} (h : i < D.n) : H (A.lki i) = some (.lst ((R.locks.getD i []).map V.str)) := r.lay.at_ (.lki i) _ (if_pos h)
theorem etri (r : RunIn K Fr H sy D R xv p ow A pv cv) {i : Nat} (h : i < D.n) : H (A.tri i) = some (.lst ((R.trans.getD i []).map V.int)) := r.lay.at_ (.tri i) _ (if_pos h)
theorem esti (r : RunIn K Fr H sy D R xv p ow A pv cv) {i : Nat} (h : i < D.n) : H (A.sti i) = some (.lst ((R.stores.getD i []).map V.int)) := r.lay.at_ (.sti i) _ (if_pos h)
/-- what does not touch the places and commits: a field of the instance -/
theorem fld {R' : Rs} {o : HO} (r : RunIn K Fr H sy D R xv p ow A pv cv)
    (ho : o = .ins (He.ga K "Running") A.dct (fsRun (.ref sy) (.int R'.height) (.int R'.noted) (.int R'.crashes) (.ref A.pl) (.ref A.lk) (.ref A.tr) (.ref A.st) (.ref A.cm) (.ref A.lo) (oV R'.spread) (.ref A.ex) .non))
    (h1 : R'.rests = R.rests) (h2 : R'.locks = R.locks) (h3 : R'.trans = R.trans) (h4 : R'.stores = R.stores) (h5 : R'.commits = R.commits) (h6 : R'.lost = R.lost) : RunIn K Fr (upd H p o) sy D R' xv p ow A pv cv := by
  have tp : Tp H (upd H (A.at .self) o) := r.lay.tp (o0 := _) (l := .self) rfl (fun _ z => nomatch z)
  have e : A.at .self = p := r.self
  rw [e] at tp
  refine ⟨r.self, ?_, by rw [h1]; exact r.pl.mono tp, by rw [h5]; exact r.cm.mono tp, ⟨by rw [h1]; exact r.len.rests, by rw [h2]; exact r.len.locks, by rw [h3]; exact r.len.trans, by rw [h4]; exact r.len.stores⟩, r.sys, r.dok⟩
  have := r.lay.write (l := .self) (o0 := _) (o := o) (O' := runO K D.n sy A R' pv cv xv) rfl (by rw [ho]; rfl) (fun m hm => by
    cases m with
    | self => exact absurd rfl hm
    | lki i => simp only [runO, h2]
    | tri i => simp only [runO, h3]
    | sti i => simp only [runO, h4]
    | lo => simp only [runO, h6]
    | _ => rfl)
  rw [e] at this
  exact this
/-- lost grows -/
theorem lose {zs : List Int} (r : RunIn K Fr H sy D R xv p ow A pv cv) : RunIn K Fr (upd H A.lo (.lst (R.lost.map V.int ++ zs.map V.int))) sy D { R with lost := R.lost ++ zs } xv p ow A pv cv := by
  have tp : Tp H (upd H (A.at .lo) (.lst (R.lost.map V.int ++ zs.map V.int))) := r.lay.tp (o0 := _) (l := .lo) rfl (fun _ z => nomatch z)
  refine ⟨r.self, ?_, r.pl.mono tp, r.cm.mono tp, ⟨r.len.rests, r.len.locks, r.len.trans, r.len.stores⟩, r.sys, r.dok⟩
  refine r.lay.write (l := .lo) (o0 := _) (O' := runO K D.n sy A { R with lost := R.lost ++ zs } pv cv xv) rfl (by simp [runO]) (fun m hm => ?_)
  cases m <;> first | rfl | exact absurd rfl hm
/-- executed grows -/
theorem did {x : V} (r : RunIn K Fr H sy D R xv p ow A pv cv) : RunIn K Fr (upd H A.ex (.lst (xv ++ [x]))) sy D R (xv ++ [x]) p ow A pv cv := by
  have tp : Tp H (upd H (A.at .ex) (.lst (xv ++ [x]))) := r.lay.tp (o0 := _) (l := .ex) rfl (fun _ z => nomatch z)
  refine ⟨r.self, ?_, r.pl.mono tp, r.cm.mono tp, r.len, r.sys, r.dok⟩
  refine r.lay.write (l := .ex) (o0 := _) (O' := runO K D.n sy A R pv cv (xv ++ [x])) rfl rfl (fun m hm => ?_)
  cases m <;> first | rfl | exact absurd rfl hm
/-- a commit -/
theorem commit {s : Int} {ns : List Int} {a b : Addr} (r : RunIn K Fr H sy D R xv p ow A pv cv) (ea : H a = some (.tup [.int s, .ref b])) (eb : H b = some (.tup (ns.map V.int))) : RunIn K Fr (upd H A.cm (.lst (cv ++ [.ref a]))) sy D { R with commits := R.commits ++ [(s, ns)] } xv p ow A pv (cv ++ [.ref a]) := by
  have tp : Tp H (upd H (A.at .cm) (.lst (cv ++ [.ref a]))) := r.lay.tp (o0 := _) (l := .cm) rfl (fun _ z => nomatch z)
  refine ⟨r.self, ?_, r.pl.mono tp, CmOk.snoc (tp _ _ ea) (tp _ _ eb) (r.cm.mono tp), ⟨r.len.rests, r.len.locks, r.len.trans, r.len.stores⟩, r.sys, r.dok⟩
  refine r.lay.write (l := .cm) (o0 := _) (O' := runO K D.n sy A { R with commits := R.commits ++ [(s, ns)] } pv (cv ++ [.ref a]) xv) rfl rfl (fun m hm => ?_)
  cases m <;> first | rfl | exact absurd rfl hm
/-- a place -/
theorem place {s : Nat} {a : Addr} {pl : List Int} {ss x : List Sm} (r : RunIn K Fr H sy D R xv p ow A pv cv) (hs : s < D.n) (ea : H a = some (.tup (pl.map V.int))) (hb : D.B[s]? = some ss) (hr : restAt ss pl = some x) :
    RunIn K Fr (upd H A.pl (.lst (pv.set s (.ref a)))) sy D { R with rests := R.rests.set s x } xv p ow A (pv.set s (.ref a)) cv := by
  have tp : Tp H (upd H (A.at .pl) (.lst (pv.set s (.ref a)))) := r.lay.tp (o0 := _) (l := .pl) rfl (fun _ z => nomatch z)
  refine ⟨r.self, ?_, ?_, r.cm.mono tp, ⟨by simp [r.len.rests], r.len.locks, r.len.trans, r.len.stores⟩, r.sys, r.dok⟩
  · refine r.lay.write (l := .pl) (o0 := _) (O' := runO K D.n sy A { R with rests := R.rests.set s x } (pv.set s (.ref a)) cv xv) rfl rfl (fun m hm => ?_)
    cases m <;> first | rfl | exact absurd rfl hm
  · refine PlOk.mono ?_ tp
    refine ⟨by simp [r.pl.1], fun i y e => ?_⟩
    have hp := r.pl.1
    by_cases h : s = i
    · subst h
      have e : (R.rests.set s x)[s]? = some y := e
      rw [List.getElem?_set_self (by rw [r.len.rests]; exact hs)] at e
      cases e
      exact ⟨a, pl, ss, by rw [List.getElem?_set_self (by omega)], ea, hb, hr⟩
    · have e : (R.rests.set s x)[i]? = some y := e
      rw [List.getElem?_set_ne h] at e
      obtain ⟨a2, pl2, ss2, h1, h2, h3, h4⟩ := r.pl.2 i y e
      exact ⟨a2, pl2, ss2, by rw [List.getElem?_set_ne h]; exact h1, h2, h3, h4⟩
/-- an inner list is written -/
theorem wtri {s : Nat} {zs : List Int} (r : RunIn K Fr H sy D R xv p ow A pv cv) (hs : s < D.n) : RunIn K Fr (upd H (A.tri s) (.lst (zs.map V.int))) sy D { R with trans := R.trans.set s zs } xv p ow A pv cv := by
  have tp : Tp H (upd H (A.at (.tri s)) (.lst (zs.map V.int))) := r.lay.tp (o0 := _) (l := .tri s) (if_pos hs) (fun _ z => nomatch z)
  refine ⟨r.self, ?_, r.pl.mono tp, r.cm.mono tp, ⟨r.len.rests, r.len.locks, by simp [r.len.trans], r.len.stores⟩, r.sys, r.dok⟩
  refine r.lay.write (l := .tri s) (o0 := _) (O' := runO K D.n sy A { R with trans := R.trans.set s zs } pv cv xv) (if_pos hs) ?_ (fun m hm => ?_)
  · show (if s < D.n then _ else _) = _
    rw [if_pos hs, getD_set_eq (by rw [r.len.trans]; exact hs)]
  · cases m with
    | tri i => simp only [runO]; rw [getD_set_ne (fun e => hm (by rw [e]))]
    | _ => rfl
theorem wsti {s : Nat} {zs : List Int} (r : RunIn K Fr H sy D R xv p ow A pv cv) (hs : s < D.n) : RunIn K Fr (upd H (A.sti s) (.lst (zs.map V.int))) sy D { R with stores := R.stores.set s zs } xv p ow A pv cv := by
  have tp : Tp H (upd H (A.at (.sti s)) (.lst (zs.map V.int))) := r.lay.tp (o0 := _) (l := .sti s) (if_pos hs) (fun _ z => nomatch z)
  refine ⟨r.self, ?_, r.pl.mono tp, r.cm.mono tp, ⟨r.len.rests, r.len.locks, r.len.trans, by simp [r.len.stores]⟩, r.sys, r.dok⟩
  refine r.lay.write (l := .sti s) (o0 := _) (O' := runO K D.n sy A { R with stores := R.stores.set s zs } pv cv xv) (if_pos hs) ?_ (fun m hm => ?_)
  · show (if s < D.n then _ else _) = _
    rw [if_pos hs, getD_set_eq (by rw [r.len.stores]; exact hs)]
  · cases m with
    | sti i => simp only [runO]; rw [getD_set_ne (fun e => hm (by rw [e]))]
    | _ => rfl
/-- an inner list is replaced by a new one -/
theorem ntri {s : Nat} {zs : List Int} {q : Addr} (r : RunIn K Fr H sy D R xv p ow A pv cv) (hs : s < D.n) (hn : H q = none) (sm : Same H H1) (eq : H1 q = some (.lst (zs.map V.int))) : RunAt K Fr (upd H1 A.tr (.lst ((refs D.n A.tri).set s (.ref q)))) sy D { R with trans := R.trans.set s zs } xv p := by
  have tp : Tp H (upd H1 A.tr (.lst ((refs D.n A.tri).set s (.ref q)))) := sm.tp'.trans ((SameBut.put (SameBut.refl _ H1)).tp (sm _ _ r.etr) (fun _ z => nomatch z))
  refine ⟨fun a => if a = q then some (.tri s) else ow a, { A with tri := fun i => if i = s then q else A.tri i }, pv, cv, r.self, ?_, r.pl.mono tp, r.cm.mono tp, ⟨r.len.rests, r.len.locks, by simp [r.len.trans], r.len.stores⟩, r.sys, r.dok⟩
  refine r.lay.swap (l := .tr) (l1 := .tri s) (A' := { A with tri := fun i => if i = s then q else A.tri i }) (O' := runO K D.n sy _ { R with trans := R.trans.set s zs } pv cv xv) hn sm eq rfl (by simp) (if_pos rfl) (fun m hm => ?_) ?_ ?_ (fun m hm hm2 => ?_)
  · cases m with
    | tri i => exact if_neg (fun e => hm (by rw [e]))
    | _ => rfl
  · exact congrArg (fun x => some (HO.lst x)) (refs_set (n := D.n) (f := A.tri) (g := fun i => if i = s then q else A.tri i) (if_pos rfl) (fun i h => if_neg h))
  · show (if s < D.n then _ else _) = _
    rw [if_pos hs, getD_set_eq (by rw [r.len.trans]; exact hs)]
  · cases m with
    | tr => exact absurd rfl hm
    | tri i => simp only [runO]; rw [getD_set_ne (fun e => hm2 (by rw [e]))]
    | _ => rfl
theorem nsti {s : Nat} {zs : List Int} {q : Addr} (r : RunIn K Fr H sy D R xv p ow A pv cv) (hs : s < D.n) (hn : H q = none) (sm : Same H H1) (eq : H1 q = some (.lst (zs.map V.int))) : RunAt K Fr (upd H1 A.st (.lst ((refs D.n A.sti).set s (.ref q)))) sy D { R with stores := R.stores.set s zs } xv p := by
  have tp : Tp H (upd H1 A.st (.lst ((refs D.n A.sti).set s (.ref q)))) := sm.tp'.trans ((SameBut.put (SameBut.refl _ H1)).tp (sm _ _ r.est) (fun _ z => nomatch z))
  refine ⟨fun a => if a = q then some (.sti s) else ow a, { A with sti := fun i => if i = s then q else A.sti i }, pv, cv, r.self, ?_, r.pl.mono tp, r.cm.mono tp, ⟨r.len.rests, r.len.locks, r.len.trans, by simp [r.len.stores]⟩, r.sys, r.dok⟩
  refine r.lay.swap (l := .st) (l1 := .sti s) (A' := { A with sti := fun i => if i = s then q else A.sti i }) (O' := runO K D.n sy _ { R with stores := R.stores.set s zs } pv cv xv) hn sm eq rfl (by simp) (if_pos rfl) (fun m hm => ?_) ?_ ?_ (fun m hm hm2 => ?_)
  · cases m with
    | sti i => exact if_neg (fun e => hm (by rw [e]))
    | _ => rfl
  · exact congrArg (fun x => some (HO.lst x)) (refs_set (n := D.n) (f := A.sti) (g := fun i => if i = s then q else A.sti i) (if_pos rfl) (fun i h => if_neg h))
  · show (if s < D.n then _ else _) = _
    rw [if_pos hs, getD_set_eq (by rw [r.len.stores]; exact hs)]
  · cases m with
    | st => exact absurd rfl hm
    | sti i => simp only [runO]; rw [getD_set_ne (fun e => hm2 (by rw [e]))]
    | _ => rfl
theorem nlki {s : Nat} {zs : List Str} {q : Addr} (r : RunIn K Fr H sy D R xv p ow A pv cv) (hs : s < D.n) (hn : H q = none) (sm : Same H H1) (eq : H1 q = some (.lst (zs.map V.str))) : RunAt K Fr (upd H1 A.lk (.lst ((refs D.n A.lki).set s (.ref q)))) sy D { R with locks := R.locks.set s zs } xv p := by
  have tp : Tp H (upd H1 A.lk (.lst ((refs D.n A.lki).set s (.ref q)))) := sm.tp'.trans ((SameBut.put (SameBut.refl _ H1)).tp (sm _ _ r.elk) (fun _ z => nomatch z))
  refine ⟨fun a => if a = q then some (.lki s) else ow a, { A with lki := fun i => if i = s then q else A.lki i }, pv, cv, r.self, ?_, r.pl.mono tp, r.cm.mono tp, ⟨r.len.rests, by simp [r.len.locks], r.len.trans, r.len.stores⟩, r.sys, r.dok⟩
  refine r.lay.swap (l := .lk) (l1 := .lki s) (A' := { A with lki := fun i => if i = s then q else A.lki i }) (O' := runO K D.n sy _ { R with locks := R.locks.set s zs } pv cv xv) hn sm eq rfl (by simp) (if_pos rfl) (fun m hm => ?_) ?_ ?_ (fun m hm hm2 => ?_)
  · cases m with
    | lki i => exact if_neg (fun e => hm (by rw [e]))
    | _ => rfl
  · exact congrArg (fun x => some (HO.lst x)) (refs_set (n := D.n) (f := A.lki) (g := fun i => if i = s then q else A.lki i) (if_pos rfl) (fun i h => if_neg h))
  · show (if s < D.n then _ else _) = _
    rw [if_pos hs, getD_set_eq (by rw [r.len.locks]; exact hs)]
  · cases m with
    | lk => exact absurd rfl hm
    | lki i => simp only [runO]; rw [getD_set_ne (fun e => hm2 (by rw [e]))]
    | _ => rfl
end RunIn
end
theorem small_big {n : Nat} (h : n ≤ 2000000) : n ≤ sizeLine := Nat.le_trans h (by decide)
theorem small_lt {n : Nat} (h : n ≤ 2000000) : n < sizeLine := Nat.lt_of_le_of_lt h (by decide)
theorem lsum_get (l : List (List Int)) (s : Nat) : (l.getD s []).length ≤ lsum l := by
  induction l generalizing s with
  | nil => simp [lsum]
  | cons a l ih =>
    cases s with
    | zero => simp [lsum]
    | succ s => have := ih s; simp only [lsum, List.getD_cons_succ, List.map_cons, List.sum_cons] at this ⊢; omega
theorem lsum_set (l : List (List Int)) (s : Nat) (x : List Int) (h : s < l.length) : lsum (l.set s x) + (l.getD s []).length = lsum l + x.length := by
  induction l generalizing s with
  | nil => simp at h
  | cons a l ih =>
    cases s with
    | zero => simp [lsum]; omega
    | succ s => have := ih s (by simpa using h); simp only [lsum, List.getD_cons_succ, List.set_cons_succ, List.map_cons, List.sum_cons] at this ⊢; omega
theorem at_refs {n s : Nat} {f : Nat → Addr} (h : s < n) : atI (refs n f) (s : Nat) = some (.ref (f s)) := at_nat (refs_at h) rfl
theorem ix_refs {n s : Nat} {f : Nat → Addr} (h : s < n) : ixN (refs n f).length (s : Nat) = some s := ix_nat (by rw [refs_length]; exact h) rfl
theorem B_len (D : SysD) : D.B.length = D.n := by simp [SysD.B, SysD.n]
theorem B_at {D : SysD} {s : Nat} (h : s < D.n) : D.B[s]? = some (D.B.getD s []) := by
  rw [List.getD_eq_getElem?_getD, List.getElem?_eq_getElem (by rw [B_len]; exact h)]; rfl
theorem rest_zero {ss : List Sm} (h : ss ≠ []) : restAt ss [0] = some ss := by
  unfold restAt
  rw [if_pos ⟨Int.le_refl _, by have := List.length_pos_iff.mpr h; omega⟩]; rfl
section
variable {P : Program} {w : World} {K : PySem.W.Frag} {mg : Str → Option Value} {base : Heap}
def sp_Running_finish (K : PySem.W.Frag) : Sp := fun vs H Q E => ∃ p s Fr sy D R xv, vs = [.ref p, .int (s : Nat)] ∧ RunAt K Fr H sy D R xv p ∧ s < D.n ∧ Lim R ∧ (∀ H', Tp H H' → RunAt K Fr H' sy D (R.fin D.B s) xv p → Q .non H')
theorem len_Running_finish (K : PySem.W.Frag) : ∀ (vs : List V) (H : Hp) (Q : VK) (E : XK), sp_Running_finish K vs H Q E → vs.length = 2 := by
  rintro vs H Q E ⟨_, _, _, _, _, _, _, rfl, _⟩
  rfl
theorem ok_Running_finish (T : Txt K mg) : CallF P w K mg base 1 (He.ma K (He.ga K "Running") "finish") ["self", "session"] (sp_Running_finish K) := by
  obtain ⟨fd, F⟩ := T.d_Running_finish
  refine ⟨fd, F.ok csRunning_finish (len_Running_finish K) (fun cdv A outer s H vs Q E hr hsp => ?_), F.bindsN (fun _ _ _ _ _ _ us hl => match us, hl with | [_, _], _ => rfl), F.kp⟩
  have hu := hu_of hr
  have hu65 : (A.deeper (envOfC "Running.finish" (defScope sRunning_finish) s.heap.objs.size (He.ma K (He.ga K "Running") "finish") cdv)).units + 65 < cLine := by have := hr.un; omega
  have hu0 := hr.units0
  refine ⟨_, PSs.nox (pss_cons (ps_expr (pe_bm PySem.F.plainAttrs_list PySem.F.slot_list_extend PySem.F.type_list_extend mt_extend (pe_fld (pv 0) rfl) (pa_cons (pe_ix ix_list (pe_fld (pv 0) rfl) (pv 1) (fun _ _ => rfl)) pa_nil)))
      (pss_cons (ps_asg (pe_lst pa_nil) (pg_sub (pe_fld (pv 0) rfl) (pv 1) set_list))
      (pss_cons (ps_asg (pe_lst pa_nil) (pg_sub (pe_fld (pv 0) rfl) (pv 1) set_list))
      (pss_one (ps_asg (pe_tup (pa_cons pe_int pa_nil)) (pg_sub (pe_fld (pv 0) rfl) (pv 1) set_list)))))), ?_⟩
  obtain ⟨p, s0, Fr, sy, D, R, xv, rfl, ⟨ow, A1, pv, cv, r⟩, hs, lim, hq⟩ := hsp
  have hix := at_refs (f := A1.tri) hs
  have e1 := r.eself
  have e2 := r.elo
  have e3 := r.etr
  have e4 := r.etri hs
  have htot := lim.tot
  have hg := lsum_get R.trans s0
  have hsz : (R.lost.map V.int).length + ((R.trans.getD s0 []).map V.int).length ≤ sizeLine := small_big (by simp only [List.length_map]; unfold Rs.tot at htot; omega)
  walk_at "st"
  walk_at "rd"
  refine w_extend e2 e4 hsz ?_
  have r1 := r.lose (zs := R.trans.getD s0 [])
  have tp1 : Tp H (upd H A1.lo (.lst (R.lost.map V.int ++ (R.trans.getD s0 []).map V.int))) := (SameBut.put (SameBut.refl _ H)).tp e2 (fun _ z => nomatch z)
  generalize upd H A1.lo (.lst (R.lost.map V.int ++ (R.trans.getD s0 []).map V.int)) = H1 at *
  have f1 := r1.eself
  have f3 := r1.etr
  walk_at "rd"
  rename_i p2 H2 hn2 hs2 hp2 he2
  refine w_setL (hs2 _ _ f3) (ix_refs hs) ?_
  obtain ⟨ow2, A2, pv2, cv2, r2⟩ := r1.ntri (zs := []) hs hn2 hs2 hp2
  have tp2 : Tp H1 (upd H2 A1.tr (.lst ((refs D.n A1.tri).set s0 (.ref p2)))) := hs2.tp'.trans ((SameBut.put (SameBut.refl _ H2)).tp (hs2 _ _ f3) (fun _ z => nomatch z))
  generalize upd H2 A1.tr (.lst ((refs D.n A1.tri).set s0 (.ref p2))) = H3 at *
  have g1 := r2.eself
  have g2 := r2.elk
  walk_at "rd"
  rename_i p4 H4 hn4 hs4 hp4 he4
  refine w_setL (hs4 _ _ g2) (ix_refs hs) ?_
  obtain ⟨ow3, A3, pv3, cv3, r3⟩ := r2.nlki (zs := []) hs hn4 hs4 hp4
  have tp4 : Tp H3 (upd H4 A2.lk (.lst ((refs D.n A2.lki).set s0 (.ref p4)))) := hs4.tp'.trans ((SameBut.put (SameBut.refl _ H4)).tp (hs4 _ _ g2) (fun _ z => nomatch z))
  generalize upd H4 A2.lk (.lst ((refs D.n A2.lki).set s0 (.ref p4))) = H5 at *
  have k1 := r3.eself
  have k2 := r3.epl
  walk_at "rd"
  rename_i p6 H6 hn6 hs6 hp6 he6
  have hpl := r3.pl.1
  refine w_setL (hs6 _ _ k2) (ix_nat (by omega) rfl) ?_
  have r4 := (r3.grow hs6).place (a := p6) (pl := [0]) (x := D.B.getD s0 []) hs hp6 (B_at hs) (rest_zero (r.dok.ne _ (List.mem_of_getElem? (B_at hs))))
  refine hq _ (tp1.trans (tp2.trans (tp4.trans (hs6.tp'.trans ((SameBut.put (SameBut.refl _ H6)).tp (hs6 _ _ k2) (fun _ z => nomatch z)))))) ⟨_, _, _, _, r4⟩
theorem Lim.fin {R : Rs} {B : List (List Sm)} {s : Nat} (h : Lim R) (hs : s < R.trans.length) : Lim (R.fin B s) := by
  have h1 := lsum_set R.trans s [] hs
  have h2 := h.tot
  refine ⟨h.h0, h.h1, h.h2, ?_, h.cm⟩
  simp only [Rs.fin, Rs.tot, List.length_append, List.length_nil] at *
  omega
theorem Lim.dropS {R : Rs} {s : Nat} (h : Lim R) (hs : s < R.stores.length) : Lim (R.dropS s) := by
  have h1 := lsum_set R.stores s [] hs
  have h2 := h.tot
  refine ⟨h.h0, h.h1, h.h2, ?_, h.cm⟩
  simp only [Rs.dropS, Rs.tot, List.length_append, List.length_nil] at *
  omega
theorem Lim.restart {R : Rs} {B : List (List Sm)} {s n : Nat} (h : Lim R) (l : Lens n R) (hs : s < n) : Lim (R.restart B s) := (h.dropS (by rw [l.stores]; exact hs)).fin (by show s < R.trans.length; rw [l.trans]; exact hs)
theorem Lens.fin {R : Rs} {B : List (List Sm)} {s n : Nat} (l : Lens n R) : Lens n (R.fin B s) := ⟨by simp [Rs.fin, l.rests], by simp [Rs.fin, l.locks], by simp [Rs.fin, l.trans], l.stores⟩
theorem Lens.dropS {R : Rs} {s n : Nat} (l : Lens n R) : Lens n (R.dropS s) := ⟨l.rests, l.locks, l.trans, by simp [Rs.dropS, l.stores]⟩
theorem Lens.restart {R : Rs} {B : List (List Sm)} {s n : Nat} (l : Lens n R) : Lens n (R.restart B s) := l.dropS.fin
def sp_Running_restart (K : PySem.W.Frag) : Sp := fun vs H Q E => ∃ p s Fr sy D R xv, vs = [.ref p, .int (s : Nat)] ∧ RunAt K Fr H sy D R xv p ∧ s < D.n ∧ Lim R ∧ (∀ H', Tp H H' → RunAt K Fr H' sy D (R.restart D.B s) xv p → Q .non H')
theorem len_Running_restart (K : PySem.W.Frag) : ∀ (vs : List V) (H : Hp) (Q : VK) (E : XK), sp_Running_restart K vs H Q E → vs.length = 2 := by
  rintro vs H Q E ⟨_, _, _, _, _, _, _, rfl, _⟩
  rfl
theorem ok_Running_restart (T : Txt K mg) : CallF P w K mg base 2 (He.ma K (He.ga K "Running") "restart") ["self", "session"] (sp_Running_restart K) := by
  obtain ⟨fd, F⟩ := T.d_Running_restart
  obtain ⟨fd_Running_finish, G_Running_finish, b_Running_finish, k_Running_finish⟩ := ok_Running_finish (P := P) (w := w) (base := base) T
  refine ⟨fd, F.ok csRunning_restart (len_Running_restart K) (fun cdv A outer s H vs Q E hr hsp => ?_), F.bindsN (fun _ _ _ _ _ _ us hl => match us, hl with | [_, _], _ => rfl), F.kp⟩
  have hu := hu_of hr
  have hu65 : (A.deeper (envOfC "Running.restart" (defScope sRunning_restart) s.heap.objs.size (He.ma K (He.ga K "Running") "restart") cdv)).units + 65 < cLine := by have := hr.un; omega
  have hu0 := hr.units0
  refine ⟨_, PSs.nox (pss_cons (ps_expr (pe_bm PySem.F.plainAttrs_list PySem.F.slot_list_extend PySem.F.type_list_extend mt_extend (pe_fld (pv 0) rfl) (pa_cons (pe_ix ix_list (pe_fld (pv 0) rfl) (pv 1) (fun _ _ => rfl)) pa_nil)))
      (pss_cons (ps_asg (pe_lst pa_nil) (pg_sub (pe_fld (pv 0) rfl) (pv 1) set_list))
      (pss_one (ps_expr (pe_meth (pv 0) T.c_Running T.m_Running_finish G_Running_finish (hr.mono (by decide)) b_Running_finish .nil pass0 (pa_cons (pv 1) pa_nil)))))), ?_⟩
  obtain ⟨p, s0, Fr, sy, D, R, xv, rfl, ⟨ow, A1, pv, cv, r⟩, hs, lim, hq⟩ := hsp
  have hix := at_refs (f := A1.sti) hs
  have e1 := r.eself
  have e2 := r.elo
  have e3 := r.est
  have e4 := r.esti hs
  have htot := lim.tot
  have hg := lsum_get R.stores s0
  have hsz : (R.lost.map V.int).length + ((R.stores.getD s0 []).map V.int).length ≤ sizeLine := small_big (by simp only [List.length_map]; unfold Rs.tot at htot; omega)
  walk_at "st"
  walk_at "rd"
  refine w_extend e2 e4 hsz ?_
  have r1 := r.lose (zs := R.stores.getD s0 [])
  have tp1 : Tp H (upd H A1.lo (.lst (R.lost.map V.int ++ (R.stores.getD s0 []).map V.int))) := (SameBut.put (SameBut.refl _ H)).tp e2 (fun _ z => nomatch z)
  generalize upd H A1.lo (.lst (R.lost.map V.int ++ (R.stores.getD s0 []).map V.int)) = H1 at *
  have f1 := r1.eself
  have f3 := r1.est
  walk_at "rd"
  rename_i p2 H2 hn2 hs2 hp2 he2
  refine w_setL (hs2 _ _ f3) (ix_refs hs) ?_
  obtain ⟨ow2, A2, pv2, cv2, r2⟩ := r1.nsti (zs := []) hs hn2 hs2 hp2
  have tp2 : Tp H1 (upd H2 A1.st (.lst ((refs D.n A1.sti).set s0 (.ref p2)))) := hs2.tp'.trans ((SameBut.put (SameBut.refl _ H2)).tp (hs2 _ _ f3) (fun _ z => nomatch z))
  generalize upd H2 A1.st (.lst ((refs D.n A1.sti).set s0 (.ref p2))) = H3 at *
  have g1 := r2.eself
  walk_at "rd"
  refine ⟨p, s0, Fr, sy, D, _, xv, rfl, ⟨_, _, _, _, r2⟩, hs, lim.dropS (by rw [r.len.stores]; exact hs), fun H4 tp4 ra => ?_⟩
  walk_at "rd"
  exact hq _ (tp1.trans (tp2.trans tp4)) ra
theorem loseAll_succ (R : Rs) (B : List (List Sm)) (n : Nat) : R.loseAll B (n + 1) = (R.loseAll B n).restart B n := by
  unfold Rs.loseAll
  rw [List.range_succ, List.foldl_append]; rfl
theorem Lens.loseAll {R : Rs} {B : List (List Sm)} {n : Nat} (l : Lens n R) : ∀ k, Lens n (R.loseAll B k)
  | 0 => l
  | k + 1 => by rw [loseAll_succ]; exact (l.loseAll k).restart
theorem Lim.loseAll {R : Rs} {B : List (List Sm)} {n : Nat} (h : Lim R) (l : Lens n R) : ∀ k, k ≤ n → Lim (R.loseAll B k)
  | 0, _ => h
  | k + 1, hk => by rw [loseAll_succ]; exact (h.loseAll l k (by omega)).restart (l.loseAll k) (by omega)
theorem rg_V (a b : Int) : rgV a b = (rg a b).map V.int := by unfold rgV rg; rw [List.map_map]; rfl
theorem rg_len (a b : Int) : (rg a b).length = (b - a).toNat := by unfold rg; simp
def sp_Running_crash (K : PySem.W.Frag) : Sp := fun vs H Q E => ∃ p Fr sy D R xv, vs = [.ref p] ∧ RunAt K Fr H sy D R xv p ∧ Lim R ∧ (∀ H', Tp H H' → RunAt K Fr H' sy D (R.crash D.B D.ahead D.n) xv p → Q .non H')
theorem len_Running_crash (K : PySem.W.Frag) : ∀ (vs : List V) (H : Hp) (Q : VK) (E : XK), sp_Running_crash K vs H Q E → vs.length = 1 := by
  rintro vs H Q E ⟨_, _, _, _, _, _, rfl, _⟩
  rfl
theorem ok_Running_crash (T : Txt K mg) : CallF P w K mg base 3 (He.ma K (He.ga K "Running") "crash") ["self"] (sp_Running_crash K) := by
  obtain ⟨fd, F⟩ := T.d_Running_crash
  obtain ⟨fd_Running_restart, G_Running_restart, b_Running_restart, k_Running_restart⟩ := ok_Running_restart (P := P) (w := w) (base := base) T
  refine ⟨fd, F.ok csRunning_crash (len_Running_crash K) (fun cdv A outer s H vs Q E hr hsp => ?_), F.bindsN (fun _ _ _ _ _ _ us hl => match us, hl with | [_], _ => rfl), F.kp⟩
  have hu := hu_of hr
  have hu65 : (A.deeper (envOfC "Running.crash" (defScope sRunning_crash) s.heap.objs.size (He.ma K (He.ga K "Running") "crash") cdv)).units + 65 < cLine := by have := hr.un; omega
  have hu0 := hr.units0
  refine ⟨_, PSs.nox (pss_cons (ps_for PassesOwn.never rfl (pi_range1 (by rfl) T.f_range (pa_cons (pe_callB call_lenN (by rfl) T.f_len (by decide +kernel) (pa_cons (pe_fld (pv 0) rfl) pa_nil)) pa_nil)) (pg_name (i := 1) csRunning_crash.nd rfl (Or.inl rfl)) (pss_one (ps_expr (pe_meth (pv 0) T.c_Running T.m_Running_restart G_Running_restart (hr.mono (by decide)) b_Running_restart .nil pass0 (pa_cons (pv 1) pa_nil)))))
      (pss_cons (ps_expr (pe_bm PySem.F.plainAttrs_list PySem.F.slot_list_extend PySem.F.type_list_extend mt_extend (pe_fld (pv 0) rfl) (pa_cons (pe_listRg rfl (by rfl) T.f_list (prg_2 (by rfl) T.f_range (pe_fld (pv 0) rfl) (pe_fld (pv 0) rfl))) pa_nil)))
      (pss_cons (ps_fld (pv 0) (pe_fld (pv 0) rfl) rfl)
      (pss_cons (ps_fld (pv 0) (pe_op op_add (pe_fld (pv 0) rfl) (pe_fld (pe_fld (pv 0) rfl) rfl)) rfl)
      (pss_one (ps_fldaug (pv 0) pe_int in_sub)))))), ?_⟩
  obtain ⟨p, Fr, sy, D, R, xv, rfl, ⟨ow, A1, pv, cv, r⟩, lim, hq⟩ := hsp
  have e1 := r.eself
  have e2 := r.epl
  have hpl := r.pl.1
  have hn3 := r.dok.n3
  walk_at "st"
  walk_at "rd"
  refine w_gR1 (by omega) (by omega) ?_
  refine forR (fun i σ H' => Tp H H' ∧ RunAt K Fr H' sy D (R.loseAll D.B i) xv p ∧ ∃ o, σ = [some (.ref p), o]) ⟨Tp.refl H, ⟨_, _, _, _, r⟩, _, rfl⟩ ?_ ?_
  · rintro i σ H' hi ⟨tp, ra, o, rfl⟩
    obtain ⟨ow2, A2, pv2, cv2, r2⟩ := id ra
    have f1 := r2.eself
    have hi2 : i < D.n := by omega
    walk_at "rd"
    refine ⟨p, i, Fr, sy, D, _, xv, by simp, ra, hi2, lim.loseAll r.len i (by omega), fun H3 tp3 ra3 => ?_⟩
    exact ⟨tp.trans tp3, by rw [loseAll_succ]; exact ra3, _, rfl⟩
  · rintro σ H' ⟨tp, ⟨ow2, A2, pv2, cv2, r2⟩, o, rfl⟩
    have hnn : (pv.length : Int).toNat = D.n := by omega
    rw [hnn] at r2
    have f1 := r2.eself
    have f2 := r2.elo
    have hL := lim.loseAll r.len (B := D.B) D.n (Nat.le_refl _)
    have hLn := r.len.loseAll (B := D.B) D.n
    have hcr : R.crash D.B D.ahead D.n = { R.loseAll D.B D.n with lost := (R.loseAll D.B D.n).lost ++ rg (R.loseAll D.B D.n).height (R.loseAll D.B D.n).noted, height := (R.loseAll D.B D.n).noted, noted := (R.loseAll D.B D.n).noted + D.ahead, crashes := (R.loseAll D.B D.n).crashes - 1 } := rfl
    rw [hcr] at hq
    clear hcr
    generalize R.loseAll D.B D.n = R1 at *
    walk_at "rd"
    have h0 := hL.h0
    have h1 := hL.h1
    have h2 := hL.h2
    have htot := hL.tot
    refine w_gLstRg (RgOk.of_le (by omega) (by omega) (by omega) (by omega)) ?_
    refine w_new fun q H2 hn2 hs2 hq2 _ => ?_
    rw [rg_V] at hq2
    have r3 := r2.grow hs2
    walk_at "rd"
    refine w_extend (hs2 _ _ f2) hq2 (small_big (by rw [List.length_map, List.length_map, rg_len]; unfold Rs.tot at htot; omega)) ?_
    have r4 := r3.lose (zs := rg R1.height R1.noted)
    have tp4 : Tp H' (upd H2 A2.lo (.lst (R1.lost.map V.int ++ (rg R1.height R1.noted).map V.int))) := hs2.tp'.trans ((SameBut.put (SameBut.refl _ H2)).tp (hs2 _ _ f2) (fun _ z => nomatch z))
    generalize upd H2 A2.lo (.lst (R1.lost.map V.int ++ (rg R1.height R1.noted).map V.int)) = H4 at *
    have g1 := r4.eself
    have g2 := r4.sne
    obtain ⟨dxs, kts, sts, es⟩ := r4.esys
    walk_at "rd"
    simp only [upd_upd]
    refine hq _ (tp.trans (tp4.trans ((SameBut.put (SameBut.refl _ H4)).tp g1 (fun _ z => nomatch z)))) ⟨_, _, _, _, r4.fld (R' := { R1 with lost := R1.lost ++ rg R1.height R1.noted, height := R1.noted, noted := R1.noted + D.ahead, crashes := R1.crashes - 1 }) ?_ rfl rfl rfl rfl rfl rfl⟩
    rfl
end
theorem word_lock {s : Sm} (h : s.word = "lock") : ∃ n, s = .lock n := by
  cases s <;> first | exact ⟨_, rfl⟩ | exact absurd h (by dsimp only [Sm.word]; decide +kernel)
theorem word_take {s : Sm} (h : s.word = "take") : s = .take := by
  cases s <;> first | rfl | exact absurd h (by dsimp only [Sm.word]; decide +kernel)
theorem Ds.lock {H : Hp} {a : Addr} {n : Str} (d : Ds H (.ref a) (.lock n)) : H a = some (.tup [.str "lock", .str n]) := by
  cases d with
  | one h e => exact e
theorem Ds.unlock {H : Hp} {a : Addr} {n : Str} (d : Ds H (.ref a) (.unlock n)) : H a = some (.tup [.str "unlock", .str n]) := by
  cases d with
  | one h e => exact e
theorem _root_.List.getElem?_range_of {n i j : Nat} (h : (List.range n)[i]? = some j) : i = j := by
  rcases Nat.lt_or_ge i n with c | c
  · rw [List.getElem?_range c] at h; exact Option.some.inj h
  · rw [List.getElem?_eq_none (by simpa using c)] at h; cases h
theorem minL_eq {ns : List Int} {m : Int} (h1 : m ∈ ns) (h2 : ∀ j ∈ ns, m ≤ j) : minL ns = some m := by
  have key : ∀ (l : List Int) (x : Int), (m ∈ x :: l) → (∀ j ∈ x :: l, m ≤ j) → l.foldl (fun a b => if b < a then b else a) x = m := by
    intro l
    induction l with
    | nil => intro x h _; simpa using (List.mem_singleton.mp h).symm
    | cons y l ih =>
      intro x h hm
      rw [List.foldl_cons]
      apply ih
      · rcases List.mem_cons.mp h with e | h
        · have := hm y (by simp)
          rw [if_neg (by omega), e]; simp
        · rcases List.mem_cons.mp h with e | h
          · have := hm x (by simp)
            by_cases hlt : y < x
            · rw [if_pos hlt, e]; simp
            · rw [if_neg hlt]
              have : m = x := by omega
              rw [this]; simp
          · simp [h]
      · intro j hj
        rcases List.mem_cons.mp hj with e | hj
        · rw [e]
          by_cases hlt : y < x
          · rw [if_pos hlt]; exact hm y (by simp)
          · rw [if_neg hlt]; exact hm x (by simp)
        · exact hm j (by simp [hj])
  cases ns with
  | nil => cases h1
  | cons x l => exact congrArg some (key l x h1 h2)
theorem minL_some {ns : List Int} {m : Int} (h : minL ns = some m) : m ∈ ns ∧ ∀ j ∈ ns, m ≤ j := by
  have ex : ∀ l : List Int, l ≠ [] → ∃ m, m ∈ l ∧ ∀ j ∈ l, m ≤ j := by
    intro l
    induction l with
    | nil => intro h; exact absurd rfl h
    | cons x l ih =>
      intro _
      by_cases hl : l = []
      · subst hl; exact ⟨x, by simp, by simp⟩
      · obtain ⟨m, h1, h2⟩ := ih hl
        by_cases hx : x ≤ m
        · refine ⟨x, by simp, fun j hj => ?_⟩
          rcases List.mem_cons.mp hj with rfl | hj
          · omega
          · have := h2 j hj; omega
        · refine ⟨m, by simp [h1], fun j hj => ?_⟩
          rcases List.mem_cons.mp hj with rfl | hj
          · omega
          · exact h2 j hj
  have hne : ns ≠ [] := by rintro rfl; cases h
  obtain ⟨m2, h1, h2⟩ := ex ns hne
  rw [minL_eq h1 h2] at h
  cases h
  exact ⟨h1, h2⟩
theorem minL_none {ns : List Int} (h : minL ns = none) : ns = [] := by
  cases ns with
  | nil => rfl
  | cons x l => cases h
/-- a built-in with a keyword -/
theorem w_cbk {r : List V → List V → Hp → VK → Prop} {t tk : TA} {σ : L2.St} {H : Hp} {Q : VK} (h : t σ H fun vs H1 => tk σ H1 fun zs H2 => r vs zs H2 Q) : tCKw r t tk σ H Q := h
theorem w_minD {K : PySem.W.Frag} {H : Hp} {a : Addr} {ns : List Int} {Q : VK} (e : H a = some (.lst (ns.map V.int))) (h : Q (oV (minL ns)) H) : rMinD K [.ref a] [.non] H Q :=
  ⟨a, ns, rfl, rfl, sqL e, fun h0 => by subst h0; exact h, fun m h1 h2 => by rw [minL_eq h1 h2] at h; exact h⟩
/-- the rows of both lists -/
def rowsA (n : Nat) (f : Nat → Addr) (l : List (List Int)) : List (Addr × List Int) := (List.range n).map fun i => (f i, l.getD i [])
theorem rowsA_refs {n : Nat} {f : Nat → Addr} {l : List (List Int)} : (rowsA n f l).map (fun y => V.ref y.1) = refs n f := by unfold rowsA refs; rw [List.map_map]; rfl
theorem rowsA_rows {n : Nat} {f : Nat → Addr} {l : List (List Int)} (h : l.length = n) : (rowsA n f l).map (·.2) = l := by
  subst h
  unfold rowsA
  rw [List.map_map]
  apply List.ext_getElem?
  intro i
  rw [List.getElem?_map]
  by_cases h : i < l.length
  · rw [List.getElem?_range h]; simp [List.getD_eq_getElem?_getD, h]
  · rw [List.getElem?_eq_none (by simpa using h), List.getElem?_eq_none (by simpa using h)]; rfl
section
variable {P : Program} {w : World} {K : PySem.W.Frag} {mg : Str → Option Value} {base : Heap}
def sp_Running_lowest (K : PySem.W.Frag) : Sp := fun vs H Q E => ∃ p Fr sy D R xv, vs = [.ref p] ∧ RunAt K Fr H sy D R xv p ∧ (∀ H', Same H H' → Q (oV R.low) H')
theorem len_Running_lowest (K : PySem.W.Frag) : ∀ (vs : List V) (H : Hp) (Q : VK) (E : XK), sp_Running_lowest K vs H Q E → vs.length = 1 := by
  rintro vs H Q E ⟨_, _, _, _, _, _, rfl, _⟩
  rfl
theorem ok_Running_lowest (T : Txt K mg) : CallF P w K mg base 1 (He.ma K (He.ga K "Running") "lowest") ["self"] (sp_Running_lowest K) := by
  obtain ⟨fd, F⟩ := T.d_Running_lowest
  refine ⟨fd, F.ok csRunning_lowest (len_Running_lowest K) (fun cdv A outer s H vs Q E hr hsp => ?_), F.bindsN (fun _ _ _ _ _ _ us hl => match us, hl with | [_], _ => rfl), F.kp⟩
  have hu := hu_of hr
  have hu65 : (A.deeper (envOfC "Running.lowest" (defScope sRunning_lowest) s.heap.objs.size (He.ma K (He.ga K "Running") "lowest") cdv)).units + 65 < cLine := by have := hr.un; omega
  have hu0 := hr.units0
  refine ⟨_, PSs.nox (pss_cons (ps_setLc (i := 1) (own := [("numbers", 2)]) rfl csRunning_lowest.nd rfl rfl (sw_true rfl rfl rfl (by decide +kernel)) (pi_list (pe_op op_cat (pe_fld (pv 0) rfl) (pe_fld (pv 0) rfl))) (blkOk_by (own := [("numbers", 2)]) (N := ["self", "rows", "numbers"]) (sc := defScope sRunning_lowest) (by decide +kernel)) (fun _ _ _ _ _ => (pg_name (i := 2) csRunning_lowest.nd rfl (Or.inl rfl))) (fun _ _ _ _ _ => (pts_one (pt_cmpR op_gt (pe_callB (call_lenB (K := K) rfl) (by rfl) T.f_len (by decide +kernel) (pa_cons (pv 2) pa_nil)) pe_int (nomark _)))) (fun _ _ _ _ _ => (pe_ix (ix_listB (K := K) rfl) (pv 2) pe_int (fun _ _ => rfl))))
      (pss_one (ps_ret (pe_callBK (cr_minD rfl hr.units) (by rfl) T.f_min (by decide +kernel) (pa_cons (pv 1) pa_nil) (pk_cons pe_non pk_nil))))), ?_⟩
  obtain ⟨p, Fr, sy, D, R, xv, rfl, ⟨ow, A1, pv, cv, r⟩, hq⟩ := hsp
  have e1 := r.eself
  have e2 := r.etr
  have e3 := r.est
  have hn3 := r.dok.n3
  walk_at "st"
  walk_at "rd"
  refine w_cat e2 e3 (small9 (by rw [refs_length, refs_length]; omega)) ?_
  refine w_new fun q H1 hn1 hs1 hq1 _ => ?_
  have hys : ∀ y ∈ rowsA D.n A1.tri R.trans ++ rowsA D.n A1.sti R.stores, H1 y.1 = some (.lst (y.2.map V.int)) := by
    intro y hy
    rcases List.mem_append.mp hy with hy | hy
    · obtain ⟨i, hi, rfl⟩ := List.mem_map.mp hy
      exact hs1 _ _ (r.etri (List.mem_range.mp hi))
    · obtain ⟨i, hi, rfl⟩ := List.mem_map.mp hy
      exact hs1 _ _ (r.esti (List.mem_range.mp hi))
  walk_at "rd"
  refine lcL0 (ys := rowsA D.n A1.tri R.trans ++ rowsA D.n A1.sti R.stores) (val := fun y => .ref y.1) (fun y => y.2.head?.map V.int) (by rw [List.map_append, rowsA_refs, rowsA_refs]; exact hq1) (small1000 (by simp [rowsA]; omega)) ?_ ?_
  · intro y hy H2 hs2 NT NF hT hF
    have ey := hs2 _ _ (hys y hy)
    refine w_name rfl ?_
    refine ⟨rfl, ?_⟩
    cases hy2 : y.2 with
    | nil =>
      rw [hy2] at ey hF
      walk_at "rd"
      exact hF rfl
    | cons x l =>
      rw [hy2] at ey hT
      rw [List.map_cons] at ey
      have hpos : (0 : Int) < ((V.int x :: l.map V.int).length : Nat) := by simp
      walk_at "rd"
      exact hT _ rfl
  · have hf : (rowsA D.n A1.tri R.trans ++ rowsA D.n A1.sti R.stores).filterMap (fun y => y.2.head?.map V.int) = (heads (R.trans ++ R.stores)).map V.int := by
      unfold heads
      rw [← rowsA_rows (f := A1.tri) r.len.trans, ← rowsA_rows (f := A1.sti) r.len.stores, ← List.map_append, List.filterMap_map, List.map_filterMap, rowsA_rows r.len.trans, rowsA_rows r.len.stores]
      rfl
    rw [hf]
    walk_at "rd"
    rename_i q3 H3 hn3' hs3 hq3 he3
    refine w_cbk ?_
    walk_at "rd"
    refine w_minD hq3 ?_
    exact hq _ (hs1.trans hs3)
def sp_Running_statement (K : PySem.W.Frag) : Sp := fun vs H Q E => ∃ p s Fr sy D R xv st r, vs = [.ref p, .int (s : Nat)] ∧ RunAt K Fr H sy D R xv p ∧ R.rests[s]? = some (st :: r) ∧ (∀ v, Ds H v st → Q v H)
theorem RunIn.s_lt {K : PySem.W.Frag} {Fr H : Hp} {sy : Addr} {D : SysD} {R : Rs} {xv : List V} {p : Addr} {ow : Addr → Option Loc} {A : Ad} {pv cv : List V} (r : RunIn K Fr H sy D R xv p ow A pv cv) {s : Nat} {x : List Sm} (h : R.rests[s]? = some x) : s < D.n := by
  rcases Nat.lt_or_ge s R.rests.length with c | c
  · rw [← r.len.rests]; exact c
  · rw [List.getElem?_eq_none c] at h; cases h
theorem SysD.ss_at {D : SysD} {s : Nat} (h : s < D.n) : ∃ k, D.ss[s]? = some k ∧ D.B[s]? = some k.ss ∧ D.blk s = k.block := by
  refine ⟨D.ss[s]'h, List.getElem?_eq_getElem h, ?_, ?_⟩
  · unfold SysD.B; rw [List.getElem?_map, List.getElem?_eq_getElem h]; rfl
  · unfold SysD.blk; rw [List.getD_eq_getElem?_getD, List.getElem?_map, List.getElem?_eq_getElem h]; rfl
theorem len_Running_statement (K : PySem.W.Frag) : ∀ (vs : List V) (H : Hp) (Q : VK) (E : XK), sp_Running_statement K vs H Q E → vs.length = 2 := by
  rintro vs H Q E ⟨_, _, _, _, _, _, _, _, _, rfl, _⟩
  rfl
theorem ok_Running_statement (T : Txt K mg) : CallF P w K mg base 5 (He.ma K (He.ga K "Running") "statement") ["self", "session"] (sp_Running_statement K) := by
  obtain ⟨fd, F⟩ := T.d_Running_statement
  obtain ⟨fd_System_kind_of, G_System_kind_of, b_System_kind_of, k_System_kind_of⟩ := ok_System_kind_of (P := P) (w := w) (base := base) T
  obtain ⟨fd_Script___getitem__, G_Script___getitem__, b_Script___getitem__, k_Script___getitem__⟩ := ok_Script___getitem__ (P := P) (w := w) (base := base) T
  refine ⟨fd, F.ok csRunning_statement (len_Running_statement K) (fun cdv A outer s H vs Q E hr hsp => ?_), F.bindsN (fun _ _ _ _ _ _ us hl => match us, hl with | [_, _], _ => rfl), F.kp⟩
  have hu := hu_of hr
  have hu65 : (A.deeper (envOfC "Running.statement" (defScope sRunning_statement) s.heap.objs.size (He.ma K (He.ga K "Running") "statement") cdv)).units + 65 < cLine := by have := hr.un; omega
  have hu0 := hr.units0
  refine ⟨_, PSs.nox (pss_one (ps_ret (pe_ixO (pe_fld (pe_meth (pe_fld (pv 0) rfl) T.c_System T.m_System_kind_of G_System_kind_of (hr.mono (by decide)) b_System_kind_of .nil pass0 (pa_cons (pv 1) pa_nil)) rfl) (pe_ix ix_list (pe_fld (pv 0) rfl) (pv 1) (fun _ _ => rfl)) T.o_Script G_Script___getitem__ (hr.mono (by decide)) b_Script___getitem__ pass0))), ?_⟩
  obtain ⟨p, s0, Fr, sy, D, R, xv, st, r0, rfl, ⟨ow, A1, pv, cv, r⟩, hr0, hq⟩ := hsp
  have hs := r.s_lt hr0
  have e1 := r.eself
  have e2 := r.epl
  obtain ⟨dxs, kts, sts, es⟩ := r.esys
  obtain ⟨k, hk1, hk2, hk3⟩ := SysD.ss_at hs
  obtain ⟨a, pl, ss, h1, h2, h3, h4⟩ := r.pl.2 s0 _ hr0
  rw [hk2] at h3
  cases h3
  have hat : atI pv (s0 : Nat) = some (.ref a) := at_nat h1 rfl
  walk_at "st"
  walk_at "rd"
  refine ⟨sy, D.ks, D.ahead, D.window, D.crashes, s0, k, rfl, r.sys.mono r.lay.fr, hk1, fun ka ⟨dxk, sc, ek, hsc⟩ => ?_⟩
  obtain ⟨dx4, t4, a4, q4, kvs4, bs4, vs4, S4⟩ := id hsc
  have e4 := S4.ins
  walk_at "rd"
  exact ⟨sc, k.ss, k.n, a, pl, st, r0, rfl, hsc, h2, h4, hq⟩
def sp_Running_is_session (K : PySem.W.Frag) : Sp := fun vs H Q E => ∃ p s Fr sy D R xv, vs = [.ref p, .int (s : Nat)] ∧ RunAt K Fr H sy D R xv p ∧ s < D.n ∧ Q (.bl true) H
theorem len_Running_is_session (K : PySem.W.Frag) : ∀ (vs : List V) (H : Hp) (Q : VK) (E : XK), sp_Running_is_session K vs H Q E → vs.length = 2 := by
  rintro vs H Q E ⟨_, _, _, _, _, _, _, rfl, _⟩
  rfl
theorem ok_Running_is_session (T : Txt K mg) : CallF P w K mg base 2 (He.ma K (He.ga K "Running") "is_session") ["self", "session"] (sp_Running_is_session K) := by
  obtain ⟨fd, F⟩ := T.d_Running_is_session
  obtain ⟨fd_is_integer, G_is_integer, b_is_integer, k_is_integer⟩ := ok_is_integer (P := P) (w := w) (base := base) T
  refine ⟨fd, F.ok csRunning_is_session (len_Running_is_session K) (fun cdv A outer s H vs Q E hr hsp => ?_), F.bindsN (fun _ _ _ _ _ _ us hl => match us, hl with | [_, _], _ => rfl), F.kp⟩
  have hu := hu_of hr
  have hu65 : (A.deeper (envOfC "Running.is_session" (defScope sRunning_is_session) s.heap.objs.size (He.ma K (He.ga K "Running") "is_session") cdv)).units + 65 < cLine := by have := hr.un; omega
  have hu0 := hr.units0
  refine ⟨_, PSs.nox (pss_one (ps_ret (pe_and (pe_call G_is_integer (hr.mono (by decide)) (by rfl) T.g_is_integer k_is_integer b_is_integer .nil pass0 (pa_cons (pv 1) pa_nil)) (pe_one (pe_chain op_le op_lt pe_int (pv 1) (pe_callB call_lenN (by rfl) T.f_len (by decide +kernel) (pa_cons (pe_fld (pv 0) rfl) pa_nil))))))), ?_⟩
  obtain ⟨p, s0, Fr, sy, D, R, xv, rfl, ⟨ow, A1, pv, cv, r⟩, hs, hq⟩ := hsp
  have e1 := r.eself
  have e2 := r.epl
  have hpl := r.pl.1
  walk_at "st"
  walk_at "rd"
  refine u_int ?_
  walk_at "rd"
  have h1 : (s0 : Int) < (pv.length : Nat) := by omega
  simpa [h1] using hq
def gForEL (K : PySem.W.Frag) (g : TG) (tb : TS) (D : Ends) (σ : L2.St) (vs : List V) (H : Hp) : Prop := ∃ a xs, vs = [.ref a] ∧ SqL K H a xs ∧ ∃ W : Nat → Nat → L2.St → Hp → Prop, (∃ m, W 0 m σ H) ∧ ∀ i m σ H, W i m σ H →
  ((Ite K a).stop i H ∧ D.nx σ H) ∨ ((Ite K a).go i H ∧ ∃ N : L2.St → Hp → Prop, (∀ σ' H', N σ' H' → ∃ m', m' < m ∧ W (i + 1) m' σ' H') ∧ ∀ x H', (Ite K a).yld i H x H' → g x σ H' fun σ2 H2 => tb { D with nx := N, ct := N, bk := D.nx } σ2 H2)
theorem w_forEL {K : PySem.W.Frag} {σ : L2.St} {H : Hp} {tl : TA} {g : TG} {tb : TS} {D : Ends} (h : tl σ H fun x H1 => gForEL K g tb D σ x H1) : tFor (iEnum K tl) g tb D σ H := h
theorem forEL {K : PySem.W.Frag} {σ : L2.St} {H : Hp} {g : TG} {tb : TS} {a : Addr} {β : Type} {ys : List β} {val : β → V} {nx : L2.St → Hp → Prop} {rt : VK} {bk ct : L2.St → Hp → Prop} (Pv : List β → L2.St → Hp → Prop) (h0 : Pv [] σ H) (st : ∀ pre σ H, Pv pre σ H → H a = some (.lst (ys.map val)))
    (hs : ∀ pre y post σ H H1 T, ys = pre ++ y :: post → Pv pre σ H → H T = none → Same H H1 → H1 T = some (.tup [.int (pre.length : Nat), val y]) → g (.ref T) σ H1 fun σ2 H2 => tb ⟨Pv (pre ++ [y]), rt, nx, Pv (pre ++ [y])⟩ σ2 H2) (hd : ∀ σ H, Pv ys σ H → nx σ H) : gForEL K g tb ⟨nx, rt, bk, ct⟩ σ [.ref a] H := by
  refine ⟨a, _, rfl, sqL (st _ _ _ h0), for_enum (K := K) (xs := ys.map val) (fun i σ H => Pv (ys.take i) σ H) (by simpa using h0) (fun i σ H _ p => sqL (st _ _ _ p)) (fun i x σ H T hx p hT => ?_) (fun σ H p => hd σ H (by simpa using p))⟩
  obtain ⟨y, hy, rfl⟩ := map_at hx
  obtain ⟨e1, e2⟩ := take_at hy
  have hl : (ys.take i).length = i := by
    have : i < ys.length := by
      rcases Nat.lt_or_ge i ys.length with c | c
      · exact c
      · rw [List.getElem?_eq_none c] at hy; cases hy
    rw [List.length_take]; omega
  rw [e2]
  have := hs (ys.take i) y _ σ H _ T e1 p hT (same_new hT) upd_same
  rw [hl] at this
  exact this
/-- a session waits -/
def Rs.Waits (blk : Int) (window : Option Int) (s : Nat) (st : Sm) (R : Rs) : Prop := match st with
  | .lock n => ∃ o, o ≠ s ∧ n ∈ R.locks.getD o []
  | .take => R.stores.getD s [] = [] ∧ ∃ w l, window = some w ∧ R.low = some l ∧ w < R.height + blk - l
  | _ => False
def sp_Running_blocked (K : PySem.W.Frag) : Sp := fun vs H Q E => ∃ p s Fr sy D R xv st r, vs = [.ref p, .int (s : Nat)] ∧ RunAt K Fr H sy D R xv p ∧ R.rests[s]? = some (st :: r) ∧ ¬ R.Waits (D.blk s) D.window s st ∧ (∀ H', Same H H' → Q (.bl false) H')
theorem len_Running_blocked (K : PySem.W.Frag) : ∀ (vs : List V) (H : Hp) (Q : VK) (E : XK), sp_Running_blocked K vs H Q E → vs.length = 2 := by
  rintro vs H Q E ⟨_, _, _, _, _, _, _, _, _, rfl, _⟩
  rfl
theorem ok_Running_blocked (T : Txt K mg) : CallF P w K mg base 6 (He.ma K (He.ga K "Running") "blocked") ["self", "session"] (sp_Running_blocked K) := by
  obtain ⟨fd, F⟩ := T.d_Running_blocked
  obtain ⟨fd_System_kind_of, G_System_kind_of, b_System_kind_of, k_System_kind_of⟩ := ok_System_kind_of (P := P) (w := w) (base := base) T
  obtain ⟨fd_Running_lowest, G_Running_lowest, b_Running_lowest, k_Running_lowest⟩ := ok_Running_lowest (P := P) (w := w) (base := base) T
  obtain ⟨fd_Running_statement, G_Running_statement, b_Running_statement, k_Running_statement⟩ := ok_Running_statement (P := P) (w := w) (base := base) T
  refine ⟨fd, F.ok csRunning_blocked (len_Running_blocked K) (fun cdv A outer s H vs Q E hr hsp => ?_), F.bindsN (fun _ _ _ _ _ _ us hl => match us, hl with | [_, _], _ => rfl), F.kp⟩
  have hu := hu_of hr
  have hu65 : (A.deeper (envOfC "Running.blocked" (defScope sRunning_blocked) s.heap.objs.size (He.ma K (He.ga K "Running") "blocked") cdv)).units + 65 < cLine := by have := hr.un; omega
  have hu0 := hr.units0
  refine ⟨_, PSs.nox (pss_cons (ps_set (i := 2) csRunning_blocked.nd rfl (Or.inl rfl) (pe_meth (pv 0) T.c_Running T.m_Running_statement G_Running_statement (hr.mono (by decide)) b_Running_statement .nil pass0 (pa_cons (pv 1) pa_nil)))
      (pss_cons (ps_if (pt_cmpR op_eq (pe_ix ix_tup (pv 2) pe_int (fun _ _ => rfl)) pe_str (nomark _)) (pss_cons (ps_for PassesOwn.never rfl (pi_enum (by rfl) T.f_enumerate (pa_cons (pe_fld (pv 0) rfl) pa_nil)) (pg_tup rfl (pgs_cons (pg_name (i := 3) csRunning_blocked.nd rfl (Or.inl rfl)) (pgs_cons (pg_name (i := 4) csRunning_blocked.nd rfl (Or.inl rfl)) pgs_nil))) (pss_one (ps_if (PW.pt (pw_and (pt_cmpR op_ne (pv 3) (pv 1) (nomark _)) (pw_and1 (pt_cmpR op_in_seq (pe_ix ix_tup (pv 2) pe_int (fun _ _ => rfl)) (pv 4) (by rfl))))) (pss_one (ps_ret pe_bl)) pss_nil)))
      (pss_one (ps_ret pe_bl))) pss_nil)
      (pss_cons (ps_if (PW.pt (pw_or (pt_cmpR op_ne (pe_ix ix_tup (pv 2) pe_int (fun _ _ => rfl)) pe_str (nomark _)) (pw_or (pt_cmpR op_gt (pe_callB call_lenN (by rfl) T.f_len (by decide +kernel) (pa_cons (pe_ix ix_list (pe_fld (pv 0) rfl) (pv 1) (fun _ _ => rfl)) pa_nil)) pe_int (nomark _)) (pw_or1 (pt_cmpR op_isN1 (pe_fld (pe_fld (pv 0) rfl) rfl) pe_non (nomark _)))))) (pss_one (ps_ret pe_bl)) pss_nil)
      (pss_cons (ps_set (i := 5) csRunning_blocked.nd rfl (Or.inl rfl) (pe_meth0 (pv 0) T.c_Running T.m_Running_lowest G_Running_lowest (hr.mono (by decide)) b_Running_lowest .nil pass0))
      (pss_cons (ps_set (i := 6) csRunning_blocked.nd rfl (Or.inl rfl) (pe_op op_add (pe_fld (pv 0) rfl) (pe_fld (pe_meth (pe_fld (pv 0) rfl) T.c_System T.m_System_kind_of G_System_kind_of (hr.mono (by decide)) b_System_kind_of .nil pass0 (pa_cons (pv 1) pa_nil)) rfl)))
      (pss_one (ps_ret (pe_and (pe_cmpR op_notN1 (pv 5) pe_non (nomark _)) (pe_one (pe_cmpR op_gt (pe_op op_sub (pv 6) (pv 5)) (pe_fld (pe_fld (pv 0) rfl) rfl) (nomark _))))))))))), ?_⟩
  obtain ⟨p, s0, Fr, sy, D, R, xv, st, r0, rfl, RA, hr0, hw, hq⟩ := hsp
  obtain ⟨ow, A1, pv, cv, r⟩ := id RA
  have hs := r.s_lt hr0
  have e1 := r.eself
  have e2 := r.elk
  have e3 := r.est
  obtain ⟨dxs, kts, sts, es⟩ := r.esys
  obtain ⟨k, hk1, hk2, hk3⟩ := SysD.ss_at hs
  walk_at "st"
  walk_at "rd"
  refine ⟨p, s0, Fr, sy, D, R, xv, st, r0, rfl, RA, hr0, fun v dv => ?_⟩
  obtain ⟨a, xs, rfl, ea⟩ := dv.head
  walk_at "rd"
  by_cases hl : st.word = "lock"
  · obtain ⟨nm, rfl⟩ := word_lock hl
    have ea2 := dv.lock
    walk_at "rd"
    refine w_forEL ?_
    walk_at "rd"
    refine forEL (ys := (List.range D.n).map fun i => (i, A1.lki i)) (val := fun y => .ref y.2) (fun pre σ H' => Same H H' ∧ ∃ o1 o2 o5 o6, σ = [some (.ref p), some (.int (s0 : Nat)), some (.ref a), o1, o2, o5, o6]) ⟨Same.refl H, none, none, none, none, rfl⟩ (fun pre σ H' h => h.1 _ _ (by rw [e2]; simp [refs, Function.comp_def])) ?_ ?_
    · rintro pre y post σ H1 H2 T0 hy ⟨hs1, o1, o2, o5, o6, rfl⟩ hT0 hs2 eT
      have hym : y ∈ (List.range D.n).map fun i => (i, A1.lki i) := by rw [hy]; simp
      obtain ⟨i, hi, rfl⟩ := List.mem_map.mp hym
      have hi := List.mem_range.mp hi
      have hpre : pre.length = i := by
        have h1 : ((List.range D.n).map fun i => (i, A1.lki i))[pre.length]? = some (i, A1.lki i) := by rw [hy]; simp
        rw [List.getElem?_map] at h1
        cases h2 : (List.range D.n)[pre.length]? with
        | none => rw [h2] at h1; cases h1
        | some j =>
          rw [h2] at h1
          have := List.getElem?_range_of h2
          simp at h1
          omega
      have hs12 := hs1.trans hs2
      have ea3 := hs12 _ _ ea2
      have ek := hs12 _ _ (r.elki hi)
      walk_at "rd"
      refine w_iten (fun hne => ?_) (fun hne => ?_)
      · walk_at "rd"
        refine in_strs ek ?_
        walk_at "rd"
        have hni : ¬ nm ∈ R.locks.getD i [] := fun hm => hw ⟨i, by rw [← hpre]; intro e; exact hne (by rw [e]), hm⟩
        refine w_itef hni ?_
        walk_at "rd"
        exact ⟨hs12, _, _, o5, o6, rfl⟩
      · walk_at "rd"
        exact ⟨hs12, _, _, o5, o6, rfl⟩
    · rintro σ H1 ⟨hs1, o1, o2, o5, o6, rfl⟩
      walk_at "rd"
      exact hq _ hs1
  · walk_at "rd"
    by_cases ht : st.word = "take"
    · have := word_take ht
      subst this
      have hat := at_refs (f := A1.sti) hs
      have e4 := r.esti hs
      walk_at "rd"
      by_cases hst : R.stores.getD s0 [] = []
      · rw [hst] at e4
        walk_at "rd"
        refine w_itef (by rw [hst]; decide) ?_
        walk_at "rd"
        cases hwin : D.window with
        | none =>
          dsimp only [oV]
          walk_at "rd"
          exact hq _ (Same.refl H)
        | some w =>
          dsimp only [oV]
          walk_at "rd"
          refine ⟨p, Fr, sy, D, R, xv, rfl, RA, fun H1 hs1 => ?_⟩
          have f1 := hs1 _ _ e1
          walk_at "rd"
          refine ⟨sy, D.ks, D.ahead, D.window, D.crashes, s0, k, rfl, (r.sys.mono r.lay.fr).mono hs1, hk1, fun ka ⟨dxk, sc, ek, hsc⟩ => ?_⟩
          have es1 := hs1 _ _ es
          walk_at "rd"
          cases hlow : R.low with
          | none =>
            dsimp only [oV]
            walk_at "rd"
            exact hq _ hs1
          | some l =>
            dsimp only [oV]
            walk_at "rd"
            rw [hwin]
            dsimp only [oV]
            walk_at "rd"
            have hnw : ¬ w < R.height + k.block - l := fun hlt => hw ⟨hst, w, l, hwin, hlow, by rw [hk3]; exact hlt⟩
            simpa [hnw] using hq _ hs1
      · walk_at "rd"
        have hpos : (0 : Int) < ((R.stores.getD s0 []).map V.int).length := by
          rw [List.length_map]
          have := List.length_pos_iff.mpr hst
          omega
        refine w_itet hpos ?_
        walk_at "rd"
        exact hq _ (Same.refl H)
    · refine w_itent ht ?_
      walk_at "rd"
      exact hq _ (Same.refl H)
/-- a step of a schedule -/
inductive Mv where
  | crash
  | go (s : Nat) (a : Int)
def Mv.vs : Mv → List V
  | .crash => [.str "crash"]
  | .go s a => [.int (s : Nat), .int a]
def Mv.Fits (D : SysD) (R : Rs) : Mv → Prop
  | .crash => 0 < R.crashes
  | .go s a => ∃ st r, R.rests[s]? = some (st :: r) ∧ st.ans a ∧ ¬ R.Waits (D.blk s) D.window s st
def sp_Running_fits (K : PySem.W.Frag) : Sp := fun vs H Q E => ∃ p t Fr sy D R xv m, vs = [.ref p, .ref t] ∧ RunAt K Fr H sy D R xv p ∧ H t = some (.tup (Mv.vs m)) ∧ m.Fits D R ∧ (∀ H', Same H H' → Q (.bl true) H')
theorem len_Running_fits (K : PySem.W.Frag) : ∀ (vs : List V) (H : Hp) (Q : VK) (E : XK), sp_Running_fits K vs H Q E → vs.length = 2 := by
  rintro vs H Q E ⟨_, _, _, _, _, _, _, _, rfl, _⟩
  rfl
theorem ok_Running_fits (T : Txt K mg) : CallF P w K mg base 7 (He.ma K (He.ga K "Running") "fits") ["self", "step"] (sp_Running_fits K) := by
  obtain ⟨fd, F⟩ := T.d_Running_fits
  obtain ⟨fd_Running_blocked, G_Running_blocked, b_Running_blocked, k_Running_blocked⟩ := ok_Running_blocked (P := P) (w := w) (base := base) T
  obtain ⟨fd_Running_statement, G_Running_statement, b_Running_statement, k_Running_statement⟩ := ok_Running_statement (P := P) (w := w) (base := base) T
  obtain ⟨fd_is_integer, G_is_integer, b_is_integer, k_is_integer⟩ := ok_is_integer (P := P) (w := w) (base := base) T
  obtain ⟨fd_Running_is_session, G_Running_is_session, b_Running_is_session, k_Running_is_session⟩ := ok_Running_is_session (P := P) (w := w) (base := base) T
  refine ⟨fd, F.ok csRunning_fits (len_Running_fits K) (fun cdv A outer s H vs Q E hr hsp => ?_), F.bindsN (fun _ _ _ _ _ _ us hl => match us, hl with | [_, _], _ => rfl), F.kp⟩
  have hu := hu_of hr
  have hu65 : (A.deeper (envOfC "Running.fits" (defScope sRunning_fits) s.heap.objs.size (He.ma K (He.ga K "Running") "fits") cdv)).units + 65 < cLine := by have := hr.un; omega
  have hu0 := hr.units0
  refine ⟨_, PSs.nox (pss_cons (ps_if (pt_not (pt_val (pe_callB call_isi (by rfl) T.f_isinstance (by decide +kernel) (pa_cons (pv 1) (pa_cons (pe_bltn (v := .ty "tuple") (by rfl) T.f_tuple (by decide +kernel) rfl) pa_nil))))) (pss_one (ps_ret pe_bl)) pss_nil)
      (pss_cons (ps_if (pt_cmpR op_eq (pe_callB call_lenN (by rfl) T.f_len (by decide +kernel) (pa_cons (pv 1) pa_nil)) pe_int (nomark _)) (pss_one (ps_ret (pe_and (pe_callB call_isi (by rfl) T.f_isinstance (by decide +kernel) (pa_cons (pe_ix ix_tup (pv 1) pe_int (fun _ _ => rfl)) (pa_cons (pe_bltn (v := .ty "str") (by rfl) T.f_str (by decide +kernel) rfl) pa_nil))) (pe_and (pe_cmpR op_eq (pe_ix ix_tup (pv 1) pe_int (fun _ _ => rfl)) pe_str (nomark _)) (pe_one (pe_cmpR op_gt (pe_fld (pv 0) rfl) pe_int (nomark _))))))) pss_nil)
      (pss_cons (ps_if (PW.pt (pw_or (pt_cmpR op_ne (pe_callB call_lenN (by rfl) T.f_len (by decide +kernel) (pa_cons (pv 1) pa_nil)) pe_int (nomark _)) (pw_or (pt_not (pt_val (pe_meth (pv 0) T.c_Running T.m_Running_is_session G_Running_is_session (hr.mono (by decide)) b_Running_is_session .nil pass0 (pa_cons (pe_ix ix_tup (pv 1) pe_int (fun _ _ => rfl)) pa_nil)))) (pw_or1 (pt_not (pt_val (pe_call G_is_integer (hr.mono (by decide)) (by rfl) T.g_is_integer k_is_integer b_is_integer .nil pass0 (pa_cons (pe_ix ix_tup (pv 1) pe_int (fun _ _ => rfl)) pa_nil)))))))) (pss_one (ps_ret pe_bl)) pss_nil)
      (pss_cons (ps_set (i := 2) csRunning_fits.nd rfl (Or.inl rfl) (pe_op op_add pe_int (pe_callTy call_intN (by rfl) T.f_int (by decide +kernel) (pa_cons (pe_cmpR op_eq (pe_ix ix_tup (pe_meth (pv 0) T.c_Running T.m_Running_statement G_Running_statement (hr.mono (by decide)) b_Running_statement .nil pass0 (pa_cons (pe_ix ix_tup (pv 1) pe_int (fun _ _ => rfl)) pa_nil)) pe_int (fun _ _ => rfl)) pe_str (nomark _)) pa_nil))))
      (pss_one (ps_ret (pe_and (pe_chain op_le op_lt pe_int (pe_ix ix_tup (pv 1) pe_int (fun _ _ => rfl)) (pv 2)) (pe_one (pe_not (pe_meth (pv 0) T.c_Running T.m_Running_blocked G_Running_blocked (hr.mono (by decide)) b_Running_blocked .nil pass0 (pa_cons (pe_ix ix_tup (pv 1) pe_int (fun _ _ => rfl)) pa_nil))))))))))), ?_⟩
  obtain ⟨p, t, Fr, sy, D, R, xv, m, rfl, RA, et, hf, hq⟩ := hsp
  obtain ⟨ow, A1, pv, cv, r⟩ := id RA
  have e1 := r.eself
  cases m with
  | crash =>
    have hc : 0 < R.crashes := hf
    dsimp only [Mv.vs] at et
    walk_at "st"
    walk_at "rd"
    simpa [hc] using hq _ (Same.refl H)
  | go s0 a =>
    obtain ⟨st, r0, hr0, ha, hw⟩ := hf
    have hs := r.s_lt hr0
    dsimp only [Mv.vs] at et
    walk_at "st"
    walk_at "rd"
    refine ⟨p, s0, Fr, sy, D, R, xv, rfl, RA, hs, ?_⟩
    walk_at "rd"
    refine u_int ?_
    walk_at "rd"
    refine ⟨p, s0, Fr, sy, D, R, xv, st, r0, rfl, RA, hr0, fun v dv => ?_⟩
    obtain ⟨va, xs, rfl, ea⟩ := dv.head
    walk_at "rd"
    have h0 : 0 ≤ a := by rcases ha with h | ⟨h, _⟩ <;> omega
    have h1 : a < 1 + (if decide (st.word = "choose") = true then 1 else 0) := by
      rcases ha with h | ⟨h, hc⟩
      · split <;> omega
      · rw [if_pos (by simp [hc])]; omega
    refine w_itet h0 ?_
    walk_at "rd"
    exact ⟨p, s0, Fr, sy, D, R, xv, st, r0, rfl, RA, hr0, hw, fun H1 hs1 => ⟨false, rfl, hq _ hs1⟩⟩
end
section
variable {P : Program} {w : World} {K : PySem.W.Frag} {mg : Str → Option Value} {base : Heap}
theorem tp_put {H H1 : Hp} {b : Addr} {o o' : HO} (s : Tp H H1) (e : H1 b = some o) (n : ∀ xs, o ≠ .tup xs) : Tp H (upd H1 b o') := s.trans ((SameBut.put (SameBut.refl _ H1)).tp e n)
def sp_Running_hand_out (K : PySem.W.Frag) : Sp := fun vs H Q E => ∃ p s Fr sy D R xv, vs = [.ref p, .int (s : Nat)] ∧ RunAt K Fr H sy D R xv p ∧ s < D.n ∧ Lim R ∧ (∀ H', Tp H H' → RunAt K Fr H' sy D (R.handOut (D.blk s) D.ahead s) xv p → Q .non H')
theorem len_Running_hand_out (K : PySem.W.Frag) : ∀ (vs : List V) (H : Hp) (Q : VK) (E : XK), sp_Running_hand_out K vs H Q E → vs.length = 2 := by
  rintro vs H Q E ⟨_, _, _, _, _, _, _, rfl, _⟩
  rfl
theorem ok_Running_hand_out (T : Txt K mg) : CallF P w K mg base 4 (He.ma K (He.ga K "Running") "hand_out") ["self", "session"] (sp_Running_hand_out K) := by
  obtain ⟨fd, F⟩ := T.d_Running_hand_out
  obtain ⟨fd_System_kind_of, G_System_kind_of, b_System_kind_of, k_System_kind_of⟩ := ok_System_kind_of (P := P) (w := w) (base := base) T
  refine ⟨fd, F.ok csRunning_hand_out (len_Running_hand_out K) (fun cdv A outer s H vs Q E hr hsp => ?_), F.bindsN (fun _ _ _ _ _ _ us hl => match us, hl with | [_, _], _ => rfl), F.kp⟩
  have hu := hu_of hr
  have hu65 : (A.deeper (envOfC "Running.hand_out" (defScope sRunning_hand_out) s.heap.objs.size (He.ma K (He.ga K "Running") "hand_out") cdv)).units + 65 < cLine := by have := hr.un; omega
  have hu0 := hr.units0
  refine ⟨_, PSs.nox (pss_cons (ps_set (i := 2) csRunning_hand_out.nd rfl (Or.inl rfl) (pe_fld (pe_meth (pe_fld (pv 0) rfl) T.c_System T.m_System_kind_of G_System_kind_of (hr.mono (by decide)) b_System_kind_of .nil pass0 (pa_cons (pv 1) pa_nil)) rfl))
      (pss_cons (ps_asg (pe_listRg rfl (by rfl) T.f_list (prg_2 (by rfl) T.f_range (pe_fld (pv 0) rfl) (pe_op op_add (pe_fld (pv 0) rfl) (pv 2)))) (pg_sub (pe_fld (pv 0) rfl) (pv 1) set_list))
      (pss_cons (ps_fldaug (pv 0) (pv 2) in_add)
      (pss_one (ps_if (pt_cmpR op_gt (pe_fld (pv 0) rfl) (pe_fld (pv 0) rfl) (nomark _)) (pss_one (ps_fld (pv 0) (pe_op op_add (pe_fld (pv 0) rfl) (pe_fld (pe_fld (pv 0) rfl) rfl)) rfl)) pss_nil))))), ?_⟩
  obtain ⟨p, s0, Fr, sy, D, R, xv, rfl, ⟨ow, A1, pv, cv, r⟩, hs, lim, hq⟩ := hsp
  have hix := at_refs (f := A1.sti) hs
  have e1 := r.eself
  have e3 := r.est
  obtain ⟨dxs, kts, sts, es⟩ := r.esys
  obtain ⟨k, hk1, hk2, hk3⟩ := SysD.ss_at hs
  have hbk := r.dok.blk k (List.mem_of_getElem? hk1)
  have h0 := lim.h0
  have h1 := lim.h1
  have h2 := lim.h2
  walk_at "st"
  walk_at "rd"
  refine ⟨sy, D.ks, D.ahead, D.window, D.crashes, s0, k, rfl, r.sys.mono r.lay.fr, hk1, fun ka ⟨dxk, sc, ek, hsc⟩ => ?_⟩
  walk_at "rd"
  refine w_gLstRg (RgOk.of_le (by omega) (by omega) (by omega) (by omega)) ?_
  refine w_new fun q H2 hn2 hs2 hq2 _ => ?_
  rw [rg_V] at hq2
  walk_at "rd"
  refine w_setL (hs2 _ _ e3) (ix_refs hs) ?_
  obtain ⟨ow2, A2, pv2, cv2, r2⟩ := r.nsti hs hn2 hs2 hq2
  have tp2 : Tp H (upd H2 A1.st (.lst ((refs D.n A1.sti).set s0 (.ref q)))) := tp_put hs2.tp' (hs2 _ _ e3) (fun _ z => nomatch z)
  generalize upd H2 A1.st (.lst ((refs D.n A1.sti).set s0 (.ref q))) = H3 at *
  have f1 := r2.eself
  have f2 := r2.sne
  obtain ⟨dxs2, kts2, sts2, es2⟩ := r2.esys
  walk_at "rd"
  refine w_ite (fun hlt => ?_) (fun hlt => ?_)
  · walk_at "rd"
    simp only [upd_upd]
    refine hq _ (tp_put tp2 f1 (fun _ z => nomatch z)) ⟨_, _, _, _, r2.fld (R' := R.handOut (D.blk s0) D.ahead s0) ?_ rfl rfl rfl (by simp only [Rs.handOut, hk3]) rfl rfl⟩
    simp only [Rs.handOut, hk3, if_pos hlt]
    rfl
  · walk_at "rd"
    refine hq _ (tp_put tp2 f1 (fun _ z => nomatch z)) ⟨_, _, _, _, r2.fld (R' := R.handOut (D.blk s0) D.ahead s0) ?_ rfl rfl rfl (by simp only [Rs.handOut, hk3]) rfl rfl⟩
    simp only [Rs.handOut, hk3, if_neg hlt]
    rfl
def sp_Running_commit (K : PySem.W.Frag) : Sp := fun vs H Q E => ∃ p s Fr sy D R xv, vs = [.ref p, .int (s : Nat)] ∧ RunAt K Fr H sy D R xv p ∧ s < D.n ∧ Lim R ∧ (∀ H', Tp H H' → RunAt K Fr H' sy D (R.commit s) xv p → Q .non H')
theorem len_Running_commit (K : PySem.W.Frag) : ∀ (vs : List V) (H : Hp) (Q : VK) (E : XK), sp_Running_commit K vs H Q E → vs.length = 2 := by
  rintro vs H Q E ⟨_, _, _, _, _, _, _, rfl, _⟩
  rfl
theorem ok_Running_commit (T : Txt K mg) : CallF P w K mg base 1 (He.ma K (He.ga K "Running") "commit") ["self", "session"] (sp_Running_commit K) := by
  obtain ⟨fd, F⟩ := T.d_Running_commit
  refine ⟨fd, F.ok csRunning_commit (len_Running_commit K) (fun cdv A outer s H vs Q E hr hsp => ?_), F.bindsN (fun _ _ _ _ _ _ us hl => match us, hl with | [_, _], _ => rfl), F.kp⟩
  have hu := hu_of hr
  have hu65 : (A.deeper (envOfC "Running.commit" (defScope sRunning_commit) s.heap.objs.size (He.ma K (He.ga K "Running") "commit") cdv)).units + 65 < cLine := by have := hr.un; omega
  have hu0 := hr.units0
  refine ⟨_, PSs.nox (pss_one (ps_if (pt_cmpR op_gt (pe_callB call_lenN (by rfl) T.f_len (by decide +kernel) (pa_cons (pe_ix ix_list (pe_fld (pv 0) rfl) (pv 1) (fun _ _ => rfl)) pa_nil)) pe_int (nomark _)) (pss_cons (ps_expr (pe_bm PySem.F.plainAttrs_list PySem.F.slot_list_append PySem.F.type_list_append mt_append (pe_fld (pv 0) rfl) (pa_cons (pe_tup (pa_cons (pv 1) (pa_cons (pe_callTy call_tupN (by rfl) T.f_tuple (by decide +kernel) (pa_cons (pe_ix ix_list (pe_fld (pv 0) rfl) (pv 1) (fun _ _ => rfl)) pa_nil)) pa_nil))) pa_nil)))
      (pss_one (ps_asg (pe_lst pa_nil) (pg_sub (pe_fld (pv 0) rfl) (pv 1) set_list)))) pss_nil)), ?_⟩
  obtain ⟨p, s0, Fr, sy, D, R, xv, rfl, RA, hs, lim, hq⟩ := hsp
  obtain ⟨ow, A1, pv, cv, r⟩ := id RA
  have hix := at_refs (f := A1.tri) hs
  have e1 := r.eself
  have e3 := r.etr
  have e4 := r.etri hs
  have e5 := r.ecm
  have hcl := r.cm.length
  have hcm := lim.cm
  walk_at "st"
  walk_at "rd"
  by_cases he : R.trans.getD s0 [] = []
  · refine w_itef (by rw [he]; decide) ?_
    walk_at "rd"
    refine hq _ (Tp.refl H) ?_
    rw [show R.commit s0 = R from if_pos he]
    exact RA
  · have hpos : (0 : Int) < ((R.trans.getD s0 []).map V.int).length := by
      rw [List.length_map]
      have := List.length_pos_iff.mpr he
      omega
    refine w_itet hpos ?_
    walk_at "rd"
    rename_i p2 H2 hn2 hs2 hp2 he2 p3 H3 hn3 hs3 hp3 he3
    have hs13 := hs2.trans hs3
    refine w_append (hs13 _ _ e5) (small_lt (by omega)) ?_
    have r2 := (r.grow hs13).commit (s := (s0 : Int)) (ns := R.trans.getD s0 []) hp3 (hs3 _ _ hp2)
    have tp2 : Tp H (upd H3 A1.cm (.lst (cv ++ [.ref p3]))) := tp_put hs13.tp' (hs13 _ _ e5) (fun _ z => nomatch z)
    generalize upd H3 A1.cm (.lst (cv ++ [.ref p3])) = H4 at *
    have f1 := r2.eself
    have f3 := r2.etr
    walk_at "rd"
    rename_i p5 H5 hn5 hs5 hp5 he5
    refine w_setL (hs5 _ _ f3) (ix_refs hs) ?_
    have r3 := r2.ntri (zs := []) hs hn5 hs5 hp5
    refine hq _ (tp_put (tp2.trans hs5.tp') (hs5 _ _ f3) (fun _ z => nomatch z)) ?_
    rw [show R.commit s0 = { R with commits := R.commits ++ [((s0 : Int), R.trans.getD s0 [])], trans := R.trans.set s0 [] } from if_neg he]
    exact r3
def sp_Running_hold (K : PySem.W.Frag) : Sp := fun vs H Q E => ∃ p s nm h Fr sy D R xv, vs = [.ref p, .int (s : Nat), .str nm, .bl h] ∧ RunAt K Fr H sy D R xv p ∧ s < D.n ∧ (R.locks.getD s []).length ≤ 1000 ∧ (∀ H', Tp H H' → RunAt K Fr H' sy D (R.hold s nm h) xv p → Q .non H')
theorem len_Running_hold (K : PySem.W.Frag) : ∀ (vs : List V) (H : Hp) (Q : VK) (E : XK), sp_Running_hold K vs H Q E → vs.length = 4 := by
  rintro vs H Q E ⟨_, _, _, _, _, _, _, _, _, rfl, _⟩
  rfl
theorem ok_Running_hold (T : Txt K mg) : CallF P w K mg base 1 (He.ma K (He.ga K "Running") "hold") ["self", "session", "name", "held"] (sp_Running_hold K) := by
  obtain ⟨fd, F⟩ := T.d_Running_hold
  refine ⟨fd, F.ok csRunning_hold (len_Running_hold K) (fun cdv A outer s H vs Q E hr hsp => ?_), F.bindsN (fun _ _ _ _ _ _ us hl => match us, hl with | [_, _, _, _], _ => rfl), F.kp⟩
  have hu := hu_of hr
  have hu65 : (A.deeper (envOfC "Running.hold" (defScope sRunning_hold) s.heap.objs.size (He.ma K (He.ga K "Running") "hold") cdv)).units + 65 < cLine := by have := hr.un; omega
  have hu0 := hr.units0
  refine ⟨_, PSs.nox (pss_cons (ps_setLc (i := 4) (own := [("other", 5)]) rfl csRunning_hold.nd rfl rfl (sw_true rfl rfl rfl (by decide +kernel)) (pi_list (pe_ix ix_list (pe_fld (pv 0) rfl) (pv 1) (fun _ _ => rfl))) (blkOk_by (own := [("other", 5)]) (N := ["self", "session", "name", "held", "names", "other"]) (sc := defScope sRunning_hold) (by decide +kernel)) (fun _ _ _ _ _ => (pg_name (i := 5) csRunning_hold.nd rfl (Or.inl rfl))) (fun _ _ _ _ _ => (pts_one (pt_cmpR op_ne (pv 5) (pv 2) (nomark _)))) (fun _ _ _ _ _ => (pv 5)))
      (pss_cons (ps_if (pt_val (pv 3)) (pss_one (ps_expr (pe_bm PySem.F.plainAttrs_list PySem.F.slot_list_append PySem.F.type_list_append mt_append (pv 4) (pa_cons (pv 2) pa_nil)))) pss_nil)
      (pss_one (ps_asg (pv 4) (pg_sub (pe_fld (pv 0) rfl) (pv 1) set_list))))), ?_⟩
  obtain ⟨p, s0, nm, hb, Fr, sy, D, R, xv, rfl, ⟨ow, A1, pv, cv, r⟩, hs, hll, hq⟩ := hsp
  have hix := at_refs (f := A1.lki) hs
  have e1 := r.eself
  have e3 := r.elk
  have e4 := r.elki hs
  walk_at "st"
  walk_at "rd"
  refine lcL0 (ys := R.locks.getD s0 []) (val := V.str) (fun x => if x = nm then none else some (.str x)) e4 (small1000 hll) ?_ ?_
  · intro y hy H2 hs2 NT NF hT hF
    refine w_name rfl ?_
    refine ⟨rfl, ?_⟩
    walk_at "rd"
    refine w_iten (fun hne => ?_) (fun hne => ?_)
    · walk_at "rd"
      exact hT _ (if_neg hne)
    · exact hF (if_pos hne)
  · have hf : (R.locks.getD s0 []).filterMap (fun x => if x = nm then none else some (V.str x)) = ((R.locks.getD s0 []).filter (fun x => !decide (x = nm))).map V.str := by
      induction R.locks.getD s0 [] with
      | nil => rfl
      | cons x l ih =>
        by_cases hx : x = nm
        · simp [hx, ih]
        · simp [hx, ih]
    rw [hf]
    walk_at "rd"
    rename_i p2 H2 hn2 hs2 hp2 he2
    cases hb with
    | true =>
      walk_at "rd"
      refine w_append hp2 (small1000 (by rw [List.length_map]; have := List.length_filter_le (fun x => !decide (x = nm)) (R.locks.getD s0 []); omega)) ?_
      have hs3 := same_put (o := .lst (((R.locks.getD s0 []).filter (fun x => !decide (x = nm))).map V.str ++ [.str nm])) hs2 hn2
      have hp3 : upd H2 p2 (.lst (((R.locks.getD s0 []).filter (fun x => !decide (x = nm))).map V.str ++ [.str nm])) p2 = some _ := upd_same
      generalize upd H2 p2 (.lst (((R.locks.getD s0 []).filter (fun x => !decide (x = nm))).map V.str ++ [.str nm])) = H3 at *
      have f1 := hs3 _ _ e1
      walk_at "rd"
      refine w_setL (hs3 _ _ e3) (ix_refs hs) ?_
      have r3 := r.nlki (zs := (R.locks.getD s0 []).filter (fun x => !decide (x = nm)) ++ [nm]) hs hn2 hs3 (by rw [hp3]; simp)
      refine hq _ (tp_put hs3.tp' (hs3 _ _ e3) (fun _ z => nomatch z)) ?_
      simpa [Rs.hold] using r3
    | false =>
      walk_at "rd"
      refine w_setL (hs2 _ _ e3) (ix_refs hs) ?_
      have r3 := r.nlki hs hn2 hs2 hp2
      refine hq _ (tp_put hs2.tp' (hs2 _ _ e3) (fun _ z => nomatch z)) ?_
      simpa [Rs.hold] using r3
def sp_Running_advance (K : PySem.W.Frag) : Sp := fun vs H Q E => ∃ p s a Fr sy D R xv st r, vs = [.ref p, .int (s : Nat), .int a] ∧ RunAt K Fr H sy D R xv p ∧ Lim R ∧ R.rests[s]? = some (st :: r) ∧ st.ans a ∧ (∀ H', Tp H H' → RunAt K Fr H' sy D (R.adv D.B s (st.next a r)) xv p → Q .non H')
theorem len_Running_advance (K : PySem.W.Frag) : ∀ (vs : List V) (H : Hp) (Q : VK) (E : XK), sp_Running_advance K vs H Q E → vs.length = 3 := by
  rintro vs H Q E ⟨_, _, _, _, _, _, _, _, _, _, rfl, _⟩
  rfl
theorem ok_Running_advance (T : Txt K mg) : CallF P w K mg base 6 (He.ma K (He.ga K "Running") "advance") ["self", "session", "answer"] (sp_Running_advance K) := by
  obtain ⟨fd, F⟩ := T.d_Running_advance
  obtain ⟨fd_Running_finish, G_Running_finish, b_Running_finish, k_Running_finish⟩ := ok_Running_finish (P := P) (w := w) (base := base) T
  obtain ⟨fd_System_kind_of, G_System_kind_of, b_System_kind_of, k_System_kind_of⟩ := ok_System_kind_of (P := P) (w := w) (base := base) T
  obtain ⟨fd_Script_after, G_Script_after, b_Script_after, k_Script_after⟩ := ok_Script_after (P := P) (w := w) (base := base) T
  refine ⟨fd, F.ok csRunning_advance (len_Running_advance K) (fun cdv A outer s H vs Q E hr hsp => ?_), F.bindsN (fun _ _ _ _ _ _ us hl => match us, hl with | [_, _, _], _ => rfl), F.kp⟩
  have hu := hu_of hr
  have hu65 : (A.deeper (envOfC "Running.advance" (defScope sRunning_advance) s.heap.objs.size (He.ma K (He.ga K "Running") "advance") cdv)).units + 65 < cLine := by have := hr.un; omega
  have hu0 := hr.units0
  refine ⟨_, PSs.nox (pss_cons (ps_set (i := 3) csRunning_advance.nd rfl (Or.inl rfl) (pe_meth (pe_fld (pe_meth (pe_fld (pv 0) rfl) T.c_System T.m_System_kind_of G_System_kind_of (hr.mono (by decide)) b_System_kind_of .nil pass0 (pa_cons (pv 1) pa_nil)) rfl) T.c_Script T.m_Script_after G_Script_after (hr.mono (by decide)) b_Script_after .nil pass0 (pa_cons (pe_ix ix_list (pe_fld (pv 0) rfl) (pv 1) (fun _ _ => rfl)) (pa_cons (pv 2) pa_nil))))
      (pss_one (ps_if (pt_cmpR op_isN1 (pv 3) pe_non (nomark _)) (pss_one (ps_expr (pe_meth (pv 0) T.c_Running T.m_Running_finish G_Running_finish (hr.mono (by decide)) b_Running_finish .nil pass0 (pa_cons (pv 1) pa_nil)))) (pss_one (ps_asg (pv 3) (pg_sub (pe_fld (pv 0) rfl) (pv 1) set_list)))))), ?_⟩
  obtain ⟨p, s0, a, Fr, sy, D, R, xv, st, r0, rfl, RA, lim, hr0, ha, hq⟩ := hsp
  obtain ⟨ow, A1, pv, cv, r⟩ := id RA
  have hs := r.s_lt hr0
  have e1 := r.eself
  have e2 := r.epl
  obtain ⟨dxs, kts, sts, es⟩ := r.esys
  obtain ⟨k, hk1, hk2, hk3⟩ := SysD.ss_at hs
  obtain ⟨ap, pl, ss, h1, h2, h3, h4⟩ := r.pl.2 s0 _ hr0
  have h3' := h3
  rw [hk2] at h3
  cases h3
  have hat : atI pv (s0 : Nat) = some (.ref ap) := at_nat h1 rfl
  have hpl := r.pl.1
  walk_at "st"
  walk_at "rd"
  refine ⟨sy, D.ks, D.ahead, D.window, D.crashes, s0, k, rfl, r.sys.mono r.lay.fr, hk1, fun ka ⟨dxk, sc, ek, hsc⟩ => ?_⟩
  obtain ⟨dx4, t4, a4, q4, kvs4, bs4, vs4, S4⟩ := id hsc
  have e4 := S4.ins
  walk_at "rd"
  refine ⟨sc, k.ss, k.n, ap, pl, st, r0, a, rfl, hsc, h2, h4, ha, fun H1 hs1 hnx => ?_, fun H1 b' pl' hs1 eb' hnx => ?_⟩
  · have f1 := hs1 _ _ e1
    walk_at "rd"
    refine ⟨p, s0, Fr, sy, D, R, xv, rfl, RA.grow hs1, hs, lim, fun H2 tp2 ra2 => ?_⟩
    refine hq _ (hs1.tp'.trans tp2) ?_
    rw [show R.adv D.B s0 (st.next a r0) = R.fin D.B s0 from if_pos hnx]
    exact ra2
  · have f1 := hs1 _ _ e1
    have f2 := hs1 _ _ e2
    have hne := restAt_ne hnx
    walk_at "rd"
    refine w_setL f2 (ix_nat (by omega) rfl) ?_
    have r2 := (r.grow hs1).place hs eb' h3' hnx
    refine hq _ (tp_put hs1.tp' f2 (fun _ z => nomatch z)) ?_
    rw [show R.adv D.B s0 (st.next a r0) = { R with rests := R.rests.set s0 (st.next a r0) } from if_neg hne]
    exact ⟨_, _, _, _, r2⟩
theorem Lim.handOut {R : Rs} {blk ahead : Int} {s : Nat} (h : Lim R) (h1 : R.height ≤ 900000) (h2 : R.noted ≤ 900000) (h3 : R.tot ≤ 900000) (hb : 1 ≤ blk ∧ blk ≤ 3) (ha : 0 ≤ ahead ∧ ahead ≤ 4) (hs : s < R.stores.length) (he : R.stores.getD s [] = []) : Lim (R.handOut blk ahead s) := by
  have g1 := lsum_set R.stores s (rg R.height (R.height + blk)) hs
  rw [he, rg_len] at g1
  have g2 := h.h0
  have g3 := h.h1
  refine ⟨by simp only [Rs.handOut]; omega, by simp only [Rs.handOut]; split <;> omega, by simp only [Rs.handOut]; split <;> omega, ?_, h.cm⟩
  simp only [Rs.handOut, Rs.tot, List.length_nil] at *
  omega
theorem Lim.pick {R : Rs} {s : Nat} {x : Int} {xs : List Int} (h : Lim R) (hx : R.stores.getD s [] = x :: xs) (ht : s < R.trans.length) (hs : s < R.stores.length) : Lim (R.pick s) := by
  have g1 := lsum_set R.stores s (R.stores.getD s []).tail hs
  have g2 := lsum_set R.trans s (R.trans.getD s [] ++ [(R.stores.getD s []).headD 0]) ht
  have g3 := h.tot
  refine ⟨h.h0, h.h1, h.h2, ?_, h.cm⟩
  rw [hx] at g1 g2
  simp only [Rs.pick, Rs.tot, hx, List.length_append, List.length_cons, List.length_nil, List.tail_cons] at *
  omega
theorem Lim.commit {R : Rs} {s : Nat} (h : Lim R) (hb : R.commits.length ≤ 900000) (ht : s < R.trans.length) : Lim (R.commit s) := by
  unfold Rs.commit
  split
  · exact h
  · have g1 := lsum_set R.trans s [] ht
    have g2 := h.tot
    refine ⟨h.h0, h.h1, h.h2, ?_, ?_⟩
    · simp only [Rs.tot, List.length_nil] at *
      omega
    · simp only [List.length_append, List.length_cons, List.length_nil]; omega
theorem Lim.rollback {R : Rs} {s : Nat} (h : Lim R) (ht : s < R.trans.length) : Lim (R.rollback s) := by
  have g1 := lsum_set R.trans s [] ht
  have g2 := h.tot
  refine ⟨h.h0, h.h1, h.h2, ?_, h.cm⟩
  simp only [Rs.rollback, Rs.tot, List.length_append, List.length_nil] at *
  omega
theorem commit_rests {R : Rs} {s : Nat} {i : Nat} : (R.commit s).rests[i]? = R.rests[i]? := by
  unfold Rs.commit
  split <;> rfl
def sp_Running_execute (K : PySem.W.Frag) : Sp := fun vs H Q E => ∃ p s a Fr sy D R xv st r, vs = [.ref p, .int (s : Nat), .int a] ∧ RunAt K Fr H sy D R xv p ∧ Lim R ∧ R.height ≤ 900000 ∧ R.noted ≤ 900000 ∧ R.tot ≤ 900000 ∧ R.commits.length ≤ 900000 ∧ (R.locks.getD s []).length ≤ 1000 ∧ R.rests[s]? = some (st :: r) ∧ st.ans a ∧ (∀ H', Tp H H' → RunAt K Fr H' sy D (R.exec D.B (D.blk s) D.ahead s st a) xv p → Q .non H')
theorem len_Running_execute (K : PySem.W.Frag) : ∀ (vs : List V) (H : Hp) (Q : VK) (E : XK), sp_Running_execute K vs H Q E → vs.length = 3 := by
  rintro vs H Q E ⟨_, _, _, _, _, _, _, _, _, _, rfl, _⟩
  rfl
theorem ok_Running_execute (T : Txt K mg) : CallF P w K mg base 7 (He.ma K (He.ga K "Running") "execute") ["self", "session", "answer"] (sp_Running_execute K) := by
  obtain ⟨fd, F⟩ := T.d_Running_execute
  obtain ⟨fd_Running_restart, G_Running_restart, b_Running_restart, k_Running_restart⟩ := ok_Running_restart (P := P) (w := w) (base := base) T
  obtain ⟨fd_Running_advance, G_Running_advance, b_Running_advance, k_Running_advance⟩ := ok_Running_advance (P := P) (w := w) (base := base) T
  obtain ⟨fd_Running_hand_out, G_Running_hand_out, b_Running_hand_out, k_Running_hand_out⟩ := ok_Running_hand_out (P := P) (w := w) (base := base) T
  obtain ⟨fd_Running_commit, G_Running_commit, b_Running_commit, k_Running_commit⟩ := ok_Running_commit (P := P) (w := w) (base := base) T
  obtain ⟨fd_Running_hold, G_Running_hold, b_Running_hold, k_Running_hold⟩ := ok_Running_hold (P := P) (w := w) (base := base) T
  obtain ⟨fd_Running_statement, G_Running_statement, b_Running_statement, k_Running_statement⟩ := ok_Running_statement (P := P) (w := w) (base := base) T
  refine ⟨fd, F.ok csRunning_execute (len_Running_execute K) (fun cdv A outer s H vs Q E hr hsp => ?_), F.bindsN (fun _ _ _ _ _ _ us hl => match us, hl with | [_, _, _], _ => rfl), F.kp⟩
  have hu := hu_of hr
  have hu65 : (A.deeper (envOfC "Running.execute" (defScope sRunning_execute) s.heap.objs.size (He.ma K (He.ga K "Running") "execute") cdv)).units + 65 < cLine := by have := hr.un; omega
  have hu0 := hr.units0
  refine ⟨_, PSs.nox (pss_cons (ps_set (i := 3) csRunning_execute.nd rfl (Or.inl rfl) (pe_meth (pv 0) T.c_Running T.m_Running_statement G_Running_statement (hr.mono (by decide)) b_Running_statement .nil pass0 (pa_cons (pv 1) pa_nil)))
      (pss_cons (ps_set (i := 4) csRunning_execute.nd rfl (Or.inl rfl) (pe_ix ix_tup (pv 3) pe_int (fun _ _ => rfl)))
      (pss_cons (ps_if (pt_cmpR op_eq (pv 4) pe_str (nomark _)) (pss_cons (ps_if (pt_cmpR op_eq (pe_callB call_lenN (by rfl) T.f_len (by decide +kernel) (pa_cons (pe_ix ix_list (pe_fld (pv 0) rfl) (pv 1) (fun _ _ => rfl)) pa_nil)) pe_int (nomark _)) (pss_one (ps_expr (pe_meth (pv 0) T.c_Running T.m_Running_hand_out G_Running_hand_out (hr.mono (by decide)) b_Running_hand_out .nil pass0 (pa_cons (pv 1) pa_nil)))) pss_nil)
      (pss_one (ps_expr (pe_bm PySem.F.plainAttrs_list PySem.F.slot_list_append PySem.F.type_list_append mt_append (pe_ix ix_list (pe_fld (pv 0) rfl) (pv 1) (fun _ _ => rfl)) (pa_cons (pe_bm PySem.F.plainAttrs_list PySem.F.slot_list_pop PySem.F.type_list_pop mt_popAt (pe_ix ix_list (pe_fld (pv 0) rfl) (pv 1) (fun _ _ => rfl)) (pa_cons pe_int pa_nil)) pa_nil))))) (pss_one (ps_if (pt_cmpR op_eq (pv 4) pe_str (nomark _)) (pss_one (ps_expr (pe_meth (pv 0) T.c_Running T.m_Running_commit G_Running_commit (hr.mono (by decide)) b_Running_commit .nil pass0 (pa_cons (pv 1) pa_nil)))) (pss_one (ps_if (pt_cmpR op_eq (pv 4) pe_str (nomark _)) (pss_cons (ps_expr (pe_bm PySem.F.plainAttrs_list PySem.F.slot_list_extend PySem.F.type_list_extend mt_extend (pe_fld (pv 0) rfl) (pa_cons (pe_ix ix_list (pe_fld (pv 0) rfl) (pv 1) (fun _ _ => rfl)) pa_nil)))
      (pss_one (ps_asg (pe_lst pa_nil) (pg_sub (pe_fld (pv 0) rfl) (pv 1) set_list)))) (pss_one (ps_if (pt_cmpR op_eq (pv 4) pe_str (nomark _)) (pss_cons (ps_expr (pe_bm PySem.F.plainAttrs_list PySem.F.slot_list_extend PySem.F.type_list_extend mt_extend (pe_fld (pv 0) rfl) (pa_cons (pe_ix ix_list (pe_fld (pv 0) rfl) (pv 1) (fun _ _ => rfl)) pa_nil)))
      (pss_one (ps_asg (pe_lst pa_nil) (pg_sub (pe_fld (pv 0) rfl) (pv 1) set_list)))) (pss_one (ps_if (PW.pt (pw_or (pt_cmpR op_eq (pv 4) pe_str (nomark _)) (pw_or1 (pt_cmpR op_eq (pv 4) pe_str (nomark _))))) (pss_one (ps_expr (pe_meth (pv 0) T.c_Running T.m_Running_hold G_Running_hold (hr.mono (by decide)) b_Running_hold .nil pass0 (pa_cons (pv 1) (pa_cons (pe_ix ix_tup (pv 3) pe_int (fun _ _ => rfl)) (pa_cons (pe_cmpR op_eq (pv 4) pe_str (nomark _)) pa_nil)))))) pss_nil)))))))))
      (pss_one (ps_if (pt_cmpR op_eq (pv 4) pe_str (nomark _)) (pss_one (ps_expr (pe_meth (pv 0) T.c_Running T.m_Running_restart G_Running_restart (hr.mono (by decide)) b_Running_restart .nil pass0 (pa_cons (pv 1) pa_nil)))) (pss_one (ps_expr (pe_meth (pv 0) T.c_Running T.m_Running_advance G_Running_advance (hr.mono (by decide)) b_Running_advance .nil pass0 (pa_cons (pv 1) (pa_cons (pv 2) pa_nil)))))))))), ?_⟩
  obtain ⟨p, s0, a, Fr, sy, D, R, xv, st, r0, rfl, RA, lim, hhb, hnb, htb, hcb, hll, hr0, ha, hq⟩ := hsp
  obtain ⟨ow, A1, pv, cv, r⟩ := id RA
  have hs := r.s_lt hr0
  have e1 := r.eself
  have htl : (R.rests.getD s0 []).tail = r0 := by rw [List.getD_eq_getElem?_getD, hr0]; rfl
  walk_at "st"
  walk_at "rd"
  refine ⟨p, s0, Fr, sy, D, R, xv, st, r0, rfl, RA, hr0, fun v dv => ?_⟩
  obtain ⟨va, xs, rfl, ea⟩ := dv.head
  have hex : st.word ≠ "leave" → R.exec D.B (D.blk s0) D.ahead s0 st a = (R.act (D.blk s0) D.ahead s0 st).adv D.B s0 (st.next a r0) := fun h => by
    rw [← htl]; cases st <;> first | rfl | exact absurd rfl h
  cases st with
  | leave =>
    dsimp only [Sm.word] at ea
    walk_at "rd"
    exact ⟨p, s0, Fr, sy, D, R, xv, rfl, RA, hs, lim, fun H1 tp1 ra1 => hq _ tp1 ra1⟩
  | take =>
    dsimp only [Sm.word] at ea
    rw [hex (by decide +kernel)] at hq
    have hix := at_refs (f := A1.sti) hs
    have e3 := r.est
    have e4 := r.esti hs
    walk_at "rd"
    by_cases hst : R.stores.getD s0 [] = []
    · refine w_itet (by rw [hst]; rfl) ?_
      walk_at "rd"
      refine ⟨p, s0, Fr, sy, D, R, xv, rfl, RA, hs, lim, fun H2 tp2 ra2 => ?_⟩
      have hact : R.act (D.blk s0) D.ahead s0 .take = (R.handOut (D.blk s0) D.ahead s0).pick s0 := by
        show (if R.stores.getD s0 [] = [] then _ else _ : Rs).pick s0 = _
        rw [if_pos hst]
      obtain ⟨k, hk1, hk2, hk3⟩ := SysD.ss_at hs
      have hbk := r.dok.blk k (List.mem_of_getElem? hk1)
      rw [← hk3] at hbk
      have lim2 := lim.handOut (s := s0) hhb hnb htb hbk r.dok.ah (by rw [r.len.stores]; exact hs) hst
      have hr2 : (R.handOut (D.blk s0) D.ahead s0).rests[s0]? = some (.take :: r0) := hr0
      have hne2 : (R.handOut (D.blk s0) D.ahead s0).stores.getD s0 [] ≠ [] := by
        show (R.stores.set s0 _).getD s0 [] ≠ []
        rw [getD_set_eq (by rw [r.len.stores]; exact hs)]
        intro e
        have := congrArg List.length e
        rw [rg_len] at this
        simp at this
        omega
      generalize R.handOut (D.blk s0) D.ahead s0 = R2 at *
      obtain ⟨ow2, A2, pv2, cv2, r2⟩ := id ra2
      have hlim2 := lim2.tot
      obtain ⟨x, xs2, hx⟩ : ∃ x xs2, R2.stores.getD s0 [] = x :: xs2 := by
        cases h : R2.stores.getD s0 [] with
        | nil => exact absurd h hne2
        | cons x xs => exact ⟨x, xs, rfl⟩
      have f1 := r2.eself
      have f2 := r2.etr
      have f3 := r2.est
      have f4 := r2.etri hs
      have f5 := r2.esti hs
      rw [hx, List.map_cons] at f5
      have hix1 := at_refs (f := A2.tri) hs
      have hix2 := at_refs (f := A2.sti) hs
      walk_at "rd"
      refine w_pop0 f5 ?_
      have r3 := r2.wsti (zs := xs2) hs
      have tp3 := tp_put (o' := .lst (xs2.map V.int)) tp2 f5 (fun _ z => nomatch z)
      generalize upd H2 (A2.sti s0) (.lst (xs2.map V.int)) = H3 at *
      have g4 := r3.etri hs
      walk_at "rd"
      have htr := lsum_get R2.trans s0
      refine w_append g4 (small_lt (by rw [List.length_map]; show (R2.trans.getD s0 []).length ≤ _; unfold Rs.tot at hlim2; omega)) ?_
      have r4 := r3.wtri (zs := R2.trans.getD s0 [] ++ [x]) hs
      rw [List.map_append] at r4
      have tp4 := tp_put (o' := .lst ((R2.trans.getD s0 []).map V.int ++ [V.int x])) tp3 g4 (fun _ z => nomatch z)
      have hpk : ({ ({ R2 with stores := R2.stores.set s0 xs2 } : Rs) with trans := R2.trans.set s0 (R2.trans.getD s0 [] ++ [x]) } : Rs) = R2.pick s0 := by unfold Rs.pick; rw [hx]; rfl
      have ra4 : RunAt K Fr (upd H3 (A2.tri s0) (.lst ((R2.trans.getD s0 []).map V.int ++ [V.int x]))) sy D (R2.pick s0) xv p := by rw [← hpk]; exact ⟨_, _, _, _, r4⟩
      generalize upd H3 (A2.tri s0) (.lst ((R2.trans.getD s0 []).map V.int ++ [V.int x])) = H4 at *
      obtain ⟨ow5, A5, pv5, cv5, r5⟩ := id ra4
      have k1 := r5.eself
      walk_at "rd"
      exact ⟨p, s0, a, Fr, sy, D, _, xv, .take, r0, rfl, ra4, lim2.pick hx (by rw [r2.len.trans]; exact hs) (by rw [r2.len.stores]; exact hs), hr2, ha, fun H5 tp5 ra5 => hq _ (tp4.trans tp5) (by rw [hact]; exact ra5)⟩
    · refine w_itef (by rw [List.length_map]; have := List.length_pos_iff.mpr hst; omega) ?_
      have ra2 := RA
      have lim2 := lim
      have hr2 := hr0
      have hne2 := hst
      have tp2 := Tp.refl H
      obtain ⟨R2, hR2⟩ : ∃ R2, R2 = R := ⟨R, rfl⟩
      obtain ⟨H2, hH2⟩ : ∃ H2, H2 = H := ⟨H, rfl⟩
      rw [← hR2] at ra2 lim2 hr2 hne2
      have hact : R.act (D.blk s0) D.ahead s0 .take = R2.pick s0 := by
        rw [hR2]
        show (if R.stores.getD s0 [] = [] then _ else _ : Rs).pick s0 = _
        rw [if_neg hst]
      rw [← hH2] at ra2
      have tp2 : Tp H H2 := by rw [hH2]; exact Tp.refl H
      rw [← hH2]
      obtain ⟨ow2, A2, pv2, cv2, r2⟩ := id ra2
      have hlim2 := lim2.tot
      obtain ⟨x, xs2, hx⟩ : ∃ x xs2, R2.stores.getD s0 [] = x :: xs2 := by
        cases h : R2.stores.getD s0 [] with
        | nil => exact absurd h hne2
        | cons x xs => exact ⟨x, xs, rfl⟩
      have f1 := r2.eself
      have f2 := r2.etr
      have f3 := r2.est
      have f4 := r2.etri hs
      have f5 := r2.esti hs
      rw [hx, List.map_cons] at f5
      have hix1 := at_refs (f := A2.tri) hs
      have hix2 := at_refs (f := A2.sti) hs
      walk_at "rd"
      refine w_pop0 f5 ?_
      have r3 := r2.wsti (zs := xs2) hs
      have tp3 := tp_put (o' := .lst (xs2.map V.int)) tp2 f5 (fun _ z => nomatch z)
      generalize upd H2 (A2.sti s0) (.lst (xs2.map V.int)) = H3 at *
      have g4 := r3.etri hs
      walk_at "rd"
      have htr := lsum_get R2.trans s0
      refine w_append g4 (small_lt (by rw [List.length_map]; show (R2.trans.getD s0 []).length ≤ _; unfold Rs.tot at hlim2; omega)) ?_
      have r4 := r3.wtri (zs := R2.trans.getD s0 [] ++ [x]) hs
      rw [List.map_append] at r4
      have tp4 := tp_put (o' := .lst ((R2.trans.getD s0 []).map V.int ++ [V.int x])) tp3 g4 (fun _ z => nomatch z)
      have hpk : ({ ({ R2 with stores := R2.stores.set s0 xs2 } : Rs) with trans := R2.trans.set s0 (R2.trans.getD s0 [] ++ [x]) } : Rs) = R2.pick s0 := by unfold Rs.pick; rw [hx]; rfl
      have ra4 : RunAt K Fr (upd H3 (A2.tri s0) (.lst ((R2.trans.getD s0 []).map V.int ++ [V.int x]))) sy D (R2.pick s0) xv p := by rw [← hpk]; exact ⟨_, _, _, _, r4⟩
      generalize upd H3 (A2.tri s0) (.lst ((R2.trans.getD s0 []).map V.int ++ [V.int x])) = H4 at *
      obtain ⟨ow5, A5, pv5, cv5, r5⟩ := id ra4
      have k1 := r5.eself
      walk_at "rd"
      exact ⟨p, s0, a, Fr, sy, D, _, xv, .take, r0, rfl, ra4, lim2.pick hx (by rw [r2.len.trans]; exact hs) (by rw [r2.len.stores]; exact hs), hr2, ha, fun H5 tp5 ra5 => hq _ (tp4.trans tp5) (by rw [hact]; exact ra5)⟩
  | commit =>
    dsimp only [Sm.word] at ea
    rw [hex (by decide +kernel)] at hq
    walk_at "rd"
    refine ⟨p, s0, Fr, sy, D, R, xv, rfl, RA, hs, lim, fun H1 tp1 ra1 => ?_⟩
    obtain ⟨ow2, A2, pv2, cv2, r2⟩ := id ra1
    have k1 := r2.eself
    walk_at "rd"
    exact ⟨p, s0, a, Fr, sy, D, _, xv, _, r0, rfl, ra1, lim.commit hcb (by rw [r.len.trans]; exact hs), commit_rests.trans hr0, ha, fun H5 tp5 ra5 => hq _ (tp1.trans tp5) ra5⟩
  | rollback =>
    dsimp only [Sm.word] at ea
    rw [hex (by decide +kernel)] at hq
    have hix := at_refs (f := A1.tri) hs
    have e2 := r.elo
    have e3 := r.etr
    have e4 := r.etri hs
    have htot := lim.tot
    have hg := lsum_get R.trans s0
    walk_at "rd"
    refine w_extend e2 e4 (small_big (by simp only [List.length_map]; unfold Rs.tot at htot; omega)) ?_
    have r1 := r.lose (zs := R.trans.getD s0 [])
    have tp0 := tp_put (o' := .lst (R.lost.map V.int ++ (R.trans.getD s0 []).map V.int)) (Tp.refl H) e2 (fun _ z => nomatch z)
    generalize upd H A1.lo (.lst (R.lost.map V.int ++ (R.trans.getD s0 []).map V.int)) = H1 at *
    have f1 := r1.eself
    have f3 := r1.etr
    walk_at "rd"
    rename_i p2 H2 hn2 hs2 hp2 he2
    refine w_setL (hs2 _ _ f3) (ix_refs hs) ?_
    have ra1 := r1.ntri (zs := []) hs hn2 hs2 hp2
    have tp1 := tp_put (o' := .lst ((refs D.n A1.tri).set s0 (.ref p2))) (tp0.trans hs2.tp') (hs2 _ _ f3) (fun _ z => nomatch z)
    generalize upd H2 A1.tr (.lst ((refs D.n A1.tri).set s0 (.ref p2))) = H3 at *
    obtain ⟨ow2, A2, pv2, cv2, r2⟩ := id ra1
    have k1 := r2.eself
    walk_at "rd"
    exact ⟨p, s0, a, Fr, sy, D, _, xv, _, r0, rfl, ra1, lim.rollback (by rw [r.len.trans]; exact hs), hr0, ha, fun H5 tp5 ra5 => hq _ (tp1.trans tp5) ra5⟩
  | drop =>
    dsimp only [Sm.word] at ea
    rw [hex (by decide +kernel)] at hq
    have hix := at_refs (f := A1.sti) hs
    have e2 := r.elo
    have e3 := r.est
    have e4 := r.esti hs
    have htot := lim.tot
    have hg := lsum_get R.stores s0
    walk_at "rd"
    refine w_extend e2 e4 (small_big (by simp only [List.length_map]; unfold Rs.tot at htot; omega)) ?_
    have r1 := r.lose (zs := R.stores.getD s0 [])
    have tp0 := tp_put (o' := .lst (R.lost.map V.int ++ (R.stores.getD s0 []).map V.int)) (Tp.refl H) e2 (fun _ z => nomatch z)
    generalize upd H A1.lo (.lst (R.lost.map V.int ++ (R.stores.getD s0 []).map V.int)) = H1 at *
    have f1 := r1.eself
    have f3 := r1.est
    walk_at "rd"
    rename_i p2 H2 hn2 hs2 hp2 he2
    refine w_setL (hs2 _ _ f3) (ix_refs hs) ?_
    have ra1 := r1.nsti (zs := []) hs hn2 hs2 hp2
    have tp1 := tp_put (o' := .lst ((refs D.n A1.sti).set s0 (.ref p2))) (tp0.trans hs2.tp') (hs2 _ _ f3) (fun _ z => nomatch z)
    generalize upd H2 A1.st (.lst ((refs D.n A1.sti).set s0 (.ref p2))) = H3 at *
    obtain ⟨ow2, A2, pv2, cv2, r2⟩ := id ra1
    have k1 := r2.eself
    walk_at "rd"
    exact ⟨p, s0, a, Fr, sy, D, _, xv, _, r0, rfl, ra1, lim.dropS (by rw [r.len.stores]; exact hs), hr0, ha, fun H5 tp5 ra5 => hq _ (tp1.trans tp5) ra5⟩
  | lock nm =>
    have ea2 := dv.lock
    rw [hex (by dsimp only [Sm.word]; decide +kernel)] at hq
    walk_at "rd"
    refine ⟨p, s0, nm, _, Fr, sy, D, R, xv, rfl, RA, hs, hll, fun H1 tp1 ra1 => ?_⟩
    obtain ⟨ow2, A2, pv2, cv2, r2⟩ := id ra1
    have k1 := r2.eself
    walk_at "rd"
    exact ⟨p, s0, a, Fr, sy, D, _, xv, _, r0, rfl, ra1, ⟨lim.h0, lim.h1, lim.h2, lim.tot, lim.cm⟩, hr0, ha, fun H5 tp5 ra5 => hq _ (tp1.trans tp5) ra5⟩
  | unlock nm =>
    have ea2 := dv.unlock
    rw [hex (by dsimp only [Sm.word]; decide +kernel)] at hq
    walk_at "rd"
    refine ⟨p, s0, nm, _, Fr, sy, D, R, xv, rfl, RA, hs, hll, fun H1 tp1 ra1 => ?_⟩
    obtain ⟨ow2, A2, pv2, cv2, r2⟩ := id ra1
    have k1 := r2.eself
    walk_at "rd"
    exact ⟨p, s0, a, Fr, sy, D, _, xv, _, r0, rfl, ra1, ⟨lim.h0, lim.h1, lim.h2, lim.tot, lim.cm⟩, hr0, ha, fun H5 tp5 ra5 => hq _ (tp1.trans tp5) ra5⟩
  | choose y nn =>
    dsimp only [Sm.word] at ea
    rw [hex (by dsimp only [Sm.word]; decide +kernel)] at hq
    walk_at "rd"
    exact ⟨p, s0, a, Fr, sy, D, R, xv, _, r0, rfl, RA, lim, hr0, ha, fun H5 tp5 ra5 => hq _ tp5 ra5⟩
theorem spr_same (R : Rs) : R.spr.rests = R.rests ∧ R.spr.locks = R.locks ∧ R.spr.trans = R.trans ∧ R.spr.stores = R.stores ∧ R.spr.commits = R.commits ∧ R.spr.lost = R.lost := by
  unfold Rs.spr
  split
  · exact ⟨rfl, rfl, rfl, rfl, rfl, rfl⟩
  · split <;> exact ⟨rfl, rfl, rfl, rfl, rfl, rfl⟩
theorem spr_some {R : Rs} {l : Int} (h : R.low = some l) (c : R.spread = none ∨ (∃ p, R.spread = some p ∧ p < R.height - l)) : R.spr = { R with spread := some (R.height - l) } := by
  unfold Rs.spr
  rw [h]
  exact if_pos c
theorem spr_not {R : Rs} {l : Int} (h : R.low = some l) (c : ¬ (R.spread = none ∨ (∃ p, R.spread = some p ∧ p < R.height - l))) : R.spr = R := by
  unfold Rs.spr
  rw [h]
  exact if_neg c
/-- one step -/
def Rs.step (D : SysD) (m : Mv) (R : Rs) : Rs := (match m with
  | .crash => R.crash D.B D.ahead D.n
  | .go s a => match R.rests[s]? with
    | some (st :: _) => R.exec D.B (D.blk s) D.ahead s st a
    | _ => R).spr
structure Lim9 (R : Rs) : Prop where
  lim : Lim R
  h : R.height ≤ 900000
  n : R.noted ≤ 900000
  t : R.tot ≤ 900000
  c : R.commits.length ≤ 900000
  l : ∀ s, (R.locks.getD s []).length ≤ 1000
def sp_Running_perform (K : PySem.W.Frag) : Sp := fun vs H Q E => ∃ p t Fr sy D R xv m, vs = [.ref p, .ref t] ∧ RunAt K Fr H sy D R xv p ∧ H t = some (.tup (Mv.vs m)) ∧ m.Fits D R ∧ Lim9 R ∧ xv.length ≤ 900000 ∧ (∀ H', Tp H H' → RunAt K Fr H' sy D (R.step D m) (xv ++ [.ref t]) p → Q .non H')
theorem len_Running_perform (K : PySem.W.Frag) : ∀ (vs : List V) (H : Hp) (Q : VK) (E : XK), sp_Running_perform K vs H Q E → vs.length = 2 := by
  rintro vs H Q E ⟨_, _, _, _, _, _, _, _, rfl, _⟩
  rfl
theorem ok_Running_perform (T : Txt K mg) : CallF P w K mg base 8 (He.ma K (He.ga K "Running") "perform") ["self", "step"] (sp_Running_perform K) := by
  obtain ⟨fd, F⟩ := T.d_Running_perform
  obtain ⟨fd_Running_lowest, G_Running_lowest, b_Running_lowest, k_Running_lowest⟩ := ok_Running_lowest (P := P) (w := w) (base := base) T
  obtain ⟨fd_Running_crash, G_Running_crash, b_Running_crash, k_Running_crash⟩ := ok_Running_crash (P := P) (w := w) (base := base) T
  obtain ⟨fd_Running_execute, G_Running_execute, b_Running_execute, k_Running_execute⟩ := ok_Running_execute (P := P) (w := w) (base := base) T
  refine ⟨fd, F.ok csRunning_perform (len_Running_perform K) (fun cdv A outer s H vs Q E hr hsp => ?_), F.bindsN (fun _ _ _ _ _ _ us hl => match us, hl with | [_, _], _ => rfl), F.kp⟩
  have hu := hu_of hr
  have hu65 : (A.deeper (envOfC "Running.perform" (defScope sRunning_perform) s.heap.objs.size (He.ma K (He.ga K "Running") "perform") cdv)).units + 65 < cLine := by have := hr.un; omega
  have hu0 := hr.units0
  refine ⟨_, PSs.nox (pss_cons (ps_expr (pe_bm PySem.F.plainAttrs_list PySem.F.slot_list_append PySem.F.type_list_append mt_append (pe_fld (pv 0) rfl) (pa_cons (pv 1) pa_nil)))
      (pss_cons (ps_if (pt_cmpR op_eq (pe_callB call_lenN (by rfl) T.f_len (by decide +kernel) (pa_cons (pv 1) pa_nil)) pe_int (nomark _)) (pss_one (ps_expr (pe_meth0 (pv 0) T.c_Running T.m_Running_crash G_Running_crash (hr.mono (by decide)) b_Running_crash .nil pass0))) (pss_one (ps_expr (pe_meth (pv 0) T.c_Running T.m_Running_execute G_Running_execute (hr.mono (by decide)) b_Running_execute .nil pass0 (pa_cons (pe_ix ix_tup (pv 1) pe_int (fun _ _ => rfl)) (pa_cons (pe_ix ix_tup (pv 1) pe_int (fun _ _ => rfl)) pa_nil))))))
      (pss_cons (ps_set (i := 2) csRunning_perform.nd rfl (Or.inl rfl) (pe_meth0 (pv 0) T.c_Running T.m_Running_lowest G_Running_lowest (hr.mono (by decide)) b_Running_lowest .nil pass0))
      (pss_one (ps_if (PW.pt (pw_and (pt_cmpR op_notN1 (pv 2) pe_non (nomark _)) (pw_and1 (PW.pt (pw_or (pt_cmpR op_isN1 (pe_fld (pv 0) rfl) pe_non (nomark _)) (pw_or1 (pt_cmpR op_gt (pe_op op_sub (pe_fld (pv 0) rfl) (pv 2)) (pe_fld (pv 0) rfl) (nomark _)))))))) (pss_one (ps_fld (pv 0) (pe_op op_sub (pe_fld (pv 0) rfl) (pv 2)) rfl)) pss_nil))))), ?_⟩
  obtain ⟨p, t, Fr, sy, D, R, xv, m, rfl, RA, et, hf, L9, hxl, hq⟩ := hsp
  obtain ⟨ow, A1, pv, cv, r⟩ := id RA
  have e1 := r.eself
  have e2 := r.eex
  walk_at "st"
  walk_at "rd"
  refine w_append e2 (small_lt (by omega)) ?_
  have r1 := r.did (x := .ref t)
  have tp1 := tp_put (o' := .lst (xv ++ [.ref t])) (Tp.refl H) e2 (fun _ z => nomatch z)
  generalize upd H A1.ex (.lst (xv ++ [.ref t])) = H1 at *
  have f1 := r1.eself
  have ra1 : RunAt K Fr H1 sy D R (xv ++ [.ref t]) p := ⟨_, _, _, _, r1⟩
  have et1 := tp1 _ _ et
  cases m with
  | crash =>
    dsimp only [Mv.vs] at et et1
    walk_at "rd"
    refine ⟨p, Fr, sy, D, R, xv ++ [.ref t], rfl, ra1, L9.lim, fun H2 tp2 ra2 => ?_⟩
    have hstep : R.step D .crash = (R.crash D.B D.ahead D.n).spr := rfl
    rw [hstep] at hq
    generalize R.crash D.B D.ahead D.n = R2 at *
    obtain ⟨ow2, A2, pv2, cv2, r2⟩ := id ra2
    have g1 := r2.eself
    walk_at "rd"
    refine ⟨p, Fr, sy, D, R2, xv ++ [.ref t], rfl, ra2, fun H3 hs3 => ?_⟩
    have tp3 := (tp1.trans tp2).trans hs3.tp'
    have r3 := r2.grow hs3
    have k1 := r3.eself
    cases hlow : R2.low with
    | none =>
      dsimp only [oV]
      walk_at "rd"
      refine hq _ tp3 ?_
      rw [show R2.spr = R2 by unfold Rs.spr; rw [hlow]]
      exact ⟨_, _, _, _, r3⟩
    | some l =>
      dsimp only [oV]
      walk_at "rd"
      cases hsp : R2.spread with
      | none =>
        rw [hsp] at k1
        dsimp only [oV] at k1 ⊢
        walk_at "rd"
        refine hq _ (tp_put tp3 k1 (fun _ z => nomatch z)) ⟨_, _, _, _, r3.fld (R' := R2.spr) ?_ (spr_same R2).1 (spr_same R2).2.1 (spr_same R2).2.2.1 (spr_same R2).2.2.2.1 (spr_same R2).2.2.2.2.1 (spr_same R2).2.2.2.2.2⟩
        rw [spr_some hlow (.inl hsp)]
        rfl
      | some sp =>
        rw [hsp] at k1
        dsimp only [oV] at k1 ⊢
        walk_at "rd"
        refine w_ite (fun hlt => ?_) (fun hlt => ?_)
        · walk_at "rd"
          refine hq _ (tp_put tp3 k1 (fun _ z => nomatch z)) ⟨_, _, _, _, r3.fld (R' := R2.spr) ?_ (spr_same R2).1 (spr_same R2).2.1 (spr_same R2).2.2.1 (spr_same R2).2.2.2.1 (spr_same R2).2.2.2.2.1 (spr_same R2).2.2.2.2.2⟩
          rw [spr_some hlow (.inr ⟨sp, hsp, hlt⟩)]
          rfl
        · walk_at "rd"
          refine hq _ tp3 ?_
          rw [spr_not hlow (by rintro (h | ⟨p2, h1, h2⟩); · rw [hsp] at h; cases h
                               · rw [hsp] at h1; cases h1; exact hlt h2)]
          exact ⟨_, _, _, _, r3⟩
  | go s0 a =>
    obtain ⟨st, r0, hr0, ha, hw⟩ := hf
    dsimp only [Mv.vs] at et et1
    walk_at "rd"
    refine ⟨p, s0, a, Fr, sy, D, R, xv ++ [.ref t], st, r0, rfl, ra1, L9.lim, L9.h, L9.n, L9.t, L9.c, L9.l s0, hr0, ha, fun H2 tp2 ra2 => ?_⟩
    have hstep : R.step D (.go s0 a) = (R.exec D.B (D.blk s0) D.ahead s0 st a).spr := by
      unfold Rs.step; simp only [hr0]
    rw [hstep] at hq
    generalize R.exec D.B (D.blk s0) D.ahead s0 st a = R2 at *
    obtain ⟨ow2, A2, pv2, cv2, r2⟩ := id ra2
    have g1 := r2.eself
    walk_at "rd"
    refine ⟨p, Fr, sy, D, R2, xv ++ [.ref t], rfl, ra2, fun H3 hs3 => ?_⟩
    have tp3 := (tp1.trans tp2).trans hs3.tp'
    have r3 := r2.grow hs3
    have k1 := r3.eself
    cases hlow : R2.low with
    | none =>
      dsimp only [oV]
      walk_at "rd"
      refine hq _ tp3 ?_
      rw [show R2.spr = R2 by unfold Rs.spr; rw [hlow]]
      exact ⟨_, _, _, _, r3⟩
    | some l =>
      dsimp only [oV]
      walk_at "rd"
      cases hsp : R2.spread with
      | none =>
        rw [hsp] at k1
        dsimp only [oV] at k1 ⊢
        walk_at "rd"
        refine hq _ (tp_put tp3 k1 (fun _ z => nomatch z)) ⟨_, _, _, _, r3.fld (R' := R2.spr) ?_ (spr_same R2).1 (spr_same R2).2.1 (spr_same R2).2.2.1 (spr_same R2).2.2.2.1 (spr_same R2).2.2.2.2.1 (spr_same R2).2.2.2.2.2⟩
        rw [spr_some hlow (.inl hsp)]
        rfl
      | some sp =>
        rw [hsp] at k1
        dsimp only [oV] at k1 ⊢
        walk_at "rd"
        refine w_ite (fun hlt => ?_) (fun hlt => ?_)
        · walk_at "rd"
          refine hq _ (tp_put tp3 k1 (fun _ z => nomatch z)) ⟨_, _, _, _, r3.fld (R' := R2.spr) ?_ (spr_same R2).1 (spr_same R2).2.1 (spr_same R2).2.2.1 (spr_same R2).2.2.2.1 (spr_same R2).2.2.2.2.1 (spr_same R2).2.2.2.2.2⟩
          rw [spr_some hlow (.inr ⟨sp, hsp, hlt⟩)]
          rfl
        · walk_at "rd"
          refine hq _ tp3 ?_
          rw [spr_not hlow (by rintro (h | ⟨p2, h1, h2⟩); · rw [hsp] at h; cases h
                               · rw [hsp] at h1; cases h1; exact hlt h2)]
          exact ⟨_, _, _, _, r3⟩
end
def fsRec (c l o h n cr sp : V) : List (Str × V) := [("commits", c), ("lost", l), ("out", o), ("height", h), ("noted", n), ("crashes", cr), ("spread", sp)]
def outRow (s : Nat) (ns : List Int) (k : List (Key × V)) : List (Key × V) := ns.foldl (fun k n => putK k (.inl n) (.int (s : Nat))) k
def outRows (rows : List (List Int)) (k : List (Key × V)) : List (Key × V) := rows.zipIdx.foldl (fun k y => outRow y.2 y.1 k) k
def outK (R : Rs) : List (Key × V) := outRows R.stores (outRows R.trans [])
structure RecIn (H : Hp) (K : PySem.W.Frag) (R : Rs) (a dx cl ll ol : Addr) (cv : List V) (ls : List Int) : Prop where
  ins : H a = some (.ins (He.ga K "Record") dx (fsRec (.ref cl) (.ref ll) (.ref ol) (.int R.height) (.int R.noted) (.int R.crashes) (oV R.spread)))
  ecl : H cl = some (.lst cv)
  ell : H ll = some (.lst (ls.map V.int))
  eol : H ol = some (.dK (outK R))
  cm : CmOk H R.commits cv
  perm : ls.Perm R.lost
  srt : ls.Pairwise (· ≤ ·)
def RecAt (K : PySem.W.Frag) (H : Hp) (R : Rs) (a : Addr) : Prop := ∃ dx cl ll ol cv ls, RecIn H K R a dx cl ll ol cv ls
theorem RecAt.mono {K : PySem.W.Frag} {H H' : Hp} {R : Rs} {a : Addr} (e : Same H H') : RecAt K H R a → RecAt K H' R a := fun ⟨a1, a2, a3, a4, a5, a6, r⟩ =>
  ⟨a1, a2, a3, a4, a5, a6, e _ _ r.ins, e _ _ r.ecl, e _ _ r.ell, e _ _ r.eol, r.cm.mono e.tp', r.perm, r.srt⟩
theorem outRow_len (s : Nat) : ∀ (ns : List Int) (k : List (Key × V)), (outRow s ns k).length ≤ k.length + ns.length
  | [], k => Nat.le_refl _
  | n :: ns, k => by
    have h1 := outRow_len s ns (putK k (.inl n) (.int (s : Nat)))
    have h2 := length_putK k (.inl n) (V.int (s : Nat))
    show (outRow s ns (putK k (.inl n) (.int (s : Nat)))).length ≤ _
    rw [List.length_cons]; omega
theorem outRow_snoc (s : Nat) (ns : List Int) (n : Int) (k : List (Key × V)) : outRow s (ns ++ [n]) k = putK (outRow s ns k) (.inl n) (.int (s : Nat)) := by unfold outRow; rw [List.foldl_append]; rfl
theorem outRows_snoc (rows : List (List Int)) (ns : List Int) (k : List (Key × V)) : outRows (rows ++ [ns]) k = outRow rows.length ns (outRows rows k) := by
  unfold outRows
  rw [List.zipIdx_append, List.foldl_append]
  simp
theorem lsum_append (a b : List (List Int)) : lsum (a ++ b) = lsum a + lsum b := by simp [lsum]
theorem outRows_len (rows : List (List Int)) (k : List (Key × V)) : (outRows rows k).length ≤ k.length + lsum rows := by
  have : ∀ (n : Nat) (rows : List (List Int)), rows.length = n → (outRows rows k).length ≤ k.length + lsum rows := by
    intro n
    induction n with
    | zero => intro rows h; rw [List.length_eq_zero_iff.mp h]; exact Nat.le_refl _
    | succ n ih =>
      intro rows h
      have hne : rows ≠ [] := by rintro rfl; cases h
      rw [← List.dropLast_concat_getLast hne, outRows_snoc, lsum_append]
      have h1 := ih rows.dropLast (by simp [h])
      have h2 := outRow_len rows.dropLast.length (rows.getLast hne) (outRows rows.dropLast k)
      simp only [lsum, List.map_cons, List.map_nil, List.sum_cons, List.sum_nil] at *
      omega
  exact this _ rows rfl
section
variable {P : Program} {w : World} {K : PySem.W.Frag} {mg : Str → Option Value} {base : Heap}
def sp_Running___call__ (K : PySem.W.Frag) : Sp := sp_Running_perform K
theorem len_Running___call__ (K : PySem.W.Frag) : ∀ (vs : List V) (H : Hp) (Q : VK) (E : XK), sp_Running___call__ K vs H Q E → vs.length = 2 := by
  rintro vs H Q E ⟨_, _, _, _, _, _, _, _, rfl, _⟩
  rfl
theorem ok_Running___call__ (T : Txt K mg) : CallF P w K mg base 9 (He.ma K (He.ga K "Running") "__call__") ["self", "step"] (sp_Running___call__ K) := by
  obtain ⟨fd, F⟩ := T.d_Running___call__
  obtain ⟨fd_Running_perform, G_Running_perform, b_Running_perform, k_Running_perform⟩ := ok_Running_perform (P := P) (w := w) (base := base) T
  obtain ⟨fd_Running_fits, G_Running_fits, b_Running_fits, k_Running_fits⟩ := ok_Running_fits (P := P) (w := w) (base := base) T
  refine ⟨fd, F.ok csRunning___call__ (len_Running___call__ K) (fun cdv A outer s H vs Q E hr hsp => ?_), F.bindsN (fun _ _ _ _ _ _ us hl => match us, hl with | [_, _], _ => rfl), F.kp⟩
  have hu := hu_of hr
  have hu65 : (A.deeper (envOfC "Running.__call__" (defScope sRunning___call__) s.heap.objs.size (He.ma K (He.ga K "Running") "__call__") cdv)).units + 65 < cLine := by have := hr.un; omega
  have hu0 := hr.units0
  refine ⟨_, PSs.nox (pss_cons (ps_if (pt_not (pt_val (pe_meth (pv 0) T.c_Running T.m_Running_fits G_Running_fits (hr.mono (by decide)) b_Running_fits .nil pass0 (pa_cons (pv 1) pa_nil)))) (pss_one ps_never) pss_nil)
      (pss_one (ps_expr (pe_meth (pv 0) T.c_Running T.m_Running_perform G_Running_perform (hr.mono (by decide)) b_Running_perform .nil pass0 (pa_cons (pv 1) pa_nil))))), ?_⟩
  obtain ⟨p, t, Fr, sy, D, R, xv, m, rfl, RA, et, hf, L9, hxl, hq⟩ := hsp
  obtain ⟨ow, A1, pv, cv, r⟩ := id RA
  have e1 := r.eself
  walk_at "st"
  walk_at "rd"
  refine ⟨p, t, Fr, sy, D, R, xv, m, rfl, RA, et, hf, fun H1 hs1 => ?_⟩
  have f1 := hs1 _ _ e1
  walk_at "rd"
  refine ⟨p, t, Fr, sy, D, R, xv, m, rfl, RA.grow hs1, hs1 _ _ et, hf, L9, hxl, fun H2 tp2 ra2 => ?_⟩
  walk_at "rd"
  exact hq _ (hs1.tp'.trans tp2) ra2
def stepAll (D : SysD) (ms : List Mv) (R : Rs) : Rs := ms.foldl (fun R m => R.step D m) R
/-- a schedule that can be executed -/
def RunsOk (D : SysD) (ms : List Mv) (R : Rs) : Prop := ∀ pre m post, ms = pre ++ m :: post → m.Fits D (stepAll D pre R) ∧ Lim9 (stepAll D pre R)
def sp_Running_perform_all (K : PySem.W.Frag) : Sp := fun vs H Q E => ∃ p l Fr sy D R xv ts, vs = [.ref p, .ref l] ∧ RunAt K Fr H sy D R xv p ∧ Fr l = some (.lst (List.map (fun b : Addr × Mv => V.ref b.1) ts)) ∧ (∀ b ∈ ts, H b.1 = some (.tup b.2.vs)) ∧ RunsOk D (ts.map (·.2)) R ∧ xv.length + ts.length ≤ 900000 ∧
  (∀ H' xv', Tp H H' → RunAt K Fr H' sy D (stepAll D (ts.map (·.2)) R) xv' p → Q .non H')
theorem len_Running_perform_all (K : PySem.W.Frag) : ∀ (vs : List V) (H : Hp) (Q : VK) (E : XK), sp_Running_perform_all K vs H Q E → vs.length = 2 := by
  rintro vs H Q E ⟨_, _, _, _, _, _, _, _, rfl, _⟩
  rfl
theorem ok_Running_perform_all (T : Txt K mg) : CallF P w K mg base 9 (He.ma K (He.ga K "Running") "perform_all") ["self", "schedule"] (sp_Running_perform_all K) := by
  obtain ⟨fd, F⟩ := T.d_Running_perform_all
  obtain ⟨fd_Running_perform, G_Running_perform, b_Running_perform, k_Running_perform⟩ := ok_Running_perform (P := P) (w := w) (base := base) T
  obtain ⟨fd_Running_fits, G_Running_fits, b_Running_fits, k_Running_fits⟩ := ok_Running_fits (P := P) (w := w) (base := base) T
  refine ⟨fd, F.ok csRunning_perform_all (len_Running_perform_all K) (fun cdv A outer s H vs Q E hr hsp => ?_), F.bindsN (fun _ _ _ _ _ _ us hl => match us, hl with | [_, _], _ => rfl), F.kp⟩
  have hu := hu_of hr
  have hu65 : (A.deeper (envOfC "Running.perform_all" (defScope sRunning_perform_all) s.heap.objs.size (He.ma K (He.ga K "Running") "perform_all") cdv)).units + 65 < cLine := by have := hr.un; omega
  have hu0 := hr.units0
  refine ⟨_, PSs.nox (pss_one (ps_for PassesOwn.never rfl (pi_enum (by rfl) T.f_enumerate (pa_cons (pv 1) pa_nil)) (pg_tup rfl (pgs_cons (pg_name (i := 2) csRunning_perform_all.nd rfl (Or.inl rfl)) (pgs_cons (pg_name (i := 3) csRunning_perform_all.nd rfl (Or.inl rfl)) pgs_nil))) (pss_cons (ps_if (pt_not (pt_val (pe_meth (pv 0) T.c_Running T.m_Running_fits G_Running_fits (hr.mono (by decide)) b_Running_fits .nil pass0 (pa_cons (pv 3) pa_nil)))) (pss_one ps_never) pss_nil)
      (pss_one (ps_expr (pe_meth (pv 0) T.c_Running T.m_Running_perform G_Running_perform (hr.mono (by decide)) b_Running_perform .nil pass0 (pa_cons (pv 3) pa_nil))))))), ?_⟩
  obtain ⟨p, l, Fr, sy, D, R, xv, ts, rfl, RA, el, ht, hok, hxl, hq⟩ := hsp
  have hfr : ∀ {H' R' xv'}, RunAt K Fr H' sy D R' xv' p → H' l = some (.lst (ts.map fun b => V.ref b.1)) := fun ⟨_, _, _, _, r⟩ => r.lay.fr _ _ el
  have el0 := hfr RA
  walk_at "st"
  walk_at "rd"
  refine w_forEL ?_
  walk_at "rd"
  refine forEL (ys := ts) (val := fun b => .ref b.1) (fun pre σ H' => ∃ xv' o2 o3, Tp H H' ∧ RunAt K Fr H' sy D (stepAll D (pre.map (·.2)) R) xv' p ∧ xv'.length = xv.length + pre.length ∧ σ = [some (.ref p), some (.ref l), o2, o3]) ⟨xv, none, none, Tp.refl H, RA, rfl, rfl⟩ (fun pre σ H' ⟨_, _, _, _, ra, _⟩ => hfr ra) ?_ ?_
  · rintro pre y post σ H1 H2 T0 hy ⟨xv', o2, o3, tp1, ra1, hx1, rfl⟩ hT0 hs2 eT
    have ra2 := ra1.grow hs2
    obtain ⟨ow2, A2, pv2, cv2, r2⟩ := id ra2
    have f1 := r2.eself
    have ey := (tp1.trans hs2.tp') _ _ (ht y (by rw [hy]; simp))
    obtain ⟨hf, h9⟩ := hok (pre.map (·.2)) y.2 (post.map (·.2)) (by rw [hy]; simp)
    have hlen : pre.length + 1 ≤ ts.length := by rw [hy]; simp
    walk_at "rd"
    refine ⟨p, y.1, Fr, sy, D, _, xv', y.2, rfl, ra2, ey, hf, fun H3 hs3 => ?_⟩
    have f3 := hs3 _ _ f1
    walk_at "rd"
    refine ⟨p, y.1, Fr, sy, D, _, xv', y.2, rfl, ra2.grow hs3, hs3 _ _ ey, hf, h9, by omega, fun H4 tp4 ra4 => ?_⟩
    refine ⟨xv' ++ [.ref y.1], _, _, ((tp1.trans hs2.tp').trans hs3.tp').trans tp4, ?_, ?_, rfl⟩
    · rw [List.map_append]
      unfold stepAll at ra4 ⊢
      rw [List.foldl_append]
      exact ra4
    · simp only [List.length_append, List.length_cons, List.length_nil]; omega
  · rintro σ H1 ⟨xv', o2, o3, tp1, ra1, hx1, rfl⟩
    walk_at "rd"
    exact hq _ _ tp1 ra1
def sp_Record___init__ (K : PySem.W.Frag) : Sp := fun vs H Q E => ∃ x dx c l o h n cr sp, vs = [.ref x, c, l, o, h, n, cr, sp] ∧ H x = some (.ins (He.ga K "Record") dx []) ∧ (∀ H', SameBut x H H' → H' x = some (.ins (He.ga K "Record") dx (fsRec c l o h n cr sp)) → Q .non H')
theorem len_Record___init__ (K : PySem.W.Frag) : ∀ (vs : List V) (H : Hp) (Q : VK) (E : XK), sp_Record___init__ K vs H Q E → vs.length = 8 := by
  rintro vs H Q E ⟨_, _, _, _, _, _, _, _, _, rfl, _⟩
  rfl
theorem ok_Record___init__ (T : Txt K mg) : CallF P w K mg base 1 (He.ma K (He.ga K "Record") "__init__") ["self", "commits", "lost", "out", "height", "noted", "crashes", "spread"] (sp_Record___init__ K) := by
  obtain ⟨fd, F⟩ := T.d_Record___init__
  refine ⟨fd, F.ok csRecord___init__ (len_Record___init__ K) (fun cdv A outer s H vs Q E hr hsp => ?_), F.bindsN (fun _ _ _ _ _ _ us hl => match us, hl with | [_, _, _, _, _, _, _, _], _ => rfl), F.kp⟩
  have hu := hu_of hr
  have hu65 : (A.deeper (envOfC "Record.__init__" (defScope sRecord___init__) s.heap.objs.size (He.ma K (He.ga K "Record") "__init__") cdv)).units + 65 < cLine := by have := hr.un; omega
  have hu0 := hr.units0
  refine ⟨_, PSs.nox (pss_cons (ps_fld (pv 0) (pv 1) rfl)
      (pss_cons (ps_fld (pv 0) (pv 2) rfl)
      (pss_cons (ps_fld (pv 0) (pv 3) rfl)
      (pss_cons (ps_fld (pv 0) (pv 4) rfl)
      (pss_cons (ps_fld (pv 0) (pv 5) rfl)
      (pss_cons (ps_fld (pv 0) (pv 6) rfl)
      (pss_one (ps_fld (pv 0) (pv 7) rfl)))))))), ?_⟩
  obtain ⟨x, dx, c, l, o, h, n, cr, sp, rfl, ex, hq⟩ := hsp
  walk_at "st"
  walk_at "rd"
  simp only [upd_upd]
  exact hq _ (SameBut.refl x H).put upd_same
theorem okr_Running___call__ (T : Txt K mg) : FnR P w K mg base CX0 9 (He.ma K (He.ga K "Running") "__call__") (sp_Running___call__ K) := by
  obtain ⟨fd, G, b, _⟩ := ok_Running___call__ (P := P) (w := w) (base := base) T
  refine (G.raw b .nil).imp fun vs H Q E h => ?_
  show sp_Running___call__ K (vs ++ []) H Q E
  rw [List.append_nil]; exact h
def sp_Running_record (K : PySem.W.Frag) : Sp := fun vs H Q E => ∃ p Fr sy D R xv, vs = [.ref p] ∧ RunAt K Fr H sy D R xv p ∧ Lim R ∧ (∀ H' a, Same H H' → RecAt K H' R a → Q (.ref a) H')
theorem sameBut_lst {x b : Addr} {H H' : Hp} {xs : List V} {kvs : List (Key × V)} (s : SameBut x H H') (hx : H x = some (.dK kvs)) (h : H b = some (.lst xs)) : H' b = some (.lst xs) := s _ _ (ne_of h hx (fun z => nomatch z)) h
theorem len_Running_record (K : PySem.W.Frag) : ∀ (vs : List V) (H : Hp) (Q : VK) (E : XK), sp_Running_record K vs H Q E → vs.length = 1 := by
  rintro vs H Q E ⟨_, _, _, _, _, _, rfl, _⟩
  rfl
theorem ok_Running_record (T : Txt K mg) : CallF P w K mg base 3 (He.ma K (He.ga K "Running") "record") ["self"] (sp_Running_record K) := by
  obtain ⟨fd, F⟩ := T.d_Running_record
  obtain ⟨fd_Record___init__, G_Record___init__, b_Record___init__, k_Record___init__⟩ := ok_Record___init__ (P := P) (w := w) (base := base) T
  refine ⟨fd, F.ok csRunning_record (len_Running_record K) (fun cdv A outer s H vs Q E hr hsp => ?_), F.bindsN (fun _ _ _ _ _ _ us hl => match us, hl with | [_], _ => rfl), F.kp⟩
  have hu := hu_of hr
  have hu65 : (A.deeper (envOfC "Running.record" (defScope sRunning_record) s.heap.objs.size (He.ma K (He.ga K "Running") "record") cdv)).units + 65 < cLine := by have := hr.un; omega
  have hu0 := hr.units0
  refine ⟨_, PSs.nox (pss_cons (ps_set (i := 1) csRunning_record.nd rfl (Or.inl rfl) pe_dnewK)
      (pss_cons (ps_for PassesOwn.never rfl (pi_tup (pe_tup (pa_cons (pe_fld (pv 0) rfl) (pa_cons (pe_fld (pv 0) rfl) pa_nil)))) (pg_name (i := 2) csRunning_record.nd rfl (Or.inl rfl)) (pss_one (ps_for PassesOwn.never rfl (pi_enum (by rfl) T.f_enumerate (pa_cons (pv 2) pa_nil)) (pg_tup rfl (pgs_cons (pg_name (i := 3) csRunning_record.nd rfl (Or.inl rfl)) (pgs_cons (pg_name (i := 4) csRunning_record.nd rfl (Or.inl rfl)) pgs_nil))) (pss_one (ps_for PassesOwn.never rfl (pi_list (pv 4)) (pg_name (i := 5) csRunning_record.nd rfl (Or.inl rfl)) (pss_one (ps_dput hu (pv 1) (pv 5) (pv 3) rfl)))))))
      (pss_cons (ps_set (i := 6) csRunning_record.nd rfl (Or.inl rfl) (pe_callB cr_sortedI (by rfl) T.f_sorted (by decide +kernel) (pa_cons (pe_fld (pv 0) rfl) pa_nil)))
      (pss_one (ps_ret (pe_make T.k_Record G_Record___init__ (hr.mono (by decide)) (by rfl) T.g_Record b_Record___init__ .nil pass0 (pa_cons (pe_callTy call_lstN (by rfl) T.f_list (by decide +kernel) (pa_cons (pe_fld (pv 0) rfl) pa_nil)) (pa_cons (pv 6) (pa_cons (pv 1) (pa_cons (pe_fld (pv 0) rfl) (pa_cons (pe_fld (pv 0) rfl) (pa_cons (pe_fld (pv 0) rfl) (pa_cons (pe_fld (pv 0) rfl) pa_nil))))))))))))), ?_⟩
  obtain ⟨p, Fr, sy, D, R, xv, rfl, ⟨ow, A1, pv, cv, r⟩, lim, hq⟩ := hsp
  have e1 := r.eself
  have htot := lim.tot
  walk_at "st"
  walk_at "rd"
  rename_i o H1 hn1 hs1 eo he1 t2 H2 hn2 hs2 et2 he2
  have r2 := r.grow (hs1.trans hs2)
  have eo2 := hs2 _ _ eo
  -- the two tables of rows
  let ys : List (Addr × (Nat → Addr) × List (List Int)) := [(A1.tr, A1.tri, R.trans), (A1.st, A1.sti, R.stores)]
  have hrow : ∀ y ∈ ys, H2 y.1 = some (.lst (refs D.n y.2.1)) ∧ y.2.2.length = D.n ∧ lsum y.2.2 ≤ 1000000 ∧ ∀ i, i < D.n → H2 (y.2.1 i) = some (.lst ((y.2.2.getD i []).map V.int)) := by
    intro y hy
    rcases List.mem_cons.mp hy with rfl | hy
    · exact ⟨r2.etr, r2.len.trans, by unfold Rs.tot at htot; show lsum R.trans ≤ _; omega, fun i hi => r2.etri hi⟩
    · cases List.mem_singleton.mp hy
      exact ⟨r2.est, r2.len.stores, by unfold Rs.tot at htot; show lsum R.stores ≤ _; omega, fun i hi => r2.esti hi⟩
  have hne_p : p ≠ o := ne_of r2.eself eo2 (fun z => nomatch z)
  refine forT (ys := ys) (val := fun y => .ref y.1) (fun pre σ H' => ∃ kvs o3 o4 o5 o6, SameBut o H2 H' ∧ H' o = some (.dK kvs) ∧ kvs = pre.foldl (fun k y => outRows y.2.2 k) [] ∧ kvs.length ≤ 1000000 * pre.length ∧ σ = [some (.ref p), some (.ref o), o3, o4, o5, o6, none])
    ⟨[], none, none, none, none, SameBut.refl o H2, eo2, rfl, by simp, rfl⟩ (fun pre σ H' ⟨_, _, _, _, _, sb, _⟩ => sb _ _ (ne_of et2 eo2 (fun z => nomatch z)) et2) ?_ ?_
  · rintro pre y post σ H3 hy ⟨kvs, o3, o4, o5, o6, sb3, eo3, hkv, hkl, rfl⟩
    obtain ⟨hy1, hy2, hy3, hy4⟩ := hrow y (by rw [hy]; simp)
    have hpre : pre.length + 1 ≤ 2 := by have := congrArg List.length hy; simp [ys] at this; omega
    have ey3 := sameBut_lst sb3 eo2 hy1
    walk_at "rd"
    refine w_forEL ?_
    walk_at "rd"
    refine forEL (ys := rowsA D.n y.2.1 y.2.2) (val := fun z => .ref z.1) (fun pre2 σ H' => ∃ kvs2 o4 o5 o6, SameBut o H2 H' ∧ H' o = some (.dK kvs2) ∧ kvs2 = outRows (pre2.map (·.2)) kvs ∧ σ = [some (.ref p), some (.ref o), some (.ref y.1), o4, o5, o6, none])
      ⟨kvs, o4, o5, o6, sb3, eo3, by simp [outRows], rfl⟩ (fun pre2 σ H' ⟨_, _, _, _, sb, _⟩ => by rw [rowsA_refs]; exact sameBut_lst sb eo2 hy1) ?_ ?_
    · rintro pre2 z post2 σ H4 H5 T0 hz ⟨kvs2, o4, o5, o6, sb4, eo4, hkv2, rfl⟩ hT0 hs5 eT
      have hzm : z ∈ rowsA D.n y.2.1 y.2.2 := by rw [hz]; simp
      obtain ⟨i, hi, hzi⟩ := List.mem_map.mp hzm
      have hi := List.mem_range.mp hi
      have e4 : H2 z.1 = some (.lst (z.2.map V.int)) := by rw [← hzi]; exact hy4 i hi
      have hrl : lsum (pre2.map (·.2)) + z.2.length ≤ 1000000 := by
        have h1 := congrArg (List.map (·.2)) hz
        rw [rowsA_rows hy2, List.map_append, List.map_cons] at h1
        rw [h1, lsum_append] at hy3
        simp only [lsum, List.map_cons, List.sum_cons] at hy3 ⊢
        omega
      have hk2 := outRows_len (pre2.map (·.2)) kvs
      rw [← hkv2] at hk2
      have sb5 : SameBut o H2 H5 := sb4.trans (SameBut.of hs5)
      have ez := sameBut_lst sb5 eo2 e4
      have eo5 := hs5 _ _ eo4
      walk_at "rd"
      refine forL (ys := z.2) (val := V.int) (fun pre3 σ H' => ∃ kvs3 o6, SameBut o H2 H' ∧ H' o = some (.dK kvs3) ∧ kvs3 = outRow pre2.length pre3 kvs2 ∧ σ = [some (.ref p), some (.ref o), some (.ref y.1), some (.int (pre2.length : Nat)), some (.ref z.1), o6, none])
        ⟨kvs2, o6, sb5, eo5, rfl, rfl⟩ (fun pre3 σ H' ⟨_, _, sb, _⟩ => sameBut_lst sb eo2 e4) ?_ ?_
      · rintro pre3 x post3 σ H6 hx ⟨kvs3, o6, sb6, eo6, hkv3, rfl⟩
        have hk3 := outRow_len pre2.length pre3 kvs2
        rw [← hkv3] at hk3
        have hpl3 : pre3.length ≤ z.2.length := by rw [hx]; simp
        walk_at "rd"
        refine w_pDPi eo6 (small_lt (by omega)) ?_
        exact ⟨_, _, sb6.put, upd_same, by rw [outRow_snoc, hkv3], rfl⟩
      · rintro σ H6 ⟨kvs3, o6, sb6, eo6, hkv3, rfl⟩
        refine ⟨kvs3, _, _, o6, sb6, eo6, ?_, rfl⟩
        rw [List.map_append, List.map_cons, List.map_nil, outRows_snoc, List.length_map, ← hkv2]
        exact hkv3
    · rintro σ H4 ⟨kvs2, o4, o5, o6, sb4, eo4, hkv2, rfl⟩
      rw [rowsA_rows hy2] at hkv2
      exact ⟨kvs2, _, o4, o5, o6, sb4, eo4, by rw [List.foldl_append, ← hkv]; exact hkv2, by
        have := outRows_len y.2.2 kvs
        rw [← hkv2] at this
        rw [List.length_append, List.length_cons, List.length_nil]; omega, rfl⟩
  · rintro σ H3 ⟨kvs, o3, o4, o5, o6, sb3, eo3, hkv, hkl, rfl⟩
    have f1 := sb3 _ _ hne_p r2.eself
    have f2 := sameBut_lst sb3 eo2 r2.elo
    have f3 := sameBut_lst sb3 eo2 r2.ecm
    have hlen : cv.length ≤ 2000000 := by have := r.cm.length; have := lim.cm; omega
    walk_at "rd"
    refine ⟨A1.lo, R.lost, rfl, sqL f2, fun ls ll hperm hsrt hnl => ?_⟩
    have hs4 := same_new (H := H3) (o := .lst (ls.map V.int)) hnl
    have ell : upd H3 ll (.lst (ls.map V.int)) ll = some _ := upd_same
    generalize upd H3 ll (.lst (ls.map V.int)) = H4 at *
    walk_at "rd"
    rename_i cl H5 hn5 hs5 ecl he5
    have sb5 : SameBut o H2 H5 := sb3.trans (SameBut.of (hs4.trans hs5))
    have hs15 : Same H H5 := SameBut.new hs1 ((SameBut.of hs2).trans sb5) hn1
    refine w_gMake fun x dx H6 hn6 hs6 ex _ => ?_
    refine ⟨x, dx, _, _, _, _, _, _, _, rfl, ex, fun H7 sb7 ex7 => ⟨rfl, ?_⟩⟩
    have hs57 : Same H5 H7 := SameBut.new hs6 sb7 hn6
    refine hq _ _ (hs15.trans hs57) ⟨dx, cl, ll, o, cv, ls, ex7, hs57 _ _ ecl, (hs5.trans hs57) _ _ ell, ?_, r.cm.mono ((hs15.trans hs57).tp'), hperm, hsrt⟩
    have eo5 := (hs4.trans (hs5.trans hs57)) _ _ eo3
    rw [eo5, hkv]
    rfl
end
section
variable {K : PySem.W.Frag} {H : Hp} {a : Addr} {β : Type} {ys : List β} {val : β → V} {g : TG} {tt : TT} {te : TE} {vs : List Nat} {σ : L2.St} {Q : VK}
/-- a comprehension each of whose turns lays a new object -/
theorem lcTN (o : HO) (e : H a = some (.tup (ys.map val))) (sz : ys.length < sizeLine)
    (hs : ∀ y, y ∈ ys → ∀ H1, Same H H1 → ∀ NT : VK, (∀ q H2, H1 q = none → Same H1 H2 → H2 q = some o → NT (.ref q) H2) → g (val y) (wipe σ vs) H1 fun σ2 H2 => wipe σ2 vs = wipe σ vs ∧ tt σ2 H2 fun b H3 => b = true ∧ te σ2 H3 NT)
    (mt : ∀ σ H (R R' : Bool → Hp → Prop), (∀ b H, R b H → R' b H) → tt σ H R → tt σ H R') (mg : ∀ v σ H (R R' : L2.St → Hp → Prop), (∀ σ H, R σ H → R' σ H) → g v σ H R → g v σ H R')
    (hd : ∀ (D : Addr) (as : List Addr) (H1 : Hp), Same H H1 → H D = none → H1 D = some (.lst (as.map V.ref)) → as.length = ys.length → as.Nodup → D ∉ as → (∀ q ∈ as, H q = none ∧ H1 q = some o) → Q (.ref D) H1) : gLcT K g tt te vs σ (.ref a) H Q := by
  refine lcT e (fun D pre acc H1 => ∃ as : List Addr, acc = as.map V.ref ∧ as.length = pre.length ∧ as.Nodup ∧ D ∉ as ∧ (∀ q ∈ as, H q = none ∧ H1 q = some o) ∧ Same H H1 ∧ H1 D = some (.lst acc) ∧ H D = none)
    (fun D hD => ⟨[], rfl, rfl, List.nodup_nil, by simp, by simp, same_new hD, upd_same, hD⟩) (fun D pre acc H1 ⟨_, _, _, _, _, _, s, _⟩ => s _ _ e) (fun D pre y post acc H1 hD ey p => ?_) (fun D acc H1 hD ⟨as, h1, h2, h3, h4, h5, h6, h7, h8⟩ => hd D as H1 h6 hD (by rw [h7, h1]) h2 h3 h4 h5)
  obtain ⟨as, rfl, h2, h3, h4, h5, h6, h7, h8⟩ := p
  have hl : (as.map V.ref).length < sizeLine := by
    have : pre.length ≤ ys.length := by rw [ey]; simp
    rw [List.length_map]; omega
  refine mg _ _ _ _ _ (fun σ2 H2 q => ⟨q.1, mt _ _ _ _ (fun b H3 q => ?_) q.2⟩) (hs y (by rw [ey]; simp) H1 h6 (fun y' H4 => ∃ acc', H4 D = some (.lst acc') ∧ acc'.length < sizeLine ∧ ∃ acc2 : List V, ∃ as : List Addr, acc2 = as.map V.ref ∧ as.length = (pre ++ [y]).length ∧ as.Nodup ∧ D ∉ as ∧ (∀ q ∈ as, H q = none ∧ upd H4 D (.lst (acc' ++ [y'])) q = some o) ∧ Same H (upd H4 D (.lst (acc' ++ [y']))) ∧ upd H4 D (.lst (acc' ++ [y'])) D = some (.lst acc2) ∧ H D = none) (fun q H2 hq hs2 ho => ?_))
  · obtain ⟨rfl, q⟩ := q
    exact iteT q
  · have hDq : D ≠ q := fun z => by subst z; rw [h7] at hq; cases hq
    have hqa : q ∉ as := fun hm => by rw [(h5 q hm).2] at hq; cases hq
    have hHq : H q = none := h6.free hq
    refine ⟨as.map V.ref, hs2 _ _ h7, hl, (as ++ [q]).map V.ref, as ++ [q], rfl, by simp [h2], ?_, ?_, ?_, ?_, by rw [upd_same]; simp, h8⟩
    · rw [List.nodup_append]
      refine ⟨h3, by simp, ?_⟩
      intro b hb c hc
      rw [List.mem_singleton.mp hc]
      rintro rfl; exact hqa hb
    · intro hm
      rcases List.mem_append.mp hm with h | h
      · exact h4 h
      · exact hDq (List.mem_singleton.mp h)
    · intro b hb
      rcases List.mem_append.mp hb with h | h
      · exact ⟨(h5 b h).1, by rw [upd_ne (fun z => h4 (by rw [← z]; exact h))]; exact hs2 _ _ (h5 b h).2⟩
      · rw [List.mem_singleton.mp h]
        exact ⟨hHq, by rw [upd_ne hDq.symm]; exact ho⟩
    · exact same_put (h6.trans hs2) h8
end
theorem lookup_nodup {α β : Type} [DecidableEq α] : ∀ {L : List (α × β)} {a : α} {b : β}, (L.map (·.1)).Nodup → (a, b) ∈ L → L.lookup a = some b
  | [], _, _, _, h => by cases h
  | (x, y) :: L, a, b, nd, h => by
    rw [List.map_cons, List.nodup_cons] at nd
    rcases List.mem_cons.mp h with e | h
    · cases e; simp [List.lookup]
    · have hne : ¬ a = x := fun e => nd.1 (List.mem_map.mpr ⟨(a, b), h, e⟩)
      rw [List.lookup_cons, beq_eq_false_iff_ne.mpr hne]
      exact lookup_nodup nd.2 h
theorem Lay.ofList {A : Ad} {Fr H : Hp} {O : Loc → Option HO} (L : List (Addr × Loc)) (nd : (L.map (·.1)).Nodup) (hO : ∀ l o, O l = some o → (A.at l, l) ∈ L ∧ H (A.at l) = some o) (hfr : Same Fr H) (hL : ∀ q ∈ L, Fr q.1 = none ∧ ∃ o, H q.1 = some o) :
    Lay (fun a => L.lookup a) A Fr H O where
  at_ := fun l o h => (hO l o h).2
  own := fun l o h => lookup_nodup nd (hO l o h).1
  fr := hfr
  sep := fun a h => by
    cases e : L.lookup a with
    | none => exact absurd e h
    | some l =>
      have : a ∈ L.map (·.1) := by
        have := List.lookup_eq_some_iff.mp e
        obtain ⟨l1, l2, h1, _⟩ := this
        rw [h1]; simp
      obtain ⟨q, hq, rfl⟩ := List.mem_map.mp this
      exact (hL q hq).1
  sup := fun a h => by
    cases e : L.lookup a with
    | none => exact absurd e h
    | some l =>
      have : a ∈ L.map (·.1) := by
        have := List.lookup_eq_some_iff.mp e
        obtain ⟨l1, l2, h1, _⟩ := this
        rw [h1]; simp
      obtain ⟨q, hq, rfl⟩ := List.mem_map.mp this
      exact (hL q hq).2
/-- the state at the start -/
def Rs.init (D : SysD) : Rs := { height := 0, noted := D.ahead, crashes := D.crashes, rests := D.B, locks := List.replicate D.n [], trans := List.replicate D.n [], stores := List.replicate D.n [], commits := [], lost := [], spread := none }
section
variable {P : Program} {w : World} {K : PySem.W.Frag} {mg : Str → Option Value} {base : Heap}
theorem w_pFv {H : Hp} {f : Str} {y : V} {a C dx : Addr} {fs fs' : List (Str × V)} {R : Hp → Prop} (e : H a = some (.ins C dx fs)) (c : Cls K C) (n : NoAttr K C f) (l : fs.length < 1000) (l2 : putF f y fs = fs') (h : ∀ G, SameBut a H G → G a = some (.ins C dx fs') → R G) : pF K f (.ref a) y H R :=
  w_pF e c n l l2 (h _ (SameBut.refl a H).put upd_same)
theorem refs_list {n : Nat} {as : List Addr} {x : Addr} (h : as.length = n) : refs n (fun i => as.getD i x) = as.map V.ref := by
  subst h
  apply List.ext_getElem?
  intro i
  by_cases h : i < as.length
  · rw [refs_at h, List.getElem?_map, List.getElem?_eq_getElem h]
    simp [List.getD_eq_getElem?_getD, h]
  · rw [List.getElem?_eq_none (by rw [refs_length]; omega), List.getElem?_eq_none (by rw [List.length_map]; omega)]
theorem getD_mem {as : List Addr} {i : Nat} {x : Addr} (h : i < as.length) : as.getD i x ∈ as := by
  rw [List.getD_eq_getElem?_getD, List.getElem?_eq_getElem h]
  exact List.getElem_mem h
def lab (f : Nat → Loc) (as : List Addr) : List (Addr × Loc) := as.zipIdx.map fun q => (q.1, f q.2)
theorem lab_fst (f : Nat → Loc) (as : List Addr) : (lab f as).map (·.1) = as := by
  unfold lab
  rw [List.map_map]
  exact List.zipIdx_map_fst 0 as
theorem lab_mem {f : Nat → Loc} {as : List Addr} {i : Nat} {x : Addr} (h : i < as.length) : (as.getD i x, f i) ∈ lab f as := by
  unfold lab
  refine List.mem_map.mpr ⟨(as.getD i x, i), ?_, rfl⟩
  rw [List.mem_zipIdx_iff_getElem?, List.getD_eq_getElem?_getD, List.getElem?_eq_getElem h]
  rfl
theorem repl_getD {α : Type} (n i : Nat) : (List.replicate n ([] : List α)).getD i [] = [] := by
  rw [List.getD_eq_getElem?_getD, List.getElem?_replicate]
  split <;> rfl
def Tr (G : Hp) (L : List Addr) : Prop := ∀ q ∈ L, ∃ o, G q = some o
theorem Tr.same {G G1 : Hp} {L : List Addr} (t : Tr G L) (s : Same G G1) : Tr G1 L := fun q h => let ⟨o, e⟩ := t q h; ⟨o, s _ _ e⟩
theorem Tr.but {G G1 : Hp} {L : List Addr} {x : Addr} {o : HO} (t : Tr G L) (s : SameBut x G G1) (ex : G1 x = some o) : Tr G1 L := fun q h => by
  by_cases e : q = x
  · subst e; exact ⟨o, ex⟩
  · obtain ⟨u, hu⟩ := t q h; exact ⟨u, s _ _ e hu⟩
theorem Tr.add {G : Hp} {L M : List Addr} (a : Tr G L) (b : Tr G M) : Tr G (L ++ M) := fun q h => (List.mem_append.mp h).elim (a q) (b q)
theorem nodup_add {G : Hp} {L M : List Addr} (nd : L.Nodup) (t : Tr G L) (f : ∀ q ∈ M, G q = none) (nm : M.Nodup) : (L ++ M).Nodup := by
  rw [List.nodup_append]
  refine ⟨nd, nm, ?_⟩
  rintro a ha b hb rfl
  obtain ⟨o, e⟩ := t a ha
  rw [f a hb] at e; cases e
/-- what is free now was free before -/
theorem free_but {x : Addr} {H G : Hp} {o : HO} {q : Addr} (sb : SameBut x H G) (ex : G x = some o) (h : G q = none) : H q = none := by
  cases e : H q with
  | none => rfl
  | some u =>
    by_cases hq : q = x
    · subst hq; rw [ex] at h; cases h
    · rw [sb _ _ hq e] at h; cases h
def sp_Running___init__ (K : PySem.W.Frag) : Sp := fun vs H Q E => ∃ x sy dx Fr D, vs = [.ref x, .ref sy] ∧ H x = some (.ins (He.ga K "Running") dx []) ∧ Same Fr H ∧ Fr x = none ∧ SysAt K Fr sy D.ks D.ahead D.window D.crashes ∧ DOk D ∧ (∀ H', SameBut x H H' → RunAt K Fr H' sy D (Rs.init D) [] x → Q .non H')
theorem len_Running___init__ (K : PySem.W.Frag) : ∀ (vs : List V) (H : Hp) (Q : VK) (E : XK), sp_Running___init__ K vs H Q E → vs.length = 2 := by
  rintro vs H Q E ⟨_, _, _, _, _, rfl, _⟩
  rfl
theorem ok_Running___init__ (T : Txt K mg) : CallF P w K mg base 1 (He.ma K (He.ga K "Running") "__init__") ["self", "system"] (sp_Running___init__ K) := by
  obtain ⟨fd, F⟩ := T.d_Running___init__
  refine ⟨fd, F.ok csRunning___init__ (len_Running___init__ K) (fun cdv A outer s H vs Q E hr hsp => ?_), F.bindsN (fun _ _ _ _ _ _ us hl => match us, hl with | [_, _], _ => rfl), F.kp⟩
  have hu := hu_of hr
  have hu65 : (A.deeper (envOfC "Running.__init__" (defScope sRunning___init__) s.heap.objs.size (He.ma K (He.ga K "Running") "__init__") cdv)).units + 65 < cLine := by have := hr.un; omega
  have hu0 := hr.units0
  refine ⟨_, PSs.nox (pss_cons (ps_fld (pv 0) (pv 1) rfl)
      (pss_cons (ps_fld (pv 0) pe_int rfl)
      (pss_cons (ps_fld (pv 0) (pe_fld (pv 1) rfl) rfl)
      (pss_cons (ps_fld (pv 0) (pe_fld (pv 1) rfl) rfl)
      (pss_cons (ps_fld (pv 0) (pe_lc (own := [("name", 2)]) rfl csRunning___init__.nd (pi_tup (pe_fld (pv 1) rfl)) (blkOk_by (own := [("name", 2)]) (N := ["self", "system", "name"]) (sc := defScope sRunning___init__) (by decide +kernel)) (fun _ _ _ _ _ => (pg_name (i := 2) csRunning___init__.nd rfl (Or.inl rfl))) (fun _ _ _ _ _ => pts_nil) (fun _ _ _ _ _ => (pe_tup (pa_cons pe_int pa_nil)))) rfl)
      (pss_cons (ps_fld (pv 0) (pe_lc (own := [("name", 2)]) rfl csRunning___init__.nd (pi_tup (pe_fld (pv 1) rfl)) (blkOk_by (own := [("name", 2)]) (N := ["self", "system", "name"]) (sc := defScope sRunning___init__) (by decide +kernel)) (fun _ _ _ _ _ => (pg_name (i := 2) csRunning___init__.nd rfl (Or.inl rfl))) (fun _ _ _ _ _ => pts_nil) (fun _ _ _ _ _ => (pe_lst pa_nil))) rfl)
      (pss_cons (ps_fld (pv 0) (pe_lc (own := [("name", 2)]) rfl csRunning___init__.nd (pi_tup (pe_fld (pv 1) rfl)) (blkOk_by (own := [("name", 2)]) (N := ["self", "system", "name"]) (sc := defScope sRunning___init__) (by decide +kernel)) (fun _ _ _ _ _ => (pg_name (i := 2) csRunning___init__.nd rfl (Or.inl rfl))) (fun _ _ _ _ _ => pts_nil) (fun _ _ _ _ _ => (pe_lst pa_nil))) rfl)
      (pss_cons (ps_fld (pv 0) (pe_lc (own := [("name", 2)]) rfl csRunning___init__.nd (pi_tup (pe_fld (pv 1) rfl)) (blkOk_by (own := [("name", 2)]) (N := ["self", "system", "name"]) (sc := defScope sRunning___init__) (by decide +kernel)) (fun _ _ _ _ _ => (pg_name (i := 2) csRunning___init__.nd rfl (Or.inl rfl))) (fun _ _ _ _ _ => pts_nil) (fun _ _ _ _ _ => (pe_lst pa_nil))) rfl)
      (pss_cons (ps_fld (pv 0) (pe_lst pa_nil) rfl)
      (pss_cons (ps_fld (pv 0) (pe_lst pa_nil) rfl)
      (pss_cons (ps_fld (pv 0) pe_non rfl)
      (pss_cons (ps_fld (pv 0) (pe_lst pa_nil) rfl)
      (pss_one (ps_fld (pv 0) pe_non rfl)))))))))))))), ?_⟩
  obtain ⟨x, sy, dx, Fr, D, rfl, ex, hfr, hfx, hsy, dok, hq⟩ := hsp
  obtain ⟨ps, dxs, kt, st, S, hks⟩ := id hsy
  have hnx : sy ≠ x := fun e => by rw [e, ] at S; have := S.ins; rw [hfx] at this; cases this
  have es := hfr _ _ S.ins
  have est := hfr _ _ S.st
  rw [hks] at est
  have hn3 := dok.n3
  have hn3' : (sess D.ks).length ≤ 3 := hn3
  have hstx : st ≠ x := ne_of est ex (fun z => nomatch z)
  walk_at "st"
  walk_at "rdn"
  refine w_pFv ex T.c_Running T.n_Running_system (by with_unfolding_all exact Nat.le_of_ble_eq_true rfl) rfl fun G1 sb1 ex1 => ?_
  walk_at "rdn"
  refine w_pFv ex1 T.c_Running T.n_Running_height (by with_unfolding_all exact Nat.le_of_ble_eq_true rfl) rfl fun G2 sb2 ex2 => ?_
  have sbA := sb1.trans sb2
  have es2 := sbA _ _ hnx es
  walk_at "rdn"
  refine w_pFv ex2 T.c_Running T.n_Running_noted (by with_unfolding_all exact Nat.le_of_ble_eq_true rfl) rfl fun G3 sb3 ex3 => ?_
  have es3 := sb3 _ _ hnx es2
  walk_at "rdn"
  refine w_pFv ex3 T.c_Running T.n_Running_crashes (by with_unfolding_all exact Nat.le_of_ble_eq_true rfl) rfl fun G4 sb4 ex4 => ?_
  have sbB := (sbA.trans sb3).trans sb4
  have es4 := sbB _ _ hnx es
  have est4 := sbB _ _ hstx est
  walk_at "rdn"
  refine lcTN (ys := sess D.ks) (val := fun k => V.str k.name) (.tup [.int 0]) est4 (small1000 (by omega)) ?_ (fun σ H R R' m h => m _ _ h) (fun v σ H R R' m h => m _ _ h) ?_
  · intro y hy H1 hs1 NT hNT
    refine w_name rfl ?_
    refine ⟨rfl, ?_⟩
    refine w_yes ⟨rfl, ?_⟩
    walk_at "rdn"
    rename_i q H2 hn2 hs2 hq2 he2
    exact hNT _ _ hn2 hs2 hq2
  intro D1 as1 H1 hs1 hn1 eD1 hl1 nd1 hm1 hf1
  have ex5 := hs1 _ _ ex4
  walk_at "rdn"
  refine w_pFv ex5 T.c_Running T.n_Running_places (by with_unfolding_all exact Nat.le_of_ble_eq_true rfl) rfl fun G5 sb5 ex6 => ?_
  have sb5' : SameBut x G4 G5 := (SameBut.of hs1).trans sb5
  have es5 := sb5' _ _ hnx es4
  have est5 := sb5' _ _ hstx est4
  have hD1x : D1 ≠ x := fun e => by rw [e, ex4] at hn1; cases hn1
  have eD1' := sb5 _ _ hD1x eD1
  walk_at "rdn"
  have trp2 : Tr G5 [x, D1] := fun q hq => by
    rcases List.mem_cons.mp hq with rfl | hq
    · exact ⟨_, ex6⟩
    · rw [List.mem_singleton.mp hq]; exact ⟨_, eD1'⟩
  have ndp2 : [x, D1].Nodup := by simp [hD1x.symm]
  refine lcTN (ys := sess D.ks) (val := fun k => V.str k.name) (.lst []) est5 (small1000 (by omega)) ?_ (fun σ H R R' m h => m _ _ h) (fun v σ H R R' m h => m _ _ h) ?_
  · intro y hy H1 hs1 NT hNT
    refine w_name rfl ?_
    refine ⟨rfl, ?_⟩
    refine w_yes ⟨rfl, ?_⟩
    walk_at "rdn"
    rename_i q H2 hn2 hs2 hq2 he2
    exact hNT _ _ hn2 hs2 hq2
  intro D2 as2 HH2 hs2 hn2 eD2 hl2 nd2 hm2 hf2
  have exh2 := hs2 _ _ ex6
  walk_at "rdn"
  refine w_pFv exh2 T.c_Running T.n_Running_locks (by with_unfolding_all exact Nat.le_of_ble_eq_true rfl) rfl fun K2 sbk2 exk2 => ?_
  have sbg2 : SameBut x G5 K2 := (SameBut.of hs2).trans sbk2
  have esk2 := sbg2 _ _ hnx es5
  have estk2 := sbg2 _ _ hstx est5
  have hxD2 : D2 ≠ x := fun e => by rw [e, ex6] at hn2; cases hn2
  have hxa2 : ∀ q ∈ as2, q ≠ x := fun q hq e => by have := (hf2 q hq).1; rw [e, ex6] at this; cases this
  have eDk2 := sbk2 _ _ hxD2 eD2
  have eak2 : ∀ q ∈ as2, K2 q = some (.lst []) := fun q hq => sbk2 _ _ (hxa2 q hq) (hf2 q hq).2
  have tr2 : Tr K2 ([x, D1] ++ D2 :: as2) := (trp2.but sbg2 exk2).add (fun q hq => by
    rcases List.mem_cons.mp hq with rfl | hq
    · exact ⟨_, eDk2⟩
    · exact ⟨_, eak2 q hq⟩)
  have ndl2 : ([x, D1] ++ D2 :: as2).Nodup := nodup_add ndp2 trp2 (fun q hq => by
    rcases List.mem_cons.mp hq with rfl | hq
    · exact hn2
    · exact (hf2 q hq).1) (List.nodup_cons.mpr ⟨hm2, nd2⟩)
  walk_at "rdn"
  have trp3 := tr2
  have ndp3 := ndl2
  refine lcTN (ys := sess D.ks) (val := fun k => V.str k.name) (.lst []) estk2 (small1000 (by omega)) ?_ (fun σ H R R' m h => m _ _ h) (fun v σ H R R' m h => m _ _ h) ?_
  · intro y hy H1 hs1 NT hNT
    refine w_name rfl ?_
    refine ⟨rfl, ?_⟩
    refine w_yes ⟨rfl, ?_⟩
    walk_at "rdn"
    rename_i q H2 hn2 hs2 hq2 he2
    exact hNT _ _ hn2 hs2 hq2
  intro D3 as3 HH3 hs3 hn3 eD3 hl3 nd3 hm3 hf3
  have exh3 := hs3 _ _ exk2
  walk_at "rdn"
  refine w_pFv exh3 T.c_Running T.n_Running_transactions (by with_unfolding_all exact Nat.le_of_ble_eq_true rfl) rfl fun K3 sbk3 exk3 => ?_
  have sbg3 : SameBut x K2 K3 := (SameBut.of hs3).trans sbk3
  have esk3 := sbg3 _ _ hnx esk2
  have estk3 := sbg3 _ _ hstx estk2
  have hxD3 : D3 ≠ x := fun e => by rw [e, exk2] at hn3; cases hn3
  have hxa3 : ∀ q ∈ as3, q ≠ x := fun q hq e => by have := (hf3 q hq).1; rw [e, exk2] at this; cases this
  have eDk3 := sbk3 _ _ hxD3 eD3
  have eak3 : ∀ q ∈ as3, K3 q = some (.lst []) := fun q hq => sbk3 _ _ (hxa3 q hq) (hf3 q hq).2
  have tr3 : Tr K3 (([x, D1] ++ D2 :: as2) ++ D3 :: as3) := (trp3.but sbg3 exk3).add (fun q hq => by
    rcases List.mem_cons.mp hq with rfl | hq
    · exact ⟨_, eDk3⟩
    · exact ⟨_, eak3 q hq⟩)
  have ndl3 : (([x, D1] ++ D2 :: as2) ++ D3 :: as3).Nodup := nodup_add ndp3 trp3 (fun q hq => by
    rcases List.mem_cons.mp hq with rfl | hq
    · exact hn3
    · exact (hf3 q hq).1) (List.nodup_cons.mpr ⟨hm3, nd3⟩)
  walk_at "rdn"
  have trp4 := tr3
  have ndp4 := ndl3
  refine lcTN (ys := sess D.ks) (val := fun k => V.str k.name) (.lst []) estk3 (small1000 (by omega)) ?_ (fun σ H R R' m h => m _ _ h) (fun v σ H R R' m h => m _ _ h) ?_
  · intro y hy H1 hs1 NT hNT
    refine w_name rfl ?_
    refine ⟨rfl, ?_⟩
    refine w_yes ⟨rfl, ?_⟩
    walk_at "rdn"
    rename_i q H2 hn2 hs2 hq2 he2
    exact hNT _ _ hn2 hs2 hq2
  intro D4 as4 HH4 hs4 hn4 eD4 hl4 nd4 hm4 hf4
  have exh4 := hs4 _ _ exk3
  walk_at "rdn"
  refine w_pFv exh4 T.c_Running T.n_Running_stores (by with_unfolding_all exact Nat.le_of_ble_eq_true rfl) rfl fun K4 sbk4 exk4 => ?_
  have sbg4 : SameBut x K3 K4 := (SameBut.of hs4).trans sbk4
  have esk4 := sbg4 _ _ hnx esk3
  have estk4 := sbg4 _ _ hstx estk3
  have hxD4 : D4 ≠ x := fun e => by rw [e, exk3] at hn4; cases hn4
  have hxa4 : ∀ q ∈ as4, q ≠ x := fun q hq e => by have := (hf4 q hq).1; rw [e, exk3] at this; cases this
  have eDk4 := sbk4 _ _ hxD4 eD4
  have eak4 : ∀ q ∈ as4, K4 q = some (.lst []) := fun q hq => sbk4 _ _ (hxa4 q hq) (hf4 q hq).2
  have tr4 : Tr K4 ((([x, D1] ++ D2 :: as2) ++ D3 :: as3) ++ D4 :: as4) := (trp4.but sbg4 exk4).add (fun q hq => by
    rcases List.mem_cons.mp hq with rfl | hq
    · exact ⟨_, eDk4⟩
    · exact ⟨_, eak4 q hq⟩)
  have ndl4 : ((([x, D1] ++ D2 :: as2) ++ D3 :: as3) ++ D4 :: as4).Nodup := nodup_add ndp4 trp4 (fun q hq => by
    rcases List.mem_cons.mp hq with rfl | hq
    · exact hn4
    · exact (hf4 q hq).1) (List.nodup_cons.mpr ⟨hm4, nd4⟩)
  walk_at "rdn"
  have trp5 := tr4
  have ndp5 := ndl4
  rename_i D5 HH5 hn5 hs5 eD5 heq5
  have exh5 := hs5 _ _ exk4
  refine w_pFv exh5 T.c_Running T.n_Running_commits (by with_unfolding_all exact Nat.le_of_ble_eq_true rfl) rfl fun K5 sbk5 exk5 => ?_
  have sbg5 : SameBut x K4 K5 := (SameBut.of hs5).trans sbk5
  have hxD5 : D5 ≠ x := fun e => by rw [e, exk4] at hn5; cases hn5
  have eDk5 := sbk5 _ _ hxD5 eD5
  have tr5 : Tr K5 (((([x, D1] ++ D2 :: as2) ++ D3 :: as3) ++ D4 :: as4) ++ [D5]) := (trp5.but sbg5 exk5).add (fun q hq => by
    rw [List.mem_singleton.mp hq]; exact ⟨_, eDk5⟩)
  have ndl5 : (((([x, D1] ++ D2 :: as2) ++ D3 :: as3) ++ D4 :: as4) ++ [D5]).Nodup := nodup_add ndp5 trp5 (fun q hq => by
    rw [List.mem_singleton.mp hq]; exact hn5) (by simp)
  walk_at "rdn"
  have trp6 := tr5
  have ndp6 := ndl5
  rename_i D6 HH6 hn6 hs6 eD6 heq6
  have exh6 := hs6 _ _ exk5
  refine w_pFv exh6 T.c_Running T.n_Running_lost (by with_unfolding_all exact Nat.le_of_ble_eq_true rfl) rfl fun K6 sbk6 exk6 => ?_
  have sbg6 : SameBut x K5 K6 := (SameBut.of hs6).trans sbk6
  have hxD6 : D6 ≠ x := fun e => by rw [e, exk5] at hn6; cases hn6
  have eDk6 := sbk6 _ _ hxD6 eD6
  have tr6 : Tr K6 ((((([x, D1] ++ D2 :: as2) ++ D3 :: as3) ++ D4 :: as4) ++ [D5]) ++ [D6]) := (trp6.but sbg6 exk6).add (fun q hq => by
    rw [List.mem_singleton.mp hq]; exact ⟨_, eDk6⟩)
  have ndl6 : ((((([x, D1] ++ D2 :: as2) ++ D3 :: as3) ++ D4 :: as4) ++ [D5]) ++ [D6]).Nodup := nodup_add ndp6 trp6 (fun q hq => by
    rw [List.mem_singleton.mp hq]; exact hn6) (by simp)
  walk_at "rdn"
  refine w_pFv exk6 T.c_Running T.n_Running_spread (by with_unfolding_all exact Nat.le_of_ble_eq_true rfl) rfl fun K7 sbg7 exk7 => ?_
  have trp8 := tr6.but sbg7 exk7
  have ndp8 := ndl6
  walk_at "rdn"
  rename_i D8 HH8 hn8 hs8 eD8 heq8
  have exh8 := hs8 _ _ exk7
  refine w_pFv exh8 T.c_Running T.n_Running_executed (by with_unfolding_all exact Nat.le_of_ble_eq_true rfl) rfl fun K8 sbk8 exk8 => ?_
  have sbg8 : SameBut x K7 K8 := (SameBut.of hs8).trans sbk8
  have hxD8 : D8 ≠ x := fun e => by rw [e, exk7] at hn8; cases hn8
  have eDk8 := sbk8 _ _ hxD8 eD8
  have tr8 : Tr K8 (((((([x, D1] ++ D2 :: as2) ++ D3 :: as3) ++ D4 :: as4) ++ [D5]) ++ [D6]) ++ [D8]) := (trp8.but sbg8 exk8).add (fun q hq => by
    rw [List.mem_singleton.mp hq]; exact ⟨_, eDk8⟩)
  have ndl8 : (((((([x, D1] ++ D2 :: as2) ++ D3 :: as3) ++ D4 :: as4) ++ [D5]) ++ [D6]) ++ [D8]).Nodup := nodup_add ndp8 trp8 (fun q hq => by
    rw [List.mem_singleton.mp hq]; exact hn8) (by simp)
  walk_at "rdn"
  refine w_pFv exk8 T.c_Running T.n_Running_saved (by with_unfolding_all exact Nat.le_of_ble_eq_true rfl) rfl fun K9 sbg9 exk9 => ?_
  -- what stands at the end
  have t8 := sbg9
  have t7 := sbg8.trans t8
  have t6 := sbg7.trans t7
  have t5 := sbg6.trans t6
  have t4 := sbg5.trans t5
  have t3 := sbg4.trans t4
  have t2 := sbg3.trans t3
  have tg5 := sbg2.trans t2
  have tg4 := sb5'.trans tg5
  have tall := sbB.trans tg4
  have th1 : SameBut x H1 K9 := sb5.trans tg5
  have c1 := tg5 _ _ hD1x eD1'
  have c2 := t2 _ _ hxD2 eDk2
  have c2a : ∀ q ∈ as2, K9 q = some (.lst []) := fun q hq => t2 _ _ (hxa2 q hq) (eak2 q hq)
  have c3 := t3 _ _ hxD3 eDk3
  have c3a : ∀ q ∈ as3, K9 q = some (.lst []) := fun q hq => t3 _ _ (hxa3 q hq) (eak3 q hq)
  have c4 := t4 _ _ hxD4 eDk4
  have c4a : ∀ q ∈ as4, K9 q = some (.lst []) := fun q hq => t4 _ _ (hxa4 q hq) (eak4 q hq)
  have c5 := t5 _ _ hxD5 eDk5
  have c6 := t6 _ _ hxD6 eDk6
  have c8 := t8 _ _ hxD8 eDk8
  have n2 : as2.length = D.n := hl2
  have n3 : as3.length = D.n := hl3
  have n4 : as4.length = D.n := hl4
  have z4 := fun {q} h => free_but (q := q) sbB ex4 h
  have z5 := fun {q} h => free_but (q := q) (sbB.trans sb5') ex6 h
  have z2 := fun {q} h => free_but (q := q) ((sbB.trans sb5').trans sbg2) exk2 h
  have z3 := fun {q} h => free_but (q := q) (((sbB.trans sb5').trans sbg2).trans sbg3) exk3 h
  have zk4 := fun {q} h => free_but (q := q) ((((sbB.trans sb5').trans sbg2).trans sbg3).trans sbg4) exk4 h
  have zk5 := fun {q} h => free_but (q := q) (((((sbB.trans sb5').trans sbg2).trans sbg3).trans sbg4).trans sbg5) exk5 h
  have zk7 := fun {q} h => free_but (q := q) (((((((sbB.trans sb5').trans sbg2).trans sbg3).trans sbg4).trans sbg5).trans sbg6).trans sbg7) exk7 h
  refine hq K9 tall ⟨_, { self := x, dct := dx, pl := D1, lk := D2, tr := D3, st := D4, cm := D5, lo := D6, ex := D8, lki := fun i => as2.getD i x, tri := fun i => as3.getD i x, sti := fun i => as4.getD i x }, as1.map V.ref, [], {
    self := rfl
    lay := Lay.ofList (((((([(x, .self), (D1, .pl)] ++ (D2, .lk) :: lab .lki as2) ++ (D3, .tr) :: lab .tri as3) ++ (D4, .st) :: lab .sti as4) ++ [(D5, .cm)]) ++ [(D6, .lo)]) ++ [(D8, .ex)]) ?_ ?_ (fun b o h => tall _ _ (fun e => by rw [e, hfx] at h; cases h) (hfr _ _ h)) ?_
    pl := ⟨by rw [List.length_map]; exact hl1, fun i r hr => ?_⟩
    cm := trivial
    len := ⟨B_len D, by simp [Rs.init], by simp [Rs.init], by simp [Rs.init]⟩
    sys := hsy
    dok := dok }⟩
  · simp only [List.map_append, List.map_cons, List.map_nil, lab_fst]
    exact ndl8
  · intro l o ho
    cases l with
    | self => cases ho; exact ⟨by simp [Ad.at], exk9⟩
    | pl => cases ho; exact ⟨by simp [Ad.at], c1⟩
    | lk => cases ho; exact ⟨by simp [Ad.at], by show K9 D2 = some (.lst (refs D.n fun i => as2.getD i x)); rw [refs_list n2]; exact c2⟩
    | tr => cases ho; exact ⟨by simp [Ad.at], by show K9 D3 = some (.lst (refs D.n fun i => as3.getD i x)); rw [refs_list n3]; exact c3⟩
    | st => cases ho; exact ⟨by simp [Ad.at], by show K9 D4 = some (.lst (refs D.n fun i => as4.getD i x)); rw [refs_list n4]; exact c4⟩
    | cm => cases ho; exact ⟨by simp [Ad.at], c5⟩
    | lo => cases ho; exact ⟨by simp [Ad.at], c6⟩
    | ex => cases ho; exact ⟨by simp [Ad.at], c8⟩
    | lki i =>
      have ho : (if i < D.n then some (HO.lst (((List.replicate D.n ([] : List Str)).getD i []).map V.str)) else none) = some o := ho
      by_cases hi : i < D.n
      · rw [if_pos hi, repl_getD] at ho
        cases ho
        exact ⟨by simp only [List.mem_append, List.mem_cons]; exact .inl (.inl (.inl (.inl (.inl (.inr (.inr (lab_mem (by omega)))))))), c2a _ (getD_mem (by omega))⟩
      · rw [if_neg hi] at ho; cases ho
    | tri i =>
      have ho : (if i < D.n then some (HO.lst (((List.replicate D.n ([] : List Int)).getD i []).map V.int)) else none) = some o := ho
      by_cases hi : i < D.n
      · rw [if_pos hi, repl_getD] at ho
        cases ho
        exact ⟨by simp only [List.mem_append, List.mem_cons]; exact .inl (.inl (.inl (.inl (.inr (.inr (lab_mem (by omega))))))), c3a _ (getD_mem (by omega))⟩
      · rw [if_neg hi] at ho; cases ho
    | sti i =>
      have ho : (if i < D.n then some (HO.lst (((List.replicate D.n ([] : List Int)).getD i []).map V.int)) else none) = some o := ho
      by_cases hi : i < D.n
      · rw [if_pos hi, repl_getD] at ho
        cases ho
        exact ⟨by simp only [List.mem_append, List.mem_cons]; exact .inl (.inl (.inl (.inr (.inr (lab_mem (by omega)))))), c4a _ (getD_mem (by omega))⟩
      · rw [if_neg hi] at ho; cases ho
  · have hall : ∀ q ∈ ((((((([x, D1] ++ D2 :: as2) ++ D3 :: as3) ++ D4 :: as4) ++ [D5]) ++ [D6]) ++ [D8])), Fr q = none ∧ ∃ o, K9 q = some o := by
      intro q hq
      refine ⟨?_, (tr8.but sbg9 exk9) q hq⟩
      simp only [List.mem_append, List.mem_cons, List.not_mem_nil, or_false] at hq
      rcases hq with ((((((rfl | rfl) | rfl | hq) | rfl | hq) | rfl | hq) | rfl) | rfl) | rfl
      · exact hfx
      · exact hfr.free (z4 hn1)
      · exact hfr.free (z5 hn2)
      · exact hfr.free (z5 (hf2 q hq).1)
      · exact hfr.free (z2 hn3)
      · exact hfr.free (z2 (hf3 q hq).1)
      · exact hfr.free (z3 hn4)
      · exact hfr.free (z3 (hf4 q hq).1)
      · exact hfr.free (zk4 hn5)
      · exact hfr.free (zk5 hn6)
      · exact hfr.free (zk7 hn8)
    intro q hq
    refine hall q.1 ?_
    have := List.mem_map_of_mem (f := Prod.fst) hq
    have hlf : ∀ (f : Nat → Loc) (as : List Addr), List.map Prod.fst (lab f as) = as := lab_fst
    simp only [List.map_append, List.map_cons, List.map_nil, hlf] at this
    exact this
  · have hr : D.B[i]? = some r := hr
    have hi : i < D.n := by
      rcases Nat.lt_or_ge i D.B.length with c | c
      · rw [← B_len]; exact c
      · rw [List.getElem?_eq_none c] at hr; cases hr
    have hl1' : as1.length = D.n := hl1
    have ha : as1[i]? = some (as1[i]'(by omega)) := List.getElem?_eq_getElem _
    have hm : as1[i]'(by omega) ∈ as1 := List.getElem_mem _
    refine ⟨as1[i]'(by omega), [0], r, by rw [List.getElem?_map, ha]; rfl, ?_, hr, rest_zero (dok.ne r (List.mem_of_getElem? hr))⟩
    refine th1 _ _ (fun e => ?_) (hf1 _ hm).2
    have := (hf1 _ hm).1
    rw [e, ex4] at this; cases this
end
theorem sys_make {K : PySem.W.Frag} {H2 : Hp} {Q : VK} {E : XK} {ahead crashes : Int} {w : Option Int} {ps : List (Addr × Kd)} {x dx : Addr} (KA : KindsAt K H2 ps) (F : Fit (ps.map (·.2)) ahead w crashes) (nx : H2 x = none) (nd : H2 dx = none) (hq : ∀ H', Same H2 H' → SysAt K H' x (ps.map (·.2)) ahead w crashes → Q (.ref x) H') :
    spk_System K (.ref x :: ps.map fun b => .ref b.1) [.int ahead, oV w, .int crashes] (upd (upd H2 dx (.own x)) x (.ins (He.ga K "System") dx [])) (fun v H3 => v = .non ∧ Q (.ref x) H3) E := by
  have h1 : (ps.map fun b => V.ref b.1).length = 1 ∨ (ps.map fun b => V.ref b.1).length = 2 := by
    have h1 := F.len
    have h2 := F.ne
    rw [List.length_map] at h1 ⊢
    have : 0 < ps.length := List.length_pos_iff.mpr (fun e => h2 (by rw [e]; rfl))
    omega
  have hs1 : Same H2 (upd (upd H2 dx (.own x)) x (.ins (He.ga K "System") dx [])) := same_made nx nd
  have ex : upd (upd H2 dx (.own x)) x (.ins (He.ga K "System") dx []) x = some _ := upd_same
  generalize upd (upd H2 dx (.own x)) x (.ins (He.ga K "System") dx []) = H3 at *
  refine ⟨_, _, _, _, _, rfl, rfl, h1, fun t ht => ?_⟩
  have hs2 := same_new (H := H3) (o := .tup (ps.map fun b => V.ref b.1)) ht
  exact ⟨x, ahead, w, crashes, t, dx, ps, rfl, hs2 _ _ ex, upd_same, KA.mono (hs1.trans hs2), F, fun H4 sb4 hsys => ⟨rfl, hq _ (SameBut.new (hs1.trans hs2) sb4 nx) hsys⟩⟩
section
variable {P : Program} {w : World} {K : PySem.W.Frag} {mg : Str → Option Value} {base : Heap}
def sp_run (K : PySem.W.Frag) : Sp := fun vs H Q E => ∃ sy l D ts, vs = [.ref sy, .ref l] ∧ SysAt K H sy D.ks D.ahead D.window D.crashes ∧ DOk D ∧ H l = some (.lst (List.map (fun b : Addr × Mv => V.ref b.1) ts)) ∧ (∀ b ∈ ts, H b.1 = some (.tup b.2.vs)) ∧ RunsOk D (ts.map (·.2)) (Rs.init D) ∧ ts.length ≤ 900000 ∧ Lim (stepAll D (ts.map (·.2)) (Rs.init D)) ∧
  (∀ H' a, Same H H' → RecAt K H' (stepAll D (ts.map (·.2)) (Rs.init D)) a → Q (.ref a) H')
theorem len_run (K : PySem.W.Frag) : ∀ (vs : List V) (H : Hp) (Q : VK) (E : XK), sp_run K vs H Q E → vs.length = 2 := by
  rintro vs H Q E ⟨_, _, _, _, rfl, _⟩
  rfl
theorem ok_run (T : Txt K mg) : CallF P w K mg base 10 (He.ga K "run") ["system", "schedule"] (sp_run K) := by
  obtain ⟨fd, F⟩ := T.d_run
  obtain ⟨fd_Running_record, G_Running_record, b_Running_record, k_Running_record⟩ := ok_Running_record (P := P) (w := w) (base := base) T
  obtain ⟨fd_Running_perform_all, G_Running_perform_all, b_Running_perform_all, k_Running_perform_all⟩ := ok_Running_perform_all (P := P) (w := w) (base := base) T
  obtain ⟨fd_Running___init__, G_Running___init__, b_Running___init__, k_Running___init__⟩ := ok_Running___init__ (P := P) (w := w) (base := base) T
  refine ⟨fd, F.ok csrun (len_run K) (fun cdv A outer s H vs Q E hr hsp => ?_), F.bindsN (fun _ _ _ _ _ _ us hl => match us, hl with | [_, _], _ => rfl), F.kp⟩
  have hu := hu_of hr
  have hu65 : (A.deeper (envOfC "run" (defScope srun) s.heap.objs.size (He.ga K "run") cdv)).units + 65 < cLine := by have := hr.un; omega
  have hu0 := hr.units0
  refine ⟨_, PSs.nox (pss_cons (ps_if (pt_not (pt_val (pe_callB call_isi (by rfl) T.f_isinstance (by decide +kernel) (pa_cons (pv 1) (pa_cons (pe_bltn (v := .ty "list") (by rfl) T.f_list (by decide +kernel) rfl) pa_nil))))) (pss_one ps_never) pss_nil)
      (pss_cons (ps_set (i := 2) csrun.nd rfl (Or.inl rfl) (pe_make T.k_Running G_Running___init__ (hr.mono (by decide)) (by rfl) T.g_Running b_Running___init__ .nil pass0 (pa_cons (pv 0) pa_nil)))
      (pss_cons (ps_expr (pe_meth (pv 2) T.c_Running T.m_Running_perform_all G_Running_perform_all (hr.mono (by decide)) b_Running_perform_all .nil pass0 (pa_cons (pv 1) pa_nil)))
      (pss_one (ps_ret (pe_meth0 (pv 2) T.c_Running T.m_Running_record G_Running_record (hr.mono (by decide)) b_Running_record .nil pass0)))))), ?_⟩
  obtain ⟨sy, l, D, ts, rfl, hsy, dok, el, ht, hok, hlen, lim, hq⟩ := hsp
  walk_at "st"
  walk_at "rd"
  refine w_gMake fun x dx H1 hn1 hs1 ex _ => ?_
  refine ⟨x, sy, dx, H, D, rfl, ex, hs1, hn1, hsy, dok, fun H2 sb2 ra2 => ⟨rfl, ?_⟩⟩
  obtain ⟨ow2, A2, pv2, cv2, r2⟩ := id ra2
  have f1 := r2.eself
  have hs2 := r2.lay.fr
  walk_at "rd"
  refine ⟨x, l, H, sy, D, _, [], ts, rfl, ra2, el, fun b hb => hs2 _ _ (ht b hb), hok, by simp; omega, fun H3 xv' tp3 ra3 => ?_⟩
  obtain ⟨ow3, A3, pv3, cv3, r3⟩ := id ra3
  have f3 := r3.eself
  walk_at "rd"
  exact ⟨x, H, sy, D, _, xv', rfl, ra3, lim, fun H4 a hs4 rec => hq _ _ (r3.lay.fr.trans hs4) rec⟩
def sp_System_with_values (K : PySem.W.Frag) : Sp := fun vs H Q E => ∃ sy w ks ahead w0 crashes, vs = [.ref sy, .int (-1), oV w, .int (-1)] ∧ SysAt K H sy ks ahead w0 crashes ∧ Fit ks ahead w crashes ∧ (∀ H' a, Same H H' → SysAt K H' a ks ahead w crashes → Q (.ref a) H')
theorem len_System_with_values (K : PySem.W.Frag) : ∀ (vs : List V) (H : Hp) (Q : VK) (E : XK), sp_System_with_values K vs H Q E → vs.length = 4 := by
  rintro vs H Q E ⟨_, _, _, _, _, _, rfl, _⟩
  rfl
theorem ok_System_with_values (T : Txt K mg) : ∃ fd, FnOk P w K mg base CX0 7 (He.ma K (He.ga K "System") "with_values") fd ["self", "ahead", "window", "crashes"] (sp_System_with_values K) ∧ ∃ g, KBn K fd ["self", "ahead", "window", "crashes"] 1 ["window"] g (fun vs zs => vs ++ ([V.int (-1)] ++ (zs ++ [V.int (-1)]))) := by
  obtain ⟨fd, F⟩ := T.d_System_with_values
  have G_System___init__ := ok_System___init__ (P := P) (w := w) (base := base) T
  obtain ⟨fd_is_kept, G_is_kept, b_is_kept, k_is_kept⟩ := ok_is_kept (P := P) (w := w) (base := base) T
  refine ⟨fd, F.ok csSystem_with_values (len_System_with_values K) (fun cdv A outer s H vs Q E hr hsp => ?_), ?_⟩
  rotate_left
  · obtain ⟨mv, hb⟩ := F.kbinds0 (ps := ["self", "ahead", "window", "crashes"]) 1 ["window"] [("ahead", .int (-1)), ("crashes", .int (-1))] (fun vs mz zs => vs ++ (mz.take 1 ++ (zs ++ mz.drop 1))) (by simp) (by simp) (fun r m z => r.append ((m.take 1).append (z.append (m.drop 1)))) (fun _ _ _ _ _ _ us mv ws h1 h2 h3 => match us, mv, ws, h1, h2, h3 with | [_], [_, _], [_], _, _, _ => ⟨_, _, _, _, _, _, rfl, rfl, _, _, _, _, _, _, rfl, rfl, rfl⟩)
    exact ⟨_, hb⟩
  have hu := hu_of hr
  have hu65 : (A.deeper (envOfC "System.with_values" (defScope sSystem_with_values) s.heap.objs.size (He.ma K (He.ga K "System") "with_values") cdv)).units + 65 < cLine := by have := hr.un; omega
  have hu0 := hr.units0
  refine ⟨_, PSs.nox (pss_cons (ps_if (pt_val (pe_call G_is_kept (hr.mono (by decide)) (by rfl) T.g_is_kept k_is_kept b_is_kept .nil pass0 (pa_cons (pv 1) pa_nil))) (pss_one (ps_set (i := 1) csSystem_with_values.nd rfl (Or.inl rfl) (pe_fld (pv 0) rfl))) pss_nil)
      (pss_cons (ps_if (pt_val (pe_call G_is_kept (hr.mono (by decide)) (by rfl) T.g_is_kept k_is_kept b_is_kept .nil pass0 (pa_cons (pv 2) pa_nil))) (pss_one (ps_set (i := 2) csSystem_with_values.nd rfl (Or.inl rfl) (pe_fld (pv 0) rfl))) pss_nil)
      (pss_cons (ps_if (pt_val (pe_call G_is_kept (hr.mono (by decide)) (by rfl) T.g_is_kept k_is_kept b_is_kept .nil pass0 (pa_cons (pv 3) pa_nil))) (pss_one (ps_set (i := 3) csSystem_with_values.nd rfl (Or.inl rfl) (pe_fld (pv 0) rfl))) pss_nil)
      (pss_cons (ps_set (i := 4) csSystem_with_values.nd rfl (Or.inl rfl) (pe_fld (pv 0) rfl))
      (pss_one (ps_ret (pe_starKS T.k_System G_System___init__ (hr.mono (by decide)) (by rfl) T.g_System pass0 (pv 4) (pk_cons (pv 1) (pk_cons (pv 2) (pk_cons (pv 3) pk_nil)))))))))), ?_⟩
  obtain ⟨sy, w, ks, ahead, w0, crashes, rfl, ⟨ps, dx, kt, st, S, rfl⟩, F, hq⟩ := hsp
  have e1 := S.ins
  have e2 := S.kt
  walk_at "st"
  walk_at "rd"
  refine ⟨_, _, rfl, .inl ⟨-1, rfl, rfl⟩, ?_⟩
  walk_at "rd"
  have hw : w ≠ some (-1) := fun h => by have := (F.win _ h).1; omega
  refine ⟨oV w, false, rfl, ?_, ?_⟩
  · cases w with
    | none => exact .inr ⟨rfl, rfl⟩
    | some i => exact .inl ⟨i, rfl, by symm; rw [decide_eq_false_iff_not]; rintro rfl; exact hw rfl⟩
  walk_at "rd"
  refine ⟨_, _, rfl, .inl ⟨-1, rfl, rfl⟩, ?_⟩
  walk_at "rd"
  refine ⟨.ref kt, rfl, ?_⟩
  walk_at "rd"
  exact ⟨rfl, kt, _, rfl, .inl (sqT e2), fun x dx2 nx nd ne => sys_make S.ks F nx nd fun H' hs hsys => hq _ _ hs hsys⟩
/-! ### the two measures -/
def lateIn (top : Int) (f : Option Int) (ns : List Int) : Option Int := ns.foldl (fun f n => if n < top ∧ (f = none ∨ ∃ p, f = some p ∧ p < top - n) then some (top - n) else f) f
def lateTop (top : Int) (ns : List Int) : Int := if ns.getLastD 0 > top then ns.getLastD 0 else top
def lateM (cs : List (Int × List Int)) : Option Int × Int := cs.foldl (fun a c => (lateIn a.2 a.1 c.2, lateTop a.2 c.2)) (none, -1)
theorem CmOk.zip {H : Hp} : ∀ {cs : List (Int × List Int)} {vs : List V}, CmOk H cs vs → ∃ ys : List (Addr × Addr × Int × List Int), vs = ys.map (fun y => .ref y.1) ∧ cs = ys.map (fun y => y.2.2) ∧ ∀ y ∈ ys, H y.1 = some (.tup [.int y.2.2.1, .ref y.2.1]) ∧ H y.2.1 = some (.tup (y.2.2.2.map V.int))
  | [], [], _ => ⟨[], rfl, rfl, by simp⟩
  | (s, ns) :: cs, v :: vs, ⟨⟨a, b, h1, h2, h3⟩, r⟩ => by
    obtain ⟨ys, e1, e2, e3⟩ := r.zip
    refine ⟨(a, b, s, ns) :: ys, by rw [h1, e1]; rfl, by rw [e2]; rfl, ?_⟩
    intro y hy
    rcases List.mem_cons.mp hy with rfl | hy
    · exact ⟨h2, h3⟩
    · exact e3 y hy
  | [], _ :: _, h => h.elim
  | _ :: _, [], h => h.elim
theorem lateIn_snoc (top : Int) (f : Option Int) (ns : List Int) (n : Int) : lateIn top f (ns ++ [n]) = if n < top ∧ (lateIn top f ns = none ∨ ∃ p, lateIn top f ns = some p ∧ p < top - n) then some (top - n) else lateIn top f ns := by
  unfold lateIn
  rw [List.foldl_append]; rfl
theorem lateM_snoc (cs : List (Int × List Int)) (c : Int × List Int) : lateM (cs ++ [c]) = (lateIn (lateM cs).2 (lateM cs).1 c.2, lateTop (lateM cs).2 c.2) := by
  unfold lateM
  rw [List.foldl_append]; rfl
def sp_spread (K : PySem.W.Frag) : Sp := fun vs H Q E => ∃ a R, vs = [.ref a] ∧ RecAt K H R a ∧ Q (oV R.spread) H
theorem len_spread (K : PySem.W.Frag) : ∀ (vs : List V) (H : Hp) (Q : VK) (E : XK), sp_spread K vs H Q E → vs.length = 1 := by
  rintro vs H Q E ⟨_, _, rfl, _⟩
  rfl
theorem ok_spread (T : Txt K mg) : CallF P w K mg base 1 (He.ga K "spread") ["record"] (sp_spread K) := by
  obtain ⟨fd, F⟩ := T.d_spread
  refine ⟨fd, F.ok csspread (len_spread K) (fun cdv A outer s H vs Q E hr hsp => ?_), F.bindsN (fun _ _ _ _ _ _ us hl => match us, hl with | [_], _ => rfl), F.kp⟩
  have hu := hu_of hr
  have hu65 : (A.deeper (envOfC "spread" (defScope sspread) s.heap.objs.size (He.ga K "spread") cdv)).units + 65 < cLine := by have := hr.un; omega
  have hu0 := hr.units0
  refine ⟨_, PSs.nox (pss_one (ps_ret (pe_fld (pv 0) rfl))), ?_⟩
  obtain ⟨a, R, rfl, ⟨dx, cl, ll, ol, cv, ls, r⟩, hq⟩ := hsp
  have e1 := r.ins
  walk_at "st"
  walk_at "rd"
  exact hq
def sp_late (K : PySem.W.Frag) : Sp := fun vs H Q E => ∃ a R, vs = [.ref a] ∧ RecAt K H R a ∧ (∀ c ∈ R.commits, c.2 ≠ []) ∧ Q (oV (lateM R.commits).1) H
theorem len_late (K : PySem.W.Frag) : ∀ (vs : List V) (H : Hp) (Q : VK) (E : XK), sp_late K vs H Q E → vs.length = 1 := by
  rintro vs H Q E ⟨_, _, rfl, _⟩
  rfl
theorem ok_late (T : Txt K mg) : CallF P w K mg base 1 (He.ga K "late") ["record"] (sp_late K) := by
  obtain ⟨fd, F⟩ := T.d_late
  refine ⟨fd, F.ok cslate (len_late K) (fun cdv A outer s H vs Q E hr hsp => ?_), F.bindsN (fun _ _ _ _ _ _ us hl => match us, hl with | [_], _ => rfl), F.kp⟩
  have hu := hu_of hr
  have hu65 : (A.deeper (envOfC "late" (defScope slate) s.heap.objs.size (He.ga K "late") cdv)).units + 65 < cLine := by have := hr.un; omega
  have hu0 := hr.units0
  refine ⟨_, PSs.nox (pss_cons (ps_set (i := 1) cslate.nd rfl (Or.inl rfl) pe_non)
      (pss_cons (ps_set (i := 2) cslate.nd rfl (Or.inl rfl) (pe_un un_neg pe_int))
      (pss_cons (ps_for PassesOwn.never rfl (pi_list (pe_fld (pv 0) rfl)) (pg_tup rfl (pgs_cons (pg_name (i := 3) cslate.nd rfl (Or.inl rfl)) (pgs_cons (pg_name (i := 4) cslate.nd rfl (Or.inl rfl)) pgs_nil))) (pss_cons (ps_for PassesOwn.never rfl (pi_tup (pv 4)) (pg_name (i := 5) cslate.nd rfl (Or.inl rfl)) (pss_one (ps_if (PW.pt (pw_and (pt_cmpR op_lt (pv 5) (pv 2) (nomark _)) (pw_and1 (PW.pt (pw_or (pt_cmpR op_isN1 (pv 1) pe_non (nomark _)) (pw_or1 (pt_cmpR op_gt (pe_op op_sub (pv 2) (pv 5)) (pv 1) (nomark _)))))))) (pss_one (ps_set (i := 1) cslate.nd rfl (Or.inl rfl) (pe_op op_sub (pv 2) (pv 5)))) pss_nil)))
      (pss_one (ps_set (i := 2) cslate.nd rfl (Or.inl rfl) (pe_callB (call_maxN rfl) (by rfl) T.f_max (by decide +kernel) (pa_cons (pv 2) (pa_cons (pe_ix ix_tup (pv 4) (pe_un un_neg pe_int) (fun _ _ => rfl)) pa_nil)))))))
      (pss_one (ps_ret (pv 1)))))), ?_⟩
  obtain ⟨a, R, rfl, ⟨dx, cl, ll, ol, cv, ls, r⟩, hne, hq⟩ := hsp
  have e1 := r.ins
  have e2 := r.ecl
  obtain ⟨ys, rfl, hcs, hys⟩ := r.cm.zip
  walk_at "st"
  walk_at "rd"
  refine forL (ys := ys) (val := fun y => .ref y.1) (fun pre σ H' => H' = H ∧ ∃ o3 o4 o5, σ = [some (.ref a), some (oV (lateM (pre.map (·.2.2))).1), some (.int (lateM (pre.map (·.2.2))).2), o3, o4, o5]) ⟨rfl, none, none, none, rfl⟩ (fun pre σ H' h => by rw [h.1]; exact e2) ?_ ?_
  · rintro pre y post σ H' hy ⟨rfl, o3, o4, o5, rfl⟩
    obtain ⟨f1, f2⟩ := hys y (by rw [hy]; simp)
    have hny : y.2.2.2 ≠ [] := hne y.2.2 (by rw [hcs]; exact List.mem_map.mpr ⟨y, by rw [hy]; simp, rfl⟩)
    walk_at "rd"
    refine forT (ys := y.2.2.2) (val := V.int) (fun pre2 σ H2 => H2 = H' ∧ ∃ o5, σ = [some (.ref a), some (oV (lateIn (lateM (pre.map (·.2.2))).2 (lateM (pre.map (·.2.2))).1 pre2)), some (.int (lateM (pre.map (·.2.2))).2), some (.int y.2.2.1), some (.ref y.2.1), o5]) ⟨rfl, o5, rfl⟩ (fun pre2 σ H2 h => by rw [h.1]; exact f2) ?_ ?_
    · rintro pre2 n post2 σ H2 hn ⟨rfl, o5, rfl⟩
      have hsn := lateIn_snoc (lateM (pre.map (·.2.2))).2 (lateM (pre.map (·.2.2))).1 pre2 n
      generalize lateIn (lateM (pre.map (·.2.2))).2 (lateM (pre.map (·.2.2))).1 (pre2 ++ [n]) = f2 at *
      generalize lateIn (lateM (pre.map (·.2.2))).2 (lateM (pre.map (·.2.2))).1 pre2 = f at *
      generalize (lateM (pre.map (·.2.2))).2 = top at *
      walk_at "rd"
      refine w_ite (fun hlt => ?_) (fun hlt => ?_)
      · cases f with
        | none =>
          dsimp only [oV]
          walk_at "rd"
          rw [hsn, if_pos ⟨hlt, .inl rfl⟩]
          exact ⟨rfl, _, rfl⟩
        | some p =>
          dsimp only [oV]
          walk_at "rd"
          refine w_ite (fun hlt2 => ?_) (fun hlt2 => ?_)
          · walk_at "rd"
            rw [hsn, if_pos ⟨hlt, .inr ⟨p, rfl, hlt2⟩⟩]
            exact ⟨rfl, _, rfl⟩
          · walk_at "rd"
            rw [hsn, if_neg (by rintro ⟨_, h | ⟨q, h1, h2⟩⟩; · cases h
                                · cases h1; exact hlt2 h2)]
            exact ⟨rfl, _, rfl⟩
      · walk_at "rd"
        rw [hsn, if_neg (fun h => hlt h.1)]
        exact ⟨rfl, _, rfl⟩
    · rintro σ H2 ⟨rfl, o5, rfl⟩
      have hat := at_last hny
      walk_at "rd"
      exact ⟨rfl, _, _, _, by rw [List.map_append, List.map_cons, List.map_nil, lateM_snoc]; rfl⟩
  · rintro σ H' ⟨rfl, o3, o4, o5, rfl⟩
    rw [hcs] at hq
    walk_at "rd"
    exact hq
/-! ### two records of the same state are the same -/
def encC (c : Int × List Int) : PyData := .tuple [.int c.1, .tuple (c.2.map PyData.int)]
theorem dp_commits {K : PySem.W.Frag} {H : Hp} : ∀ {cs : List (Int × List Int)} {vs : List V}, CmOk H cs vs → DpAll K H vs (cs.map encC)
  | [], [], _ => .nil
  | (s, ns) :: cs, v :: vs, ⟨⟨a, b, h1, h2, h3⟩, r⟩ => by
    subst h1
    exact .cons (.tup (sqT h2) (.cons (.int s) (.cons (.tup (sqT h3) (dpAll_ints ns)) .nil))) (dp_commits r)
  | [], _ :: _, h => h.elim
  | _ :: _, [], h => h.elim
theorem canLay_commits : ∀ cs : List (Int × List Int), PyData.canLayAll0 (cs.map encC) = true
  | [] => rfl
  | _ :: r => by simp [encC, PyData.canLayAll0, PyData.canLay0, canLay_ints]; exact canLay_commits r
theorem depthA_commits : ∀ cs : List (Int × List Int), PyData.depthAll (cs.map encC) ≤ 2
  | [] => by simp [PyData.depthAll]
  | _ :: r => by
    have := depthA_commits r
    simp only [List.map_cons, encC, PyData.depthAll, PyData.depth, depthA_ints]
    omega
theorem shaped_commits (cs : List (Int × List Int)) : SeqAt.shaped (.list (cs.map encC)) = true := by
  have := depthA_commits cs
  have h2 : (PyData.list (cs.map encC)).depth ≤ 64 := by
    rw [PyData.depth]
    omega
  unfold SeqAt.shaped
  rw [PyData.canLay0, canLay_commits, decide_eq_true h2]
  rfl
theorem shaped_lints (ns : List Int) : SeqAt.shaped (.list (ns.map PyData.int)) = true := by
  simp [SeqAt.shaped, PyData.canLay0, PyData.depth, canLay_ints, depthA_ints]
theorem w_neD {K : PySem.W.Frag} {H : Hp} {a b : Addr} {d : PyData} {Q : VK} (e1 : Dp K H (.ref a) d) (e2 : Dp K H (.ref b) d) (s : SeqAt.shaped d = true) (h : Q (.bl false) H) : rNeD K (.ref a) (.ref b) H Q :=
  ⟨d, d, e1, e2, s, s, by rw [SeqAt.eqv_refl d (SeqAt.canLay_of_shaped s)]; exact h⟩
theorem sorted_eq {a b l : List Int} (h1 : a.Perm l) (h2 : b.Perm l) (s1 : a.Pairwise (· ≤ ·)) (s2 : b.Pairwise (· ≤ ·)) : a = b :=
  List.Perm.eq_of_pairwise (fun x y _ _ h1 h2 => Int.le_antisymm h1 h2) s1 s2 (h1.trans h2.symm)
theorem putK_nodup {κ : Type} [DecidableEq κ] {kvs : List (κ × V)} {k : κ} {v : V} (h : (kvs.map (·.1)).Nodup) : ((putK kvs k v).map (·.1)).Nodup := by
  cases e : valV kvs k with
  | none => exact nd_putK v h e
  | some u =>
    unfold putK
    rw [if_pos (by rw [valV_any, e]; rfl), List.map_map]
    have : (kvs.map ((fun p : κ × V => p.1) ∘ fun kv => if kv.1 = k then (kv.1, v) else kv)) = kvs.map (·.1) := by
      apply List.map_congr_left
      intro p hp
      show (if p.1 = k then (p.1, v) else p).1 = p.1
      split <;> rfl
    rw [this]; exact h
def OutOk (k : List (Key × V)) : Prop := (k.map (·.1)).Nodup ∧ ∀ p ∈ k, ∃ s : Int, p.2 = .int s
theorem OutOk.put {k : List (Key × V)} (h : OutOk k) (n : Key) (s : Int) : OutOk (putK k n (.int s)) := by
  refine ⟨putK_nodup h.1, fun p hp => ?_⟩
  unfold putK at hp
  split at hp
  · obtain ⟨q, hq, rfl⟩ := List.mem_map.mp hp
    split
    · exact ⟨s, rfl⟩
    · exact h.2 q hq
  · rcases List.mem_append.mp hp with hp | hp
    · exact h.2 p hp
    · rw [List.mem_singleton.mp hp]; exact ⟨s, rfl⟩
theorem outRow_ok (s : Nat) : ∀ (ns : List Int) (k : List (Key × V)), OutOk k → OutOk (outRow s ns k)
  | [], _, h => h
  | n :: ns, k, h => outRow_ok s ns _ (h.put (.inl n) (s : Nat))
theorem outRows_ok (rows : List (List Int)) (k : List (Key × V)) (h : OutOk k) : OutOk (outRows rows k) := by
  have : ∀ (l : List (List Int × Nat)) (k : List (Key × V)), OutOk k → OutOk (l.foldl (fun k y => outRow y.2 y.1 k) k) := by
    intro l
    induction l with
    | nil => intro k h; exact h
    | cons y l ih => intro k h; exact ih _ (outRow_ok y.2 y.1 k h)
  exact this _ k h
theorem outK_ok (R : Rs) : OutOk (outK R) := outRows_ok _ _ (outRows_ok _ _ ⟨List.nodup_nil, by simp⟩)
def sp__law_same (K : PySem.W.Frag) : Sp := fun vs H Q E => ∃ a b R, vs = [.ref a, .ref b] ∧ RecAt K H R a ∧ RecAt K H R b ∧ Q (.bl true) H
theorem len__law_same (K : PySem.W.Frag) : ∀ (vs : List V) (H : Hp) (Q : VK) (E : XK), sp__law_same K vs H Q E → vs.length = 2 := by
  rintro vs H Q E ⟨_, _, _, rfl, _⟩
  rfl
theorem ok__law_same (T : Txt K mg) : CallF P w K mg base 1 (He.ga K "_law_same") ["_law_one", "_law_other"] (sp__law_same K) := by
  obtain ⟨fd, F⟩ := T.d__law_same
  refine ⟨fd, F.ok cs_law_same (len__law_same K) (fun cdv A outer s H vs Q E hr hsp => ?_), F.bindsN (fun _ _ _ _ _ _ us hl => match us, hl with | [_, _], _ => rfl), F.kp⟩
  have hu := hu_of hr
  have hu65 : (A.deeper (envOfC "_law_same" (defScope s_law_same) s.heap.objs.size (He.ga K "_law_same") cdv)).units + 65 < cLine := by have := hr.un; omega
  have hu0 := hr.units0
  refine ⟨_, PSs.nox (pss_cons (ps_if (PW.pt (pw_or (pt_cmpR (op_neD hr.units) (pe_fld (pv 0) rfl) (pe_fld (pv 1) rfl) (nomark _)) (pw_or (pt_cmpR (op_neD hr.units) (pe_fld (pv 0) rfl) (pe_fld (pv 1) rfl) (nomark _)) (pw_or1 (pt_cmpR (op_ne_dictA hu0) (pe_fld (pv 0) rfl) (pe_fld (pv 1) rfl) (nomark _)))))) (pss_one (ps_ret pe_bl)) pss_nil)
      (pss_cons (ps_if (PW.pt (pw_or (pt_cmpR op_ne (pe_fld (pv 0) rfl) (pe_fld (pv 1) rfl) (nomark _)) (pw_or (pt_cmpR op_ne (pe_fld (pv 0) rfl) (pe_fld (pv 1) rfl) (nomark _)) (pw_or1 (pt_cmpR op_ne (pe_fld (pv 0) rfl) (pe_fld (pv 1) rfl) (nomark _)))))) (pss_one (ps_ret pe_bl)) pss_nil)
      (pss_one (ps_ret (pe_cmpR op_eq (pe_fld (pv 0) rfl) (pe_fld (pv 1) rfl) (nomark _)))))), ?_⟩
  obtain ⟨a, b, R, rfl, ⟨dx, cl, ll, ol, cv, ls, r⟩, ⟨dx', cl', ll', ol', cv', ls', r'⟩, hq⟩ := hsp
  have e1 := r.ins
  have e1' := r'.ins
  have hls := sorted_eq r.perm r'.perm r.srt r'.srt
  subst hls
  walk_at "st"
  walk_at "rd"
  refine w_neD (.lst (sqL r.ecl) (dp_commits r.cm)) (.lst (sqL r'.ecl) (dp_commits r'.cm)) (shaped_commits _) ?_
  walk_at "rd"
  refine w_neD (.lst (sqL r.ell) (dpAll_ints _)) (.lst (sqL r'.ell) (dpAll_ints _)) (shaped_lints _) ?_
  walk_at "rd"
  have hok := outK_ok R
  refine ⟨ol, ol', _, _, rfl, rfl, r.eol, r'.eol, rfl, fun p hp => ⟨val_nodup hok.1 p hp, by obtain ⟨s, hs⟩ := hok.2 p hp; rw [hs]; rfl⟩, ?_⟩
  walk_at "rd"
  cases hsp : R.spread with
  | none =>
    dsimp only [oV]
    refine w_eqNN ?_
    exact hq
  | some sp =>
    dsimp only [oV]
    walk_at "rd"
    simpa using hq
end
/-! ### the law's own draws -/
theorem w_ixLs {K : PySem.W.Frag} {H : Hp} {Q : VK} {v : V} {p : Addr} {i : Int} {xs : List V} (h : SqL K H p xs) (e : atI xs i = some v) (k : Q v H) : rIxL K (.ref p) (.int i) H Q := ⟨p, xs, i, v, rfl, rfl, h, e, k⟩
theorem w_lenLs {K : PySem.W.Frag} {H : Hp} {Q : VK} {p : Addr} {xs : List V} (e : SqL K H p xs) (h : Q (.int xs.length) H) : rLenB K [.ref p] H Q := ⟨p, xs, rfl, .inl e, h⟩
def PoolAt (H : Hp) (p : Addr) : Prop := ∃ a b c : Int, H p = some (.lst [.int a, .int b, .int c])
section
variable {P : Program} {w : World} {K : PySem.W.Frag} {mg : Str → Option Value} {base : Heap}
def sp__law_pool (K : PySem.W.Frag) : Sp := fun vs H Q E => ∃ l k ns, vs = [.ref l, .int (k : Nat)] ∧ SqL K H l (List.map V.int ns) ∧ (∀ H' p, Same H H' → H p = none → PoolAt H' p → Q (.ref p) H')
theorem len__law_pool (K : PySem.W.Frag) : ∀ (vs : List V) (H : Hp) (Q : VK) (E : XK), sp__law_pool K vs H Q E → vs.length = 2 := by
  rintro vs H Q E ⟨_, _, _, rfl, _⟩
  rfl
theorem ok__law_pool (T : Txt K mg) : CallF P w K mg base 1 (He.ga K "_law_pool") ["_law_script", "_law_k"] (sp__law_pool K) := by
  obtain ⟨fd, F⟩ := T.d__law_pool
  refine ⟨fd, F.ok cs_law_pool (len__law_pool K) (fun cdv A outer s H vs Q E hr hsp => ?_), F.bindsN (fun _ _ _ _ _ _ us hl => match us, hl with | [_, _], _ => rfl), F.kp⟩
  have hu := hu_of hr
  have hu65 : (A.deeper (envOfC "_law_pool" (defScope s_law_pool) s.heap.objs.size (He.ga K "_law_pool") cdv)).units + 65 < cLine := by have := hr.un; omega
  have hu0 := hr.units0
  refine ⟨_, PSs.nox (pss_cons (ps_set (i := 2) cs_law_pool.nd rfl (Or.inl rfl) (pe_op op_add (pv 1) pe_int))
      (pss_cons (ps_if (pt_cmpR op_lt (pv 1) (pe_callB call_lenN (by rfl) T.f_len (by decide +kernel) (pa_cons (pv 0) pa_nil)) (nomark _)) (pss_one (ps_set (i := 2) cs_law_pool.nd rfl (Or.inl rfl) (pe_callTy call_intN (by rfl) T.f_int (by decide +kernel) (pa_cons (pe_ix ix_list (pv 0) (pv 1) (fun _ _ => rfl)) pa_nil)))) pss_nil)
      (pss_one (ps_ret (pe_lst (pa_cons (pe_callB (call_maxN rfl) (by rfl) T.f_max (by decide +kernel) (pa_cons pe_int (pa_cons (pe_op op_sub (pv 2) (pe_op op_pow pe_int pe_int)) pa_nil))) (pa_cons (pe_op op_mod (pe_callTy call_intN (by rfl) T.f_int (by decide +kernel) (pa_cons (pv 2) pa_nil)) pe_int) (pa_cons pe_int pa_nil)))))))), ?_⟩
  obtain ⟨l, k, ns, rfl, hl, hq⟩ := hsp
  walk_at "st"
  walk_at "rd"
  refine w_lenLs hl ?_
  walk_at "rd"
  refine w_ite (fun hlt => ?_) (fun hlt => ?_)
  · walk_at "rd"
    have hk : k < ns.length := by rw [List.length_map] at hlt; omega
    refine w_ixLs hl (at_nat (n := k) (x := .int (ns[k]'hk)) (by rw [List.getElem?_map, List.getElem?_eq_getElem hk]; rfl) rfl) ?_
    walk_at "rd"
    refine w_rI ⟨by decide, by decide, by decide⟩ ?_
    walk_at "rd"
    refine w_rI (by decide) ?_
    walk_at "rd"
    rename_i q H1 hn1 hs1 hq1 he1
    exact hq _ _ hs1 hn1 ⟨_, _, _, hq1⟩
  · walk_at "rd"
    refine w_rI ⟨by decide, by decide, by decide⟩ ?_
    walk_at "rd"
    refine w_rI (by decide) ?_
    walk_at "rd"
    rename_i q H1 hn1 hs1 hq1 he1
    exact hq _ _ hs1 hn1 ⟨_, _, _, hq1⟩
def sp__law_draw (K : PySem.W.Frag) : Sp := fun vs H Q E => ∃ p n, vs = [.ref p, .int n] ∧ PoolAt H p ∧ 1 ≤ n ∧ n ≤ 1000000 ∧ (∀ r H', 0 ≤ r → r < n → SameBut p H H' → PoolAt H' p → Q (.int r) H')
theorem len__law_draw (K : PySem.W.Frag) : ∀ (vs : List V) (H : Hp) (Q : VK) (E : XK), sp__law_draw K vs H Q E → vs.length = 2 := by
  rintro vs H Q E ⟨_, _, rfl, _⟩
  rfl
theorem ok__law_draw (T : Txt K mg) : CallF P w K mg base 1 (He.ga K "_law_draw") ["_law_pool_here", "_law_amount"] (sp__law_draw K) := by
  obtain ⟨fd, F⟩ := T.d__law_draw
  refine ⟨fd, F.ok cs_law_draw (len__law_draw K) (fun cdv A outer s H vs Q E hr hsp => ?_), F.bindsN (fun _ _ _ _ _ _ us hl => match us, hl with | [_, _], _ => rfl), F.kp⟩
  have hu := hu_of hr
  have hu65 : (A.deeper (envOfC "_law_draw" (defScope s_law_draw) s.heap.objs.size (He.ga K "_law_draw") cdv)).units + 65 < cLine := by have := hr.un; omega
  have hu0 := hr.units0
  refine ⟨_, PSs.nox (pss_cons (ps_if (pt_cmpR op_gt (pe_ix ix_list (pv 0) pe_int (fun _ _ => rfl)) pe_int (nomark _)) (pss_cons (ps_set (i := 2) cs_law_draw.nd rfl (Or.inl rfl) (pe_op op_mod (pe_callTy call_intN (by rfl) T.f_int (by decide +kernel) (pa_cons (pe_ix ix_list (pv 0) pe_int (fun _ _ => rfl)) pa_nil)) (pv 1)))
      (pss_cons (ps_asg (pe_op op_fdiv (pe_ix ix_list (pv 0) pe_int (fun _ _ => rfl)) (pv 1)) (pg_sub (pv 0) pe_int set_list))
      (pss_one (ps_ret (pv 2))))) pss_nil)
      (pss_cons (ps_asg (pe_op op_add (pe_ix ix_list (pv 0) pe_int (fun _ _ => rfl)) pe_int) (pg_sub (pv 0) pe_int set_list))
      (pss_cons (ps_set (i := 3) cs_law_draw.nd rfl (Or.inl rfl) (pe_op op_mod (pe_callTy call_intN (by rfl) T.f_int (by decide +kernel) (pa_cons (pe_op op_mul (pe_op op_add (pe_op op_add (pe_ix ix_list (pv 0) pe_int (fun _ _ => rfl)) (pe_op op_mul pe_int (pe_ix ix_list (pv 0) pe_int (fun _ _ => rfl)))) pe_int) pe_int) pa_nil)) pe_int))
      (pss_cons (ps_set (i := 3) cs_law_draw.nd rfl (Or.inl rfl) (pe_op op_mod (pe_callTy call_intN (by rfl) T.f_int (by decide +kernel) (pa_cons (pe_op op_mul (pv 3) (pe_op op_add (pe_op op_fdiv (pv 3) pe_int) pe_int)) pa_nil)) pe_int))
      (pss_cons (ps_set (i := 3) cs_law_draw.nd rfl (Or.inl rfl) (pe_op op_mod (pe_callTy call_intN (by rfl) T.f_int (by decide +kernel) (pa_cons (pe_op op_mul (pv 3) (pe_op op_add (pe_op op_fdiv (pv 3) pe_int) pe_int)) pa_nil)) pe_int))
      (pss_one (ps_ret (pe_op op_mod (pe_callTy call_intN (by rfl) T.f_int (by decide +kernel) (pa_cons (pv 3) pa_nil)) (pv 1))))))))), ?_⟩
  obtain ⟨p, n, rfl, ⟨a, b, c, ep⟩, h1, h2, hq⟩ := hsp
  have hn : 0 < n := by omega
  walk_at "st"
  walk_at "rd"
  refine w_ite (fun h0 => ?_) (fun h0 => ?_)
  · walk_at "rd"
    refine w_rI hn ?_
    walk_at "rd"
    refine w_rI ⟨hn, by omega⟩ ?_
    walk_at "rd"
    refine w_setL ep (n := 0) rfl ?_
    walk_at "rd"
    exact hq _ _ (Int.emod_nonneg _ (by omega)) (Int.emod_lt_of_pos _ hn) (SameBut.refl p H).put ⟨_, _, _, upd_same⟩
  · walk_at "rd"
    refine w_setL ep (n := 2) rfl ?_
    have e2 : upd H p (.lst ([V.int a, .int b, .int c].set 2 (.int (c + 1)))) p = some (.lst [.int a, .int b, .int (c + 1)]) := upd_same
    have sb2 : SameBut p H (upd H p (.lst ([V.int a, .int b, .int c].set 2 (.int (c + 1))))) := (SameBut.refl p H).put
    generalize upd H p (.lst ([V.int a, .int b, .int c].set 2 (.int (c + 1)))) = H2 at *
    walk_at "rd"
    refine w_rI (.inl ⟨by decide, by decide⟩) ?_
    walk_at "rd"
    refine w_rI (.inr ⟨by decide, by decide⟩) ?_
    walk_at "rd"
    refine w_rI (by decide) ?_
    walk_at "rd"
    refine w_rI ⟨by decide, by decide⟩ ?_
    walk_at "rd"
    have g1 := Int.emod_nonneg ((b + 7919 * (c + 1) + 1) * 48271) (show (2147483647 : Int) ≠ 0 by decide)
    have g2 := Int.emod_lt_of_pos ((b + 7919 * (c + 1) + 1) * 48271) (show (0 : Int) < 2147483647 by decide)
    refine w_rI (.inl ⟨by omega, by omega⟩) ?_
    walk_at "rd"
    refine w_rI (by decide) ?_
    generalize ((b + 7919 * (c + 1) + 1) * 48271) % 2147483647 = x1 at *
    have g3 := Int.emod_nonneg (x1 * (x1 / 1009 + 69621)) (show (2147483647 : Int) ≠ 0 by decide)
    have g4 := Int.emod_lt_of_pos (x1 * (x1 / 1009 + 69621)) (show (0 : Int) < 2147483647 by decide)
    walk_at "rd"
    refine w_rI ⟨by decide, by decide⟩ ?_
    walk_at "rd"
    refine w_rI (.inl ⟨by omega, by omega⟩) ?_
    walk_at "rd"
    refine w_rI (by decide) ?_
    walk_at "rd"
    refine w_rI hn ?_
    exact hq _ _ (Int.emod_nonneg _ (by omega)) (Int.emod_lt_of_pos _ hn) sb2 ⟨_, _, _, e2⟩
theorem letter_at : ∀ i : Fin 26, letters.cps.toList[i.1]? = some (97 + i.1) := by decide +kernel
theorem letter_ix {i : Int} (h0 : 0 ≤ i) (h1 : i < 26) : atI letters.cps.toList i = some (97 + i.toNat) ∧ (97 + i.toNat) ∈ letters.cps.toList := by
  have h := letter_at ⟨i.toNat, by omega⟩
  exact ⟨at_nat h (by show i = ((i.toNat : Nat) : Int); omega), List.mem_of_getElem? h⟩
theorem str_app (a b : Str) : (a ++ b).cps.toList = a.cps.toList ++ b.cps.toList := by
  show (a.cps ++ b.cps).toList = _
  simp
theorem str_len (a : Str) : a.length = a.cps.toList.length := by
  show a.cps.size = _
  simp
theorem str_ext {a b : Str} (h : a.cps.toList = b.cps.toList) : a = b := by
  cases a; cases b
  congr 1
  exact Array.toList_inj.mp h
/-- a word with one letter put in -/
def putIn (base : Str) (k : Nat) (i : Int) : Str := (cutS base none (some (k : Nat)) ++ ⟨#[97 + i.toNat]⟩) ++ cutS base (some (k : Nat)) none
theorem putIn_list {base : Str} {k : Nat} {i : Int} (hk : k ≤ base.length) : (putIn base k i).cps.toList = base.cps.toList.take k ++ (97 + i.toNat) :: base.cps.toList.drop k := by
  unfold putIn
  rw [str_app, str_app]
  unfold cutS
  rw [HT.sIx_nat, HT.sIx_none, HT.sIx_nat, HT.sIx_none]
  have h1 := str_len base
  have : min k base.length = k := by omega
  rw [this, h1]
  have h2 : (List.take (base.cps.size - k) (List.drop k base.cps.toList)) = List.drop k base.cps.toList := List.take_of_length_le (by rw [List.length_drop]; simp)
  simp [h2]
theorem putIn_ne {base : Str} {k : Nat} {i j : Int} (hk : k ≤ base.length) (h0 : 0 ≤ i) (h1 : 0 ≤ j) (h : i ≠ j) : putIn base k i ≠ putIn base k j := by
  intro e
  have := congrArg (fun s => s.cps.toList) e
  rw [putIn_list hk, putIn_list hk] at this
  have := List.append_cancel_left this
  injection this with h2 _
  omega
theorem putIn_ok {base : Str} {k : Nat} {i : Int} (hk : k ≤ base.length) (hl : base.length ≤ 7) (hb : ∀ c ∈ base.cps.toList, c ∈ letters.cps.toList) (h0 : 0 ≤ i) (h1 : i < 26) : NameOk (putIn base k i) := by
  have e := putIn_list (i := i) hk
  have hlen : (putIn base k i).length = base.length + 1 := by
    rw [str_len, e, List.length_append, List.length_cons, ← Nat.add_assoc, ← List.length_append, List.take_append_drop, ← str_len]
  refine ⟨by omega, by omega, fun c hc => ?_⟩
  rw [e] at hc
  rcases List.mem_append.mp hc with h | h
  · exact hb c (List.mem_of_mem_take h)
  · rcases List.mem_cons.mp h with rfl | h
    · exact (letter_ix h0 h1).2
    · exact hb c (List.mem_of_mem_drop h)
def sp__law_names (K : PySem.W.Frag) : Sp := fun vs H Q E => ∃ p, vs = [.ref p] ∧ PoolAt H p ∧ (∀ H' q n0 n1 n2, SameBut p H H' → PoolAt H' p → H q = none → H' q = some (.lst [.str n0, .str n1, .str n2]) → NameOk n0 → NameOk n1 → NameOk n2 → n0 ≠ n1 → Q (.ref q) H')
theorem len__law_names (K : PySem.W.Frag) : ∀ (vs : List V) (H : Hp) (Q : VK) (E : XK), sp__law_names K vs H Q E → vs.length = 1 := by
  rintro vs H Q E ⟨_, rfl, _⟩
  rfl
theorem ok__law_names (T : Txt K mg) : CallF P w K mg base 2 (He.ga K "_law_names") ["_law_pool_here"] (sp__law_names K) := by
  obtain ⟨fd, F⟩ := T.d__law_names
  obtain ⟨fd__law_draw, G__law_draw, b__law_draw, k__law_draw⟩ := ok__law_draw (P := P) (w := w) (base := base) T
  refine ⟨fd, F.ok cs_law_names (len__law_names K) (fun cdv A outer s H vs Q E hr hsp => ?_), F.bindsN (fun _ _ _ _ _ _ us hl => match us, hl with | [_], _ => rfl), F.kp⟩
  have hu := hu_of hr
  have hu65 : (A.deeper (envOfC "_law_names" (defScope s_law_names) s.heap.objs.size (He.ga K "_law_names") cdv)).units + 65 < cLine := by have := hr.un; omega
  have hu0 := hr.units0
  refine ⟨_, PSs.nox (pss_cons (ps_set (i := 1) cs_law_names.nd rfl (Or.inr rfl) pe_str)
      (pss_cons (ps_set (i := 2) cs_law_names.nd rfl (Or.inr rfl) pe_str)
      (pss_cons (ps_for PassesOwn.never rfl (pi_range1 (by rfl) T.f_range (pa_cons (pe_call G__law_draw (hr.mono (by decide)) (by rfl) T.g__law_draw k__law_draw b__law_draw .nil pass0 (pa_cons (pv 0) (pa_cons pe_int pa_nil))) pa_nil)) (pg_name (i := 3) cs_law_names.nd rfl (Or.inl rfl)) (pss_one (ps_set (i := 2) cs_law_names.nd rfl (Or.inr rfl) (pe_op op_addSN (pv 2) (pe_ix ix_str (pv 1) (pe_call G__law_draw (hr.mono (by decide)) (by rfl) T.g__law_draw k__law_draw b__law_draw .nil pass0 (pa_cons (pv 0) (pa_cons pe_int pa_nil))) (fun _ _ => rfl))))))
      (pss_cons (ps_set (i := 4) cs_law_names.nd rfl (Or.inr rfl) (pe_call G__law_draw (hr.mono (by decide)) (by rfl) T.g__law_draw k__law_draw b__law_draw .nil pass0 (pa_cons (pv 0) (pa_cons (pe_op op_add (pe_callB call_lenSN (by rfl) T.f_len (by decide +kernel) (pa_cons (pv 2) pa_nil)) pe_int) pa_nil))))
      (pss_cons (ps_set (i := 5) cs_law_names.nd rfl (Or.inl rfl) (pe_call G__law_draw (hr.mono (by decide)) (by rfl) T.g__law_draw k__law_draw b__law_draw .nil pass0 (pa_cons (pv 0) (pa_cons pe_int pa_nil))))
      (pss_cons (ps_set (i := 6) cs_law_names.nd rfl (Or.inl rfl) (pe_lst (pa_cons (pv 5) (pa_cons (pe_op op_mod (pe_callTy call_intN (by rfl) T.f_int (by decide +kernel) (pa_cons (pe_op op_add (pe_op op_add (pv 5) pe_int) (pe_call G__law_draw (hr.mono (by decide)) (by rfl) T.g__law_draw k__law_draw b__law_draw .nil pass0 (pa_cons (pv 0) (pa_cons pe_int pa_nil)))) pa_nil)) pe_int) (pa_cons (pe_op op_mod (pe_callTy call_intN (by rfl) T.f_int (by decide +kernel) (pa_cons (pe_op op_add (pe_op op_add (pv 5) pe_int) (pe_call G__law_draw (hr.mono (by decide)) (by rfl) T.g__law_draw k__law_draw b__law_draw .nil pass0 (pa_cons (pv 0) (pa_cons pe_int pa_nil)))) pa_nil)) pe_int) pa_nil)))))
      (pss_one (ps_ret (pe_lc (own := [("_law_sign", 7)]) rfl cs_law_names.nd (pi_list (pv 6)) (blkOk_by (own := [("_law_sign", 7)]) (N := ["_law_pool_here", "_law_letters", "_law_base", "_law_k", "_law_at", "_law_first", "_law_signs", "_law_sign"]) (sc := defScope s_law_names) (by decide +kernel)) (fun _ _ _ _ _ => (pg_name (i := 7) cs_law_names.nd rfl (Or.inl rfl))) (fun _ _ _ _ _ => pts_nil) (fun _ _ _ _ _ => (pe_op op_addSN (pe_op op_addSN (pe_slice sl_str (pv 2) po_none (po_some (pv 4))) (pe_ix ix_str (pv 1) (pv 7) (fun _ _ => rfl))) (pe_slice sl_str (pv 2) (po_some (pv 4)) po_none)))))))))))), ?_⟩
  obtain ⟨p, rfl, hp, hq⟩ := hsp
  walk_at "st"
  walk_at "rd"
  refine ⟨p, 8, rfl, hp, by decide, by decide, fun r1 H1 h1a h1b sb1 hp1 => ?_⟩
  walk_at "rd"
  refine w_gR1 (by omega) (by omega) ?_
  refine forR (fun i σ H' => ∃ base : Str, base.length = i ∧ (∀ c ∈ base.cps.toList, c ∈ letters.cps.toList) ∧ SameBut p H H' ∧ PoolAt H' p ∧ ∃ o3 o4 o5 o6 o7, σ = [some (.ref p), some (.str letters), some (.str base), o3, o4, o5, o6, o7]) ⟨"", rfl, fun c h => absurd (show c ∈ ([] : List Nat) from h) (by simp), sb1, hp1, none, none, none, none, none, rfl⟩ ?_ ?_
  · rintro i σ H2 hi ⟨base, hbl, hbc, sb2, hp2, o3, o4, o5, o6, o7, rfl⟩
    walk_at "rd"
    refine ⟨p, 26, rfl, hp2, by decide, by decide, fun r2 H3 h2a h2b sb3 hp3 => ?_⟩
    obtain ⟨hat, hmem⟩ := letter_ix h2a h2b
    refine ⟨letters, r2, _, rfl, rfl, by decide, hat, ?_⟩
    refine ⟨base, _, rfl, rfl, ?_, ?_⟩
    · rw [hbl]; exact small9 (by show i + 1 ≤ 1000; omega)
    walk_at "rd"
    refine ⟨_, ?_, ?_, sb2.trans sb3, hp3, _, _, _, _, _, rfl⟩
    · rw [str_len, str_app, List.length_append, ← str_len, hbl]; rfl
    · intro c hc
      rw [str_app] at hc
      rcases List.mem_append.mp hc with h | h
      · exact hbc c h
      · rw [List.mem_singleton.mp h]; exact hmem
  · rintro σ H2 ⟨base, hbl, hbc, sb2, hp2, o3, o4, o5, o6, o7, rfl⟩
    have hbl7 : base.length ≤ 7 := by omega
    have hbs : base.length ≤ sizeLine := small9 (by omega)
    walk_at "rd"
    refine ⟨p, (base.length : Nat) + 1, rfl, hp2, by omega, by omega, fun at_ H3 h3a h3b sb3 hp3 => ?_⟩
    walk_at "rd"
    refine ⟨p, 26, rfl, hp3, by decide, by decide, fun f1 H4 h4a h4b sb4 hp4 => ?_⟩
    walk_at "rd"
    refine ⟨p, 12, rfl, hp4, by decide, by decide, fun d1 H5 h5a h5b sb5 hp5 => ?_⟩
    walk_at "rd"
    refine w_rI (by decide) ?_
    walk_at "rd"
    refine ⟨p, 12, rfl, hp5, by decide, by decide, fun d2 H6 h6a h6b sb6 hp6 => ?_⟩
    walk_at "rd"
    refine w_rI (by decide) ?_
    walk_at "rd"
    rename_i q7 H7 hn7 hs7 hq7 he7
    obtain ⟨k, hk⟩ : ∃ k : Nat, at_ = (k : Int) := ⟨at_.toNat, by omega⟩
    subst hk
    have hkl : k ≤ base.length := by omega
    have sb06 : SameBut p H H6 := (((sb2.trans sb3).trans sb4).trans sb5).trans sb6
    obtain ⟨pa, pb, pc, ep⟩ := hp
    have hx2 : ∀ {G : Hp}, SameBut p H G → PoolAt G p → ∀ {q : Addr}, G q = none → H q = none := fun {G} sb hpG {q} hq0 => by
      obtain ⟨_, _, _, eG⟩ := hpG
      exact free_but sb eG hq0
    refine lcL0 (ys := [f1, (f1 + 1 + d1) % 26, (f1 + 14 + d2) % 26]) (val := V.int) (fun i => some (.str (putIn base k i))) hq7 (small1000 (Nat.le_of_ble_eq_true rfl)) ?_ ?_
    · intro y hy H8 hs8 NT NF hT hF
      have hy0 : 0 ≤ y ∧ y < 26 := by
        simp only [List.mem_cons, List.not_mem_nil, or_false] at hy
        rcases hy with rfl | rfl | rfl <;> omega
      obtain ⟨hat, hmem⟩ := letter_ix hy0.1 hy0.2
      refine w_name rfl ?_
      refine ⟨rfl, ?_⟩
      walk_at "rd"
      refine ⟨base, rfl, hbs, ?_⟩
      walk_at "rd"
      refine ⟨letters, y, _, rfl, rfl, by decide, hat, ?_⟩
      have hc1 : (cutS base none (some (k : Nat))).length ≤ 7 := by
        rw [str_len]
        unfold cutS
        simp only [List.length_take, List.length_drop]
        rw [HT.sIx_nat, HT.sIx_none]
        omega
      have hc2 : (cutS base (some (k : Nat)) none).length ≤ 7 := by
        rw [str_len]
        unfold cutS
        simp only [List.length_take, List.length_drop]
        rw [HT.sIx_nat, HT.sIx_none]
        omega
      have hc3 : (cutS base none (some (k : Nat)) ++ (⟨#[97 + y.toNat]⟩ : Str)).length ≤ 8 := by
        rw [str_len, str_app, List.length_append, ← str_len]
        show _ + 1 ≤ 8
        omega
      refine ⟨_, _, rfl, rfl, small9 (by show _ + 1 ≤ 1000; omega), ?_⟩
      walk_at "rd"
      refine ⟨base, rfl, hbs, ?_⟩
      refine ⟨_, _, rfl, rfl, small9 (by omega), ?_⟩
      exact hT _ rfl
    · walk_at "rd"
      rename_i q8 H8 hn8 hs8 hq8 he8
      have hs68 := hs7.trans hs8
      obtain ⟨a6, b6, c6, e6⟩ := id hp6
      have hm1 : 0 ≤ (f1 + 1 + d1) % 26 ∧ (f1 + 1 + d1) % 26 < 26 := by omega
      have hm2 : 0 ≤ (f1 + 14 + d2) % 26 ∧ (f1 + 14 + d2) % 26 < 26 := by omega
      refine hq H8 q8 _ _ _ (sb06.trans (SameBut.of hs68)) ⟨_, _, _, hs68 _ _ e6⟩ (hx2 sb06 hp6 (hs7.free hn8)) hq8 (putIn_ok hkl hbl7 hbc h4a h4b) (putIn_ok hkl hbl7 hbc hm1.1 hm1.2) (putIn_ok hkl hbl7 hbc hm2.1 hm2.2) (putIn_ne hkl h4a hm1.1 (by omega))
def SB2 (p b : Addr) (H H' : Hp) : Prop := ∀ x o, x ≠ p → x ≠ b → H x = some o → H' x = some o
theorem SB2.refl (p b : Addr) (H : Hp) : SB2 p b H H := fun _ _ _ _ h => h
theorem SB2.trans {p b : Addr} {H H1 H2 : Hp} (s : SB2 p b H H1) (t : SB2 p b H1 H2) : SB2 p b H H2 := fun x o n m h => t x o n m (s x o n m h)
theorem SB2.ofP {p b : Addr} {H H1 : Hp} (s : SameBut p H H1) : SB2 p b H H1 := fun x o n _ h => s x o n h
theorem SB2.ofB {p b : Addr} {H H1 : Hp} (s : SameBut b H H1) : SB2 p b H H1 := fun x o _ m h => s x o m h
theorem SB2.of {p b : Addr} {H H1 : Hp} (s : Same H H1) : SB2 p b H H1 := fun x o _ _ h => s x o h
def sp__law_simple (K : PySem.W.Frag) : Sp := fun vs H Q E => ∃ p bx q l c n0 n1 n2, vs = [.ref p, .ref bx, .ref q] ∧ p ≠ bx ∧ PoolAt H p ∧ H bx = some (.lst [.int l, .int c, .int 3]) ∧ 0 ≤ c ∧ c ≤ 3 ∧ H q = some (.lst [.str n0, .str n1, .str n2]) ∧ NameOk n0 ∧ NameOk n1 ∧
  (∀ H' v s, SB2 p bx H H' → PoolAt H' p → H' bx = some (.lst [.int l, .int (s.after c), .int 3]) → Ds H' v s → s.simple = true → (∀ d, s.fine d c) → Q v H')
theorem len__law_simple (K : PySem.W.Frag) : ∀ (vs : List V) (H : Hp) (Q : VK) (E : XK), sp__law_simple K vs H Q E → vs.length = 3 := by
  rintro vs H Q E ⟨_, _, _, _, _, _, _, _, rfl, _⟩
  rfl
theorem ok__law_simple (T : Txt K mg) : CallF P w K mg base 2 (He.ga K "_law_simple") ["_law_pool_here", "_law_box", "_law_names_here"] (sp__law_simple K) := by
  obtain ⟨fd, F⟩ := T.d__law_simple
  obtain ⟨fd__law_draw, G__law_draw, b__law_draw, k__law_draw⟩ := ok__law_draw (P := P) (w := w) (base := base) T
  refine ⟨fd, F.ok cs_law_simple (len__law_simple K) (fun cdv A outer s H vs Q E hr hsp => ?_), F.bindsN (fun _ _ _ _ _ _ us hl => match us, hl with | [_, _, _], _ => rfl), F.kp⟩
  have hu := hu_of hr
  have hu65 : (A.deeper (envOfC "_law_simple" (defScope s_law_simple) s.heap.objs.size (He.ga K "_law_simple") cdv)).units + 65 < cLine := by have := hr.un; omega
  have hu0 := hr.units0
  refine ⟨_, PSs.nox (pss_cons (ps_set (i := 3) cs_law_simple.nd rfl (Or.inl rfl) (pe_call G__law_draw (hr.mono (by decide)) (by rfl) T.g__law_draw k__law_draw b__law_draw .nil pass0 (pa_cons (pv 0) (pa_cons pe_int pa_nil))))
      (pss_cons (ps_if (PW.pt (pw_and (pt_cmpR op_lt (pv 3) pe_int (nomark _)) (pw_and1 (pt_cmpR op_lt (pe_ix ix_list (pv 1) pe_int (fun _ _ => rfl)) (pe_ix ix_list (pv 1) pe_int (fun _ _ => rfl)) (nomark _))))) (pss_cons (ps_asg (pe_op op_add (pe_ix ix_list (pv 1) pe_int (fun _ _ => rfl)) pe_int) (pg_sub (pv 1) pe_int set_list))
      (pss_one (ps_ret (pe_tup (pa_cons pe_str pa_nil))))) pss_nil)
      (pss_cons (ps_if (pt_cmpR op_eq (pv 3) pe_int (nomark _)) (pss_one (ps_ret (pe_tup (pa_cons pe_str (pa_cons (pe_ix ix_list (pv 2) (pe_call G__law_draw (hr.mono (by decide)) (by rfl) T.g__law_draw k__law_draw b__law_draw .nil pass0 (pa_cons (pv 0) (pa_cons pe_int pa_nil))) (fun _ _ => rfl)) pa_nil))))) pss_nil)
      (pss_cons (ps_if (pt_cmpR op_eq (pv 3) pe_int (nomark _)) (pss_one (ps_ret (pe_tup (pa_cons pe_str (pa_cons (pe_ix ix_list (pv 2) (pe_call G__law_draw (hr.mono (by decide)) (by rfl) T.g__law_draw k__law_draw b__law_draw .nil pass0 (pa_cons (pv 0) (pa_cons pe_int pa_nil))) (fun _ _ => rfl)) pa_nil))))) pss_nil)
      (pss_cons (ps_if (pt_cmpR op_eq (pv 3) pe_int (nomark _)) (pss_one (ps_ret (pe_tup (pa_cons pe_str pa_nil)))) pss_nil)
      (pss_cons (ps_asg pe_int (pg_sub (pv 1) pe_int set_list))
      (pss_cons (ps_if (pt_cmpR op_eq (pv 3) pe_int (nomark _)) (pss_one (ps_ret (pe_tup (pa_cons pe_str pa_nil)))) pss_nil)
      (pss_cons (ps_if (pt_cmpR op_eq (pv 3) pe_int (nomark _)) (pss_one (ps_ret (pe_tup (pa_cons pe_str pa_nil)))) pss_nil)
      (pss_one (ps_ret (pe_tup (pa_cons pe_str pa_nil)))))))))))), ?_⟩
  obtain ⟨p, bx, q, l, c, n0, n1, n2, rfl, hpb, hp, eb, hc0, hc3, eq, hn0, hn1, hq⟩ := hsp
  have hqp : q ≠ p := by obtain ⟨_, _, _, ep⟩ := hp; exact ne_of eq ep (fun z => nomatch z)
  have hqb : q ≠ bx := ne_of eq eb (fun z => nomatch z)
  walk_at "st"
  walk_at "rd"
  refine ⟨p, 13, rfl, hp, by decide, by decide, fun pk H1 h1a h1b sb1 hp1 => ?_⟩
  have eb1 := sb1 _ _ hpb.symm eb
  have eq1 := sb1 _ _ hqp eq
  have two : ∀ d : Int, 0 ≤ d → d < 2 → ∃ nm, atI [V.str n0, .str n1, .str n2] d = some (.str nm) ∧ NameOk nm := by
    intro d hd0 hd1
    rcases (by omega : d = 0 ∨ d = 1) with rfl | rfl
    · exact ⟨n0, rfl, hn0⟩
    · exact ⟨n1, rfl, hn1⟩
  walk_at "rd"
  refine w_ite (fun h5 => ?_) (fun h5 => ?_)
  · walk_at "rd"
    refine w_ite (fun hlt => ?_) (fun hlt => ?_)
    · walk_at "rd"
      refine w_setL eb1 (n := 1) rfl ?_
      have eb2 : upd H1 bx (.lst ([V.int l, .int c, .int 3].set 1 (.int (c + 1)))) bx = some (.lst [.int l, .int (c + 1), .int 3]) := upd_same
      have sb2 : SameBut bx H1 (upd H1 bx (.lst ([V.int l, .int c, .int 3].set 1 (.int (c + 1))))) := (SameBut.refl bx H1).put
      generalize upd H1 bx (.lst ([V.int l, .int c, .int 3].set 1 (.int (c + 1)))) = H2 at *
      walk_at "rd"
      rename_i v3 H3 hn3 hs3 ev3 he3
      obtain ⟨_, _, _, ep1⟩ := hp1
      exact hq _ _ .take (((SB2.ofP sb1).trans (SB2.ofB sb2)).trans (SB2.of hs3)) ⟨_, _, _, hs3 _ _ (sb2 _ _ hpb ep1)⟩ (hs3 _ _ eb2) (.one rfl ev3) rfl (fun d => by show c ≠ 3; omega)
    · walk_at "rd"
      refine w_setL eb1 (n := 1) rfl ?_
      have eb2 : upd H1 bx (.lst ([V.int l, .int c, .int 3].set 1 (.int 0))) bx = some (.lst [.int l, .int 0, .int 3]) := upd_same
      have sb2 : SameBut bx H1 (upd H1 bx (.lst ([V.int l, .int c, .int 3].set 1 (.int 0)))) := (SameBut.refl bx H1).put
      generalize upd H1 bx (.lst ([V.int l, .int c, .int 3].set 1 (.int 0))) = H2 at *
      obtain ⟨_, _, _, ep1⟩ := hp1
      have ep2 := sb2 _ _ hpb ep1
      walk_at "rd"
      rename_i v3 H3 hn3 hs3 ev3 he3
      exact hq _ _ .commit (((SB2.ofP sb1).trans (SB2.ofB sb2)).trans (SB2.of hs3)) ⟨_, _, _, hs3 _ _ ep2⟩ (hs3 _ _ eb2) (.one rfl ev3) rfl (fun d => trivial)
  · walk_at "rd"
    refine w_ite (fun h10 => ?_) (fun h10 => ?_)
    · walk_at "rd"
      refine ⟨p, 2, rfl, hp1, by decide, by decide, fun d H2 hd0 hd1 sb2 hp2 => ?_⟩
      have eq2 := sb2 _ _ hqp eq1
      have eb2 := sb2 _ _ hpb.symm eb1
      obtain ⟨nm, hat, hnm⟩ := two d hd0 hd1
      walk_at "rd"
      rename_i v3 H3 hn3 hs3 ev3 he3
      obtain ⟨_, _, _, ep2⟩ := hp2
      exact hq _ _ (.lock nm) (((SB2.ofP sb1).trans (SB2.ofP sb2)).trans (SB2.of hs3)) ⟨_, _, _, hs3 _ _ ep2⟩ (hs3 _ _ eb2) (.one rfl ev3) rfl (fun d => hnm)
    · walk_at "rd"
      refine w_ite (fun h11 => ?_) (fun h11 => ?_)
      · walk_at "rd"
        refine ⟨p, 2, rfl, hp1, by decide, by decide, fun d H2 hd0 hd1 sb2 hp2 => ?_⟩
        have eq2 := sb2 _ _ hqp eq1
        have eb2 := sb2 _ _ hpb.symm eb1
        obtain ⟨nm, hat, hnm⟩ := two d hd0 hd1
        walk_at "rd"
        rename_i v3 H3 hn3 hs3 ev3 he3
        obtain ⟨_, _, _, ep2⟩ := hp2
        exact hq _ _ (.unlock nm) (((SB2.ofP sb1).trans (SB2.ofP sb2)).trans (SB2.of hs3)) ⟨_, _, _, hs3 _ _ ep2⟩ (hs3 _ _ eb2) (.one rfl ev3) rfl (fun d => hnm)
      · walk_at "rd"
        refine w_ite (fun h9 => ?_) (fun h9 => ?_)
        · walk_at "rd"
          rename_i v3 H3 hn3 hs3 ev3 he3
          obtain ⟨_, _, _, ep1⟩ := hp1
          exact hq _ _ .drop ((SB2.ofP sb1).trans (SB2.of hs3)) ⟨_, _, _, hs3 _ _ ep1⟩ (hs3 _ _ eb1) (.one rfl ev3) rfl (fun d => trivial)
        · walk_at "rd"
          refine w_setL eb1 (n := 1) rfl ?_
          have eb2 : upd H1 bx (.lst ([V.int l, .int c, .int 3].set 1 (.int 0))) bx = some (.lst [.int l, .int 0, .int 3]) := upd_same
          have sb2 : SameBut bx H1 (upd H1 bx (.lst ([V.int l, .int c, .int 3].set 1 (.int 0)))) := (SameBut.refl bx H1).put
          generalize upd H1 bx (.lst ([V.int l, .int c, .int 3].set 1 (.int 0))) = H2 at *
          obtain ⟨_, _, _, ep1⟩ := hp1
          have ep2 := sb2 _ _ hpb ep1
          walk_at "rd"
          refine w_ite (fun h8 => ?_) (fun h8 => ?_)
          · walk_at "rd"
            rename_i v3 H3 hn3 hs3 ev3 he3
            exact hq _ _ .rollback (((SB2.ofP sb1).trans (SB2.ofB sb2)).trans (SB2.of hs3)) ⟨_, _, _, hs3 _ _ ep2⟩ (hs3 _ _ eb2) (.one rfl ev3) rfl (fun d => trivial)
          · walk_at "rd"
            refine w_ite (fun h12 => ?_) (fun h12 => ?_)
            · walk_at "rd"
              rename_i v3 H3 hn3 hs3 ev3 he3
              exact hq _ _ .leave (((SB2.ofP sb1).trans (SB2.ofB sb2)).trans (SB2.of hs3)) ⟨_, _, _, hs3 _ _ ep2⟩ (hs3 _ _ eb2) (.one rfl ev3) rfl (fun d => trivial)
            · walk_at "rd"
              rename_i v3 H3 hn3 hs3 ev3 he3
              exact hq _ _ .commit (((SB2.ofP sb1).trans (SB2.ofB sb2)).trans (SB2.of hs3)) ⟨_, _, _, hs3 _ _ ep2⟩ (hs3 _ _ eb2) (.one rfl ev3) rfl (fun d => trivial)
end
theorem SB2.tp {p b : Addr} {H H' : Hp} {o : HO} (s : SB2 p b H H') (hp : PoolAt H p) (hb : H b = some o) (ho : ∀ xs, o ≠ .tup xs) : Tp H H' := fun x xs h => by
  obtain ⟨_, _, _, ep⟩ := hp
  exact s x _ (ne_of h ep (fun z => nomatch z)) (ne_of h hb fun z => ho xs z.symm) h
theorem SB2.put {p b r : Addr} {H H' : Hp} {o : HO} (s : SB2 p b H H') (hr : H r = none) : SB2 p b H (upd H' r o) := fun x u n m h => by
  rw [upd_ne (ne_of_none h hr)]; exact s x u n m h
theorem SB2.putB {p b : Addr} {H H' : Hp} {o : HO} (s : SB2 p b H H') : SB2 p b H (upd H' b o) := fun x u n m h => by
  rw [upd_ne m]; exact s x u n m h
theorem Sm.after_ok {s : Sm} {c : Int} (h : s.simple = true) (f : s.fine 0 c) (h0 : 0 ≤ c) (h3 : c ≤ 3) : 0 ≤ s.after c ∧ s.after c ≤ 3 := by
  cases s with
  | take => have : c ≠ 3 := f; show 0 ≤ c + 1 ∧ c + 1 ≤ 3; omega
  | commit => show 0 ≤ (0 : Int) ∧ (0 : Int) ≤ 3; decide
  | rollback => show 0 ≤ (0 : Int) ∧ (0 : Int) ≤ 3; decide
  | leave => show 0 ≤ (0 : Int) ∧ (0 : Int) ≤ 3; decide
  | drop => exact ⟨h0, h3⟩
  | lock n => exact ⟨h0, h3⟩
  | unlock n => exact ⟨h0, h3⟩
  | choose y n => cases h
section
variable {P : Program} {w : World} {K : PySem.W.Frag} {mg : Str → Option Value} {base : Heap}
def sp_lb (K : PySem.W.Frag) : Nat → Sp
  | 0 => fun _ _ _ _ => False
  | j + 1 => fun vs H Q E => ∃ p bx q len d l c n0 n1 n2 n, vs = [.ref p, .ref bx, .ref q, .int len, .int d] ∧ p ≠ bx ∧ PoolAt H p ∧ H bx = some (.lst [.int l, .int c, .int 3]) ∧ 0 ≤ l ∧ ((n : Nat) : Int) + l ≤ 8 ∧ 0 ≤ c ∧ c ≤ 3 ∧ 0 ≤ len ∧ len ≤ 1000 ∧ H q = some (.lst [.str n0, .str n1, .str n2]) ∧ NameOk n0 ∧ NameOk n1 ∧ 0 ≤ d ∧ d ≤ 2 ∧ 2 ≤ d + j ∧
      (∀ H' v bvs ss c' n', SB2 p bx H H' → PoolAt H' p → ((n' : Nat) : Int) ≤ n + l → H' bx = some (.lst [.int (n + l - n'), .int c', .int 3]) → 0 ≤ c' → c' ≤ 3 → H' v = some (.tup bvs) → DsAll H' bvs ss → Vb d c n ss c' n' → (1 ≤ len → 0 < l → ss ≠ []) → Q (.ref v) H')
theorem len_lb (K : PySem.W.Frag) : ∀ (j : Nat) (vs : List V) (H : Hp) (Q : VK) (E : XK), sp_lb K j vs H Q E → vs.length = 5 := by
  intro j vs H Q E h
  cases j with
  | zero => exact h.elim
  | succ j => obtain ⟨_, _, _, _, _, _, _, _, _, _, _, rfl, _⟩ := h; rfl
theorem okd__law_branch (T : Txt K mg) : ∀ j : Nat, CallF P w K mg base (j + 2) (He.ga K "_law_branch") ["_law_pool_here", "_law_box", "_law_names_here", "_law_length", "_law_depth"] (sp_lb K j) := by
  intro j
  induction j with
  | zero =>
    obtain ⟨fd, F⟩ := T.d__law_branch
    exact ⟨fd, ⟨len_lb K 0, fun A outer s H args us vs Q E hr e0 hb r hsp => hsp.elim⟩, F.bindsN (fun _ _ _ _ _ _ us hl => match us, hl with | [_, _, _, _, _], _ => rfl), F.kp⟩
  | succ j ih =>
  obtain ⟨fd, F⟩ := T.d__law_branch
  obtain ⟨fd__law_branch, G__law_branch, b__law_branch, k__law_branch⟩ := ih
  obtain ⟨fd__law_draw, G__law_draw, b__law_draw, k__law_draw⟩ := ok__law_draw (P := P) (w := w) (base := base) T
  obtain ⟨fd__law_simple, G__law_simple, b__law_simple, k__law_simple⟩ := ok__law_simple (P := P) (w := w) (base := base) T
  refine ⟨fd, F.ok cs_law_branch (len_lb K (j + 1)) (fun cdv A outer s H vs Q E hr hsp => ?_), F.bindsN (fun _ _ _ _ _ _ us hl => match us, hl with | [_, _, _, _, _], _ => rfl), F.kp⟩
  have hu := hu_of hr
  have hu65 : (A.deeper (envOfC "_law_branch" (defScope s_law_branch) s.heap.objs.size (He.ga K "_law_branch") cdv)).units + 65 < cLine := by have := hr.un; omega
  have hu0 := hr.units0
  refine ⟨_, PSs.nox (pss_cons (ps_set (i := 5) cs_law_branch.nd rfl (Or.inl rfl) (pe_lst pa_nil))
      (pss_cons (ps_for PassesOwn.never rfl (pi_range1 (by rfl) T.f_range (pa_cons (pv 3) pa_nil)) (pg_name (i := 6) cs_law_branch.nd rfl (Or.inl rfl)) (pss_one (ps_if (pt_cmpR op_gt (pe_ix ix_list (pv 1) pe_int (fun _ _ => rfl)) pe_int (nomark _)) (pss_cons (ps_asg (pe_op op_sub (pe_ix ix_list (pv 1) pe_int (fun _ _ => rfl)) pe_int) (pg_sub (pv 1) pe_int set_list))
      (pss_one (ps_if (PW.pt (pw_and (pt_cmpR op_lt (pv 4) pe_int (nomark _)) (pw_and1 (pt_cmpR op_eq (pe_call G__law_draw (hr.mono (by omega)) (by rfl) T.g__law_draw k__law_draw b__law_draw .nil pass0 (pa_cons (pv 0) (pa_cons pe_int pa_nil))) pe_int (nomark _))))) (pss_cons (ps_set (i := 7) cs_law_branch.nd rfl (Or.inl rfl) (pe_ix ix_list (pv 1) pe_int (fun _ _ => rfl)))
      (pss_cons (ps_set (i := 8) cs_law_branch.nd rfl (Or.inl rfl) (pe_call G__law_branch (hr.mono (by omega)) (by rfl) T.g__law_branch k__law_branch b__law_branch .nil pass0 (pa_cons (pv 0) (pa_cons (pv 1) (pa_cons (pv 2) (pa_cons (pe_call G__law_draw (hr.mono (by omega)) (by rfl) T.g__law_draw k__law_draw b__law_draw .nil pass0 (pa_cons (pv 0) (pa_cons pe_int pa_nil))) (pa_cons (pe_op op_add (pv 4) pe_int) pa_nil)))))))
      (pss_cons (ps_set (i := 9) cs_law_branch.nd rfl (Or.inl rfl) (pe_ix ix_list (pv 1) pe_int (fun _ _ => rfl)))
      (pss_cons (ps_asg (pv 7) (pg_sub (pv 1) pe_int set_list))
      (pss_cons (ps_set (i := 10) cs_law_branch.nd rfl (Or.inl rfl) (pe_call G__law_branch (hr.mono (by omega)) (by rfl) T.g__law_branch k__law_branch b__law_branch .nil pass0 (pa_cons (pv 0) (pa_cons (pv 1) (pa_cons (pv 2) (pa_cons (pe_call G__law_draw (hr.mono (by omega)) (by rfl) T.g__law_draw k__law_draw b__law_draw .nil pass0 (pa_cons (pv 0) (pa_cons pe_int pa_nil))) (pa_cons (pe_op op_add (pv 4) pe_int) pa_nil)))))))
      (pss_cons (ps_asg (pe_callB (call_maxN rfl) (by rfl) T.f_max (by decide +kernel) (pa_cons (pv 9) (pa_cons (pe_ix ix_list (pv 1) pe_int (fun _ _ => rfl)) pa_nil))) (pg_sub (pv 1) pe_int set_list))
      (pss_one (ps_expr (pe_bm PySem.F.plainAttrs_list PySem.F.slot_list_append PySem.F.type_list_append mt_append (pv 5) (pa_cons (pe_tup (pa_cons pe_str (pa_cons (pv 8) (pa_cons (pv 10) pa_nil)))) pa_nil)))))))))) (pss_one (ps_expr (pe_bm PySem.F.plainAttrs_list PySem.F.slot_list_append PySem.F.type_list_append mt_append (pv 5) (pa_cons (pe_call G__law_simple (hr.mono (by omega)) (by rfl) T.g__law_simple k__law_simple b__law_simple .nil pass0 (pa_cons (pv 0) (pa_cons (pv 1) (pa_cons (pv 2) pa_nil)))) pa_nil))))))) pss_nil)))
      (pss_one (ps_ret (pe_callTy call_tupN (by rfl) T.f_tuple (by decide +kernel) (pa_cons (pv 5) pa_nil)))))), ?_⟩
  obtain ⟨p, bx, q, len, d, l, c, n0, n1, n2, n, rfl, hpb, hp, eb, hl0, hnl, hc0, hc3, hln0, hln, eq, hn0, hn1, hd0, hd2, hdj, hq⟩ := hsp
  have hqp : q ≠ p := by obtain ⟨_, _, _, ep⟩ := hp; exact ne_of eq ep (fun z => nomatch z)
  have hqb : q ≠ bx := ne_of eq eb (fun z => nomatch z)
  walk_at "st"
  walk_at "rd"
  rename_i r H1 hr0 hs1 er he1
  refine w_gR1 (by omega) (by omega) ?_
  have hrp : r ≠ p := by rintro rfl; obtain ⟨_, _, _, ep⟩ := hp; rw [ep] at hr0; cases hr0
  have hrb : r ≠ bx := by rintro rfl; rw [eb] at hr0; cases hr0
  obtain ⟨lenN, hlenN⟩ : ∃ k : Nat, len = (k : Int) := ⟨len.toNat, by omega⟩
  subst hlenN
  refine forR (fun i σ H' => ∃ c1 nn ss1 vs1 o6 o7 o8 o9 o10, SB2 p bx H H' ∧ PoolAt H' p ∧ n ≤ nn ∧ (nn : Int) ≤ n + l ∧ H' bx = some (.lst [.int (n + l - nn), .int c1, .int 3]) ∧ (0 ≤ c1 ∧ c1 ≤ 3) ∧ H' r = some (.lst vs1) ∧ DsAll H' vs1 ss1 ∧
      (∀ rest c' n', Vb d c1 nn rest c' n' → Vb d c n (ss1 ++ rest) c' n') ∧ vs1.length ≤ i ∧ (0 < i → 0 < l → n < nn) ∧ σ = [some (.ref p), some (.ref bx), some (.ref q), some (.int (lenN : Int)), some (.int d), some (.ref r), o6, o7, o8, o9, o10])
    ⟨c, n, [], [], none, none, none, none, none, SB2.of hs1, by obtain ⟨x1, x2, x3, e⟩ := hp; exact ⟨x1, x2, x3, hs1 _ _ e⟩, Nat.le_refl _, by omega, by rw [hs1 _ _ eb]; congr 4; omega, ⟨hc0, hc3⟩, er, .nil, fun rest c' n' h => h, by simp, fun h => absurd h (by decide), rfl⟩ ?_ ?_
  · rintro i σ H2 hi ⟨c1, nn, ss1, vs1, o6, o7, o8, o9, o10, sb2, hp2, hnn, hnl2, eb2, ⟨hc1, hc13⟩, er2, ds2, hpre, hvl, hpos, rfl⟩
    have hi1 : i < 1000 := by omega
    walk_at "rd"
    refine w_ite (fun h0 => ?_) (fun h0 => ?_)
    · walk_at "rd"
      refine w_setL eb2 (n := 0) rfl ?_
      have hcast : (n : Int) + l - nn - 1 = n + l - ((nn + 1 : Nat) : Int) := by omega
      have sb3 : SB2 p bx H (upd H2 bx (.lst ([V.int (n + l - nn), .int c1, .int 3].set 0 (.int (n + l - nn - 1))))) := sb2.putB
      have eb3 : upd H2 bx (.lst ([V.int (n + l - nn), .int c1, .int 3].set 0 (.int (n + l - nn - 1)))) bx = some (.lst [.int (n + l - nn - 1), .int c1, .int 3]) := upd_same
      have er3 : upd H2 bx (.lst ([V.int (n + l - nn), .int c1, .int 3].set 0 (.int (n + l - nn - 1)))) r = some (.lst vs1) := by rw [upd_ne hrb]; exact er2
      have hp3 : PoolAt (upd H2 bx (.lst ([V.int (n + l - nn), .int c1, .int 3].set 0 (.int (n + l - nn - 1))))) p := by obtain ⟨x1, x2, x3, e⟩ := hp2; exact ⟨x1, x2, x3, by rw [upd_ne hpb]; exact e⟩
      have ds3 := ds2.mono (tp_put (o' := .lst ([V.int (n + l - nn), .int c1, .int 3].set 0 (.int (n + l - nn - 1)))) (Tp.refl H2) eb2 (fun _ z => nomatch z))
      generalize upd H2 bx (.lst ([V.int (n + l - nn), .int c1, .int 3].set 0 (.int (n + l - nn - 1)))) = H3 at *
      walk_at "rd"
      refine w_ite (fun hd => ?_) (fun hd => ?_)
      · walk_at "rd"
        refine ⟨p, 5, rfl, hp3, by decide, by decide, fun r5 H4 h5a h5b sb4 hp4 => ?_⟩
        have sbX := sb3.trans (SB2.ofP sb4)
        have hpX := hp4
        have ebX := sb4 _ _ hpb.symm eb3
        have eqX := sbX _ _ hqp hqb eq
        have erX := sb4 _ _ hrp er3
        obtain ⟨y1, y2, y3, ep3⟩ := id hp3
        have dsX := ds3.mono (sb4.tp ep3 (fun _ z => nomatch z))
        walk_at "rd"
        refine w_ite (fun hr5 => ?_) (fun hr5 => ?_)
        · walk_at "rd"
          cases j with
          | zero => exact absurd hdj (by simp; omega)
          | succ j =>
          refine ⟨p, 3, rfl, hpX, by decide, by decide, fun r6 H5 h6a h6b sb5 hp5 => ?_⟩
          have sb05 := sbX.trans (SB2.ofP sb5)
          have eb5 := sb5 _ _ hpb.symm ebX
          have er5 := sb5 _ _ hrp erX
          have eq5 := sb05 _ _ hqp hqb eq
          obtain ⟨z1, z2, z3, epX⟩ := id hpX
          have ds5 := dsX.mono (sb5.tp epX (fun _ z => nomatch z))
          walk_at "rd"
          refine ⟨p, bx, q, r6, d + 1, _, c1, n0, n1, n2, nn + 1, rfl, hpb, hp5, eb5, by omega, by omega, hc1, hc13, h6a, by omega, eq5, hn0, hn1, by omega, by omega, by omega, fun H6 v1 bvs1 y cY nY sb6 hp6 hnY eb6 hcY0 hcY3 ev1 dsY vbY _ => ?_⟩
          have tp6 := sb6.tp hp5 eb5 (fun _ z => nomatch z)
          have sb06 := sb05.trans sb6
          have er6 := sb6 _ _ hrp hrb er5
          have ds6 := ds5.mono tp6
          walk_at "rd"
          refine w_setL eb6 (n := 1) rfl ?_
          have sb7 : SameBut bx H6 (upd H6 bx (.lst ([V.int (((nn + 1 : Nat) : Int) + (n + l - nn - 1) - nY), .int cY, .int 3].set 1 (.int c1)))) := (SameBut.refl bx H6).put
          have eb7 : upd H6 bx (.lst ([V.int (((nn + 1 : Nat) : Int) + (n + l - nn - 1) - nY), .int cY, .int 3].set 1 (.int c1))) bx = some (.lst [.int (((nn + 1 : Nat) : Int) + (n + l - nn - 1) - nY), .int c1, .int 3]) := upd_same
          generalize upd H6 bx (.lst ([V.int (((nn + 1 : Nat) : Int) + (n + l - nn - 1) - nY), .int cY, .int 3].set 1 (.int c1))) = H7 at *
          have tp7 := sb7.tp eb6 (fun _ z => nomatch z)
          have sb07 := sb06.trans (SB2.ofB sb7)
          have er7 := sb7 _ _ hrb er6
          have hp7 : PoolAt H7 p := by obtain ⟨x1, x2, x3, e⟩ := hp6; exact ⟨x1, x2, x3, sb7 _ _ hpb e⟩
          walk_at "rd"
          refine ⟨p, 3, rfl, hp7, by decide, by decide, fun r8 H8 h8a h8b sb8 hp8 => ?_⟩
          have sb08 := sb07.trans (SB2.ofP sb8)
          have eb8 := sb8 _ _ hpb.symm eb7
          have er8 := sb8 _ _ hrp er7
          have eq8 := sb08 _ _ hqp hqb eq
          obtain ⟨u1, u2, u3, ep7⟩ := id hp7
          have tp8 := sb8.tp ep7 (fun _ z => nomatch z)
          walk_at "rd"
          refine ⟨p, bx, q, r8, d + 1, _, c1, n0, n1, n2, nY, rfl, hpb, hp8, eb8, by omega, by omega, hc1, hc13, h8a, by omega, eq8, hn0, hn1, by omega, by omega, by omega, fun H9 v2 bvs2 no cN nN sb9 hp9 hnN eb9 hcN0 hcN3 ev2 dsN vbN _ => ?_⟩
          have tp9 := sb9.tp hp8 eb8 (fun _ z => nomatch z)
          have sb09 := sb08.trans sb9
          have er9 := sb9 _ _ hrp hrb er8
          have tp69 := (tp7.trans tp8).trans tp9
          have ev1' := tp69 _ _ ev1
          have dsY' := dsY.mono tp69
          have ds9 := ds6.mono tp69
          walk_at "rd"
          refine w_setL eb9 (n := 1) rfl ?_
          have sb10 := SB2.putB (o := .lst ([V.int ((nY : Int) + (((nn + 1 : Nat) : Int) + (n + l - nn - 1) - nY) - nN), .int cN, .int 3].set 1 (.int (if cN > cY then cN else cY)))) sb09
          have eb10 : upd H9 bx (.lst ([V.int ((nY : Int) + (((nn + 1 : Nat) : Int) + (n + l - nn - 1) - nY) - nN), .int cN, .int 3].set 1 (.int (if cN > cY then cN else cY)))) bx = some (.lst [.int ((nY : Int) + (((nn + 1 : Nat) : Int) + (n + l - nn - 1) - nY) - nN), .int (if cN > cY then cN else cY), .int 3]) := upd_same
          have er10 : upd H9 bx (.lst ([V.int ((nY : Int) + (((nn + 1 : Nat) : Int) + (n + l - nn - 1) - nY) - nN), .int cN, .int 3].set 1 (.int (if cN > cY then cN else cY)))) r = some (.lst vs1) := by rw [upd_ne hrb]; exact er9
          have hp10 : PoolAt (upd H9 bx (.lst ([V.int ((nY : Int) + (((nn + 1 : Nat) : Int) + (n + l - nn - 1) - nY) - nN), .int cN, .int 3].set 1 (.int (if cN > cY then cN else cY))))) p := by obtain ⟨x1, x2, x3, e⟩ := hp9; exact ⟨x1, x2, x3, by rw [upd_ne hpb]; exact e⟩
          have tp10 := tp_put (o' := .lst ([V.int ((nY : Int) + (((nn + 1 : Nat) : Int) + (n + l - nn - 1) - nY) - nN), .int cN, .int 3].set 1 (.int (if cN > cY then cN else cY)))) (Tp.refl H9) eb9 (fun _ z => nomatch z)
          generalize upd H9 bx (.lst ([V.int ((nY : Int) + (((nn + 1 : Nat) : Int) + (n + l - nn - 1) - nY) - nN), .int cN, .int 3].set 1 (.int (if cN > cY then cN else cY)))) = H10 at *
          walk_at "rd"
          rename_i t11 H11 hn11 hs11 et11 he11
          have er11 := hs11 _ _ er10
          have tpF := tp_put (o' := .lst (vs1 ++ [.ref t11])) hs11.tp' er11 (fun _ z => nomatch z)
          have hcc : (nY : Int) + (((nn + 1 : Nat) : Int) + (n + l - nn - 1) - nY) - nN = n + l - (nN : Int) := by omega
          have hle1 := vbY.le
          have hle2 := vbN.le
          obtain ⟨w1, w2, w3, ep10⟩ := hp10
          refine ⟨(if cN > cY then cN else cY), nN, ss1 ++ [.choose y no], vs1 ++ [.ref t11], _, _, _, _, _, (sb10.trans (SB2.of hs11)).put hr0, ⟨w1, w2, w3, by rw [upd_ne hrp.symm]; exact hs11 _ _ ep10⟩, by omega, by omega, by rw [upd_ne hrb.symm, hs11 _ _ eb10, hcc], by split <;> omega, upd_same,
            (ds9.mono (tp10.trans tpF)).append (.cons (.choose ((tp_put (Tp.refl H11) er11 (fun _ z => nomatch z)) _ _ et11) (tpF _ _ (tp10 _ _ ev1')) (dsY'.mono (tp10.trans tpF)) (tpF _ _ (tp10 _ _ ev2)) (dsN.mono (tp10.trans tpF))) .nil), fun rest c' n' hv => ?_, by rw [List.length_append]; simp; omega, fun _ _ => by omega, rfl⟩
          rw [List.append_assoc]
          exact hpre _ _ _ (.choose (by omega) (by omega) vbY vbN hv)
        · walk_at "rd"
          refine ⟨p, bx, q, _, c1, n0, n1, n2, rfl, hpb, hpX, ebX, hc1, hc13, eqX, hn0, hn1, fun H5 v s sb5 hp5 eb5 ds5 hsim hfine => ?_⟩
          have er5 := sb5 _ _ hrp hrb erX
          have sbA := sbX.trans sb5
          have dsA := dsX.mono (sb5.tp hpX ebX (fun _ z => nomatch z))
          walk_at "rd"
          have tp6 := tp_put (o' := .lst (vs1 ++ [v])) (Tp.refl H5) er5 (fun _ z => nomatch z)
          obtain ⟨pa, pb, pc, ep5⟩ := hp5
          refine ⟨s.after c1, nn + 1, ss1 ++ [s], vs1 ++ [v], _, _, _, _, _, sbA.put hr0, ⟨pa, pb, pc, by rw [upd_ne hrp.symm]; exact ep5⟩, by omega, by omega, by rw [upd_ne hrb.symm, eb5, hcast], Sm.after_ok hsim (hfine 0) hc1 hc13, upd_same, (dsA.mono tp6).append (.cons (ds5.mono tp6) .nil), fun rest c' n' hv => ?_, by rw [List.length_append]; simp; omega, fun _ _ => by omega, rfl⟩
          rw [List.append_assoc]
          exact hpre _ _ _ (.one hsim (by omega) (hfine d) hv)
      · have sbX := sb3
        have hpX := hp3
        have ebX := eb3
        have eqX := sbX _ _ hqp hqb eq
        have erX := er3
        have dsX := ds3
        walk_at "rd"
        refine ⟨p, bx, q, _, c1, n0, n1, n2, rfl, hpb, hpX, ebX, hc1, hc13, eqX, hn0, hn1, fun H4 v s sb4 hp4 eb4 ds4 hsim hfine => ?_⟩
        have er4 := sb4 _ _ hrp hrb erX
        have sbA := sbX.trans sb4
        have dsA := dsX.mono (sb4.tp hpX ebX (fun _ z => nomatch z))
        walk_at "rd"
        have tp5 := tp_put (o' := .lst (vs1 ++ [v])) (Tp.refl H4) er4 (fun _ z => nomatch z)
        obtain ⟨pa, pb, pc, ep4⟩ := hp4
        refine ⟨s.after c1, nn + 1, ss1 ++ [s], vs1 ++ [v], _, _, _, _, _, sbA.put hr0, ⟨pa, pb, pc, by rw [upd_ne hrp.symm]; exact ep4⟩, by omega, by omega, by rw [upd_ne hrb.symm, eb4, hcast], Sm.after_ok hsim (hfine 0) hc1 hc13, upd_same, (dsA.mono tp5).append (.cons (ds4.mono tp5) .nil), fun rest c' n' hv => ?_, by rw [List.length_append]; simp; omega, fun _ _ => by omega, rfl⟩
        rw [List.append_assoc]
        exact hpre _ _ _ (.one hsim (by omega) (hfine d) hv)
    · walk_at "rd"
      exact ⟨c1, nn, ss1, vs1, _, o7, o8, o9, o10, sb2, hp2, hnn, hnl2, eb2, ⟨hc1, hc13⟩, er2, ds2, hpre, by omega, fun _ _ => by omega, rfl⟩
  · rintro σ H2 ⟨c1, nn, ss1, vs1, o6, o7, o8, o9, o10, sb2, hp2, hnn, hnl2, eb2, ⟨hc1, hc13⟩, er2, ds2, hpre, hvl, hpos, rfl⟩
    walk_at "rd"
    rename_i v3 H3 hn3 hs3 ev3 he3
    obtain ⟨x1, x2, x3, ep2⟩ := hp2
    have := hpre [] _ _ .nil
    rw [List.append_nil] at this
    exact hq _ _ _ _ _ nn (sb2.trans (SB2.of hs3)) ⟨x1, x2, x3, hs3 _ _ ep2⟩ hnl2 (hs3 _ _ eb2) hc1 hc13 ev3 (ds2.mono hs3.tp') this (fun g1 g2 e => by
      have h1 := hpos (by omega) g2
      rw [e] at this
      cases this
      omega)
def sp__law_branch (K : PySem.W.Frag) : Sp := sp_lb K 3
theorem ok__law_branch (T : Txt K mg) : CallF P w K mg base 6 (He.ga K "_law_branch") ["_law_pool_here", "_law_box", "_law_names_here", "_law_length", "_law_depth"] (sp__law_branch K) := by
  obtain ⟨fd, G, b, k⟩ := okd__law_branch (P := P) (w := w) (base := base) T 3
  exact ⟨fd, G.mono (by omega), b, k⟩
end
structure Row where
  name : Str
  ss : List Sm
  block : Int
  many : Int
def RowIn (H : Hp) (a : Addr) (r : Row) : Prop := ∃ br bvs, H a = some (.tup [.str r.name, .ref br, .int r.block, .int r.many]) ∧ H br = some (.tup bvs) ∧ DsAll H bvs r.ss
theorem RowIn.mono {H H' : Hp} {a : Addr} {r : Row} (t : Tp H H') : RowIn H a r → RowIn H' a r := fun ⟨b, v, h1, h2, h3⟩ => ⟨b, v, t _ _ h1, t _ _ h2, h3.mono t⟩
structure RowOk (cap : Int) (r : Row) : Prop where
  nm : NameOk r.name
  b : 1 ≤ r.block ∧ r.block ≤ 3
  m : 1 ≤ r.many ∧ r.many ≤ 2
  ne : r.ss ≠ []
  v : ∃ c' n', Vb 0 0 0 r.ss c' n' ∧ ((n' : Nat) : Int) ≤ cap
/-- what the law builds -/
structure BuiltOk (cap : Int) (rs : List Row) : Prop where
  len : rs.length = 1 ∨ rs.length = 2
  ok : ∀ r ∈ rs, RowOk cap r
  nd : (rs.map (·.name)).Nodup
  tot : (rs.map (·.many)).sum ≤ 3
  big : 4 < cap → (rs.map (·.many)).sum ≤ 2
section
variable {P : Program} {w : World} {K : PySem.W.Frag} {mg : Str → Option Value} {base : Heap}
def sp__law_build (K : PySem.W.Frag) : Sp := fun vs H Q E => ∃ p cap, vs = [.ref p, .int cap] ∧ PoolAt H p ∧ (cap = 4 ∨ cap = 8) ∧
  (∀ H' b rl rs (as : List Addr) ahead span crashes, SameBut p H H' → PoolAt H' p → H b = none → H rl = none → b ≠ rl → H' b = some (.lst [.ref rl, .int ahead, oV span, .int crashes]) → H' rl = some (.lst (as.map V.ref)) → as.length = rs.length → (∀ q ∈ as.zip rs, RowIn H' q.1 q.2) → BuiltOk cap rs → 0 ≤ ahead → ahead ≤ 4 → 0 ≤ crashes → crashes ≤ 2 → (∀ s, span = some s → 3 ≤ s ∧ s ≤ 8) → Q (.ref b) H')
theorem len__law_build (K : PySem.W.Frag) : ∀ (vs : List V) (H : Hp) (Q : VK) (E : XK), sp__law_build K vs H Q E → vs.length = 2 := by
  rintro vs H Q E ⟨_, _, rfl, _⟩
  rfl
theorem ok__law_build (T : Txt K mg) : CallF P w K mg base 7 (He.ga K "_law_build") ["_law_pool_here", "_law_cap"] (sp__law_build K) := by
  obtain ⟨fd, F⟩ := T.d__law_build
  obtain ⟨fd__law_draw, G__law_draw, b__law_draw, k__law_draw⟩ := ok__law_draw (P := P) (w := w) (base := base) T
  obtain ⟨fd__law_branch, G__law_branch, b__law_branch, k__law_branch⟩ := ok__law_branch (P := P) (w := w) (base := base) T
  obtain ⟨fd__law_names, G__law_names, b__law_names, k__law_names⟩ := ok__law_names (P := P) (w := w) (base := base) T
  refine ⟨fd, F.ok cs_law_build (len__law_build K) (fun cdv A outer s H vs Q E hr hsp => ?_), F.bindsN (fun _ _ _ _ _ _ us hl => match us, hl with | [_, _], _ => rfl), F.kp⟩
  have hu := hu_of hr
  have hu65 : (A.deeper (envOfC "_law_build" (defScope s_law_build) s.heap.objs.size (He.ga K "_law_build") cdv)).units + 65 < cLine := by have := hr.un; omega
  have hu0 := hr.units0
  refine ⟨_, PSs.nox (pss_cons (ps_set (i := 2) cs_law_build.nd rfl (Or.inl rfl) (pe_call G__law_names (hr.mono (by decide)) (by rfl) T.g__law_names k__law_names b__law_names .nil pass0 (pa_cons (pv 0) pa_nil)))
      (pss_cons (ps_set (i := 3) cs_law_build.nd rfl (Or.inl rfl) (pe_lst pa_nil))
      (pss_cons (ps_for PassesOwn.never rfl (pi_range1 (by rfl) T.f_range (pa_cons (pe_op op_add pe_int (pe_callTy call_intN (by rfl) T.f_int (by decide +kernel) (pa_cons (pe_cmpR op_gt (pe_call G__law_draw (hr.mono (by decide)) (by rfl) T.g__law_draw k__law_draw b__law_draw .nil pass0 (pa_cons (pv 0) (pa_cons pe_int pa_nil))) pe_int (nomark _)) pa_nil))) pa_nil)) (pg_name (i := 4) cs_law_build.nd rfl (Or.inl rfl)) (pss_cons (ps_set (i := 5) cs_law_build.nd rfl (Or.inl rfl) (pe_ix ix_list (pe_lst (pa_cons (pe_tup pa_nil) (pa_cons (pe_tup (pa_cons (pe_tup (pa_cons pe_str pa_nil)) pa_nil)) pa_nil))) (pe_callTy call_intN (by rfl) T.f_int (by decide +kernel) (pa_cons (pe_cmpR op_gt (pe_call G__law_draw (hr.mono (by decide)) (by rfl) T.g__law_draw k__law_draw b__law_draw .nil pass0 (pa_cons (pv 0) (pa_cons pe_int pa_nil))) pe_int (nomark _)) pa_nil)) (fun _ _ => rfl)))
      (pss_cons (ps_set (i := 6) cs_law_build.nd rfl (Or.inl rfl) (pe_lst (pa_cons (pe_op op_sub (pv 1) (pe_callB call_lenN (by rfl) T.f_len (by decide +kernel) (pa_cons (pv 5) pa_nil))) (pa_cons (pe_callB call_lenN (by rfl) T.f_len (by decide +kernel) (pa_cons (pv 5) pa_nil)) (pa_cons pe_int pa_nil)))))
      (pss_cons (ps_set (i := 7) cs_law_build.nd rfl (Or.inl rfl) (pe_op op_catA (pv 5) (pe_call G__law_branch (hr.mono (by decide)) (by rfl) T.g__law_branch k__law_branch b__law_branch .nil pass0 (pa_cons (pv 0) (pa_cons (pv 6) (pa_cons (pv 2) (pa_cons (pe_op op_add pe_int (pe_call G__law_draw (hr.mono (by decide)) (by rfl) T.g__law_draw k__law_draw b__law_draw .nil pass0 (pa_cons (pv 0) (pa_cons (pe_op op_sub (pv 1) (pe_callB call_lenN (by rfl) T.f_len (by decide +kernel) (pa_cons (pv 5) pa_nil))) pa_nil)))) (pa_cons pe_int pa_nil))))))))
      (pss_one (ps_expr (pe_bm PySem.F.plainAttrs_list PySem.F.slot_list_append PySem.F.type_list_append mt_append (pv 3) (pa_cons (pe_tup (pa_cons (pe_ix ix_list (pv 2) (pv 4) (fun _ _ => rfl)) (pa_cons (pv 7) (pa_cons (pe_op op_add pe_int (pe_call G__law_draw (hr.mono (by decide)) (by rfl) T.g__law_draw k__law_draw b__law_draw .nil pass0 (pa_cons (pv 0) (pa_cons pe_int pa_nil)))) (pa_cons (pe_op op_add pe_int (pe_callTy call_intN (by rfl) T.f_int (by decide +kernel) (pa_cons (pe_cmpR op_eq (pe_call G__law_draw (hr.mono (by decide)) (by rfl) T.g__law_draw k__law_draw b__law_draw .nil pass0 (pa_cons (pv 0) (pa_cons pe_int pa_nil))) pe_int (nomark _)) pa_nil))) pa_nil))))) pa_nil))))))))
      (Evl.pss_cut (ps_if (PW.pt (pw_and (pt_cmpR op_eq (pe_callB call_lenN (by rfl) T.f_len (by decide +kernel) (pa_cons (pv 3) pa_nil)) pe_int (nomark _)) (pw_and1 (PW.pt (pw_or (pt_cmpR op_eq (pe_ix ix_tup (pe_ix ix_list (pv 3) pe_int (fun _ _ => rfl)) pe_int (fun _ _ => rfl)) pe_int (nomark _)) (pw_or1 (pt_cmpR op_gt (pv 1) pe_int (nomark _)))))))) (pss_one (ps_asg (pe_op op_catA (pe_slice sl_tupA (pe_ix ix_list (pv 3) pe_int (fun _ _ => rfl)) po_none (po_some pe_int)) (pe_tup (pa_cons pe_int pa_nil))) (pg_sub (pv 3) pe_int set_list))) pss_nil)
      (Evl.pss_cut (ps_if (PW.pt (pw_and (pt_cmpR op_eq (pe_callB call_lenN (by rfl) T.f_len (by decide +kernel) (pa_cons (pv 3) pa_nil)) pe_int (nomark _)) (pw_and1 (pt_cmpR op_gt (pv 1) pe_int (nomark _))))) (pss_one (ps_asg (pe_op op_catA (pe_slice sl_tupA (pe_ix ix_list (pv 3) pe_int (fun _ _ => rfl)) po_none (po_some pe_int)) (pe_tup (pa_cons pe_int pa_nil))) (pg_sub (pv 3) pe_int set_list))) pss_nil)
      (pss_cons (ps_set (i := 8) cs_law_build.nd rfl (Or.inl rfl) (pe_ix ix_list (pe_lst (pa_cons pe_non (pa_cons (pe_op op_add pe_int (pe_call G__law_draw (hr.mono (by decide)) (by rfl) T.g__law_draw k__law_draw b__law_draw .nil pass0 (pa_cons (pv 0) (pa_cons pe_int pa_nil)))) pa_nil))) (pe_call G__law_draw (hr.mono (by decide)) (by rfl) T.g__law_draw k__law_draw b__law_draw .nil pass0 (pa_cons (pv 0) (pa_cons pe_int pa_nil))) (fun _ _ => rfl)))
      (pss_one (ps_ret (pe_lst (pa_cons (pv 3) (pa_cons (pe_call G__law_draw (hr.mono (by decide)) (by rfl) T.g__law_draw k__law_draw b__law_draw .nil pass0 (pa_cons (pv 0) (pa_cons pe_int pa_nil))) (pa_cons (pv 8) (pa_cons (pe_call G__law_draw (hr.mono (by decide)) (by rfl) T.g__law_draw k__law_draw b__law_draw .nil pass0 (pa_cons (pv 0) (pa_cons pe_int pa_nil))) pa_nil))))))))))))), ?_⟩
  obtain ⟨p, cap, rfl, hp, hcap, hq⟩ := hsp
  walk_at "st"
  walk_at "rd"
  refine ⟨p, rfl, hp, fun H1 q n0 n1 n2 sb1 hp1 hqn eq hn0 hn1 hn2 hnd => ?_⟩
  have hqp : q ≠ p := by obtain ⟨_, _, _, ep⟩ := hp1; exact ne_of eq ep (fun z => nomatch z)
  walk_at "rd"
  rename_i rl H2 hrn2 hs2 erl he2
  obtain ⟨x1, x2, x3, ep1⟩ := id hp1
  have hp2 : PoolAt H2 p := ⟨_, _, _, hs2 _ _ ep1⟩
  refine ⟨p, 5, rfl, hp2, by decide, by decide, fun r1 H3 h1a h1b sb3 hp3 => ?_⟩
  walk_at "rd"
  have hn12 : ((1 + (if decide (0 < r1) = true then 1 else 0)) : Int) = 1 ∨ ((1 + (if decide (0 < r1) = true then 1 else 0)) : Int) = 2 := by split <;> omega
  generalize ((1 + (if decide (0 < r1) = true then 1 else 0)) : Int) = rows at *
  refine w_gR1 (by omega) (by omega) ?_
  have hrlp : rl ≠ p := by rintro rfl; rw [ep1] at hrn2; cases hrn2
  have hqrl : q ≠ rl := by rintro rfl; rw [eq] at hrn2; cases hrn2
  have eq3 := sb3 _ _ hqp (hs2 _ _ eq)
  have sb03 : SameBut p H H3 := (sb1.trans (SameBut.of hs2)).trans sb3
  have hrl0 : H rl = none := by
    obtain ⟨_, _, _, e⟩ := hp1
    exact free_but sb1 e hrn2
  refine forR (fun i σ H' => ∃ (as : List Addr) (rs : List Row) (o4 o5 o6 o7 o8 : Option V), SameBut p H H' ∧ PoolAt H' p ∧ H' q = some (.lst [.str n0, .str n1, .str n2]) ∧ H' rl = some (.lst (as.map V.ref)) ∧ as.length = i ∧ rs.map (·.name) = [n0, n1].take i ∧ (∀ q ∈ as.zip rs, RowIn H' q.1 q.2) ∧ (∀ r ∈ rs, RowOk cap r) ∧
      σ = [some (.ref p), some (.int cap), some (.ref q), some (.ref rl), o4, o5, o6, o7, o8]) ⟨[], [], none, none, none, none, none, sb03, hp3, eq3, sb3 _ _ hrlp erl, rfl, rfl, by simp, by simp, rfl⟩ ?_ ?_
  · rintro i σ H4 hi ⟨as, rs, o4, o5, o6, o7, o8, sb4, hp4, eq4, erl4, has, hrn, hrow, hrok, rfl⟩
    have hi2 : i < 2 := by omega
    walk_at "rd"
    rename_i a1 G1 gn1 gs1 ga1 ge1 a2 G2 gn2 gs2 ga2 ge2 a3 G3 gn3 gs3 ga3 ge3 a4 G4 gn4 gs4 ga4 ge4
    have gs04 : Same H4 G4 := ((gs1.trans gs2).trans gs3).trans gs4
    obtain ⟨y1, y2, y3, ep4⟩ := id hp4
    have hpG : PoolAt G4 p := ⟨_, _, _, gs04 _ _ ep4⟩
    have ha4p : a4 ≠ p := by rintro rfl; rw [(gs1.trans (gs2.trans gs3)) _ _ ep4] at gn4; cases gn4
    refine ⟨p, 3, rfl, hpG, by decide, by decide, fun r3 G5 h3a h3b sb5 hp5 => ?_⟩
    have tpG5 : Tp H4 G5 := gs04.tp'.trans (sb5.tp (gs04 _ _ ep4) (fun _ z => nomatch z))
    have ga4' := sb5 _ _ ha4p ga4
    have tp4G : Tp G4 G5 := sb5.tp (gs04 _ _ ep4) (fun _ z => nomatch z)
    have ga3' := tp4G _ _ (gs4 _ _ ga3)
    have ga1' := tp4G _ _ ((gs2.trans (gs3.trans gs4)) _ _ ga1)
    have ga2' := tp4G _ _ ((gs3.trans gs4) _ _ ga2)
    have eq5 := sb5 _ _ hqp (gs04 _ _ eq4)
    have erl5 := sb5 _ _ hrlp (gs04 _ _ erl4)
    have sb45 : SameBut p H G5 := sb4.trans ((SameBut.of gs04).trans sb5)
    walk_at "rd"
    obtain ⟨hd, hvs, hss, hix, ehd, dhd, hcase⟩ : ∃ hd hvs hss, atI [V.ref a1, .ref a3] ((if decide (0 < r3) = true then 1 else 0) : Int) = some (.ref hd) ∧ G5 hd = some (.tup hvs) ∧ DsAll G5 hvs hss ∧ (hss = [] ∧ hvs.length = 0 ∨ hss = [Sm.take] ∧ hvs.length = 1) := by
      by_cases h0 : 0 < r3
      · rw [if_pos (by simp [h0])]
        exact ⟨a3, _, [.take], rfl, ga3', .cons (.one rfl ga2') .nil, .inr ⟨rfl, rfl⟩⟩
      · rw [if_neg (by simp [h0])]
        exact ⟨a1, _, [], rfl, ga1', .nil, .inl ⟨rfl, rfl⟩⟩
    walk_at "rd"
    rename_i bx G6 gn6 gs6 gb ge6
    obtain ⟨z1, z2, z3, ep5⟩ := id hp5
    have hpb : p ≠ bx := by rintro rfl; rw [ep5] at gn6; cases gn6
    have hrlb : rl ≠ bx := by rintro rfl; rw [erl5] at gn6; cases gn6
    have hqb : q ≠ bx := by rintro rfl; rw [eq5] at gn6; cases gn6
    have hbH : H bx = none := free_but sb45 ep5 gn6
    have hvl : (hvs.length : Int) = hss.length := by rw [dhd.length]
    have hk01 : hvs.length ≤ 1 := by omega
    refine ⟨p, cap - hvs.length, rfl, ⟨_, _, _, gs6 _ _ ep5⟩, by omega, by omega, fun r4 G7 h4a h4b sb7 hp7 => ?_⟩
    have gb7 := sb7 _ _ hpb.symm gb
    have eq7 := sb7 _ _ hqp (gs6 _ _ eq5)
    have erl7 := sb7 _ _ hrlp (gs6 _ _ erl5)
    have tp57 : Tp G5 G7 := gs6.tp'.trans (sb7.tp (gs6 _ _ ep5) (fun _ z => nomatch z))
    have ehd7 := tp57 _ _ ehd
    have dhd7 := dhd.mono tp57
    walk_at "rd"
    refine ⟨p, bx, q, _, 0, _, _, n0, n1, n2, hvs.length, rfl, hpb, hp7, gb7, by omega, by omega, by omega, by omega, by omega, by omega, eq7, hn0, hn1, by decide, by decide, by decide, fun G8 v8 bvs8 ss8 c8 n8 sb8 hp8 hn8 gb8 hc80 hc83 ev8 ds8 vb8 hne8 => ?_⟩
    have tp78 := sb8.tp hp7 gb7 (fun _ z => nomatch z)
    have ehd8 := tp78 _ _ ehd7
    have dhd8 := dhd7.mono tp78
    have eq8 := sb8 _ _ hqp hqb eq7
    have erl8 := sb8 _ _ hrlp hrlb erl7
    have hb8l := ds8.length
    have hl8 := vb8.len
    refine w_catA ehd8 ev8 (small9 (by omega)) fun v9 G9 gs9 ev9 => ?_
    have ds9 : DsAll G9 (hvs ++ bvs8) (hss ++ ss8) := (dhd8.append ds8).mono gs9.tp'
    have hat : atI [V.str n0, .str n1, .str n2] (0 + (i : Nat)) = some (.str (if i = 0 then n0 else n1)) := by
      rcases (by omega : i = 0 ∨ i = 1) with rfl | rfl <;> rfl
    have eq9 := gs9 _ _ eq8
    have erl9 := gs9 _ _ erl8
    obtain ⟨u1, u2, u3, ep8⟩ := id hp8
    have hp9 : PoolAt G9 p := ⟨_, _, _, gs9 _ _ ep8⟩
    walk_at "rd"
    refine ⟨p, 3, rfl, hp9, by decide, by decide, fun rb G10 h10a h10b sb10 hp10 => ?_⟩
    walk_at "rd"
    refine ⟨p, 4, rfl, hp10, by decide, by decide, fun rm G11 h11a h11b sb11 hp11 => ?_⟩
    have sb911 := sb10.trans sb11
    have eq11 := sb911 _ _ hqp eq9
    have erl11 := sb911 _ _ hrlp erl9
    walk_at "rd"
    rename_i tr G12 gn12 gs12 gt12 ge12
    have erl12 := gs12 _ _ erl11
    have tp911 : Tp G9 G11 := by
      obtain ⟨m1, m2, m3, e10⟩ := hp10
      exact (sb10.tp (gs9 _ _ ep8) (fun _ z => nomatch z)).trans (sb11.tp e10 (fun _ z => nomatch z))
    have tpE := tp_put (o' := .lst (as.map V.ref ++ [.ref tr])) gs12.tp' erl12 (fun _ z => nomatch z)
    have tpAll : Tp H4 (upd G12 rl (.lst (as.map V.ref ++ [.ref tr]))) := ((((tpG5.trans tp57).trans tp78).trans gs9.tp').trans tp911).trans tpE
    have sbH8 : SameBut p H G8 := fun x o n h => sb8 x o n (ne_of_none h hbH) (sb7 _ _ n (gs6 _ _ (sb45 _ _ n h)))
    have sbH12 : SameBut p H G12 := ((sbH8.trans (SameBut.of gs9)).trans sb911).trans (SameBut.of gs12)
    obtain ⟨m1, m2, m3, ep11⟩ := hp11
    have et12 := tp_put (o' := .lst (as.map V.ref ++ [.ref tr])) (Tp.refl G12) erl12 (fun _ z => nomatch z) _ _ gt12
    refine ⟨as ++ [tr], rs ++ [⟨if i = 0 then n0 else n1, hss ++ ss8, 1 + rb, 1 + (if decide (rm = 0) = true then 1 else 0)⟩], _, _, _, _, o8, fun x o n h => ?_, ⟨m1, m2, m3, by rw [upd_ne hrlp.symm]; exact gs12 _ _ ep11⟩, by rw [upd_ne hqrl]; exact gs12 _ _ eq11, by rw [upd_same]; simp, by simp [has], ?_, ?_, ?_, rfl⟩
    · rw [upd_ne (ne_of_none h hrl0)]; exact sbH12 _ _ n h
    · rw [List.map_append, hrn]
      rcases (by omega : i = 0 ∨ i = 1) with rfl | rfl <;> rfl
    · intro z hz
      have hrl : rs.length = i := by have := congrArg List.length hrn; simp at this; omega
      rw [List.zip_append (by rw [has, hrl])] at hz
      rcases List.mem_append.mp hz with hz | hz
      · exact (hrow z hz).mono tpAll
      · have hz2 : z = (tr, _) := List.mem_singleton.mp hz
        subst hz2
        exact ⟨v9, _, et12, (tp911.trans tpE) _ _ ev9, ds9.mono (tp911.trans tpE)⟩
    · intro r hr
      rcases List.mem_append.mp hr with hr | hr
      · exact hrok r hr
      · rw [List.mem_singleton.mp hr]
        refine ⟨by dsimp only; split <;> assumption, ⟨by dsimp only; omega, by dsimp only; omega⟩, ⟨by dsimp only; split <;> omega, by dsimp only; split <;> omega⟩, ?_, ?_⟩
        · dsimp only
          rcases hcase with ⟨e, _⟩ | ⟨e, _⟩
          · rw [e]; exact hne8 (by omega) (by omega)
          · rw [e]; simp
        · dsimp only
          refine ⟨c8, n8, ?_, by omega⟩
          rcases hcase with ⟨e, e2⟩ | ⟨e, e2⟩
          · rw [e2] at vb8; rw [e]; exact vb8
          · rw [e2] at vb8; rw [e]; exact .one rfl (by decide) (by show (0 : Int) ≠ 3; decide) vb8
  · rintro σ H4 ⟨as, rs, o4, o5, o6, o7, o8, sb4, hp4, eq4, erl4, has, hrn, hrow, hrok, rfl⟩
    have hrl : rs.length = rows.toNat := by have := congrArg List.length hrn; simp at this; omega
    obtain ⟨y1, y2, y3, ep4⟩ := id hp4
    have hrr : rs.length = 1 ∨ rs.length = 2 := by rcases hn12 with h | h <;> rw [h] at hrl <;> omega
    have hasr : as.length = rs.length := by rw [has, hrl]
    have hndr : (rs.map (·.name)).Nodup := by
      rw [hrn]
      refine List.Nodup.sublist (List.take_sublist _ _) ?_
      simp [hnd]
    clear hrn hrl has
    refine ⟨fun σ H' => ∃ (as : List Addr) (rs : List Row) (o4 o5 o6 o7 o8 : Option V), SameBut p H H' ∧ PoolAt H' p ∧ H' rl = some (.lst (as.map V.ref)) ∧ as.length = rs.length ∧ (rs.length = 1 ∨ rs.length = 2) ∧ (∀ q ∈ as.zip rs, RowIn H' q.1 q.2) ∧ (∀ r ∈ rs, RowOk cap r) ∧ (rs.map (·.name)).Nodup ∧ (∀ ra rb, rs = [ra, rb] → (ra.many = 1 ∨ rb.many = 1) ∧ (4 < cap → rb.many = 1)) ∧
      σ = [some (.ref p), some (.int cap), some (.ref q), some (.ref rl), o4, o5, o6, o7, o8], ?_, ?_⟩
    · rcases hrr with h1 | h2
      · have hml : ((as.map V.ref).length : Int) = 1 := by rw [List.length_map, hasr, h1]; rfl
        walk_at "rd"
        exact ⟨as, rs, o4, o5, o6, o7, o8, sb4, hp4, erl4, hasr, .inl h1, hrow, hrok, hndr, fun ra rb e => by rw [e] at h1; simp at h1, rfl⟩
      · obtain ⟨ra, rb, rfl⟩ : ∃ ra rb, rs = [ra, rb] := by
          match rs, h2 with
          | [x, y], _ => exact ⟨x, y, rfl⟩
        obtain ⟨qa, qb, rfl⟩ : ∃ qa qb, as = [qa, qb] := by
          match as, hasr with
          | [x, y], _ => exact ⟨x, y, rfl⟩
        obtain ⟨bra, bva, eqa, ebra, dra⟩ := hrow (qa, ra) (by simp)
        obtain ⟨brb, bvb, eqb, ebrb, drb⟩ := hrow (qb, rb) (by simp)
        walk_at "rd"
        refine w_ite (fun h2 => ?_) (fun h2 => ?_)
        · walk_at "rd"
          rename_i q1 K1 hk1 hq1 q2 K2 hkn2 hk2 hq2 hke2 q3 K3 hk3 hq3
          have hsK : Same H4 K3 := hk1.trans (hk2.trans hk3)
          have hq3' : K3 q3 = some (.tup [.str rb.name, .ref brb, .int rb.block, .int 1]) := hq3
          refine w_setL (hsK _ _ erl4) (n := 1) rfl ?_
          have tpK := tp_put (o' := .lst ([V.ref qa, .ref qb].set 1 (.ref q3))) (Tp.refl K3) (hsK _ _ erl4) (fun _ z => nomatch z)
          have tpS := hsK.tp'.trans tpK
          refine ⟨[qa, q3], [ra, ⟨rb.name, rb.ss, rb.block, 1⟩], o4, o5, o6, o7, o8, fun x o n h => by rw [upd_ne (ne_of_none h hrl0)]; exact hsK _ _ (sb4 _ _ n h), ⟨y1, y2, y3, by rw [upd_ne hrlp.symm]; exact hsK _ _ ep4⟩, upd_same, rfl, .inr rfl, ?_, ?_, hndr, ?_, rfl⟩
          · intro z hz
            rcases List.mem_cons.mp hz with rfl | hz
            · exact RowIn.mono tpS ⟨bra, bva, eqa, ebra, dra⟩
            · have hz : z = (q3, _) := List.mem_singleton.mp hz
              subst hz
              exact ⟨brb, bvb, tpK _ _ hq3', tpS _ _ ebrb, drb.mono tpS⟩
          · intro r hr
            rcases List.mem_cons.mp hr with rfl | hr
            · exact hrok _ (by simp)
            · rw [List.mem_singleton.mp hr]
              have := hrok rb (by simp)
              exact ⟨this.nm, this.b, ⟨Int.le_refl 1, show (1 : Int) ≤ 2 by decide⟩, this.ne, this.v⟩
          · intro x y e
            cases e
            exact ⟨.inr rfl, fun _ => rfl⟩
        · walk_at "rd"
          refine w_ite (fun h3 => ?_) (fun h3 => ?_)
          · walk_at "rd"
            rename_i q1 K1 hk1 hq1 q2 K2 hkn2 hk2 hq2 hke2 q3 K3 hk3 hq3
            have hsK : Same H4 K3 := hk1.trans (hk2.trans hk3)
            have hq3' : K3 q3 = some (.tup [.str rb.name, .ref brb, .int rb.block, .int 1]) := hq3
            refine w_setL (hsK _ _ erl4) (n := 1) rfl ?_
            have tpK := tp_put (o' := .lst ([V.ref qa, .ref qb].set 1 (.ref q3))) (Tp.refl K3) (hsK _ _ erl4) (fun _ z => nomatch z)
            have tpS := hsK.tp'.trans tpK
            refine ⟨[qa, q3], [ra, ⟨rb.name, rb.ss, rb.block, 1⟩], o4, o5, o6, o7, o8, fun x o n h => by rw [upd_ne (ne_of_none h hrl0)]; exact hsK _ _ (sb4 _ _ n h), ⟨y1, y2, y3, by rw [upd_ne hrlp.symm]; exact hsK _ _ ep4⟩, upd_same, rfl, .inr rfl, ?_, ?_, hndr, ?_, rfl⟩
            · intro z hz
              rcases List.mem_cons.mp hz with rfl | hz
              · exact RowIn.mono tpS ⟨bra, bva, eqa, ebra, dra⟩
              · have hz : z = (q3, _) := List.mem_singleton.mp hz
                subst hz
                exact ⟨brb, bvb, tpK _ _ hq3', tpS _ _ ebrb, drb.mono tpS⟩
            · intro r hr
              rcases List.mem_cons.mp hr with rfl | hr
              · exact hrok _ (by simp)
              · rw [List.mem_singleton.mp hr]
                have := hrok rb (by simp)
                exact ⟨this.nm, this.b, ⟨Int.le_refl 1, show (1 : Int) ≤ 2 by decide⟩, this.ne, this.v⟩
            · intro x y e
              cases e
              exact ⟨.inr rfl, fun _ => rfl⟩
          · walk_at "rd"
            have hm := hrok ra (by simp)
            exact ⟨[qa, qb], [ra, rb], o4, o5, o6, o7, o8, sb4, hp4, erl4, rfl, .inr rfl, hrow, hrok, hndr, fun x y e => by cases e; exact ⟨.inl (by have := hm.m; have h2 : ¬ ra.many = 2 := h2; omega), fun h => absurd h h3⟩, rfl⟩
    · rintro σ H5 ⟨as, rs, o4, o5, o6, o7, o8, sb5, hp5, erl5, has, hrr, hrow, hrok, hndr, hmid, rfl⟩
      obtain ⟨y1, y2, y3, ep5⟩ := id hp5
      refine ⟨fun σ H' => ∃ (as : List Addr) (rs : List Row) (o4 o5 o6 o7 o8 : Option V), SameBut p H H' ∧ PoolAt H' p ∧ H' rl = some (.lst (as.map V.ref)) ∧ as.length = rs.length ∧ (∀ q ∈ as.zip rs, RowIn H' q.1 q.2) ∧ BuiltOk cap rs ∧
        σ = [some (.ref p), some (.int cap), some (.ref q), some (.ref rl), o4, o5, o6, o7, o8], ?_, ?_⟩
      · rcases hrr with h1 | h2
        · have hml : ((as.map V.ref).length : Int) = 1 := by rw [List.length_map, has, h1]; rfl
          obtain ⟨ra, rfl⟩ : ∃ ra, rs = [ra] := List.length_eq_one_iff.mp h1
          have hm := (hrok ra (by simp)).m
          walk_at "rd"
          exact ⟨as, [ra], o4, o5, o6, o7, o8, sb5, hp5, erl5, has, hrow, ⟨.inl rfl, hrok, hndr, by simp; omega, fun _ => by simp; omega⟩, rfl⟩
        · obtain ⟨ra, rb, rfl⟩ : ∃ ra rb, rs = [ra, rb] := by
            match rs, h2 with
            | [x, y], _ => exact ⟨x, y, rfl⟩
          obtain ⟨qa, qb, rfl⟩ : ∃ qa qb, as = [qa, qb] := by
            match as, has with
            | [x, y], _ => exact ⟨x, y, rfl⟩
          obtain ⟨bra, bva, eqa, ebra, dra⟩ := hrow (qa, ra) (by simp)
          obtain ⟨brb, bvb, eqb, ebrb, drb⟩ := hrow (qb, rb) (by simp)
          have hma := (hrok ra (by simp)).m
          have hmb := (hrok rb (by simp)).m
          obtain ⟨hm1, hm2⟩ := hmid ra rb rfl
          walk_at "rd"
          refine w_ite (fun h3 => ?_) (fun h3 => ?_)
          · walk_at "rd"
            rename_i q1 K1 hk1 hq1 q2 K2 hkn2 hk2 hq2 hke2 q3 K3 hk3 hq3
            have hsK : Same H5 K3 := hk1.trans (hk2.trans hk3)
            have hq3' : K3 q3 = some (.tup [.str ra.name, .ref bra, .int ra.block, .int 1]) := hq3
            refine w_setL (hsK _ _ erl5) (n := 0) rfl ?_
            have tpK := tp_put (o' := .lst ([V.ref qa, .ref qb].set 0 (.ref q3))) (Tp.refl K3) (hsK _ _ erl5) (fun _ z => nomatch z)
            have tpS := hsK.tp'.trans tpK
            refine ⟨[q3, qb], [⟨ra.name, ra.ss, ra.block, 1⟩, rb], o4, o5, o6, o7, o8, fun x o n h => by rw [upd_ne (ne_of_none h hrl0)]; exact hsK _ _ (sb5 _ _ n h), ⟨y1, y2, y3, by rw [upd_ne hrlp.symm]; exact hsK _ _ ep5⟩, upd_same, rfl, ?_, ⟨.inr rfl, ?_, hndr, by have := hm2 h3; simp; omega, fun _ => by have := hm2 h3; simp; omega⟩, rfl⟩
            · intro z hz
              rcases List.mem_cons.mp hz with rfl | hz
              · exact ⟨bra, bva, tpK _ _ hq3', tpS _ _ ebra, dra.mono tpS⟩
              · have hz : z = (qb, _) := List.mem_singleton.mp hz
                subst hz
                exact RowIn.mono tpS ⟨brb, bvb, eqb, ebrb, drb⟩
            · intro r hr
              rcases List.mem_cons.mp hr with rfl | hr
              · have := hrok ra (by simp)
                exact ⟨this.nm, this.b, ⟨Int.le_refl 1, show (1 : Int) ≤ 2 by decide⟩, this.ne, this.v⟩
              · rw [List.mem_singleton.mp hr]; exact hrok rb (by simp)
          · walk_at "rd"
            exact ⟨[qa, qb], [ra, rb], o4, o5, o6, o7, o8, sb5, hp5, erl5, rfl, hrow, ⟨.inr rfl, hrok, hndr, by simp; omega, fun h => absurd h h3⟩, rfl⟩
      · rintro σ H6 ⟨as, rs, o4, o5, o6, o7, o8, sb6, hp6, erl6, has, hrow, hbo, rfl⟩
        walk_at "rd"
        refine ⟨p, 6, rfl, hp6, by decide, by decide, fun d1 H7 h7a h7b sb7 hp7 => ?_⟩
        walk_at "rd"
        rename_i sl H8 hn8 hs8 esl he8
        obtain ⟨u1, u2, u3, ep7⟩ := id hp7
        have hslp : sl ≠ p := by rintro rfl; rw [ep7] at hn8; cases hn8
        have tp67 : Tp H6 H7 := by obtain ⟨v1, v2, v3, e6⟩ := hp6; exact sb7.tp e6 (fun _ z => nomatch z)
        refine ⟨p, 2, rfl, ⟨u1, u2, u3, hs8 _ _ ep7⟩, by decide, by decide, fun d2 H9 h9a h9b sb9 hp9 => ?_⟩
        have tp89 := sb9.tp (hs8 _ _ ep7) (fun _ z => nomatch z)
        have esl9 := sb9 _ _ hslp esl
        obtain ⟨span, hat, hspan⟩ : ∃ span, atI [V.non, .int (3 + d1)] d2 = some (oV span) ∧ ∀ s, span = some s → 3 ≤ s ∧ s ≤ 8 := by
          rcases (by omega : d2 = 0 ∨ d2 = 1) with rfl | rfl
          · exact ⟨none, rfl, fun s h => by cases h⟩
          · exact ⟨some (3 + d1), rfl, fun s h => by cases h; omega⟩
        walk_at "rd"
        refine ⟨p, 5, rfl, hp9, by decide, by decide, fun d3 H10 h10a h10b sb10 hp10 => ?_⟩
        walk_at "rd"
        refine ⟨p, 3, rfl, hp10, by decide, by decide, fun d4 H11 h11a h11b sb11 hp11 => ?_⟩
        walk_at "rd"
        rename_i b H12 hn12' hs12 eb he12
        obtain ⟨w1, w2, w3, ep9⟩ := id hp9
        obtain ⟨x1, x2, x3, ep10⟩ := id hp10
        obtain ⟨z1, z2, z3, ep11⟩ := id hp11
        have sbF : SameBut p H H11 := ((((sb6.trans sb7).trans (SameBut.of hs8)).trans sb9).trans sb10).trans sb11
        have tpF : Tp H6 H12 := (((((tp67.trans hs8.tp').trans tp89).trans (sb10.tp ep9 (fun _ z => nomatch z))).trans (sb11.tp ep10 (fun _ z => nomatch z))).trans hs12.tp')
        have erlF := hs12 _ _ (sb11 _ _ hrlp (sb10 _ _ hrlp (sb9 _ _ hrlp (hs8 _ _ (sb7 _ _ hrlp erl6)))))
        have hbrl : b ≠ rl := by
          rintro rfl
          rw [sb11 _ _ hrlp (sb10 _ _ hrlp (sb9 _ _ hrlp (hs8 _ _ (sb7 _ _ hrlp erl6))))] at hn12'; cases hn12'
        exact hq H12 b rl rs as d3 span d4 (sbF.trans (SameBut.of hs12)) ⟨z1, z2, z3, hs12 _ _ ep11⟩ (free_but sbF ep11 hn12') hrl0 hbrl eb erlF has (fun z hz => (hrow z hz).mono tpF) hbo h10a (by omega) h11a (by omega) hspan
end
/-! ### the mirror keeps what the law asks: plain mathematics -/
theorem getD_set_nil {α : Type} (l : List (List α)) (s i : Nat) : (l.set s []).getD i [] = if i = s then [] else l.getD i [] := by
  by_cases h : i = s
  · subst h
    rw [if_pos rfl]
    by_cases hl : i < l.length
    · exact getD_set_eq hl
    · rw [List.getD_eq_getElem?_getD, List.getElem?_eq_none (by rw [List.length_set]; omega)]; rfl
  · rw [if_neg h]; exact getD_set_ne h
theorem getD_set_if {α : Type} {l : List α} {s : Nat} (i : Nat) {x d : α} (h : s < l.length) : (l.set s x).getD i d = if i = s then x else l.getD i d := by
  by_cases e : i = s
  · subst e; rw [if_pos rfl]; exact getD_set_eq h
  · rw [if_neg e]; exact getD_set_ne e
/-- what is out of a session -/
def Rs.row (R : Rs) (s : Nat) : List Int := R.trans.getD s [] ++ R.stores.getD s []
structure Good (W : Int) (n : Nat) (R : Rs) (k : Nat) : Prop where
  len : Lens n R
  rne : ∀ (s : Nat) (r : List Sm), R.rests[s]? = some r → r ≠ []
  h0 : 0 ≤ R.height
  hn : R.height ≤ R.noted ∧ R.noted ≤ R.height + 4
  hk : R.height ≤ 4 * (k : Int)
  tk : R.tot ≤ 4 * k
  ck : R.commits.length ≤ k
  lk : ∀ s, (R.locks.getD s []).length ≤ k
  lnd : ∀ s, (R.locks.getD s []).Nodup
  asc : ∀ s, (R.row s).Pairwise (· < ·)
  out : ∀ s x, x ∈ R.row s → x < R.height ∧ R.height - x ≤ W
  sp : ∀ p, R.spread = some p → 1 ≤ p ∧ p ≤ W
  cne : ∀ c ∈ R.commits, c.2 ≠ []
  lt : (lateM R.commits).2 < R.height
  lf : ∀ f, (lateM R.commits).1 = some f → 1 ≤ f ∧ f < W
namespace Good
variable {W : Int} {n : Nat} {R : Rs} {k : Nat}
theorem mono {k' : Nat} (g : Good W n R k) (h : k ≤ k') : Good W n R k' :=
  { g with hk := by have := g.hk; omega, tk := by have := g.tk; omega, ck := by have := g.ck; omega, lk := fun s => by have := g.lk s; omega }
/-- less is out -/
theorem less {R' : Rs} (g : Good W n R k) (hl : Lens n R') (hr : ∀ (s : Nat) (r : List Sm), R'.rests[s]? = some r → r ≠ []) (h1 : R'.height = R.height) (h2 : R'.noted = R.noted) (h3 : R'.tot ≤ R.tot) (h4 : R'.commits = R.commits) (h5 : R'.spread = R.spread)
    (h6 : ∀ s, (R'.locks.getD s []).length ≤ k ∧ (R'.locks.getD s []).Nodup) (h7 : ∀ s, (R'.row s).Sublist (R.row s)) : Good W n R' k where
  len := hl
  rne := hr
  h0 := by rw [h1]; exact g.h0
  hn := by rw [h1, h2]; exact g.hn
  hk := by rw [h1]; exact g.hk
  tk := Nat.le_trans h3 g.tk
  ck := by rw [h4]; exact g.ck
  lk := fun s => (h6 s).1
  lnd := fun s => (h6 s).2
  asc := fun s => (g.asc s).sublist (h7 s)
  out := fun s x hx => by rw [h1]; exact g.out s x ((h7 s).subset hx)
  sp := by rw [h5]; exact g.sp
  cne := by rw [h4]; exact g.cne
  lt := by rw [h4, h1]; exact g.lt
  lf := by rw [h4]; exact g.lf
theorem row_trans {s i : Nat} : (R.trans.set s []).getD i [] ++ R.stores.getD i [] |>.Sublist (R.row i) := by
  rw [getD_set_nil]
  unfold Rs.row
  split
  · exact List.sublist_append_right _ _
  · exact List.Sublist.refl _
theorem row_stores {s i : Nat} : R.trans.getD i [] ++ (R.stores.set s []).getD i [] |>.Sublist (R.row i) := by
  rw [getD_set_nil]
  unfold Rs.row
  split
  · rw [List.append_nil]; exact List.sublist_append_left _ _
  · exact List.Sublist.refl _
theorem locks_nil {l : List (List Str)} {s i : Nat} (h : ∀ i, (l.getD i []).length ≤ k ∧ (l.getD i []).Nodup) : ((l.set s []).getD i []).length ≤ k ∧ ((l.set s []).getD i []).Nodup := by
  rw [getD_set_nil]
  split
  · exact ⟨Nat.zero_le _, List.nodup_nil⟩
  · exact h i
theorem dropS {s : Nat} (g : Good W n R k) (hs : s < n) : Good W n (R.dropS s) k := by
  have h := lsum_set R.stores s [] (by rw [g.len.stores]; exact hs)
  refine g.less ⟨g.len.rests, g.len.locks, g.len.trans, by simp [Rs.dropS, g.len.stores]⟩ g.rne rfl rfl ?_ rfl rfl (fun i => ⟨g.lk i, g.lnd i⟩) (fun i => row_stores (R := R) (s := s) (i := i))
  simp only [Rs.dropS, Rs.tot, List.length_append, List.length_nil] at *
  omega
theorem rollback {s : Nat} (g : Good W n R k) (hs : s < n) : Good W n (R.rollback s) k := by
  have h := lsum_set R.trans s [] (by rw [g.len.trans]; exact hs)
  refine g.less ⟨g.len.rests, g.len.locks, by simp [Rs.rollback, g.len.trans], g.len.stores⟩ g.rne rfl rfl ?_ rfl rfl (fun i => ⟨g.lk i, g.lnd i⟩) (fun i => row_trans (R := R) (s := s) (i := i))
  simp only [Rs.rollback, Rs.tot, List.length_append, List.length_nil] at *
  omega
theorem rest_set {s : Nat} {x : List Sm} (g : Good W n R k) (hx : s < n → x ≠ []) : ∀ (i : Nat) (r : List Sm), (R.rests.set s x)[i]? = some r → r ≠ [] := by
  intro i r h
  rw [List.getElem?_set] at h
  split at h
  · split at h
    · rename_i h2
      cases h
      exact hx (by rw [← g.len.rests]; exact h2)
    · cases h
  · exact g.rne i r h
theorem fin {s : Nat} {B : List (List Sm)} (g : Good W n R k) (hs : s < n) (hB : B.getD s [] ≠ []) : Good W n (R.fin B s) k := by
  have h := lsum_set R.trans s [] (by rw [g.len.trans]; exact hs)
  refine g.less ⟨by simp [Rs.fin, g.len.rests], by simp [Rs.fin, g.len.locks], by simp [Rs.fin, g.len.trans], g.len.stores⟩ (g.rest_set fun _ => hB) rfl rfl ?_ rfl rfl (fun i => locks_nil fun i => ⟨g.lk i, g.lnd i⟩) (fun i => row_trans (R := R) (s := s) (i := i))
  simp only [Rs.fin, Rs.tot, List.length_append, List.length_nil] at *
  omega
theorem restart {s : Nat} {B : List (List Sm)} (g : Good W n R k) (hs : s < n) (hB : B.getD s [] ≠ []) : Good W n (R.restart B s) k := (g.dropS hs).fin hs hB
theorem adv {s : Nat} {B : List (List Sm)} {r : List Sm} (g : Good W n R k) (hs : s < n) (hB : B.getD s [] ≠ []) : Good W n (R.adv B s r) k := by
  unfold Rs.adv
  split
  · exact g.fin hs hB
  · rename_i h
    exact g.less ⟨by simp [g.len.rests], g.len.locks, g.len.trans, g.len.stores⟩ (g.rest_set fun _ => h) rfl rfl (Nat.le_refl _) rfl rfl (fun i => ⟨g.lk i, g.lnd i⟩) (fun i => List.Sublist.refl _)
theorem hold {s : Nat} {nm : Str} {b : Bool} (g : Good W n R k) (hs : s < n) : Good W n (R.hold s nm b) (k + 1) := by
  have g' := g.mono (Nat.le_succ k)
  refine g'.less ⟨g.len.rests, by simp [Rs.hold, g.len.locks], g.len.trans, g.len.stores⟩ g.rne rfl rfl (Nat.le_refl _) rfl rfl (fun i => ?_) (fun i => List.Sublist.refl _)
  show ((R.locks.set s _).getD i []).length ≤ k + 1 ∧ ((R.locks.set s _).getD i []).Nodup
  rw [getD_set_if i (by rw [g.len.locks]; exact hs)]
  split
  · have h1 := g.lk s
    have h2 := List.length_filter_le (fun x => !decide (x = nm)) (R.locks.getD s [])
    have h3 := (g.lnd s).filter (fun x => !decide (x = nm))
    refine ⟨?_, ?_⟩
    · rw [List.length_append]
      cases b with
      | false => rw [if_neg Bool.false_ne_true, List.length_nil]; omega
      | true => rw [if_pos rfl, List.length_singleton]; omega
    · cases b with
      | false => rw [if_neg Bool.false_ne_true, List.append_nil]; exact h3
      | true =>
        rw [List.nodup_append]
        refine ⟨h3, by simp, ?_⟩
        intro a ha c hc
        rw [if_pos rfl, List.mem_singleton] at hc
        have := (List.mem_filter.mp ha).2
        rintro rfl
        simp [hc] at this
  · exact ⟨g'.lk i, g'.lnd i⟩
theorem lateIn_ok {top h : Int} (ht : top < h) : ∀ (ns : List Int) (f : Option Int), (∀ x ∈ ns, x < h ∧ h - x ≤ W) → (∀ p, f = some p → 1 ≤ p ∧ p < W) → ∀ p, lateIn top f ns = some p → 1 ≤ p ∧ p < W
  | [], f, _, hf, p, e => hf p e
  | x :: ns, f, hx, hf, p, e => by
    refine lateIn_ok ht ns _ (fun y hy => hx y (by simp [hy])) (fun q hq => ?_) p e
    have hq : (if x < top ∧ (f = none ∨ ∃ p, f = some p ∧ p < top - x) then some (top - x) else f) = some q := hq
    split at hq
    · rename_i hc
      cases hq
      have := hx x (by simp)
      omega
    · exact hf q hq
theorem lateTop_ok {top h : Int} (ht : top < h) {ns : List Int} (hx : ∀ x ∈ ns, x < h ∧ h - x ≤ W) (hne : ns ≠ []) : lateTop top ns < h := by
  unfold lateTop
  split
  · have : ns.getLastD 0 ∈ ns := by
      rw [List.getLastD_eq_getLast?, List.getLast?_eq_some_getLast hne]
      exact List.getLast_mem hne
    exact (hx _ this).1
  · exact ht
theorem commit {s : Nat} (g : Good W n R k) (hs : s < n) : Good W n (R.commit s) (k + 1) := by
  have g' := g.mono (Nat.le_succ k)
  unfold Rs.commit
  split
  · exact g'
  · rename_i hne
    have h := lsum_set R.trans s [] (by rw [g.len.trans]; exact hs)
    have hrow : ∀ x ∈ R.trans.getD s [], x < R.height ∧ R.height - x ≤ W := fun x hx => g.out s x (List.mem_append.mpr (.inl hx))
    exact {
      len := ⟨g.len.rests, g.len.locks, by simp [g.len.trans], g.len.stores⟩
      rne := g.rne
      h0 := g.h0
      hn := g.hn
      hk := g'.hk
      tk := by
        have := g'.tk
        simp only [Rs.tot, List.length_nil] at *
        omega
      ck := by have := g.ck; simp only [List.length_append, List.length_cons, List.length_nil]; omega
      lk := g'.lk
      lnd := g.lnd
      asc := fun i => (g.asc i).sublist row_trans
      out := fun i x hx => g.out i x (row_trans.subset hx)
      sp := g.sp
      cne := fun c hc => by
        rcases List.mem_append.mp hc with hc | hc
        · exact g.cne c hc
        · rw [List.mem_singleton.mp hc]; exact hne
      lt := by
        show (lateM (R.commits ++ [_])).2 < R.height
        rw [lateM_snoc]
        exact lateTop_ok g.lt hrow hne
      lf := by
        show ∀ f, (lateM (R.commits ++ [_])).1 = some f → _
        rw [lateM_snoc]
        exact lateIn_ok g.lt _ _ hrow g.lf }
theorem heads_row {l : List (List Int)} {s : Nat} {x : Int} (h : x ∈ l.getD s []) (ha : (l.getD s []).Pairwise (· < ·)) : ∃ y ∈ heads l, y ≤ x := by
  have hs : s < l.length := by
    rcases Nat.lt_or_ge s l.length with c | c
    · exact c
    · rw [List.getD_eq_getElem?_getD, List.getElem?_eq_none c] at h; cases h
  cases e : l.getD s [] with
  | nil => rw [e] at h; cases h
  | cons y ys =>
    rw [e] at h ha
    refine ⟨y, ?_, ?_⟩
    · refine List.mem_filterMap.mpr ⟨y :: ys, ?_, rfl⟩
      rw [← e, List.getD_eq_getElem?_getD, List.getElem?_eq_getElem hs]
      exact List.getElem_mem hs
    · rcases List.mem_cons.mp h with rfl | h
      · exact Int.le_refl _
      · exact Int.le_of_lt ((List.pairwise_cons.mp ha).1 x h)
theorem heads_le {s : Nat} {x : Int} (g : Good W n R k) (h : x ∈ R.row s) : ∃ y ∈ heads (R.trans ++ R.stores), y ≤ x := by
  have ha := g.asc s
  unfold Rs.row at h ha
  have hh : heads (R.trans ++ R.stores) = heads R.trans ++ heads R.stores := List.filterMap_append ..
  rw [hh]
  rcases List.mem_append.mp h with h | h
  · obtain ⟨y, hy, hl⟩ := heads_row h (ha.sublist (List.sublist_append_left _ _))
    exact ⟨y, List.mem_append.mpr (.inl hy), hl⟩
  · obtain ⟨y, hy, hl⟩ := heads_row h (ha.sublist (List.sublist_append_right _ _))
    exact ⟨y, List.mem_append.mpr (.inr hy), hl⟩
theorem low_le {s : Nat} {x l : Int} (g : Good W n R k) (hl : R.low = some l) (h : x ∈ R.row s) : l ≤ x := by
  obtain ⟨y, hy, hle⟩ := g.heads_le h
  have := (minL_some hl).2 y hy
  omega
theorem low_none {s : Nat} {x : Int} (g : Good W n R k) (hl : R.low = none) : ¬ x ∈ R.row s := fun h => by
  obtain ⟨y, hy, hle⟩ := g.heads_le h
  rw [minL_none hl] at hy; cases hy
theorem low_mem {l : Int} (hl : R.low = some l) : ∃ s, l ∈ R.row s := by
  have h := (minL_some hl).1
  have hh : heads (R.trans ++ R.stores) = heads R.trans ++ heads R.stores := List.filterMap_append ..
  rw [hh] at h
  have key : ∀ rows : List (List Int), l ∈ heads rows → ∃ s, l ∈ rows.getD s [] := by
    intro rows h
    obtain ⟨row, hr, e⟩ := List.mem_filterMap.mp h
    obtain ⟨s, hs, e2⟩ := List.getElem_of_mem hr
    refine ⟨s, ?_⟩
    rw [List.getD_eq_getElem?_getD, List.getElem?_eq_getElem hs, e2]
    exact List.mem_of_head? e
  rcases List.mem_append.mp h with h | h
  · obtain ⟨s, hs⟩ := key _ h
    exact ⟨s, List.mem_append.mpr (.inl hs)⟩
  · obtain ⟨s, hs⟩ := key _ h
    exact ⟨s, List.mem_append.mpr (.inr hs)⟩
theorem mem_rg {a b x : Int} : x ∈ rg a b ↔ a ≤ x ∧ x < b := by
  unfold rg
  rw [List.mem_map]
  constructor
  · rintro ⟨i, hi, rfl⟩
    have := List.mem_range.mp hi
    omega
  · rintro ⟨h1, h2⟩
    exact ⟨(x - a).toNat, List.mem_range.mpr (by omega), by omega⟩
theorem rg_asc (a b : Int) : (rg a b).Pairwise (· < ·) := by
  unfold rg
  rw [List.pairwise_map]
  refine List.Pairwise.imp ?_ List.pairwise_lt_range
  intro i j h
  omega
theorem handOut {s : Nat} {blk ahead : Int} (g : Good W n R k) (hs : s < n) (he : R.stores.getD s [] = []) (hb : 1 ≤ blk ∧ blk ≤ 3) (ha : 0 ≤ ahead ∧ ahead ≤ 4) (hW : 3 ≤ W) (hw : ∀ l, R.low = some l → R.height + blk - l ≤ W) : Good W n (R.handOut blk ahead s) (k + 1) := by
  have h := lsum_set R.stores s (rg R.height (R.height + blk)) (by rw [g.len.stores]; exact hs)
  rw [he, rg_len] at h
  have hlow : ∀ i x, x ∈ R.row i → x < R.height ∧ R.height + blk - x ≤ W := by
    intro i x hx
    refine ⟨(g.out i x hx).1, ?_⟩
    cases e : R.low with
    | none => exact absurd hx (g.low_none e)
    | some l =>
      have h1 := hw l e
      have h2 := g.low_le e hx
      omega
  have hrow : ∀ i, (R.handOut blk ahead s).row i = if i = s then R.trans.getD s [] ++ rg R.height (R.height + blk) else R.row i := by
    intro i
    show R.trans.getD i [] ++ (R.stores.set s (rg R.height (R.height + blk))).getD i [] = _
    rw [getD_set_if i (by rw [g.len.stores]; exact hs)]
    split
    · rename_i e; rw [e]
    · rfl
  have hts : ∀ x, x ∈ R.trans.getD s [] → x ∈ R.row s := fun x hx => List.mem_append.mpr (.inl hx)
  have h0 := g.h0
  have h1 := g.hn
  have h2 := g.hk
  exact {
    len := ⟨g.len.rests, g.len.locks, g.len.trans, by simp [Rs.handOut, g.len.stores]⟩
    rne := g.rne
    h0 := by show 0 ≤ R.height + blk; omega
    hn := by
      show R.height + blk ≤ (if R.noted < R.height + blk then R.height + blk + ahead else R.noted) ∧ (if R.noted < R.height + blk then R.height + blk + ahead else R.noted) ≤ R.height + blk + 4
      split <;> omega
    hk := by show R.height + blk ≤ 4 * ((k + 1 : Nat) : Int); omega
    tk := by
      have := g.tk
      simp only [Rs.handOut, Rs.tot, List.length_nil] at *
      omega
    ck := (g.mono (Nat.le_succ k)).ck
    lk := (g.mono (Nat.le_succ k)).lk
    lnd := g.lnd
    asc := fun i => by
      rw [hrow]
      split
      · rw [List.pairwise_append]
        refine ⟨(g.asc s).sublist (List.sublist_append_left _ _), rg_asc _ _, fun a ha b hb => ?_⟩
        have := (g.out s a (hts a ha)).1
        have := (mem_rg.mp hb).1
        omega
      · exact g.asc i
    out := fun i x hx => by
      rw [hrow] at hx
      show x < R.height + blk ∧ R.height + blk - x ≤ W
      split at hx
      · rcases List.mem_append.mp hx with hx | hx
        · have := hlow s x (hts x hx); omega
        · have := mem_rg.mp hx; omega
      · have := hlow i x hx; omega
    sp := g.sp
    cne := g.cne
    lt := by have := g.lt; show (lateM R.commits).2 < R.height + blk; omega
    lf := g.lf }
theorem pick {s : Nat} (g : Good W n R k) (hs : s < n) (hne : R.stores.getD s [] ≠ []) : Good W n (R.pick s) k := by
  have g1 := lsum_set R.stores s (R.stores.getD s []).tail (by rw [g.len.stores]; exact hs)
  have g2 := lsum_set R.trans s (R.trans.getD s [] ++ [(R.stores.getD s []).headD 0]) (by rw [g.len.trans]; exact hs)
  refine g.less ⟨g.len.rests, g.len.locks, by simp [Rs.pick, g.len.trans], by simp [Rs.pick, g.len.stores]⟩ g.rne rfl rfl ?_ rfl rfl (fun i => ⟨g.lk i, g.lnd i⟩) (fun i => ?_)
  · cases e : R.stores.getD s [] with
    | nil => exact absurd e hne
    | cons x xs =>
      rw [e] at g1 g2
      simp only [Rs.pick, Rs.tot, e, List.length_append, List.length_cons, List.length_nil, List.tail_cons] at *
      omega
  · show ((R.trans.set s _).getD i [] ++ (R.stores.set s _).getD i []).Sublist _
    rw [getD_set_if i (by rw [g.len.trans]; exact hs), getD_set_if i (by rw [g.len.stores]; exact hs)]
    split
    · rename_i e
      subst e
      cases e : R.stores.getD i [] with
      | nil => exact absurd e hne
      | cons x xs => unfold Rs.row; rw [e]; simp
    · exact List.Sublist.refl _
theorem loseAll {B : List (List Sm)} (g : Good W n R k) (hB : ∀ s, s < n → B.getD s [] ≠ []) : ∀ j, j ≤ n → Good W n (R.loseAll B j) k
  | 0, _ => g
  | j + 1, h => by
    rw [loseAll_succ]
    exact (loseAll g hB j (by omega)).restart (by omega) (hB j (by omega))
theorem row_restart {B : List (List Sm)} {s i : Nat} (h : i = s ∨ R.row i = []) : (R.restart B s).row i = [] := by
  show (R.trans.set s []).getD i [] ++ (R.stores.set s []).getD i [] = []
  rw [getD_set_nil, getD_set_nil]
  split
  · rfl
  · rename_i hne
    rcases h with h | h
    · exact absurd h hne
    · exact h
theorem loseAll_row {B : List (List Sm)} : ∀ (j i : Nat), i < j → (R.loseAll B j).row i = []
  | 0, i, h => by omega
  | j + 1, i, h => by
    rw [loseAll_succ]
    refine row_restart ?_
    by_cases e : i = j
    · exact .inl e
    · exact .inr (loseAll_row j i (by omega))
theorem row_big {i : Nat} (l : Lens n R) (h : n ≤ i) : R.row i = [] := by
  unfold Rs.row
  rw [List.getD_eq_getElem?_getD, List.getD_eq_getElem?_getD, List.getElem?_eq_none (by rw [l.trans]; exact h), List.getElem?_eq_none (by rw [l.stores]; exact h)]
  rfl
theorem crash {B : List (List Sm)} {ahead : Int} (g : Good W n R k) (hB : ∀ s, s < n → B.getD s [] ≠ []) (ha : 0 ≤ ahead ∧ ahead ≤ 4) : Good W n (R.crash B ahead n) (k + 1) := by
  have G := g.loseAll hB n (Nat.le_refl _)
  have hrow : ∀ i, (R.loseAll B n).row i = [] := fun i => by
    rcases Nat.lt_or_ge i n with c | c
    · exact loseAll_row n i c
    · exact row_big G.len c
  have G' := G.mono (Nat.le_succ k)
  show Good W n { R.loseAll B n with lost := (R.loseAll B n).lost ++ rg (R.loseAll B n).height (R.loseAll B n).noted, height := (R.loseAll B n).noted, noted := (R.loseAll B n).noted + ahead, crashes := (R.loseAll B n).crashes - 1 } (k + 1)
  generalize R.loseAll B n = R1 at *
  have h0 := G.h0
  have h1 := G.hn
  have h2 := G.hk
  exact {
    len := ⟨G.len.rests, G.len.locks, G.len.trans, G.len.stores⟩
    rne := G.rne
    h0 := by show 0 ≤ R1.noted; omega
    hn := by show R1.noted ≤ R1.noted + ahead ∧ R1.noted + ahead ≤ R1.noted + 4; omega
    hk := by show R1.noted ≤ 4 * ((k + 1 : Nat) : Int); omega
    tk := by
      have := G.tk
      show (R1.lost ++ rg R1.height R1.noted).length + lsum R1.trans + lsum R1.stores ≤ _
      rw [List.length_append, rg_len]
      unfold Rs.tot at this
      omega
    ck := G'.ck
    lk := G'.lk
    lnd := G.lnd
    asc := G.asc
    out := fun i x hx => by
      have : x ∈ R1.row i := hx
      rw [hrow] at this; cases this
    sp := G.sp
    cne := G.cne
    lt := by have := G.lt; show (lateM R1.commits).2 < R1.noted; omega
    lf := G.lf }
theorem spr (g : Good W n R k) : Good W n R.spr k := by
  unfold Rs.spr
  split
  · exact g
  · rename_i l hl
    split
    · refine { g with sp := fun p hp => ?_, len := ⟨g.len.rests, g.len.locks, g.len.trans, g.len.stores⟩, tk := g.tk, asc := g.asc, out := g.out }
      cases hp
      obtain ⟨s, hm⟩ := low_mem hl
      have := g.out s l hm
      omega
    · exact g
theorem lim (g : Good W n R k) (hk : k ≤ 200) : Lim R := by
  have h1 := g.h0
  have h2 := g.hn
  have h3 := g.hk
  have h4 := g.tk
  have h5 := g.ck
  exact ⟨h1, h2.1, by omega, by omega, by omega⟩
theorem lim9 (g : Good W n R k) (hk : k ≤ 200) : Lim9 R := by
  have h1 := g.h0
  have h2 := g.hn
  have h3 := g.hk
  have h4 := g.tk
  have h5 := g.ck
  exact ⟨g.lim hk, by omega, by omega, by omega, by omega, fun s => by have := g.lk s; omega⟩
end Good
theorem B_ne {D : SysD} (h : DOk D) : ∀ s, s < D.n → D.B.getD s [] ≠ [] := by
  intro s hs
  have hl : D.B.length = D.n := by simp [SysD.B, SysD.n]
  refine h.ne _ ?_
  rw [List.getD_eq_getElem?_getD, List.getElem?_eq_getElem (by omega)]
  exact List.getElem_mem _
theorem good_init {D : SysD} {W : Int} (h : DOk D) : Good W D.n (Rs.init D) 0 := by
  have hl : D.B.length = D.n := by simp [SysD.B, SysD.n]
  have rep : ∀ (α : Type) (s : Nat), (List.replicate D.n ([] : List α)).getD s [] = [] := by
    intro α s
    rw [List.getD_eq_getElem?_getD, List.getElem?_replicate]
    split <;> rfl
  have hrow : ∀ s, (Rs.init D).row s = [] := fun s => by
    show (List.replicate D.n ([] : List Int)).getD s [] ++ (List.replicate D.n ([] : List Int)).getD s [] = []
    rw [rep]; rfl
  have hsum : ∀ m : Nat, lsum (List.replicate m []) = 0 := by
    intro m
    induction m with
    | zero => rfl
    | succ m ih => simp only [lsum, List.replicate_succ, List.map_cons, List.sum_cons, List.length_nil] at *; omega
  exact {
    len := ⟨hl, by simp [Rs.init], by simp [Rs.init], by simp [Rs.init]⟩
    rne := fun s r e => h.ne r (List.mem_of_getElem? e)
    h0 := Int.le_refl 0
    hn := by have := h.ah; show (0 : Int) ≤ D.ahead ∧ D.ahead ≤ 0 + 4; omega
    hk := by show (0 : Int) ≤ _; omega
    tk := by
      show 0 + lsum (List.replicate D.n []) + lsum (List.replicate D.n []) ≤ _
      rw [hsum]; omega
    ck := Nat.le_refl 0
    lk := fun s => by show ((List.replicate D.n ([] : List Str)).getD s []).length ≤ 0; rw [rep]; exact Nat.le_refl 0
    lnd := fun s => by show ((List.replicate D.n ([] : List Str)).getD s []).Nodup; rw [rep]; exact List.nodup_nil
    asc := fun s => by rw [hrow]; exact .nil
    out := fun s x hx => by rw [hrow] at hx; cases hx
    sp := fun p e => by cases e
    cne := fun c hc => by cases hc
    lt := by show (-1 : Int) < 0; decide
    lf := fun f e => by cases e }
theorem good_step {D : SysD} {W : Int} {R : Rs} {k : Nat} {m : Mv} (h : DOk D) (hW : 3 ≤ W) (hwin : D.window = some W) (g : Good W D.n R k) (hf : m.Fits D R) : Good W D.n (R.step D m) (k + 1) := by
  have hB := B_ne h
  unfold Rs.step
  refine Good.spr ?_
  cases m with
  | crash => exact g.crash hB h.ah
  | go s a =>
    obtain ⟨st, r, hr, ha, hw⟩ := hf
    have hs : s < D.n := by
      rcases Nat.lt_or_ge s D.n with c | c
      · exact c
      · rw [List.getElem?_eq_none (by rw [g.len.rests]; exact c)] at hr; cases hr
    simp only [hr]
    have hbk : 1 ≤ D.blk s ∧ D.blk s ≤ 3 := by
      have hs2 : s < D.ss.length := hs
      have : D.blk s = (D.ss[s]).block := by
        unfold SysD.blk; rw [List.getD_eq_getElem?_getD, List.getElem?_map, List.getElem?_eq_getElem hs2]; rfl
      rw [this]
      exact h.blk _ (List.getElem_mem _)
    have g1 := g.mono (Nat.le_succ k)
    cases st with
    | leave => exact g1.restart hs (hB s hs)
    | take =>
      show Good W D.n (((if R.stores.getD s [] = [] then R.handOut (D.blk s) D.ahead s else R).pick s).adv D.B s _) (k + 1)
      refine Good.adv (Good.pick ?_ hs ?_) hs (hB s hs)
      · split
        · rename_i he
          refine g.handOut hs he hbk h.ah hW (fun l hl => ?_)
          have : ¬ W < R.height + D.blk s - l := fun hlt => hw ⟨he, W, l, hwin, hl, hlt⟩
          omega
        · exact g1
      · split
        · rename_i he
          show (R.stores.set s _).getD s [] ≠ []
          rw [getD_set_eq (by rw [g.len.stores]; exact hs)]
          intro e
          have := congrArg List.length e
          rw [rg_len] at this
          simp at this
          omega
        · rename_i he; exact he
    | commit => exact (g.commit hs).adv hs (hB s hs)
    | rollback => exact (g1.rollback hs).adv hs (hB s hs)
    | drop => exact (g1.dropS hs).adv hs (hB s hs)
    | lock nm => exact (g.hold hs).adv hs (hB s hs)
    | unlock nm => exact (g.hold hs).adv hs (hB s hs)
    | choose y no => exact g1.adv hs (hB s hs)
/-- the same kinds, another window -/
structure Wider (D D' : SysD) : Prop where
  ks : D'.ks = D.ks
  ah : D'.ahead = D.ahead
  cr : D'.crashes = D.crashes
  win : ∀ w, D.window = some w → ∀ w', D'.window = some w' → w ≤ w'
  no : D.window = none → D'.window = none
theorem Wider.step {D D' : SysD} (w : Wider D D') (m : Mv) (R : Rs) : R.step D' m = R.step D m := by
  have h1 : D'.ss = D.ss := by unfold SysD.ss; rw [w.ks]
  have h2 : D'.B = D.B := by unfold SysD.B; rw [h1]
  have h3 : D'.n = D.n := by unfold SysD.n; rw [h1]
  have h4 : D'.blk = D.blk := by funext s; unfold SysD.blk; rw [h1]
  unfold Rs.step
  rw [h2, h3, h4, w.ah]
theorem Wider.all {D D' : SysD} (w : Wider D D') : ∀ (ms : List Mv) (R : Rs), stepAll D' ms R = stepAll D ms R
  | [], _ => rfl
  | m :: ms, R => by
    show stepAll D' ms (R.step D' m) = stepAll D ms (R.step D m)
    rw [w.step, w.all]
theorem Wider.init {D D' : SysD} (w : Wider D D') : Rs.init D' = Rs.init D := by
  have h1 : D'.ss = D.ss := by unfold SysD.ss; rw [w.ks]
  have h2 : D'.B = D.B := by unfold SysD.B; rw [h1]
  have h3 : D'.n = D.n := by unfold SysD.n; rw [h1]
  unfold Rs.init
  rw [h2, h3, w.ah, w.cr]
theorem Wider.fits {D D' : SysD} {m : Mv} {R : Rs} (w : Wider D D') (h : m.Fits D R) : m.Fits D' R := by
  have h1 : D'.ss = D.ss := by unfold SysD.ss; rw [w.ks]
  cases m with
  | crash => exact h
  | go s a =>
    obtain ⟨st, r, hr, ha, hw⟩ := h
    refine ⟨st, r, hr, ha, ?_⟩
    have h4 : D'.blk = D.blk := by funext s; unfold SysD.blk; rw [h1]
    rw [h4]
    intro hw'
    cases st with
    | lock nm => exact hw hw'
    | take =>
      obtain ⟨he, w1, l, e1, e2, e3⟩ := hw'
      cases e : D.window with
      | none => rw [w.no e] at e1; cases e1
      | some w0 =>
        have := w.win w0 e w1 e1
        exact hw ⟨he, w0, l, e, e2, by omega⟩
    | _ => exact hw'
theorem Wider.runs {D D' : SysD} {ms : List Mv} {R : Rs} (w : Wider D D') (h : RunsOk D ms R) : RunsOk D' ms R := fun pre m post e => by
  rw [w.all]
  exact ⟨w.fits (h pre m post e).1, (h pre m post e).2⟩
theorem Wider.dok {D D' : SysD} (w : Wider D D') (h : DOk D) : DOk D' := by
  have h1 : D'.ss = D.ss := by unfold SysD.ss; rw [w.ks]
  have h2 : D'.B = D.B := by unfold SysD.B; rw [h1]
  have h3 : D'.n = D.n := by unfold SysD.n; rw [h1]
  exact ⟨by rw [h2]; exact h.ne, by rw [h3]; exact h.n3, by rw [w.ah]; exact h.ah, by rw [h1]; exact h.blk⟩
theorem runsOk_snoc {D : SysD} {ms : List Mv} {m : Mv} {R : Rs} (h : RunsOk D ms R) (hf : m.Fits D (stepAll D ms R)) (hl : Lim9 (stepAll D ms R)) : RunsOk D (ms ++ [m]) R := by
  intro pre x post e
  rcases List.eq_nil_or_concat post with rfl | ⟨post', y, rfl⟩
  · have := List.append_inj' e rfl
    obtain ⟨rfl, h2⟩ := this
    cases h2
    exact ⟨hf, hl⟩
  · rw [List.concat_eq_append] at e
    have e' : ms ++ [m] = (pre ++ x :: post') ++ [y] := by simpa using e
    have := List.append_inj' e' rfl
    exact h pre x post' this.1
theorem stepAll_snoc (D : SysD) (ms : List Mv) (m : Mv) (R : Rs) : stepAll D (ms ++ [m]) R = (stepAll D ms R).step D m := by
  unfold stepAll
  rw [List.foldl_append]; rfl
/-! ### the system and the plan of what is built -/
def Kd.row (k : Kd) : Row := ⟨k.name, k.ss, k.block, k.many⟩
def sessR (rs : List Row) : List Row := rs.flatMap fun r => List.replicate r.many.toNat r
theorem sess_row (ks : List Kd) : (sess ks).map Kd.row = sessR (ks.map Kd.row) := by
  unfold sess sessR
  induction ks with
  | nil => rfl
  | cons k ks ih => simp only [List.flatMap_cons, List.map_append, List.map_cons, ih, List.map_replicate]; rfl
theorem sessR_snoc (rs : List Row) (r : Row) : sessR (rs ++ [r]) = sessR rs ++ List.replicate r.many.toNat r := by
  unfold sessR; rw [List.flatMap_append]; simp
theorem sessR_len : ∀ (rs : List Row), (∀ r ∈ rs, 1 ≤ r.many) → ((sessR rs).length : Int) = (rs.map (·.many)).sum
  | [], _ => rfl
  | r :: rs, h => by
    have h1 := sessR_len rs fun x hx => h x (by simp [hx])
    have h2 := h r (by simp)
    unfold sessR at h1 ⊢
    rw [List.flatMap_cons, List.length_append, List.length_replicate, List.map_cons, List.sum_cons, ← h1]
    omega
theorem sessR_mem {rs : List Row} {r : Row} (h : r ∈ sessR rs) : r ∈ rs := by
  obtain ⟨x, h1, h2⟩ := List.mem_flatMap.mp h
  rw [(List.mem_replicate.mp h2).2]; exact h1
theorem ScriptAt.butL {K : PySem.W.Frag} {H H' : Hp} {x : Addr} {xs : List V} {p : Addr} {ss : List Sm} {n : Nat} (sb : SameBut x H H') (ex : H x = some (.lst xs)) : ScriptAt K H p ss n → ScriptAt K H' p ss n := by
  rintro ⟨a, b, c, d, f, g, h, S⟩
  have tp : Tp H H' := sb.tp ex (fun _ z => nomatch z)
  exact ⟨a, b, c, d, f, g, h, {
    ins := sb _ _ (ne_of S.ins ex (fun z => nomatch z)) S.ins
    stm := tp _ _ S.stm
    all := S.all.mono tp
    tab := sb _ _ (ne_of S.tab ex (fun z => nomatch z)) S.tab
    pls := tp _ _ S.pls
    pl := fun b hb => tp _ _ (S.pl b hb)
    key := S.key
    val := fun pl st r h => let ⟨v, h1, h2⟩ := S.val pl st r h; ⟨v, h1, h2.mono tp⟩
    len := S.len
    short := S.short }⟩
theorem KindAt.butL {K : PySem.W.Frag} {H H' : Hp} {x : Addr} {xs : List V} {p : Addr} {k : Kd} (sb : SameBut x H H') (ex : H x = some (.lst xs)) : KindAt K H p k → KindAt K H' p k := by
  rintro ⟨a, b, e, s⟩
  exact ⟨a, b, sb _ _ (ne_of e ex (fun z => nomatch z)) e, s.butL sb ex⟩
def gMakeK (C : Addr) (n m : Nat) (sp : Sp) (gV : List V → List V → List V) (E : XK) (vs zs : List V) (H : Hp) (Q : VK) : Prop := vs.length = n ∧ zs.length = m ∧ ∀ x dx, H x = none → H dx = none → dx ≠ x →
  sp (gV (.ref x :: vs) zs) (upd (upd H dx (.own x)) x (.ins C dx [])) (fun v H3 => v = .non ∧ Q (.ref x) H3) E
theorem w_makeK {C : Addr} {n m : Nat} {sp : Sp} {gV : List V → List V → List V} {E : XK} {t tk : TA} {σ : L2.St} {H : Hp} {Q : VK} (h : t σ H fun vs H1 => tk σ H1 fun zs H2 => gMakeK C n m sp gV E vs zs H2 Q) : tMakeK C n m sp gV E t tk σ H Q := h
def gMakeKS (C : Addr) (m : Nat) (sp : SpK) (E : XK) (vs zs : List V) (H : Hp) (Q : VK) : Prop := zs.length = m ∧ ∀ x dx, H x = none → H dx = none → dx ≠ x →
  sp (.ref x :: vs) zs (upd (upd H dx (.own x)) x (.ins C dx [])) (fun v H3 => v = .non ∧ Q (.ref x) H3) E
theorem w_makeKS {C : Addr} {m : Nat} {sp : SpK} {E : XK} {t tk : TA} {σ : L2.St} {H : Hp} {Q : VK} (h : t σ H fun vs H1 => tk σ H1 fun zs H2 => gMakeKS C m sp E vs zs H2 Q) : tMakeKS C m sp E t tk σ H Q := h
theorem zip_refs {α : Type} : ∀ {as : List Addr} {rs : List α}, as.length = rs.length → (as.zip rs).map (fun y => V.ref y.1) = as.map V.ref
  | [], [], _ => rfl
  | a :: as, r :: rs, h => by simp [zip_refs (as := as) (rs := rs) (by simpa using h)]
  | [], _ :: _, h => by simp at h
  | _ :: _, [], h => by simp at h
theorem zip_snd {α β : Type} : ∀ {as : List α} {rs : List β}, as.length = rs.length → (as.zip rs).map (·.2) = rs
  | [], [], _ => rfl
  | a :: as, r :: rs, h => by simp [zip_snd (as := as) (rs := rs) (by simpa using h)]
  | [], _ :: _, h => by simp at h
  | _ :: _, [], h => by simp at h
/-- what is built lies at b -/
structure BuiltAt (H : Hp) (b : Addr) (cap : Int) (rs : List Row) (ahead w crashes : Int) : Prop where
  ex : ∃ (rl : Addr) (as : List Addr), H b = some (.lst [.ref rl, .int ahead, .int w, .int crashes]) ∧ H rl = some (.lst (as.map V.ref)) ∧ as.length = rs.length ∧ ∀ q ∈ as.zip rs, RowIn H q.1 q.2
  ok : BuiltOk cap rs
  cap : cap = 4 ∨ cap = 8
  ah : 0 ≤ ahead ∧ ahead ≤ 4
  cr : 0 ≤ crashes ∧ crashes ≤ 2
  win : 3 ≤ w ∧ w ≤ 8
theorem fit_built {cap : Int} {rs : List Row} {ks : List Kd} {ahead w crashes : Int} (ok : BuiltOk cap rs) (hcap : cap = 4 ∨ cap = 8) (ah : 0 ≤ ahead ∧ ahead ≤ 4) (cr : 0 ≤ crashes ∧ crashes ≤ 2) (win : 3 ≤ w ∧ w ≤ 8) (hk : ks.map Kd.row = rs) (hn : ∀ k ∈ ks, ((k.n : Nat) : Int) ≤ cap) : Fit ks ahead (some w) crashes := by
  subst hk
  have hm : (ks.map Kd.row).map (·.many) = ks.map (·.many) := by rw [List.map_map]; rfl
  have hnm : (ks.map Kd.row).map (·.name) = ks.map (·.name) := by rw [List.map_map]; rfl
  have hr : ∀ k ∈ ks, RowOk cap k.row := fun k hk => ok.ok _ (List.mem_map.mpr ⟨k, hk, rfl⟩)
  have hl := ok.len
  rw [List.length_map] at hl
  have ht := ok.tot
  have hb := ok.big
  rw [hm] at ht hb
  have hnd := ok.nd
  rw [hnm] at hnd
  refine ⟨?_, by omega, hnd, fun k hk => (hr k hk).m.1, ht, fun h3 k hk => ?_, fun k hk => ?_, ah, cr, ?_⟩
  · rintro rfl; simp at hl
  · have := hn k hk
    rcases hcap with h | h
    · omega
    · have := hb (by omega); omega
  · have := hn k hk; omega
  · intro w' e
    cases e
    exact ⟨by omega, win.2, fun k hk => by have := (hr k hk).b.2; show k.row.block ≤ w; omega⟩
theorem dok_built {cap : Int} {rs : List Row} {D : SysD} (ok : BuiltOk cap rs) (ah : 0 ≤ D.ahead ∧ D.ahead ≤ 4) (hk : D.ks.map Kd.row = rs) : DOk D := by
  have hs : D.ss.map Kd.row = sessR rs := by rw [← hk]; exact sess_row D.ks
  have hr : ∀ k ∈ D.ss, RowOk cap k.row := fun k hk => ok.ok _ (sessR_mem (hs ▸ List.mem_map.mpr ⟨k, hk, rfl⟩))
  refine ⟨fun ss hss => ?_, ?_, ah, fun k hk => (hr k hk).b⟩
  · obtain ⟨k, hk, rfl⟩ := List.mem_map.mp hss
    exact (hr k hk).ne
  · have h1 := congrArg List.length hs
    rw [List.length_map] at h1
    have h2 := sessR_len rs fun r hr => (ok.ok r hr).m.1
    have h3 := ok.tot
    show D.ss.length ≤ 3
    omega
section
variable {P : Program} {w : World} {K : PySem.W.Frag} {mg : Str → Option Value} {base : Heap}
def sp__law_system (K : PySem.W.Frag) : Sp := fun vs H Q E => ∃ b cap rs ahead w crashes, vs = [.ref b] ∧ BuiltAt H b cap rs ahead w crashes ∧ (∀ H' a (D : SysD), Same H H' → SysAt K H' a D.ks D.ahead D.window D.crashes → D.ks.map Kd.row = rs → D.ahead = ahead → D.window = some w → D.crashes = crashes → DOk D → Fit D.ks D.ahead D.window D.crashes → Q (.ref a) H')
theorem len__law_system (K : PySem.W.Frag) : ∀ (vs : List V) (H : Hp) (Q : VK) (E : XK), sp__law_system K vs H Q E → vs.length = 1 := by
  rintro vs H Q E ⟨_, _, _, _, _, _, rfl, _⟩
  rfl
theorem ok__law_system (T : Txt K mg) : CallF P w K mg base 13 (He.ga K "_law_system") ["_law_built"] (sp__law_system K) := by
  obtain ⟨fd, F⟩ := T.d__law_system
  have G_System___init__ := ok_System___init__ (P := P) (w := w) (base := base) T
  obtain ⟨fd_Kind___init__, G_Kind___init__, g_Kind___init__, kb_Kind⟩ := ok_Kind___init__ (P := P) (w := w) (base := base) T
  refine ⟨fd, F.ok cs_law_system (len__law_system K) (fun cdv A outer s H vs Q E hr hsp => ?_), F.bindsN (fun _ _ _ _ _ _ us hl => match us, hl with | [_], _ => rfl), F.kp⟩
  have hu := hu_of hr
  have hu65 : (A.deeper (envOfC "_law_system" (defScope s_law_system) s.heap.objs.size (He.ga K "_law_system") cdv)).units + 65 < cLine := by have := hr.un; omega
  have hu0 := hr.units0
  refine ⟨_, PSs.nox (pss_cons (ps_setLc (i := 1) (own := [("_law_row", 2)]) rfl cs_law_system.nd rfl rfl (sw_true rfl rfl rfl (by decide +kernel)) (pi_list (pe_ix ix_list (pv 0) pe_int (fun _ _ => rfl))) (blkOk_by (own := [("_law_row", 2)]) (N := ["_law_built", "_law_kinds", "_law_row"]) (sc := defScope s_law_system) (by decide +kernel)) (fun _ _ _ _ _ => (pg_name (i := 2) cs_law_system.nd rfl (Or.inl rfl))) (fun _ _ _ _ _ => pts_nil) (fun _ _ _ _ _ => (pe_makeK T.k_Kind G_Kind___init__ (hr.mono (by decide)) (by rfl) T.g_Kind kb_Kind pass0 (pa_cons (pe_ix (ix_tupB (K := K) rfl) (pv 2) pe_int (fun _ _ => rfl)) (pa_cons (pe_ix (ix_tupB (K := K) rfl) (pv 2) pe_int (fun _ _ => rfl)) pa_nil)) (pk_cons (pe_ix (ix_tupB (K := K) rfl) (pv 2) pe_int (fun _ _ => rfl)) (pk_cons (pe_ix (ix_tupB (K := K) rfl) (pv 2) pe_int (fun _ _ => rfl)) pk_nil)))))
      (pss_cons (ps_if (pt_cmpR op_eq (pe_callB call_lenN (by rfl) T.f_len (by decide +kernel) (pa_cons (pv 1) pa_nil)) pe_int (nomark _)) (pss_one (ps_ret (pe_makeKS T.k_System G_System___init__ (hr.mono (by decide)) (by rfl) T.g_System pass0 (pa_cons (pe_ix ix_list (pv 1) pe_int (fun _ _ => rfl)) pa_nil) (pk_cons (pe_ix ix_list (pv 0) pe_int (fun _ _ => rfl)) (pk_cons (pe_ix ix_list (pv 0) pe_int (fun _ _ => rfl)) (pk_cons (pe_ix ix_list (pv 0) pe_int (fun _ _ => rfl)) pk_nil)))))) pss_nil)
      (pss_one (ps_ret (pe_makeKS T.k_System G_System___init__ (hr.mono (by decide)) (by rfl) T.g_System pass0 (pa_cons (pe_ix ix_list (pv 1) pe_int (fun _ _ => rfl)) (pa_cons (pe_ix ix_list (pv 1) pe_int (fun _ _ => rfl)) pa_nil)) (pk_cons (pe_ix ix_list (pv 0) pe_int (fun _ _ => rfl)) (pk_cons (pe_ix ix_list (pv 0) pe_int (fun _ _ => rfl)) (pk_cons (pe_ix ix_list (pv 0) pe_int (fun _ _ => rfl)) pk_nil)))))))), ?_⟩
  obtain ⟨b, cap, rs, ahead, w, crashes, rfl, ⟨⟨rl, as, eb, erl, hl, hrow⟩, bok, hcap, hah, hcr, hwin⟩, hq⟩ := hsp
  have hrs := bok.len
  walk_at "st"
  walk_at "rd"
  refine lcL (ys := as.zip rs) (val := fun y => .ref y.1) (by rw [zip_refs hl]; exact erl) (fun D pre acc H' => ∃ ks : List (Addr × Kd), acc = ks.map (fun b => V.ref b.1) ∧ ks.map (fun b => b.2.row) = pre.map (·.2) ∧ KindsAt K H' ks ∧ (∀ b ∈ ks, ((b.2.n : Nat) : Int) ≤ cap) ∧ Same H H' ∧ H' D = some (.lst acc) ∧ H D = none)
    (fun D hD => ⟨[], rfl, rfl, fun _ h => (by cases h), fun _ h => (by cases h), same_new hD, upd_same, hD⟩) (fun D pre acc H' ⟨_, _, _, _, _, s, _⟩ => by rw [zip_refs hl]; exact s _ _ erl) ?_ ?_
  · rintro D pre y post acc H1 hD hy ⟨ks, rfl, hks, KA, hkn, hs1, eD, _⟩
    have hym : y ∈ as.zip rs := by rw [hy]; simp
    obtain ⟨br, bvs, ey, ebr, dbr⟩ := hrow y hym
    have hyr : y.2 ∈ rs := (List.of_mem_zip hym).2
    have rok := bok.ok y.2 hyr
    obtain ⟨c', n', hv, hvn⟩ := rok.v
    have ey1 := hs1 _ _ ey
    refine w_name rfl ?_
    refine ⟨rfl, ?_⟩
    refine w_yes ?_
    refine w_iteT ?_
    refine w_makeK ?_
    walk_at "rd"
    refine ⟨rfl, rfl, fun x dx nx nd ne => ?_⟩
    have hs2 : Same H1 (upd (upd H1 dx (.own x)) x (.ins (He.ga K "Kind") dx [])) := same_made nx nd
    have ex2 : upd (upd H1 dx (.own x)) x (.ins (He.ga K "Kind") dx []) x = some _ := upd_same
    generalize upd (upd H1 dx (.own x)) x (.ins (He.ga K "Kind") dx []) = H2 at *
    refine ⟨x, y.2.name, br, y.2.block, y.2.many, dx, bvs, y.2.ss, c', n', rfl, ex2, rok.nm, rok.b.1, rok.b.2, rok.m.1, by have := rok.m.2; omega, hs2 _ _ (hs1 _ _ ebr), dbr.mono (hs1.trans hs2).tp', hv, rok.ne, fun H3 n sb3 hn hkd => ⟨rfl, ?_⟩⟩
    have hs13 : Same H1 H3 := SameBut.new hs2 sb3 nx
    have eD3 := hs13 _ _ eD
    have hkl : ks.length = pre.length := by have := congrArg List.length hks; simpa using this
    have hpl : pre.length < as.length + 1 := by
      have := congrArg List.length hy
      rw [List.length_zip, hl, Nat.min_self] at this
      simp at this; omega
    have sbD : ∀ o, SameBut D H3 (upd H3 D o) := fun o => (SameBut.refl D H3).put
    refine ⟨_, eD3, small1000 (by rw [List.length_map]; omega), _, ks ++ [(x, ⟨y.2.name, y.2.ss, n, y.2.block, y.2.many⟩)], rfl, ?_, ?_, ?_, same_put (hs1.trans hs13) hD, ?_, hD⟩
    · rw [List.map_append, List.map_append, hks]; rfl
    · intro q hq
      rcases List.mem_append.mp hq with hq | hq
      · exact ((KA q hq).mono hs13).butL (sbD _) eD3
      · rw [List.mem_singleton.mp hq]
        exact hkd.butL (sbD _) eD3
    · intro q hq
      rcases List.mem_append.mp hq with hq | hq
      · exact hkn q hq
      · rw [List.mem_singleton.mp hq]
        show ((n : Nat) : Int) ≤ cap
        omega
    · rw [upd_same, List.map_append]; rfl
  · rintro D acc H1 hD ⟨ks, rfl, hks, KA, hkn, hs1, eD, _⟩
    rw [zip_snd hl] at hks
    have hkr : (ks.map (·.2)).map Kd.row = rs := by rw [List.map_map]; exact hks
    have F : Fit (ks.map (·.2)) ahead (some w) crashes := fit_built bok hcap hah hcr hwin hkr (fun k hk => by
      obtain ⟨q, hq, rfl⟩ := List.mem_map.mp hk
      exact hkn q hq)
    have hkl : ks.length = 1 ∨ ks.length = 2 := by
      have := congrArg List.length hks
      rw [List.length_map] at this
      omega
    have eb1 := hs1 _ _ eb
    have fin : ∀ H' a, Same H1 H' → SysAt K H' a (ks.map (·.2)) ahead (some w) crashes → Q (.ref a) H' := fun H' a hs hsys =>
      hq H' a ⟨ks.map (·.2), ahead, some w, crashes⟩ (hs1.trans hs) hsys hkr rfl rfl rfl (dok_built bok hah hkr) F
    rcases hkl with h1 | h2
    · obtain ⟨k1, rfl⟩ : ∃ k1, ks = [k1] := List.length_eq_one_iff.mp h1
      walk_at "rd"
      refine w_makeKS ?_
      walk_at "rd"
      exact ⟨rfl, fun x dx nx nd ne => sys_make (ps := [k1]) (w := some w) KA F nx nd fun H' hs hsys => fin _ _ hs hsys⟩
    · obtain ⟨k1, k2, rfl⟩ : ∃ k1 k2, ks = [k1, k2] := by
        match ks, h2 with
        | [x, y], _ => exact ⟨x, y, rfl⟩
      walk_at "rd"
      refine w_makeKS ?_
      walk_at "rd"
      exact ⟨rfl, fun x dx nx nd ne => sys_make (ps := [k1, k2]) (w := some w) KA F nx nd fun H' hs hsys => fin _ _ hs hsys⟩
/-- the plan at p -/
def PlanR (H : Hp) (p : Addr) (rs : List Row) (ahead w crashes : Int) : Prop := ∃ (pb pk : Addr) (bs : List Addr), H p = some (.lst [.ref pb, .ref pk, .int ahead, .int w, .int crashes]) ∧ H pb = some (.lst (bs.map V.ref)) ∧ H pk = some (.lst ((sessR rs).map fun r => V.int r.block)) ∧ bs.length = (sessR rs).length ∧
  ∀ q ∈ bs.zip (sessR rs), ∃ bvs, H q.1 = some (.tup bvs) ∧ DsAll H bvs q.2.ss
theorem PlanR.mono {H H' : Hp} {p : Addr} {rs : List Row} {ahead w crashes : Int} (s : Same H H') : PlanR H p rs ahead w crashes → PlanR H' p rs ahead w crashes := fun ⟨pb, pk, bs, h1, h2, h3, h4, h5⟩ =>
  ⟨pb, pk, bs, s _ _ h1, s _ _ h2, s _ _ h3, h4, fun q hq => let ⟨bvs, g1, g2⟩ := h5 q hq; ⟨bvs, s _ _ g1, g2.mono s.tp'⟩⟩
def sp__law_plan (K : PySem.W.Frag) : Sp := fun vs H Q E => ∃ b cap rs ahead w crashes, vs = [.ref b] ∧ BuiltAt H b cap rs ahead w crashes ∧ (∀ H' p, Same H H' → H p = none → PlanR H' p rs ahead w crashes → Q (.ref p) H')
theorem len__law_plan (K : PySem.W.Frag) : ∀ (vs : List V) (H : Hp) (Q : VK) (E : XK), sp__law_plan K vs H Q E → vs.length = 1 := by
  rintro vs H Q E ⟨_, _, _, _, _, _, rfl, _⟩
  rfl
theorem ok__law_plan (T : Txt K mg) : CallF P w K mg base 1 (He.ga K "_law_plan") ["_law_built"] (sp__law_plan K) := by
  obtain ⟨fd, F⟩ := T.d__law_plan
  refine ⟨fd, F.ok cs_law_plan (len__law_plan K) (fun cdv A outer s H vs Q E hr hsp => ?_), F.bindsN (fun _ _ _ _ _ _ us hl => match us, hl with | [_], _ => rfl), F.kp⟩
  have hu := hu_of hr
  have hu65 : (A.deeper (envOfC "_law_plan" (defScope s_law_plan) s.heap.objs.size (He.ga K "_law_plan") cdv)).units + 65 < cLine := by have := hr.un; omega
  have hu0 := hr.units0
  refine ⟨_, PSs.nox (pss_cons (ps_set (i := 1) cs_law_plan.nd rfl (Or.inl rfl) (pe_lst pa_nil))
      (pss_cons (ps_set (i := 2) cs_law_plan.nd rfl (Or.inl rfl) (pe_lst pa_nil))
      (pss_cons (ps_for PassesOwn.never rfl (pi_list (pe_ix ix_list (pv 0) pe_int (fun _ _ => rfl))) (pg_name (i := 3) cs_law_plan.nd rfl (Or.inl rfl)) (pss_cons (ps_set (i := 1) cs_law_plan.nd rfl (Or.inl rfl) (pe_op op_cat (pv 1) (pe_op op_rep (pe_lst (pa_cons (pe_ix ix_tup (pv 3) pe_int (fun _ _ => rfl)) pa_nil)) (pe_ix ix_tup (pv 3) pe_int (fun _ _ => rfl)))))
      (pss_one (ps_set (i := 2) cs_law_plan.nd rfl (Or.inl rfl) (pe_op op_cat (pv 2) (pe_op op_rep (pe_lst (pa_cons (pe_ix ix_tup (pv 3) pe_int (fun _ _ => rfl)) pa_nil)) (pe_ix ix_tup (pv 3) pe_int (fun _ _ => rfl))))))))
      (pss_one (ps_ret (pe_lst (pa_cons (pv 1) (pa_cons (pv 2) (pa_cons (pe_ix ix_list (pv 0) pe_int (fun _ _ => rfl)) (pa_cons (pe_ix ix_list (pv 0) pe_int (fun _ _ => rfl)) (pa_cons (pe_ix ix_list (pv 0) pe_int (fun _ _ => rfl)) pa_nil))))))))))), ?_⟩
  obtain ⟨b, cap, rs, ahead, w, crashes, rfl, ⟨⟨rl, as, eb, erl, hl, hrow⟩, bok, hcap, hah, hcr, hwin⟩, hq⟩ := hsp
  have hrs := bok.len
  have hmany : ∀ r ∈ rs, 1 ≤ r.many ∧ r.many ≤ 2 := fun r hr => (bok.ok r hr).m
  walk_at "st"
  walk_at "rd"
  rename_i b1 H1 hn1 hs1 eb1 he1 b2 H2 hn2 hs2 eb2 he2
  refine forL (ys := as.zip rs) (val := fun y => .ref y.1) (fun pre σ H' => Same H H' ∧ ∃ b1 b2 bs o, σ = [some (.ref b), some (.ref b1), some (.ref b2), o] ∧ H' b1 = some (.lst (List.map V.ref bs)) ∧ H' b2 = some (.lst ((sessR (pre.map (·.2))).map fun r => V.int r.block)) ∧ bs.length = (sessR (pre.map (·.2))).length ∧
      ∀ q ∈ bs.zip (sessR (pre.map (·.2))), ∃ bvs, H' q.1 = some (.tup bvs) ∧ DsAll H' bvs q.2.ss)
    ⟨hs1.trans hs2, b1, b2, [], none, rfl, hs2 _ _ eb1, eb2, rfl, fun q hq => (by cases hq)⟩ (fun pre σ H' h => by rw [zip_refs hl]; exact h.1 _ _ erl) ?_ ?_
  · rintro pre y post σ H3 hy ⟨hs3, c1, c2, bs, o, rfl, ec1, ec2, hbl, hbs⟩
    have hym : y ∈ as.zip rs := by rw [hy]; simp
    obtain ⟨br, bvs, ey, ebr, dbr⟩ := hrow y hym
    have hyr : y.2 ∈ rs := (List.of_mem_zip hym).2
    have hm := hmany y.2 hyr
    have ey3 := hs3 _ _ ey
    have hsl : (sessR (pre.map (·.2))).length ≤ 4 := by
      have h1 := sessR_len (pre.map (·.2)) (fun r hr => by
        obtain ⟨z, hz, rfl⟩ := List.mem_map.mp hr
        exact (hmany z.2 (List.of_mem_zip (show z ∈ as.zip rs by rw [hy]; simp [hz])).2).1)
      have h2 : ((pre.map (·.2)).map (·.many)).sum ≤ 2 * pre.length := by
        have : ∀ l : List (Addr × Row), (∀ z ∈ l, z.2.many ≤ 2) → ((l.map (·.2)).map (·.many)).sum ≤ 2 * l.length := by
          intro l
          induction l with
          | nil => intro _; simp
          | cons a l ih => intro h; have := ih fun z hz => h z (by simp [hz]); have := h a (by simp); simp only [List.map_cons, List.sum_cons, List.length_cons]; omega
        exact this pre fun z hz => (hmany z.2 (List.of_mem_zip (show z ∈ as.zip rs by rw [hy]; simp [hz])).2).2
      have h3 : pre.length ≤ 2 := by
        have := congrArg List.length hy
        rw [List.length_zip, hl, Nat.min_self] at this
        simp at this; omega
      omega
    walk_at "rd"
    rename_i d1 H4 hn4 hs4 ed1 he4
    refine ⟨_, _, _, rfl, rfl, ed1, by omega, by omega, small9 (by show 1 * y.2.many.toNat ≤ 1000; omega), fun d2 hd2 => ?_⟩
    have hs5 := same_new (H := H4) (o := .lst (List.replicate y.2.many.toNat [V.ref br]).flatten) hd2
    have ed2 : upd H4 d2 (.lst (List.replicate y.2.many.toNat [V.ref br]).flatten) d2 = some _ := upd_same
    generalize upd H4 d2 (.lst (List.replicate y.2.many.toNat [V.ref br]).flatten) = H5 at *
    have hs35 := hs4.trans hs5
    refine w_cat (hs35 _ _ ec1) ed2 (small9 (by simp; omega)) ?_
    walk_at "rd"
    rename_i e1 H6 hn6 hs6 ee1 he6 d3 H7 hn7 hs7 ed3 he7
    refine ⟨_, _, _, rfl, rfl, ed3, by omega, by omega, small9 (by show 1 * y.2.many.toNat ≤ 1000; omega), fun d4 hd4 => ?_⟩
    have hs8 := same_new (H := H7) (o := .lst (List.replicate y.2.many.toNat [V.int y.2.block]).flatten) hd4
    have ed4 : upd H7 d4 (.lst (List.replicate y.2.many.toNat [V.int y.2.block]).flatten) d4 = some _ := upd_same
    generalize upd H7 d4 (.lst (List.replicate y.2.many.toNat [V.int y.2.block]).flatten) = H8 at *
    have hs68 := hs7.trans hs8
    have hs38 := (hs35.trans hs6).trans hs68
    refine w_cat (hs38 _ _ ec2) ed4 (small9 (by simp; omega)) ?_
    walk_at "rd"
    rename_i e2 H9 hn9 hs9 ee2 he9
    have hsF := (hs3.trans hs38).trans hs9
    have hsG := hs38.trans hs9
    refine ⟨hsF, e1, e2, bs ++ List.replicate y.2.many.toNat br, _, rfl, ?_, ?_, ?_, ?_⟩
    · rw [(hs68.trans hs9) _ _ ee1]; simp
    · rw [ee2, List.map_append, List.map_cons, List.map_nil, sessR_snoc]; simp
    · rw [List.map_append, List.map_cons, List.map_nil, sessR_snoc]; simp [hbl]
    · rw [List.map_append, List.map_cons, List.map_nil, sessR_snoc, List.zip_append hbl]
      intro q hq
      rcases List.mem_append.mp hq with hq | hq
      · obtain ⟨bvs, g1, g2⟩ := hbs q hq
        exact ⟨bvs, hsG _ _ g1, g2.mono hsG.tp'⟩
      · have h1 := List.of_mem_zip hq
        have h2 := (List.mem_replicate.mp h1.1).2
        have h3 := (List.mem_replicate.mp h1.2).2
        rw [h2, h3]
        exact ⟨bvs, hsF _ _ ebr, dbr.mono hsF.tp'⟩
  · rintro σ H3 ⟨hs3, c1, c2, bs, o, rfl, ec1, ec2, hbl, hbs⟩
    rw [zip_snd hl] at ec2 hbl hbs
    have eb3 := hs3 _ _ eb
    walk_at "rd"
    rename_i p H4 hn4 hs4 ep he4
    exact hq _ _ (hs3.trans hs4) (hs3.free hn4) ⟨c1, c2, bs, ep, hs4 _ _ ec1, hs4 _ _ ec2, hbl, fun q hq => let ⟨bvs, g1, g2⟩ := hbs q hq; ⟨bvs, hs4 _ _ g1, g2.mono hs4.tp'⟩⟩
end
/-! ### the law's own model: a list of ten, four lists in it that are written, all others new each time -/
structure Mo where
  a : Addr
  r : Addr
  l : Addr
  t : Addr
  s : Addr
  p : Addr
  pb : Addr
  pk : Addr
def Mo.Has (M : Mo) (x : Addr) : Prop := x = M.a ∨ x = M.r ∨ x = M.l ∨ x = M.t ∨ x = M.s
/-- what is not the model's stays -/
def Kp (M : Mo) (H H' : Hp) : Prop := ∀ x o, ¬ M.Has x → H x = some o → H' x = some o
theorem Kp.refl (M : Mo) (H : Hp) : Kp M H H := fun _ _ _ h => h
theorem Kp.trans {M : Mo} {H H1 H2 : Hp} (a : Kp M H H1) (b : Kp M H1 H2) : Kp M H H2 := fun x o n h => b x o n (a x o n h)
theorem Kp.of {M : Mo} {H H1 : Hp} (s : Same H H1) : Kp M H H1 := fun x o _ h => s x o h
theorem Kp.put {M : Mo} {H H1 : Hp} {x : Addr} {o : HO} (s : Kp M H H1) (h : M.Has x) : Kp M H (upd H1 x o) := fun y u n e => by
  rw [upd_ne (fun z => n (by rw [z]; exact h))]; exact s y u n e
/-- the heap without what is another's -/
noncomputable def cut (U : Addr → Prop) (H : Hp) : Hp := open Classical in fun x => if U x then none else H x
section
variable {U : Addr → Prop} {H H' : Hp} {x : Addr} {o : HO}
theorem cut_no (h : U x) : cut U H x = none := if_pos h
theorem cut_yes (h : ¬ U x) : cut U H x = H x := if_neg h
theorem cut_some (e : cut U H x = some o) : ¬ U x ∧ H x = some o := by
  by_cases h : U x
  · rw [cut_no h] at e; cases e
  · rw [cut_yes h] at e; exact ⟨h, e⟩
theorem cut_sub : Same (cut U H) H := fun _ _ e => (cut_some e).2
theorem cut_same (s : Same H H') : Same (cut U H) (cut U H') := fun x o e => by
  obtain ⟨h1, h2⟩ := cut_some e
  rw [cut_yes h1]; exact s x o h2
theorem cut_upd (h : ¬ U x) : cut U (upd H x o) = upd (cut U H) x o := by
  funext y
  by_cases e : y = x
  · subst e; rw [cut_yes h, upd_same, upd_same]
  · rw [upd_ne e]
    by_cases h2 : U y
    · rw [cut_no h2, cut_no h2]
    · rw [cut_yes h2, cut_yes h2, upd_ne e]
theorem cut_kp {M : Mo} (k : Kp M H H') : Kp M (cut U H) (cut U H') := fun x o n e => by
  obtain ⟨h1, h2⟩ := cut_some e
  rw [cut_yes h1]; exact k x o n h2
end
def Full (U : Addr → Prop) (H : Hp) : Prop := ∀ x, U x → ∃ o, H x = some o
theorem Full.out {U : Addr → Prop} {H : Hp} {q : Addr} (f : Full U H) (h : H q = none) : ¬ U q := fun hu => by
  obtain ⟨o, e⟩ := f q hu
  rw [h] at e; cases e
structure SimIn (h : Hp) (M : Mo) (D : SysD) (R : Rs) (cm lo : Addr) (cv lv : List V) (sp : Option Int) (ri li ti si bi : Nat → Addr) : Prop where
  ea : h M.a = some (.lst [.int R.height, .int R.noted, .int R.crashes, .ref M.r, .ref M.l, .ref M.t, .ref M.s, .ref cm, .ref lo, oV sp])
  er : h M.r = some (.lst (refs D.n ri))
  el : h M.l = some (.lst (refs D.n li))
  et : h M.t = some (.lst (refs D.n ti))
  es : h M.s = some (.lst (refs D.n si))
  ecm : h cm = some (.lst cv)
  elo : h lo = some (.lst lv)
  ep : h M.p = some (.lst [.ref M.pb, .ref M.pk, .int D.ahead, oV D.window, .int D.crashes])
  epb : h M.pb = some (.lst (refs D.n bi))
  epk : h M.pk = some (.lst ((D.ss.map (·.block)).map V.int))
  br : ∀ i, i < D.n → ∃ bvs, h (bi i) = some (.tup bvs) ∧ DsAll h bvs (D.B.getD i [])
  rest : ∀ i, i < D.n → ∃ bvs, h (ri i) = some (.tup bvs) ∧ DsAll h bvs (R.rests.getD i [])
  lk : ∀ i, i < D.n → ∃ ns : List Str, h (li i) = some (.lst (ns.map V.str)) ∧ ns.Perm (R.locks.getD i []) ∧ ¬ M.Has (li i)
  tr : ∀ i, i < D.n → h (ti i) = some (.lst ((R.trans.getD i []).map V.int)) ∧ ¬ M.Has (ti i)
  st : ∀ i, i < D.n → h (si i) = some (.lst ((R.stores.getD i []).map V.int)) ∧ ¬ M.Has (si i)
  nh : ¬ M.Has cm ∧ ¬ M.Has lo ∧ ¬ M.Has M.p ∧ ¬ M.Has M.pb ∧ ¬ M.Has M.pk
  dis : (M.a ≠ M.r ∧ M.a ≠ M.l ∧ M.a ≠ M.t ∧ M.a ≠ M.s) ∧ (M.r ≠ M.l ∧ M.r ≠ M.t ∧ M.r ≠ M.s) ∧ (M.l ≠ M.t ∧ M.l ≠ M.s) ∧ M.t ≠ M.s
  cml : cv.length = R.commits.length
  lol : lv.length = R.lost.length
  len : Lens D.n R
  dok : DOk D
section
variable {U : Addr → Prop} {h h' H H1 H' : Hp} {M : Mo} {D : SysD} {R R' : Rs} {cm lo cm' lo' : Addr} {cv lv cv' lv' : List V} {sp sp' : Option Int} {ri li ti si bi : Nat → Addr} {q : Addr} {s : Nat} {o : HO}
namespace SimIn
/-- the constructor over another heap where only the five differ -/
theorem next (S : SimIn h M D R cm lo cv lv sp ri li ti si bi) (k : Kp M h h') (t : Tp h h') {ri' li' ti' si' : Nat → Addr}
    (ea : h' M.a = some (.lst [.int R'.height, .int R'.noted, .int R'.crashes, .ref M.r, .ref M.l, .ref M.t, .ref M.s, .ref cm', .ref lo', oV sp']))
    (er : h' M.r = some (.lst (refs D.n ri'))) (el : h' M.l = some (.lst (refs D.n li'))) (et : h' M.t = some (.lst (refs D.n ti'))) (es : h' M.s = some (.lst (refs D.n si')))
    (ecm : h' cm' = some (.lst cv') ∧ ¬ M.Has cm') (elo : h' lo' = some (.lst lv') ∧ ¬ M.Has lo')
    (rest : ∀ i, i < D.n → ∃ bvs, h' (ri' i) = some (.tup bvs) ∧ DsAll h' bvs (R'.rests.getD i []))
    (lk : ∀ i, i < D.n → ∃ ns : List Str, h' (li' i) = some (.lst (ns.map V.str)) ∧ ns.Perm (R'.locks.getD i []) ∧ ¬ M.Has (li' i))
    (tr : ∀ i, i < D.n → h' (ti' i) = some (.lst ((R'.trans.getD i []).map V.int)) ∧ ¬ M.Has (ti' i))
    (st : ∀ i, i < D.n → h' (si' i) = some (.lst ((R'.stores.getD i []).map V.int)) ∧ ¬ M.Has (si' i))
    (cml : cv'.length = R'.commits.length) (lol : lv'.length = R'.lost.length) (len : Lens D.n R') : SimIn h' M D R' cm' lo' cv' lv' sp' ri' li' ti' si' bi where
  ea := ea
  er := er
  el := el
  et := et
  es := es
  ecm := ecm.1
  elo := elo.1
  ep := k _ _ S.nh.2.2.1 S.ep
  epb := k _ _ S.nh.2.2.2.1 S.epb
  epk := k _ _ S.nh.2.2.2.2 S.epk
  br := fun i hi => let ⟨bvs, g1, g2⟩ := S.br i hi; ⟨bvs, t _ _ g1, g2.mono t⟩
  rest := rest
  lk := lk
  tr := tr
  st := st
  nh := ⟨ecm.2, elo.2, S.nh.2.2⟩
  dis := S.dis
  cml := cml
  lol := lol
  len := len
  dok := S.dok
theorem mono (S : SimIn h M D R cm lo cv lv sp ri li ti si bi) (s : Same h h') : SimIn h' M D R cm lo cv lv sp ri li ti si bi :=
  S.next (Kp.of s) s.tp' (s _ _ S.ea) (s _ _ S.er) (s _ _ S.el) (s _ _ S.et) (s _ _ S.es) ⟨s _ _ S.ecm, S.nh.1⟩ ⟨s _ _ S.elo, S.nh.2.1⟩ (fun i hi => let ⟨bvs, g1, g2⟩ := S.rest i hi; ⟨bvs, s _ _ g1, g2.mono s.tp'⟩)
    (fun i hi => let ⟨ns, g1, g2, g3⟩ := S.lk i hi; ⟨ns, s _ _ g1, g2, g3⟩) (fun i hi => ⟨s _ _ (S.tr i hi).1, (S.tr i hi).2⟩) (fun i hi => ⟨s _ _ (S.st i hi).1, (S.st i hi).2⟩) S.cml S.lol S.len
/-- what the write of one of the five leaves -/
theorem putTp (S : SimIn h M D R cm lo cv lv sp ri li ti si bi) {x : Addr} (hx : M.Has x) : Tp h (upd h x o) := fun y ys e => by
  have : y ≠ x := by
    rintro rfl
    rcases hx with z | z | z | z | z
    · rw [z, S.ea] at e; cases e
    · rw [z, S.er] at e; cases e
    · rw [z, S.el] at e; cases e
    · rw [z, S.et] at e; cases e
    · rw [z, S.es] at e; cases e
  rw [upd_ne this]; exact e
theorem putRest (S : SimIn h M D R cm lo cv lv sp ri li ti si bi) {x : Addr} (hx : M.Has x) : ∀ i, i < D.n → ∃ bvs, upd h x o (ri i) = some (.tup bvs) ∧ DsAll (upd h x o) bvs (R.rests.getD i []) := fun i hi =>
  let ⟨bvs, g1, g2⟩ := S.rest i hi
  ⟨bvs, S.putTp hx _ _ g1, g2.mono (S.putTp hx)⟩
theorem put_ne {x y : Addr} (hx : M.Has x) (hy : ¬ M.Has y) : upd h x o y = h y := upd_ne fun e => hy (e ▸ hx)
theorem putLk (S : SimIn h M D R cm lo cv lv sp ri li ti si bi) {x : Addr} (hx : M.Has x) : ∀ i, i < D.n → ∃ ns : List Str, upd h x o (li i) = some (.lst (ns.map V.str)) ∧ ns.Perm (R.locks.getD i []) ∧ ¬ M.Has (li i) := fun i hi =>
  let ⟨ns, g1, g2, g3⟩ := S.lk i hi
  ⟨ns, by rw [put_ne hx g3]; exact g1, g2, g3⟩
theorem putTr (S : SimIn h M D R cm lo cv lv sp ri li ti si bi) {x : Addr} (hx : M.Has x) : ∀ i, i < D.n → upd h x o (ti i) = some (.lst ((R.trans.getD i []).map V.int)) ∧ ¬ M.Has (ti i) := fun i hi => ⟨by rw [put_ne hx (S.tr i hi).2]; exact (S.tr i hi).1, (S.tr i hi).2⟩
theorem putSt (S : SimIn h M D R cm lo cv lv sp ri li ti si bi) {x : Addr} (hx : M.Has x) : ∀ i, i < D.n → upd h x o (si i) = some (.lst ((R.stores.getD i []).map V.int)) ∧ ¬ M.Has (si i) := fun i hi => ⟨by rw [put_ne hx (S.st i hi).2]; exact (S.st i hi).1, (S.st i hi).2⟩
theorem ha : M.Has M.a := .inl rfl
theorem hr : M.Has M.r := .inr (.inl rfl)
theorem hl : M.Has M.l := .inr (.inr (.inl rfl))
theorem ht : M.Has M.t := .inr (.inr (.inr (.inl rfl)))
theorem hs : M.Has M.s := .inr (.inr (.inr (.inr rfl)))
/-- the list of ten is written -/
theorem fld (S : SimIn h M D R cm lo cv lv sp ri li ti si bi) (h1 : R'.rests = R.rests) (h2 : R'.locks = R.locks) (h3 : R'.trans = R.trans) (h4 : R'.stores = R.stores) (ecm : h cm' = some (.lst cv') ∧ ¬ M.Has cm') (elo : h lo' = some (.lst lv') ∧ ¬ M.Has lo') (cml : cv'.length = R'.commits.length) (lol : lv'.length = R'.lost.length) :
    SimIn (upd h M.a (.lst [.int R'.height, .int R'.noted, .int R'.crashes, .ref M.r, .ref M.l, .ref M.t, .ref M.s, .ref cm', .ref lo', oV sp'])) M D R' cm' lo' cv' lv' sp' ri li ti si bi := by
  refine S.next ((Kp.refl M h).put ha) (S.putTp ha) upd_same ?_ ?_ ?_ ?_ ⟨by rw [put_ne ha ecm.2]; exact ecm.1, ecm.2⟩ ⟨by rw [put_ne ha elo.2]; exact elo.1, elo.2⟩ ?_ ?_ ?_ ?_ cml lol ⟨by rw [h1]; exact S.len.rests, by rw [h2]; exact S.len.locks, by rw [h3]; exact S.len.trans, by rw [h4]; exact S.len.stores⟩
  · rw [upd_ne (Ne.symm S.dis.1.1)]; exact S.er
  · rw [upd_ne (Ne.symm S.dis.1.2.1)]; exact S.el
  · rw [upd_ne (Ne.symm S.dis.1.2.2.1)]; exact S.et
  · rw [upd_ne (Ne.symm S.dis.1.2.2.2)]; exact S.es
  · rw [h1]; exact S.putRest ha
  · rw [h2]; exact S.putLk ha
  · rw [h3]; exact S.putTr ha
  · rw [h4]; exact S.putSt ha
/-- an item of trans is written -/
theorem wtr {zs : List Int} (S : SimIn h M D R cm lo cv lv sp ri li ti si bi) (hs : s < D.n) (eq : h q = some (.lst (zs.map V.int))) (hq : ¬ M.Has q) :
    SimIn (upd h M.t (.lst ((refs D.n ti).set s (.ref q)))) M D { R with trans := R.trans.set s zs } cm lo cv lv sp ri li (fun i => if i = s then q else ti i) si bi := by
  refine S.next (R' := { R with trans := R.trans.set s zs }) ((Kp.refl M h).put ht) (S.putTp ht) ?_ ?_ ?_ ?_ ?_ ⟨by rw [put_ne ht S.nh.1]; exact S.ecm, S.nh.1⟩ ⟨by rw [put_ne ht S.nh.2.1]; exact S.elo, S.nh.2.1⟩ (S.putRest ht) (S.putLk ht) (fun i hi => ?_) (S.putSt ht) S.cml S.lol ⟨S.len.rests, S.len.locks, by simp [S.len.trans], S.len.stores⟩
  · rw [upd_ne S.dis.1.2.2.1]; exact S.ea
  · rw [upd_ne S.dis.2.1.2.1]; exact S.er
  · rw [upd_ne S.dis.2.2.1.1]; exact S.el
  · rw [upd_same]; exact congrArg (fun x => some (HO.lst x)) (refs_set (n := D.n) (s := s) (p := q) (f := ti) (g := fun i => if i = s then q else ti i) (if_pos rfl) (fun i h => if_neg h)).symm
  · rw [upd_ne (Ne.symm S.dis.2.2.2)]; exact S.es
  · by_cases e : i = s
    · subst e
      rw [if_pos rfl]
      exact ⟨by rw [put_ne ht hq, eq, getD_set_eq (by rw [S.len.trans]; exact hs)], hq⟩
    · rw [if_neg e, getD_set_ne e]
      exact S.putTr ht i hi
theorem wst {zs : List Int} (S : SimIn h M D R cm lo cv lv sp ri li ti si bi) (hs1 : s < D.n) (eq : h q = some (.lst (zs.map V.int))) (hq : ¬ M.Has q) :
    SimIn (upd h M.s (.lst ((refs D.n si).set s (.ref q)))) M D { R with stores := R.stores.set s zs } cm lo cv lv sp ri li ti (fun i => if i = s then q else si i) bi := by
  refine S.next (R' := { R with stores := R.stores.set s zs }) ((Kp.refl M h).put hs) (S.putTp hs) ?_ ?_ ?_ ?_ ?_ ⟨by rw [put_ne hs S.nh.1]; exact S.ecm, S.nh.1⟩ ⟨by rw [put_ne hs S.nh.2.1]; exact S.elo, S.nh.2.1⟩ (S.putRest hs) (S.putLk hs) (S.putTr hs) (fun i hi => ?_) S.cml S.lol ⟨S.len.rests, S.len.locks, S.len.trans, by simp [S.len.stores]⟩
  · rw [upd_ne S.dis.1.2.2.2]; exact S.ea
  · rw [upd_ne S.dis.2.1.2.2]; exact S.er
  · rw [upd_ne S.dis.2.2.1.2]; exact S.el
  · rw [upd_ne S.dis.2.2.2]; exact S.et
  · rw [upd_same]; exact congrArg (fun x => some (HO.lst x)) (refs_set (n := D.n) (s := s) (p := q) (f := si) (g := fun i => if i = s then q else si i) (if_pos rfl) (fun i h => if_neg h)).symm
  · by_cases e : i = s
    · subst e
      rw [if_pos rfl]
      exact ⟨by rw [put_ne hs hq, eq, getD_set_eq (by rw [S.len.stores]; exact hs1)], hq⟩
    · rw [if_neg e, getD_set_ne e]
      exact S.putSt hs i hi
theorem wlk {ns zs : List Str} (S : SimIn h M D R cm lo cv lv sp ri li ti si bi) (hs : s < D.n) (eq : h q = some (.lst (ns.map V.str))) (hp : ns.Perm zs) (hq : ¬ M.Has q) :
    SimIn (upd h M.l (.lst ((refs D.n li).set s (.ref q)))) M D { R with locks := R.locks.set s zs } cm lo cv lv sp ri (fun i => if i = s then q else li i) ti si bi := by
  refine S.next (R' := { R with locks := R.locks.set s zs }) ((Kp.refl M h).put hl) (S.putTp hl) ?_ ?_ ?_ ?_ ?_ ⟨by rw [put_ne hl S.nh.1]; exact S.ecm, S.nh.1⟩ ⟨by rw [put_ne hl S.nh.2.1]; exact S.elo, S.nh.2.1⟩ (S.putRest hl) (fun i hi => ?_) (S.putTr hl) (S.putSt hl) S.cml S.lol ⟨S.len.rests, by simp [S.len.locks], S.len.trans, S.len.stores⟩
  · rw [upd_ne S.dis.1.2.1]; exact S.ea
  · rw [upd_ne S.dis.2.1.1]; exact S.er
  · rw [upd_same]; exact congrArg (fun x => some (HO.lst x)) (refs_set (n := D.n) (s := s) (p := q) (f := li) (g := fun i => if i = s then q else li i) (if_pos rfl) (fun i h => if_neg h)).symm
  · rw [upd_ne (Ne.symm S.dis.2.2.1.1)]; exact S.et
  · rw [upd_ne (Ne.symm S.dis.2.2.1.2)]; exact S.es
  · by_cases e : i = s
    · subst e
      rw [if_pos rfl]
      exact ⟨ns, by rw [put_ne hl hq, eq], by rw [getD_set_eq (by rw [S.len.locks]; exact hs)]; exact hp, hq⟩
    · rw [if_neg e, getD_set_ne e]
      exact S.putLk hl i hi
theorem wre {bvs : List V} {ss : List Sm} (S : SimIn h M D R cm lo cv lv sp ri li ti si bi) (hs : s < D.n) (eq : h q = some (.tup bvs)) (ds : DsAll h bvs ss) :
    SimIn (upd h M.r (.lst ((refs D.n ri).set s (.ref q)))) M D { R with rests := R.rests.set s ss } cm lo cv lv sp (fun i => if i = s then q else ri i) li ti si bi := by
  refine S.next (R' := { R with rests := R.rests.set s ss }) ((Kp.refl M h).put hr) (S.putTp hr) ?_ ?_ ?_ ?_ ?_ ⟨by rw [put_ne hr S.nh.1]; exact S.ecm, S.nh.1⟩ ⟨by rw [put_ne hr S.nh.2.1]; exact S.elo, S.nh.2.1⟩ (fun i hi => ?_) (S.putLk hr) (S.putTr hr) (S.putSt hr) S.cml S.lol ⟨by simp [S.len.rests], S.len.locks, S.len.trans, S.len.stores⟩
  · rw [upd_ne S.dis.1.1]; exact S.ea
  · rw [upd_same]; exact congrArg (fun x => some (HO.lst x)) (refs_set (n := D.n) (s := s) (p := q) (f := ri) (g := fun i => if i = s then q else ri i) (if_pos rfl) (fun i h => if_neg h)).symm
  · rw [upd_ne (Ne.symm S.dis.2.1.1)]; exact S.el
  · rw [upd_ne (Ne.symm S.dis.2.1.2.1)]; exact S.et
  · rw [upd_ne (Ne.symm S.dis.2.1.2.2)]; exact S.es
  · by_cases e : i = s
    · subst e
      rw [if_pos rfl]
      exact ⟨bvs, S.putTp hr _ _ eq, by rw [getD_set_eq (by rw [S.len.rests]; exact hs)]; exact ds.mono (S.putTp hr)⟩
    · rw [if_neg e, getD_set_ne e]
      exact S.putRest hr i hi
end SimIn
/-- the model in a heap of which a part is another's -/
structure SimU (U : Addr → Prop) (H : Hp) (M : Mo) (D : SysD) (R : Rs) (cm lo : Addr) (cv lv : List V) (sp : Option Int) (ri li ti si bi : Nat → Addr) : Prop where
  full : Full U H
  s : SimIn (cut U H) M D R cm lo cv lv sp ri li ti si bi
def SimAt (U : Addr → Prop) (H : Hp) (M : Mo) (D : SysD) (R : Rs) : Prop := ∃ cm lo cv lv sp ri li ti si bi, SimU U H M D R cm lo cv lv sp ri li ti si bi
namespace SimU
variable (S : SimU U H M D R cm lo cv lv sp ri li ti si bi)
include S
theorem ea : H M.a = some (.lst [.int R.height, .int R.noted, .int R.crashes, .ref M.r, .ref M.l, .ref M.t, .ref M.s, .ref cm, .ref lo, oV sp]) := cut_sub _ _ S.s.ea
theorem er : H M.r = some (.lst (refs D.n ri)) := cut_sub _ _ S.s.er
theorem el : H M.l = some (.lst (refs D.n li)) := cut_sub _ _ S.s.el
theorem et : H M.t = some (.lst (refs D.n ti)) := cut_sub _ _ S.s.et
theorem es : H M.s = some (.lst (refs D.n si)) := cut_sub _ _ S.s.es
theorem ecm : H cm = some (.lst cv) := cut_sub _ _ S.s.ecm
theorem elo : H lo = some (.lst lv) := cut_sub _ _ S.s.elo
theorem ep : H M.p = some (.lst [.ref M.pb, .ref M.pk, .int D.ahead, oV D.window, .int D.crashes]) := cut_sub _ _ S.s.ep
theorem epb : H M.pb = some (.lst (refs D.n bi)) := cut_sub _ _ S.s.epb
theorem epk : H M.pk = some (.lst ((D.ss.map (·.block)).map V.int)) := cut_sub _ _ S.s.epk
theorem br {i : Nat} (hi : i < D.n) : ∃ bvs, H (bi i) = some (.tup bvs) ∧ DsAll H bvs (D.B.getD i []) := let ⟨bvs, g1, g2⟩ := S.s.br i hi; ⟨bvs, cut_sub _ _ g1, g2.mono cut_sub.tp'⟩
theorem rest {i : Nat} (hi : i < D.n) : ∃ bvs, H (ri i) = some (.tup bvs) ∧ DsAll H bvs (R.rests.getD i []) := let ⟨bvs, g1, g2⟩ := S.s.rest i hi; ⟨bvs, cut_sub _ _ g1, g2.mono cut_sub.tp'⟩
theorem lk {i : Nat} (hi : i < D.n) : ∃ ns : List Str, H (li i) = some (.lst (ns.map V.str)) ∧ ns.Perm (R.locks.getD i []) := let ⟨ns, g1, g2, _⟩ := S.s.lk i hi; ⟨ns, cut_sub _ _ g1, g2⟩
theorem tr {i : Nat} (hi : i < D.n) : H (ti i) = some (.lst ((R.trans.getD i []).map V.int)) := cut_sub _ _ (S.s.tr i hi).1
theorem st {i : Nat} (hi : i < D.n) : H (si i) = some (.lst ((R.stores.getD i []).map V.int)) := cut_sub _ _ (S.s.st i hi).1
theorem nu {x : Addr} (hx : M.Has x) : ¬ U x := by
  rcases hx with z | z | z | z | z
  · rw [z]; exact (cut_some S.s.ea).1
  · rw [z]; exact (cut_some S.s.er).1
  · rw [z]; exact (cut_some S.s.el).1
  · rw [z]; exact (cut_some S.s.et).1
  · rw [z]; exact (cut_some S.s.es).1
theorem has {x : Addr} (hx : M.Has x) : ∃ o, H x = some o := by
  rcases hx with z | z | z | z | z
  · exact ⟨_, z ▸ S.ea⟩
  · exact ⟨_, z ▸ S.er⟩
  · exact ⟨_, z ▸ S.el⟩
  · exact ⟨_, z ▸ S.et⟩
  · exact ⟨_, z ▸ S.es⟩
theorem new_out {x : Addr} (hx : H x = none) : ¬ M.Has x := fun h => by
  obtain ⟨o, e⟩ := S.has h
  rw [hx] at e; cases e
theorem grow (sm : Same H H1) : SimU U H1 M D R cm lo cv lv sp ri li ti si bi := ⟨fun x hx => let ⟨o, e⟩ := S.full x hx; ⟨o, sm _ _ e⟩, S.s.mono (cut_same sm)⟩
theorem fullP {x : Addr} : Full U (upd H x o) := fun y hy => by
  by_cases e : y = x
  · exact ⟨o, by rw [e, upd_same]⟩
  · obtain ⟨u, hu⟩ := S.full y hy
    exact ⟨u, by rw [upd_ne e]; exact hu⟩
theorem newL {xs : List V} (hn : H q = none) (sm : Same H H1) (e : H1 q = some (.lst xs)) : cut U H1 q = some (.lst xs) ∧ ¬ M.Has q := ⟨by rw [cut_yes (S.full.out hn)]; exact e, S.new_out hn⟩
theorem fld (sm : Same H H1) (h1 : R'.rests = R.rests) (h2 : R'.locks = R.locks) (h3 : R'.trans = R.trans) (h4 : R'.stores = R.stores) (ecm : cut U H1 cm' = some (.lst cv') ∧ ¬ M.Has cm') (elo : cut U H1 lo' = some (.lst lv') ∧ ¬ M.Has lo') (cml : cv'.length = R'.commits.length) (lol : lv'.length = R'.lost.length) {xs : List V}
    (hx : xs = [.int R'.height, .int R'.noted, .int R'.crashes, .ref M.r, .ref M.l, .ref M.t, .ref M.s, .ref cm', .ref lo', oV sp']) :
    SimU U (upd H1 M.a (.lst xs)) M D R' cm' lo' cv' lv' sp' ri li ti si bi := by
  subst hx
  have S1 := S.grow sm
  exact ⟨S1.fullP, by rw [cut_upd (S.nu SimIn.ha)]; exact S1.s.fld h1 h2 h3 h4 ecm elo cml lol⟩
theorem cmOut (sm : Same H H1) : cut U H1 cm = some (.lst cv) ∧ ¬ M.Has cm := ⟨cut_same sm _ _ S.s.ecm, S.s.nh.1⟩
theorem loOut (sm : Same H H1) : cut U H1 lo = some (.lst lv) ∧ ¬ M.Has lo := ⟨cut_same sm _ _ S.s.elo, S.s.nh.2.1⟩
theorem wtr {zs : List Int} (sm : Same H H1) (hs : s < D.n) (hn : H q = none) (eq : H1 q = some (.lst (zs.map V.int))) :
    SimU U (upd H1 M.t (.lst ((refs D.n ti).set s (.ref q)))) M D { R with trans := R.trans.set s zs } cm lo cv lv sp ri li (fun i => if i = s then q else ti i) si bi := by
  have S1 := S.grow sm
  exact ⟨S1.fullP, by rw [cut_upd (S.nu SimIn.ht)]; exact S1.s.wtr hs (S.newL hn sm eq).1 (S.newL hn sm eq).2⟩
theorem wst {zs : List Int} (sm : Same H H1) (hs : s < D.n) (hn : H q = none) (eq : H1 q = some (.lst (zs.map V.int))) :
    SimU U (upd H1 M.s (.lst ((refs D.n si).set s (.ref q)))) M D { R with stores := R.stores.set s zs } cm lo cv lv sp ri li ti (fun i => if i = s then q else si i) bi := by
  have S1 := S.grow sm
  exact ⟨S1.fullP, by rw [cut_upd (S.nu SimIn.hs)]; exact S1.s.wst hs (S.newL hn sm eq).1 (S.newL hn sm eq).2⟩
theorem wlk {ns zs : List Str} (sm : Same H H1) (hs : s < D.n) (hn : H q = none) (eq : H1 q = some (.lst (ns.map V.str))) (hp : ns.Perm zs) :
    SimU U (upd H1 M.l (.lst ((refs D.n li).set s (.ref q)))) M D { R with locks := R.locks.set s zs } cm lo cv lv sp ri (fun i => if i = s then q else li i) ti si bi := by
  have S1 := S.grow sm
  exact ⟨S1.fullP, by rw [cut_upd (S.nu SimIn.hl)]; exact S1.s.wlk hs (S.newL hn sm eq).1 hp (S.newL hn sm eq).2⟩
theorem wre {bvs : List V} {ss : List Sm} (sm : Same H H1) (hs : s < D.n) (eq : cut U H1 q = some (.tup bvs)) (ds : DsAll (cut U H1) bvs ss) :
    SimU U (upd H1 M.r (.lst ((refs D.n ri).set s (.ref q)))) M D { R with rests := R.rests.set s ss } cm lo cv lv sp (fun i => if i = s then q else ri i) li ti si bi := by
  have S1 := S.grow sm
  exact ⟨S1.fullP, by rw [cut_upd (S.nu SimIn.hr)]; exact S1.s.wre hs eq ds⟩
theorem kpTp (k : Kp M H H') : Tp H H' := fun x xs e => k x _ (fun hx => by
    rcases hx with z | z | z | z | z
    · rw [z, S.ea] at e; cases e
    · rw [z, S.er] at e; cases e
    · rw [z, S.el] at e; cases e
    · rw [z, S.et] at e; cases e
    · rw [z, S.es] at e; cases e) e
theorem kpTpC (k : Kp M H H') : Tp (cut U H) (cut U H') := fun x xs e => by
  obtain ⟨h1, h2⟩ := cut_some e
  rw [cut_yes h1]; exact S.kpTp k _ _ h2
theorem cast (h1 : R'.rests = R.rests) (h2 : R'.locks = R.locks) (h3 : R'.trans = R.trans) (h4 : R'.stores = R.stores) (h5 : R'.commits = R.commits) (h6 : R'.lost = R.lost) (h7 : R'.height = R.height) (h8 : R'.noted = R.noted) (h9 : R'.crashes = R.crashes) : SimU U H M D R' cm lo cv lv sp ri li ti si bi := by
  refine ⟨S.full, ?_⟩
  have e : R' = { R with spread := R'.spread } := by
    cases R'; cases R
    simp only at *
    subst h1 h2 h3 h4 h5 h6 h7 h8 h9
    rfl
  have s := S.s
  rw [e]
  exact ⟨s.ea, s.er, s.el, s.et, s.es, s.ecm, s.elo, s.ep, s.epb, s.epk, s.br, s.rest, s.lk, s.tr, s.st, s.nh, s.dis, s.cml, s.lol, ⟨s.len.rests, s.len.locks, s.len.trans, s.len.stores⟩, s.dok⟩
end SimU
end
theorem blk_at {D : SysD} {s : Nat} (hs : s < D.n) : atI ((D.ss.map (·.block)).map V.int) (s : Nat) = some (.int (D.blk s)) := by
  refine at_nat (n := s) ?_ rfl
  have hs2 : s < D.ss.length := hs
  unfold SysD.blk
  rw [List.getElem?_map, List.getElem?_map, List.getD_eq_getElem?_getD, List.getElem?_map, List.getElem?_eq_getElem hs2]; rfl
theorem rests_getD {R : Rs} {s : Nat} {x : List Sm} (h : R.rests[s]? = some x) : R.rests.getD s [] = x := by rw [List.getD_eq_getElem?_getD, h]; rfl
theorem SimU.s_lt {U : Addr → Prop} {H : Hp} {M : Mo} {D : SysD} {R : Rs} {cm lo : Addr} {cv lv : List V} {sp : Option Int} {ri li ti si bi : Nat → Addr} (S : SimU U H M D R cm lo cv lv sp ri li ti si bi) {s : Nat} {x : List Sm} (h : R.rests[s]? = some x) : s < D.n := by
  rcases Nat.lt_or_ge s R.rests.length with c | c
  · rw [← S.s.len.rests]; exact c
  · rw [List.getElem?_eq_none c] at h; cases h
theorem DsAll.consL {H : Hp} {bvs : List V} {st : Sm} {r : List Sm} (d : DsAll H bvs (st :: r)) : ∃ v vs, bvs = v :: vs ∧ Ds H v st ∧ DsAll H vs r := by
  cases d with
  | cons a b => exact ⟨_, _, rfl, a, b⟩
section
variable {P : Program} {w : World} {K : PySem.W.Frag} {mg : Str → Option Value} {base : Heap}
def sp__law_low (K : PySem.W.Frag) : Sp := fun vs H Q E => ∃ U M D R, vs = [.ref (Mo.a M)] ∧ SimAt U H M D R ∧ (∀ H', Same H H' → Q (oV R.low) H')
theorem len__law_low (K : PySem.W.Frag) : ∀ (vs : List V) (H : Hp) (Q : VK) (E : XK), sp__law_low K vs H Q E → vs.length = 1 := by
  rintro vs H Q E ⟨_, _, _, _, rfl, _⟩
  rfl
theorem ok__law_low (T : Txt K mg) : CallF P w K mg base 1 (He.ga K "_law_low") ["_law_sim"] (sp__law_low K) := by
  obtain ⟨fd, F⟩ := T.d__law_low
  refine ⟨fd, F.ok cs_law_low (len__law_low K) (fun cdv A outer s H vs Q E hr hsp => ?_), F.bindsN (fun _ _ _ _ _ _ us hl => match us, hl with | [_], _ => rfl), F.kp⟩
  have hu := hu_of hr
  have hu65 : (A.deeper (envOfC "_law_low" (defScope s_law_low) s.heap.objs.size (He.ga K "_law_low") cdv)).units + 65 < cLine := by have := hr.un; omega
  have hu0 := hr.units0
  refine ⟨_, PSs.nox (pss_cons (ps_setLc (i := 1) (own := [("_law_numbers", 2)]) rfl cs_law_low.nd rfl rfl (sw_true rfl rfl rfl (by decide +kernel)) (pi_list (pe_op op_cat (pe_ix ix_list (pv 0) pe_int (fun _ _ => rfl)) (pe_ix ix_list (pv 0) pe_int (fun _ _ => rfl)))) (blkOk_by (own := [("_law_numbers", 2)]) (N := ["_law_sim", "_law_rows", "_law_numbers"]) (sc := defScope s_law_low) (by decide +kernel)) (fun _ _ _ _ _ => (pg_name (i := 2) cs_law_low.nd rfl (Or.inl rfl))) (fun _ _ _ _ _ => (pts_one (pt_cmpR op_gt (pe_callB (call_lenB (K := K) rfl) (by rfl) T.f_len (by decide +kernel) (pa_cons (pv 2) pa_nil)) pe_int (nomark _)))) (fun _ _ _ _ _ => (pe_ix (ix_listB (K := K) rfl) (pv 2) pe_int (fun _ _ => rfl))))
      (pss_cons (ps_if (pt_cmpR op_eq (pe_callB call_lenN (by rfl) T.f_len (by decide +kernel) (pa_cons (pv 1) pa_nil)) pe_int (nomark _)) (pss_one (ps_ret pe_non)) pss_nil)
      (pss_one (ps_ret (pe_callB (cr_min rfl) (by rfl) T.f_min (by decide +kernel) (pa_cons (pv 1) pa_nil)))))), ?_⟩
  obtain ⟨U, M, D, R, rfl, ⟨cm, lo, cv, lv, sp, ri, li, ti, si, bi, S⟩, hq⟩ := hsp
  have e1 := S.ea
  have e2 := S.et
  have e3 := S.es
  have hn3 := S.s.dok.n3
  walk_at "st"
  walk_at "rd"
  refine w_cat e2 e3 (small9 (by rw [refs_length, refs_length]; omega)) ?_
  refine w_new fun q H1 hn1 hs1 hq1 _ => ?_
  have hys : ∀ y ∈ rowsA D.n ti R.trans ++ rowsA D.n si R.stores, H1 y.1 = some (.lst (y.2.map V.int)) := by
    intro y hy
    rcases List.mem_append.mp hy with hy | hy
    · obtain ⟨i, hi, rfl⟩ := List.mem_map.mp hy
      exact hs1 _ _ (S.tr (List.mem_range.mp hi))
    · obtain ⟨i, hi, rfl⟩ := List.mem_map.mp hy
      exact hs1 _ _ (S.st (List.mem_range.mp hi))
  walk_at "rd"
  refine lcL0 (ys := rowsA D.n ti R.trans ++ rowsA D.n si R.stores) (val := fun y => .ref y.1) (fun y => y.2.head?.map V.int) (by rw [List.map_append, rowsA_refs, rowsA_refs]; exact hq1) (small1000 (by simp [rowsA]; omega)) ?_ ?_
  · intro y hy H2 hs2 NT NF hT hF
    have ey := hs2 _ _ (hys y hy)
    refine w_name rfl ?_
    refine ⟨rfl, ?_⟩
    cases hy2 : y.2 with
    | nil =>
      rw [hy2] at ey hF
      walk_at "rd"
      exact hF rfl
    | cons x l =>
      rw [hy2] at ey hT
      rw [List.map_cons] at ey
      have hpos : (0 : Int) < ((V.int x :: l.map V.int).length : Nat) := by simp
      walk_at "rd"
      exact hT _ rfl
  · have hf : (rowsA D.n ti R.trans ++ rowsA D.n si R.stores).filterMap (fun y => y.2.head?.map V.int) = (heads (R.trans ++ R.stores)).map V.int := by
      unfold heads
      rw [← rowsA_rows (f := ti) S.s.len.trans, ← rowsA_rows (f := si) S.s.len.stores, ← List.map_append, List.filterMap_map, List.map_filterMap, rowsA_rows S.s.len.trans, rowsA_rows S.s.len.stores]
      rfl
    rw [hf]
    have hlow : R.low = minL (heads (R.trans ++ R.stores)) := rfl
    generalize heads (R.trans ++ R.stores) = ns at *
    walk_at "rd"
    rename_i q3 H3 hn3' hs3 hq3 he3
    by_cases hh : ns = []
    · subst hh
      refine w_itet (by simp) ?_
      walk_at "rd"
      rw [hlow] at hq
      exact hq _ (hs1.trans hs3)
    · have hpos := List.length_pos_iff.mpr hh
      refine w_itef (by rw [List.length_map]; omega) ?_
      walk_at "rd"
      refine ⟨q3, ns, rfl, sqL hq3, hpos, fun m h1 h2 => ?_⟩
      have := hq H3 (hs1.trans hs3)
      rw [hlow, minL_eq h1 h2] at this
      exact this
def sp__law_waits (K : PySem.W.Frag) : Sp := fun vs H Q E => ∃ U M D R s st r, vs = [.ref (Mo.a M), .ref (Mo.p M), .int (s : Nat)] ∧ SimAt U H M D R ∧ R.rests[s]? = some (st :: r) ∧ (∀ H' b, Same H H' → (b = true ↔ R.Waits (D.blk s) D.window s st) → Q (.bl b) H')
theorem len__law_waits (K : PySem.W.Frag) : ∀ (vs : List V) (H : Hp) (Q : VK) (E : XK), sp__law_waits K vs H Q E → vs.length = 3 := by
  rintro vs H Q E ⟨_, _, _, _, _, _, _, rfl, _⟩
  rfl
theorem ok__law_waits (T : Txt K mg) : CallF P w K mg base 2 (He.ga K "_law_waits") ["_law_sim", "_law_plan_here", "_law_s"] (sp__law_waits K) := by
  obtain ⟨fd, F⟩ := T.d__law_waits
  obtain ⟨fd__law_low, G__law_low, b__law_low, k__law_low⟩ := ok__law_low (P := P) (w := w) (base := base) T
  refine ⟨fd, F.ok cs_law_waits (len__law_waits K) (fun cdv A outer s H vs Q E hr hsp => ?_), F.bindsN (fun _ _ _ _ _ _ us hl => match us, hl with | [_, _, _], _ => rfl), F.kp⟩
  have hu := hu_of hr
  have hu65 : (A.deeper (envOfC "_law_waits" (defScope s_law_waits) s.heap.objs.size (He.ga K "_law_waits") cdv)).units + 65 < cLine := by have := hr.un; omega
  have hu0 := hr.units0
  refine ⟨_, PSs.nox (pss_cons (ps_set (i := 3) cs_law_waits.nd rfl (Or.inl rfl) (pe_ix ix_tup (pe_ix ix_list (pe_ix ix_list (pv 0) pe_int (fun _ _ => rfl)) (pv 2) (fun _ _ => rfl)) pe_int (fun _ _ => rfl)))
      (pss_cons (ps_if (pt_cmpR op_eq (pe_ix ix_tup (pv 3) pe_int (fun _ _ => rfl)) pe_str (nomark _)) (pss_cons (ps_for PassesOwn.never rfl (pi_range1 (by rfl) T.f_range (pa_cons (pe_callB call_lenN (by rfl) T.f_len (by decide +kernel) (pa_cons (pe_ix ix_list (pv 0) pe_int (fun _ _ => rfl)) pa_nil)) pa_nil)) (pg_name (i := 4) cs_law_waits.nd rfl (Or.inl rfl)) (pss_one (ps_if (PW.pt (pw_and (pt_cmpR op_ne (pv 4) (pv 2) (nomark _)) (pw_and1 (pt_cmpR op_in_seq (pe_ix ix_tup (pv 3) pe_int (fun _ _ => rfl)) (pe_ix ix_list (pe_ix ix_list (pv 0) pe_int (fun _ _ => rfl)) (pv 4) (fun _ _ => rfl)) (by rfl))))) (pss_one (ps_ret pe_bl)) pss_nil)))
      (pss_one (ps_ret pe_bl))) pss_nil)
      (pss_cons (ps_set (i := 5) cs_law_waits.nd rfl (Or.inl rfl) (pe_call G__law_low (hr.mono (by decide)) (by rfl) T.g__law_low k__law_low b__law_low .nil pass0 (pa_cons (pv 0) pa_nil)))
      (pss_cons (ps_if (PW.pt (pw_or (pt_cmpR op_ne (pe_ix ix_tup (pv 3) pe_int (fun _ _ => rfl)) pe_str (nomark _)) (pw_or (pt_cmpR op_gt (pe_callB call_lenN (by rfl) T.f_len (by decide +kernel) (pa_cons (pe_ix ix_list (pe_ix ix_list (pv 0) pe_int (fun _ _ => rfl)) (pv 2) (fun _ _ => rfl)) pa_nil)) pe_int (nomark _)) (pw_or (pt_cmpR op_isN1 (pe_ix ix_list (pv 1) pe_int (fun _ _ => rfl)) pe_non (nomark _)) (pw_or1 (pt_cmpR op_isN1 (pv 5) pe_non (nomark _))))))) (pss_one (ps_ret pe_bl)) pss_nil)
      (pss_one (ps_ret (pe_cmpR op_gt (pe_op op_sub (pe_op op_add (pe_ix ix_list (pv 0) pe_int (fun _ _ => rfl)) (pe_ix ix_list (pe_ix ix_list (pv 1) pe_int (fun _ _ => rfl)) (pv 2) (fun _ _ => rfl))) (pv 5)) (pe_ix ix_list (pv 1) pe_int (fun _ _ => rfl)) (nomark _)))))))), ?_⟩
  obtain ⟨U, M, D, R, s0, st, r0, rfl, SA, hr0, hq⟩ := hsp
  obtain ⟨cm, lo, cv, lv, sp, ri, li, ti, si, bi, S⟩ := id SA
  have hs := S.s_lt hr0
  have hn3 := S.s.dok.n3
  have e1 := S.ea
  have e2 := S.er
  have e4 := S.el
  have e5 := S.es
  have e6 := S.ep
  have e7 := S.epk
  have hx1 := at_refs (f := ri) hs
  have hx2 := at_refs (f := si) hs
  have hx3 := blk_at hs
  obtain ⟨bvs, e3, ds⟩ := S.rest hs
  rw [rests_getD hr0] at ds
  obtain ⟨v, vs', rfl, dv, _⟩ := ds.consL
  obtain ⟨a, xs, rfl, ea⟩ := dv.head
  walk_at "st"
  walk_at "rd"
  by_cases hl : st.word = "lock"
  · obtain ⟨nm, rfl⟩ := word_lock hl
    have ea2 := dv.lock
    walk_at "rd"
    refine w_gR1 (by rw [refs_length]; omega) (by rw [refs_length]; omega) ?_
    refine forR (fun i σ H' => H' = H ∧ (∀ o, o < i → o ≠ s0 → ¬ nm ∈ R.locks.getD o []) ∧ ∃ o5 o6, σ = [some (.ref M.a), some (.ref M.p), some (.int (s0 : Nat)), some (.ref a), o5, o6]) ⟨rfl, fun o h => absurd h (Nat.not_lt_zero _), none, none, rfl⟩ ?_ ?_
    · rintro i σ H' hi ⟨rfl, hno, o5, o6, rfl⟩
      rw [refs_length] at hi
      have hi : i < D.n := by omega
      obtain ⟨ns, ek, hperm⟩ := S.lk hi
      have hx4 : atI (refs D.n li) (0 + (i : Nat)) = some (.ref (li i)) := by rw [Int.zero_add]; exact at_refs hi
      walk_at "rd"
      refine w_iten (fun hne => ?_) (fun hne => ?_)
      · walk_at "rd"
        refine in_strs ek ?_
        walk_at "rd"
        refine w_ite (fun hm => ?_) (fun hm => ?_)
        · walk_at "rd"
          exact hq _ true (Same.refl _) ⟨fun _ => ⟨i, by intro e; exact hne (by rw [e]; omega), hperm.mem_iff.mp hm⟩, fun _ => rfl⟩
        · walk_at "rd"
          refine ⟨rfl, fun o ho hos => ?_, _, o6, rfl⟩
          rcases (by omega : o < i ∨ o = i) with h | h
          · exact hno o h hos
          · rw [h]; exact fun h2 => hm (hperm.mem_iff.mpr h2)
      · walk_at "rd"
        refine ⟨rfl, fun o ho hos => ?_, _, o6, rfl⟩
        rcases (by omega : o < i ∨ o = i) with h | h
        · exact hno o h hos
        · exact absurd (by rw [h]; omega) hos
    · rintro σ H' ⟨rfl, hno, o5, o6, rfl⟩
      rw [refs_length] at hno
      walk_at "rd"
      refine hq _ false (Same.refl _) ⟨fun h => (by cases h), fun hw => ?_⟩
      obtain ⟨o, ho, hm⟩ := hw
      have hol : o < D.n := by
        rcases Nat.lt_or_ge o D.n with c | c
        · exact c
        · rw [List.getD_eq_getElem?_getD, List.getElem?_eq_none (by rw [S.s.len.locks]; exact c)] at hm; cases hm
      exact absurd hm (hno o (by omega) ho)
  · walk_at "rd"
    refine ⟨U, M, D, R, rfl, SA, fun H1 hs1 => ?_⟩
    have f1 := hs1 _ _ e1
    have f2 := hs1 _ _ e2
    have f3 := hs1 _ _ e3
    have f5 := hs1 _ _ e5
    have f6 := hs1 _ _ e6
    have f7 := hs1 _ _ e7
    have fa := hs1 _ _ ea
    walk_at "rd"
    by_cases ht : st.word = "take"
    · have := word_take ht
      subst this
      have f8 := hs1 _ _ (S.st hs)
      walk_at "rd"
      by_cases hst : R.stores.getD s0 [] = []
      · refine w_itef (by rw [hst]; decide) ?_
        walk_at "rd"
        cases hwin : D.window with
        | none =>
          rw [hwin] at f6
          dsimp only [oV] at f6 ⊢
          walk_at "rd"
          refine hq _ false hs1 ⟨fun h => (by cases h), fun hw => ?_⟩
          obtain ⟨_, w, l, h1, _⟩ := hw
          rw [hwin] at h1; cases h1
        | some w =>
          rw [hwin] at f6
          dsimp only [oV] at f6 ⊢
          walk_at "rd"
          cases hlow : R.low with
          | none =>
            dsimp only [oV]
            walk_at "rd"
            refine hq _ false hs1 ⟨fun h => (by cases h), fun hw => ?_⟩
            obtain ⟨_, w, l, _, h1, _⟩ := hw
            rw [hlow] at h1; cases h1
          | some l =>
            dsimp only [oV]
            walk_at "rd"
            refine hq _ _ hs1 ?_
            rw [decide_eq_true_iff]
            constructor
            · intro h
              exact ⟨hst, w, l, hwin, hlow, h⟩
            · rintro ⟨_, w', l', h1, h2, h3⟩
              rw [hwin] at h1; cases h1
              rw [hlow] at h2; cases h2
              exact h3
      · have hpos : (0 : Int) < ((R.stores.getD s0 []).map V.int).length := by
          rw [List.length_map]
          have := List.length_pos_iff.mpr hst
          omega
        refine w_itet hpos ?_
        walk_at "rd"
        exact hq _ false hs1 ⟨fun h => (by cases h), fun hw => absurd hw.1 hst⟩
    · refine w_itent ht ?_
      walk_at "rd"
      refine hq _ false hs1 ⟨fun h => (by cases h), fun hw => ?_⟩
      cases st with
      | lock nm => exact absurd rfl hl
      | take => exact absurd rfl ht
      | _ => exact False.elim hw
end
theorem cut_one (x : V) (r : List V) : cutV (x :: r) (some 1) none = r := by
  unfold cutV
  have : HT.sIx (x :: r).length 0 (some 1) = 1 := by
    rw [show (1 : Int) = ((1 : Nat) : Int) from rfl, HT.sIx_nat]
    simp
  rw [this, HT.sIx_none]
  simp
section
variable {P : Program} {w : World} {K : PySem.W.Frag} {mg : Str → Option Value} {base : Heap}
def sp__law_end (K : PySem.W.Frag) : Sp := fun vs H Q E => ∃ U M D R s, vs = [.ref (Mo.a M), .ref (Mo.p M), .int (s : Nat)] ∧ SimAt U H M D R ∧ s < D.n ∧ Lim R ∧ (∀ H', Kp M H H' → SimAt U H' M D (R.fin D.B s) → Q .non H')
theorem len__law_end (K : PySem.W.Frag) : ∀ (vs : List V) (H : Hp) (Q : VK) (E : XK), sp__law_end K vs H Q E → vs.length = 3 := by
  rintro vs H Q E ⟨_, _, _, _, _, rfl, _⟩
  rfl
theorem ok__law_end (T : Txt K mg) : CallF P w K mg base 1 (He.ga K "_law_end") ["_law_sim", "_law_plan_here", "_law_s"] (sp__law_end K) := by
  obtain ⟨fd, F⟩ := T.d__law_end
  refine ⟨fd, F.ok cs_law_end (len__law_end K) (fun cdv A outer s H vs Q E hr hsp => ?_), F.bindsN (fun _ _ _ _ _ _ us hl => match us, hl with | [_, _, _], _ => rfl), F.kp⟩
  have hu := hu_of hr
  have hu65 : (A.deeper (envOfC "_law_end" (defScope s_law_end) s.heap.objs.size (He.ga K "_law_end") cdv)).units + 65 < cLine := by have := hr.un; omega
  have hu0 := hr.units0
  refine ⟨_, PSs.nox (pss_cons (ps_asg (pe_op op_cat (pe_ix ix_list (pv 0) pe_int (fun _ _ => rfl)) (pe_ix ix_list (pe_ix ix_list (pv 0) pe_int (fun _ _ => rfl)) (pv 2) (fun _ _ => rfl))) (pg_sub (pv 0) pe_int set_list))
      (pss_cons (ps_asg (pe_lst pa_nil) (pg_sub (pe_ix ix_list (pv 0) pe_int (fun _ _ => rfl)) (pv 2) set_list))
      (pss_cons (ps_asg (pe_lst pa_nil) (pg_sub (pe_ix ix_list (pv 0) pe_int (fun _ _ => rfl)) (pv 2) set_list))
      (pss_one (ps_asg (pe_ix ix_list (pe_ix ix_list (pv 1) pe_int (fun _ _ => rfl)) (pv 2) (fun _ _ => rfl)) (pg_sub (pe_ix ix_list (pv 0) pe_int (fun _ _ => rfl)) (pv 2) set_list)))))), ?_⟩
  obtain ⟨U, M, D, R, s0, rfl, ⟨cm, lo, cv, lv, sp, ri, li, ti, si, bi, S⟩, hs, lim, hq⟩ := hsp
  have hn3 := S.s.dok.n3
  have e1 := S.ea
  have e2 := S.elo
  have e3 := S.et
  have e4 := S.tr hs
  have hx1 := at_refs (f := ti) hs
  have hx2 := at_refs (f := bi) hs
  have hlol := S.s.lol
  have htot := lim.tot
  have hg := lsum_get R.trans s0
  have hsz : lv.length + ((R.trans.getD s0 []).map V.int).length ≤ sizeLine := small_big (by rw [List.length_map]; unfold Rs.tot at htot; omega)
  walk_at "st"
  walk_at "rd"
  rename_i q1 H1 hn1 hs1 hq1 he1
  refine w_setL (hs1 _ _ e1) (n := 8) rfl ?_
  have S1 := S.fld (R' := { R with lost := R.lost ++ R.trans.getD s0 [] }) (sp' := sp) hs1 rfl rfl rfl rfl (S.cmOut hs1) (S.newL hn1 hs1 hq1) S.s.cml (by simp [hlol]) (rfl : [V.int R.height, .int R.noted, .int R.crashes, .ref M.r, .ref M.l, .ref M.t, .ref M.s, .ref cm, .ref lo, oV sp].set 8 (.ref q1) = _)
  have k1 : Kp M H (upd H1 M.a (.lst ([V.int R.height, .int R.noted, .int R.crashes, .ref M.r, .ref M.l, .ref M.t, .ref M.s, .ref cm, .ref lo, oV sp].set 8 (.ref q1)))) := (Kp.of hs1).put SimIn.ha
  generalize upd H1 M.a (.lst ([V.int R.height, .int R.noted, .int R.crashes, .ref M.r, .ref M.l, .ref M.t, .ref M.s, .ref cm, .ref lo, oV sp].set 8 (.ref q1))) = G1 at *
  have f1 := S1.ea
  have f3 := S1.et
  walk_at "rd"
  rename_i q2 H2 hn2 hs2 hq2 he2
  refine w_setL (hs2 _ _ f3) (ix_refs hs) ?_
  have S2 := S1.wtr (zs := []) hs2 hs hn2 hq2
  have k2 := (k1.trans (Kp.of hs2)).put (x := M.t) (o := .lst ((refs D.n ti).set s0 (.ref q2))) SimIn.ht
  generalize upd H2 M.t (.lst ((refs D.n ti).set s0 (.ref q2))) = G2 at *
  have g1 := S2.ea
  have g3 := S2.el
  walk_at "rd"
  rename_i q3 H3 hn3' hs3 hq3 he3
  refine w_setL (hs3 _ _ g3) (ix_refs hs) ?_
  have S3 := S2.wlk (ns := []) (zs := []) hs3 hs hn3' hq3 (List.Perm.refl _)
  have k3 := (k2.trans (Kp.of hs3)).put (x := M.l) (o := .lst ((refs D.n li).set s0 (.ref q3))) SimIn.hl
  generalize upd H3 M.l (.lst ((refs D.n li).set s0 (.ref q3))) = G3 at *
  have i1 := S3.ea
  have i2 := S3.ep
  have i3 := S3.epb
  have i4 := S3.er
  walk_at "rd"
  refine w_setL i4 (ix_refs hs) ?_
  obtain ⟨bvs, b1, b2⟩ := S3.s.br s0 hs
  have S4 := S3.wre (Same.refl G3) hs b1 b2
  have k4 := k3.put (x := M.r) (o := .lst ((refs D.n ri).set s0 (.ref (bi s0)))) SimIn.hr
  exact hq _ k4 ⟨_, _, _, _, _, _, _, _, _, _, S4⟩
def sp__law_crash (K : PySem.W.Frag) : Sp := fun vs H Q E => ∃ U M D R, vs = [.ref (Mo.a M), .ref (Mo.p M)] ∧ SimAt U H M D R ∧ Lim R ∧ (∀ H', Kp M H H' → SimAt U H' M D (R.crash D.B D.ahead D.n) → Q .non H')
theorem len__law_crash (K : PySem.W.Frag) : ∀ (vs : List V) (H : Hp) (Q : VK) (E : XK), sp__law_crash K vs H Q E → vs.length = 2 := by
  rintro vs H Q E ⟨_, _, _, _, rfl, _⟩
  rfl
theorem ok__law_crash (T : Txt K mg) : CallF P w K mg base 2 (He.ga K "_law_crash") ["_law_sim", "_law_plan_here"] (sp__law_crash K) := by
  obtain ⟨fd, F⟩ := T.d__law_crash
  obtain ⟨fd__law_end, G__law_end, b__law_end, k__law_end⟩ := ok__law_end (P := P) (w := w) (base := base) T
  refine ⟨fd, F.ok cs_law_crash (len__law_crash K) (fun cdv A outer s H vs Q E hr hsp => ?_), F.bindsN (fun _ _ _ _ _ _ us hl => match us, hl with | [_, _], _ => rfl), F.kp⟩
  have hu := hu_of hr
  have hu65 : (A.deeper (envOfC "_law_crash" (defScope s_law_crash) s.heap.objs.size (He.ga K "_law_crash") cdv)).units + 65 < cLine := by have := hr.un; omega
  have hu0 := hr.units0
  refine ⟨_, PSs.nox (pss_cons (ps_for PassesOwn.never rfl (pi_range1 (by rfl) T.f_range (pa_cons (pe_callB call_lenN (by rfl) T.f_len (by decide +kernel) (pa_cons (pe_ix ix_list (pv 1) pe_int (fun _ _ => rfl)) pa_nil)) pa_nil)) (pg_name (i := 2) cs_law_crash.nd rfl (Or.inl rfl)) (pss_cons (ps_asg (pe_op op_cat (pe_ix ix_list (pv 0) pe_int (fun _ _ => rfl)) (pe_ix ix_list (pe_ix ix_list (pv 0) pe_int (fun _ _ => rfl)) (pv 2) (fun _ _ => rfl))) (pg_sub (pv 0) pe_int set_list))
      (pss_cons (ps_asg (pe_lst pa_nil) (pg_sub (pe_ix ix_list (pv 0) pe_int (fun _ _ => rfl)) (pv 2) set_list))
      (pss_one (ps_expr (pe_call G__law_end (hr.mono (by decide)) (by rfl) T.g__law_end k__law_end b__law_end .nil pass0 (pa_cons (pv 0) (pa_cons (pv 1) (pa_cons (pv 2) pa_nil)))))))))
      (pss_cons (ps_asg (pe_op op_cat (pe_ix ix_list (pv 0) pe_int (fun _ _ => rfl)) (pe_listRg rfl (by rfl) T.f_list (prg_2 (by rfl) T.f_range (pe_ix ix_list (pv 0) pe_int (fun _ _ => rfl)) (pe_ix ix_list (pv 0) pe_int (fun _ _ => rfl))))) (pg_sub (pv 0) pe_int set_list))
      (pss_cons (ps_asg (pe_ix ix_list (pv 0) pe_int (fun _ _ => rfl)) (pg_sub (pv 0) pe_int set_list))
      (pss_cons (ps_asg (pe_op op_add (pe_ix ix_list (pv 0) pe_int (fun _ _ => rfl)) (pe_ix ix_list (pv 1) pe_int (fun _ _ => rfl))) (pg_sub (pv 0) pe_int set_list))
      (pss_one (ps_asg (pe_op op_sub (pe_ix ix_list (pv 0) pe_int (fun _ _ => rfl)) pe_int) (pg_sub (pv 0) pe_int set_list))))))), ?_⟩
  obtain ⟨U, M, D, R, rfl, SA, lim, hq⟩ := hsp
  obtain ⟨cm, lo, cv, lv, sp, ri, li, ti, si, bi, S⟩ := id SA
  have hn3 := S.s.dok.n3
  have hlen := S.s.len
  have e6 := S.ep
  have e7 := S.epb
  walk_at "st"
  walk_at "rd"
  refine w_gR1 (by rw [refs_length]; omega) (by rw [refs_length]; omega) ?_
  refine forR (fun i σ H' => Kp M H H' ∧ SimAt U H' M D (R.loseAll D.B i) ∧ ∃ o, σ = [some (.ref M.a), some (.ref M.p), o]) ⟨Kp.refl M H, SA, none, rfl⟩ ?_ ?_
  · rintro i σ H' hi ⟨kp, ⟨cm, lo, cv, lv, sp, ri, li, ti, si, bi, S⟩, o, rfl⟩
    rw [refs_length] at hi
    have hs : i < D.n := by omega
    have hL := lim.loseAll hlen (B := D.B) i (by omega)
    have hLn := hlen.loseAll (B := D.B) i
    rw [loseAll_succ]
    generalize R.loseAll D.B i = R1 at *
    have e1 := S.ea
    have e2 := S.elo
    have e3 := S.es
    have e4 := S.st hs
    have hx1 : atI (refs D.n si) (0 + (i : Nat)) = some (.ref (si i)) := by rw [Int.zero_add]; exact at_refs hs
    have hlol := S.s.lol
    have htot := hL.tot
    have hg := lsum_get R1.stores i
    have hsz : lv.length + ((R1.stores.getD i []).map V.int).length ≤ sizeLine := small_big (by rw [List.length_map]; unfold Rs.tot at htot; omega)
    walk_at "rd"
    rename_i q1 H1 hn1 hs1 hq1 he1
    refine w_setL (hs1 _ _ e1) (n := 8) rfl ?_
    have S1 := S.fld (R' := { R1 with lost := R1.lost ++ R1.stores.getD i [] }) (sp' := sp) hs1 rfl rfl rfl rfl (S.cmOut hs1) (S.newL hn1 hs1 hq1) S.s.cml (by simp [hlol]) (rfl : [V.int R1.height, .int R1.noted, .int R1.crashes, .ref M.r, .ref M.l, .ref M.t, .ref M.s, .ref cm, .ref lo, oV sp].set 8 (.ref q1) = _)
    have k1 : Kp M H (upd H1 M.a (.lst ([V.int R1.height, .int R1.noted, .int R1.crashes, .ref M.r, .ref M.l, .ref M.t, .ref M.s, .ref cm, .ref lo, oV sp].set 8 (.ref q1)))) := (kp.trans (Kp.of hs1)).put SimIn.ha
    generalize upd H1 M.a (.lst ([V.int R1.height, .int R1.noted, .int R1.crashes, .ref M.r, .ref M.l, .ref M.t, .ref M.s, .ref cm, .ref lo, oV sp].set 8 (.ref q1))) = G1 at *
    have f1 := S1.ea
    have f3 := S1.es
    walk_at "rd"
    rename_i q2 H2 hn2 hs2 hq2 he2
    refine w_setL (hs2 _ _ f3) (by rw [Int.zero_add]; exact ix_refs hs) ?_
    have S2 := S1.wst (zs := []) hs2 hs hn2 hq2
    have k2 := (k1.trans (Kp.of hs2)).put (x := M.s) (o := .lst ((refs D.n si).set i (.ref q2))) SimIn.hs
    generalize upd H2 M.s (.lst ((refs D.n si).set i (.ref q2))) = G2 at *
    walk_at "rd"
    refine ⟨U, M, D, R1.dropS i, i, by simp, ⟨_, _, _, _, _, _, _, _, _, _, S2⟩, hs, hL.dropS (by rw [hLn.stores]; exact hs), fun H4 k4 SA4 => ?_⟩
    exact ⟨k2.trans k4, SA4, _, rfl⟩
  · rintro σ H' ⟨kp, ⟨cm, lo, cv, lv, sp, ri, li, ti, si, bi, S⟩, o, rfl⟩
    have hnn : ((refs D.n bi).length : Int).toNat = D.n := by rw [refs_length]; omega
    have hnn2 : ∀ f : Nat → Addr, ((refs D.n f).length : Int).toNat = D.n := fun f => by rw [refs_length]; omega
    rw [hnn2] at S
    have hL := lim.loseAll hlen (B := D.B) D.n (Nat.le_refl _)
    have hcr : R.crash D.B D.ahead D.n = { R.loseAll D.B D.n with lost := (R.loseAll D.B D.n).lost ++ rg (R.loseAll D.B D.n).height (R.loseAll D.B D.n).noted, height := (R.loseAll D.B D.n).noted, noted := (R.loseAll D.B D.n).noted + D.ahead, crashes := (R.loseAll D.B D.n).crashes - 1 } := rfl
    rw [hcr] at hq
    clear hcr
    generalize R.loseAll D.B D.n = R1 at *
    have e1 := S.ea
    have e2 := S.elo
    have h0 := hL.h0
    have h1 := hL.h1
    have h2 := hL.h2
    have htot := hL.tot
    have hlol := S.s.lol
    walk_at "rd"
    refine w_gLstRg (RgOk.of_le (by omega) (by omega) (by omega) (by omega)) ?_
    refine w_new fun q0 H0 hn0 hs0 hq0 _ => ?_
    rw [rg_V] at hq0
    have e20 := hs0 _ _ e2
    have hsz : lv.length + ((rg R1.height R1.noted).map V.int).length ≤ sizeLine := small_big (by rw [List.length_map, rg_len]; unfold Rs.tot at htot; omega)
    walk_at "rd"
    rename_i q1 H1 hn1 hs1 hq1 he1
    have hs01 := hs0.trans hs1
    have S0 := S.grow hs0
    refine w_setL (hs01 _ _ e1) (n := 8) rfl ?_
    have S1 := S0.fld (R' := { R1 with lost := R1.lost ++ rg R1.height R1.noted }) (sp' := sp) hs1 rfl rfl rfl rfl (S0.cmOut hs1) (S0.newL hn1 hs1 hq1) S.s.cml (by simp [hlol]) (rfl : [V.int R1.height, .int R1.noted, .int R1.crashes, .ref M.r, .ref M.l, .ref M.t, .ref M.s, .ref cm, .ref lo, oV sp].set 8 (.ref q1) = _)
    have k1 : Kp M H (upd H1 M.a (.lst ([V.int R1.height, .int R1.noted, .int R1.crashes, .ref M.r, .ref M.l, .ref M.t, .ref M.s, .ref cm, .ref lo, oV sp].set 8 (.ref q1)))) := (kp.trans (Kp.of hs01)).put SimIn.ha
    generalize upd H1 M.a (.lst ([V.int R1.height, .int R1.noted, .int R1.crashes, .ref M.r, .ref M.l, .ref M.t, .ref M.s, .ref cm, .ref lo, oV sp].set 8 (.ref q1))) = G1 at *
    have f1 := S1.ea
    walk_at "rd"
    refine w_setL f1 (n := 0) rfl ?_
    have S2 := S1.fld (R' := { R1 with lost := R1.lost ++ rg R1.height R1.noted, height := R1.noted }) (sp' := sp) (Same.refl G1) rfl rfl rfl rfl (S1.cmOut (Same.refl _)) (S1.loOut (Same.refl _)) S1.s.cml S1.s.lol (rfl : [V.int R1.height, .int R1.noted, .int R1.crashes, .ref M.r, .ref M.l, .ref M.t, .ref M.s, .ref cm, .ref q1, oV sp].set 0 (.int R1.noted) = _)
    have k2 := k1.put (x := M.a) (o := .lst ([V.int R1.height, .int R1.noted, .int R1.crashes, .ref M.r, .ref M.l, .ref M.t, .ref M.s, .ref cm, .ref q1, oV sp].set 0 (.int R1.noted))) SimIn.ha
    generalize upd G1 M.a (.lst ([V.int R1.height, .int R1.noted, .int R1.crashes, .ref M.r, .ref M.l, .ref M.t, .ref M.s, .ref cm, .ref q1, oV sp].set 0 (.int R1.noted))) = G2 at *
    have g1 := S2.ea
    have g2 := S2.ep
    walk_at "rd"
    refine w_setL g1 (n := 1) rfl ?_
    have S3 := S2.fld (R' := { R1 with lost := R1.lost ++ rg R1.height R1.noted, height := R1.noted, noted := R1.noted + D.ahead }) (sp' := sp) (Same.refl G2) rfl rfl rfl rfl (S2.cmOut (Same.refl _)) (S2.loOut (Same.refl _)) S2.s.cml S2.s.lol (rfl : [V.int R1.noted, .int R1.noted, .int R1.crashes, .ref M.r, .ref M.l, .ref M.t, .ref M.s, .ref cm, .ref q1, oV sp].set 1 (.int (R1.noted + D.ahead)) = _)
    have k3 := k2.put (x := M.a) (o := .lst ([V.int R1.noted, .int R1.noted, .int R1.crashes, .ref M.r, .ref M.l, .ref M.t, .ref M.s, .ref cm, .ref q1, oV sp].set 1 (.int (R1.noted + D.ahead)))) SimIn.ha
    generalize upd G2 M.a (.lst ([V.int R1.noted, .int R1.noted, .int R1.crashes, .ref M.r, .ref M.l, .ref M.t, .ref M.s, .ref cm, .ref q1, oV sp].set 1 (.int (R1.noted + D.ahead)))) = G3 at *
    have i1 := S3.ea
    walk_at "rd"
    refine w_setL i1 (n := 2) rfl ?_
    have S4 := S3.fld (R' := { R1 with lost := R1.lost ++ rg R1.height R1.noted, height := R1.noted, noted := R1.noted + D.ahead, crashes := R1.crashes - 1 }) (sp' := sp) (Same.refl G3) rfl rfl rfl rfl (S3.cmOut (Same.refl _)) (S3.loOut (Same.refl _)) S3.s.cml S3.s.lol (rfl : [V.int R1.noted, .int (R1.noted + D.ahead), .int R1.crashes, .ref M.r, .ref M.l, .ref M.t, .ref M.s, .ref cm, .ref q1, oV sp].set 2 (.int (R1.crashes - 1)) = _)
    have k4 := k3.put (x := M.a) (o := .lst ([V.int R1.noted, .int (R1.noted + D.ahead), .int R1.crashes, .ref M.r, .ref M.l, .ref M.t, .ref M.s, .ref cm, .ref q1, oV sp].set 2 (.int (R1.crashes - 1)))) SimIn.ha
    exact hq _ k4 ⟨_, _, _, _, _, _, _, _, _, _, S4⟩
end
theorem perm_filter_snoc {α : Type} [DecidableEq α] {n : α} : ∀ {l : List α}, l.Nodup → n ∈ l → l.Perm (l.filter (fun x => !decide (x = n)) ++ [n])
  | [], _, h => by cases h
  | x :: l, nd, h => by
    rw [List.nodup_cons] at nd
    by_cases e : x = n
    · subst e
      have h1 : l.filter (fun y => !decide (y = x)) = l := List.filter_eq_self.mpr (fun y hy => by
        have : ¬ y = x := by rintro rfl; exact nd.1 hy
        simp [this])
      rw [List.filter_cons_of_neg (by simp), h1]
      exact (List.perm_append_singleton x l).symm
    · rw [List.filter_cons_of_pos (by simp [e]), List.cons_append]
      exact (perm_filter_snoc nd.2 ((List.mem_cons.mp h).resolve_left (fun z => e z.symm))).cons x
theorem perm_filter_out {α : Type} [DecidableEq α] {n : α} {l ns : List α} (hp : ns.Perm l) (h : ¬ n ∈ ns) : (ns ++ [n]).Perm (l.filter (fun x => !decide (x = n)) ++ [n]) := by
  have h1 : l.filter (fun y => !decide (y = n)) = l := List.filter_eq_self.mpr (fun y hy => by
    have : ¬ y = n := by rintro rfl; exact h (hp.mem_iff.mpr hy)
    simp [this])
  rw [h1]
  exact hp.append_right [n]
theorem filterMap_not (nm : Str) (ns : List Str) : ns.filterMap (fun x => if x = nm then none else some (V.str x)) = (ns.filter (fun x => !decide (x = nm))).map V.str := by
  induction ns with
  | nil => rfl
  | cons x l ih =>
    by_cases hx : x = nm
    · simp [hx, ih]
    · simp [hx, ih]
section
variable {U : Addr → Prop} {H H1 : Hp} {M : Mo} {D : SysD} {R : Rs} {cm lo : Addr} {cv lv : List V} {sp : Option Int} {ri li ti si bi : Nat → Addr} {s : Nat}
theorem SimU.plk {zs : List Str} (S : SimU U H M D R cm lo cv lv sp ri li ti si bi) (hs : s < D.n) (hp : (R.locks.getD s []).Perm zs) : SimU U H M D { R with locks := R.locks.set s zs } cm lo cv lv sp ri li ti si bi := by
  have q := S.s
  refine ⟨S.full, q.ea, q.er, q.el, q.et, q.es, q.ecm, q.elo, q.ep, q.epb, q.epk, q.br, q.rest, fun i hi => ?_, q.tr, q.st, q.nh, q.dis, q.cml, q.lol, ⟨q.len.rests, by simp [q.len.locks], q.len.trans, q.len.stores⟩, q.dok⟩
  obtain ⟨ns, g1, g2, g3⟩ := q.lk i hi
  refine ⟨ns, g1, ?_, g3⟩
  show ns.Perm ((R.locks.set s zs).getD i [])
  by_cases e : i = s
  · subst e
    rw [getD_set_eq (by rw [q.len.locks]; exact hs)]
    exact g2.trans hp
  · rw [getD_set_ne e]; exact g2
end
/-- what the law's model does at a statement -/
def Rs.act2 (blk ahead : Int) (s : Nat) (st : Sm) (R : Rs) : Rs := match st with
  | .leave => R.dropS s
  | st => R.act blk ahead s st
section
variable {P : Program} {w : World} {K : PySem.W.Frag} {mg : Str → Option Value} {base : Heap}
def sp__law_take (K : PySem.W.Frag) : Sp := fun vs H Q E => ∃ U M D R s, vs = [.ref (Mo.a M), .ref (Mo.p M), .int (s : Nat)] ∧ SimAt U H M D R ∧ s < D.n ∧ Lim9 R ∧ (∀ H', Kp M H H' → SimAt U H' M D (R.take (D.blk s) D.ahead s) → Q .non H')
theorem len__law_take (K : PySem.W.Frag) : ∀ (vs : List V) (H : Hp) (Q : VK) (E : XK), sp__law_take K vs H Q E → vs.length = 3 := by
  rintro vs H Q E ⟨_, _, _, _, _, rfl, _⟩
  rfl
theorem ok__law_take (T : Txt K mg) : CallF P w K mg base 1 (He.ga K "_law_take") ["_law_sim", "_law_plan_here", "_law_s"] (sp__law_take K) := by
  obtain ⟨fd, F⟩ := T.d__law_take
  refine ⟨fd, F.ok cs_law_take (len__law_take K) (fun cdv A outer s H vs Q E hr hsp => ?_), F.bindsN (fun _ _ _ _ _ _ us hl => match us, hl with | [_, _, _], _ => rfl), F.kp⟩
  have hu := hu_of hr
  have hu65 : (A.deeper (envOfC "_law_take" (defScope s_law_take) s.heap.objs.size (He.ga K "_law_take") cdv)).units + 65 < cLine := by have := hr.un; omega
  have hu0 := hr.units0
  refine ⟨_, PSs.nox (Evl.pss_cut (ps_if (pt_cmpR op_eq (pe_callB call_lenN (by rfl) T.f_len (by decide +kernel) (pa_cons (pe_ix ix_list (pe_ix ix_list (pv 0) pe_int (fun _ _ => rfl)) (pv 2) (fun _ _ => rfl)) pa_nil)) pe_int (nomark _)) (pss_cons (ps_asg (pe_listRg rfl (by rfl) T.f_list (prg_2 (by rfl) T.f_range (pe_ix ix_list (pv 0) pe_int (fun _ _ => rfl)) (pe_op op_add (pe_ix ix_list (pv 0) pe_int (fun _ _ => rfl)) (pe_ix ix_list (pe_ix ix_list (pv 1) pe_int (fun _ _ => rfl)) (pv 2) (fun _ _ => rfl))))) (pg_sub (pe_ix ix_list (pv 0) pe_int (fun _ _ => rfl)) (pv 2) set_list))
      (pss_cons (ps_asg (pe_op op_add (pe_ix ix_list (pv 0) pe_int (fun _ _ => rfl)) (pe_ix ix_list (pe_ix ix_list (pv 1) pe_int (fun _ _ => rfl)) (pv 2) (fun _ _ => rfl))) (pg_sub (pv 0) pe_int set_list))
      (pss_one (ps_if (pt_cmpR op_gt (pe_ix ix_list (pv 0) pe_int (fun _ _ => rfl)) (pe_ix ix_list (pv 0) pe_int (fun _ _ => rfl)) (nomark _)) (pss_one (ps_asg (pe_op op_add (pe_ix ix_list (pv 0) pe_int (fun _ _ => rfl)) (pe_ix ix_list (pv 1) pe_int (fun _ _ => rfl))) (pg_sub (pv 0) pe_int set_list))) pss_nil)))) pss_nil)
      (pss_cons (ps_asg (pe_op op_cat (pe_ix ix_list (pe_ix ix_list (pv 0) pe_int (fun _ _ => rfl)) (pv 2) (fun _ _ => rfl)) (pe_lst (pa_cons (pe_ix ix_list (pe_ix ix_list (pe_ix ix_list (pv 0) pe_int (fun _ _ => rfl)) (pv 2) (fun _ _ => rfl)) pe_int (fun _ _ => rfl)) pa_nil))) (pg_sub (pe_ix ix_list (pv 0) pe_int (fun _ _ => rfl)) (pv 2) set_list))
      (pss_one (ps_asg (pe_slice sl_list (pe_ix ix_list (pe_ix ix_list (pv 0) pe_int (fun _ _ => rfl)) (pv 2) (fun _ _ => rfl)) (po_some pe_int) po_none) (pg_sub (pe_ix ix_list (pv 0) pe_int (fun _ _ => rfl)) (pv 2) set_list))))), ?_⟩
  obtain ⟨U, M, D, R, s0, rfl, ⟨cm, lo, cv, lv, sp, ri, li, ti, si, bi, S⟩, hs, L9, hq⟩ := hsp
  have hn3 := S.s.dok.n3
  have lim := L9.lim
  have e1 := S.ea
  have e3 := S.es
  have e4 := S.st hs
  have e6 := S.ep
  have e7 := S.epk
  have hx1 := at_refs (f := si) hs
  have hx3 := blk_at hs
  obtain ⟨k, hk1, hk2, hk3⟩ := SysD.ss_at hs
  have hbk := S.s.dok.blk k (List.mem_of_getElem? hk1)
  rw [← hk3] at hbk
  have h0 := lim.h0
  have h1 := lim.h1
  have h2 := lim.h2
  walk_at "st"
  walk_at "rd"
  refine ⟨fun σ H' => ∃ R1, Kp M H H' ∧ SimAt U H' M D R1 ∧ R1.stores.getD s0 [] ≠ [] ∧ R1.pick s0 = R.take (D.blk s0) D.ahead s0 ∧ Lim R1 ∧ σ = [some (.ref M.a), some (.ref M.p), some (.int (s0 : Nat))], ?_, ?_⟩
  · walk_at "rd"
    by_cases hst : R.stores.getD s0 [] = []
    · refine w_itet (by rw [hst]; rfl) ?_
      walk_at "rd"
      refine w_gLstRg (RgOk.of_le (by omega) (by omega) (by omega) (by omega)) ?_
      refine w_new fun q1 H1 hn1 hs1 hq1 _ => ?_
      rw [rg_V] at hq1
      have f1 := hs1 _ _ e1
      walk_at "rd"
      refine w_setL (hs1 _ _ e3) (ix_refs hs) ?_
      have S1 := S.wst hs1 hs hn1 hq1
      have k1 := ((Kp.refl M H).trans (Kp.of hs1)).put (x := M.s) (o := .lst ((refs D.n si).set s0 (.ref q1))) SimIn.hs
      generalize upd H1 M.s (.lst ((refs D.n si).set s0 (.ref q1))) = G1 at *
      have g1 := S1.ea
      have g6 := S1.ep
      have g7 := S1.epk
      walk_at "rd"
      refine w_setL g1 (n := 0) rfl ?_
      have S2 := S1.fld (R' := { R with stores := R.stores.set s0 (rg R.height (R.height + D.blk s0)), height := R.height + D.blk s0 }) (sp' := sp) (Same.refl G1) rfl rfl rfl rfl (S1.cmOut (Same.refl _)) (S1.loOut (Same.refl _)) S1.s.cml S1.s.lol (rfl : [V.int R.height, .int R.noted, .int R.crashes, .ref M.r, .ref M.l, .ref M.t, .ref M.s, .ref cm, .ref lo, oV sp].set 0 (.int (R.height + D.blk s0)) = _)
      have k2 := k1.put (x := M.a) (o := .lst ([V.int R.height, .int R.noted, .int R.crashes, .ref M.r, .ref M.l, .ref M.t, .ref M.s, .ref cm, .ref lo, oV sp].set 0 (.int (R.height + D.blk s0)))) SimIn.ha
      generalize upd G1 M.a (.lst ([V.int R.height, .int R.noted, .int R.crashes, .ref M.r, .ref M.l, .ref M.t, .ref M.s, .ref cm, .ref lo, oV sp].set 0 (.int (R.height + D.blk s0)))) = G2 at *
      have i1 := S2.ea
      have i6 := S2.ep
      have hne : (R.handOut (D.blk s0) D.ahead s0).stores.getD s0 [] ≠ [] := by
        show (R.stores.set s0 _).getD s0 [] ≠ []
        rw [getD_set_eq (by rw [S.s.len.stores]; exact hs)]
        intro e
        have := congrArg List.length e
        rw [rg_len] at this
        simp at this
        omega
      have htk : (R.handOut (D.blk s0) D.ahead s0).pick s0 = R.take (D.blk s0) D.ahead s0 := by
        show _ = (if R.stores.getD s0 [] = [] then _ else _ : Rs).pick s0
        rw [if_pos hst]
      have hlim := lim.handOut (s := s0) L9.h L9.n L9.t hbk S.s.dok.ah (by rw [S.s.len.stores]; exact hs) hst
      walk_at "rd"
      refine w_ite (fun hlt => ?_) (fun hlt => ?_)
      · walk_at "rd"
        refine w_setL i1 (n := 1) rfl ?_
        have S3 := S2.fld (R' := R.handOut (D.blk s0) D.ahead s0) (sp' := sp) (Same.refl G2) rfl rfl rfl rfl (S2.cmOut (Same.refl _)) (S2.loOut (Same.refl _)) S2.s.cml S2.s.lol (xs := [V.int (R.height + D.blk s0), .int R.noted, .int R.crashes, .ref M.r, .ref M.l, .ref M.t, .ref M.s, .ref cm, .ref lo, oV sp].set 1 (.int (R.height + D.blk s0 + D.ahead))) (by simp only [Rs.handOut, if_pos hlt]; rfl)
        exact ⟨R.handOut (D.blk s0) D.ahead s0, k2.put SimIn.ha, ⟨_, _, _, _, _, _, _, _, _, _, S3⟩, hne, htk, hlim, rfl⟩
      · walk_at "rd"
        have hho : ({ R with stores := R.stores.set s0 (rg R.height (R.height + D.blk s0)), height := R.height + D.blk s0 } : Rs) = R.handOut (D.blk s0) D.ahead s0 := by unfold Rs.handOut; rw [if_neg hlt]
        exact ⟨R.handOut (D.blk s0) D.ahead s0, k2, ⟨_, _, _, _, _, _, _, _, _, _, hho ▸ S2⟩, hne, htk, hlim, rfl⟩
    · refine w_itef (by rw [List.length_map]; have := List.length_pos_iff.mpr hst; omega) ?_
      walk_at "rd"
      refine ⟨R, Kp.refl M H, ⟨_, _, _, _, _, _, _, _, _, _, S⟩, hst, ?_, lim, rfl⟩
      show _ = (if R.stores.getD s0 [] = [] then _ else _ : Rs).pick s0
      rw [if_neg hst]
  · rintro σ H2 ⟨R1, k1, ⟨cm, lo, cv, lv, sp, ri, li, ti, si, bi, S1⟩, hne, htk, hlim, rfl⟩
    rw [← htk] at hq
    obtain ⟨x, xs2, hx⟩ : ∃ x xs2, R1.stores.getD s0 [] = x :: xs2 := by
      cases h : R1.stores.getD s0 [] with
      | nil => exact absurd h hne
      | cons x xs => exact ⟨x, xs, rfl⟩
    have htot := hlim.tot
    have htr := lsum_get R1.trans s0
    have f1 := S1.ea
    have f2 := S1.et
    have f3 := S1.es
    have f4 := S1.tr hs
    have f5 := S1.st hs
    rw [hx, List.map_cons] at f5
    have hy1 := at_refs (f := ti) hs
    have hy2 := at_refs (f := si) hs
    walk_at "rd"
    rename_i q1 H3 hn3' hs3 hq3 he3
    have f43 := hs3 _ _ f4
    refine w_cat f43 hq3 (small_big (by rw [List.length_map]; simp only [List.length_singleton]; unfold Rs.tot at htot; omega)) ?_
    refine w_new fun q2 H4 hn4 hs4 hq4 _ => ?_
    have hs34 := hs3.trans hs4
    have g1 := hs34 _ _ f1
    walk_at "rd"
    refine w_setL (hs34 _ _ f2) (ix_refs hs) ?_
    have S2 := S1.wtr (zs := R1.trans.getD s0 [] ++ [x]) hs34 hs (hs3.free hn4) (by rw [hq4]; simp)
    have k2 := (k1.trans (Kp.of hs34)).put (x := M.t) (o := .lst ((refs D.n ti).set s0 (.ref q2))) SimIn.ht
    generalize upd H4 M.t (.lst ((refs D.n ti).set s0 (.ref q2))) = G2 at *
    have g1 := S2.ea
    have g3 := S2.es
    have g5 : G2 (si s0) = some (.lst (V.int x :: xs2.map V.int)) := by have := S2.st hs; rw [show ({ R1 with trans := R1.trans.set s0 (R1.trans.getD s0 [] ++ [x]) } : Rs).stores.getD s0 [] = x :: xs2 from hx, List.map_cons] at this; exact this
    walk_at "rd"
    rename_i q5 H5 hn5 hs5 hq5 he5
    rw [cut_one] at hq5
    refine w_setL (hs5 _ _ g3) (ix_refs hs) ?_
    have S3 := S2.wst (zs := xs2) hs5 hs hn5 hq5
    have k3 := (k2.trans (Kp.of hs5)).put (x := M.s) (o := .lst ((refs D.n si).set s0 (.ref q5))) SimIn.hs
    have hpk : ({ ({ R1 with trans := R1.trans.set s0 (R1.trans.getD s0 [] ++ [x]) } : Rs) with stores := R1.stores.set s0 xs2 } : Rs) = R1.pick s0 := by unfold Rs.pick; rw [hx]; rfl
    exact hq _ k3 ⟨_, _, _, _, _, _, _, _, _, _, hpk ▸ S3⟩
def sp__law_act (K : PySem.W.Frag) : Sp := fun vs H Q E => ∃ U M D R s v st r, vs = [.ref (Mo.a M), .ref (Mo.p M), .int (s : Nat), v] ∧ SimAt U H M D R ∧ R.rests[s]? = some (st :: r) ∧ Ds H v st ∧ Lim9 R ∧ (R.locks.getD s []).Nodup ∧ (∀ H', Kp M H H' → SimAt U H' M D (R.act2 (D.blk s) D.ahead s st) → Q .non H')
theorem len__law_act (K : PySem.W.Frag) : ∀ (vs : List V) (H : Hp) (Q : VK) (E : XK), sp__law_act K vs H Q E → vs.length = 4 := by
  rintro vs H Q E ⟨_, _, _, _, _, _, _, _, rfl, _⟩
  rfl
theorem ok__law_act (T : Txt K mg) : CallF P w K mg base 2 (He.ga K "_law_act") ["_law_sim", "_law_plan_here", "_law_s", "_law_statement"] (sp__law_act K) := by
  obtain ⟨fd, F⟩ := T.d__law_act
  obtain ⟨fd__law_take, G__law_take, b__law_take, k__law_take⟩ := ok__law_take (P := P) (w := w) (base := base) T
  refine ⟨fd, F.ok cs_law_act (len__law_act K) (fun cdv A outer s H vs Q E hr hsp => ?_), F.bindsN (fun _ _ _ _ _ _ us hl => match us, hl with | [_, _, _, _], _ => rfl), F.kp⟩
  have hu := hu_of hr
  have hu65 : (A.deeper (envOfC "_law_act" (defScope s_law_act) s.heap.objs.size (He.ga K "_law_act") cdv)).units + 65 < cLine := by have := hr.un; omega
  have hu0 := hr.units0
  refine ⟨_, PSs.nox (pss_cons (ps_set (i := 4) cs_law_act.nd rfl (Or.inl rfl) (pe_ix ix_tup (pv 3) pe_int (fun _ _ => rfl)))
      (pss_one (ps_if (pt_cmpR op_eq (pv 4) pe_str (nomark _)) (pss_one (ps_expr (pe_call G__law_take (hr.mono (by decide)) (by rfl) T.g__law_take k__law_take b__law_take .nil pass0 (pa_cons (pv 0) (pa_cons (pv 1) (pa_cons (pv 2) pa_nil)))))) (pss_one (ps_if (PW.pt (pw_and (pt_cmpR op_eq (pv 4) pe_str (nomark _)) (pw_and1 (pt_cmpR op_gt (pe_callB call_lenN (by rfl) T.f_len (by decide +kernel) (pa_cons (pe_ix ix_list (pe_ix ix_list (pv 0) pe_int (fun _ _ => rfl)) (pv 2) (fun _ _ => rfl)) pa_nil)) pe_int (nomark _))))) (pss_cons (ps_asg (pe_op op_cat (pe_ix ix_list (pv 0) pe_int (fun _ _ => rfl)) (pe_lst (pa_cons (pe_tup (pa_cons (pv 2) (pa_cons (pe_callTy call_tupN (by rfl) T.f_tuple (by decide +kernel) (pa_cons (pe_ix ix_list (pe_ix ix_list (pv 0) pe_int (fun _ _ => rfl)) (pv 2) (fun _ _ => rfl)) pa_nil)) pa_nil))) pa_nil))) (pg_sub (pv 0) pe_int set_list))
      (pss_one (ps_asg (pe_lst pa_nil) (pg_sub (pe_ix ix_list (pv 0) pe_int (fun _ _ => rfl)) (pv 2) set_list)))) (pss_one (ps_if (pt_cmpR op_eq (pv 4) pe_str (nomark _)) (pss_cons (ps_asg (pe_op op_cat (pe_ix ix_list (pv 0) pe_int (fun _ _ => rfl)) (pe_ix ix_list (pe_ix ix_list (pv 0) pe_int (fun _ _ => rfl)) (pv 2) (fun _ _ => rfl))) (pg_sub (pv 0) pe_int set_list))
      (pss_one (ps_asg (pe_lst pa_nil) (pg_sub (pe_ix ix_list (pv 0) pe_int (fun _ _ => rfl)) (pv 2) set_list)))) (pss_one (ps_if (PW.pt (pw_or (pt_cmpR op_eq (pv 4) pe_str (nomark _)) (pw_or1 (pt_cmpR op_eq (pv 4) pe_str (nomark _))))) (pss_cons (ps_asg (pe_op op_cat (pe_ix ix_list (pv 0) pe_int (fun _ _ => rfl)) (pe_ix ix_list (pe_ix ix_list (pv 0) pe_int (fun _ _ => rfl)) (pv 2) (fun _ _ => rfl))) (pg_sub (pv 0) pe_int set_list))
      (pss_one (ps_asg (pe_lst pa_nil) (pg_sub (pe_ix ix_list (pv 0) pe_int (fun _ _ => rfl)) (pv 2) set_list)))) (pss_one (ps_if (PW.pt (pw_and (pt_cmpR op_eq (pv 4) pe_str (nomark _)) (pw_and1 (pt_cmpR op_notIn_seq (pe_ix ix_tup (pv 3) pe_int (fun _ _ => rfl)) (pe_ix ix_list (pe_ix ix_list (pv 0) pe_int (fun _ _ => rfl)) (pv 2) (fun _ _ => rfl)) (by rfl))))) (pss_one (ps_asg (pe_op op_cat (pe_ix ix_list (pe_ix ix_list (pv 0) pe_int (fun _ _ => rfl)) (pv 2) (fun _ _ => rfl)) (pe_lst (pa_cons (pe_ix ix_tup (pv 3) pe_int (fun _ _ => rfl)) pa_nil))) (pg_sub (pe_ix ix_list (pv 0) pe_int (fun _ _ => rfl)) (pv 2) set_list))) (pss_one (ps_if (pt_cmpR op_eq (pv 4) pe_str (nomark _)) (pss_one (ps_asg (pe_lc (own := [("_law_name", 5)]) rfl cs_law_act.nd (pi_list (pe_ix ix_list (pe_ix ix_list (pv 0) pe_int (fun _ _ => rfl)) (pv 2) (fun _ _ => rfl))) (blkOk_by (own := [("_law_name", 5)]) (N := ["_law_sim", "_law_plan_here", "_law_s", "_law_statement", "_law_word", "_law_name"]) (sc := defScope s_law_act) (by decide +kernel)) (fun _ _ _ _ _ => (pg_name (i := 5) cs_law_act.nd rfl (Or.inl rfl))) (fun _ _ _ _ _ => (pts_one (pt_cmpR op_ne (pv 5) (pe_ix (ix_tupB (K := K) rfl) (pv 3) pe_int (fun _ _ => rfl)) (nomark _)))) (fun _ _ _ _ _ => (pv 5))) (pg_sub (pe_ix ix_list (pv 0) pe_int (fun _ _ => rfl)) (pv 2) set_list))) pss_nil))))))))))))), ?_⟩
  obtain ⟨U, M, D, R, s0, v, st, r0, rfl, SA, hr0, dv, L9, hnd, hq⟩ := hsp
  obtain ⟨cm, lo, cv, lv, sp, ri, li, ti, si, bi, S⟩ := id SA
  have hs := S.s_lt hr0
  have hn3 := S.s.dok.n3
  have lim := L9.lim
  have htot := lim.tot
  have hlol := S.s.lol
  have hcml := S.s.cml
  have hlcm := lim.cm
  have e1 := S.ea
  obtain ⟨va, xs, rfl, ea⟩ := dv.head
  walk_at "st"
  cases st with
  | take =>
    dsimp only [Sm.word] at ea
    walk_at "rd"
    exact ⟨U, M, D, R, s0, rfl, SA, hs, L9, fun H' k SA' => hq _ k SA'⟩
  | commit =>
    dsimp only [Sm.word] at ea
    have e2 := S.et
    have e3 := S.ecm
    have e4 := S.tr hs
    have hx1 := at_refs (f := ti) hs
    walk_at "rd"
    by_cases he : R.trans.getD s0 [] = []
    · refine w_itef (by rw [he]; decide) ?_
      walk_at "rd"
      refine hq _ (Kp.refl M H) ?_
      rw [show R.act2 (D.blk s0) D.ahead s0 .commit = R from if_pos he]
      exact SA
    · have hpos : (0 : Int) < ((R.trans.getD s0 []).map V.int).length := by
        rw [List.length_map]
        have := List.length_pos_iff.mpr he
        omega
      refine w_itet hpos ?_
      walk_at "rd"
      rename_i p2 H2 hn2 hs2 hp2 he2 p3 H3 hn3' hs3 hp3 he3 p4 H4 hn4 hs4 hp4 he4
      have hs14 := hs2.trans (hs3.trans hs4)
      refine w_cat (hs14 _ _ e3) hp4 (small_big (by simp only [List.length_singleton]; omega)) ?_
      refine w_new fun q5 H5 hn5 hs5 hq5 _ => ?_
      have hs15 := hs14.trans hs5
      walk_at "rd"
      refine w_setL (hs15 _ _ e1) (n := 7) rfl ?_
      have S1 := S.fld (R' := { R with commits := R.commits ++ [((s0 : Int), R.trans.getD s0 [])] }) (sp' := sp) hs15 rfl rfl rfl rfl (S.newL (hs14.free hn5) hs15 hq5) (S.loOut hs15) (by simp [hcml]) S.s.lol (rfl : [V.int R.height, .int R.noted, .int R.crashes, .ref M.r, .ref M.l, .ref M.t, .ref M.s, .ref cm, .ref lo, oV sp].set 7 (.ref q5) = _)
      have k1 := ((Kp.refl M H).trans (Kp.of hs15)).put (x := M.a) (o := .lst ([V.int R.height, .int R.noted, .int R.crashes, .ref M.r, .ref M.l, .ref M.t, .ref M.s, .ref cm, .ref lo, oV sp].set 7 (.ref q5))) SimIn.ha
      generalize upd H5 M.a (.lst ([V.int R.height, .int R.noted, .int R.crashes, .ref M.r, .ref M.l, .ref M.t, .ref M.s, .ref cm, .ref lo, oV sp].set 7 (.ref q5))) = G1 at *
      have f1 := S1.ea
      have f3 := S1.et
      walk_at "rd"
      rename_i q6 H6 hn6 hs6 hq6 he6
      refine w_setL (hs6 _ _ f3) (ix_refs hs) ?_
      have S2 := S1.wtr (zs := []) hs6 hs hn6 hq6
      refine hq _ ((k1.trans (Kp.of hs6)).put SimIn.ht) ?_
      rw [show R.act2 (D.blk s0) D.ahead s0 .commit = { R with commits := R.commits ++ [((s0 : Int), R.trans.getD s0 [])], trans := R.trans.set s0 [] } from if_neg he]
      exact ⟨_, _, _, _, _, _, _, _, _, _, S2⟩
  | rollback =>
    dsimp only [Sm.word] at ea
    have e2 := S.elo
    have e3 := S.et
    have e4 := S.tr hs
    have hx1 := at_refs (f := ti) hs
    have hg := lsum_get R.trans s0
    have hsz : lv.length + ((R.trans.getD s0 []).map V.int).length ≤ sizeLine := small_big (by rw [List.length_map]; unfold Rs.tot at htot; omega)
    walk_at "rd"
    rename_i q1 H1 hn1 hs1 hq1 he1
    refine w_setL (hs1 _ _ e1) (n := 8) rfl ?_
    have S1 := S.fld (R' := { R with lost := R.lost ++ R.trans.getD s0 [] }) (sp' := sp) hs1 rfl rfl rfl rfl (S.cmOut hs1) (S.newL hn1 hs1 hq1) S.s.cml (by simp [hlol]) (rfl : [V.int R.height, .int R.noted, .int R.crashes, .ref M.r, .ref M.l, .ref M.t, .ref M.s, .ref cm, .ref lo, oV sp].set 8 (.ref q1) = _)
    have k1 := ((Kp.refl M H).trans (Kp.of hs1)).put (x := M.a) (o := .lst ([V.int R.height, .int R.noted, .int R.crashes, .ref M.r, .ref M.l, .ref M.t, .ref M.s, .ref cm, .ref lo, oV sp].set 8 (.ref q1))) SimIn.ha
    generalize upd H1 M.a (.lst ([V.int R.height, .int R.noted, .int R.crashes, .ref M.r, .ref M.l, .ref M.t, .ref M.s, .ref cm, .ref lo, oV sp].set 8 (.ref q1))) = G1 at *
    have f1 := S1.ea
    have f3 := S1.et
    walk_at "rd"
    rename_i q2 H2 hn2 hs2 hq2 he2
    refine w_setL (hs2 _ _ f3) (ix_refs hs) ?_
    have S2 := S1.wtr (zs := []) hs2 hs hn2 hq2
    exact hq _ ((k1.trans (Kp.of hs2)).put SimIn.ht) ⟨_, _, _, _, _, _, _, _, _, _, S2⟩
  | drop =>
    dsimp only [Sm.word] at ea
    have e2 := S.elo
    have e3 := S.es
    have e4 := S.st hs
    have hx1 := at_refs (f := si) hs
    have hg := lsum_get R.stores s0
    have hsz : lv.length + ((R.stores.getD s0 []).map V.int).length ≤ sizeLine := small_big (by rw [List.length_map]; unfold Rs.tot at htot; omega)
    walk_at "rd"
    rename_i q1 H1 hn1 hs1 hq1 he1
    refine w_setL (hs1 _ _ e1) (n := 8) rfl ?_
    have S1 := S.fld (R' := { R with lost := R.lost ++ R.stores.getD s0 [] }) (sp' := sp) hs1 rfl rfl rfl rfl (S.cmOut hs1) (S.newL hn1 hs1 hq1) S.s.cml (by simp [hlol]) (rfl : [V.int R.height, .int R.noted, .int R.crashes, .ref M.r, .ref M.l, .ref M.t, .ref M.s, .ref cm, .ref lo, oV sp].set 8 (.ref q1) = _)
    have k1 := ((Kp.refl M H).trans (Kp.of hs1)).put (x := M.a) (o := .lst ([V.int R.height, .int R.noted, .int R.crashes, .ref M.r, .ref M.l, .ref M.t, .ref M.s, .ref cm, .ref lo, oV sp].set 8 (.ref q1))) SimIn.ha
    generalize upd H1 M.a (.lst ([V.int R.height, .int R.noted, .int R.crashes, .ref M.r, .ref M.l, .ref M.t, .ref M.s, .ref cm, .ref lo, oV sp].set 8 (.ref q1))) = G1 at *
    have f1 := S1.ea
    have f3 := S1.es
    walk_at "rd"
    rename_i q2 H2 hn2 hs2 hq2 he2
    refine w_setL (hs2 _ _ f3) (ix_refs hs) ?_
    have S2 := S1.wst (zs := []) hs2 hs hn2 hq2
    exact hq _ ((k1.trans (Kp.of hs2)).put SimIn.hs) ⟨_, _, _, _, _, _, _, _, _, _, S2⟩
  | leave =>
    dsimp only [Sm.word] at ea
    have e2 := S.elo
    have e3 := S.es
    have e4 := S.st hs
    have hx1 := at_refs (f := si) hs
    have hg := lsum_get R.stores s0
    have hsz : lv.length + ((R.stores.getD s0 []).map V.int).length ≤ sizeLine := small_big (by rw [List.length_map]; unfold Rs.tot at htot; omega)
    walk_at "rd"
    rename_i q1 H1 hn1 hs1 hq1 he1
    refine w_setL (hs1 _ _ e1) (n := 8) rfl ?_
    have S1 := S.fld (R' := { R with lost := R.lost ++ R.stores.getD s0 [] }) (sp' := sp) hs1 rfl rfl rfl rfl (S.cmOut hs1) (S.newL hn1 hs1 hq1) S.s.cml (by simp [hlol]) (rfl : [V.int R.height, .int R.noted, .int R.crashes, .ref M.r, .ref M.l, .ref M.t, .ref M.s, .ref cm, .ref lo, oV sp].set 8 (.ref q1) = _)
    have k1 := ((Kp.refl M H).trans (Kp.of hs1)).put (x := M.a) (o := .lst ([V.int R.height, .int R.noted, .int R.crashes, .ref M.r, .ref M.l, .ref M.t, .ref M.s, .ref cm, .ref lo, oV sp].set 8 (.ref q1))) SimIn.ha
    generalize upd H1 M.a (.lst ([V.int R.height, .int R.noted, .int R.crashes, .ref M.r, .ref M.l, .ref M.t, .ref M.s, .ref cm, .ref lo, oV sp].set 8 (.ref q1))) = G1 at *
    have f1 := S1.ea
    have f3 := S1.es
    walk_at "rd"
    rename_i q2 H2 hn2 hs2 hq2 he2
    refine w_setL (hs2 _ _ f3) (ix_refs hs) ?_
    have S2 := S1.wst (zs := []) hs2 hs hn2 hq2
    exact hq _ ((k1.trans (Kp.of hs2)).put SimIn.hs) ⟨_, _, _, _, _, _, _, _, _, _, S2⟩
  | lock nm =>
    dsimp only [Sm.word] at ea
    have ea2 := dv.lock
    have e3 := S.el
    obtain ⟨ns, e4, hperm⟩ := S.lk hs
    have hx1 := at_refs (f := li) hs
    have hnl := hperm.length_eq
    have hll := L9.l s0
    walk_at "rd"
    refine notIn_strs e4 ?_
    walk_at "rd"
    refine w_iten (fun hm => ?_) (fun hm => ?_)
    · walk_at "rd"
      rename_i q1 H1 hn1 hs1 hq1 he1 q2 H2 hn2 hs2 hq2 he2
      have hs12 := hs1.trans hs2
      refine w_setL (hs12 _ _ e3) (ix_refs hs) ?_
      have S2 := S.wlk (ns := ns ++ [nm]) (zs := (R.locks.getD s0 []).filter (fun x => !decide (x = nm)) ++ [nm]) hs12 hs (hs1.free hn2) (by rw [hq2]; simp) (perm_filter_out hperm hm)
      exact hq _ (((Kp.refl M H).trans (Kp.of hs12)).put SimIn.hl) ⟨_, _, _, _, _, _, _, _, _, _, S2⟩
    · walk_at "rd"
      have S2 := S.plk (zs := (R.locks.getD s0 []).filter (fun x => !decide (x = nm)) ++ [nm]) hs (perm_filter_snoc hnd (hperm.mem_iff.mp hm))
      exact hq _ (Kp.refl M H) ⟨_, _, _, _, _, _, _, _, _, _, S2⟩
  | unlock nm =>
    dsimp only [Sm.word] at ea
    have ea2 := dv.unlock
    have e3 := S.el
    obtain ⟨ns, e4, hperm⟩ := S.lk hs
    have hx1 := at_refs (f := li) hs
    have hnl := hperm.length_eq
    have hll := L9.l s0
    walk_at "rd"
    refine lcL0 (ys := ns) (val := V.str) (fun x => if x = nm then none else some (.str x)) e4 (small1000 (by omega)) ?_ ?_
    · intro y hy H2 hs2 NT NF hT hF
      have ea3 := hs2 _ _ ea2
      refine w_name rfl ?_
      refine ⟨rfl, ?_⟩
      walk_at "rd"
      refine w_iten (fun hne => ?_) (fun hne => ?_)
      · walk_at "rd"
        exact hT _ (if_neg hne)
      · exact hF (if_pos hne)
    · rw [filterMap_not]
      walk_at "rd"
      rename_i q2 H2 hn2 hs2 hq2 he2
      have f1 := hs2 _ _ e1
      walk_at "rd"
      refine w_setL (hs2 _ _ e3) (ix_refs hs) ?_
      have S2 := S.wlk (zs := (R.locks.getD s0 []).filter (fun x => !decide (x = nm)) ++ if false = true then [nm] else []) hs2 hs hn2 hq2 (by rw [if_neg Bool.false_ne_true, List.append_nil]; exact hperm.filter _)
      exact hq _ (((Kp.refl M H).trans (Kp.of hs2)).put SimIn.hl) ⟨_, _, _, _, _, _, _, _, _, _, S2⟩
  | choose y nn =>
    dsimp only [Sm.word] at ea
    walk_at "rd"
    exact hq _ (Kp.refl M H) SA
end
/-! ### scripts and what is left of them are short -/
mutual
def Sm.cnt : Sm → Nat
  | .choose y n => 1 + (cntL y + cntL n)
  | _ => 1
def cntL : List Sm → Nat
  | [] => 0
  | s :: ss => s.cnt + cntL ss
end
theorem Sm.cnt_pos (s : Sm) : 1 ≤ s.cnt := by
  cases s <;> simp only [Sm.cnt] <;> omega
theorem cntL_len : ∀ ss : List Sm, ss.length ≤ cntL ss
  | [] => Nat.le_refl _
  | s :: ss => by
    have h1 := cntL_len ss
    have h2 := s.cnt_pos
    simp only [cntL, List.length_cons]; omega
theorem cntL_append : ∀ a b : List Sm, cntL (a ++ b) = cntL a + cntL b
  | [], b => by simp [cntL]
  | s :: a, b => by simp only [List.cons_append, cntL, cntL_append a b]; omega
theorem Vb.cnt {d c c' : Int} {n n' : Nat} {ss : List Sm} (h : Vb d c n ss c' n') : n' = n + cntL ss := by
  induction h with
  | nil => simp [cntL]
  | @one d c c' n n' s ss h1 _ _ _ ih =>
    have : s.cnt = 1 := by cases s <;> first | rfl | (simp only [Sm.cnt]; done) | cases h1
    simp only [cntL]; omega
  | choose _ _ _ _ _ ih1 ih2 ih3 => simp only [cntL, Sm.cnt]; omega
theorem cnt_next (st : Sm) (a : Int) (r : List Sm) : cntL (st.next a r) ≤ cntL (st :: r) := by
  cases st with
  | choose y n =>
    show cntL ((if a = 0 then y else n) ++ r) ≤ _
    rw [cntL_append]
    simp only [cntL, Sm.cnt]
    split <;> omega
  | leave => exact Nat.zero_le _
  | _ => simp only [Sm.next, cntL]; omega
/-- what is left is short -/
def Sml (R : Rs) : Prop := ∀ (s : Nat) (r : List Sm), R.rests[s]? = some r → cntL r ≤ 8
theorem Sml.of {R R' : Rs} (h : Sml R) (e : R'.rests = R.rests) : Sml R' := fun s r x => h s r (by rw [← e]; exact x)
theorem Sml.set {R R' : Rs} {s : Nat} {x : List Sm} (h : Sml R) (hx : cntL x ≤ 8) (e : R'.rests = R.rests.set s x) : Sml R' := fun i r g => by
  rw [e, List.getElem?_set] at g
  split at g
  · split at g
    · cases g; exact hx
    · cases g
  · exact h i r g
theorem Sml.fin {R : Rs} {B : List (List Sm)} (hB : ∀ s, cntL (B.getD s []) ≤ 8) {s : Nat} (h : Sml R) : Sml (R.fin B s) := h.set (hB s) rfl
theorem Sml.restart {R : Rs} {B : List (List Sm)} (hB : ∀ s, cntL (B.getD s []) ≤ 8) {s : Nat} (h : Sml R) : Sml (R.restart B s) := Sml.fin hB (h.of rfl)
theorem Sml.loseAll {R : Rs} {B : List (List Sm)} (hB : ∀ s, cntL (B.getD s []) ≤ 8) (h : Sml R) : ∀ n, Sml (R.loseAll B n)
  | 0 => h
  | n + 1 => by rw [loseAll_succ]; exact (Sml.loseAll hB h n).restart hB
theorem act_rests (R : Rs) (blk ahead : Int) (s : Nat) (st : Sm) : (R.act blk ahead s st).rests = R.rests := by
  cases st with
  | take =>
    show (R.take blk ahead s).rests = _
    unfold Rs.take
    split <;> rfl
  | commit =>
    show (R.commit s).rests = _
    unfold Rs.commit
    split <;> rfl
  | _ => rfl
theorem Sml.step {D : SysD} {R : Rs} {m : Mv} (hB : ∀ s, cntL (D.B.getD s []) ≤ 8) (h : Sml R) : Sml (R.step D m) := by
  unfold Rs.step
  refine Sml.of ?_ (spr_same _).1
  cases m with
  | crash => exact (h.loseAll hB D.n).of rfl
  | go s a =>
    dsimp only
    cases hr : R.rests[s]? with
    | none => exact h
    | some l =>
      cases l with
      | nil => exact h
      | cons st r =>
        have hc := h s _ hr
        by_cases hl : st.word = "leave"
        · have := word_leave hl
          subst this
          exact h.restart hB
        · have h1 : R.exec D.B (D.blk s) D.ahead s st a = (R.act (D.blk s) D.ahead s st).adv D.B s (st.next a (R.rests.getD s []).tail) := by
            cases st <;> first | rfl | exact absurd rfl hl
          show Sml (R.exec D.B (D.blk s) D.ahead s st a)
          rw [h1]
          have h2 : (R.rests.getD s []).tail = r := by rw [List.getD_eq_getElem?_getD, hr]; rfl
          rw [h2]
          have h3 := cnt_next st a r
          have hA : Sml (R.act (D.blk s) D.ahead s st) := h.of (act_rests R _ _ _ _)
          unfold Rs.adv
          split
          · exact hA.fin hB
          · exact hA.set (by omega) rfl
theorem Sml.init {D : SysD} (hB : ∀ s, cntL (D.B.getD s []) ≤ 8) : Sml (Rs.init D) := fun s r e => by
  have e : D.B[s]? = some r := e
  have := hB s
  rw [List.getD_eq_getElem?_getD, e] at this
  exact this
theorem spr_hnc (R : Rs) : R.spr.height = R.height ∧ R.spr.noted = R.noted ∧ R.spr.crashes = R.crashes := by
  unfold Rs.spr
  split
  · exact ⟨rfl, rfl, rfl⟩
  · split <;> exact ⟨rfl, rfl, rfl⟩
theorem w_slN {K : PySem.W.Frag} {H : Hp} {a : Addr} {x : V} {xs : List V} {Q : VK} (e : H a = some (.tup (x :: xs))) (h : gNew (.tup xs) Q H) : rSlA K (.ref a) (some 1) none H Q := by
  refine ⟨a, x :: xs, rfl, sqT e, fun c => ?_, fun _ p hp => ?_⟩
  · have h1 := c.1
    rw [show (1 : Int) = ((1 : Nat) : Int) from rfl, HT.sIx_nat] at h1
    simp at h1
  · rw [cut_one]
    exact h p hp
theorem w_catN {K : PySem.W.Frag} {H : Hp} {a b : Addr} {xs ys : List V} {Q : VK} (e : H a = some (.tup xs)) (e2 : H b = some (.tup ys)) (l : xs.length + ys.length ≤ sizeLine) (h1 : xs = [] → Q (.ref b) H) (h2 : ys = [] → Q (.ref a) H) (h3 : gNew (.tup (xs ++ ys)) Q H) : rCatA K (.ref a) (.ref b) H Q :=
  ⟨a, b, xs, ys, rfl, rfl, sqT e, sqT e2, l, h1, fun _ => h2, fun _ _ p hp => h3 p hp⟩
theorem Ds.simpleOf {s : Sm} (h : ¬ s.word = "choose") : s.simple = true := by
  cases s <;> first | rfl | exact absurd rfl h
/-- what a session has left behind a statement -/
def Sm.left (st : Sm) (a : Int) (r : List Sm) : List Sm := match st with
  | .leave => r
  | st => st.next a r
theorem act2_rests {R : Rs} {blk ahead : Int} {s i : Nat} {st : Sm} : (R.act2 blk ahead s st).rests[i]? = R.rests[i]? := by
  cases st with
  | take =>
    show (R.take blk ahead s).rests[i]? = _
    unfold Rs.take
    split <;> rfl
  | commit => exact commit_rests
  | _ => rfl
theorem lim_act2 {D : SysD} {R : Rs} {s : Nat} {st : Sm} (L9 : Lim9 R) (len : Lens D.n R) (dok : DOk D) (hs : s < D.n) : Lim (R.act2 (D.blk s) D.ahead s st) := by
  have lim := L9.lim
  cases st with
  | take =>
    show Lim (R.take (D.blk s) D.ahead s)
    obtain ⟨k, hk1, hk2, hk3⟩ := SysD.ss_at hs
    have hbk := dok.blk k (List.mem_of_getElem? hk1)
    rw [← hk3] at hbk
    unfold Rs.take
    split
    · rename_i hst
      have h1 := lim.handOut (s := s) L9.h L9.n L9.t hbk dok.ah (by rw [len.stores]; exact hs) hst
      have hne : (R.handOut (D.blk s) D.ahead s).stores.getD s [] ≠ [] := by
        show (R.stores.set s _).getD s [] ≠ []
        rw [getD_set_eq (by rw [len.stores]; exact hs)]
        intro e
        have := congrArg List.length e
        rw [rg_len] at this
        simp at this
        omega
      obtain ⟨x, xs, hx⟩ : ∃ x xs, (R.handOut (D.blk s) D.ahead s).stores.getD s [] = x :: xs := by
        cases h : (R.handOut (D.blk s) D.ahead s).stores.getD s [] with
        | nil => exact absurd h hne
        | cons x xs => exact ⟨x, xs, rfl⟩
      exact h1.pick hx (by show s < R.trans.length; rw [len.trans]; exact hs) (by show s < (R.stores.set s _).length; rw [List.length_set, len.stores]; exact hs)
    · rename_i hst
      obtain ⟨x, xs, hx⟩ : ∃ x xs, R.stores.getD s [] = x :: xs := by
        cases h : R.stores.getD s [] with
        | nil => exact absurd h hst
        | cons x xs => exact ⟨x, xs, rfl⟩
      exact lim.pick hx (by rw [len.trans]; exact hs) (by rw [len.stores]; exact hs)
  | commit => exact lim.commit L9.c (by rw [len.trans]; exact hs)
  | rollback => exact lim.rollback (by rw [len.trans]; exact hs)
  | drop => exact lim.dropS (by rw [len.stores]; exact hs)
  | leave => exact lim.dropS (by rw [len.stores]; exact hs)
  | lock nm => exact ⟨lim.h0, lim.h1, lim.h2, lim.tot, lim.cm⟩
  | unlock nm => exact ⟨lim.h0, lim.h1, lim.h2, lim.tot, lim.cm⟩
  | choose y n => exact lim
theorem fin_rests (R : Rs) (B : List (List Sm)) (s : Nat) (x : List Sm) : ({ R with rests := R.rests.set s x } : Rs).fin B s = R.fin B s := by
  unfold Rs.fin
  simp only [List.set_set]
section
variable {P : Program} {w : World} {K : PySem.W.Frag} {mg : Str → Option Value} {base : Heap}
def sp__law_step (K : PySem.W.Frag) : Sp := fun vs H Q E => ∃ U M D R t m, vs = [.ref (Mo.a M), .ref (Mo.p M), .ref t] ∧ SimAt U H M D R ∧ H t = some (.tup (Mv.vs m)) ∧ m.Fits D R ∧ Lim9 R ∧ (∀ s, (R.locks.getD s []).Nodup) ∧ Sml R ∧ (∀ H', Kp M H H' → SimAt U H' M D (R.step D m) → Q .non H')
theorem len__law_step (K : PySem.W.Frag) : ∀ (vs : List V) (H : Hp) (Q : VK) (E : XK), sp__law_step K vs H Q E → vs.length = 3 := by
  rintro vs H Q E ⟨_, _, _, _, _, _, rfl, _⟩
  rfl
theorem ok__law_step (T : Txt K mg) : CallF P w K mg base 3 (He.ga K "_law_step") ["_law_sim", "_law_plan_here", "_law_step_here"] (sp__law_step K) := by
  obtain ⟨fd, F⟩ := T.d__law_step
  obtain ⟨fd__law_low, G__law_low, b__law_low, k__law_low⟩ := ok__law_low (P := P) (w := w) (base := base) T
  obtain ⟨fd__law_crash, G__law_crash, b__law_crash, k__law_crash⟩ := ok__law_crash (P := P) (w := w) (base := base) T
  obtain ⟨fd__law_end, G__law_end, b__law_end, k__law_end⟩ := ok__law_end (P := P) (w := w) (base := base) T
  obtain ⟨fd__law_act, G__law_act, b__law_act, k__law_act⟩ := ok__law_act (P := P) (w := w) (base := base) T
  refine ⟨fd, F.ok cs_law_step (len__law_step K) (fun cdv A outer s H vs Q E hr hsp => ?_), F.bindsN (fun _ _ _ _ _ _ us hl => match us, hl with | [_, _, _], _ => rfl), F.kp⟩
  have hu := hu_of hr
  have hu65 : (A.deeper (envOfC "_law_step" (defScope s_law_step) s.heap.objs.size (He.ga K "_law_step") cdv)).units + 65 < cLine := by have := hr.un; omega
  have hu0 := hr.units0
  refine ⟨_, PSs.nox (Evl.pss_cut (ps_if (pt_cmpR op_eq (pe_callB call_lenN (by rfl) T.f_len (by decide +kernel) (pa_cons (pv 2) pa_nil)) pe_int (nomark _)) (pss_one (ps_expr (pe_call G__law_crash (hr.mono (by decide)) (by rfl) T.g__law_crash k__law_crash b__law_crash .nil pass0 (pa_cons (pv 0) (pa_cons (pv 1) pa_nil))))) (pss_cons (ps_set (i := 3) cs_law_step.nd rfl (Or.inl rfl) (pe_ix ix_tup (pv 2) pe_int (fun _ _ => rfl)))
      (pss_cons (ps_set (i := 4) cs_law_step.nd rfl (Or.inl rfl) (pe_ix ix_tup (pe_ix ix_list (pe_ix ix_list (pv 0) pe_int (fun _ _ => rfl)) (pv 3) (fun _ _ => rfl)) pe_int (fun _ _ => rfl)))
      (pss_cons (ps_expr (pe_call G__law_act (hr.mono (by decide)) (by rfl) T.g__law_act k__law_act b__law_act .nil pass0 (pa_cons (pv 0) (pa_cons (pv 1) (pa_cons (pv 3) (pa_cons (pv 4) pa_nil))))))
      (Evl.pss_cut (ps_if (pt_cmpR op_eq (pe_ix ix_tup (pv 4) pe_int (fun _ _ => rfl)) pe_str (nomark _)) (pss_one (ps_asg (pe_op op_catA (pe_ix ix_tup (pv 4) (pe_op op_add pe_int (pe_ix ix_tup (pv 2) pe_int (fun _ _ => rfl))) (fun _ _ => rfl)) (pe_slice sl_tupA (pe_ix ix_list (pe_ix ix_list (pv 0) pe_int (fun _ _ => rfl)) (pv 3) (fun _ _ => rfl)) (po_some pe_int) po_none)) (pg_sub (pe_ix ix_list (pv 0) pe_int (fun _ _ => rfl)) (pv 3) set_list))) (pss_one (ps_asg (pe_slice sl_tupA (pe_ix ix_list (pe_ix ix_list (pv 0) pe_int (fun _ _ => rfl)) (pv 3) (fun _ _ => rfl)) (po_some pe_int) po_none) (pg_sub (pe_ix ix_list (pv 0) pe_int (fun _ _ => rfl)) (pv 3) set_list))))
      (pss_one (ps_if (PW.pt (pw_or (pt_cmpR op_eq (pe_ix ix_tup (pv 4) pe_int (fun _ _ => rfl)) pe_str (nomark _)) (pw_or1 (pt_cmpR op_eq (pe_callB call_lenN (by rfl) T.f_len (by decide +kernel) (pa_cons (pe_ix ix_list (pe_ix ix_list (pv 0) pe_int (fun _ _ => rfl)) (pv 3) (fun _ _ => rfl)) pa_nil)) pe_int (nomark _))))) (pss_one (ps_expr (pe_call G__law_end (hr.mono (by decide)) (by rfl) T.g__law_end k__law_end b__law_end .nil pass0 (pa_cons (pv 0) (pa_cons (pv 1) (pa_cons (pv 3) pa_nil)))))) pss_nil)))))))
      (pss_cons (ps_set (i := 5) cs_law_step.nd rfl (Or.inl rfl) (pe_call G__law_low (hr.mono (by decide)) (by rfl) T.g__law_low k__law_low b__law_low .nil pass0 (pa_cons (pv 0) pa_nil)))
      (pss_one (ps_if (pt_cmpR op_notN1 (pv 5) pe_non (nomark _)) (pss_one (ps_asg (pe_callB (call_maxN rfl) (by rfl) T.f_max (by decide +kernel) (pa_cons (pe_op op_sub (pe_ix ix_list (pv 0) pe_int (fun _ _ => rfl)) (pv 5)) (pa_cons (pe_ifExp (pt_cmpR op_notN1 (pe_ix ix_list (pv 0) pe_int (fun _ _ => rfl)) pe_non (nomark _)) (pe_ix ix_list (pv 0) pe_int (fun _ _ => rfl)) pe_int) pa_nil))) (pg_sub (pv 0) pe_int set_list))) pss_nil)))), ?_⟩
  obtain ⟨U, M, D, R, t, m, rfl, SA, et, hf, L9, hnd, hsml, hq⟩ := hsp
  obtain ⟨cm, lo, cv, lv, sp, ri, li, ti, si, bi, S⟩ := id SA
  have hn3 := S.s.dok.n3
  walk_at "st"
  walk_at "rdt"
  refine ⟨fun σ H' => ∃ R3 o4 o5 o6, Kp M H H' ∧ SimAt U H' M D R3 ∧ R.step D m = R3.spr ∧ σ = [some (.ref M.a), some (.ref M.p), some (.ref t), o4, o5, o6], ?_, ?_⟩
  · cases m with
    | crash =>
      dsimp only [Mv.vs] at et
      walk_at "rdt"
      exact ⟨U, M, D, R, rfl, SA, L9.lim, fun H1 k1 SA1 => ⟨_, _, _, _, k1, SA1, rfl, rfl⟩⟩
    | go s0 a =>
      obtain ⟨st, r0, hr0, ha, hw⟩ := hf
      dsimp only [Mv.vs] at et
      have hs := S.s_lt hr0
      have hstep : R.step D (.go s0 a) = (R.exec D.B (D.blk s0) D.ahead s0 st a).spr := by
        unfold Rs.step; simp only [hr0]
      rw [hstep]
      have htl : (R.rests.getD s0 []).tail = r0 := by rw [rests_getD hr0]; rfl
      have e1 := S.ea
      have e2 := S.er
      have hx1 := at_refs (f := ri) hs
      obtain ⟨bvs, c3, dsc⟩ := S.s.rest s0 hs
      rw [rests_getD hr0] at dsc
      obtain ⟨v, vs', rfl, dvc, _⟩ := dsc.consL
      have e3 := cut_sub _ _ c3
      have dv := dvc.mono cut_sub.tp'
      obtain ⟨va, xs, rfl, ea⟩ := dv.head
      walk_at "rdt"
      refine ⟨U, M, D, R, s0, _, st, r0, rfl, SA, hr0, dv, L9, hnd s0, fun H1 k1 SA1 => ?_⟩
      have hlim1 := lim_act2 (st := st) L9 S.s.len S.s.dok hs
      have hr1 : (R.act2 (D.blk s0) D.ahead s0 st).rests[s0]? = some (st :: r0) := act2_rests.trans hr0
      have hex : R.exec D.B (D.blk s0) D.ahead s0 st a = if st.word = "leave" ∨ st.left a r0 = [] then (R.act2 (D.blk s0) D.ahead s0 st).fin D.B s0 else { R.act2 (D.blk s0) D.ahead s0 st with rests := (R.act2 (D.blk s0) D.ahead s0 st).rests.set s0 (st.left a r0) } := by
        by_cases hl : st.word = "leave"
        · have := word_leave hl
          subst this
          rw [if_pos (.inl rfl)]; rfl
        · have h1 : R.exec D.B (D.blk s0) D.ahead s0 st a = (R.act (D.blk s0) D.ahead s0 st).adv D.B s0 (st.next a r0) := by
            rw [← htl]; cases st <;> first | rfl | exact absurd rfl hl
          have h2 : R.act2 (D.blk s0) D.ahead s0 st = R.act (D.blk s0) D.ahead s0 st := by
            cases st <;> first | rfl | exact absurd rfl hl
          have h3 : st.left a r0 = st.next a r0 := by
            cases st <;> first | rfl | exact absurd rfl hl
          rw [h1, h2, h3]
          unfold Rs.adv
          by_cases h4 : st.next a r0 = []
          · rw [if_pos h4, if_pos (.inr h4)]
          · rw [if_neg h4, if_neg (fun h => h.elim hl h4)]
      have ea1 := S.kpTp k1 _ _ ea
      have et1 := S.kpTp k1 _ _ et
      have dvc1 := dvc.mono (S.kpTpC k1)
      generalize R.act2 (D.blk s0) D.ahead s0 st = R1 at *
      obtain ⟨cm1, lo1, cv1, lv1, sp1, ri1, li1, ti1, si1, bi1, S1⟩ := id SA1
      have f1 := S1.ea
      have f2 := S1.er
      have hy1 := at_refs (f := ri1) hs
      obtain ⟨bvs1, d3, dsd⟩ := S1.s.rest s0 hs
      rw [rests_getD hr1] at dsd
      obtain ⟨v1, vs1, rfl, _, dsr⟩ := dsd.consL
      have f3 := cut_sub _ _ d3
      walk_at "rdt"
      refine ⟨fun σ H' => Kp M H H' ∧ SimAt U H' M D { R1 with rests := R1.rests.set s0 (st.left a r0) } ∧ H' va = some (.tup (V.str st.word :: xs)) ∧ σ = [some (.ref M.a), some (.ref M.p), some (.ref t), some (.int (s0 : Nat)), some (.ref va), none], ?_, ?_⟩
      · by_cases hc : st.word = "choose"
        · obtain ⟨y, nn, rfl⟩ := word_choose hc
          have hans : a = 0 ∨ a = 1 := ha.elim .inl fun h => .inr h.1
          obtain ⟨va2, ya, na, ys, ns, e9, eac, ey, dy, en, dn⟩ := dvc1.ch
          cases e9
          have ea2 := cut_sub _ _ eac
          obtain ⟨br, xs2, sx, eb2, d2, hsx, hat⟩ : ∃ br xs2 sx, cut U H1 br = some (.tup xs2) ∧ DsAll (cut U H1) xs2 sx ∧ (if a = 0 then y else nn) = sx ∧ atI [V.str "choose", .ref ya, .ref na] (1 + a) = some (.ref br) := by
            rcases hans with rfl | rfl
            · exact ⟨ya, ys, y, ey, dy, rfl, rfl⟩
            · exact ⟨na, ns, nn, en, dn, rfl, rfl⟩
          have hleft : (Sm.choose y nn).left a r0 = sx ++ r0 := by rw [← hsx]; rfl
          rw [hleft]
          have hsz : xs2.length + vs1.length ≤ sizeLine := by
            have h1 := hsml s0 _ hr0
            have h2 : xs2.length = sx.length := d2.length
            have h3 : vs1.length = r0.length := dsr.length
            have h4 := cntL_len r0
            have h5 : sx.length ≤ cntL y + cntL nn := by
              rw [← hsx]
              split
              · have := cntL_len y; omega
              · have := cntL_len nn; omega
            simp only [cntL, Sm.cnt] at h1
            exact small9 (by omega)
          walk_at "rdt"
          refine w_slN f3 ?_
          refine w_new fun q2 H2 hn2 hs2 hq2 _ => ?_
          have eb22 := hs2 _ _ (cut_sub _ _ eb2)
          have S2 := S1.grow hs2
          have g1 := S2.ea
          have g2 := S2.er
          have c2 : cut U H2 q2 = some (.tup vs1) := by rw [cut_yes (S1.full.out hn2)]; exact hq2
          have cdr := dsr.mono (cut_same hs2 (U := U)).tp'
          have cbr := cut_same hs2 (U := U) _ _ eb2
          have cdb := d2.mono (cut_same hs2 (U := U)).tp'
          have fin : ∀ H3 q3, Same H2 H3 → cut U H3 q3 = some (.tup (xs2 ++ vs1)) → DsAll (cut U H3) (xs2 ++ vs1) (sx ++ r0) → Kp M H (upd H3 M.r (.lst ((refs D.n ri1).set s0 (.ref q3)))) ∧ SimAt U (upd H3 M.r (.lst ((refs D.n ri1).set s0 (.ref q3)))) M D { R1 with rests := R1.rests.set s0 (sx ++ r0) } ∧ upd H3 M.r (.lst ((refs D.n ri1).set s0 (.ref q3))) va = some (.tup (V.str (Sm.choose y nn).word :: xs)) := by
            intro H3 q3 hs3 hq3 hd3
            have S3 := S2.wre hs3 hs hq3 hd3
            have k3 := ((Kp.refl M H1).trans (Kp.of (hs2.trans hs3))).put (x := M.r) (o := .lst ((refs D.n ri1).set s0 (.ref q3))) SimIn.hr
            exact ⟨k1.trans k3, ⟨_, _, _, _, _, _, _, _, _, _, S3⟩, S1.kpTp k3 _ _ ea1⟩
          refine w_catN eb22 hq2 hsz (fun h0 => ?_) (fun h0 => ?_) ?_
          · walk_at "rdt"
            refine w_setL g2 (ix_refs hs) ?_
            subst h0
            cases d2
            obtain ⟨x1, x2, x3⟩ := fin H2 q2 (Same.refl _) c2 cdr
            exact ⟨x1, x2, x3, rfl⟩
          · walk_at "rdt"
            refine w_setL g2 (ix_refs hs) ?_
            subst h0
            cases dsr
            obtain ⟨x1, x2, x3⟩ := fin H2 br (Same.refl _) (by rw [List.append_nil]; exact cbr) (by rw [List.append_nil, List.append_nil]; exact cdb)
            exact ⟨x1, x2, x3, rfl⟩
          · refine w_new fun q3 H3 hn3' hs3 hq3 _ => ?_
            have i1 := hs3 _ _ g1
            have i2 := hs3 _ _ g2
            walk_at "rdt"
            refine w_setL i2 (ix_refs hs) ?_
            obtain ⟨x1, x2, x3⟩ := fin H3 q3 hs3 (by rw [cut_yes (S2.full.out hn3')]; exact hq3) ((cdb.append cdr).mono (cut_same hs3 (U := U)).tp')
            exact ⟨x1, x2, x3, rfl⟩
        · have hleft : st.left a r0 = r0 := by
            cases st <;> first | rfl | exact absurd rfl hc
          rw [hleft]
          refine w_ifS ?_
          walk_at "rdt"
          refine w_slN f3 ?_
          refine w_new fun q2 H2 hn2 hs2 hq2 _ => ?_
          have g1 := hs2 _ _ f1
          have g2 := hs2 _ _ f2
          walk_at "rdt"
          refine w_setL g2 (ix_refs hs) ?_
          have S3 := S1.wre hs2 hs (by rw [cut_yes (S1.full.out hn2)]; exact hq2) (dsr.mono (cut_same hs2 (U := U)).tp')
          have k3 := ((Kp.refl M H1).trans (Kp.of hs2)).put (x := M.r) (o := .lst ((refs D.n ri1).set s0 (.ref q2))) SimIn.hr
          exact ⟨k1.trans k3, ⟨_, _, _, _, _, _, _, _, _, _, S3⟩, S1.kpTp k3 _ _ ea1, rfl⟩
      · rintro σ H2 ⟨k2, SA2, ea3, rfl⟩
        obtain ⟨cm2, lo2, cv2, lv2, sp2, ri2, li2, ti2, si2, bi2, S2⟩ := id SA2
        have g1 := S2.ea
        have g2 := S2.er
        have hz1 := at_refs (f := ri2) hs
        obtain ⟨bvs2, g3, ds2⟩ := S2.rest hs
        have hrs : ({ R1 with rests := R1.rests.set s0 (st.left a r0) } : Rs).rests.getD s0 [] = st.left a r0 := getD_set_eq (by rw [S1.s.len.rests]; exact hs)
        rw [hrs] at ds2
        have hbl := ds2.length
        have hlim2 : Lim { R1 with rests := R1.rests.set s0 (st.left a r0) } := ⟨hlim1.h0, hlim1.h1, hlim1.h2, hlim1.tot, hlim1.cm⟩
        have fin : ∀ H3, Kp M H2 H3 → SimAt U H3 M D (({ R1 with rests := R1.rests.set s0 (st.left a r0) } : Rs).fin D.B s0) → (st.word = "leave" ∨ st.left a r0 = []) → Kp M H H3 ∧ SimAt U H3 M D (R.exec D.B (D.blk s0) D.ahead s0 st a) := by
          intro H3 k3 SA3 hor
          rw [hex, if_pos hor]
          rw [fin_rests] at SA3
          exact ⟨k2.trans k3, SA3⟩
        walk_at "rdt"
        refine w_ite (fun hl => ?_) (fun hl => ?_)
        · walk_at "rdt"
          refine ⟨U, M, D, _, s0, rfl, SA2, hs, hlim2, fun H3 k3 SA3 => ?_⟩
          obtain ⟨x1, x2⟩ := fin H3 k3 SA3 (.inl hl)
          exact ⟨_, _, _, _, x1, x2, rfl, rfl⟩
        · walk_at "rdt"
          refine w_ite (fun h0 => ?_) (fun h0 => ?_)
          · walk_at "rdt"
            refine ⟨U, M, D, _, s0, rfl, SA2, hs, hlim2, fun H3 k3 SA3 => ?_⟩
            obtain ⟨x1, x2⟩ := fin H3 k3 SA3 (.inr (List.length_eq_zero_iff.mp (by omega)))
            exact ⟨_, _, _, _, x1, x2, rfl, rfl⟩
          · walk_at "rdt"
            refine ⟨_, _, _, _, k2, ?_, rfl, rfl⟩
            rw [hex, if_neg (by rintro (h | h); · exact hl h
                                · rw [h] at hbl; exact h0 (by rw [hbl]; rfl))]
            exact SA2
  · rintro σ H1 ⟨R3, o4, o5, o6, k1, SA1, hst, rfl⟩
    rw [hst] at hq
    walk_at "rdt"
    refine ⟨U, M, D, R3, rfl, SA1, fun H2 hs2 => ?_⟩
    obtain ⟨cm1, lo1, cv1, lv1, sp1, ri1, li1, ti1, si1, bi1, S1⟩ := id SA1
    have S2 := S1.grow hs2
    have f1 := S2.ea
    obtain ⟨s1, s2, s3, s4, s5, s6⟩ := spr_same R3
    obtain ⟨s7, s8, s9⟩ := spr_hnc R3
    have k2 := k1.trans (Kp.of hs2)
    walk_at "rdt"
    cases hlow : R3.low with
    | none =>
      dsimp only [oV]
      walk_at "rdt"
      exact hq _ k2 ⟨_, _, _, _, _, _, _, _, _, _, S2.cast s1 s2 s3 s4 s5 s6 s7 s8 s9⟩
    | some l =>
      dsimp only [oV]
      cases sp1 with
      | none =>
        dsimp only [oV] at f1
        walk_at "rdt"
        refine w_setL f1 (n := 9) rfl ?_
        have S3 := S2.fld (R' := R3.spr) (sp' := some (if 0 > R3.height - l then 0 else R3.height - l)) (Same.refl H2) s1 s2 s3 s4 (S2.cmOut (Same.refl _)) (S2.loOut (Same.refl _)) (by rw [s5]; exact S2.s.cml) (by rw [s6]; exact S2.s.lol) (xs := [V.int R3.height, .int R3.noted, .int R3.crashes, .ref M.r, .ref M.l, .ref M.t, .ref M.s, .ref cm1, .ref lo1, .non].set 9 (.int (if 0 > R3.height - l then 0 else R3.height - l))) (by rw [s7, s8, s9]; rfl)
        exact hq _ (k2.put SimIn.ha) ⟨_, _, _, _, _, _, _, _, _, _, S3⟩
      | some p1 =>
        dsimp only [oV] at f1
        walk_at "rdt"
        refine w_setL f1 (n := 9) rfl ?_
        have S3 := S2.fld (R' := R3.spr) (sp' := some (if p1 > R3.height - l then p1 else R3.height - l)) (Same.refl H2) s1 s2 s3 s4 (S2.cmOut (Same.refl _)) (S2.loOut (Same.refl _)) (by rw [s5]; exact S2.s.cml) (by rw [s6]; exact S2.s.lol) (xs := [V.int R3.height, .int R3.noted, .int R3.crashes, .ref M.r, .ref M.l, .ref M.t, .ref M.s, .ref cm1, .ref lo1, .int p1].set 9 (.int (if p1 > R3.height - l then p1 else R3.height - l))) (by rw [s7, s8, s9]; rfl)
        exact hq _ (k2.put SimIn.ha) ⟨_, _, _, _, _, _, _, _, _, _, S3⟩
end
def LeN (a b : Nat) : Prop := a ≤ b
theorem cut_empty (H : Hp) : cut (fun _ => False) H = H := funext fun _ => cut_yes not_false
theorem zip_at {α β : Type} {as : List α} {bs : List β} {i : Nat} {a : α} {b : β} (h1 : as[i]? = some a) (h2 : bs[i]? = some b) : (a, b) ∈ as.zip bs := by
  refine List.mem_of_getElem? (i := i) ?_
  rw [List.getElem?_zip_eq_some]
  exact ⟨h1, h2⟩
section
variable {P : Program} {w : World} {K : PySem.W.Frag} {mg : Str → Option Value} {base : Heap}
def sp__law_moves (K : PySem.W.Frag) : Sp := fun vs H Q E => ∃ U M D R, vs = [.ref (Mo.a M), .ref (Mo.p M)] ∧ SimAt U H M D R ∧ (∀ (s : Nat) (r : List Sm), R.rests[s]? = some r → r ≠ []) ∧
  (∀ H' q ts, Same H H' → H q = none → H' q = some (.lst (List.map (fun b : Addr × Mv => V.ref b.1) ts)) → (∀ b ∈ ts, H' b.1 = some (.tup b.2.vs) ∧ b.2.Fits D R) → ts.length ≤ 10 → Q (.ref q) H')
theorem len__law_moves (K : PySem.W.Frag) : ∀ (vs : List V) (H : Hp) (Q : VK) (E : XK), sp__law_moves K vs H Q E → vs.length = 2 := by
  rintro vs H Q E ⟨_, _, _, _, rfl, _⟩
  rfl
theorem ok__law_moves (T : Txt K mg) : CallF P w K mg base 3 (He.ga K "_law_moves") ["_law_sim", "_law_plan_here"] (sp__law_moves K) := by
  obtain ⟨fd, F⟩ := T.d__law_moves
  obtain ⟨fd__law_waits, G__law_waits, b__law_waits, k__law_waits⟩ := ok__law_waits (P := P) (w := w) (base := base) T
  refine ⟨fd, F.ok cs_law_moves (len__law_moves K) (fun cdv A outer s H vs Q E hr hsp => ?_), F.bindsN (fun _ _ _ _ _ _ us hl => match us, hl with | [_, _], _ => rfl), F.kp⟩
  have hu := hu_of hr
  have hu65 : (A.deeper (envOfC "_law_moves" (defScope s_law_moves) s.heap.objs.size (He.ga K "_law_moves") cdv)).units + 65 < cLine := by have := hr.un; omega
  have hu0 := hr.units0
  refine ⟨_, PSs.nox (pss_cons (ps_set (i := 2) cs_law_moves.nd rfl (Or.inl rfl) (pe_lst pa_nil))
      (pss_cons (ps_for PassesOwn.never rfl (pi_range1 (by rfl) T.f_range (pa_cons (pe_callB call_lenN (by rfl) T.f_len (by decide +kernel) (pa_cons (pe_ix ix_list (pv 1) pe_int (fun _ _ => rfl)) pa_nil)) pa_nil)) (pg_name (i := 3) cs_law_moves.nd rfl (Or.inl rfl)) (pss_one (ps_if (pt_not (pt_val (pe_call G__law_waits (hr.mono (by decide)) (by rfl) T.g__law_waits k__law_waits b__law_waits .nil pass0 (pa_cons (pv 0) (pa_cons (pv 1) (pa_cons (pv 3) pa_nil)))))) (pss_cons (ps_expr (pe_bm PySem.F.plainAttrs_list PySem.F.slot_list_append PySem.F.type_list_append mt_append (pv 2) (pa_cons (pe_tup (pa_cons (pv 3) (pa_cons pe_int pa_nil))) pa_nil)))
      (pss_one (ps_if (pt_cmpR op_eq (pe_ix ix_tup (pe_ix ix_tup (pe_ix ix_list (pe_ix ix_list (pv 0) pe_int (fun _ _ => rfl)) (pv 3) (fun _ _ => rfl)) pe_int (fun _ _ => rfl)) pe_int (fun _ _ => rfl)) pe_str (nomark _)) (pss_one (ps_expr (pe_bm PySem.F.plainAttrs_list PySem.F.slot_list_append PySem.F.type_list_append mt_append (pv 2) (pa_cons (pe_tup (pa_cons (pv 3) (pa_cons pe_int pa_nil))) pa_nil)))) pss_nil))) pss_nil)))
      (pss_cons (ps_if (pt_cmpR op_gt (pe_ix ix_list (pv 0) pe_int (fun _ _ => rfl)) pe_int (nomark _)) (pss_one (ps_expr (pe_bm PySem.F.plainAttrs_list PySem.F.slot_list_append PySem.F.type_list_append mt_append (pv 2) (pa_cons (pe_tup (pa_cons pe_str pa_nil)) pa_nil)))) pss_nil)
      (pss_one (ps_ret (pv 2)))))), ?_⟩
  obtain ⟨U, M, D, R, rfl, SA, hrne, hq⟩ := hsp
  obtain ⟨cm, lo, cv, lv, sp, ri, li, ti, si, bi, S⟩ := id SA
  have hn3 := S.s.dok.n3
  have e1 := S.ea
  have e2 := S.er
  have e6 := S.ep
  have e7 := S.epb
  walk_at "st"
  walk_at "rd"
  rename_i q H1 hq0 hs1 eq1 he1
  refine w_gR1 (by rw [refs_length]; omega) (by rw [refs_length]; omega) ?_
  refine forR (fun i σ H' => ∃ (ts : List (Addr × Mv)) (o : Option V), Same H H' ∧ H' q = some (.lst (ts.map fun b => V.ref b.1)) ∧ (∀ b ∈ ts, H' b.1 = some (.tup b.2.vs) ∧ b.2.Fits D R) ∧ LeN ts.length (2 * i) ∧ σ = [some (.ref M.a), some (.ref M.p), some (.ref q), o]) ⟨[], none, hs1, eq1, fun b h => (by cases h), Nat.le_refl _, rfl⟩ ?_ ?_
  · rintro i σ H2 hi ⟨ts, o, hs2, eq2, hts, htl, rfl⟩
    rw [refs_length] at hi
    have hs : i < D.n := by omega
    have htl' : ts.length ≤ 2 * i := htl
    have hbig : ts.length < sizeLine := small1000 (by omega)
    clear htl
    obtain ⟨r1, hr1⟩ : ∃ r1, R.rests[i]? = some r1 := ⟨_, List.getElem?_eq_getElem (by rw [S.s.len.rests]; exact hs)⟩
    obtain ⟨st, r0, rfl⟩ : ∃ st r0, r1 = st :: r0 := by
      cases r1 with
      | nil => exact absurd rfl (hrne i _ hr1)
      | cons st r0 => exact ⟨st, r0, rfl⟩
    have hx1 := at_refs (f := ri) hs
    obtain ⟨bvs, e3, ds⟩ := S.rest hs
    rw [rests_getD hr1] at ds
    obtain ⟨v, vs', rfl, dv, _⟩ := ds.consL
    obtain ⟨va, xs, rfl, ea⟩ := dv.head
    rw [Int.zero_add]
    walk_at "rd"
    refine ⟨U, M, D, R, i, st, r0, rfl, ⟨_, _, _, _, _, _, _, _, _, _, S.grow hs2⟩, hr1, fun H3 b hs3 hb => ?_⟩
    have hs03 := hs2.trans hs3
    have eq3 := hs3 _ _ eq2
    have hts3 : ∀ b ∈ ts, H3 b.1 = some (.tup b.2.vs) ∧ b.2.Fits D R := fun b hb => ⟨hs3 _ _ (hts b hb).1, (hts b hb).2⟩
    clear eq2 hts hs2
    cases b with
    | true =>
      walk_at "rd"
      exact ⟨ts, _, hs03, eq3, hts3, by show ts.length ≤ 2 * (i + 1); omega, rfl⟩
    | false =>
      have hnw : ¬ R.Waits (D.blk i) D.window i st := fun h => by have := hb.mpr h; cases this
      walk_at "rd"
      rename_i p4 H4 hn4 hs4 hp4 he4
      have eq5 : upd H4 q (.lst ((ts.map fun b => V.ref b.1) ++ [.ref p4])) q = some (.lst ((ts.map fun b => V.ref b.1) ++ [.ref p4])) := upd_same
      have hs05 : Same H (upd H4 q (.lst ((ts.map fun b => V.ref b.1) ++ [.ref p4]))) := same_put (hs03.trans hs4) hq0
      have tp5 : Tp H4 (upd H4 q (.lst ((ts.map fun b => V.ref b.1) ++ [.ref p4]))) := tp_put (Tp.refl H4) (hs4 _ _ eq3) (fun _ z => nomatch z)
      generalize upd H4 q (.lst ((ts.map fun b => V.ref b.1) ++ [.ref p4])) = H5 at *
      have hts5 : ∀ b ∈ ts ++ [(p4, Mv.go i 0)], H5 b.1 = some (.tup b.2.vs) ∧ b.2.Fits D R := by
        intro b hb
        rcases List.mem_append.mp hb with hb | hb
        · exact ⟨tp5 _ _ (hs4 _ _ (hts3 b hb).1), (hts3 b hb).2⟩
        · rw [List.mem_singleton.mp hb]
          exact ⟨tp5 _ _ hp4, st, r0, hr1, .inl rfl, hnw⟩
      have f1 := hs05 _ _ e1
      have f2 := hs05 _ _ e2
      have f3 := hs05 _ _ e3
      have fa := hs05 _ _ ea
      walk_at "rd"
      refine w_ite (fun hc => ?_) (fun hc => ?_)
      · walk_at "rd"
        rename_i p6 H6 hn6 hs6 hp6 he6
        have tp7 : Tp H6 (upd H6 q (.lst (((ts.map fun b => V.ref b.1) ++ [.ref p4]) ++ [.ref p6]))) := tp_put (Tp.refl H6) (hs6 _ _ eq5) (fun _ z => nomatch z)
        refine ⟨ts ++ [(p4, Mv.go i 0), (p6, Mv.go i 1)], _, same_put (hs05.trans hs6) hq0, by rw [upd_same]; simp, ?_, by show (ts ++ [_, _]).length ≤ 2 * (i + 1); simp; omega, rfl⟩
        intro b hb
        rcases List.mem_append.mp hb with hb | hb
        · have := hts5 b (List.mem_append.mpr (.inl hb))
          exact ⟨tp7 _ _ (hs6 _ _ this.1), this.2⟩
        · rcases List.mem_cons.mp hb with hb | hb
          · have := hts5 b (List.mem_append.mpr (.inr (by rw [hb]; simp)))
            exact ⟨tp7 _ _ (hs6 _ _ this.1), this.2⟩
          · rw [List.mem_singleton.mp hb]
            exact ⟨tp7 _ _ hp6, st, r0, hr1, .inr ⟨rfl, hc⟩, hnw⟩
      · walk_at "rd"
        exact ⟨ts ++ [(p4, Mv.go i 0)], _, hs05, by rw [eq5]; simp, hts5, by show (ts ++ [_]).length ≤ 2 * (i + 1); simp; omega, rfl⟩
  · rintro σ H2 ⟨ts, o, hs2, eq2, hts, htl, rfl⟩
    have htl' : ts.length ≤ 2 * ((refs D.n bi).length : Int).toNat := htl
    rw [refs_length] at htl'
    have f1 := hs2 _ _ e1
    walk_at "rd"
    refine w_ite (fun hc => ?_) (fun hc => ?_)
    · walk_at "rd"
      rename_i p4 H4 hn4 hs4 hp4 he4
      have tp5 : Tp H4 (upd H4 q (.lst ((ts.map fun b => V.ref b.1) ++ [.ref p4]))) := tp_put (Tp.refl H4) (hs4 _ _ eq2) (fun _ z => nomatch z)
      refine hq _ q (ts ++ [(p4, Mv.crash)]) (same_put (hs2.trans hs4) hq0) hq0 (by rw [upd_same]; simp) ?_ (by simp; omega)
      intro b hb
      rcases List.mem_append.mp hb with hb | hb
      · exact ⟨tp5 _ _ (hs4 _ _ (hts b hb).1), (hts b hb).2⟩
      · rw [List.mem_singleton.mp hb]
        exact ⟨tp5 _ _ hp4, hc⟩
    · walk_at "rd"
      exact hq _ q ts hs2 hq0 eq2 hts (by omega)
def sp__law_begin (K : PySem.W.Frag) : Sp := fun vs H Q E => ∃ p rs w D, vs = [.ref p] ∧ PlanR H p rs (SysD.ahead D) w (SysD.crashes D) ∧ D.ks.map Kd.row = rs ∧ D.window = some w ∧ DOk D ∧ 0 < D.n ∧
  (∀ H' M, Same H H' → (∀ x, Mo.Has M x → H x = none) → M.p = p → SimAt (fun _ => False) H' M D (Rs.init D) → Q (.ref M.a) H')
theorem len__law_begin (K : PySem.W.Frag) : ∀ (vs : List V) (H : Hp) (Q : VK) (E : XK), sp__law_begin K vs H Q E → vs.length = 1 := by
  rintro vs H Q E ⟨_, _, _, _, rfl, _⟩
  rfl
theorem ok__law_begin (T : Txt K mg) : CallF P w K mg base 1 (He.ga K "_law_begin") ["_law_plan_here"] (sp__law_begin K) := by
  obtain ⟨fd, F⟩ := T.d__law_begin
  refine ⟨fd, F.ok cs_law_begin (len__law_begin K) (fun cdv A outer s H vs Q E hr hsp => ?_), F.bindsN (fun _ _ _ _ _ _ us hl => match us, hl with | [_], _ => rfl), F.kp⟩
  have hu := hu_of hr
  have hu65 : (A.deeper (envOfC "_law_begin" (defScope s_law_begin) s.heap.objs.size (He.ga K "_law_begin") cdv)).units + 65 < cLine := by have := hr.un; omega
  have hu0 := hr.units0
  refine ⟨_, PSs.nox (pss_cons (ps_set (i := 1) cs_law_begin.nd rfl (Or.inr rfl) (pe_callB call_lenN (by rfl) T.f_len (by decide +kernel) (pa_cons (pe_ix ix_list (pv 0) pe_int (fun _ _ => rfl)) pa_nil)))
      (pss_cons (ps_setLc (i := 2) (own := [("_law_branch_here", 4)]) rfl cs_law_begin.nd rfl rfl (sw_true rfl rfl rfl (by decide +kernel)) (pi_list (pe_ix ix_list (pv 0) pe_int (fun _ _ => rfl))) (blkOk_by (own := [("_law_branch_here", 4)]) (N := ["_law_plan_here", "_law_amount", "_law_rests", "_law_lists", "_law_branch_here", "_law_part", "_law_s"]) (sc := defScope s_law_begin) (by decide +kernel)) (fun _ _ _ _ _ => (pg_name (i := 4) cs_law_begin.nd rfl (Or.inl rfl))) (fun _ _ _ _ _ => pts_nil) (fun _ _ _ _ _ => (pv 4)))
      (pss_cons (ps_setLc (i := 3) (own := [("_law_part", 5)]) rfl cs_law_begin.nd rfl rfl (sw_true rfl rfl rfl (by decide +kernel)) (pi_range1 (by rfl) T.f_range (pa_cons pe_int pa_nil)) (blkOk_by (own := [("_law_part", 5)]) (N := ["_law_plan_here", "_law_amount", "_law_rests", "_law_lists", "_law_branch_here", "_law_part", "_law_s"]) (sc := defScope s_law_begin) (by decide +kernel)) (fun _ _ _ _ _ => (pg_name (i := 5) cs_law_begin.nd rfl (Or.inl rfl))) (fun _ _ _ _ _ => pts_nil) (fun _ _ _ _ _ => (pe_lc (own := [("_law_s", 6)]) rfl cs_law_begin.nd (pi_range1 (by rfl) T.f_range (pa_cons (pv 1) pa_nil)) (blkOk_by (own := [("_law_s", 6)]) (N := ["_law_plan_here", "_law_amount", "_law_rests", "_law_lists", "_law_branch_here", "_law_part", "_law_s"]) (sc := sc_inner) (by decide +kernel)) (fun _ _ _ _ _ => (pg_name (i := 6) cs_law_begin.nd rfl (Or.inl rfl))) (fun _ _ _ _ _ => pts_nil) (fun _ _ _ _ _ => (pe_lst pa_nil)))))
      (pss_one (ps_ret (pe_lst (pa_cons pe_int (pa_cons (pe_ix ix_list (pv 0) pe_int (fun _ _ => rfl)) (pa_cons (pe_ix ix_list (pv 0) pe_int (fun _ _ => rfl)) (pa_cons (pv 2) (pa_cons (pe_ix ix_list (pv 3) pe_int (fun _ _ => rfl)) (pa_cons (pe_ix ix_list (pv 3) pe_int (fun _ _ => rfl)) (pa_cons (pe_ix ix_list (pv 3) pe_int (fun _ _ => rfl)) (pa_cons (pe_lst pa_nil) (pa_cons (pe_lst pa_nil) (pa_cons pe_non pa_nil)))))))))))))))), ?_⟩
  obtain ⟨p, rs, w0, D, rfl, ⟨pb, pk, bs, ep, epb, epk, hbl, hbs⟩, hks, hwin, dok, hn0, hq⟩ := hsp
  have hn3 := dok.n3
  have hss : D.ss.map Kd.row = sessR rs := by rw [← hks]; exact sess_row D.ks
  have hbn : bs.length = D.n := by rw [hbl, ← hss, List.length_map]; rfl
  walk_at "st"
  walk_at "rd"
  refine lcL0 (ys := bs) (val := V.ref) (fun b => some (.ref b)) epb (small1000 (by omega)) ?_ ?_
  · intro y hy H2 hs2 NT NF hT hF
    refine w_name rfl ?_
    refine ⟨rfl, ?_⟩
    walk_at "rd"
    exact hT _ rfl
  · rw [show bs.filterMap (fun b => some (V.ref b)) = bs.map V.ref from by rw [List.filterMap_eq_map']]
    walk_at "rd"
    rename_i rr H1 hrr hs1 err he1
    refine w_gR1 (by decide) (by decide) ?_
    intro L0 hL0
    refine lc_range (fun i H' => ∃ qs : List Addr, qs.length = i ∧ qs.Nodup ∧ L0 ∉ qs ∧ Same H1 H' ∧ H' L0 = some (.lst (qs.map V.ref)) ∧ ∀ q ∈ qs, H1 q = none ∧ ∃ as : List Addr, H' q = some (.lst (as.map V.ref)) ∧ as.length = D.n ∧ ∀ x ∈ as, H1 x = none ∧ H' x = some (.lst []) ∧ x ≠ L0)
      ⟨[], rfl, List.nodup_nil, by simp, same_new hL0, upd_same, fun q h => (by cases h)⟩ ?_ ?_
    · rintro i H2 hi ⟨qs, hql, hnd, hLq, hs2, eL, hqs⟩
      refine w_name rfl ?_
      refine ⟨rfl, ?_⟩
      refine w_yes ?_
      refine w_iteT ?_
      walk_at "rd"
      refine w_gR1 (by rw [List.length_map]; omega) (by rw [List.length_map]; omega) ?_
      intro D2 hD2
      have hD2L : D2 ≠ L0 := fun e => by rw [e, eL] at hD2; cases hD2
      refine lc_range (fun j H' => ∃ as : List Addr, as.length = j ∧ Same H2 H' ∧ H' D2 = some (.lst (as.map V.ref)) ∧ ∀ x ∈ as, H2 x = none ∧ H' x = some (.lst []) ∧ x ≠ D2) ⟨[], rfl, same_new hD2, upd_same, fun q h => (by cases h)⟩ ?_ ?_
      · rintro j H3 hj ⟨as, hal, hs3, eD, has⟩
        rw [List.length_map] at hj
        refine w_name rfl ?_
        refine ⟨rfl, ?_⟩
        refine w_yes ?_
        refine w_iteT ?_
        walk_at "rd"
        rename_i x4 H4 hn4 hs4 ex4 he4
        have hxD : x4 ≠ D2 := fun e => by rw [e, eD] at hn4; cases hn4
        refine ⟨_, hs4 _ _ eD, small1000 (by rw [List.length_map]; omega), as ++ [x4], by simp [hal], same_put (hs3.trans hs4) hD2, by rw [upd_same]; simp, ?_⟩
        intro x hx
        rcases List.mem_append.mp hx with hx | hx
        · obtain ⟨g1, g2, g3⟩ := has x hx
          exact ⟨g1, by rw [upd_ne g3]; exact hs4 _ _ g2, g3⟩
        · rw [List.mem_singleton.mp hx]
          exact ⟨hs3.free hn4, by rw [upd_ne hxD]; exact ex4, hxD⟩
      · rintro H3 ⟨as, hal, hs3, eD, has⟩
        have hal : as.length = D.n := by rw [hal, List.length_map]; omega
        have hD2q : D2 ∉ qs := fun hm => by
          obtain ⟨_, as', e, _⟩ := hqs _ hm
          rw [hD2] at e; cases e
        refine ⟨_, hs3 _ _ eL, small1000 (by rw [List.length_map]; omega), qs ++ [D2], by simp [hql], ?_, ?_, same_put (hs2.trans hs3) hL0, by rw [upd_same]; simp, ?_⟩
        · rw [List.nodup_append]
          refine ⟨hnd, by simp, ?_⟩
          intro a ha b hb
          rw [List.mem_singleton.mp hb]
          rintro rfl; exact hD2q ha
        · intro hm
          rcases List.mem_append.mp hm with h | h
          · exact hLq h
          · exact hD2L (List.mem_singleton.mp h).symm
        · intro q hq'
          rcases List.mem_append.mp hq' with h | h
          · obtain ⟨g1, as', g2, g3, g4⟩ := hqs q h
            have hqL : q ≠ L0 := fun e => hLq (e ▸ h)
            exact ⟨g1, as', by rw [upd_ne hqL]; exact hs3 _ _ g2, g3, fun x hx => ⟨(g4 x hx).1, by rw [upd_ne (g4 x hx).2.2]; exact hs3 _ _ (g4 x hx).2.1, (g4 x hx).2.2⟩⟩
          · rw [List.mem_singleton.mp h]
            refine ⟨hs2.free hD2, as, by rw [upd_ne hD2L]; exact eD, hal, fun x hx => ?_⟩
            obtain ⟨g1, g2, g3⟩ := has x hx
            have hxL : x ≠ L0 := fun e => by rw [e, eL] at g1; cases g1
            exact ⟨hs2.free g1, by rw [upd_ne hxL]; exact g2, hxL⟩
    · rintro H2 ⟨qs, hql, hnd, hLq, hs2, eL, hqs⟩
      have hql : qs.length = 3 := hql
      obtain ⟨q1, q2, q3, rfl⟩ : ∃ q1 q2 q3, qs = [q1, q2, q3] := by
        match qs, hql with
        | [x, y, z], _ => exact ⟨x, y, z, rfl⟩
      obtain ⟨n1, as1, eq1, hl1, ha1⟩ := hqs q1 (by simp)
      obtain ⟨n2, as2, eq2, hl2, ha2⟩ := hqs q2 (by simp)
      obtain ⟨n3, as3, eq3, hl3, ha3⟩ := hqs q3 (by simp)
      have hs02 := hs1.trans hs2
      have ep2 := hs02 _ _ ep
      have err2 := hs2 _ _ err
      have eL' : H2 L0 = some (.lst [V.ref q1, V.ref q2, V.ref q3]) := eL
      walk_at "rd"
      rename_i cm H3 hn3' hs3 ecm he3 lo H4 hn4 hs4 elo he4 a H5 hn5 hs5 ea he5
      have hs25 := hs3.trans (hs4.trans hs5)
      have hs05 := hs02.trans hs25
      have hs24 := hs3.trans hs4
      have hnd' : q1 ≠ q2 ∧ q1 ≠ q3 ∧ q2 ≠ q3 := by
        simp only [List.nodup_cons, List.mem_cons, List.not_mem_nil, or_false, not_or] at hnd
        exact ⟨hnd.1.1, hnd.1.2, hnd.2.1⟩
      have hax : ∀ {x : Addr} {o : HO}, H4 x = some o → a ≠ x := fun {x o} e z => by rw [z, e] at hn5; cases hn5
      have hrx : ∀ {x : Addr}, H1 x = none → rr ≠ x := fun {x} e z => by rw [← z, err] at e; cases e
      have hlist : ∀ {x : Addr} {as : List Addr}, H2 x = some (.lst []) → H2 q1 = some (.lst (as1.map V.ref)) → True := fun _ _ => trivial
      have hnil : ∀ {x q : Addr} {as : List Addr}, H2 x = some (.lst []) → H2 q = some (.lst (as.map V.ref)) → as.length = D.n → x ≠ q := fun {x q as} e1 e2 e3 z => by
        rw [z, e2] at e1
        have : as.map V.ref = [] := by cases as with | nil => rfl | cons y ys => cases e1
        have h0 : as.length = 0 := by have h := congrArg List.length this; rw [List.length_map] at h; exact h
        omega
      let M : Mo := ⟨a, rr, q1, q2, q3, p, pb, pk⟩
      have hin : ∀ x, H1 x = none → H2 x = some (.lst []) → ¬ M.Has x := by
        rintro x hx1 hx2 (z | z | z | z | z)
        · exact hax (hs24 _ _ hx2) z.symm
        · exact hrx hx1 z.symm
        · exact hnil hx2 eq1 hl1 z
        · exact hnil hx2 eq2 hl2 z
        · exact hnil hx2 eq3 hl3 z
      have hfree1 : ∀ x, H x = none → ∀ o, H1 x = some o → True := fun _ _ _ _ => trivial
      have hold : ∀ x o, H x = some o → ¬ M.Has x := by
        rintro x o hx (z | z | z | z | z)
        · exact hax (hs24 _ _ (hs02 _ _ hx)) z.symm
        · have hz : x = rr := z
          rw [hz, hrr] at hx; cases hx
        · have hz : x = q1 := z
          have := hs1 _ _ hx
          rw [hz, n1] at this; cases this
        · have hz : x = q2 := z
          have := hs1 _ _ hx
          rw [hz, n2] at this; cases this
        · have hz : x = q3 := z
          have := hs1 _ _ hx
          rw [hz, n3] at this; cases this
      have hnew : ∀ x, M.Has x → H x = none := fun x hx => by
        cases e : H x with
        | none => rfl
        | some o => exact absurd hx (hold x o e)
      have hcm : ¬ M.Has cm := by
        rintro (z | z | z | z | z)
        · exact hax (hs4 _ _ ecm) z.symm
        · have hz : cm = rr := z
          rw [hz, err2] at hn3'; cases hn3'
        · have hz : cm = q1 := z
          rw [hz, eq1] at hn3'; cases hn3'
        · have hz : cm = q2 := z
          rw [hz, eq2] at hn3'; cases hn3'
        · have hz : cm = q3 := z
          rw [hz, eq3] at hn3'; cases hn3'
      have hlo : ¬ M.Has lo := by
        have hh := hs3.free hn4
        rintro (z | z | z | z | z)
        · exact hax elo z.symm
        · have hz : lo = rr := z
          rw [hz, err2] at hh; cases hh
        · have hz : lo = q1 := z
          rw [hz, eq1] at hh; cases hh
        · have hz : lo = q2 := z
          rw [hz, eq2] at hh; cases hh
        · have hz : lo = q3 := z
          rw [hz, eq3] at hh; cases hh
      have hBat : ∀ i, i < D.n → ∃ k b, D.ss[i]? = some k ∧ bs[i]? = some b ∧ D.B.getD i [] = k.ss ∧ (b, k.row) ∈ bs.zip (sessR rs) := by
        intro i hi
        obtain ⟨k, hk1, hk2, _⟩ := SysD.ss_at hi
        have hb : bs[i]? = some (bs[i]'(by omega)) := List.getElem?_eq_getElem _
        refine ⟨k, _, hk1, hb, by rw [List.getD_eq_getElem?_getD, hk2]; rfl, zip_at hb ?_⟩
        rw [← hss, List.getElem?_map, hk1]; rfl
      have hrest : ∀ i, i < D.n → ∃ bvs, H5 (bs.getD i p) = some (.tup bvs) ∧ DsAll H5 bvs (D.B.getD i []) := by
        intro i hi
        obtain ⟨k, b, h1, h2, h3, h4⟩ := hBat i hi
        obtain ⟨bvs, g1, g2⟩ := hbs _ h4
        rw [h3, List.getD_eq_getElem?_getD, h2]
        exact ⟨bvs, hs05 _ _ g1, g2.mono hs05.tp'⟩
      refine hq H5 M hs05 hnew rfl ⟨cm, lo, [], [], none, fun i => bs.getD i p, fun i => as1.getD i p, fun i => as2.getD i p, fun i => as3.getD i p, fun i => bs.getD i p, fun x h => h.elim, ?_⟩
      rw [cut_empty]
      have hg : ∀ {as : List Addr} {i : Nat}, as.length = D.n → i < D.n → as.getD i p ∈ as := fun h hi => getD_mem (by omega)
      exact {
        ea := ea
        er := by rw [refs_list hbn]; exact hs25 _ _ err2
        el := by rw [refs_list hl1]; exact hs25 _ _ eq1
        et := by rw [refs_list hl2]; exact hs25 _ _ eq2
        es := by rw [refs_list hl3]; exact hs25 _ _ eq3
        ecm := hs5 _ _ (hs4 _ _ ecm)
        elo := hs5 _ _ elo
        ep := by rw [hwin]; exact hs05 _ _ ep
        epb := by rw [refs_list hbn]; exact hs05 _ _ epb
        epk := by
          have : (D.ss.map (·.block)).map V.int = (sessR rs).map fun r => V.int r.block := by rw [← hss, List.map_map, List.map_map]; rfl
          rw [this]; exact hs05 _ _ epk
        br := hrest
        rest := hrest
        lk := fun i hi => ⟨[], hs25 _ _ (ha1 _ (hg hl1 hi)).2.1, by show List.Perm [] ((List.replicate D.n ([] : List Str)).getD i []); rw [repl_getD], hin _ (ha1 _ (hg hl1 hi)).1 (ha1 _ (hg hl1 hi)).2.1⟩
        tr := fun i hi => ⟨by show _ = some (HO.lst (((List.replicate D.n ([] : List Int)).getD i []).map V.int)); rw [repl_getD]; exact hs25 _ _ (ha2 _ (hg hl2 hi)).2.1, hin _ (ha2 _ (hg hl2 hi)).1 (ha2 _ (hg hl2 hi)).2.1⟩
        st := fun i hi => ⟨by show _ = some (HO.lst (((List.replicate D.n ([] : List Int)).getD i []).map V.int)); rw [repl_getD]; exact hs25 _ _ (ha3 _ (hg hl3 hi)).2.1, hin _ (ha3 _ (hg hl3 hi)).1 (ha3 _ (hg hl3 hi)).2.1⟩
        nh := ⟨hcm, hlo, hold _ _ ep, hold _ _ epb, hold _ _ epk⟩
        dis := ⟨⟨hax (hs24 _ _ err2), hax (hs24 _ _ eq1), hax (hs24 _ _ eq2), hax (hs24 _ _ eq3)⟩, ⟨hrx n1, hrx n2, hrx n3⟩, ⟨hnd'.1, hnd'.2.1⟩, hnd'.2.2⟩
        cml := rfl
        lol := rfl
        len := ⟨B_len D, by simp [Rs.init], by simp [Rs.init], by simp [Rs.init]⟩
        dok := dok }
end
/-! ### the running system and the law's model in one heap -/
def Own (ow : Addr → Option Loc) (x : Addr) : Prop := ow x ≠ none
theorem RunIn.recut {K : PySem.W.Frag} {Fr H H' : Hp} {sy : Addr} {D : SysD} {R : Rs} {xv : List V} {p : Addr} {ow : Addr → Option Loc} {A : Ad} {pv cv : List V} (r : RunIn K Fr H sy D R xv p ow A pv cv) (ho : ∀ x o, Own ow x → H x = some o → H' x = some o) (t : Tp H H')
    (hsys : SysAt K (cut (Own ow) H') sy D.ks D.ahead D.window D.crashes) : RunIn K (cut (Own ow) H') H' sy D R xv p ow A pv cv :=
  ⟨r.self, ⟨fun l o h => ho _ _ (by unfold Own; rw [r.lay.own l o h]; simp) (r.lay.at_ l o h), r.lay.own, cut_sub, fun a h => cut_no h, fun a h => let ⟨o, e⟩ := r.lay.sup a h; ⟨o, ho a o h e⟩⟩, r.pl.mono t, r.cm.mono t, r.len, hsys, r.dok⟩
structure LI (K : PySem.W.Frag) (G0 H : Hp) (sc q sy rp : Addr) (M : Mo) (D : SysD) (Rr Rm : Rs) (xv : List V) (ts : List (Addr × Mv)) (ow : Addr → Option Loc) (A : Ad) (pv cv : List V) : Prop where
  run : RunIn K (cut (Own ow) H) H sy D Rr xv rp ow A pv cv
  sim : SimAt (fun x => Own ow x ∨ x = sc ∨ x = q) H M D Rm
  g : Same G0 H
  og : ∀ x, Own ow x → G0 x = none
  mg : ∀ x, M.Has x → G0 x = none
  osc : ¬ Own ow sc
  oq : ¬ Own ow q
  sg : G0 sc = none
  esc : H sc = some (.lst (ts.map fun b => V.ref b.1))
  ets : ∀ b ∈ ts, H b.1 = some (.tup b.2.vs)
  sys : SysAt K G0 sy D.ks D.ahead D.window D.crashes
def LA (K : PySem.W.Frag) (G0 H : Hp) (sc q sy rp : Addr) (M : Mo) (D : SysD) (Rr Rm : Rs) (xv : List V) (ts : List (Addr × Mv)) : Prop := ∃ ow A pv cv, LI K G0 H sc q sy rp M D Rr Rm xv ts ow A pv cv
theorem SimAt.grow {U U' : Addr → Prop} {H H' : Hp} {M : Mo} {D : SysD} {R : Rs} (h : SimAt U H M D R) (s : Same (cut U H) (cut U' H')) (f : Full U' H') : SimAt U' H' M D R := by
  obtain ⟨a1, a2, a3, a4, a5, a6, a7, a8, a9, a10, S⟩ := h
  exact ⟨a1, a2, a3, a4, a5, a6, a7, a8, a9, a10, f, S.s.mono s⟩
theorem SimAt.nu {U : Addr → Prop} {H : Hp} {M : Mo} {D : SysD} {R : Rs} (h : SimAt U H M D R) {x : Addr} (hx : M.Has x) : ¬ U x := by
  obtain ⟨a1, a2, a3, a4, a5, a6, a7, a8, a9, a10, S⟩ := h
  exact S.nu hx
theorem SimAt.full {U : Addr → Prop} {H : Hp} {M : Mo} {D : SysD} {R : Rs} (h : SimAt U H M D R) : Full U H := by
  obtain ⟨a1, a2, a3, a4, a5, a6, a7, a8, a9, a10, S⟩ := h
  exact S.full
theorem SimAt.kpTp {U : Addr → Prop} {H H' : Hp} {M : Mo} {D : SysD} {R : Rs} (h : SimAt U H M D R) (k : Kp M H H') : Tp H H' := by
  obtain ⟨a1, a2, a3, a4, a5, a6, a7, a8, a9, a10, S⟩ := h
  exact S.kpTp k
section
variable {K : PySem.W.Frag} {G0 H H' : Hp} {sc q q' sy rp : Addr} {M : Mo} {D : SysD} {Rr Rm R' : Rs} {xv xv' : List V} {ts : List (Addr × Mv)} {ow : Addr → Option Loc} {A : Ad} {pv cv : List V}
namespace LI
theorem frSys (L : LI K G0 H sc q sy rp M D Rr Rm xv ts ow A pv cv) (g : Same G0 H') : SysAt K (cut (Own ow) H') sy D.ks D.ahead D.window D.crashes :=
  L.sys.mono fun x o e => by rw [cut_yes (fun h => by rw [L.og x h] at e; cases e)]; exact g x o e
/-- the heap grows -/
theorem grow (L : LI K G0 H sc q sy rp M D Rr Rm xv ts ow A pv cv) (s : Same H H') : LI K G0 H' sc q sy rp M D Rr Rm xv ts ow A pv cv where
  run := L.run.recut (fun x o _ e => s x o e) s.tp' (L.frSys (L.g.trans s))
  sim := L.sim.grow (cut_same s) (fun x hx => let ⟨o, e⟩ := L.sim.full x hx; ⟨o, s _ _ e⟩)
  g := L.g.trans s
  og := L.og
  mg := L.mg
  osc := L.osc
  oq := L.oq
  sg := L.sg
  esc := s _ _ L.esc
  ets := fun b hb => s _ _ (L.ets b hb)
  sys := L.sys
/-- a new pool -/
theorem newq (L : LI K G0 H sc q sy rp M D Rr Rm xv ts ow A pv cv) (s : Same H H') (hn : H q' = none) {o : HO} (he : H' q' = some o) : LI K G0 H' sc q' sy rp M D Rr Rm xv ts ow A pv cv :=
  { L.grow s with
    sim := L.sim.grow (fun x o e => by
      obtain ⟨h1, h2⟩ := cut_some e
      rw [cut_yes (by
        rintro (h | h | h)
        · exact h1 (.inl h)
        · exact h1 (.inr (.inl h))
        · rw [h, hn] at h2; cases h2)]
      exact s x o h2) (fun x hx => by
        rcases hx with h | h | h
        · obtain ⟨u, e⟩ := L.sim.full x (.inl h); exact ⟨u, s _ _ e⟩
        · obtain ⟨u, e⟩ := L.sim.full x (.inr (.inl h)); exact ⟨u, s _ _ e⟩
        · exact ⟨o, by rw [h]; exact he⟩)
    oq := fun h => by
      obtain ⟨u, e⟩ := L.run.lay.sup q' h
      rw [hn] at e; cases e }
/-- the pool is drawn from -/
theorem draw (L : LI K G0 H sc q sy rp M D Rr Rm xv ts ow A pv cv) (s : SameBut q H H') (hp : PoolAt H q) (hp' : PoolAt H' q) (hqs : q ≠ sc) (hg : G0 q = none) : LI K G0 H' sc q sy rp M D Rr Rm xv ts ow A pv cv := by
  obtain ⟨a, b, c, e⟩ := hp
  obtain ⟨a', b', c', e'⟩ := hp'
  have tp : Tp H H' := s.tp e (fun _ z => nomatch z)
  have g : Same G0 H' := fun x o h => s _ _ (ne_of_none h hg) (L.g _ _ h)
  exact {
    run := L.run.recut (fun x o hx h => s _ _ (fun z => L.oq (z ▸ hx)) h) tp (L.frSys g)
    sim := L.sim.grow (fun x o h => by
      obtain ⟨h1, h2⟩ := cut_some h
      rw [cut_yes h1]
      exact s _ _ (fun z => h1 (.inr (.inr z))) h2) (fun x hx => by
        by_cases hz : x = q
        · exact ⟨_, by rw [hz]; exact e'⟩
        · obtain ⟨u, hu⟩ := L.sim.full x hx; exact ⟨u, s _ _ hz hu⟩)
    g := g
    og := L.og
    mg := L.mg
    osc := L.osc
    oq := L.oq
    sg := L.sg
    esc := s _ _ (Ne.symm hqs) L.esc
    ets := fun b hb => tp _ _ (L.ets b hb)
    sys := L.sys }
/-- the model makes a step -/
theorem simStep (L : LI K G0 H sc q sy rp M D Rr Rm xv ts ow A pv cv) (k : Kp M H H') (h : SimAt (fun x => Own ow x ∨ x = sc ∨ x = q) H' M D R') : LI K G0 H' sc q sy rp M D Rr R' xv ts ow A pv cv := by
  have g : Same G0 H' := fun x o e => k _ _ (fun hx => by rw [L.mg x hx] at e; cases e) (L.g _ _ e)
  have tp := L.sim.kpTp k
  exact {
    run := L.run.recut (fun x o hx e => k _ _ (fun hm => L.sim.nu hm (.inl hx)) e) tp (L.frSys g)
    sim := h
    g := g
    og := L.og
    mg := L.mg
    osc := L.osc
    oq := L.oq
    sg := L.sg
    esc := k _ _ (fun hm => L.sim.nu hm (.inr (.inl rfl))) L.esc
    ets := fun b hb => tp _ _ (L.ets b hb)
    sys := L.sys }
theorem qKept (L : LI K G0 H sc q sy rp M D Rr Rm xv ts ow A pv cv) (k : Kp M H H') (hp : PoolAt H q) : PoolAt H' q := by
  obtain ⟨a, b, c, e⟩ := hp
  exact ⟨a, b, c, k _ _ (fun hm => L.sim.nu hm (.inr (.inr rfl))) e⟩
/-- the schedule grows -/
theorem sched (L : LI K G0 H sc q sy rp M D Rr Rm xv ts ow A pv cv) {t : Addr} {m : Mv} (et : H t = some (.tup m.vs)) : LI K G0 (upd H sc (.lst ((ts.map fun b => V.ref b.1) ++ [.ref t]))) sc q sy rp M D Rr Rm xv (ts ++ [(t, m)]) ow A pv cv := by
  have tp : Tp H (upd H sc (.lst ((ts.map fun b => V.ref b.1) ++ [.ref t]))) := tp_put (Tp.refl H) L.esc (fun _ z => nomatch z)
  have sb : SameBut sc H (upd H sc (.lst ((ts.map fun b => V.ref b.1) ++ [.ref t]))) := (SameBut.refl sc H).put
  have e' : upd H sc (.lst ((ts.map fun b => V.ref b.1) ++ [.ref t])) sc = some (.lst ((ts.map fun b => V.ref b.1) ++ [.ref t])) := upd_same
  generalize upd H sc (.lst ((ts.map fun b => V.ref b.1) ++ [.ref t])) = H' at *
  have g : Same G0 H' := fun x o h => sb _ _ (ne_of_none h L.sg) (L.g _ _ h)
  exact {
    run := L.run.recut (fun x o hx h => sb _ _ (fun z => L.osc (z ▸ hx)) h) tp (L.frSys g)
    sim := L.sim.grow (fun x o h => by
      obtain ⟨h1, h2⟩ := cut_some h
      rw [cut_yes h1]
      exact sb _ _ (fun z => h1 (.inr (.inl z))) h2) (fun x hx => by
        by_cases hz : x = sc
        · exact ⟨_, by rw [hz]; exact e'⟩
        · obtain ⟨u, hu⟩ := L.sim.full x hx; exact ⟨u, sb _ _ hz hu⟩)
    g := g
    og := L.og
    mg := L.mg
    osc := L.osc
    oq := L.oq
    sg := L.sg
    esc := by rw [e']; simp
    ets := fun b hb => by
      rcases List.mem_append.mp hb with hb | hb
      · exact tp _ _ (L.ets b hb)
      · rw [List.mem_singleton.mp hb]; exact tp _ _ et
    sys := L.sys }
/-- the system at work makes a step -/
theorem runStep (L : LI K G0 H sc q sy rp M D Rr Rm xv ts ow A pv cv) (tp : Tp H H') (h : RunAt K (cut (Own ow) H) H' sy D R' xv' rp) (hp : PoolAt H q) : LA K G0 H' sc q sy rp M D R' Rm xv' ts ∧ PoolAt H' q := by
  obtain ⟨ow2, A2, pv2, cv2, r⟩ := h
  have hfr : ∀ {x o}, ¬ Own ow x → H x = some o → H' x = some o := fun {x o} hx e => r.lay.fr _ _ (by rw [cut_yes hx]; exact e)
  have hsep : ∀ {x o}, ¬ Own ow x → H x = some o → ¬ Own ow2 x := fun {x o} hx e h2 => by
    have := r.lay.sep x h2
    rw [cut_yes hx, e] at this; cases this
  have hg : Same G0 H' := fun x o e => hfr (fun hx => by rw [L.og x hx] at e; cases e) (L.g _ _ e)
  have hog : ∀ x, Own ow2 x → G0 x = none := fun x hx => by
    cases e : G0 x with
    | none => rfl
    | some o => exact absurd hx (hsep (fun h => by rw [L.og x h] at e; cases e) (L.g _ _ e))
  obtain ⟨a, b, c, eq⟩ := hp
  have hsys : SysAt K (cut (Own ow2) H') sy D.ks D.ahead D.window D.crashes := L.sys.mono fun x o e => by
    rw [cut_yes (fun h => by rw [hog x h] at e; cases e)]; exact hg x o e
  refine ⟨⟨ow2, A2, pv2, cv2, {
    run := r.recut (fun x o _ e => e) (Tp.refl _) hsys
    sim := L.sim.grow (fun x o e => by
      obtain ⟨h1, h2⟩ := cut_some e
      have h3 : ¬ Own ow x := fun h => h1 (.inl h)
      rw [cut_yes (by
        rintro (h | h | h)
        · exact hsep h3 h2 h
        · exact h1 (.inr (.inl h))
        · exact h1 (.inr (.inr h)))]
      exact hfr h3 h2) (fun x hx => by
        rcases hx with h | h | h
        · exact r.lay.sup x h
        · exact ⟨_, by rw [h]; exact hfr L.osc L.esc⟩
        · exact ⟨_, by rw [h]; exact hfr L.oq eq⟩)
    g := hg
    og := hog
    mg := L.mg
    osc := hsep L.osc L.esc
    oq := hsep L.oq eq
    sg := L.sg
    esc := hfr L.osc L.esc
    ets := fun b hb => tp _ _ (L.ets b hb)
    sys := L.sys }⟩, a, b, c, hfr L.oq eq⟩
end LI
end
/-! ### what is out, as the record tells it -/
def OutI (P : Int → Prop) (k : List (Key × V)) : Prop := ∃ ns : List Int, k.map (·.1) = ns.map Sum.inl ∧ ∀ n ∈ ns, P n
theorem OutI.put {P : Int → Prop} {k : List (Key × V)} (h : OutI P k) {n : Int} (hn : P n) (v : V) : OutI P (putK k (.inl n) v) := by
  obtain ⟨ns, e, hp⟩ := h
  unfold putK
  split
  · refine ⟨ns, ?_, hp⟩
    rw [← e, List.map_map]
    apply List.map_congr_left
    intro p _
    show (if p.1 = Sum.inl n then (p.1, v) else p).1 = p.1
    split <;> rfl
  · refine ⟨ns ++ [n], by rw [List.map_append, e, List.map_append]; rfl, ?_⟩
    intro m hm
    rcases List.mem_append.mp hm with hm | hm
    · exact hp m hm
    · rw [List.mem_singleton.mp hm]; exact hn
theorem OutI.row {P : Int → Prop} (s : Nat) : ∀ (ns : List Int) (k : List (Key × V)), OutI P k → (∀ n ∈ ns, P n) → OutI P (outRow s ns k)
  | [], _, h, _ => h
  | n :: ns, k, h, hp => OutI.row s ns _ (h.put (hp n (by simp)) _) (fun m hm => hp m (by simp [hm]))
theorem OutI.rows {P : Int → Prop} (rows : List (List Int)) (k : List (Key × V)) (h : OutI P k) (hp : ∀ ns ∈ rows, ∀ n ∈ ns, P n) : OutI P (outRows rows k) := by
  have : ∀ (l : List (List Int × Nat)) (k : List (Key × V)), OutI P k → (∀ y ∈ l, ∀ n ∈ y.1, P n) → OutI P (l.foldl (fun k y => outRow y.2 y.1 k) k) := by
    intro l
    induction l with
    | nil => intro k h _; exact h
    | cons y l ih => intro k h hp; exact ih _ (OutI.row y.2 y.1 k h (hp y (by simp))) (fun z hz => hp z (by simp [hz]))
  refine this _ k h (fun y hy => hp y.1 ?_)
  have := List.mem_zipIdx hy
  rw [this.2.2]
  exact List.getElem_mem _
theorem outK_row (R : Rs) : OutI (fun n => ∃ s, n ∈ R.row s) (outK R) := by
  have key : ∀ (l : List (List Int)) (ns : List Int), ns ∈ l → ∃ s, l.getD s [] = ns := by
    intro l ns h
    obtain ⟨s, hs, e⟩ := List.getElem_of_mem h
    exact ⟨s, by rw [List.getD_eq_getElem?_getD, List.getElem?_eq_getElem hs, e]; rfl⟩
  refine OutI.rows _ _ (OutI.rows _ _ ⟨[], rfl, by simp⟩ (fun ns h n hn => ?_)) (fun ns h n hn => ?_)
  · obtain ⟨s, e⟩ := key _ _ h
    exact ⟨s, List.mem_append.mpr (.inl (by rw [e]; exact hn))⟩
  · obtain ⟨s, e⟩ := key _ _ h
    exact ⟨s, List.mem_append.mpr (.inr (by rw [e]; exact hn))⟩
/-! ### a step as data -/
def encM : Mv → PyData
  | .crash => .tuple [.str "crash"]
  | .go s a => .tuple [.int (s : Nat), .int a]
theorem dp_mv {K : PySem.W.Frag} {H : Hp} {t : Addr} {m : Mv} (e : H t = some (.tup m.vs)) : Dp K H (.ref t) (encM m) := by
  cases m with
  | crash => exact .tup (sqT e) (.cons (.str _) .nil)
  | go s a => exact .tup (sqT e) (.cons (.int _) (.cons (.int _) .nil))
theorem shaped_mv (m : Mv) : SeqAt.shaped (encM m) = true := by
  cases m with
  | crash => decide +kernel
  | go s a => simp [SeqAt.shaped, encM, PyData.canLay0, PyData.canLayAll0, PyData.depth, PyData.depthAll]
theorem w_eqMv {K : PySem.W.Frag} {H : Hp} {a b : Addr} {m1 m2 : Mv} {Q : VK} (e1 : H a = some (.tup m1.vs)) (e2 : H b = some (.tup m2.vs)) (h : ∀ c, Q (.bl c) H) : rEqD K (.ref a) (.ref b) H Q :=
  ⟨encM m1, encM m2, dp_mv e1, dp_mv e2, shaped_mv m1, shaped_mv m2, h _⟩
/-! ### the law -/
structure LF (D : SysD) (W : Int) (ts : List (Addr × Mv)) : Prop where
  good : Good W D.n (stepAll D (ts.map (·.2)) (Rs.init D)) ts.length
  sml : Sml (stepAll D (ts.map (·.2)) (Rs.init D))
  runs : RunsOk D (ts.map (·.2)) (Rs.init D)
abbrev stA (D : SysD) (ts : List (Addr × Mv)) : Rs := stepAll D (ts.map (·.2)) (Rs.init D)
theorem stA_snoc (D : SysD) (ts : List (Addr × Mv)) (t : Addr) (m : Mv) : stA D (ts ++ [(t, m)]) = (stA D ts).step D m := by
  unfold stA
  rw [List.map_append]
  exact stepAll_snoc D _ m _
theorem LF.nil {D : SysD} {W : Int} (dok : DOk D) (hB : ∀ s, cntL (D.B.getD s []) ≤ 8) : LF D W [] :=
  ⟨good_init dok, Sml.init hB, fun pre m post e => by cases pre <;> cases e⟩
theorem LF.snoc {D : SysD} {W : Int} {ts : List (Addr × Mv)} {t : Addr} {m : Mv} (F : LF D W ts) (dok : DOk D) (hB : ∀ s, cntL (D.B.getD s []) ≤ 8) (hW : 3 ≤ W) (hwin : D.window = some W) (hf : m.Fits D (stA D ts)) (hl : ts.length ≤ 199) : LF D W (ts ++ [(t, m)]) := by
  have e := stA_snoc D ts t m
  unfold stA at e
  refine ⟨?_, ?_, ?_⟩
  · rw [e, List.length_append]
    exact good_step dok hW hwin F.good hf
  · rw [e]; exact F.sml.step hB
  · rw [List.map_append]
    exact runsOk_snoc F.runs hf (F.good.lim9 (by omega))
theorem built_n {cap : Int} {rs : List Row} {D : SysD} (ok : BuiltOk cap rs) (hk : D.ks.map Kd.row = rs) : 0 < D.n := by
  have hs : D.ss.map Kd.row = sessR rs := by rw [← hk]; exact sess_row D.ks
  have h1 := congrArg List.length hs
  rw [List.length_map] at h1
  have h2 := sessR_len rs fun r hr => (ok.ok r hr).m.1
  have h3 : 1 ≤ (rs.map (·.many)).sum := by
    have hm := fun r hr => (ok.ok r hr).m.1
    rcases ok.len with h | h
    · obtain ⟨r, rfl⟩ := List.length_eq_one_iff.mp h
      have := hm r (by simp)
      simp; omega
    · match rs, h with
      | [r, r2], _ =>
        have := hm r (by simp)
        have := hm r2 (by simp)
        simp; omega
  show 0 < D.ss.length
  omega
theorem built_cnt {cap : Int} {rs : List Row} {D : SysD} (ok : BuiltOk cap rs) (hcap : cap = 4 ∨ cap = 8) (hk : D.ks.map Kd.row = rs) : ∀ s, cntL (D.B.getD s []) ≤ 8 := by
  have hs : D.ss.map Kd.row = sessR rs := by rw [← hk]; exact sess_row D.ks
  intro s
  rcases Nat.lt_or_ge s D.n with c | c
  · obtain ⟨k, hk1, hk2, _⟩ := SysD.ss_at c
    have hm : k.row ∈ rs := sessR_mem (hs ▸ List.mem_map.mpr ⟨k, List.mem_of_getElem? hk1, rfl⟩)
    obtain ⟨c', n', hv, hn⟩ := (ok.ok _ hm).v
    have h1 := hv.cnt
    have h2 : D.B.getD s [] = k.ss := by rw [List.getD_eq_getElem?_getD, hk2]; rfl
    rw [h2]
    have h3 : k.row.ss = k.ss := rfl
    rw [h3] at h1
    omega
  · have : D.B.getD s [] = [] := by rw [List.getD_eq_getElem?_getD, List.getElem?_eq_none (by rw [B_len]; exact c)]; rfl
    rw [this]
    exact Nat.zero_le _
theorem BuiltAt.mono {H H' : Hp} {b : Addr} {cap : Int} {rs : List Row} {ahead w crashes : Int} (h : BuiltAt H b cap rs ahead w crashes) (s : Same H H') : BuiltAt H' b cap rs ahead w crashes :=
  ⟨let ⟨rl, as, e1, e2, e3, e4⟩ := h.ex; ⟨rl, as, s _ _ e1, s _ _ e2, e3, fun q hq => (e4 q hq).mono s.tp'⟩, h.ok, h.cap, h.ah, h.cr, h.win⟩
theorem at_lastV {α : Type} {f : α → V} {xs : List α} {x : α} (h : xs.getLast? = some x) : atI (xs.map f) (-1) = some (f x) := by
  have hne : xs ≠ [] := by rintro rfl; cases h
  have hl : 0 < xs.length := List.length_pos_iff.mpr hne
  have : ixN (xs.map f).length (-1) = some (xs.length - 1) := by
    unfold ixN
    rw [if_neg (by decide), List.length_map, if_pos (by omega)]
    congr 1; omega
  unfold atI
  rw [this]
  show (xs.map f)[xs.length - 1]? = _
  rw [List.getElem?_map, ← List.getLast?_eq_getElem?, h]; rfl
theorem Fit.wide {ks : List Kd} {ahead w crashes : Int} (F : Fit ks ahead (some w) crashes) : Fit ks ahead none crashes := ⟨F.ne, F.len, F.nd, F.many, F.tot, F.short, F.small, F.ah, F.cr, fun w e => by cases e⟩
theorem Fit.wide1 {ks : List Kd} {ahead w crashes : Int} (F : Fit ks ahead (some w) crashes) (h : w < 8) : Fit ks ahead (some (w + 1)) crashes := ⟨F.ne, F.len, F.nd, F.many, F.tot, F.short, F.small, F.ah, F.cr, fun w' e => by
  cases e
  obtain ⟨h1, h2, h3⟩ := F.win w rfl
  exact ⟨by omega, by omega, fun k hk => by have := h3 k hk; omega⟩⟩
theorem w_callO {X : Cx} {C : Addr} {sp : Sp} {E : XK} {tf : TE} {t : TA} {σ : L2.St} {H : Hp} {Q : VK} (h : tf σ H fun y H1 => ∃ a, y = V.ref a ∧ t σ H1 fun vs H2 => StX.InsC X H2 a C ∧ sp (V.ref a :: vs) H2 Q E) : StX.tCallO X C sp E tf t σ H Q := h
theorem w_methKw {C : Addr} {m : Str} {n : Nat} {sp : Sp} {gV : List V → List V → List V} {E : XK} {ta : TE} {tk : TA} {σ : L2.St} {H : Hp} {Q : VK} (h : ta σ H fun x H1 => ∃ a dx fs, x = .ref a ∧ H1 a = some (.ins C dx fs) ∧ fs.lookup m = none ∧ tk σ H1 fun zs H2 => zs.length = n ∧ sp (gV [x] zs) H2 Q E) : tMethKw C m n sp gV E ta tk σ H Q := h
section
variable {P : Program} {w : World} {K : PySem.W.Frag} {mg : Str → Option Value} {base : Heap}
def sp_law (K : PySem.W.Frag) : Sp := fun vs H Q E => ∃ l ns, vs = [.ref l] ∧ SqL K H l (List.map V.int ns) ∧ ns.length ≤ 63 ∧ ∀ H', Q (.bl true) H'
theorem len_law (K : PySem.W.Frag) : ∀ (vs : List V) (H : Hp) (Q : VK) (E : XK), sp_law K vs H Q E → vs.length = 1 := by
  rintro vs H Q E ⟨_, _, rfl, _⟩
  rfl
theorem ok_law (T : Txt K mg) {fd : FuncData} (F : FunD K "law" "law" (defArgs slaw) (defBody slaw) (defScope slaw) [] [] (He.ga K "law") fd) : FnOk P w K mg base CX0 14 (He.ga K "law") fd ["_law_script"] (sp_law K) := by
  obtain ⟨fd__law_same, G__law_same, b__law_same, k__law_same⟩ := ok__law_same (P := P) (w := w) (base := base) T
  obtain ⟨fd_run, G_run, b_run, k_run⟩ := ok_run (P := P) (w := w) (base := base) T
  obtain ⟨fd_System_with_values, G_System_with_values, g_System_with_values, kb_System_with_values⟩ := ok_System_with_values (P := P) (w := w) (base := base) T
  obtain ⟨fd_spread, G_spread, b_spread, k_spread⟩ := ok_spread (P := P) (w := w) (base := base) T
  obtain ⟨fd_late, G_late, b_late, k_late⟩ := ok_late (P := P) (w := w) (base := base) T
  obtain ⟨fd_Running_record, G_Running_record, b_Running_record, k_Running_record⟩ := ok_Running_record (P := P) (w := w) (base := base) T
  obtain ⟨fd__law_draw, G__law_draw, b__law_draw, k__law_draw⟩ := ok__law_draw (P := P) (w := w) (base := base) T
  have R_Running___call__ := okr_Running___call__ (P := P) (w := w) (base := base) T
  obtain ⟨fd__law_step, G__law_step, b__law_step, k__law_step⟩ := ok__law_step (P := P) (w := w) (base := base) T
  obtain ⟨fd__law_moves, G__law_moves, b__law_moves, k__law_moves⟩ := ok__law_moves (P := P) (w := w) (base := base) T
  obtain ⟨fd__law_pool, G__law_pool, b__law_pool, k__law_pool⟩ := ok__law_pool (P := P) (w := w) (base := base) T
  obtain ⟨fd_Running___init__, G_Running___init__, b_Running___init__, k_Running___init__⟩ := ok_Running___init__ (P := P) (w := w) (base := base) T
  obtain ⟨fd__law_begin, G__law_begin, b__law_begin, k__law_begin⟩ := ok__law_begin (P := P) (w := w) (base := base) T
  obtain ⟨fd__law_plan, G__law_plan, b__law_plan, k__law_plan⟩ := ok__law_plan (P := P) (w := w) (base := base) T
  obtain ⟨fd__law_system, G__law_system, b__law_system, k__law_system⟩ := ok__law_system (P := P) (w := w) (base := base) T
  obtain ⟨fd__law_build, G__law_build, b__law_build, k__law_build⟩ := ok__law_build (P := P) (w := w) (base := base) T
  refine F.ok cslaw (len_law K) (fun cdv A outer s H vs Q E hr hsp => ?_)
  have hu := hu_of hr
  have hu65 : (A.deeper (envOfC "law" (defScope slaw) s.heap.objs.size (He.ga K "law") cdv)).units + 65 < cLine := by have := hr.un; omega
  have hu0 := hr.units0
  refine ⟨_, PSs.nox (pss_cons (ps_set (i := 1) cslaw.nd rfl (Or.inl rfl) (pe_call G__law_pool (hr.mono (by decide)) (by rfl) T.g__law_pool k__law_pool b__law_pool .nil pass0 (pa_cons (pv 0) (pa_cons pe_int pa_nil))))
      (pss_cons (ps_set (i := 2) cslaw.nd rfl (Or.inl rfl) (pe_call G__law_build (hr.mono (by decide)) (by rfl) T.g__law_build k__law_build b__law_build .nil pass0 (pa_cons (pv 1) (pa_cons (pe_op op_add pe_int (pe_op op_mul pe_int (pe_call G__law_draw (hr.mono (by decide)) (by rfl) T.g__law_draw k__law_draw b__law_draw .nil pass0 (pa_cons (pv 1) (pa_cons pe_int pa_nil))))) pa_nil))))
      (pss_cons (ps_asg (pe_op op_add pe_int (pe_call G__law_draw (hr.mono (by decide)) (by rfl) T.g__law_draw k__law_draw b__law_draw .nil pass0 (pa_cons (pv 1) (pa_cons pe_int pa_nil)))) (pg_sub (pv 2) pe_int set_list))
      (pss_cons (ps_set (i := 3) cslaw.nd rfl (Or.inl rfl) (pe_call G__law_system (hr.mono (by decide)) (by rfl) T.g__law_system k__law_system b__law_system .nil pass0 (pa_cons (pv 2) pa_nil)))
      (pss_cons (ps_set (i := 4) cslaw.nd rfl (Or.inl rfl) (pe_call G__law_plan (hr.mono (by decide)) (by rfl) T.g__law_plan k__law_plan b__law_plan .nil pass0 (pa_cons (pv 2) pa_nil)))
      (pss_cons (ps_set (i := 5) cslaw.nd rfl (Or.inl rfl) (pe_call G__law_begin (hr.mono (by decide)) (by rfl) T.g__law_begin k__law_begin b__law_begin .nil pass0 (pa_cons (pv 4) pa_nil)))
      (pss_cons (ps_set (i := 6) cslaw.nd rfl (Or.inl rfl) (pe_make T.k_Running G_Running___init__ (hr.mono (by decide)) (by rfl) T.g_Running b_Running___init__ .nil pass0 (pa_cons (pv 3) pa_nil)))
      (pss_cons (ps_set (i := 7) cslaw.nd rfl (Or.inl rfl) (pe_lst pa_nil))
      (pss_cons (ps_for PassesOwn.never rfl (pi_range2 (by rfl) T.f_range (pa_cons pe_int (pa_cons (pe_callB call_lenN (by rfl) T.f_len (by decide +kernel) (pa_cons (pv 0) pa_nil)) pa_nil))) (pg_name (i := 8) cslaw.nd rfl (Or.inl rfl)) (pss_cons (ps_set (i := 1) cslaw.nd rfl (Or.inl rfl) (pe_call G__law_pool (hr.mono (by decide)) (by rfl) T.g__law_pool k__law_pool b__law_pool .nil pass0 (pa_cons (pv 0) (pa_cons (pv 8) pa_nil))))
      (pss_one (ps_for PassesOwn.never rfl (pi_range1 (by rfl) T.f_range (pa_cons (pe_op op_add pe_int (pe_call G__law_draw (hr.mono (by decide)) (by rfl) T.g__law_draw k__law_draw b__law_draw .nil pass0 (pa_cons (pv 1) (pa_cons pe_int pa_nil)))) pa_nil)) (pg_name (i := 9) cslaw.nd rfl (Or.inl rfl)) (pss_cons (ps_set (i := 10) cslaw.nd rfl (Or.inl rfl) (pe_call G__law_moves (hr.mono (by decide)) (by rfl) T.g__law_moves k__law_moves b__law_moves .nil pass0 (pa_cons (pv 5) (pa_cons (pv 4) pa_nil))))
      (Evl.pss_cut (ps_if (PW.pt (pw_and (pt_cmpR op_gt (pe_callB call_lenN (by rfl) T.f_len (by decide +kernel) (pa_cons (pv 10) pa_nil)) pe_int (nomark _)) (pw_and (pt_cmpR (op_eqD hr.units) (pe_ix ix_list (pv 10) (pe_un un_neg pe_int) (fun _ _ => rfl)) (pe_tup (pa_cons pe_str pa_nil)) (nomark _)) (pw_and1 (pt_cmpR op_gt (pe_call G__law_draw (hr.mono (by decide)) (by rfl) T.g__law_draw k__law_draw b__law_draw .nil pass0 (pa_cons (pv 1) (pa_cons pe_int pa_nil))) pe_int (nomark _)))))) (pss_one (ps_set (i := 10) cslaw.nd rfl (Or.inl rfl) (pe_slice sl_list (pv 10) po_none (po_some (pe_un un_neg pe_int))))) pss_nil)
      (pss_one (ps_if (pt_cmpR op_gt (pe_callB call_lenN (by rfl) T.f_len (by decide +kernel) (pa_cons (pv 10) pa_nil)) pe_int (nomark _)) (pss_cons (ps_set (i := 11) cslaw.nd rfl (Or.inl rfl) (pe_ix ix_list (pv 10) (pe_call G__law_draw (hr.mono (by decide)) (by rfl) T.g__law_draw k__law_draw b__law_draw .nil pass0 (pa_cons (pv 1) (pa_cons (pe_callB call_lenN (by rfl) T.f_len (by decide +kernel) (pa_cons (pv 10) pa_nil)) pa_nil))) (fun _ _ => rfl)))
      (pss_cons (ps_expr (pe_call G__law_step (hr.mono (by decide)) (by rfl) T.g__law_step k__law_step b__law_step .nil pass0 (pa_cons (pv 5) (pa_cons (pv 4) (pa_cons (pv 11) pa_nil)))))
      (pss_cons (ps_expr (pe_bm PySem.F.plainAttrs_list PySem.F.slot_list_append PySem.F.type_list_append mt_append (pv 7) (pa_cons (pv 11) pa_nil)))
      (pss_cons (ps_expr (StX.pe_callO (pv 6) T.o_Running R_Running___call__ (hr.mono (by decide)) pass0 (pa_cons (pv 11) pa_nil)))
      (pss_cons (ps_set (i := 12) cslaw.nd rfl (Or.inl rfl) (pe_meth0 (pv 6) T.c_Running T.m_Running_record G_Running_record (hr.mono (by decide)) b_Running_record .nil pass0))
      (pss_one (ps_if (PW.pt (pw_and (pt_cmpR op_gt (pe_callB call_lenDN (by rfl) T.f_len (by decide +kernel) (pa_cons (pe_fld (pv 12) rfl) pa_nil)) pe_int (nomark _)) (pw_and1 (pt_cmpR op_gt (pe_op op_sub (pe_fld (pv 12) rfl) (pe_callB (cr_min rfl) (by rfl) T.f_min (by decide +kernel) (pa_cons (pe_callTy (call_list_dK rfl) (by rfl) T.f_list (by decide +kernel) (pa_cons (pe_fld (pv 12) rfl) pa_nil)) pa_nil))) (pe_ix ix_list (pv 2) pe_int (fun _ _ => rfl)) (nomark _))))) (pss_one (ps_ret pe_bl)) pss_nil))))))) pss_nil))))))))
      (pss_cons (ps_set (i := 12) cslaw.nd rfl (Or.inl rfl) (pe_meth0 (pv 6) T.c_Running T.m_Running_record G_Running_record (hr.mono (by decide)) b_Running_record .nil pass0))
      (Evl.pss_cut (ps_if (PW.pt (pw_and (pt_cmpR op_notN1 (pe_call G_late (hr.mono (by decide)) (by rfl) T.g_late k_late b_late .nil pass0 (pa_cons (pv 12) pa_nil)) pe_non (nomark _)) (pw_and1 (pt_not (pt_chain op_le op_lt pe_int (pe_call G_late (hr.mono (by decide)) (by rfl) T.g_late k_late b_late .nil pass0 (pa_cons (pv 12) pa_nil)) (pe_ix ix_list (pv 2) pe_int (fun _ _ => rfl))))))) (pss_one (ps_ret pe_bl)) pss_nil)
      (Evl.pss_cut (ps_if (PW.pt (pw_and (pt_cmpR op_notN1 (pe_call G_spread (hr.mono (by decide)) (by rfl) T.g_spread k_spread b_spread .nil pass0 (pa_cons (pv 12) pa_nil)) pe_non (nomark _)) (pw_and1 (pt_not (pt_chain op_le op_le pe_int (pe_call G_spread (hr.mono (by decide)) (by rfl) T.g_spread k_spread b_spread .nil pass0 (pa_cons (pv 12) pa_nil)) (pe_ix ix_list (pv 2) pe_int (fun _ _ => rfl))))))) (pss_one (ps_ret pe_bl)) pss_nil)
      (pss_cons (ps_set (i := 13) cslaw.nd rfl (Or.inl rfl) (pe_methKw (pv 3) T.c_System T.m_System_with_values G_System_with_values (hr.mono (by decide)) kb_System_with_values pass0 (pk_cons pe_non pk_nil)))
      (Evl.pss_cut (ps_if (pt_not (pt_val (pe_call G__law_same (hr.mono (by decide)) (by rfl) T.g__law_same k__law_same b__law_same .nil pass0 (pa_cons (pe_call G_run (hr.mono (by decide)) (by rfl) T.g_run k_run b_run .nil pass0 (pa_cons (pv 13) (pa_cons (pe_callTy call_lstN (by rfl) T.f_list (by decide +kernel) (pa_cons (pv 7) pa_nil)) pa_nil))) (pa_cons (pv 12) pa_nil))))) (pss_one (ps_ret pe_bl)) pss_nil)
      (Evl.pss_cut (ps_if (pt_cmpR op_lt (pe_ix ix_list (pv 2) pe_int (fun _ _ => rfl)) pe_int (nomark _)) (pss_one (ps_set (i := 13) cslaw.nd rfl (Or.inl rfl) (pe_methKw (pv 3) T.c_System T.m_System_with_values G_System_with_values (hr.mono (by decide)) kb_System_with_values pass0 (pk_cons (pe_op op_add (pe_ix ix_list (pv 2) pe_int (fun _ _ => rfl)) pe_int) pk_nil)))) pss_nil)
      (pss_one (ps_ret (pe_call G__law_same (hr.mono (by decide)) (by rfl) T.g__law_same k__law_same b__law_same .nil pass0 (pa_cons (pe_call G_run (hr.mono (by decide)) (by rfl) T.g_run k_run b_run .nil pass0 (pa_cons (pv 13) (pa_cons (pe_callTy call_lstN (by rfl) T.f_list (by decide +kernel) (pa_cons (pv 7) pa_nil)) pa_nil))) (pa_cons (pv 12) pa_nil)))))))))))))))))))), ?_⟩
  obtain ⟨l, ns, rfl, hl, hn63, hq⟩ := hsp
  walk_at "st"
  walk_at "rd"
  refine ⟨l, 0, ns, rfl, hl, fun H1 p1 hs1 hn1 hp1 => ?_⟩
  walk_at "rd"
  refine ⟨p1, 2, rfl, hp1, by decide, by decide, fun r2 H2 h2a h2b sb2 hp2 => ?_⟩
  walk_at "rd"
  refine w_rI (.inl ⟨by decide, by decide⟩) ?_
  walk_at "rd"
  refine ⟨p1, 4 + 4 * r2, rfl, hp2, by omega, fun H3 b rl rs as ahead span crashes sb3 hp3 hnb hnrl hbrl eb erl hal hrow hbo ha0 ha4 hc0 hc2 hspan => ?_⟩
  have hcap : (4 + 4 * r2 : Int) = 4 ∨ (4 + 4 * r2 : Int) = 8 := by omega
  walk_at "rd"
  refine ⟨p1, 6, rfl, hp3, by decide, by decide, fun r6 H4 h6a h6b sb4 hp4 => ?_⟩
  walk_at "rd"
  have hbp : b ≠ p1 := by rintro rfl; obtain ⟨_, _, _, e⟩ := hp2; rw [e] at hnb; cases hnb
  have hrlp : rl ≠ p1 := by rintro rfl; obtain ⟨_, _, _, e⟩ := hp2; rw [e] at hnrl; cases hnrl
  have eb4 := sb4 _ _ hbp eb
  refine w_setL eb4 (n := 2) rfl ?_
  have eb5 : upd H4 b (.lst ([V.ref rl, .int ahead, oV span, .int crashes].set 2 (.int (3 + r6)))) b = some (.lst [.ref rl, .int ahead, .int (3 + r6), .int crashes]) := upd_same
  have tp45 : Tp H4 (upd H4 b (.lst ([V.ref rl, .int ahead, oV span, .int crashes].set 2 (.int (3 + r6))))) := tp_put (Tp.refl H4) eb4 (fun _ z => nomatch z)
  have erl5 : upd H4 b (.lst ([V.ref rl, .int ahead, oV span, .int crashes].set 2 (.int (3 + r6)))) rl = some (.lst (as.map V.ref)) := by rw [upd_ne (Ne.symm hbrl)]; exact sb4 _ _ hrlp erl
  have hl5 : SqL K (upd H4 b (.lst ([V.ref rl, .int ahead, oV span, .int crashes].set 2 (.int (3 + r6))))) l (ns.map V.int) := by
    have hpn : H p1 = none := hn1
    have hb0 : H b = none := by
      cases e : H b with
      | none => rfl
      | some o => rw [sb2 _ _ (fun z => by rw [z, hpn] at e; cases e) (hs1 _ _ e)] at hnb; cases hnb
    have : Same H (upd H4 b (.lst ([V.ref rl, .int ahead, oV span, .int crashes].set 2 (.int (3 + r6))))) := fun x o e => by
      have hxp : x ≠ p1 := ne_of_none e hpn
      rw [upd_ne (ne_of_none e hb0)]
      exact sb4 _ _ hxp (sb3 _ _ hxp (sb2 _ _ hxp (hs1 _ _ e)))
    exact this.seq hl
  have tp34 : Tp H3 H4 := by obtain ⟨_, _, _, e⟩ := hp3; exact sb4.tp e (fun _ z => nomatch z)
  generalize upd H4 b (.lst ([V.ref rl, .int ahead, oV span, .int crashes].set 2 (.int (3 + r6)))) = H5 at *
  have hr36 : 3 ≤ 3 + r6 ∧ 3 + r6 ≤ 8 := by omega
  generalize (3 + r6 : Int) = W at *
  have BA5 : BuiltAt H5 b (4 + 4 * r2) rs ahead W crashes := ⟨⟨rl, as, eb5, erl5, hal, fun q hq => (hrow q hq).mono (tp34.trans tp45)⟩, hbo, hcap, ⟨ha0, ha4⟩, ⟨hc0, hc2⟩, hr36⟩
  generalize (4 + 4 * r2 : Int) = cap at *
  clear eb erl hrow eb4 hp4 sb4 sb3 sb2 hp2 hp3 hp1 hs1 hn1 tp34 tp45
  walk_at "rd"
  refine ⟨b, cap, rs, ahead, W, crashes, rfl, BA5, fun H6 sy D hs6 hsys hks hah hwin hcr dok fit => ?_⟩
  walk_at "rd"
  have BA6 := BA5.mono hs6
  refine ⟨b, cap, rs, ahead, W, crashes, rfl, BA6, fun H7 p hs7 hnp hplan => ?_⟩
  walk_at "rd"
  have hD0 := built_n hbo hks
  have hB := built_cnt hbo hcap hks
  refine ⟨p, rs, W, D, rfl, by rw [hah, hcr]; exact hplan, hks, hwin, dok, hD0, fun H8 M hs8 hMn hMp hsim => ?_⟩
  have hl7 : SqL K H7 l (ns.map V.int) := (hs6.trans hs7).seq hl5
  have eb7 := (hs6.trans hs7) _ _ eb5
  have hsys7 := hsys.mono hs7
  clear hl hl5 hnp hsys BA5 BA6 hplan hs6 hs7 hal hbo
  subst hMp
  walk_at "rd"
  refine w_gMake fun rp dx H9 hnrp hs9 erp _ => ?_
  refine ⟨rp, sy, dx, H8, D, rfl, erp, hs9, hnrp, hsys7.mono hs8, dok, fun H10 sb10 ra10 => ⟨rfl, ?_⟩⟩
  walk_at "rd"
  rename_i sc H11 hnsc hs11 esc he11
  have hsc8 : H8 sc = none := by
    cases e : H8 sc with
    | none => rfl
    | some o =>
      obtain ⟨_, _, _, _, r⟩ := ra10
      rw [r.lay.fr _ _ e] at hnsc; cases hnsc
  have LA0 : LA K H7 H11 sc sc sy rp M D (stA D []) (stA D []) [] [] := by
    obtain ⟨ow, A1, pv, cv, r⟩ := ra10
    have hg : Same H7 H11 := fun x o e => hs11 _ _ (r.lay.fr _ _ (hs8 _ _ e))
    have hog : ∀ x, Own ow x → H7 x = none := fun x hx => by
      cases e : H7 x with
      | none => rfl
      | some o => have h := r.lay.sep x hx; rw [hs8 _ _ e] at h; cases h
    have hosc : ¬ Own ow sc := fun hx => by
      obtain ⟨o, e⟩ := r.lay.sup sc hx
      rw [hnsc] at e; cases e
    have hsys11 : SysAt K (cut (Own ow) H11) sy D.ks D.ahead D.window D.crashes := hsys7.mono fun x o e => by
      rw [cut_yes (fun h => by rw [hog x h] at e; cases e)]; exact hg x o e
    refine ⟨ow, A1, pv, cv, {
      run := r.recut (fun x o _ e => hs11 _ _ e) hs11.tp' hsys11
      sim := hsim.grow (fun x o e => by
        rw [cut_empty] at e
        have h1 := r.lay.fr _ _ e
        rw [cut_yes (by
          rintro (h | h | h)
          · have := r.lay.sep x h; rw [e] at this; cases this
          · rw [h, hsc8] at e; cases e
          · rw [h, hsc8] at e; cases e)]
        exact hs11 _ _ h1) (fun x hx => by
          rcases hx with h | h | h
          · obtain ⟨o, e⟩ := r.lay.sup x h; exact ⟨o, hs11 _ _ e⟩
          · exact ⟨_, by rw [h]; exact esc⟩
          · exact ⟨_, by rw [h]; exact esc⟩)
      g := hg
      og := hog
      mg := hMn
      osc := hosc
      oq := hosc
      sg := hs8.free hsc8
      esc := esc
      ets := fun b hb => (by cases hb)
      sys := hsys7 }⟩
  have hsc7 : H7 sc = none := hs8.free hsc8
  have hl11 : SqL K H11 l (ns.map V.int) := by obtain ⟨_, _, _, _, L⟩ := LA0; exact L.g.seq hl7
  clear ra10 hsim sb10 erp hs9 hs8 esc hs11 hnrp he11 hnsc hsc8 hMn
  refine w_lenLs hl11 ?_
  walk_at "rd"
  refine w_gR2 ⟨by decide, by decide, by rw [List.length_map]; omega, by rw [List.length_map]; omega⟩ ?_
  refine forR (fun i σ H' => ∃ q ts xv o1 o8 o9 o10 o11 o12 o13, LA K H7 H' sc q sy rp M D (stA D ts) (stA D ts) xv ts ∧ LF D W ts ∧ ts.length ≤ 3 * i ∧ xv.length = ts.length ∧ σ = [some (.ref l), o1, some (.ref b), some (.ref sy), some (.ref M.p), some (.ref M.a), some (.ref rp), some (.ref sc), o8, o9, o10, o11, o12, o13]) ⟨sc, [], [], _, _, _, _, _, _, _, LA0, LF.nil dok hB, Nat.le_refl _, rfl, rfl⟩ ?_ ?_
  · rintro i σ H' hi ⟨q0, ts0, xv0, o1, o8, o9, o10, o11, o12, o13, LA1, F1, htl1, hxl1, rfl⟩
    rw [List.length_map] at hi
    have hl12 : SqL K H' l (ns.map V.int) := by obtain ⟨_, _, _, _, L⟩ := LA1; exact L.g.seq hl7
    walk_at "rd"
    refine ⟨l, 1 + i, ns, by rw [Int.natCast_add]; rfl, hl12, fun H2 q hs2 hnq hpq => ?_⟩
    have LA2 : LA K H7 H2 sc q sy rp M D (stA D ts0) (stA D ts0) xv0 ts0 := by
      obtain ⟨_, _, _, _, L⟩ := LA1
      obtain ⟨_, _, _, e⟩ := hpq
      exact ⟨_, _, _, _, L.newq hs2 hnq e⟩
    have hq7 : H7 q = none := by obtain ⟨_, _, _, _, L⟩ := LA1; exact L.g.free hnq
    have hqsc : q ≠ sc := by obtain ⟨_, _, _, _, L⟩ := LA1; rintro rfl; rw [L.esc] at hnq; cases hnq
    clear LA1
    walk_at "rd"
    refine ⟨q, 3, rfl, hpq, by decide, by decide, fun r3 H3 h3a h3b sb3 hp3 => ?_⟩
    have LA3 : LA K H7 H3 sc q sy rp M D (stA D ts0) (stA D ts0) xv0 ts0 := by
      obtain ⟨_, _, _, _, L⟩ := LA2
      exact ⟨_, _, _, _, L.draw sb3 hpq hp3 hqsc hq7⟩
    clear LA2 hl12 hs2 hpq sb3 hnq
    walk_at "rd"
    refine w_gR1 (by omega) (by omega) ?_
    refine forR (fun j σ H' => ∃ ts xv o9 o10 o11 o12 o13, LA K H7 H' sc q sy rp M D (stA D ts) (stA D ts) xv ts ∧ PoolAt H' q ∧ LF D W ts ∧ ts.length ≤ 3 * i + j ∧ xv.length = ts.length ∧ σ = [some (.ref l), some (.ref q), some (.ref b), some (.ref sy), some (.ref M.p), some (.ref M.a), some (.ref rp), some (.ref sc), some (.int (1 + (i : Nat))), o9, o10, o11, o12, o13]) ⟨ts0, xv0, _, _, _, _, _, LA3, hp3, F1, htl1, hxl1, rfl⟩ ?_ ?_
    · clear LA3 hp3 F1 htl1 hxl1
      rintro j σ H' hj ⟨ts, xv, o9, o10, o11, o12, o13, ⟨ow, A1, pv, cv, L⟩, hp, F, htl, hxl, rfl⟩
      have hj3 : j < 3 := by omega
      have htl199 : ts.length ≤ 198 := by omega
      walk_at "rd"
      refine ⟨_, M, D, stA D ts, rfl, L.sim, F.good.rne, fun H4 mv tm hs4 hnmv emv htm html => ?_⟩
      have L4 := L.grow hs4
      have hp4 : PoolAt H4 q := by obtain ⟨x1, x2, x3, e⟩ := hp; exact ⟨x1, x2, x3, hs4 _ _ e⟩
      have hmvq : mv ≠ q := by rintro rfl; obtain ⟨_, _, _, e⟩ := hp; rw [e] at hnmv; cases hnmv
      clear hp hs4 L hnmv
      walk_at "rd"
      refine ⟨fun σ H' => ∃ mv tm, LI K H7 H' sc q sy rp M D (stA D ts) (stA D ts) xv ts ow A1 pv cv ∧ PoolAt H' q ∧ mv ≠ q ∧ H' mv = some (.lst (List.map (fun b : Addr × Mv => V.ref b.1) tm)) ∧ (∀ b ∈ tm, H' b.1 = some (.tup b.2.vs) ∧ b.2.Fits D (stA D ts)) ∧ tm.length ≤ 10 ∧ σ = [some (.ref l), some (.ref q), some (.ref b), some (.ref sy), some (.ref M.p), some (.ref M.a), some (.ref rp), some (.ref sc), some (.int (1 + (i : Nat))), some (.int (0 + (j : Nat))), some (.ref mv), o11, o12, o13], ?_, ?_⟩
      · walk_at "rd"
        refine w_ite (fun h1 => ?_) (fun _ => ?_)
        · rw [List.length_map] at h1
          obtain ⟨lm, hlm⟩ : ∃ lm, tm.getLast? = some lm := by
            cases e : tm.getLast? with
            | none => rw [List.getLast?_eq_none_iff] at e; rw [e] at h1; simp at h1
            | some x => exact ⟨x, rfl⟩
          have hat := at_lastV (f := fun b : Addr × Mv => V.ref b.1) hlm
          have hlmm := List.mem_of_getLast? hlm
          walk_at "rd"
          rename_i t5 H5 hn5 hs5 et5 he5
          have L5 := L4.grow hs5
          have hp5 : PoolAt H5 q := by obtain ⟨x1, x2, x3, e⟩ := hp4; exact ⟨x1, x2, x3, hs5 _ _ e⟩
          have emv5 := hs5 _ _ emv
          have htm5 : ∀ b ∈ tm, H5 b.1 = some (.tup b.2.vs) ∧ b.2.Fits D (stA D ts) := fun b hb => ⟨hs5 _ _ (htm b hb).1, (htm b hb).2⟩
          refine w_eqMv (m1 := lm.2) (m2 := .crash) (htm5 lm hlmm).1 et5 fun c => ?_
          walk_at "rd"
          cases c with
          | false =>
            walk_at "rd"
            exact ⟨mv, tm, L5, hp5, hmvq, emv5, htm5, html, rfl⟩
          | true =>
            walk_at "rd"
            refine ⟨q, 6, rfl, hp5, by decide, by decide, fun r6 H6 h6a h6b sb6 hp6 => ?_⟩
            have L6 := L5.draw sb6 hp5 hp6 hqsc hq7
            have tp6 : Tp H5 H6 := by obtain ⟨_, _, _, e⟩ := hp5; exact sb6.tp e (fun _ z => nomatch z)
            have emv6 := sb6 _ _ hmvq emv5
            have htm6 : ∀ b ∈ tm, H6 b.1 = some (.tup b.2.vs) ∧ b.2.Fits D (stA D ts) := fun b hb => ⟨tp6 _ _ (htm5 b hb).1, (htm5 b hb).2⟩
            walk_at "rd"
            refine w_ite (fun _ => ?_) (fun _ => ?_)
            · walk_at "rd"
              rename_i mv7 H7' hn7 hs7 emv7 he7
              rw [cut_last, ← List.map_dropLast] at emv7
              refine ⟨mv7, tm.dropLast, L6.grow hs7, by obtain ⟨x1, x2, x3, e⟩ := hp6; exact ⟨x1, x2, x3, hs7 _ _ e⟩, (by rintro rfl; obtain ⟨_, _, _, e⟩ := hp6; rw [e] at hn7; cases hn7), emv7, fun b hb => ?_, by rw [List.length_dropLast]; omega, rfl⟩
              have := htm6 b ((List.dropLast_sublist tm).subset hb)
              exact ⟨hs7 _ _ this.1, this.2⟩
            · walk_at "rd"
              exact ⟨mv, tm, L6, hp6, hmvq, emv6, htm6, html, rfl⟩
        · walk_at "rd"
          exact ⟨mv, tm, L4, hp4, hmvq, emv, htm, html, rfl⟩
      · clear L4 hp4 hmvq emv htm html
        rintro σ H5 ⟨mv, tm, L5, hp5, hmvq, emv, htm, html, rfl⟩
        walk_at "rd"
        refine w_ite (fun h1 => ?_) (fun _ => ?_)
        · rw [List.length_map] at h1
          walk_at "rd"
          refine ⟨q, _, rfl, hp5, by rw [List.length_map]; omega, by rw [List.length_map]; omega, fun r6 H6 h6a h6b sb6 hp6 => ?_⟩
          rw [List.length_map] at h6b
          have L6 := L5.draw sb6 hp5 hp6 hqsc hq7
          have tp6 : Tp H5 H6 := by obtain ⟨_, _, _, e⟩ := hp5; exact sb6.tp e (fun _ z => nomatch z)
          have emv6 := sb6 _ _ hmvq emv
          obtain ⟨k, hk⟩ : ∃ k : Nat, r6 = (k : Int) := ⟨r6.toNat, by omega⟩
          subst hk
          have hkl : k < tm.length := by omega
          obtain ⟨⟨t, m⟩, htk⟩ : ∃ x, tm[k]? = some x := ⟨_, List.getElem?_eq_getElem hkl⟩
          obtain ⟨et5, hfit⟩ := htm _ (List.mem_of_getElem? htk)
          have et6 := tp6 _ _ et5
          have hat : atI (List.map (fun b : Addr × Mv => V.ref b.1) tm) (k : Nat) = some (.ref t) := at_nat (n := k) (by rw [List.getElem?_map, htk]; rfl) rfl
          clear htm emv et5 sb6 tp6 L5 hp5
          walk_at "rd"
          refine ⟨_, M, D, stA D ts, t, m, rfl, L6.sim, et6, hfit, F.good.lim9 (by omega), F.good.lnd, F.sml, fun H7' k7 SA7 => ?_⟩
          have L7 := L6.simStep k7 SA7
          have hp7 := L6.qKept k7 hp6
          have et7 := L6.sim.kpTp k7 _ _ et6
          have esc7 := L7.esc
          clear L6 hp6 et6 k7 SA7 emv6
          walk_at "rd"
          have L8 := L7.sched et7
          have hp8 : PoolAt (upd H7' sc (.lst ((ts.map fun b => V.ref b.1) ++ [.ref t]))) q := by obtain ⟨x1, x2, x3, e⟩ := hp7; exact ⟨x1, x2, x3, by rw [upd_ne hqsc]; exact e⟩
          generalize upd H7' sc (.lst ((ts.map fun b => V.ref b.1) ++ [.ref t])) = H8' at *
          clear L7 hp7 et7 esc7
          have f8 := L8.run.eself
          have et8 := L8.ets (t, m) (by simp)
          refine w_callO ?_
          walk_at "rd"
          refine ⟨rp, rfl, ?_⟩
          walk_at "rd"
          refine ⟨.inr ⟨_, _, f8⟩, ?_⟩
          refine ⟨rp, t, _, sy, D, _, xv, m, rfl, ⟨_, _, _, _, L8.run⟩, et8, hfit, F.good.lim9 (by omega), by omega, fun H9' tp9 ra9 => ?_⟩
          obtain ⟨⟨ow9, A9, pv9, cv9, L9⟩, hp9⟩ := L8.runStep tp9 ra9 hp8
          have F9 := F.snoc (t := t) dok hB hr36.1 hwin hfit (by omega)
          rw [← stA_snoc D ts t m] at L9
          have htl9 : (ts ++ [(t, m)]).length ≤ 3 * i + (j + 1) := by rw [List.length_append, List.length_singleton]; omega
          have hxl9 : (xv ++ [V.ref t]).length = (ts ++ [(t, m)]).length := by rw [List.length_append, List.length_append, hxl]; rfl
          generalize xv ++ [V.ref t] = xv9 at *
          generalize ts ++ [(t, m)] = ts9 at *
          clear L8 hp8 tp9 ra9 f8 et8 F hxl hfit hat htk htl htl199 html
          have f9 := L9.run.eself
          walk_at "rd"
          refine ⟨rp, _, sy, D, _, _, rfl, ⟨_, _, _, _, L9.run⟩, F9.good.lim (by omega), fun H10' ra hs10 rec => ?_⟩
          have L10 := L9.grow hs10
          have hp10 : PoolAt H10' q := by obtain ⟨x1, x2, x3, e⟩ := hp9; exact ⟨x1, x2, x3, hs10 _ _ e⟩
          have eb10 := L10.g _ _ eb7
          obtain ⟨dxr, clr, llr, olr, cvr, lsr, rc⟩ := rec
          have k1 := rc.ins
          have k2 := rc.eol
          walk_at "rd"
          refine w_ite (fun h0 => ?_) (fun _ => ?_)
          · walk_at "rd"
            refine ⟨olr, outK (stA D ts9), rfl, k2, fun qo hqo => ?_⟩
            obtain ⟨nso, hko, hno⟩ := outK_row (stA D ts9)
            have hkeys : (outK (stA D ts9)).map (fun kv => kV kv.1) = nso.map V.int := by
              rw [show (outK (stA D ts9)).map (fun kv => kV kv.1) = ((outK (stA D ts9)).map (·.1)).map kV from by rw [List.map_map]; rfl, hko, List.map_map]
              rfl
            have hnl : nso.length = (outK (stA D ts9)).length := by have := congrArg List.length hko; rw [List.length_map, List.length_map] at this; exact this.symm
            rw [hkeys]
            have e11 : upd H10' qo (.lst (nso.map V.int)) qo = some (.lst (nso.map V.int)) := upd_same
            have hs11 := same_new (o := .lst (nso.map V.int)) hqo
            generalize upd H10' qo (.lst (nso.map V.int)) = H11' at *
            have L11 := L10.grow hs11
            have hp11 : PoolAt H11' q := by obtain ⟨x1, x2, x3, e⟩ := hp10; exact ⟨x1, x2, x3, hs11 _ _ e⟩
            have eb11 := hs11 _ _ eb10
            walk_at "rd"
            refine ⟨qo, nso, rfl, sqL e11, by omega, fun mn hmn _ => ?_⟩
            obtain ⟨s9, hs9⟩ := hno mn hmn
            have hout := (F9.good.out s9 mn hs9).2
            have hout2 : ¬ W < (stA D ts9).height - mn := by show ¬ W < (stepAll D (ts9.map (·.2)) (Rs.init D)).height - mn; omega
            walk_at "rd"
            exact ⟨ts9, xv9, _, _, _, _, _, ⟨_, _, _, _, L11⟩, hp11, F9, htl9, hxl9, rfl⟩
          · walk_at "rd"
            exact ⟨ts9, xv9, _, _, _, _, _, ⟨_, _, _, _, L10⟩, hp10, F9, htl9, hxl9, rfl⟩
        · walk_at "rd"
          exact ⟨ts, xv, _, _, _, _, _, ⟨_, _, _, _, L5⟩, hp5, F, by omega, hxl, rfl⟩
    · rintro σ H13 ⟨ts, xv, o9, o10, o11, o12, o13, LA13, hp13, F13, htl13, hxl13, rfl⟩
      exact ⟨q, ts, xv, _, _, _, _, _, _, _, LA13, F13, by omega, hxl13, rfl⟩
  · rintro σ H12 ⟨q, ts, xv, o1, o8, o9, o10, o11, o12, o13, ⟨ow, A1, pv, cv, L⟩, F, htl, hxl, rfl⟩
    rw [List.length_map] at htl
    have htl2 : ts.length ≤ 200 := by omega
    clear htl hxl
    have f1 := L.run.eself
    have lim := F.good.lim htl2
    walk_at "rd"
    refine ⟨rp, _, sy, D, _, _, rfl, ⟨_, _, _, _, L.run⟩, lim, fun H2 ra hs2 rec => ?_⟩
    have L2 := L.grow hs2
    have hg2 := L2.g
    have esc2 := L2.esc
    have ets2 := L2.ets
    have eb2 := hg2 _ _ eb7
    have hsys2 := hsys7.mono hg2
    have hcne := F.good.cne
    have hlf := F.good.lf
    have hspd := F.good.sp
    have hruns := F.runs
    rw [hwin] at fit
    clear L L2 F f1 hs2 LA0
    walk_at "rd"
    refine ⟨fun σ H' => H' = H2 ∧ σ = [some (.ref l), o1, some (.ref b), some (.ref sy), some (.ref M.p), some (.ref M.a), some (.ref rp), some (.ref sc), o8, o9, o10, o11, some (.ref ra), o13], ?_, ?_⟩
    · walk_at "rd"
      refine ⟨ra, stA D ts, rfl, rec, hcne, ?_⟩
      cases hlt : (lateM (stA D ts).commits).1 with
      | none =>
        dsimp only [oV]
        walk_at "rd"
        exact ⟨rfl, rfl⟩
      | some f =>
        obtain ⟨hf1, hf2⟩ := hlf f hlt
        dsimp only [oV]
        walk_at "rd"
        refine ⟨ra, stA D ts, rfl, rec, hcne, ?_⟩
        rw [hlt]
        dsimp only [oV]
        walk_at "rd"
        exact ⟨rfl, rfl⟩
    · rintro σ H3 ⟨rfl, rfl⟩
      refine ⟨fun σ H' => H' = H3 ∧ σ = [some (.ref l), o1, some (.ref b), some (.ref sy), some (.ref M.p), some (.ref M.a), some (.ref rp), some (.ref sc), o8, o9, o10, o11, some (.ref ra), o13], ?_, ?_⟩
      · walk_at "rd"
        refine ⟨ra, stA D ts, rfl, rec, ?_⟩
        cases hlt : (stA D ts).spread with
        | none =>
          dsimp only [oV]
          walk_at "rd"
          exact ⟨rfl, rfl⟩
        | some f =>
          obtain ⟨hf1, hf2⟩ := hspd f hlt
          dsimp only [oV]
          walk_at "rd"
          refine ⟨ra, stA D ts, rfl, rec, ?_⟩
          rw [hlt]
          dsimp only [oV]
          walk_at "rd"
          exact ⟨rfl, rfl⟩
      · rintro σ H2 ⟨rfl, rfl⟩
        obtain ⟨psk, dxs, kt, st, SI, hkss⟩ := id hsys2
        have es := SI.ins
        walk_at "rd"
        refine w_methKw ?_
        walk_at "rd"
        refine ⟨sy, dxs, _, rfl, es, by with_unfolding_all rfl, ?_⟩
        walk_at "rd"
        refine ⟨rfl, ?_⟩
        refine ⟨sy, none, D.ks, D.ahead, D.window, D.crashes, rfl, hsys2, fit.wide, fun H3 sy3 hs3 hsys3 => ?_⟩
        walk_at "rd"
        have W2 : Wider D { D with window := none } := ⟨rfl, rfl, rfl, fun w _ w' e => (by cases e), fun _ => rfl⟩
        have esc3 := hs3 _ _ esc2
        refine ⟨fun σ H' => Same H3 H' ∧ σ = [some (.ref l), o1, some (.ref b), some (.ref sy), some (.ref M.p), some (.ref M.a), some (.ref rp), some (.ref sc), o8, o9, o10, o11, some (.ref ra), some (.ref sy3)], ?_, ?_⟩
        · walk_at "rd"
          rename_i l2 H4 hn4 hs4 el2 he4
          refine ⟨sy3, l2, { D with window := none }, ts, rfl, hsys3.mono hs4, W2.dok dok, el2, fun b hb => hs4 _ _ (hs3 _ _ (ets2 b hb)), by rw [W2.init]; exact W2.runs hruns, by omega, by rw [W2.init, W2.all]; exact lim, fun H5 a2 hs5 rec5 => ?_⟩
          rw [W2.init, W2.all] at rec5
          walk_at "rd"
          refine ⟨a2, ra, stA D ts, rfl, rec5, rec.mono (hs3.trans (hs4.trans hs5)), ?_⟩
          walk_at "rd"
          exact ⟨hs4.trans hs5, rfl⟩
        · rintro σ H4 ⟨hs4, rfl⟩
          have hs24 := hs3.trans hs4
          have eb4 := hs24 _ _ eb2
          have es4 := hs24 _ _ es
          have esc4 := hs24 _ _ esc2
          have hsys4 := hsys2.mono hs24
          refine ⟨fun σ H' => ∃ (Dw : SysD) (syw : Addr), Wider D Dw ∧ SysAt K H' syw Dw.ks Dw.ahead Dw.window Dw.crashes ∧ Same H4 H' ∧ σ = [some (.ref l), o1, some (.ref b), some (.ref sy), some (.ref M.p), some (.ref M.a), some (.ref rp), some (.ref sc), o8, o9, o10, o11, some (.ref ra), some (.ref syw)], ?_, ?_⟩
          · walk_at "rd"
            refine w_ite (fun h8 => ?_) (fun h8 => ?_)
            · walk_at "rd"
              refine w_methKw ?_
              walk_at "rd"
              refine ⟨sy, dxs, _, rfl, es4, by with_unfolding_all rfl, ?_⟩
              walk_at "rd"
              refine ⟨rfl, ?_⟩
              refine ⟨sy, some (W + 1), D.ks, D.ahead, D.window, D.crashes, rfl, hsys4, fit.wide1 h8, fun H5 sy5 hs5 hsys5 => ?_⟩
              walk_at "rd"
              exact ⟨{ D with window := some (W + 1) }, sy5, ⟨rfl, rfl, rfl, fun w e w' e' => by rw [hwin] at e; cases e; cases e'; omega, fun e => by rw [hwin] at e; cases e⟩, hsys5, hs5, rfl⟩
            · walk_at "rd"
              exact ⟨{ D with window := none }, sy3, W2, hsys3.mono hs4, Same.refl _, rfl⟩
          · rintro σ H5 ⟨Dw, syw, hw, hsysw, hs5, rfl⟩
            have esc5 := hs5 _ _ esc4
            walk_at "rd"
            rename_i l2 H6 hn6 hs6 el2 he6
            refine ⟨syw, l2, Dw, ts, rfl, hsysw.mono hs6, hw.dok dok, el2, fun b hb => hs6 _ _ (hs5 _ _ (hs24 _ _ (ets2 b hb))), by rw [hw.init]; exact hw.runs hruns, by omega, by rw [hw.init, hw.all]; exact lim, fun H7' a2 hs7' rec7 => ?_⟩
            rw [hw.init, hw.all] at rec7
            walk_at "rd"
            refine ⟨a2, ra, stA D ts, rfl, rec7, rec.mono (hs24.trans (hs5.trans (hs6.trans hs7'))), ?_⟩
            walk_at "rd"
            exact hq _
end
end Tk
namespace Tk
open PySem PySem.Spec PyProof.Rows L2
theorem txt_of {K : PySem.W.Frag} {h : Heap} {mg : Str → Option Value} (X : K.In h) (G : h.Ns mainGlobals mg) (c : He.SaysD fa fn K) (ex : exB K = true) : Txt K mg := by
  obtain ⟨x1, ex⟩ := He.ba ex
  obtain ⟨x2, ex⟩ := He.ba ex
  obtain ⟨x3, ex⟩ := He.ba ex
  obtain ⟨x4, ex⟩ := He.ba ex
  obtain ⟨x5, ex⟩ := He.ba ex
  obtain ⟨x6, ex⟩ := He.ba ex
  obtain ⟨x7, ex⟩ := He.ba ex
  obtain ⟨x8, ex⟩ := He.ba ex
  obtain ⟨x9, ex⟩ := He.ba ex
  obtain ⟨x10, x11⟩ := He.ba ex
  exact {
    g_late := He.glo_ok X G (c.fact 0 rfl),
    g_spread := He.glo_ok X G (c.fact 1 rfl),
    g_is_integer := He.glo_ok X G (c.fact 2 rfl),
    g_is_name := He.glo_ok X G (c.fact 3 rfl),
    g_is_place := He.glo_ok X G (c.fact 4 rfl),
    g_has_form := He.glo_ok X G (c.fact 5 rfl),
    g_fault_of := He.glo_ok X G (c.fact 6 rfl),
    g_count_after := He.glo_ok X G (c.fact 7 rfl),
    g_check_branch := He.glo_ok X G (c.fact 8 rfl),
    g_checked := He.glo_ok X G (c.fact 9 rfl),
    g_within := He.glo_ok X G (c.fact 10 rfl),
    g_as_script := He.glo_ok X G (c.fact 11 rfl),
    g_kinds_fault := He.glo_ok X G (c.fact 12 rfl),
    g_window_fits := He.glo_ok X G (c.fact 13 rfl),
    g_system_fault := He.glo_ok X G (c.fact 14 rfl),
    g_is_kept := He.glo_ok X G (c.fact 15 rfl),
    g_run := He.glo_ok X G (c.fact 16 rfl),
    g__law_pool := He.glo_ok X G (c.fact 17 rfl),
    g__law_draw := He.glo_ok X G (c.fact 18 rfl),
    g__law_names := He.glo_ok X G (c.fact 19 rfl),
    g__law_simple := He.glo_ok X G (c.fact 20 rfl),
    g__law_branch := He.glo_ok X G (c.fact 21 rfl),
    g__law_build := He.glo_ok X G (c.fact 22 rfl),
    g__law_system := He.glo_ok X G (c.fact 23 rfl),
    g__law_plan := He.glo_ok X G (c.fact 24 rfl),
    g__law_low := He.glo_ok X G (c.fact 25 rfl),
    g__law_waits := He.glo_ok X G (c.fact 26 rfl),
    g__law_begin := He.glo_ok X G (c.fact 27 rfl),
    g__law_end := He.glo_ok X G (c.fact 28 rfl),
    g__law_crash := He.glo_ok X G (c.fact 29 rfl),
    g__law_take := He.glo_ok X G (c.fact 30 rfl),
    g__law_act := He.glo_ok X G (c.fact 31 rfl),
    g__law_step := He.glo_ok X G (c.fact 32 rfl),
    g__law_moves := He.glo_ok X G (c.fact 33 rfl),
    g__law_same := He.glo_ok X G (c.fact 34 rfl),
    g_law := He.glo_ok X G (c.fact 35 rfl),
    g_Record := He.glo_ok X G (c.fact 36 rfl),
    c_Record := He.cls_ok (c.fact 37 rfl),
    k_Record := He.mkr_ok (c.fact 38 rfl),
    n_Record_commits := He.noat_ok (c.fact 39 rfl),
    n_Record_lost := He.noat_ok (c.fact 40 rfl),
    n_Record_out := He.noat_ok (c.fact 41 rfl),
    n_Record_height := He.noat_ok (c.fact 42 rfl),
    n_Record_noted := He.noat_ok (c.fact 43 rfl),
    n_Record_crashes := He.noat_ok (c.fact 44 rfl),
    n_Record_spread := He.noat_ok (c.fact 45 rfl),
    g_Script := He.glo_ok X G (c.fact 46 rfl),
    c_Script := He.cls_ok (c.fact 47 rfl),
    k_Script := He.mkr_ok (c.fact 48 rfl),
    n_Script_table := He.noat_ok (c.fact 49 rfl),
    n_Script_statements := He.noat_ok (c.fact 50 rfl),
    n_Script_places := He.noat_ok (c.fact 51 rfl),
    m_Script___len__ := He.meth_ok (c.fact 52 rfl),
    m_Script___getitem__ := He.meth_ok (c.fact 53 rfl),
    m_Script_follow := He.meth_ok (c.fact 54 rfl),
    m_Script_after := He.meth_ok (c.fact 55 rfl),
    g_Kind := He.glo_ok X G (c.fact 56 rfl),
    c_Kind := He.cls_ok (c.fact 57 rfl),
    k_Kind := He.mkr_ok (c.fact 58 rfl),
    n_Kind_name := He.noat_ok (c.fact 59 rfl),
    n_Kind_script := He.noat_ok (c.fact 60 rfl),
    n_Kind_block := He.noat_ok (c.fact 61 rfl),
    n_Kind_many := He.noat_ok (c.fact 62 rfl),
    g_System := He.glo_ok X G (c.fact 63 rfl),
    c_System := He.cls_ok (c.fact 64 rfl),
    k_System := He.mkr_ok (c.fact 65 rfl),
    n_System_kinds := He.noat_ok (c.fact 66 rfl),
    n_System_ahead := He.noat_ok (c.fact 67 rfl),
    n_System_window := He.noat_ok (c.fact 68 rfl),
    n_System_crashes := He.noat_ok (c.fact 69 rfl),
    n_System_sessions := He.noat_ok (c.fact 70 rfl),
    m_System___getitem__ := He.meth_ok (c.fact 71 rfl),
    m_System_kind_of := He.meth_ok (c.fact 72 rfl),
    m_System_with_values := He.meth_ok (c.fact 73 rfl),
    g_Running := He.glo_ok X G (c.fact 74 rfl),
    c_Running := He.cls_ok (c.fact 75 rfl),
    k_Running := He.mkr_ok (c.fact 76 rfl),
    n_Running_system := He.noat_ok (c.fact 77 rfl),
    n_Running_height := He.noat_ok (c.fact 78 rfl),
    n_Running_noted := He.noat_ok (c.fact 79 rfl),
    n_Running_crashes := He.noat_ok (c.fact 80 rfl),
    n_Running_places := He.noat_ok (c.fact 81 rfl),
    n_Running_locks := He.noat_ok (c.fact 82 rfl),
    n_Running_transactions := He.noat_ok (c.fact 83 rfl),
    n_Running_stores := He.noat_ok (c.fact 84 rfl),
    n_Running_commits := He.noat_ok (c.fact 85 rfl),
    n_Running_lost := He.noat_ok (c.fact 86 rfl),
    n_Running_spread := He.noat_ok (c.fact 87 rfl),
    n_Running_executed := He.noat_ok (c.fact 88 rfl),
    n_Running_saved := He.noat_ok (c.fact 89 rfl),
    m_Running___call__ := He.meth_ok (c.fact 90 rfl),
    m_Running_statement := He.meth_ok (c.fact 91 rfl),
    m_Running_lowest := He.meth_ok (c.fact 92 rfl),
    m_Running_blocked := He.meth_ok (c.fact 93 rfl),
    m_Running_is_session := He.meth_ok (c.fact 94 rfl),
    m_Running_fits := He.meth_ok (c.fact 95 rfl),
    m_Running_perform := He.meth_ok (c.fact 96 rfl),
    m_Running_crash := He.meth_ok (c.fact 97 rfl),
    m_Running_restart := He.meth_ok (c.fact 98 rfl),
    m_Running_finish := He.meth_ok (c.fact 99 rfl),
    m_Running_hand_out := He.meth_ok (c.fact 100 rfl),
    m_Running_execute := He.meth_ok (c.fact 101 rfl),
    m_Running_commit := He.meth_ok (c.fact 102 rfl),
    m_Running_hold := He.meth_ok (c.fact 103 rfl),
    m_Running_advance := He.meth_ok (c.fact 104 rfl),
    m_Running_record := He.meth_ok (c.fact 105 rfl),
    m_Running_perform_all := He.meth_ok (c.fact 106 rfl),
    f_len := He.free_ok X G (c.fact 107 rfl),
    f_isinstance := He.free_ok X G (c.fact 108 rfl),
    f_range := He.free_ok X G (c.fact 109 rfl),
    f_enumerate := He.free_ok X G (c.fact 110 rfl),
    f_max := He.free_ok X G (c.fact 111 rfl),
    f_min := He.free_ok X G (c.fact 112 rfl),
    f_list := He.free_ok X G (c.fact 113 rfl),
    f_tuple := He.free_ok X G (c.fact 114 rfl),
    f_int := He.free_ok X G (c.fact 115 rfl),
    f_str := He.free_ok X G (c.fact 116 rfl),
    f_bool := He.free_ok X G (c.fact 117 rfl),
    f_sorted := He.free_ok X G (c.fact 118 rfl),
    i_MOST_STATEMENTS := He.int_ok X G (c.fact 119 rfl),
    i_MOST_NUMBERS := He.int_ok X G (c.fact 120 rfl),
    i_MOST_SESSIONS := He.int_ok X G (c.fact 121 rfl),
    i_MOST_BLOCK := He.int_ok X G (c.fact 122 rfl),
    i_SHORT_SCRIPT := He.int_ok X G (c.fact 123 rfl),
    s_LETTERS := He.str_ok X G (c.fact 124 rfl),
    e_BadScript := He.keep_ok (c.fact 125 rfl),
    g_SIMPLE := He.glo_ok X G (c.fact 126 rfl),
    g_NAMED := He.glo_ok X G (c.fact 127 rfl),
    g_RESETS := He.glo_ok X G (c.fact 128 rfl),
    g_BadScript := He.glo_ok X G (c.fact 129 rfl),
    t_SIMPLE := fun H => He.tupB_ok x1 H,
    t_NAMED := fun H => He.tupB_ok x2 H,
    t_RESETS := fun H => He.tupB_ok x3 H,
    o_Running := ⟨(He.meth_ok (c.fact 90 (f := .meth "Running" "__call__") rfl)).at_, (He.meth_ok (c.fact 90 (f := .meth "Running" "__call__") rfl)).fn, x4⟩,
    o_Script := ⟨He.meth_ok (c.fact 53 rfl), x5⟩,
    o_System := ⟨He.meth_ok (c.fact 71 rfl), x6⟩,
    q_tup := of_decide_eq_true x7,
    q_cls := of_decide_eq_true x8,
    q_get := of_decide_eq_true x9,
    q_tk := of_decide_eq_true x10,
    q_mro := of_decide_eq_true x11,
    d_Record___init__ := c.def_ 0 (d := dsRecord___init__) rfl,
    d_late := c.def_ 1 (d := dslate) rfl,
    d_spread := c.def_ 2 (d := dsspread) rfl,
    d_is_integer := c.def_ 3 (d := dsis_integer) rfl,
    d_is_name := c.def_ 4 (d := dsis_name) rfl,
    d_is_place := c.def_ 5 (d := dsis_place) rfl,
    d_has_form := c.def_ 6 (d := dshas_form) rfl,
    d_fault_of := c.def_ 7 (d := dsfault_of) rfl,
    d_count_after := c.def_ 8 (d := dscount_after) rfl,
    d_check_branch := c.def_ 9 (d := dscheck_branch) rfl,
    d_checked := c.def_ 10 (d := dschecked) rfl,
    d_Script___init__ := c.def_ 11 (d := dsScript___init__) rfl,
    d_Script___len__ := c.def_ 12 (d := dsScript___len__) rfl,
    d_Script___getitem__ := c.def_ 13 (d := dsScript___getitem__) rfl,
    d_Script_follow := c.def_ 14 (d := dsScript_follow) rfl,
    d_Script_after := c.def_ 15 (d := dsScript_after) rfl,
    d_within := c.def_ 16 (d := dswithin) rfl,
    d_as_script := c.def_ 17 (d := dsas_script) rfl,
    d_Kind___init__ := c.def_ 18 (d := dsKind___init__) rfl,
    d_kinds_fault := c.def_ 19 (d := dskinds_fault) rfl,
    d_window_fits := c.def_ 20 (d := dswindow_fits) rfl,
    d_system_fault := c.def_ 21 (d := dssystem_fault) rfl,
    d_is_kept := c.def_ 22 (d := dsis_kept) rfl,
    d_System___init__ := c.def_ 23 (d := dsSystem___init__) rfl,
    d_System___getitem__ := c.def_ 24 (d := dsSystem___getitem__) rfl,
    d_System_kind_of := c.def_ 25 (d := dsSystem_kind_of) rfl,
    d_System_with_values := c.def_ 26 (d := dsSystem_with_values) rfl,
    d_Running___init__ := c.def_ 27 (d := dsRunning___init__) rfl,
    d_Running___call__ := c.def_ 28 (d := dsRunning___call__) rfl,
    d_Running_statement := c.def_ 29 (d := dsRunning_statement) rfl,
    d_Running_lowest := c.def_ 30 (d := dsRunning_lowest) rfl,
    d_Running_blocked := c.def_ 31 (d := dsRunning_blocked) rfl,
    d_Running_is_session := c.def_ 32 (d := dsRunning_is_session) rfl,
    d_Running_fits := c.def_ 33 (d := dsRunning_fits) rfl,
    d_Running_perform := c.def_ 34 (d := dsRunning_perform) rfl,
    d_Running_crash := c.def_ 35 (d := dsRunning_crash) rfl,
    d_Running_restart := c.def_ 36 (d := dsRunning_restart) rfl,
    d_Running_finish := c.def_ 37 (d := dsRunning_finish) rfl,
    d_Running_hand_out := c.def_ 38 (d := dsRunning_hand_out) rfl,
    d_Running_execute := c.def_ 39 (d := dsRunning_execute) rfl,
    d_Running_commit := c.def_ 40 (d := dsRunning_commit) rfl,
    d_Running_hold := c.def_ 41 (d := dsRunning_hold) rfl,
    d_Running_advance := c.def_ 42 (d := dsRunning_advance) rfl,
    d_Running_record := c.def_ 43 (d := dsRunning_record) rfl,
    d_Running_perform_all := c.def_ 44 (d := dsRunning_perform_all) rfl,
    d_run := c.def_ 45 (d := dsrun) rfl,
    d__law_pool := c.def_ 46 (d := ds_law_pool) rfl,
    d__law_draw := c.def_ 47 (d := ds_law_draw) rfl,
    d__law_names := c.def_ 48 (d := ds_law_names) rfl,
    d__law_simple := c.def_ 49 (d := ds_law_simple) rfl,
    d__law_branch := c.def_ 50 (d := ds_law_branch) rfl,
    d__law_build := c.def_ 51 (d := ds_law_build) rfl,
    d__law_system := c.def_ 52 (d := ds_law_system) rfl,
    d__law_plan := c.def_ 53 (d := ds_law_plan) rfl,
    d__law_low := c.def_ 54 (d := ds_law_low) rfl,
    d__law_waits := c.def_ 55 (d := ds_law_waits) rfl,
    d__law_begin := c.def_ 56 (d := ds_law_begin) rfl,
    d__law_end := c.def_ 57 (d := ds_law_end) rfl,
    d__law_crash := c.def_ 58 (d := ds_law_crash) rfl,
    d__law_take := c.def_ 59 (d := ds_law_take) rfl,
    d__law_act := c.def_ 60 (d := ds_law_act) rfl,
    d__law_step := c.def_ 61 (d := ds_law_step) rfl,
    d__law_moves := c.def_ 62 (d := ds_law_moves) rfl,
    d__law_same := c.def_ 63 (d := ds_law_same) rfl,
    d_law := c.def_ 64 (d := dslaw) rfl }
theorem facts {P : Program} {w : World} {K : PySem.W.Frag} {h : Heap} {mg : Str → Option Value} {f : Addr} (X : K.In h) (G : h.Ns mainGlobals mg) (hfa : mg ("law" : Str) = some (.ref f)) (c : He.SaysD fa fn K) (ex : exB K = true) :
    ∃ fd : FuncData, (∀ (s : Shared) (v : Value), BindsTo s fd ⟨[v], []⟩ [("_law_script", v)]) ∧ ∀ base : Heap, K.In base → base.Ns mainGlobals mg → FnOk P w K mg base CX0 14 f fd ["_law_script"] (sp_law K) := by
  have T := txt_of X G c ex
  obtain ⟨fd, F⟩ := T.d_law
  have e := hfa.symm.trans T.g_law
  cases e
  have b := FunD.bindsA (ps := ["_law_script"]) F fun _ _ _ _ _ _ us hl => match us, hl with | [_], _ => rfl
  exact ⟨fd, fun s v => b s [v] rfl, fun base _ _ => ok_law T F⟩
end Tk
open PySem PySem.W PySem.Calls PyProof.Rows
theorem PySem.Challenge.cw_takenahead_k16_whole_window_holds_holds : PySem.Challenge.rw_takenahead_k16_whole_window_holds.Holds := by
  refine Tk.top_law ?hc
  case hc =>
    refine L2.walk_ofE (l := PySem.Challenge.rw_takenahead_k16_whole_window_holds) (n := 63) (k := 14) (x := "_law_script") (CX := L2.CX0) rfl (by decide) (by kernel_rfl) ⟨rfl, by decide, by decide⟩ ?F (fun _ _ _ _ z => z)
    intro w mg fa h Y G hmg0
    obtain ⟨K, KX, c, ex⟩ := Y
    have hmg : mg ("law" : PySem.Str) = some (.ref fa) := by
      have e : (HandSHeadRun.topDef (OpenLaw.row PySem.Challenge.rw_takenahead_k16_whole_window_holds).prog 66).name = ("law" : PySem.Str) := by kernel_rfl
      rw [← e]
      exact hmg0
    obtain ⟨fd, hb, hF⟩ := Tk.facts (P := (PySem.Challenge.rw_takenahead_k16_whole_window_holds).prog) (w := w) KX G hmg c ex
    exact ⟨K, fd, Tk.sp_law K, KX, hb, fun H a ns hl _ hS => ⟨a, ns, rfl, hS, hl, fun _ => rfl⟩, hF⟩

