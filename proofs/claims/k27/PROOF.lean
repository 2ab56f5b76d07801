import PyProof.Rows.All
import Wide.All
import OpenK.AllK
import Wide.FinOn
import HandS.ForMost
import HandS.Defaults
import HandS.Codes
import HandS.IsInst
import HandS.Lambda
import HandS.HeadHook1
import HandS.HeadHook2
import HandS.HeadHook3
import HandS.HeadHook4
import HandS.Head0
import HandS.Head1
import HandS.Head2
import HandS.HeadWalk
import HandS.Star
import HandS.Style
import HandS.TupAny
import HandS.Walk
import HandS.Zip
import HandS.Flow
import HandS.Steps
import KE.GoesNew
import KE.GoesMore
import PyProof.EnumMake
import KE.SortUse
import PySem.Challenge.RW_smallheld_k27_whole_many_choices
set_option Elab.async false
set_option linter.all false
set_option maxRecDepth 100000
set_option maxHeartbeats 400000
section
namespace SH
open PySem L2
/-! the text by places -/
def top (i : Nat) : Stmt := PySem.Challenge.pw_smallheld_k27_whole_many_choices.main.body.getD i (.Pass ⟨0, 0, 0, 0⟩)
abbrev s_is_integer : Stmt := top 23
abbrev s_is_between : Stmt := top 24
abbrev s_check_number : Stmt := top 25
abbrev s_Setting_init : Stmt := inClass (top 26) 0
abbrev s_check_setting : Stmt := top 27
abbrev s_Line_init : Stmt := inClass (top 28) 0
abbrev s_check_line : Stmt := top 29
abbrev s_is_amount : Stmt := top 32
abbrev s_is_step : Stmt := top 33
abbrev s_check_program : Stmt := top 34
abbrev s_is_size : Stmt := top 35
abbrev s_check_size : Stmt := top 36
abbrev s_pause_steps : Stmt := top 37
abbrev s_check_pauses : Stmt := top 38
abbrev s_shortest : Stmt := top 39
abbrev s_plain_steps : Stmt := top 40
abbrev s_Flow_init : Stmt := inClass (top 42) 0
abbrev s_Flow_kept : Stmt := inClass (top 42) 1
abbrev s_Flow_fresh : Stmt := inClass (top 42) 2
abbrev s_Flow_take_out : Stmt := inClass (top 42) 3
abbrev s_Flow_send : Stmt := inClass (top 42) 4
abbrev s_Flow_lets : Stmt := inClass (top 42) 5
abbrev s_Flow_let_go : Stmt := inClass (top 42) 6
abbrev s_Flow_put : Stmt := inClass (top 42) 7
abbrev s_Flow_land : Stmt := inClass (top 42) 8
abbrev s_Flow_begin : Stmt := inClass (top 42) 9
abbrev s_Flow_is_due : Stmt := inClass (top 42) 10
abbrev s_Flow_leave : Stmt := inClass (top 42) 11
abbrev s_Flow_next_tick : Stmt := inClass (top 42) 12
abbrev s_Course_init : Stmt := inClass (top 43) 0
abbrev s_Course_pass_step : Stmt := inClass (top 43) 1
abbrev s_Course_rests : Stmt := inClass (top 43) 2
abbrev s_Course_do_step : Stmt := inClass (top 43) 3
abbrev s_Course_go_on : Stmt := inClass (top 43) 4
abbrev s_events : Stmt := top 44
abbrev s_do_tick : Stmt := top 45
abbrev s_Run_init : Stmt := inClass (top 47) 0
abbrev s_run_of : Stmt := top 48
abbrev s_check_run : Stmt := top 49
abbrev s_run : Stmt := top 50
abbrev s_is_within : Stmt := top 51
abbrev s_check_limit : Stmt := top 54
abbrev s_count_choices : Stmt := top 56
abbrev s_all_choices : Stmt := top 57
abbrev s_check_choices : Stmt := top 58
abbrev s_all_ends : Stmt := top 59
abbrev s_latest : Stmt := top 60
abbrev s_earliest : Stmt := top 61
abbrev s_late_of : Stmt := top 62
abbrev s_late_choice : Stmt := top 63
abbrev s_law_mill : Stmt := top 65
abbrev s_law_grain : Stmt := top 66
abbrev s_law_pick : Stmt := top 67
abbrev s_law_ways : Stmt := top 68
abbrev s_law_told : Stmt := top 69
abbrev s_law_made : Stmt := top 70
abbrev s_law_amount : Stmt := top 71
abbrev s_law_plans : Stmt := top 72
abbrev s_law_choice : Stmt := top 73
abbrev s_law_wide : Stmt := top 74
abbrev s_law_inside : Stmt := top 75
abbrev s_law_right : Stmt := top 76
abbrev s_law : Stmt := top 77
end SH
end
section
set_option maxHeartbeats 0
namespace SHH
open SH
open PySem PySem.Spec PyProof.Rows L2
def d_is_integer : He.DefD := ⟨("is_integer", none), "is_integer", "is_integer", defArgs s_is_integer, defBody s_is_integer, defScope s_is_integer, [], []⟩
def d_is_between : He.DefD := ⟨("is_between", none), "is_between", "is_between", defArgs s_is_between, defBody s_is_between, defScope s_is_between, [], []⟩
def d_check_number : He.DefD := ⟨("check_number", none), "check_number", "check_number", defArgs s_check_number, defBody s_check_number, defScope s_check_number, [], []⟩
def d_Setting_init : He.DefD := ⟨("Setting", some "__init__"), "__init__", "Setting.__init__", defArgs s_Setting_init, defBody s_Setting_init, defScope s_Setting_init, [], []⟩
def d_check_setting : He.DefD := ⟨("check_setting", none), "check_setting", "check_setting", defArgs s_check_setting, defBody s_check_setting, defScope s_check_setting, [], []⟩
def d_Line_init : He.DefD := ⟨("Line", some "__init__"), "__init__", "Line.__init__", defArgs s_Line_init, defBody s_Line_init, defScope s_Line_init, [], []⟩
def d_check_line : He.DefD := ⟨("check_line", none), "check_line", "check_line", defArgs s_check_line, defBody s_check_line, defScope s_check_line, [], []⟩
def d_is_amount : He.DefD := ⟨("is_amount", none), "is_amount", "is_amount", defArgs s_is_amount, defBody s_is_amount, defScope s_is_amount, [], []⟩
def d_is_step : He.DefD := ⟨("is_step", none), "is_step", "is_step", defArgs s_is_step, defBody s_is_step, defScope s_is_step, [], []⟩
def d_check_program : He.DefD := ⟨("check_program", none), "check_program", "check_program", defArgs s_check_program, defBody s_check_program, defScope s_check_program, [], []⟩
def d_is_size : He.DefD := ⟨("is_size", none), "is_size", "is_size", defArgs s_is_size, defBody s_is_size, defScope s_is_size, [], []⟩
def d_check_size : He.DefD := ⟨("check_size", none), "check_size", "check_size", defArgs s_check_size, defBody s_check_size, defScope s_check_size, [], []⟩
def d_pause_steps : He.DefD := ⟨("pause_steps", none), "pause_steps", "pause_steps", defArgs s_pause_steps, defBody s_pause_steps, defScope s_pause_steps, [], []⟩
def d_check_pauses : He.DefD := ⟨("check_pauses", none), "check_pauses", "check_pauses", defArgs s_check_pauses, defBody s_check_pauses, defScope s_check_pauses, [], []⟩
def d_shortest : He.DefD := ⟨("shortest", none), "shortest", "shortest", defArgs s_shortest, defBody s_shortest, defScope s_shortest, [], []⟩
def d_plain_steps : He.DefD := ⟨("plain_steps", none), "plain_steps", "plain_steps", defArgs s_plain_steps, defBody s_plain_steps, defScope s_plain_steps, [], []⟩
def d_Flow_init : He.DefD := ⟨("Flow", some "__init__"), "__init__", "Flow.__init__", defArgs s_Flow_init, defBody s_Flow_init, defScope s_Flow_init, [], []⟩
def d_Flow_kept : He.DefD := ⟨("Flow", some "kept"), "kept", "Flow.kept", defArgs s_Flow_kept, defBody s_Flow_kept, defScope s_Flow_kept, [], []⟩
def d_Flow_fresh : He.DefD := ⟨("Flow", some "fresh"), "fresh", "Flow.fresh", defArgs s_Flow_fresh, defBody s_Flow_fresh, defScope s_Flow_fresh, [], []⟩
def d_Flow_take_out : He.DefD := ⟨("Flow", some "take_out"), "take_out", "Flow.take_out", defArgs s_Flow_take_out, defBody s_Flow_take_out, defScope s_Flow_take_out, [], []⟩
def d_Flow_send : He.DefD := ⟨("Flow", some "send"), "send", "Flow.send", defArgs s_Flow_send, defBody s_Flow_send, defScope s_Flow_send, [], []⟩
def d_Flow_lets : He.DefD := ⟨("Flow", some "lets"), "lets", "Flow.lets", defArgs s_Flow_lets, defBody s_Flow_lets, defScope s_Flow_lets, [], []⟩
def d_Flow_let_go : He.DefD := ⟨("Flow", some "let_go"), "let_go", "Flow.let_go", defArgs s_Flow_let_go, defBody s_Flow_let_go, defScope s_Flow_let_go, [], []⟩
def d_Flow_put : He.DefD := ⟨("Flow", some "put"), "put", "Flow.put", defArgs s_Flow_put, defBody s_Flow_put, defScope s_Flow_put, [], []⟩
def d_Flow_land : He.DefD := ⟨("Flow", some "land"), "land", "Flow.land", defArgs s_Flow_land, defBody s_Flow_land, defScope s_Flow_land, [], []⟩
def d_Flow_begin : He.DefD := ⟨("Flow", some "begin"), "begin", "Flow.begin", defArgs s_Flow_begin, defBody s_Flow_begin, defScope s_Flow_begin, [], []⟩
def d_Flow_is_due : He.DefD := ⟨("Flow", some "is_due"), "is_due", "Flow.is_due", defArgs s_Flow_is_due, defBody s_Flow_is_due, defScope s_Flow_is_due, [], []⟩
def d_Flow_leave : He.DefD := ⟨("Flow", some "leave"), "leave", "Flow.leave", defArgs s_Flow_leave, defBody s_Flow_leave, defScope s_Flow_leave, [], []⟩
def d_Flow_next_tick : He.DefD := ⟨("Flow", some "next_tick"), "next_tick", "Flow.next_tick", defArgs s_Flow_next_tick, defBody s_Flow_next_tick, defScope s_Flow_next_tick, [], []⟩
def d_Course_init : He.DefD := ⟨("Course", some "__init__"), "__init__", "Course.__init__", defArgs s_Course_init, defBody s_Course_init, defScope s_Course_init, [], []⟩
def d_Course_pass_step : He.DefD := ⟨("Course", some "pass_step"), "pass_step", "Course.pass_step", defArgs s_Course_pass_step, defBody s_Course_pass_step, defScope s_Course_pass_step, [], []⟩
def d_Course_rests : He.DefD := ⟨("Course", some "rests"), "rests", "Course.rests", defArgs s_Course_rests, defBody s_Course_rests, defScope s_Course_rests, [], []⟩
def d_Course_do_step : He.DefD := ⟨("Course", some "do_step"), "do_step", "Course.do_step", defArgs s_Course_do_step, defBody s_Course_do_step, defScope s_Course_do_step, [], []⟩
def d_Course_go_on : He.DefD := ⟨("Course", some "go_on"), "go_on", "Course.go_on", defArgs s_Course_go_on, defBody s_Course_go_on, defScope s_Course_go_on, [], []⟩
def d_events : He.DefD := ⟨("events", none), "events", "events", defArgs s_events, defBody s_events, defScope s_events, [], []⟩
def d_do_tick : He.DefD := ⟨("do_tick", none), "do_tick", "do_tick", defArgs s_do_tick, defBody s_do_tick, defScope s_do_tick, [], []⟩
def d_Run_init : He.DefD := ⟨("Run", some "__init__"), "__init__", "Run.__init__", defArgs s_Run_init, defBody s_Run_init, defScope s_Run_init, [], []⟩
def d_run_of : He.DefD := ⟨("run_of", none), "run_of", "run_of", defArgs s_run_of, defBody s_run_of, defScope s_run_of, [], []⟩
def d_check_run : He.DefD := ⟨("check_run", none), "check_run", "check_run", defArgs s_check_run, defBody s_check_run, defScope s_check_run, [], []⟩
def d_run : He.DefD := ⟨("run", none), "run", "run", defArgs s_run, defBody s_run, defScope s_run, [], [("x", .int 1), ("pauses", .non)]⟩
def d_is_within : He.DefD := ⟨("is_within", none), "is_within", "is_within", defArgs s_is_within, defBody s_is_within, defScope s_is_within, [], []⟩
def d_check_limit : He.DefD := ⟨("check_limit", none), "check_limit", "check_limit", defArgs s_check_limit, defBody s_check_limit, defScope s_check_limit, [], []⟩
def d_count_choices : He.DefD := ⟨("count_choices", none), "count_choices", "count_choices", defArgs s_count_choices, defBody s_count_choices, defScope s_count_choices, [], []⟩
def d_all_choices : He.DefD := ⟨("all_choices", none), "all_choices", "all_choices", defArgs s_all_choices, defBody s_all_choices, defScope s_all_choices, [], []⟩
def d_check_choices : He.DefD := ⟨("check_choices", none), "check_choices", "check_choices", defArgs s_check_choices, defBody s_check_choices, defScope s_check_choices, [], []⟩
def d_all_ends : He.DefD := ⟨("all_ends", none), "all_ends", "all_ends", defArgs s_all_ends, defBody s_all_ends, defScope s_all_ends, [], []⟩
def d_latest : He.DefD := ⟨("latest", none), "latest", "latest", defArgs s_latest, defBody s_latest, defScope s_latest, [], [("x", .int 1)]⟩
def d_earliest : He.DefD := ⟨("earliest", none), "earliest", "earliest", defArgs s_earliest, defBody s_earliest, defScope s_earliest, [], [("x", .int 1)]⟩
def d_late_of : He.DefD := ⟨("late_of", none), "late_of", "late_of", defArgs s_late_of, defBody s_late_of, defScope s_late_of, [], []⟩
def d_late_choice : He.DefD := ⟨("late_choice", none), "late_choice", "late_choice", defArgs s_late_choice, defBody s_late_choice, defScope s_late_choice, [], [("x", .int 1)]⟩
def d_law_mill : He.DefD := ⟨("_law_mill", none), "_law_mill", "_law_mill", defArgs s_law_mill, defBody s_law_mill, defScope s_law_mill, [], []⟩
def d_law_grain : He.DefD := ⟨("_law_grain", none), "_law_grain", "_law_grain", defArgs s_law_grain, defBody s_law_grain, defScope s_law_grain, [], []⟩
def d_law_pick : He.DefD := ⟨("_law_pick", none), "_law_pick", "_law_pick", defArgs s_law_pick, defBody s_law_pick, defScope s_law_pick, [], []⟩
def d_law_ways : He.DefD := ⟨("_law_ways", none), "_law_ways", "_law_ways", defArgs s_law_ways, defBody s_law_ways, defScope s_law_ways, [], []⟩
def d_law_told : He.DefD := ⟨("_law_told", none), "_law_told", "_law_told", defArgs s_law_told, defBody s_law_told, defScope s_law_told, [], []⟩
def d_law_made : He.DefD := ⟨("_law_made", none), "_law_made", "_law_made", defArgs s_law_made, defBody s_law_made, defScope s_law_made, [], []⟩
def d_law_amount : He.DefD := ⟨("_law_amount", none), "_law_amount", "_law_amount", defArgs s_law_amount, defBody s_law_amount, defScope s_law_amount, [], []⟩
def d_law_plans : He.DefD := ⟨("_law_plans", none), "_law_plans", "_law_plans", defArgs s_law_plans, defBody s_law_plans, defScope s_law_plans, [], []⟩
def d_law_choice : He.DefD := ⟨("_law_choice", none), "_law_choice", "_law_choice", defArgs s_law_choice, defBody s_law_choice, defScope s_law_choice, [], []⟩
def d_law_wide : He.DefD := ⟨("_law_wide", none), "_law_wide", "_law_wide", defArgs s_law_wide, defBody s_law_wide, defScope s_law_wide, [], []⟩
def d_law_inside : He.DefD := ⟨("_law_inside", none), "_law_inside", "_law_inside", defArgs s_law_inside, defBody s_law_inside, defScope s_law_inside, [], []⟩
def d_law_right : He.DefD := ⟨("_law_right", none), "_law_right", "_law_right", defArgs s_law_right, defBody s_law_right, defScope s_law_right, [], []⟩
def d_law : He.DefD := ⟨("law", none), "law", "law", defArgs s_law, defBody s_law, defScope s_law, [], []⟩
def fn : List He.DefD := [d_is_integer, d_is_between, d_check_number, d_Setting_init, d_check_setting, d_Line_init, d_check_line, d_is_amount, d_is_step, d_check_program, d_is_size, d_check_size, d_pause_steps, d_check_pauses, d_shortest, d_plain_steps, d_Flow_init, d_Flow_kept, d_Flow_fresh, d_Flow_take_out, d_Flow_send, d_Flow_lets, d_Flow_let_go, d_Flow_put, d_Flow_land, d_Flow_begin, d_Flow_is_due, d_Flow_leave, d_Flow_next_tick, d_Course_init, d_Course_pass_step, d_Course_rests, d_Course_do_step, d_Course_go_on, d_events, d_do_tick, d_Run_init, d_run_of, d_check_run, d_run, d_is_within, d_check_limit, d_count_choices, d_all_choices, d_check_choices, d_all_ends, d_latest, d_earliest, d_late_of, d_late_choice, d_law_mill, d_law_grain, d_law_pick, d_law_ways, d_law_told, d_law_made, d_law_amount, d_law_plans, d_law_choice, d_law_wide, d_law_inside, d_law_right, d_law]
def fa0 : List He.Fa := [.glo "is_integer", .glo "is_between", .glo "check_number", .glo "check_setting", .glo "check_line", .glo "is_amount", .glo "is_step", .glo "check_program", .glo "is_size", .glo "check_size", .glo "pause_steps", .glo "check_pauses", .glo "shortest", .glo "plain_steps", .glo "events", .glo "do_tick", .glo "run_of", .glo "check_run", .glo "run", .glo "is_within", .glo "check_limit", .glo "count_choices", .glo "all_choices", .glo "check_choices", .glo "all_ends", .glo "latest", .glo "earliest", .glo "late_of", .glo "late_choice", .glo "_law_mill", .glo "_law_grain", .glo "_law_pick", .glo "_law_ways", .glo "_law_told", .glo "_law_made", .glo "_law_amount", .glo "_law_plans", .glo "_law_choice", .glo "_law_wide", .glo "_law_inside"]
def fa1 : List He.Fa := [.glo "_law_right", .glo "law", .glo "Setting", .glo "Line", .glo "Flow", .glo "Course", .glo "Run", .glo "RULES", .free "len", .free "sum", .free "max", .free "min", .free "tuple", .free "list", .free "isinstance", .free "int", .free "str", .free "bool", .free "sorted", .free "range", .free "enumerate", .free "zip", .free "abs", .free "divmod", .free "all", .int "MOST_SIZE" 40, .int "MOST_WAY" 200, .int "MOST_EVERY" 4, .int "MOST_DELAY" 200, .int "MOST_STEPS" 6, .int "MOST_BYTES" 60, .int "MOST_X" 2000, .int "MOST_CHOICES" 400, .int "MOST_LIMIT" 1000000, .str "LETTER" "x", .cls "Setting", .mkr "Setting", .noat "Setting" "rule", .noat "Setting" "every", .noat "Setting" "delay"]
def fa2 : List He.Fa := [.noat "Setting" "told", .cls "Line", .mkr "Line", .noat "Line" "size", .noat "Line" "way", .noat "Line" "near", .noat "Line" "far", .noat "Line" "told", .cls "Flow", .mkr "Flow", .noat "Flow" "line", .noat "Flow" "settings", .noat "Flow" "tick", .noat "Flow" "stock", .noat "Flow" "out", .noat "Flow" "known", .noat "Flow" "small", .noat "Flow" "come", .noat "Flow" "taken", .noat "Flow" "full", .noat "Flow" "first", .noat "Flow" "long", .noat "Flow" "flight", .noat "Flow" "log", .cls "Course", .mkr "Course", .noat "Course" "steps", .noat "Course" "again", .noat "Course" "place", .noat "Course" "until", .noat "Course" "ended", .noat "Course" "begun", .cls "Run", .mkr "Run", .noat "Run" "ends", .noat "Run" "stuck", .noat "Run" "pieces", .noat "Run" "answers", .noat "Run" "held", .noat "Run" "unread"]
def fa3 : List He.Fa := [.noat "Run" "quiet", .noat "Run" "all", .meth "Flow" "kept", .meth "Flow" "fresh", .meth "Flow" "take_out", .meth "Flow" "send", .meth "Flow" "lets", .meth "Flow" "let_go", .meth "Flow" "put", .meth "Flow" "land", .meth "Flow" "begin", .meth "Flow" "is_due", .meth "Flow" "leave", .meth "Flow" "next_tick", .meth "Course" "pass_step", .meth "Course" "rests", .meth "Course" "do_step", .meth "Course" "go_on"]
def fa : List He.Fa := fa0 ++ fa1 ++ fa2 ++ fa3
def insB (K : PySem.W.Frag) (x : Str) : Bool := He.eqO (PySem.W.findIn K (.ref (He.ga K x)) "__class__") (some (some (.builtin "object.__class__"))) && He.eqO (PySem.W.specialIn K (.builtin "object.__class__") "__get__") (some (some (.builtin "getset_descriptor.__get__"))) &&
  decide (PySem.W.takesIn K (.builtin "object.__class__") = some true) && decide (PySem.W.mroIn K (He.ga K x) (.type "object") = some true) && decide (PySem.W.kitOne K (.ref (He.ga K x)) (.ref (He.ga K x)) = some true)
def exB (K : PySem.W.Frag) : Bool := He.tupB K "RULES" [.str "plain", .str "hold", .str "few"] && insB K "Line" && insB K "Setting"
abbrev R : PySem.W.OpenRow := PySem.W.OpenLaw.row PySem.Challenge.rw_smallheld_k27_whole_many_choices
def tf : List He.Defn := [("Run", some "__init__")]
abbrev hk : PySem.W.Hook := He.hookX 4 fa fn [] tf exB
def ob (s : PySem.W.SharedT) : He.AlX := He.obsX 4 fa fn [] tf exB (HandSHeadRun.getT s)
theorem ob_eq (s : PySem.W.SharedT) : ob s = hk.obs s.abs := He.obsX_eq (HandSHeadRun.getT_eq s)
def loose0 : List Str := ["_wall", "__name__", "InputError", "SizeError", "NotASetting", "NotALine", "InvalidRule", "InvalidNumber", "InvalidSize", "InvalidLimit", "InvalidProgram", "InvalidPauses", "TooMany", "MOST_SIZE", "MOST_WAY", "MOST_EVERY", "MOST_DELAY", "MOST_STEPS", "MOST_BYTES", "MOST_X", "MOST_CHOICES", "RULES", "is_integer", "is_between", "check_number", "Setting", "check_setting", "Line", "check_line", "LETTER"]
def loose1 : List Str := ["is_amount", "is_step", "check_program", "is_size", "check_size", "pause_steps", "check_pauses", "shortest", "plain_steps", "Flow", "Course", "events", "do_tick", "Run", "run_of", "check_run", "run", "is_within", "MOST_LIMIT", "check_limit", "count_choices", "all_choices", "check_choices", "all_ends", "latest", "earliest", "late_of", "late_choice", "_law_mill", "_law_grain"]
def loose2 : List Str := ["_law_pick", "_law_ways", "_law_told", "_law_made", "_law_amount", "_law_plans", "_law_choice", "_law_wide", "_law_inside", "_law_right"]
def loose : List Str := loose0 ++ loose1 ++ loose2
theorem map3 {A B C D : Type} {o : Option A} {a : A → B} {b : A → C} {c : A → D} {x : B} {y : C} {z : D} (h1 : o.map (fun s => (a s, b s)) = some (x, y)) (h2 : o.map c = some z) : o.map (fun s => (a s, b s, c s)) = some (x, y, z) := by
  cases o with
  | none => cases h1
  | some s =>
    have e1 : (a s, b s) = (x, y) := Option.some.inj h1
    have e2 : c s = z := Option.some.inj h2
    have ea : a s = x := congrArg (fun q : B × C => q.1) e1
    have eb : b s = y := congrArg (fun q : B × C => q.2) e1
    show some (a s, b s, c s) = some (x, y, z)
    rw [ea, eb, e2]
section
open PySem PySem.W PySem.Calls PyProof.Rows
theorem run1 (w : World) (os : OsState) : (HandSHeadRun.endF (HandSHeadRun.stepQ (HandSHeadRun.denQ HandSHeadRun.tabQ) R.prog w) 8000 R.prog w os).map (fun s => (HandSHeadRun.looksF R.prog (boot_heap w.params) s.abs, HandSHeadRun.seenQ (PySem.W.view R.prog [77]) loose (importedModules R.prog.main.body) (fun s => xlAt (PySem.W.view R.prog [77]) [] s && recOk R.toRowW.records s) s.abs)) = some (true, openGood (PySem.W.view R.prog [77]) loose) := by
  kernel_rfl
end
theorem run2 (w : World) (os : OsState) : (HandSHeadRun.endF (HandSHeadRun.stepQ (HandSHeadRun.denQ HandSHeadRun.tabQ) R.prog w) 8000 R.prog w os).map ob = some (hk.val w) := by
  kernel_rfl
theorem run (w : World) : HandSHeadRun.RunEq R (PySem.W.view R.prog [77]) hk ob 8000 loose w := fun os => map3 (run1 w os) (run2 w os)
end SHH
end
section
/-! The run over a line as plain Lean: a mirror of flows.py and of the loop of runs.py. -/
namespace SH

structure Sd where
  stock : List (Int × Int)
  out : Int
  known : Int
  small : Int
  come : Int
  taken : Int
  full : Int
  first : Option Int
structure Pc where
  tick : Int
  side : Bool
  amount : Int
  ans : Int
structure Se where
  hold : Bool
  plain : Bool
  every : Int
  delay : Int
structure Ln where
  size : Int
  way : Int
  se : Bool → Se
structure FS where
  tick : Int
  sd : Bool → Sd
  flight : List Pc
  log : List Pc
inductive Wd where
  | w | r | p
  deriving DecidableEq
structure Co where
  place : Nat
  til : Option Int
  ended : Option Int

def upS {α : Type} (f : Bool → α) (i : Bool) (x : α) : Bool → α := fun j => if j = i then x else f j
theorem upS_same {α : Type} (f : Bool → α) (i : Bool) (x : α) : upS f i x i = x := by simp [upS]
theorem upS_ne {α : Type} (f : Bool → α) {i j : Bool} (x : α) (h : j ≠ i) : upS f i x j = f j := by simp [upS, h]
theorem upS_not {α : Type} (f : Bool → α) (i : Bool) (x : α) : upS f i x (!i) = f (!i) := by cases i <;> simp [upS]

def takeStock : List (Int × Int) → Int → List (Int × Int)
  | [], _ => []
  | (n, t) :: r, left => if 0 < left then (if left < n then (n - left, t) :: r else takeStock r (left - n)) else (n, t) :: r
def kept (l : List (Int × Int)) : Int := (l.map (·.1)).sum
def PosS (l : List (Int × Int)) : Prop := ∀ e ∈ l, 0 < e.1

theorem kept_nil : kept [] = 0 := rfl
theorem kept_cons (e : Int × Int) (l : List (Int × Int)) : kept (e :: l) = e.1 + kept l := by simp [kept]
theorem kept_snoc (l : List (Int × Int)) (e : Int × Int) : kept (l ++ [e]) = kept l + e.1 := by simp [kept]
theorem PosS.tail {e : Int × Int} {l : List (Int × Int)} (h : PosS (e :: l)) : PosS l := fun x hx => h x (List.mem_cons_of_mem _ hx)
theorem PosS.head {e : Int × Int} {l : List (Int × Int)} (h : PosS (e :: l)) : 0 < e.1 := h e List.mem_cons_self
theorem kept_len : ∀ {l : List (Int × Int)}, PosS l → (l.length : Int) ≤ kept l
  | [], _ => by simp [kept]
  | e :: l, h => by
    have h1 := kept_len h.tail
    have h2 := h.head
    rw [kept_cons, List.length_cons]
    omega
theorem kept_nonneg {l : List (Int × Int)} (h : PosS l) : 0 ≤ kept l := by
  have := kept_len h
  omega
theorem take_pos : ∀ {l : List (Int × Int)} {a : Int}, PosS l → PosS (takeStock l a)
  | [], _, h => by simpa [takeStock] using h
  | (n, t) :: r, a, h => by
    unfold takeStock
    split
    · split
      · intro e he
        rcases List.mem_cons.mp he with e1 | e1
        · subst e1
          show 0 < n - a
          omega
        · exact h.tail e e1
      · exact take_pos h.tail
    · exact h
theorem take_kept : ∀ {l : List (Int × Int)} {a : Int}, PosS l → 0 ≤ a → a ≤ kept l → kept (takeStock l a) = kept l - a
  | [], a, _, h0, h1 => by
    rw [kept_nil] at h1
    simp only [takeStock, kept_nil]
    omega
  | (n, t) :: r, a, h, h0, h1 => by
    rw [kept_cons] at h1 ⊢
    unfold takeStock
    dsimp only at h1 ⊢
    split
    · split
      · rw [kept_cons]
        dsimp only
        omega
      · rw [take_kept h.tail (by omega) (by omega)]
        omega
    · rw [kept_cons]
      dsimp only
      omega
theorem take_zero : ∀ (l : List (Int × Int)), takeStock l 0 = l
  | [] => rfl
  | (n, t) :: r => by simp [takeStock]

def send (L : Ln) (i : Bool) (a : Int) (s : FS) : FS :=
  { tick := s.tick
    sd := upS s.sd i { (s.sd i) with stock := takeStock (s.sd i).stock a, out := (s.sd i).out + a, small := (if 0 < a ∧ a < L.size then (s.sd i).out + a else (s.sd i).small), full := 0, first := none }
    flight := s.flight ++ [⟨s.tick + L.way, i, a, (s.sd i).come⟩]
    log := s.log ++ [⟨s.tick, i, a, (s.sd i).come⟩] }
def lets (L : Ln) (i : Bool) (s : FS) : Bool :=
  if (L.se i).hold then decide ((s.sd i).out = (s.sd i).known) else ((L.se i).plain || decide ((s.sd i).small ≤ (s.sd i).known))
def loopGo (L : Ln) (i : Bool) : Nat → FS → FS
  | 0, s => s
  | n + 1, s => if L.size ≤ kept (s.sd i).stock then loopGo L i n (send L i L.size s) else s
def lastGo (L : Ln) (i : Bool) (s : FS) : FS := if 0 < kept (s.sd i).stock ∧ lets L i s = true then send L i (kept (s.sd i).stock) s else s
def letGo (L : Ln) (i : Bool) (s : FS) : FS := lastGo L i (loopGo L i (kept (s.sd i).stock).toNat s)
def putS (i : Bool) (a : Int) (s : FS) : FS := { s with sd := upS s.sd i { (s.sd i) with stock := (s.sd i).stock ++ [(a, s.tick)] } }
def put (L : Ln) (i : Bool) (a : Int) (s : FS) : FS := letGo L i (putS i a s)
def landD (L : Ln) (p : Pc) (t : Int) (d : Sd) : Sd :=
  if 0 < p.amount then
    { d with known := (if d.known < p.ans then p.ans else d.known), come := d.come + p.amount, full := (if p.amount = L.size then d.full + 1 else d.full), first := (match d.first with | none => some t | some x => some x) }
  else { d with known := (if d.known < p.ans then p.ans else d.known) }
def land (L : Ln) (p : Pc) (s : FS) : FS := { s with sd := upS s.sd (!p.side) (landD L p s.tick (s.sd (!p.side))) }
def landAll (L : Ln) : List Pc → FS → FS
  | [], s => s
  | p :: r, s => landAll L r (land L p s)
def beginT (t : Int) (s : FS) : FS := { s with tick := t, flight := s.flight.filter fun p => decide (t < p.tick) }
def begin (L : Ln) (t : Int) (s : FS) : FS :=
  letGo L true (letGo L false (landAll L (s.flight.filter fun p => decide (p.tick ≤ t)) (beginT t s)))
def isDue (L : Ln) (i : Bool) (s : FS) : Bool :=
  if (L.se i).every ≤ (s.sd i).full then true else (match (s.sd i).first with | none => false | some f => decide (f + (L.se i).delay ≤ s.tick))
def leave1 (L : Ln) (i : Bool) (s : FS) : FS := if isDue L i s = true then send L i 0 s else s
def leave (L : Ln) (s : FS) : FS := leave1 L true (leave1 L false s)
def firstT (L : Ln) (s : FS) (i : Bool) : List Int := match (s.sd i).first with | none => [] | some f => [f + (L.se i).delay]
def nextTicks (L : Ln) (s : FS) : List Int := s.flight.map (·.tick) ++ firstT L s false ++ firstT L s true
def nextTick (L : Ln) (s : FS) : Option Int := (nextTicks L s).min?

abbrev Prg := List (Wd × Int)
def passStep (n : Nat) (t : Int) (c : Co) : Co := { c with place := c.place + 1, ended := if c.place + 1 = n then some t else c.ended }
def fresh (s : FS) (i : Bool) : Int := (s.sd i).come - (s.sd i).taken
def takeIn (i : Bool) (a : Int) (s : FS) : FS := { s with sd := upS s.sd i { (s.sd i) with taken := (s.sd i).taken + a } }
def untilOf (t a : Int) (c : Co) : Int := match c.til with | none => t + a | some u => u
def doStep (L : Ln) (i : Bool) (P : Prg) (s : FS) (c : Co) : Bool × FS × Co :=
  match P[c.place]? with
  | none => (false, s, c)
  | some (.w, a) => (true, put L i a s, passStep P.length s.tick c)
  | some (.r, a) => if fresh s i < a then (false, s, c) else (true, takeIn i a s, passStep P.length s.tick c)
  | some (.p, a) => if s.tick < untilOf s.tick a c then (false, s, { c with til := some (untilOf s.tick a c) }) else (true, s, passStep P.length s.tick { c with til := none })
def goOn (L : Ln) (i : Bool) (P : Prg) : Nat → FS → Co → FS × Co
  | 0, s, c => (s, c)
  | n + 1, s, c => if c.ended = none then (if (doStep L i P s c).1 = true then goOn L i P n (doStep L i P s c).2.1 (doStep L i P s c).2.2 else (doStep L i P s c).2) else (s, c)
structure RS where
  s : FS
  c : Bool → Co
def goSide (L : Ln) (P : Bool → Prg) (i : Bool) (r : RS) : RS :=
  { s := (goOn L i (P i) ((P i).length + 1) r.s (r.c i)).1, c := upS r.c i (goOn L i (P i) ((P i).length + 1) r.s (r.c i)).2 }
def doTick (L : Ln) (P : Bool → Prg) (t : Int) (r : RS) : RS :=
  let r1 := goSide L P true (goSide L P false { r with s := begin L t r.s })
  { r1 with s := leave L r1.s }
def tilT (c : Co) : List Int := match c.til with | none => [] | some u => [u]
def evTicks (L : Ln) (r : RS) : List Int := tilT (r.c false) ++ tilT (r.c true) ++ (match nextTick L r.s with | none => [] | some t => [t])
def events (L : Ln) (r : RS) : Option Int := (evTicks L r).min?
def runN (L : Ln) (P : Bool → Prg) : Nat → Int → RS → RS
  | 0, _, r => r
  | n + 1, t, r => match events L (doTick L P t r) with
    | none => doTick L P t r
    | some t' => runN L P n t' (doTick L P t r)
def sd0 : Sd := ⟨[], 0, 0, 0, 0, 0, 0, none⟩
def fs0 : FS := ⟨0, fun _ => sd0, [], []⟩
def co0 (P : Prg) : Co := ⟨0, none, if P.length = 0 then some 0 else none⟩
def rs0 (P : Bool → Prg) : RS := ⟨fs0, fun i => co0 (P i)⟩

end SH
end
section
namespace SH

def b01 (o : Option Int) : Int := match o with | none => 0 | some _ => 1
theorem b01_le (o : Option Int) : 0 ≤ b01 o ∧ b01 o ≤ 1 := by cases o <;> simp [b01]
theorem b01_some {o : Option Int} (h : o ≠ none) : b01 o = 1 := by cases o with | none => exact absurd rfl h | some _ => rfl
def fw1 (p : Pc) : Int := if 0 < p.amount then 4 else 1
def fw : List Pc → Int
  | [] => 0
  | p :: r => fw1 p + fw r
theorem fw1_ge (p : Pc) : 1 ≤ fw1 p := by unfold fw1; split <;> omega
theorem fw_app : ∀ (a b : List Pc), fw (a ++ b) = fw a + fw b
  | [], b => by simp [fw]
  | p :: a, b => by
    show fw1 p + fw (a ++ b) = fw1 p + fw a + fw b
    rw [fw_app a b]
    omega
theorem fw_len : ∀ (l : List Pc), (l.length : Int) ≤ fw l
  | [] => by simp [fw]
  | p :: r => by
    have h1 := fw_len r
    have h2 := fw1_ge p
    show ((p :: r).length : Int) ≤ fw1 p + fw r
    rw [List.length_cons]
    omega
theorem fw_split (t : Int) : ∀ (l : List Pc), fw l = fw (l.filter fun p => decide (p.tick ≤ t)) + fw (l.filter fun p => decide (t < p.tick))
  | [] => by simp [fw]
  | p :: r => by
    have ih := fw_split t r
    by_cases h : p.tick ≤ t
    · have h2 : ¬ t < p.tick := by omega
      rw [List.filter_cons_of_pos (by simpa using h), List.filter_cons_of_neg (by simpa using h2)]
      show fw1 p + fw r = (fw1 p + fw _) + fw _
      omega
    · have h2 : t < p.tick := by omega
      rw [List.filter_cons_of_neg (by simpa using h), List.filter_cons_of_pos (by simpa using h2)]
      show fw1 p + fw r = fw _ + (fw1 p + fw _)
      omega
def mi (s : FS) (i : Bool) : Int := 6 * kept (s.sd i).stock + 2 * b01 (s.sd i).first
def m (s : FS) : Int := fw s.flight + mi s false + mi s true
theorem m_split (s : FS) (i : Bool) : m s = fw s.flight + mi s i + mi s (!i) := by
  cases i
  · rfl
  · show fw s.flight + mi s false + mi s true = fw s.flight + mi s true + mi s false
    omega

structure LOk (L : Ln) : Prop where
  size : 1 ≤ L.size
  way : 0 ≤ L.way ∧ L.way ≤ 60
  every : ∀ i, 1 ≤ (L.se i).every
  delay : ∀ i, (L.se i).delay ≤ 60
structure GF (T : Int) (s : FS) : Prop where
  pos : ∀ i, PosS (s.sd i).stock
  fl : ∀ i, 0 < (s.sd i).full → (s.sd i).first ≠ none
  tk : s.tick ≤ T
  ft : ∀ p ∈ s.flight, p.tick ≤ T + 60
  fi : ∀ i f, (s.sd i).first = some f → f ≤ T
theorem mi_nonneg {T : Int} {s : FS} (g : GF T s) (i : Bool) : 0 ≤ mi s i := by
  have h1 := kept_nonneg (g.pos i)
  have h2 := b01_le (s.sd i).first
  unfold mi
  omega
theorem kept_m {T : Int} {s : FS} (g : GF T s) (i : Bool) : 6 * kept (s.sd i).stock ≤ m s := by
  have h1 := mi_nonneg g (!i)
  have h2 := fw_len s.flight
  have h3 := b01_le (s.sd i).first
  rw [m_split s i]
  have h4 : mi s i = 6 * kept (s.sd i).stock + 2 * b01 (s.sd i).first := rfl
  omega
theorem stock_m {T : Int} {s : FS} (g : GF T s) (i : Bool) : ((s.sd i).stock.length : Int) ≤ m s := by
  have h1 := kept_len (g.pos i)
  have h2 := kept_m g i
  have h3 := kept_nonneg (g.pos i)
  omega
theorem flight_m {T : Int} {s : FS} (g : GF T s) : (s.flight.length : Int) ≤ m s := by
  have h1 := mi_nonneg g false
  have h2 := mi_nonneg g true
  have h3 := fw_len s.flight
  show _ ≤ fw s.flight + mi s false + mi s true
  omega
theorem m_nonneg {T : Int} {s : FS} (g : GF T s) : 0 ≤ m s := by
  have := flight_m g
  omega
theorem GF.mono {T T' : Int} {s : FS} (g : GF T s) (h : T ≤ T') : GF T' s :=
  ⟨g.pos, g.fl, by have := g.tk; omega, fun p hp => by have := g.ft p hp; omega, fun i f e => by have := g.fi i f e; omega⟩

/-- all that a step of the line does to the count of things: it never grows; where it stays, the first pieces' ticks stay -/
structure Le (s s' : FS) : Prop where
  tick : s'.tick = s.tick
  ms : m s' ≤ m s
  lg : m s' + (s'.log.length : Int) ≤ m s + (s.log.length : Int)
  eq : m s' < m s ∨ ∀ i, (s'.sd i).first = (s.sd i).first
theorem Le.refl (s : FS) : Le s s := ⟨rfl, Int.le_refl _, Int.le_refl _, .inr fun _ => rfl⟩
theorem Le.trans {a b c : FS} (h : Le a b) (k : Le b c) : Le a c := by
  refine ⟨k.tick.trans h.tick, Int.le_trans k.ms h.ms, Int.le_trans k.lg h.lg, ?_⟩
  have h1 := h.ms
  have h2 := k.ms
  rcases h.eq with x | x
  · left; omega
  · rcases k.eq with y | y
    · left; omega
    · right
      intro i
      rw [y i, x i]

section
variable {L : Ln} {T : Int} {s : FS} {i : Bool} {a : Int}
theorem send_m (g : GF T s) (h0 : 0 ≤ a) (h1 : a ≤ kept (s.sd i).stock) : m (send L i a s) = m s - 6 * a - 2 * b01 (s.sd i).first + (if 0 < a then 4 else 1) := by
  rw [m_split (send L i a s) i, m_split s i]
  have e1 : mi (send L i a s) i = 6 * (kept (s.sd i).stock - a) := by
    show 6 * kept ((upS s.sd i _) i).stock + 2 * b01 ((upS s.sd i _) i).first = _
    rw [upS_same]
    show 6 * kept (takeStock (s.sd i).stock a) + 2 * b01 none = _
    rw [take_kept (g.pos i) h0 h1]
    simp [b01]
  have e2 : mi (send L i a s) (!i) = mi s (!i) := by
    show 6 * kept ((upS s.sd i _) (!i)).stock + 2 * b01 ((upS s.sd i _) (!i)).first = _
    rw [upS_not]
    rfl
  have e3 : fw (send L i a s).flight = fw s.flight + (if 0 < a then 4 else 1) := by
    show fw (s.flight ++ [_]) = _
    rw [fw_app]
    show _ + (fw1 _ + 0) = _
    unfold fw1
    simp
  rw [e1, e2, e3]
  have e4 : mi s i = 6 * kept (s.sd i).stock + 2 * b01 (s.sd i).first := rfl
  omega
theorem send_good (k : LOk L) (g : GF T s) (h0 : 0 ≤ a) (h1 : a ≤ kept (s.sd i).stock) : GF T (send L i a s) := by
  have kw := k.way
  have gt := g.tk
  refine ⟨fun j => ?_, fun j => ?_, g.tk, fun p hp => ?_, fun j f => ?_⟩
  · by_cases e : j = i
    · subst e
      show PosS ((upS s.sd j _) j).stock
      rw [upS_same]
      exact take_pos (g.pos j)
    · show PosS ((upS s.sd i _) j).stock
      rw [upS_ne _ _ e]
      exact g.pos j
  · by_cases e : j = i
    · subst e
      show 0 < ((upS s.sd j _) j).full → ((upS s.sd j _) j).first ≠ none
      rw [upS_same]
      intro h
      exact absurd h (by show ¬ (0 : Int) < 0; omega)
    · show 0 < ((upS s.sd i _) j).full → ((upS s.sd i _) j).first ≠ none
      rw [upS_ne _ _ e]
      exact g.fl j
  · rcases List.mem_append.mp hp with h | h
    · exact g.ft p h
    · have e : p = _ := List.mem_singleton.mp h
      subst e
      show s.tick + L.way ≤ T + 60
      omega
  · by_cases e : j = i
    · subst e
      show ((upS s.sd j _) j).first = some f → _
      rw [upS_same]
      intro h
      cases h
    · show ((upS s.sd i _) j).first = some f → _
      rw [upS_ne _ _ e]
      exact g.fi j f
theorem send_le (g : GF T s) (h0 : 0 ≤ a) (h1 : a ≤ kept (s.sd i).stock) (h2 : 0 < a ∨ (s.sd i).first ≠ none) : Le s (send L i a s) ∧ m (send L i a s) < m s := by
  have e := send_m (L := L) g h0 h1
  have hb := b01_le (s.sd i).first
  have hlt : m (send L i a s) < m s := by
    rcases h2 with h | h
    · rw [if_pos h] at e
      omega
    · have hb1 := b01_some h
      split at e <;> omega
  refine ⟨⟨rfl, by omega, ?_, .inl hlt⟩, hlt⟩
  show m (send L i a s) + ((s.log ++ [_]).length : Int) ≤ _
  rw [List.length_append, List.length_singleton]
  omega
theorem send_kept (g : GF T s) (h0 : 0 ≤ a) (h1 : a ≤ kept (s.sd i).stock) : kept ((send L i a s).sd i).stock = kept (s.sd i).stock - a := by
  show kept ((upS s.sd i _) i).stock = _
  rw [upS_same]
  exact take_kept (g.pos i) h0 h1
/-- what a step that may send keeps -/
structure Gd (T : Int) (s s' : FS) : Prop where
  good : GF T s'
  le : Le s s'
theorem Gd.refl (g : GF T s) : Gd T s s := ⟨g, Le.refl s⟩
theorem Gd.trans {s' s'' : FS} (h : Gd T s s') (k : Gd T s' s'') : Gd T s s'' := ⟨k.good, h.le.trans k.le⟩
theorem loop_good (k : LOk L) : ∀ {n : Nat} {s : FS}, GF T s → Gd T s (loopGo L i n s)
  | 0, s, g => Gd.refl g
  | n + 1, s, g => by
    unfold loopGo
    have ks := k.size
    split
    · rename_i h
      have x : Gd T s (send L i L.size s) := ⟨send_good k g (by omega) h, (send_le g (by omega) h (.inl (by omega))).1⟩
      exact x.trans (loop_good k x.good)
    · exact Gd.refl g
theorem last_good (k : LOk L) (g : GF T s) : Gd T s (lastGo L i s) := by
  unfold lastGo
  split
  · rename_i h
    exact ⟨send_good k g (by omega) (Int.le_refl _), (send_le g (by omega) (Int.le_refl _) (.inl h.1)).1⟩
  · exact Gd.refl g
theorem letGo_good (k : LOk L) (g : GF T s) : Gd T s (letGo L i s) := by
  have x := loop_good (i := i) (n := (kept (s.sd i).stock).toNat) k g
  exact x.trans (last_good k x.good)
/-- enough fuel: the loop's test fails behind it -/
theorem loop_done (k : LOk L) : ∀ {n : Nat} {s : FS}, GF T s → kept (s.sd i).stock ≤ (n : Int) → ¬ L.size ≤ kept ((loopGo L i n s).sd i).stock
  | 0, s, g, h => by
    have ks := k.size
    show ¬ L.size ≤ kept (s.sd i).stock
    omega
  | n + 1, s, g, h => by
    have ks := k.size
    unfold loopGo
    split
    · rename_i h1
      refine loop_done k (send_good k g (by omega) h1) ?_
      rw [send_kept g (by omega) h1]
      omega
    · assumption
theorem put_m (s : FS) (i : Bool) (a : Int) : m (putS i a s) = m s + 6 * a := by
  rw [m_split (putS i a s) i, m_split s i]
  have e1 : mi (putS i a s) i = mi s i + 6 * a := by
    show 6 * kept ((upS s.sd i _) i).stock + 2 * b01 ((upS s.sd i _) i).first = _
    rw [upS_same]
    show 6 * kept ((s.sd i).stock ++ [_]) + 2 * b01 (s.sd i).first = _
    rw [kept_snoc]
    show _ = 6 * kept (s.sd i).stock + 2 * b01 (s.sd i).first + 6 * a
    dsimp only
    omega
  have e2 : mi (putS i a s) (!i) = mi s (!i) := by
    show 6 * kept ((upS s.sd i _) (!i)).stock + 2 * b01 ((upS s.sd i _) (!i)).first = _
    rw [upS_not]
    rfl
  rw [e1, e2]
  show fw s.flight + _ + _ = _
  omega
theorem putS_good (g : GF T s) (h : 0 < a) : GF T (putS i a s) := by
  refine ⟨fun j => ?_, fun j => ?_, g.tk, g.ft, fun j f => ?_⟩
  · by_cases e : j = i
    · subst e
      show PosS ((upS s.sd j _) j).stock
      rw [upS_same]
      intro e he
      rcases List.mem_append.mp he with q | q
      · exact g.pos j e q
      · have e2 : e = _ := List.mem_singleton.mp q
        rw [e2]
        exact h
    · show PosS ((upS s.sd i _) j).stock
      rw [upS_ne _ _ e]
      exact g.pos j
  · by_cases e : j = i
    · subst e
      show 0 < ((upS s.sd j _) j).full → ((upS s.sd j _) j).first ≠ none
      rw [upS_same]
      exact g.fl j
    · show 0 < ((upS s.sd i _) j).full → ((upS s.sd i _) j).first ≠ none
      rw [upS_ne _ _ e]
      exact g.fl j
  · by_cases e : j = i
    · subst e
      show ((upS s.sd j _) j).first = some f → _
      rw [upS_same]
      exact g.fi j f
    · show ((upS s.sd i _) j).first = some f → _
      rw [upS_ne _ _ e]
      exact g.fi j f
theorem land_m (s : FS) (p : Pc) : m (land L p s) + fw1 p ≤ m s + fw1 p + fw1 p - 1 ∧ (p.amount ≤ 0 → m (land L p s) = m s) := by
  rw [m_split (land L p s) (!p.side), m_split s (!p.side)]
  have e2 : mi (land L p s) (!!p.side) = mi s (!!p.side) := by
    show 6 * kept ((upS s.sd (!p.side) _) (!!p.side)).stock + 2 * b01 ((upS s.sd (!p.side) _) (!!p.side)).first = _
    rw [upS_not]
    rfl
  have ef : fw (land L p s).flight = fw s.flight := rfl
  rw [e2, ef]
  have e1 : mi (land L p s) (!p.side) = 6 * kept (s.sd (!p.side)).stock + 2 * b01 (landD L p s.tick (s.sd (!p.side))).first := by
    show 6 * kept ((upS s.sd (!p.side) _) (!p.side)).stock + 2 * b01 ((upS s.sd (!p.side) _) (!p.side)).first = _
    rw [upS_same]
    congr 1
    unfold landD
    split <;> rfl
  rw [e1]
  have e3 : mi s (!p.side) = 6 * kept (s.sd (!p.side)).stock + 2 * b01 (s.sd (!p.side)).first := rfl
  rw [e3]
  have hb := b01_le (landD L p s.tick (s.sd (!p.side))).first
  have hb2 := b01_le (s.sd (!p.side)).first
  constructor
  · unfold fw1
    by_cases h : 0 < p.amount
    · rw [if_pos h]
      omega
    · rw [if_neg h]
      have e4 : (landD L p s.tick (s.sd (!p.side))).first = (s.sd (!p.side)).first := by
        unfold landD
        rw [if_neg h]
      rw [e4]
      omega
  · intro h
    have e4 : (landD L p s.tick (s.sd (!p.side))).first = (s.sd (!p.side)).first := by
      unfold landD
      rw [if_neg (by omega)]
    rw [e4]
theorem land_good (g : GF T s) (p : Pc) : GF T (land L p s) := by
  have gt := g.tk
  refine ⟨fun j => ?_, fun j => ?_, g.tk, g.ft, fun j f => ?_⟩
  · by_cases e : j = (!p.side)
    · subst e
      show PosS ((upS s.sd (!p.side) _) (!p.side)).stock
      rw [upS_same]
      have e4 : (landD L p s.tick (s.sd (!p.side))).stock = (s.sd (!p.side)).stock := by
        unfold landD
        split <;> rfl
      rw [e4]
      exact g.pos _
    · show PosS ((upS s.sd (!p.side) _) j).stock
      rw [upS_ne _ _ e]
      exact g.pos j
  · by_cases e : j = (!p.side)
    · subst e
      show 0 < ((upS s.sd (!p.side) _) (!p.side)).full → ((upS s.sd (!p.side) _) (!p.side)).first ≠ none
      rw [upS_same]
      unfold landD
      split
      · intro _
        dsimp only
        split <;> simp
      · exact g.fl _
    · show 0 < ((upS s.sd (!p.side) _) j).full → ((upS s.sd (!p.side) _) j).first ≠ none
      rw [upS_ne _ _ e]
      exact g.fl j
  · by_cases e : j = (!p.side)
    · subst e
      show ((upS s.sd (!p.side) _) (!p.side)).first = some f → _
      rw [upS_same]
      unfold landD
      split
      · dsimp only
        split
        · intro h
          cases h
          exact gt
        · rename_i x hx
          intro h
          cases h
          exact g.fi _ _ hx
      · exact g.fi _ f
    · show ((upS s.sd (!p.side) _) j).first = some f → _
      rw [upS_ne _ _ e]
      exact g.fi j f
theorem landAll_good : ∀ {l : List Pc} {s : FS}, GF T s → GF T (landAll L l s) ∧ m (landAll L l s) + (l.length : Int) ≤ m s + fw l ∧ (landAll L l s).tick = s.tick ∧ (landAll L l s).log = s.log
  | [], s, g => ⟨g, by show m s + 0 ≤ m s + 0; omega, rfl, rfl⟩
  | p :: r, s, g => by
    obtain ⟨h1, h2, h3, h4⟩ := landAll_good (l := r) (land_good (L := L) g p)
    have hp := land_m (L := L) s p
    refine ⟨h1, ?_, h3, h4⟩
    show m (landAll L r (land L p s)) + ((p :: r).length : Int) ≤ m s + (fw1 p + fw r)
    rw [List.length_cons]
    omega
theorem begin_good (k : LOk L) (g : GF T s) {t : Int} (ht : t ≤ T) :
    GF T (begin L t s) ∧ (begin L t s).tick = t ∧ m (begin L t s) + ((begin L t s).log.length : Int) ≤ m s + (s.log.length : Int) ∧ m (begin L t s) ≤ m s ∧
    (m (begin L t s) < m s ∨ ((∀ i, ((begin L t s).sd i).first = (s.sd i).first) ∧ ∀ p ∈ s.flight, t < p.tick)) := by
  have g1 : GF T (beginT t s) := ⟨g.pos, g.fl, ht, fun p hp => g.ft p (List.mem_filter.mp hp).1, g.fi⟩
  obtain ⟨h1, h2, h3, h4⟩ := landAll_good (L := L) (l := s.flight.filter fun p => decide (p.tick ≤ t)) g1
  have hm : m (beginT t s) + fw (s.flight.filter fun p => decide (p.tick ≤ t)) = m s := by
    have := fw_split t s.flight
    show fw (s.flight.filter fun p => decide (t < p.tick)) + mi s false + mi s true + _ = fw s.flight + mi s false + mi s true
    omega
  have x1 := letGo_good (i := false) k h1
  have x := x1.trans (letGo_good (i := true) k x1.good)
  have xm := x.le.ms
  have xl := x.le.lg
  rw [h4] at xl
  have el : (beginT t s).log = s.log := rfl
  rw [el] at xl
  have hl : (0 : Int) ≤ ((s.flight.filter fun p => decide (p.tick ≤ t)).length : Int) := by omega
  refine ⟨x.good, x.le.tick.trans h3, ?_, ?_, ?_⟩
  · show m (letGo L true (letGo L false _)) + ((letGo L true (letGo L false _)).log.length : Int) ≤ _
    omega
  · show m (letGo L true (letGo L false _)) ≤ _
    omega
  · by_cases e : (s.flight.filter fun p => decide (p.tick ≤ t)) = []
    · rcases x.le.eq with y | y
      · left
        show m (letGo L true (letGo L false _)) < _
        omega
      · right
        constructor
        · intro i
          have := y i
          rw [e] at this
          show ((letGo L true (letGo L false (landAll L (s.flight.filter fun p => decide (p.tick ≤ t)) (beginT t s)))).sd i).first = _
          rw [e]
          exact this
        · intro p hp
          have := List.filter_eq_nil_iff.mp e p hp
          simp at this
          omega
    · left
      have : 0 < (s.flight.filter fun p => decide (p.tick ≤ t)).length := List.length_pos_iff.mpr e
      show m (letGo L true (letGo L false _)) < _
      omega
theorem due_first (k : LOk L) (g : GF T s) (h : isDue L i s = true) : (s.sd i).first ≠ none := by
  unfold isDue at h
  have ke := k.every i
  split at h
  · exact g.fl i (by omega)
  · intro e
    rw [e] at h
    cases h
theorem leave1_good (k : LOk L) (g : GF T s) : Gd T s (leave1 L i s) ∧ (isDue L i s = true → m (leave1 L i s) < m s) := by
  unfold leave1
  have hk := kept_nonneg (g.pos i)
  split
  · rename_i h
    have x := send_le (L := L) (i := i) (a := 0) g (Int.le_refl _) hk (.inr (due_first k g h))
    exact ⟨⟨send_good k g (Int.le_refl _) hk, x.1⟩, fun _ => x.2⟩
  · rename_i h
    exact ⟨Gd.refl g, fun q => absurd q h⟩
theorem leave_good (k : LOk L) (g : GF T s) : Gd T s (leave L s) ∧ ((∃ j f, (s.sd j).first = some f ∧ f + (L.se j).delay ≤ s.tick) → m (leave L s) < m s) := by
  have x := leave1_good (i := false) k g
  have y := leave1_good (i := true) k x.1.good
  have hxm := x.1.le.ms
  have hym := y.1.le.ms
  refine ⟨x.1.trans y.1, ?_⟩
  rintro ⟨j, f, h1, h2⟩
  show m (leave1 L true (leave1 L false s)) < m s
  have hd : ∀ s' : FS, (s'.sd j).first = some f → f + (L.se j).delay ≤ s'.tick → isDue L j s' = true := by
    intro s' e1 e2
    unfold isDue
    split
    · rfl
    · rw [e1]
      exact decide_eq_true e2
  cases j with
  | false =>
    have := x.2 (hd s h1 h2)
    omega
  | true =>
    rcases x.1.le.eq with q | q
    · omega
    · have := y.2 (hd _ ((q true).trans h1) (by rw [x.1.le.tick]; exact h2))
      omega
end
end SH
end
section
namespace SH

def remW : Prg → Int
  | [] => 0
  | (.w, a) :: r => a + remW r
  | _ :: r => remW r
structure POk (P : Prg) : Prop where
  w : ∀ a, (Wd.w, a) ∈ P → 0 < a
  p : ∀ a, (Wd.p, a) ∈ P → a ≤ 60
theorem remW_nonneg : ∀ {P : Prg}, POk P → 0 ≤ remW P
  | [], _ => Int.le_refl _
  | (.w, a) :: r, h => by
    have h1 := remW_nonneg (P := r) ⟨fun b hb => h.w b (List.mem_cons_of_mem _ hb), fun b hb => h.p b (List.mem_cons_of_mem _ hb)⟩
    have h2 := h.w a List.mem_cons_self
    show 0 ≤ a + remW r
    omega
  | (.r, a) :: r, h => remW_nonneg (P := r) ⟨fun b hb => h.w b (List.mem_cons_of_mem _ hb), fun b hb => h.p b (List.mem_cons_of_mem _ hb)⟩
  | (.p, a) :: r, h => remW_nonneg (P := r) ⟨fun b hb => h.w b (List.mem_cons_of_mem _ hb), fun b hb => h.p b (List.mem_cons_of_mem _ hb)⟩
theorem POk.drop {P : Prg} (h : POk P) (n : Nat) : POk (P.drop n) := ⟨fun a ha => h.w a (List.mem_of_mem_drop ha), fun a ha => h.p a (List.mem_of_mem_drop ha)⟩
def cw (P : Prg) (c : Co) : Int := 6 * remW (P.drop c.place) + ((P.length : Int) - (c.place : Int))
structure GC (P : Prg) (T : Int) (c : Co) : Prop where
  pl : c.place ≤ P.length
  en : c.ended = none ↔ c.place < P.length
  ti : ∀ u, c.til = some u → (∃ a, P[c.place]? = some (Wd.p, a)) ∧ u ≤ T + 60
  et : ∀ e, c.ended = some e → e ≤ T
theorem GC.mono {P : Prg} {T T' : Int} {c : Co} (g : GC P T c) (h : T ≤ T') : GC P T' c :=
  ⟨g.pl, g.en, fun u e => ⟨(g.ti u e).1, by have := (g.ti u e).2; omega⟩, fun e q => by have := g.et e q; omega⟩
theorem cw_nonneg {P : Prg} {T : Int} {c : Co} (k : POk P) (g : GC P T c) : 0 ≤ cw P c := by
  have h1 := remW_nonneg (k.drop c.place)
  have h2 := g.pl
  unfold cw
  omega
theorem drop_at {P : Prg} {n : Nat} {x : Wd × Int} (h : P[n]? = some x) : P.drop n = x :: P.drop (n + 1) := by
  obtain ⟨h1, h2⟩ := List.getElem?_eq_some_iff.mp h
  rw [List.drop_eq_getElem_cons h1, h2]

section
variable {L : Ln} {T : Int} {i : Bool} {P : Prg} {s : FS} {c : Co}
theorem pass_good (g : GC P T c) (h : c.place < P.length) {t : Int} (ht : t ≤ T) (hn : c.til = none) : GC P T (passStep P.length t c) := by
  have he := g.en.mpr h
  refine ⟨by show c.place + 1 ≤ P.length; omega, ?_, fun u e => ?_, fun e q => ?_⟩
  · show (if c.place + 1 = P.length then some t else c.ended) = none ↔ c.place + 1 < P.length
    split
    · constructor
      · intro x; cases x
      · intro x; omega
    · rw [he]
      constructor
      · intro _; omega
      · intro _; rfl
  · have e' : c.til = some u := e
    rw [hn] at e'
    cases e'
  · have q' : (if c.place + 1 = P.length then some t else c.ended) = some e := q
    split at q'
    · cases q'
      exact ht
    · rw [he] at q'
      cases q'
theorem pass_cw {t : Int} {x : Wd × Int} (h : P[c.place]? = some x) : cw P (passStep P.length t c) = cw P c - 1 - (match x with | (.w, a) => 6 * a | _ => 0) := by
  unfold cw
  rw [drop_at h]
  show 6 * remW (P.drop (c.place + 1)) + ((P.length : Int) - ((c.place + 1 : Nat) : Int)) = _
  obtain ⟨w, a⟩ := x
  cases w
  · show _ = 6 * (a + remW (P.drop (c.place + 1))) + _ - 1 - 6 * a
    omega
  · show _ = 6 * (remW (P.drop (c.place + 1))) + _ - 1 - 0
    omega
  · show _ = 6 * (remW (P.drop (c.place + 1))) + _ - 1 - 0
    omega
theorem takeIn_good (g : GF T s) (a : Int) : GF T (takeIn i a s) := by
  refine ⟨fun j => ?_, fun j => ?_, g.tk, g.ft, fun j f => ?_⟩
  · by_cases e : j = i
    · subst e
      show PosS ((upS s.sd j _) j).stock
      rw [upS_same]
      exact g.pos j
    · show PosS ((upS s.sd i _) j).stock
      rw [upS_ne _ _ e]
      exact g.pos j
  · by_cases e : j = i
    · subst e
      show 0 < ((upS s.sd j _) j).full → ((upS s.sd j _) j).first ≠ none
      rw [upS_same]
      exact g.fl j
    · show 0 < ((upS s.sd i _) j).full → ((upS s.sd i _) j).first ≠ none
      rw [upS_ne _ _ e]
      exact g.fl j
  · by_cases e : j = i
    · subst e
      show ((upS s.sd j _) j).first = some f → _
      rw [upS_same]
      exact g.fi j f
    · show ((upS s.sd i _) j).first = some f → _
      rw [upS_ne _ _ e]
      exact g.fi j f
theorem takeIn_m (s : FS) (i : Bool) (a : Int) : m (takeIn i a s) = m s := by
  rw [m_split (takeIn i a s) i, m_split s i]
  have e1 : mi (takeIn i a s) i = mi s i := by
    show 6 * kept ((upS s.sd i _) i).stock + 2 * b01 ((upS s.sd i _) i).first = _
    rw [upS_same]
    rfl
  have e2 : mi (takeIn i a s) (!i) = mi s (!i) := by
    show 6 * kept ((upS s.sd i _) (!i)).stock + 2 * b01 ((upS s.sd i _) (!i)).first = _
    rw [upS_not]
    rfl
  rw [e1, e2]
  rfl
/-- what a step of a program does -/
structure St (P : Prg) (T : Int) (s : FS) (c : Co) (s' : FS) (c' : Co) : Prop where
  good : GF T s'
  goodC : GC P T c'
  tick : s'.tick = s.tick
  le : m s' + cw P c' ≤ m s + cw P c
  lg : m s' + cw P c' + (s'.log.length : Int) ≤ m s + cw P c + (s.log.length : Int)
  cl : cw P c' ≤ cw P c
theorem St.refl (g : GF T s) (gc : GC P T c) : St P T s c s c := ⟨g, gc, rfl, Int.le_refl _, Int.le_refl _, Int.le_refl _⟩
theorem St.trans {s' s'' : FS} {c' c'' : Co} (h : St P T s c s' c') (k : St P T s' c' s'' c'') : St P T s c s'' c'' :=
  ⟨k.good, k.goodC, k.tick.trans h.tick, Int.le_trans k.le h.le, Int.le_trans k.lg h.lg, Int.le_trans k.cl h.cl⟩
theorem step_good (kl : LOk L) (kp : POk P) (g : GF T s) (gc : GC P T c) (hp : c.place < P.length) :
    St P T s c (doStep L i P s c).2.1 (doStep L i P s c).2.2 ∧
    ((doStep L i P s c).1 = true → m (doStep L i P s c).2.1 + cw P (doStep L i P s c).2.2 < m s + cw P c ∧ (doStep L i P s c).2.2.place = c.place + 1) ∧
    ((doStep L i P s c).1 = false → (doStep L i P s c).2.1 = s ∧ (∀ u, c.til = some u → s.tick < u)) := by
  obtain ⟨x, hx⟩ : ∃ x, P[c.place]? = some x := ⟨_, List.getElem?_eq_getElem hp⟩
  have hmem : x ∈ P := List.mem_of_getElem? hx
  have gt := g.tk
  have notp : ∀ u, c.til = some u → x.1 = Wd.p := fun u e => by
    obtain ⟨⟨a, q⟩, _⟩ := gc.ti u e
    rw [hx] at q
    cases q
    rfl
  obtain ⟨wd, a⟩ := x
  cases wd with
  | w =>
    have hn : c.til = none := by
      cases e : c.til with
      | none => rfl
      | some u => cases notp u e
    have e : doStep L i P s c = (true, put L i a s, passStep P.length s.tick c) := by unfold doStep; rw [hx]
    rw [e]
    have ha := kp.w a hmem
    have y := letGo_good (i := i) kl (putS_good (i := i) g ha)
    have hm := put_m s i a
    have hc := pass_cw (t := s.tick) hx
    dsimp only at hc
    have ym := y.le.ms
    have yl := y.le.lg
    have el : (putS i a s).log = s.log := rfl
    rw [el] at yl
    refine ⟨⟨y.good, pass_good gc hp gt hn, y.le.tick, ?_, ?_, ?_⟩, fun _ => ⟨?_, rfl⟩, fun q => (by cases q)⟩
    · show m (letGo L i (putS i a s)) + _ ≤ _
      rw [hc]; omega
    · show m (letGo L i (putS i a s)) + _ + ((letGo L i (putS i a s)).log.length : Int) ≤ _
      rw [hc]; omega
    · show cw P (passStep P.length s.tick c) ≤ _
      rw [hc]; omega
    · show m (letGo L i (putS i a s)) + _ < _
      rw [hc]; omega
  | r =>
    have hn : c.til = none := by
      cases e : c.til with
      | none => rfl
      | some u => cases notp u e
    have e : doStep L i P s c = if fresh s i < a then (false, s, c) else (true, takeIn i a s, passStep P.length s.tick c) := by unfold doStep; rw [hx]
    rw [e]
    have hc := pass_cw (t := s.tick) hx
    dsimp only at hc
    have hm := takeIn_m s i a
    split
    · exact ⟨St.refl g gc, fun q => (by cases q), fun _ => ⟨rfl, fun u q => by rw [hn] at q; cases q⟩⟩
    · refine ⟨⟨takeIn_good g a, pass_good gc hp gt hn, rfl, ?_, ?_, ?_⟩, fun _ => ⟨?_, rfl⟩, fun q => (by cases q)⟩
      · show m (takeIn i a s) + cw P (passStep P.length s.tick c) ≤ _
        rw [hc]; omega
      · show m (takeIn i a s) + cw P (passStep P.length s.tick c) + (s.log.length : Int) ≤ _
        rw [hc]; omega
      · show cw P (passStep P.length s.tick c) ≤ _
        rw [hc]; omega
      · show m (takeIn i a s) + cw P (passStep P.length s.tick c) < _
        rw [hc]; omega
  | p =>
    have ha := kp.p a hmem
    have e : doStep L i P s c = if s.tick < untilOf s.tick a c then (false, s, { c with til := some (untilOf s.tick a c) }) else (true, s, passStep P.length s.tick { c with til := none }) := by unfold doStep; rw [hx]
    rw [e]
    have hc := pass_cw (P := P) (c := { c with til := none }) (t := s.tick) hx
    dsimp only at hc
    have hcc : cw P { c with til := none } = cw P c := rfl
    split
    · rename_i hlt
      refine ⟨⟨g, ⟨gc.pl, gc.en, fun u q => ?_, gc.et⟩, rfl, Int.le_refl _, Int.le_refl _, Int.le_refl _⟩, fun q => (by cases q), fun _ => ⟨rfl, fun u q => ?_⟩⟩
      · have q' : some (untilOf s.tick a c) = some u := q
        cases q'
        refine ⟨⟨a, hx⟩, ?_⟩
        unfold untilOf
        cases h : c.til with
        | none =>
          dsimp only
          omega
        | some u =>
          dsimp only
          exact (gc.ti u h).2
      · unfold untilOf at hlt
        rw [q] at hlt
        exact hlt
    · have g2 : GC P T { c with til := none } := ⟨gc.pl, gc.en, (fun u q => by cases q), gc.et⟩
      refine ⟨⟨g, pass_good g2 hp gt rfl, rfl, ?_, ?_, ?_⟩, fun _ => ⟨?_, rfl⟩, fun q => (by cases q)⟩
      · show m s + cw P (passStep P.length s.tick { c with til := none }) ≤ _
        rw [hc, hcc]; omega
      · show m s + cw P (passStep P.length s.tick { c with til := none }) + (s.log.length : Int) ≤ m s + cw P c + (s.log.length : Int)
        rw [hc, hcc]; omega
      · show cw P (passStep P.length s.tick { c with til := none }) ≤ _
        rw [hc, hcc]; omega
      · show m s + cw P (passStep P.length s.tick { c with til := none }) < _
        rw [hc, hcc]; omega
theorem goOn_good (kl : LOk L) (kp : POk P) : ∀ {n : Nat} {s : FS} {c : Co}, GF T s → GC P T c →
    St P T s c (goOn L i P n s c).1 (goOn L i P n s c).2 ∧
    (m (goOn L i P n s c).1 + cw P (goOn L i P n s c).2 < m s + cw P c ∨ ((goOn L i P n s c).1 = s ∧ (0 < n → ∀ u, c.til = some u → s.tick < u)))
  | 0, s, c, g, gc => ⟨St.refl g gc, .inr ⟨rfl, fun h => absurd h (Nat.lt_irrefl _)⟩⟩
  | n + 1, s, c, g, gc => by
    unfold goOn
    split
    · rename_i he
      have hp := gc.en.mp he
      obtain ⟨h1, h2, h3⟩ := step_good (i := i) kl kp g gc hp
      split
      · rename_i hb
        obtain ⟨k1, k2⟩ := goOn_good kl kp (n := n) h1.good h1.goodC
        refine ⟨h1.trans k1, .inl ?_⟩
        have := (h2 hb).1
        have := k1.le
        omega
      · rename_i hb
        have hb' : (doStep L i P s c).1 = false := by
          cases q : (doStep L i P s c).1 with
          | true => exact absurd q hb
          | false => rfl
        exact ⟨h1, .inr ⟨(h3 hb').1, fun _ => (h3 hb').2⟩⟩
    · rename_i he
      refine ⟨St.refl g gc, .inr ⟨rfl, fun _ u q => ?_⟩⟩
      obtain ⟨⟨a, q1⟩, _⟩ := gc.ti u q
      exact absurd (gc.en.mpr (List.getElem?_eq_some_iff.mp q1).1) he
/-- enough fuel: the loop has ended behind it -/
theorem goOn_done (kl : LOk L) (kp : POk P) : ∀ {n k : Nat} {s : FS} {c : Co}, GF T s → GC P T c → P.length + 1 ≤ n + c.place → goOn L i P (n + k) s c = goOn L i P n s c
  | 0, k, s, c, g, gc, h => by
    have := gc.pl
    omega
  | n + 1, k, s, c, g, gc, h => by
    rw [show n + 1 + k = (n + k) + 1 by omega]
    unfold goOn
    split
    · rename_i he
      have hp := gc.en.mp he
      obtain ⟨h1, h2, h3⟩ := step_good (i := i) kl kp g gc hp
      split
      · rename_i hb
        exact goOn_done kl kp h1.good h1.goodC (by rw [(h2 hb).2]; omega)
      · rfl
    · rfl
end

section
variable {L : Ln} {T : Int} {P : Bool → Prg} {r : RS}
structure GR (P : Bool → Prg) (T : Int) (r : RS) : Prop where
  s : GF T r.s
  c : ∀ i, GC (P i) T (r.c i)
theorem GR.mono {T' : Int} (g : GR P T r) (h : T ≤ T') : GR P T' r := ⟨g.s.mono h, fun i => (g.c i).mono h⟩
def RM (P : Bool → Prg) (r : RS) : Int := m r.s + cw (P false) (r.c false) + cw (P true) (r.c true)
theorem RM_split (P : Bool → Prg) (r : RS) (i : Bool) : RM P r = m r.s + cw (P i) (r.c i) + cw (P (!i)) (r.c (!i)) := by
  cases i
  · rfl
  · show m r.s + cw (P false) (r.c false) + cw (P true) (r.c true) = m r.s + cw (P true) (r.c true) + cw (P false) (r.c false)
    omega
theorem RM_s (P : Bool → Prg) (r : RS) (x : FS) : RM P ⟨x, r.c⟩ = RM P r - m r.s + m x := by
  unfold RM
  dsimp only
  omega
theorem RM_s2 (P : Bool → Prg) {r x : RS} (h : x.c = r.c) : RM P x = RM P r - m r.s + m x.s := by
  unfold RM
  rw [h]
  omega
theorem RM_ge (k : ∀ i, POk (P i)) (g : GR P T r) : m r.s ≤ RM P r := by
  have h1 := cw_nonneg (k false) (g.c false)
  have h2 := cw_nonneg (k true) (g.c true)
  unfold RM
  omega
theorem RM_cw (k : ∀ i, POk (P i)) (g : GR P T r) (i : Bool) : m r.s + cw (P i) (r.c i) ≤ RM P r := by
  have h1 := cw_nonneg (k (!i)) (g.c (!i))
  rw [RM_split P r i]
  omega
theorem side_good (kl : LOk L) (kp : ∀ i, POk (P i)) (i : Bool) (g : GR P T r) :
    GR P T (goSide L P i r) ∧ (goSide L P i r).s.tick = r.s.tick ∧ RM P (goSide L P i r) ≤ RM P r ∧ RM P (goSide L P i r) + ((goSide L P i r).s.log.length : Int) ≤ RM P r + (r.s.log.length : Int) ∧
    (goSide L P i r).c (!i) = r.c (!i) ∧
    (RM P (goSide L P i r) < RM P r ∨ ((goSide L P i r).s = r.s ∧ ∀ u, (r.c i).til = some u → r.s.tick < u)) := by
  obtain ⟨h1, h2⟩ := goOn_good (i := i) (n := (P i).length + 1) kl (kp i) g.s (g.c i)
  have e1 : (goSide L P i r).c i = (goOn L i (P i) ((P i).length + 1) r.s (r.c i)).2 := upS_same _ _ _
  have e2 : (goSide L P i r).c (!i) = r.c (!i) := upS_not _ _ _
  have e3 : (goSide L P i r).s = (goOn L i (P i) ((P i).length + 1) r.s (r.c i)).1 := rfl
  have hle := h1.le
  have hlg := h1.lg
  refine ⟨⟨h1.good, fun j => ?_⟩, h1.tick, ?_, ?_, e2, ?_⟩
  · by_cases e : j = i
    · subst e
      rw [e1]
      exact h1.goodC
    · have ej : j = !i := by cases i <;> cases j <;> simp_all
      rw [ej, e2]
      exact g.c _
  · rw [RM_split P _ i, RM_split P r i, e1, e2, e3]
    omega
  · rw [RM_split P _ i, RM_split P r i, e1, e2, e3]
    omega
  · rcases h2 with x | x
    · left
      rw [RM_split P _ i, RM_split P r i, e1, e2, e3]
      omega
    · exact .inr ⟨x.1, x.2 (Nat.succ_pos _)⟩
/-- something happens at t -/
def Due (L : Ln) (t : Int) (r : RS) : Prop := (∃ p ∈ r.s.flight, p.tick ≤ t) ∨ (∃ j f, (r.s.sd j).first = some f ∧ f + (L.se j).delay ≤ t) ∨ (∃ i u, (r.c i).til = some u ∧ u ≤ t)
theorem tick_core (kl : LOk L) {r1 r2 r3 r4 : RS} {t : Int} (ht : t ≤ T) (e1 : r1 = ⟨begin L t r.s, r.c⟩) (e2 : r2 = goSide L P false r1) (e3 : r3 = goSide L P true r2) (e4 : r4 = ⟨leave L r3.s, r3.c⟩) (kp : ∀ i, POk (P i)) (g : GR P T r) :
    GR P T r4 ∧ RM P r4 ≤ RM P r ∧ RM P r4 + (r4.s.log.length : Int) ≤ RM P r + (r.s.log.length : Int) ∧ (Due L t r → RM P r4 < RM P r) := by
  have hb := begin_good kl g.s ht
  have es : r1.s = begin L t r.s := by rw [e1]
  have ec : r1.c = r.c := by rw [e1]
  rw [← es] at hb
  obtain ⟨b1, b2, b3, b4, b5⟩ := hb
  have gb : GR P T r1 := ⟨b1, fun i => by rw [ec]; exact g.c i⟩
  have ha := side_good kl kp false gb
  rw [← e2] at ha
  obtain ⟨a1, a2, a3, a4, a5, a6⟩ := ha
  have hd := side_good kl kp true a1
  rw [← e3] at hd
  obtain ⟨d1, d2, d3, d4, d5, d6⟩ := hd
  have hl := leave_good kl d1.s
  have es4 : r4.s = leave L r3.s := by rw [e4]
  have ec4 : r4.c = r3.c := by rw [e4]
  rw [← es4] at hl
  obtain ⟨l1, l2⟩ := hl
  have hm := l1.le.ms
  have hlg := l1.le.lg
  have eb : RM P r1 = RM P r - m r.s + m r1.s := RM_s2 P ec
  have el : RM P r4 = RM P r3 - m r3.s + m r4.s := RM_s2 P ec4
  clear e1 e2 e3 e4
  have q1 : RM P r4 ≤ RM P r := by clear b5 a6 d6 l2; omega
  have q2 : RM P r4 + (r4.s.log.length : Int) ≤ RM P r + (r.s.log.length : Int) := by clear b5 a6 d6 l2; omega
  have lt1 : m r1.s < m r.s → RM P r4 < RM P r := by clear b5 a6 d6 l2; intro h; omega
  have lt2 : RM P r2 < RM P r1 → RM P r4 < RM P r := by clear b5 a6 d6 l2 lt1; intro h; omega
  have lt3 : RM P r3 < RM P r2 → RM P r4 < RM P r := by clear b5 a6 d6 l2 lt1 lt2; intro h; omega
  have lt4 : m r4.s < m r3.s → RM P r4 < RM P r := by clear b5 a6 d6 l2 lt1 lt2 lt3; intro h; omega
  refine ⟨⟨l1.good, fun i => by rw [ec4]; exact d1.c i⟩, q1, q2, fun hdue => ?_⟩
  rcases b5 with x | ⟨x1, x2⟩
  · exact lt1 x
  rcases a6 with y | ⟨y1, y2⟩
  · exact lt2 y
  rcases d6 with z | ⟨z1, z2⟩
  · exact lt3 z
  rcases hdue with ⟨p, hp, q⟩ | ⟨j, f, q1, q2⟩ | ⟨i, u, q1, q2⟩
  · exact absurd (x2 p hp) (Int.not_lt.mpr q)
  · exact lt4 (l2 ⟨j, f, by rw [z1, y1]; exact (x1 j).trans q1, by rw [z1, y1, b2]; exact q2⟩)
  · cases i with
    | false =>
      have h := y2 u (by rw [ec]; exact q1)
      rw [b2] at h
      exact absurd h (Int.not_lt.mpr q2)
    | true =>
      have h := z2 u (by rw [show r2.c true = r1.c true from a5, ec]; exact q1)
      rw [y1, b2] at h
      exact absurd h (Int.not_lt.mpr q2)
theorem tick_good (kl : LOk L) (kp : ∀ i, POk (P i)) (g : GR P T r) {t : Int} (ht : t ≤ T) :
    GR P T (doTick L P t r) ∧ RM P (doTick L P t r) ≤ RM P r ∧ RM P (doTick L P t r) + ((doTick L P t r).s.log.length : Int) ≤ RM P r + (r.s.log.length : Int) ∧
    (Due L t r → RM P (doTick L P t r) < RM P r) := tick_core kl ht rfl rfl rfl rfl kp g
theorem ev_mem {t : Int} (h : t ∈ evTicks L r) : (∃ p ∈ r.s.flight, p.tick = t) ∨ (∃ j f, (r.s.sd j).first = some f ∧ f + (L.se j).delay = t) ∨ (∃ i u, (r.c i).til = some u ∧ u = t) := by
  unfold evTicks at h
  rw [List.mem_append, List.mem_append] at h
  rcases h with (h | h) | h
  · unfold tilT at h
    split at h
    · cases h
    · rename_i u e
      exact .inr (.inr ⟨false, u, e, (List.mem_singleton.mp h).symm⟩)
  · unfold tilT at h
    split at h
    · cases h
    · rename_i u e
      exact .inr (.inr ⟨true, u, e, (List.mem_singleton.mp h).symm⟩)
  · split at h
    · cases h
    · rename_i t2 e
      have et := List.mem_singleton.mp h
      subst et
      have hm : t ∈ nextTicks L r.s := List.min?_mem e
      unfold nextTicks at hm
      rw [List.mem_append, List.mem_append] at hm
      rcases hm with (hm | hm) | hm
      · obtain ⟨p, hp, e⟩ := List.mem_map.mp hm
        exact .inl ⟨p, hp, e⟩
      · unfold firstT at hm
        split at hm
        · cases hm
        · rename_i f e
          exact .inr (.inl ⟨false, f, e, (List.mem_singleton.mp hm).symm⟩)
      · unfold firstT at hm
        split at hm
        · cases hm
        · rename_i f e
          exact .inr (.inl ⟨true, f, e, (List.mem_singleton.mp hm).symm⟩)
theorem ev_good (kl : LOk L) (g : GR P T r) {t : Int} (h : events L r = some t) : Due L t r ∧ t ≤ T + 60 := by
  have hm : t ∈ evTicks L r := List.min?_mem h
  rcases ev_mem hm with ⟨p, hp, e⟩ | ⟨j, f, e1, e2⟩ | ⟨i, u, e1, e2⟩
  · exact ⟨.inl ⟨p, hp, by omega⟩, by have := g.s.ft p hp; omega⟩
  · have := g.s.fi j f e1
    have := kl.delay j
    exact ⟨.inr (.inl ⟨j, f, e1, by omega⟩), by omega⟩
  · have := ((g.c i).ti u e1).2
    exact ⟨.inr (.inr ⟨i, u, e1, by omega⟩), by omega⟩
/-- the loop's invariant: n turns suffice -/
structure LI (L : Ln) (P : Bool → Prg) (n : Nat) (T t : Int) (r : RS) : Prop where
  good : GR P T r
  tle : t ≤ T
  fuel : (Due L t r ∧ RM P r + 1 ≤ n) ∨ RM P r + 2 ≤ n
  tb : T + 60 * (n : Int) ≤ 900000
  lg : RM P r + (r.s.log.length : Int) ≤ 100000
theorem RM_nonneg (k : ∀ i, POk (P i)) (g : GR P T r) : 0 ≤ RM P r := by
  have := RM_ge k g
  have := m_nonneg g.s
  omega
theorem LI.pos (kp : ∀ i, POk (P i)) {n : Nat} {t : Int} (h : LI L P n T t r) : ∃ k, n = k + 1 := by
  have := RM_nonneg kp h.good
  have hf : 1 ≤ n := by rcases h.fuel with ⟨_, x⟩ | x <;> omega
  exact ⟨n - 1, by omega⟩
theorem LI.next (kl : LOk L) (kp : ∀ i, POk (P i)) {k : Nat} {t t' : Int} (h : LI L P (k + 1) T t r) (he : events L (doTick L P t r) = some t') : LI L P k (T + 60) t' (doTick L P t r) := by
  obtain ⟨h1, h2, h3, h4⟩ := tick_good kl kp h.good h.tle
  obtain ⟨e1, e2⟩ := ev_good kl h1 he
  have htb := h.tb
  have hlg := h.lg
  refine ⟨h1.mono (by omega), e2, .inl ⟨e1, ?_⟩, by omega, by omega⟩
  rcases h.fuel with ⟨x, y⟩ | y
  · have := h4 x
    omega
  · omega
theorem LI.run_some {k : Nat} {t t' : Int} (he : events L (doTick L P t r) = some t') : runN L P (k + 1) t r = runN L P k t' (doTick L P t r) := by
  show (match events L (doTick L P t r) with | none => doTick L P t r | some t' => runN L P k t' (doTick L P t r)) = _
  rw [he]
theorem LI.run_none {k : Nat} {t : Int} (he : events L (doTick L P t r) = none) : runN L P (k + 1) t r = doTick L P t r := by
  show (match events L (doTick L P t r) with | none => doTick L P t r | some t' => runN L P k t' (doTick L P t r)) = _
  rw [he]
/-- the ends of a run: within 900000 -/
theorem LI.ends (kl : LOk L) (kp : ∀ i, POk (P i)) : ∀ {n : Nat} {T t : Int} {r : RS}, LI L P n T t r → ∃ T', GR P T' (runN L P n t r) ∧ T' ≤ 900000 ∧ RM P (runN L P n t r) + ((runN L P n t r).s.log.length : Int) ≤ 100000
  | 0, T, t, r, h => by
    obtain ⟨k, e⟩ := h.pos kp
    omega
  | n + 1, T, t, r, h => by
    cases he : events L (doTick L P t r) with
    | none =>
      obtain ⟨h1, h2, h3, h4⟩ := tick_good kl kp h.good h.tle
      have htb := h.tb
      have hlg := h.lg
      rw [LI.run_none he]
      exact ⟨T, h1, by omega, by omega⟩
    | some t' =>
      rw [LI.run_some he]
      exact LI.ends kl kp (h.next kl kp he)
end

/-- the start -/
def fuel0 (P : Bool → Prg) : Nat := (RM P (rs0 P) + 2).toNat
def final (L : Ln) (P : Bool → Prg) : RS := runN L P (fuel0 P) 0 (rs0 P)
def endsOf (L : Ln) (P : Bool → Prg) (i : Bool) : Option Int := ((final L P).c i).ended
theorem rs0_good (P : Bool → Prg) : GR P 0 (rs0 P) := by
  refine ⟨⟨fun i => ?_, fun i h => ?_, Int.le_refl _, fun p hp => (by cases hp), fun i f e => (by cases e)⟩, fun i => ⟨Nat.zero_le _, ?_, (fun u e => by cases e), fun e q => ?_⟩⟩
  · intro e he
    cases he
  · exact absurd (show (0 : Int) < 0 from h) (by omega)
  · show (if (P i).length = 0 then some 0 else none) = none ↔ 0 < (P i).length
    split
    · constructor
      · intro x; cases x
      · intro x; omega
    · constructor
      · intro _; omega
      · intro _; rfl
  · have q' : (if (P i).length = 0 then some (0 : Int) else none) = some e := q
    split at q'
    · cases q'
      exact Int.le_refl _
    · cases q'
theorem rs0_RM (P : Bool → Prg) : RM P (rs0 P) = 6 * remW (P false) + (P false).length + 6 * remW (P true) + (P true).length := by
  show fw [] + (6 * kept [] + 2 * b01 none) + (6 * kept [] + 2 * b01 none) + (6 * remW ((P false).drop 0) + (((P false).length : Int) - ((0 : Nat) : Int))) + (6 * remW ((P true).drop 0) + (((P true).length : Int) - ((0 : Nat) : Int))) = _
  rw [List.drop_zero, List.drop_zero, kept_nil]
  show (0 : Int) + (6 * 0 + 2 * 0) + (6 * 0 + 2 * 0) + _ + _ = _
  omega
theorem start_LI {L : Ln} {P : Bool → Prg} (kp : ∀ i, POk (P i)) (hb : RM P (rs0 P) ≤ 10000) : LI L P (fuel0 P) 0 0 (rs0 P) := by
  have h0 := RM_nonneg kp (rs0_good P)
  have hf : ((fuel0 P : Nat) : Int) = RM P (rs0 P) + 2 := Int.toNat_of_nonneg (by omega)
  refine ⟨rs0_good P, Int.le_refl _, .inr (by omega), by omega, ?_⟩
  show RM P (rs0 P) + ((0 : Nat) : Int) ≤ _
  omega
theorem ends_le {L : Ln} {P : Bool → Prg} (kl : LOk L) (kp : ∀ i, POk (P i)) (hb : RM P (rs0 P) ≤ 10000) (i : Bool) (e : Int) (h : endsOf L P i = some e) : e ≤ 900000 := by
  obtain ⟨T', g, h1, _⟩ := LI.ends kl kp (start_LI (L := L) kp hb)
  have := (g.c i).et e h
  omega
end SH
end
section
namespace SH
open PySem PySem.Spec PyProof.Rows L2

/-! ### defs by FunD, bundled as C8's Cal, Met, Mak -/
section
variable {P : Program} {w : World} {K : PySem.W.Frag} {mg : Str → Option Value} {base : Heap}
abbrev FnP (K : PySem.W.Frag) (x qual : Str) (st : Stmt) (f : Addr) (fd : FuncData) : Prop := FunD K x qual (defArgs st) (defBody st) (defScope st) [] [] f fd
theorem cal_mk {x : Str} {st : Stmt} {f : Addr} {fd : FuncData} {N ps : List Str} {k : Nat} {sp : Sp} (F : FnP K x x st f fd) (hm : mg x = some (.ref f)) (b : Binds K fd ps []) (S : FnScope N ps (defScope st)) (len : ∀ vs H Q E, sp vs H Q E → vs.length = ps.length)
    (hbody : ∀ (cdv : Value) (A : Around) (outer : List Env) (s : Shared) (H : Hp) (vs : List V) (Q : VK) (E : XK), Room k (A.deeper (envOfC x (defScope st) s.heap.objs.size f cdv)) → sp vs H Q E →
      ∃ t, PSs (cxOf C8.CX0 P w K mg base N x (defScope st) f cdv A outer s H E).nox (defBody st) t ∧ t { nx := fun _ H' => Q .non H', rt := Q } (start N vs) H) : C8.Cal P w K mg base (k + 1) x sp [] :=
  ⟨f, fd, ps, [], F.ok S len fun cdv A outer s H vs Q E hr h => (let ⟨t, p, q⟩ := hbody cdv A outer s H vs Q E hr h; ⟨t, p.nox, q⟩), hm, F.kp, b, .nil⟩
theorem met_mk {m qual : Str} {C : Addr} {st : Stmt} {f : Addr} {fd : FuncData} {N ps : List Str} {k : Nat} {sp : Sp} (c : Cls K C) (me : Meth K C m f) (F : FnP K m qual st f fd) (b : Binds K fd ps []) (S : FnScope N ps (defScope st)) (len : ∀ vs H Q E, sp vs H Q E → vs.length = ps.length)
    (hbody : ∀ (cdv : Value) (A : Around) (outer : List Env) (s : Shared) (H : Hp) (vs : List V) (Q : VK) (E : XK), Room k (A.deeper (envOfC qual (defScope st) s.heap.objs.size f cdv)) → sp vs H Q E →
      ∃ t, PSs (cxOf C8.CX0 P w K mg base N qual (defScope st) f cdv A outer s H E).nox (defBody st) t ∧ t { nx := fun _ H' => Q .non H', rt := Q } (start N vs) H) : C8.Met P w K mg base (k + 1) C m sp [] :=
  ⟨f, fd, ps, [], c, me, F.ok S len fun cdv A outer s H vs Q E hr h => (let ⟨t, p, q⟩ := hbody cdv A outer s H vs Q E hr h; ⟨t, p.nox, q⟩), b, .nil⟩
theorem mak_mk {x qual : Str} {C : Addr} {st : Stmt} {f : Addr} {fd : FuncData} {N ps : List Str} {k : Nat} {sp : Sp} (M : Mk K C f) (hm : mg x = some (.ref C)) (F : FnP K "__init__" qual st f fd) (b : Binds K fd ps []) (S : FnScope N ps (defScope st)) (len : ∀ vs H Q E, sp vs H Q E → vs.length = ps.length)
    (hbody : ∀ (cdv : Value) (A : Around) (outer : List Env) (s : Shared) (H : Hp) (vs : List V) (Q : VK) (E : XK), Room k (A.deeper (envOfC qual (defScope st) s.heap.objs.size f cdv)) → sp vs H Q E →
      ∃ t, PSs (cxOf C8.CX0 P w K mg base N qual (defScope st) f cdv A outer s H E).nox (defBody st) t ∧ t { nx := fun _ H' => Q .non H', rt := Q } (start N vs) H) : C8.Mak P w K mg base (k + 1) x C sp [] :=
  ⟨f, fd, ps, [], M, F.ok S len fun cdv A outer s H vs Q E hr h => (let ⟨t, p, q⟩ := hbody cdv A outer s H vs Q E hr h; ⟨t, p.nox, q⟩), hm, b, .nil⟩
end

/-! ### xs[i] op= e -/
section
variable {X : Cx}
/-- a list's item at a place that is not negative -/
def rIxN (K : PySem.W.Frag) : R2 := fun x y H Q => ∃ (p : Addr) (xs : List V) (i : Nat) (v : V), x = .ref p ∧ y = .int (i : Int) ∧ SqL K H p xs ∧ xs[i]? = some v ∧ Q v H
theorem get_list : PGet X (rIxN X.K) := by
  intro pins s σ H x y v u Q I rx ry h
  obtain ⟨p, xs, i, z, rfl, rfl, hq, he, q⟩ := h
  cases rx
  obtain ⟨t, rfl⟩ := ry
  obtain ⟨its, r, pl, hz⟩ := I.list hq
  obtain ⟨w, ew, rw'⟩ := r.get he
  have hn := line63
  have hl := (List.getElem?_eq_some_iff.mp he).1
  exact wpAny_getItem_list pl.isList (by omega) (by omega) (by rw [Int.toNat_natCast]; simpa using ew) ⟨z, H, I, rw', q⟩
/-! rules with the written part told (within a comprehension's block) -/
theorem pe_fldK {K : PySem.W.Frag} {e : Expr} {f : Str} {pos : Pos} {ta : TE} (he : PE X e ta) (hb : attributeBase e f X.env (eval e X.env) = eval e X.env) (hK : X.K = K) : PE X (.Attribute e f pos) (tFld K ta f) := hK ▸ pe_fld he hb
theorem pi_listK {K : PySem.W.Frag} {tg l : Expr} {tl : TE} (hl : PE X l tl) (hK : X.K = K) : PI X tg l (iList K tl) := hK ▸ pi_list hl
theorem pi_tupK {K : PySem.W.Frag} {tg l : Expr} {tl : TE} (hl : PE X l tl) (hK : X.K = K) : PI X tg l (iTup K tl) := hK ▸ pi_tup hl
def rLenK (K : PySem.W.Frag) : List V → Hp → VK → Prop := fun xs H Q => ∃ p ys, xs = [V.ref p] ∧ (SqL K H p ys ∨ SqT K H p ys) ∧ Q (.int ys.length) H
theorem call_lenK : CallR X (.builtin "len") (rLenK X.K) := call_len_seq
def rTupK (K : PySem.W.Frag) : List V → Hp → VK → Prop := fun xs H Q => ∃ p ys, xs = [V.ref p] ∧ ((SqL K H p ys ∧ ∀ l, H l = none → Q (.ref l) (upd H l (.tup ys))) ∨ (SqT K H p ys ∧ Q (.ref p) H))
theorem call_tupK : CallR X (.type "tuple") (rTupK X.K) := call_tuple_of
def rListK (K : PySem.W.Frag) : List V → Hp → VK → Prop := fun xs H Q => ∃ p ys, xs = [V.ref p] ∧ (SqL K H p ys ∨ SqT K H p ys) ∧ ∀ l, H l = none → Q (.ref l) (upd H l (.lst ys))
theorem call_listK : CallR X (.type "list") (rListK X.K) := call_list_of
theorem pa_starK {K : PySem.W.Frag} {e : Expr} {es : List Expr} {p : Pos} {te : TE} {t : TA} (he : PE X e te) (hr : PA X es t) (hK : X.K = K) (hs : starEach (.Starred e p :: es) X.env = (true, eval e X.env) :: starEach es X.env := by rfl) : PA X (.Starred e p :: es) (StX.tStar K te t) := hK ▸ StX.pa_star he hr hs
/-- the scope of a block within a block -/
theorem blk_in {N : List Str} {sc scope sc2 : Scope} {own : List (Str × Nat)} (h : blkC N sc2 scope own = true) (e : sc = sc2) : BlkOk N sc scope own := e ▸ blkOk_by h
end

/-! ### heaps -/
end SH
namespace L2
open PySem PySem.Spec PyProof.Rows
theorem Same.sqT {K : PySem.W.Frag} {H H' : Hp} {a : Addr} {xs : List V} (e : Same H H') (h : SqT K H a xs) : SqT K H' a xs := by
  rcases h with (h | ⟨o, h⟩) | h
  · exact .inl (.inl (e _ _ h))
  · exact .inl (.inr ⟨o, e _ _ h⟩)
  · exact .inr h
theorem Same.new {H : Hp} {p : Addr} {o : HO} (h : H p = none) : Same H (upd H p o) := fun a u e => by
  rw [upd_ne (ne_of_none e h)]
  exact e
theorem Same.own {H H' : Hp} {p : Addr} {o : HO} (e : Same H H') (h : H p = none) : Same H (upd H' p o) := fun a u ha => by
  rw [upd_ne (ne_of_none ha h)]
  exact e a u ha
theorem Same.then {H H' : Hp} {p : Addr} {o : HO} (e : Same H H') (h : H' p = none) : Same H (upd H' p o) := e.trans (Same.new h)
end L2
end
section
namespace SH
open PySem PySem.Spec PyProof.Rows L2

/-- the written part and the classes -/
structure Gl5 where
  K : PySem.W.Frag
  S : Addr
  L : Addr
  F : Addr
  C : Addr
  R : Addr
def bi (b : Bool) : Int := match b with | false => 0 | true => 1
def bn (b : Bool) : Nat := match b with | false => 0 | true => 1
def ov (o : Option Int) : V := match o with | none => .non | some x => .int x
def wdS (w : Wd) : Str := match w with | .w => "write" | .r => "read" | .p => "pause"
def stV (p : Int × Int) : List V := [.int p.1, .int p.2]
def pcV (p : Pc) : List V := [.int p.tick, .int (bi p.side), .int p.amount, .int p.ans]
def stepV (p : Wd × Int) : List V := [.str (wdS p.1), .int p.2]

/-! ### lists of tuples -/
def TP (H : Hp) : List Addr → List (List V) → Prop
  | [], [] => True
  | a :: as, x :: xs => H a = some (.tup x) ∧ TP H as xs
  | _, _ => False
def LT (H : Hp) (a : Addr) (xs : List (List V)) : Prop := ∃ rs : List Addr, H a = some (.lst (rs.map V.ref)) ∧ TP H rs xs
theorem TP.len {H : Hp} : ∀ {rs : List Addr} {xs : List (List V)}, TP H rs xs → rs.length = xs.length
  | [], [], _ => rfl
  | _ :: _, _ :: _, h => congrArg Nat.succ (TP.len h.2)
  | [], _ :: _, h => h.elim
  | _ :: _, [], h => h.elim
theorem TP.at {H : Hp} : ∀ {rs : List Addr} {xs : List (List V)} {i : Nat} {x : List V}, TP H rs xs → xs[i]? = some x → ∃ a, rs[i]? = some a ∧ H a = some (.tup x)
  | a :: _, _ :: _, 0, x, h, e => ⟨a, rfl, by have := h.1; simp at e; rw [← e]; exact this⟩
  | _ :: _, _ :: _, i + 1, x, h, e => by
    obtain ⟨a, h1, h2⟩ := TP.at (i := i) h.2 (by simpa using e)
    exact ⟨a, by simpa using h1, h2⟩
  | [], [], i, x, h, e => by simp at e
theorem TP.at2 {H : Hp} : ∀ {rs : List Addr} {xs : List (List V)} {i : Nat} {a : Addr}, TP H rs xs → rs[i]? = some a → ∃ x, xs[i]? = some x ∧ H a = some (.tup x)
  | _ :: _, x :: _, 0, a, h, e => ⟨x, rfl, by have := h.1; simp at e; rw [← e]; exact this⟩
  | _ :: _, _ :: _, i + 1, x, h, e => by
    obtain ⟨a, h1, h2⟩ := TP.at2 (i := i) h.2 (by simpa using e)
    exact ⟨a, by simpa using h1, h2⟩
  | [], [], i, x, h, e => by simp at e
theorem TP.mono {H H' : Hp} (k : ∀ a x, H a = some (.tup x) → H' a = some (.tup x)) : ∀ {rs : List Addr} {xs : List (List V)}, TP H rs xs → TP H' rs xs
  | [], [], _ => True.intro
  | _ :: _, _ :: _, h => ⟨k _ _ h.1, TP.mono k h.2⟩
  | [], _ :: _, h => h.elim
  | _ :: _, [], h => h.elim
theorem TP.snoc {H : Hp} {a : Addr} {x : List V} (e : H a = some (.tup x)) : ∀ {rs : List Addr} {xs : List (List V)}, TP H rs xs → TP H (rs ++ [a]) (xs ++ [x])
  | [], [], _ => ⟨e, True.intro⟩
  | _ :: _, _ :: _, h => ⟨h.1, TP.snoc e h.2⟩
  | [], _ :: _, h => h.elim
  | _ :: _, [], h => h.elim
theorem TP.all {H : Hp} {P : Addr → List V → Prop} : ∀ {rs : List Addr} {xs : List (List V)}, TP H rs xs → (∀ r ∈ rs, ∀ x, H r = some (.tup x) → True) → True := fun _ _ => True.intro
/-- what of a heap stands, but at x -/
def But (x : Addr) (H H' : Hp) : Prop := ∀ b o, H b = some o → b ≠ x → H' b = some o
theorem But.upd {H : Hp} {x : Addr} {o : HO} : But x H (upd H x o) := fun b u e n => by rw [upd_ne n]; exact e
def NoTup (H : Hp) (x : Addr) : Prop := ∀ xs, H x ≠ some (.tup xs)
theorem But.tup {H H' : Hp} {x : Addr} (k : But x H H') (n : NoTup H x) : ∀ a y, H a = some (.tup y) → H' a = some (.tup y) := fun a y e => k a _ e fun z => by
  rw [z] at e
  exact n y e
theorem LT.mono {H H' : Hp} {x a : Addr} {xs : List (List V)} (h : LT H a xs) (k : But x H H') (n : NoTup H x) (ne : a ≠ x) : LT H' a xs := by
  obtain ⟨rs, h1, h2⟩ := h
  exact ⟨rs, k _ _ h1 ne, h2.mono (k.tup n)⟩

/-! ### a run's world -/
structure En where
  H0 : Hp
  a : Nat → Addr
  fdx : Addr
  cdx : Bool → Addr
  ln : Addr
  stg : Addr
  se : Bool → Addr
  stk : Addr
  sp : Bool → Addr
  bg : Bool → Addr
  L : Ln
  P : Bool → Prg
def flowF (e : En) (g : Addr) (t : Int) : List (Str × V) := [("line", .ref e.ln), ("settings", .ref e.stg), ("tick", .int t), ("stock", .ref e.stk), ("out", .ref (e.a 3)), ("known", .ref (e.a 4)), ("small", .ref (e.a 5)), ("come", .ref (e.a 6)),
  ("taken", .ref (e.a 7)), ("full", .ref (e.a 8)), ("first", .ref (e.a 9)), ("long", .ref (e.a 10)), ("flight", .ref g), ("log", .ref (e.a 11))]
def courseF (e : En) (i : Bool) (c : Co) : List (Str × V) := [("steps", .ref (e.sp i)), ("again", .bl false), ("place", .int (c.place : Int)), ("until", ov c.til), ("ended", ov c.ended), ("begun", .ref (e.bg i))]
abbrev lk (fs : List (Str × V)) (x : Str) : Option V := fs.lookup x
/-- the facts of a line -/
structure LineAt (G : Gl5) (H : Hp) (ln : Addr) (se : Bool → Addr) (L : Ln) : Prop where
  line : ∃ (dx : Addr) (fs : List (Str × V)), H ln = some (.ins G.L dx fs) ∧ lk fs "size" = some (.int L.size) ∧ lk fs "way" = some (.int L.way) ∧ lk fs "near" = some (.ref (se false)) ∧ lk fs "far" = some (.ref (se true))
  se : ∀ i, ∃ (dx : Addr) (fs : List (Str × V)) (z : Str), H (se i) = some (.ins G.S dx fs) ∧ lk fs "rule" = some (.str z) ∧ (L.se i).hold = decide (z = ("hold" : Str)) ∧ (L.se i).plain = decide (z = ("plain" : Str)) ∧ lk fs "every" = some (.int (L.se i).every) ∧ lk fs "delay" = some (.int (L.se i).delay)
theorem LineAt.same {G : Gl5} {H H' : Hp} {ln : Addr} {se : Bool → Addr} {L : Ln} (h : LineAt G H ln se L) (s : ∀ b C dx fs, H b = some (.ins C dx fs) → H' b = some (.ins C dx fs)) : LineAt G H' ln se L := by
  obtain ⟨⟨dx, fs, h1, h2⟩, h3⟩ := h
  refine ⟨⟨dx, fs, s _ _ _ _ h1, h2⟩, fun i => ?_⟩
  obtain ⟨dx, fs, z, h1, h2⟩ := h3 i
  exact ⟨dx, fs, z, s _ _ _ _ h1, h2⟩
structure Im (G : Gl5) (e : En) : Prop where
  inj : ∀ i j, i < 14 → j < 14 → e.a i = e.a j → i = j
  fr : ∀ i, i < 14 → e.H0 (e.a i) = none
  line : LineAt G e.H0 e.ln e.se e.L
  stg : e.H0 e.stg = some (.tup [.ref (e.se false), .ref (e.se true)])
  stk : e.H0 e.stk = some (.lst [.ref (e.a 1), .ref (e.a 2)])
  sp : ∀ i, LT e.H0 (e.sp i) ((e.P i).map stepV)
  lok : LOk e.L
  pok : ∀ i, POk (e.P i)
def cellP (G : Gl5) (e : En) (g : Addr) (r : RS) (H : Hp) : Nat → Prop
  | 0 => H (e.a 0) = some (.ins G.F e.fdx (flowF e g r.s.tick))
  | 1 => LT H (e.a 1) ((r.s.sd false).stock.map stV)
  | 2 => LT H (e.a 2) ((r.s.sd true).stock.map stV)
  | 3 => H (e.a 3) = some (.lst [.int (r.s.sd false).out, .int (r.s.sd true).out])
  | 4 => H (e.a 4) = some (.lst [.int (r.s.sd false).known, .int (r.s.sd true).known])
  | 5 => H (e.a 5) = some (.lst [.int (r.s.sd false).small, .int (r.s.sd true).small])
  | 6 => H (e.a 6) = some (.lst [.int (r.s.sd false).come, .int (r.s.sd true).come])
  | 7 => H (e.a 7) = some (.lst [.int (r.s.sd false).taken, .int (r.s.sd true).taken])
  | 8 => H (e.a 8) = some (.lst [.int (r.s.sd false).full, .int (r.s.sd true).full])
  | 9 => H (e.a 9) = some (.lst [ov (r.s.sd false).first, ov (r.s.sd true).first])
  | 10 => ∃ x y, H (e.a 10) = some (.lst [.int x, .int y])
  | 11 => LT H (e.a 11) (r.s.log.map pcV)
  | 12 => H (e.a 12) = some (.ins G.C (e.cdx false) (courseF e false (r.c false)))
  | 13 => H (e.a 13) = some (.ins G.C (e.cdx true) (courseF e true (r.c true)))
  | 14 => LT H g (r.s.flight.map pcV)
  | _ => True
structure W (G : Gl5) (e : En) (g : Addr) (H : Hp) (r : RS) : Prop where
  im : Im G e
  same : Same e.H0 H
  g0 : e.H0 g = none
  ng : ∀ i, i < 14 → e.a i ≠ g
  cell : ∀ i, cellP G e g r H i
section
variable {G : Gl5} {e : En} {g : Addr} {H H' : Hp} {r r' : RS}
theorem cell_noTup (h : ∀ i, cellP G e g r H i) {i : Nat} (hi : i < 14) : NoTup H (e.a i) := by
  have hh := h i
  intro xs z
  match i, hi, hh with
  | 0, _, hh => rw [show H (e.a 0) = _ from hh] at z; cases z
  | 1, _, ⟨_, hh, _⟩ => rw [hh] at z; cases z
  | 2, _, ⟨_, hh, _⟩ => rw [hh] at z; cases z
  | 3, _, hh => rw [show H (e.a 3) = _ from hh] at z; cases z
  | 4, _, hh => rw [show H (e.a 4) = _ from hh] at z; cases z
  | 5, _, hh => rw [show H (e.a 5) = _ from hh] at z; cases z
  | 6, _, hh => rw [show H (e.a 6) = _ from hh] at z; cases z
  | 7, _, hh => rw [show H (e.a 7) = _ from hh] at z; cases z
  | 8, _, hh => rw [show H (e.a 8) = _ from hh] at z; cases z
  | 9, _, hh => rw [show H (e.a 9) = _ from hh] at z; cases z
  | 10, _, ⟨_, _, hh⟩ => rw [hh] at z; cases z
  | 11, _, ⟨_, hh, _⟩ => rw [hh] at z; cases z
  | 12, _, hh => rw [show H (e.a 12) = _ from hh] at z; cases z
  | 13, _, hh => rw [show H (e.a 13) = _ from hh] at z; cases z
  | n + 14, hi, _ => omega
theorem cell_noTup14 (h : ∀ i, cellP G e g r H i) : NoTup H g := by
  obtain ⟨rs, h1, _⟩ := h 14
  intro xs z
  rw [h1] at z
  cases z
def adr (e : En) (g : Addr) (i : Nat) : Addr := if i = 14 then g else e.a i
theorem cell_mono {x : Addr} (k : But x H H') (n : NoTup H x) {i : Nat} (ne : i < 15 → adr e g i ≠ x) (h : cellP G e g r H i) : cellP G e g r H' i := by
  match i, h, ne with
  | 0, h, ne => exact k _ _ h (ne (by omega))
  | 1, h, ne => exact LT.mono h k n (ne (by omega))
  | 2, h, ne => exact LT.mono h k n (ne (by omega))
  | 3, h, ne => exact k _ _ h (ne (by omega))
  | 4, h, ne => exact k _ _ h (ne (by omega))
  | 5, h, ne => exact k _ _ h (ne (by omega))
  | 6, h, ne => exact k _ _ h (ne (by omega))
  | 7, h, ne => exact k _ _ h (ne (by omega))
  | 8, h, ne => exact k _ _ h (ne (by omega))
  | 9, h, ne => exact k _ _ h (ne (by omega))
  | 10, ⟨a, b, h⟩, ne => exact ⟨a, b, k _ _ h (ne (by omega))⟩
  | 11, h, ne => exact LT.mono h k n (ne (by omega))
  | 12, h, ne => exact k _ _ h (ne (by omega))
  | 13, h, ne => exact k _ _ h (ne (by omega))
  | 14, h, ne => exact LT.mono h k n (ne (by omega))
  | n + 15, _, _ => exact True.intro
/-- a new object -/
theorem W.new (w : W G e g H r) {p : Addr} {o : HO} (hp : H p = none) : W G e g (upd H p o) r := by
  refine ⟨w.im, w.same.then hp, w.g0, w.ng, fun i => ?_⟩
  refine cell_mono (x := p) But.upd (fun xs z => by rw [hp] at z; cases z) (fun hi z => ?_) (w.cell i)
  have nn : ∃ o, H (adr e g i) = some o := by
    have hh := w.cell i
    match i, hi, hh with
    | 0, _, hh => exact ⟨_, hh⟩
    | 1, _, ⟨_, hh, _⟩ => exact ⟨_, hh⟩
    | 2, _, ⟨_, hh, _⟩ => exact ⟨_, hh⟩
    | 3, _, hh => exact ⟨_, hh⟩
    | 4, _, hh => exact ⟨_, hh⟩
    | 5, _, hh => exact ⟨_, hh⟩
    | 6, _, hh => exact ⟨_, hh⟩
    | 7, _, hh => exact ⟨_, hh⟩
    | 8, _, hh => exact ⟨_, hh⟩
    | 9, _, hh => exact ⟨_, hh⟩
    | 10, _, ⟨_, _, hh⟩ => exact ⟨_, hh⟩
    | 11, _, ⟨_, hh, _⟩ => exact ⟨_, hh⟩
    | 12, _, hh => exact ⟨_, hh⟩
    | 13, _, hh => exact ⟨_, hh⟩
    | 14, _, ⟨_, hh, _⟩ => exact ⟨_, hh⟩
    | n + 15, hi, _ => omega
  obtain ⟨o, ho⟩ := nn
  rw [z, hp] at ho
  cases ho
/-- a cell is written -/
theorem W.put (w : W G e g H r) {i : Nat} {o : HO} (hi : i < 14) (new : cellP G e g r' (upd H (e.a i) o) i) (oth : ∀ j H', j ≠ i → cellP G e g r H' j → cellP G e g r' H' j) : W G e g (upd H (e.a i) o) r' := by
  refine ⟨w.im, w.same.own (w.im.fr i hi), w.g0, w.ng, fun j => ?_⟩
  by_cases hj : j = i
  · rw [hj]
    exact new
  · refine oth j _ hj (cell_mono (x := e.a i) But.upd (cell_noTup w.cell hi) (fun h15 => ?_) (w.cell j))
    unfold adr
    split
    · exact fun z => w.ng i hi z.symm
    · intro z
      exact hj (w.im.inj j i (by omega) hi z)
/-- the list of pieces under way is written -/
theorem W.putG (w : W G e g H r) {o : HO} (new : cellP G e g r' (upd H g o) 14) (oth : ∀ j H', j ≠ 14 → cellP G e g r H' j → cellP G e g r' H' j) : W G e g (upd H g o) r' := by
  refine ⟨w.im, w.same.own w.g0, w.g0, w.ng, fun j => ?_⟩
  by_cases hj : j = 14
  · rw [hj]
    exact new
  · refine oth j _ hj (cell_mono (x := g) But.upd (cell_noTup14 w.cell) (fun h15 => ?_) (w.cell j))
    unfold adr
    rw [if_neg hj]
    exact w.ng j (by omega)
end
end SH
end
section
namespace SH
open PySem PySem.Spec PyProof.Rows L2
/-- what isinstance asks of an own class -/
structure InsK (K : PySem.W.Frag) (C : Addr) : Prop where
  ha : PySem.W.findIn K (.ref C) "__class__" = some (some (.builtin "object.__class__"))
  hn : PySem.W.specialIn K (.builtin "object.__class__") "__get__" = some (some (.builtin "getset_descriptor.__get__"))
  htk : PySem.W.takesIn K (.builtin "object.__class__") = some true
  hm : PySem.W.mroIn K C (.type "object") = some true
  me : PySem.W.kitOne K (.ref C) (.ref C) = some true
structure Txt (G : Gl5) (mg : Str → Option Value) : Prop where
  cS : Cls G.K G.S
  gS : mg "Setting" = some (.ref G.S)
  S_rule : NoAttr G.K G.S "rule"
  S_every : NoAttr G.K G.S "every"
  S_delay : NoAttr G.K G.S "delay"
  S_told : NoAttr G.K G.S "told"
  cL : Cls G.K G.L
  gL : mg "Line" = some (.ref G.L)
  L_size : NoAttr G.K G.L "size"
  L_way : NoAttr G.K G.L "way"
  L_near : NoAttr G.K G.L "near"
  L_far : NoAttr G.K G.L "far"
  L_told : NoAttr G.K G.L "told"
  cF : Cls G.K G.F
  gF : mg "Flow" = some (.ref G.F)
  F_line : NoAttr G.K G.F "line"
  F_settings : NoAttr G.K G.F "settings"
  F_tick : NoAttr G.K G.F "tick"
  F_stock : NoAttr G.K G.F "stock"
  F_out : NoAttr G.K G.F "out"
  F_known : NoAttr G.K G.F "known"
  F_small : NoAttr G.K G.F "small"
  F_come : NoAttr G.K G.F "come"
  F_taken : NoAttr G.K G.F "taken"
  F_full : NoAttr G.K G.F "full"
  F_first : NoAttr G.K G.F "first"
  F_long : NoAttr G.K G.F "long"
  F_flight : NoAttr G.K G.F "flight"
  F_log : NoAttr G.K G.F "log"
  cC : Cls G.K G.C
  gC : mg "Course" = some (.ref G.C)
  C_steps : NoAttr G.K G.C "steps"
  C_again : NoAttr G.K G.C "again"
  C_place : NoAttr G.K G.C "place"
  C_until : NoAttr G.K G.C "until"
  C_ended : NoAttr G.K G.C "ended"
  C_begun : NoAttr G.K G.C "begun"
  cR : Cls G.K G.R
  gR : mg "Run" = some (.ref G.R)
  R_ends : NoAttr G.K G.R "ends"
  R_stuck : NoAttr G.K G.R "stuck"
  R_pieces : NoAttr G.K G.R "pieces"
  R_answers : NoAttr G.K G.R "answers"
  R_held : NoAttr G.K G.R "held"
  R_unread : NoAttr G.K G.R "unread"
  R_quiet : NoAttr G.K G.R "quiet"
  R_all : NoAttr G.K G.R "all"
  z_len : mg "len" = none
  z_sum : mg "sum" = none
  z_max : mg "max" = none
  z_min : mg "min" = none
  z_tuple : mg "tuple" = none
  z_list : mg "list" = none
  z_isinstance : mg "isinstance" = none
  z_int : mg "int" = none
  z_str : mg "str" = none
  z_bool : mg "bool" = none
  z_sorted : mg "sorted" = none
  z_range : mg "range" = none
  z_enumerate : mg "enumerate" = none
  z_zip : mg "zip" = none
  z_abs : mg "abs" = none
  z_divmod : mg "divmod" = none
  z_all : mg "all" = none
  i_MOST_SIZE : ∃ u, mg "MOST_SIZE" = some u ∧ RelV (.int 40) u
  i_MOST_WAY : ∃ u, mg "MOST_WAY" = some u ∧ RelV (.int 200) u
  i_MOST_EVERY : ∃ u, mg "MOST_EVERY" = some u ∧ RelV (.int 4) u
  i_MOST_DELAY : ∃ u, mg "MOST_DELAY" = some u ∧ RelV (.int 200) u
  i_MOST_STEPS : ∃ u, mg "MOST_STEPS" = some u ∧ RelV (.int 6) u
  i_MOST_BYTES : ∃ u, mg "MOST_BYTES" = some u ∧ RelV (.int 60) u
  i_MOST_X : ∃ u, mg "MOST_X" = some u ∧ RelV (.int 2000) u
  i_MOST_CHOICES : ∃ u, mg "MOST_CHOICES" = some u ∧ RelV (.int 400) u
  i_MOST_LIMIT : ∃ u, mg "MOST_LIMIT" = some u ∧ RelV (.int 1000000) u
  s_LETTER : ∃ u, mg "LETTER" = some u ∧ RelV (.str "x") u
  t_RULES : ∃ a, mg "RULES" = some (.ref a) ∧ ∀ H, SqT G.K H a [.str "plain", .str "hold", .str "few"]
  insL : InsK G.K G.L
  insS : InsK G.K G.S
end SH
end
section
namespace SH
open PySem PySem.Spec PyProof.Rows L2

/-! ### reads -/
section
variable {G : Gl5} {mg : Str → Option Value} {e : En} {g : Addr} {H H' : Hp} {r r' : RS} {σ : L2.St} {ts ti : TE} {i : Bool}
theorem at2 {α : Type} (f : Bool → α) (i : Bool) : [f false, f true][bn i]? = some (f i) := by cases i <;> rfl
theorem atI2 {f : Bool → V} (i : Bool) : atI [f false, f true] (bi i) = some (f i) := by cases i <;> rfl
theorem W.hF (w : W G e g H r) : H (e.a 0) = some (.ins G.F e.fdx (flowF e g r.s.tick)) := w.cell 0
theorem W.hC (w : W G e g H r) (i : Bool) : H (e.a (12 + bn i)) = some (.ins G.C (e.cdx i) (courseF e i (r.c i))) := by
  cases i
  · exact w.cell 12
  · exact w.cell 13
theorem W.hSt (w : W G e g H r) (i : Bool) : LT H (e.a (1 + bn i)) ((r.s.sd i).stock.map stV) := by
  cases i
  · exact w.cell 1
  · exact w.cell 2
theorem W.line (w : W G e g H r) : LineAt G H e.ln e.se e.L := w.im.line.same fun _ _ _ _ h => w.same _ _ h
theorem v_fld {a C dx : Addr} {fs : List (Str × V)} {f : Str} {v : V} (h : Val ts σ H (.ref a)) (ho : H a = some (.ins C dx fs)) (hc : Cls G.K C) (hn : NoAttr G.K C f) (hl : fs.lookup f = some v) : Val (tFld G.K ts f) σ H v := val_fld h ho hc hn hl
theorem v_ixL {p : Addr} {xs : List V} {k : Int} {v : V} (h : Val ts σ H (.ref p)) (hi : Val ti σ H (.int k)) (hp : H p = some (.lst xs)) (ha : atI xs k = some v) : Val (tOp (rIxL G.K) ts ti) σ H v :=
  val_op h hi fun Q q => ⟨_, _, _, _, rfl, rfl, SqL.of hp, ha, q⟩
theorem v_ixT {p : Addr} {xs : List V} {k : Int} {v : V} (h : Val ts σ H (.ref p)) (hi : Val ti σ H (.int k)) (hp : H p = some (.tup xs)) (ha : atI xs k = some v) : Val (tOp (rIxT G.K) ts ti) σ H v :=
  val_op h hi fun Q q => ⟨_, _, _, _, rfl, rfl, SqT.of hp, ha, q⟩
variable (T : Txt G mg) (w : W G e g H r) (hs : Val ts σ H (.ref (e.a 0)))
include T w hs
theorem f_line : Val (tFld G.K ts "line") σ H (.ref e.ln) := v_fld hs w.hF T.cF T.F_line rfl
theorem f_settings : Val (tFld G.K ts "settings") σ H (.ref e.stg) := v_fld hs w.hF T.cF T.F_settings rfl
theorem f_tick : Val (tFld G.K ts "tick") σ H (.int r.s.tick) := v_fld hs w.hF T.cF T.F_tick rfl
theorem f_stock : Val (tFld G.K ts "stock") σ H (.ref e.stk) := v_fld hs w.hF T.cF T.F_stock rfl
theorem f_out : Val (tFld G.K ts "out") σ H (.ref (e.a 3)) := v_fld hs w.hF T.cF T.F_out rfl
theorem f_known : Val (tFld G.K ts "known") σ H (.ref (e.a 4)) := v_fld hs w.hF T.cF T.F_known rfl
theorem f_small : Val (tFld G.K ts "small") σ H (.ref (e.a 5)) := v_fld hs w.hF T.cF T.F_small rfl
theorem f_come : Val (tFld G.K ts "come") σ H (.ref (e.a 6)) := v_fld hs w.hF T.cF T.F_come rfl
theorem f_taken : Val (tFld G.K ts "taken") σ H (.ref (e.a 7)) := v_fld hs w.hF T.cF T.F_taken rfl
theorem f_full : Val (tFld G.K ts "full") σ H (.ref (e.a 8)) := v_fld hs w.hF T.cF T.F_full rfl
theorem f_first : Val (tFld G.K ts "first") σ H (.ref (e.a 9)) := v_fld hs w.hF T.cF T.F_first rfl
theorem f_long : Val (tFld G.K ts "long") σ H (.ref (e.a 10)) := v_fld hs w.hF T.cF T.F_long rfl
theorem f_flight : Val (tFld G.K ts "flight") σ H (.ref g) := v_fld hs w.hF T.cF T.F_flight rfl
theorem f_log : Val (tFld G.K ts "log") σ H (.ref (e.a 11)) := v_fld hs w.hF T.cF T.F_log rfl
theorem f_size : Val (tFld G.K (tFld G.K ts "line") "size") σ H (.int e.L.size) := by
  obtain ⟨dx, fs, h1, h2, h3, h4⟩ := w.line.line
  exact v_fld (f_line T w hs) h1 T.cL T.L_size h2
theorem f_way : Val (tFld G.K (tFld G.K ts "line") "way") σ H (.int e.L.way) := by
  obtain ⟨dx, fs, h1, h2, h3, h4⟩ := w.line.line
  exact v_fld (f_line T w hs) h1 T.cL T.L_way h3
variable (hi : Val ti σ H (.int (bi i)))
include hi
theorem f_stk : Val (tOp (rIxL G.K) (tFld G.K ts "stock") ti) σ H (.ref (e.a (1 + bn i))) := by
  refine v_ixL (f_stock T w hs) hi (w.same _ _ w.im.stk) ?_
  cases i <;> rfl
theorem f_set : Val (tOp (rIxT G.K) (tFld G.K ts "settings") ti) σ H (.ref (e.se i)) := by
  refine v_ixT (f_settings T w hs) hi (w.same _ _ w.im.stg) ?_
  cases i <;> rfl
theorem f_outI : Val (tOp (rIxL G.K) (tFld G.K ts "out") ti) σ H (.int (r.s.sd i).out) := v_ixL (f_out T w hs) hi (w.cell 3) (atI2 (f := fun i => .int (r.s.sd i).out) i)
theorem f_knownI : Val (tOp (rIxL G.K) (tFld G.K ts "known") ti) σ H (.int (r.s.sd i).known) := v_ixL (f_known T w hs) hi (w.cell 4) (atI2 (f := fun i => .int (r.s.sd i).known) i)
theorem f_smallI : Val (tOp (rIxL G.K) (tFld G.K ts "small") ti) σ H (.int (r.s.sd i).small) := v_ixL (f_small T w hs) hi (w.cell 5) (atI2 (f := fun i => .int (r.s.sd i).small) i)
theorem f_comeI : Val (tOp (rIxL G.K) (tFld G.K ts "come") ti) σ H (.int (r.s.sd i).come) := v_ixL (f_come T w hs) hi (w.cell 6) (atI2 (f := fun i => .int (r.s.sd i).come) i)
theorem f_takenI : Val (tOp (rIxL G.K) (tFld G.K ts "taken") ti) σ H (.int (r.s.sd i).taken) := v_ixL (f_taken T w hs) hi (w.cell 7) (atI2 (f := fun i => .int (r.s.sd i).taken) i)
theorem f_fullI : Val (tOp (rIxL G.K) (tFld G.K ts "full") ti) σ H (.int (r.s.sd i).full) := v_ixL (f_full T w hs) hi (w.cell 8) (atI2 (f := fun i => .int (r.s.sd i).full) i)
theorem f_firstI : Val (tOp (rIxL G.K) (tFld G.K ts "first") ti) σ H (ov (r.s.sd i).first) := v_ixL (f_first T w hs) hi (w.cell 9) (atI2 (f := fun i => ov (r.s.sd i).first) i)
theorem f_longI : ∃ z : Int, Val (tOp (rIxL G.K) (tFld G.K ts "long") ti) σ H (.int z) := by
  obtain ⟨x, y, h⟩ := w.cell 10
  cases i
  · exact ⟨x, v_ixL (f_long T w hs) hi h rfl⟩
  · exact ⟨y, v_ixL (f_long T w hs) hi h rfl⟩
theorem f_rule : ∃ z : Str, Val (tFld G.K (tOp (rIxT G.K) (tFld G.K ts "settings") ti) "rule") σ H (.str z) ∧ (e.L.se i).hold = decide (z = ("hold" : Str)) ∧ (e.L.se i).plain = decide (z = ("plain" : Str)) := by
  obtain ⟨dx, fs, z, h1, h2, h3, h4, _⟩ := w.line.se i
  exact ⟨z, v_fld (f_set T w hs hi) h1 T.cS T.S_rule h2, h3, h4⟩
end

/-! ### writes -/
section
variable {G : Gl5} {e : En} {g : Addr} {H H' : Hp} {r r' : RS}
abbrev RS.sd (r : RS) (i : Bool) (d : Sd) : RS := { r with s := { r.s with sd := upS r.s.sd i d } }
/-- one of the lists of two numbers is written: the other cells are of the other columns -/
theorem W.tick (w : W G e g H r) (t : Int) : W G e g (upd H (e.a 0) (.ins G.F e.fdx (flowF e g t))) { r with s := { r.s with tick := t } } := by
  refine w.put (by decide) upd_same fun j H' hj h => ?_
  match j, h with
  | 0, h => exact absurd rfl hj
  | 1, h | 2, h | 3, h | 4, h | 5, h | 6, h | 7, h | 8, h | 9, h | 10, h | 11, h | 12, h | 13, h | 14, h => exact h
  | n + 15, h => exact h
theorem W.setOut (w : W G e g H r) (i : Bool) (z : Int) : W G e g (upd H (e.a 3) (.lst ([V.int (r.s.sd false).out, .int (r.s.sd true).out].set (bn i) (.int z)))) (r.sd i { r.s.sd i with out := z }) := by
  cases i <;>
  · refine w.put (by decide) upd_same fun j H' hj h => ?_
    match j, h with
    | 3, h => exact absurd rfl hj
    | 0, h | 1, h | 2, h | 4, h | 5, h | 6, h | 7, h | 8, h | 9, h | 10, h | 11, h | 12, h | 13, h | 14, h => exact h
    | n + 15, h => exact h
theorem W.setKnown (w : W G e g H r) (i : Bool) (z : Int) : W G e g (upd H (e.a 4) (.lst ([V.int (r.s.sd false).known, .int (r.s.sd true).known].set (bn i) (.int z)))) (r.sd i { r.s.sd i with known := z }) := by
  cases i <;>
  · refine w.put (by decide) upd_same fun j H' hj h => ?_
    match j, h with
    | 4, h => exact absurd rfl hj
    | 0, h | 1, h | 2, h | 3, h | 5, h | 6, h | 7, h | 8, h | 9, h | 10, h | 11, h | 12, h | 13, h | 14, h => exact h
    | n + 15, h => exact h
theorem W.setSmall (w : W G e g H r) (i : Bool) (z : Int) : W G e g (upd H (e.a 5) (.lst ([V.int (r.s.sd false).small, .int (r.s.sd true).small].set (bn i) (.int z)))) (r.sd i { r.s.sd i with small := z }) := by
  cases i <;>
  · refine w.put (by decide) upd_same fun j H' hj h => ?_
    match j, h with
    | 5, h => exact absurd rfl hj
    | 0, h | 1, h | 2, h | 3, h | 4, h | 6, h | 7, h | 8, h | 9, h | 10, h | 11, h | 12, h | 13, h | 14, h => exact h
    | n + 15, h => exact h
theorem W.setCome (w : W G e g H r) (i : Bool) (z : Int) : W G e g (upd H (e.a 6) (.lst ([V.int (r.s.sd false).come, .int (r.s.sd true).come].set (bn i) (.int z)))) (r.sd i { r.s.sd i with come := z }) := by
  cases i <;>
  · refine w.put (by decide) upd_same fun j H' hj h => ?_
    match j, h with
    | 6, h => exact absurd rfl hj
    | 0, h | 1, h | 2, h | 3, h | 4, h | 5, h | 7, h | 8, h | 9, h | 10, h | 11, h | 12, h | 13, h | 14, h => exact h
    | n + 15, h => exact h
theorem W.setTaken (w : W G e g H r) (i : Bool) (z : Int) : W G e g (upd H (e.a 7) (.lst ([V.int (r.s.sd false).taken, .int (r.s.sd true).taken].set (bn i) (.int z)))) (r.sd i { r.s.sd i with taken := z }) := by
  cases i <;>
  · refine w.put (by decide) upd_same fun j H' hj h => ?_
    match j, h with
    | 7, h => exact absurd rfl hj
    | 0, h | 1, h | 2, h | 3, h | 4, h | 5, h | 6, h | 8, h | 9, h | 10, h | 11, h | 12, h | 13, h | 14, h => exact h
    | n + 15, h => exact h
theorem W.setFull (w : W G e g H r) (i : Bool) (z : Int) : W G e g (upd H (e.a 8) (.lst ([V.int (r.s.sd false).full, .int (r.s.sd true).full].set (bn i) (.int z)))) (r.sd i { r.s.sd i with full := z }) := by
  cases i <;>
  · refine w.put (by decide) upd_same fun j H' hj h => ?_
    match j, h with
    | 8, h => exact absurd rfl hj
    | 0, h | 1, h | 2, h | 3, h | 4, h | 5, h | 6, h | 7, h | 9, h | 10, h | 11, h | 12, h | 13, h | 14, h => exact h
    | n + 15, h => exact h
theorem W.setFirst (w : W G e g H r) (i : Bool) (z : Option Int) : W G e g (upd H (e.a 9) (.lst ([ov (r.s.sd false).first, ov (r.s.sd true).first].set (bn i) (ov z)))) (r.sd i { r.s.sd i with first := z }) := by
  cases i <;>
  · refine w.put (by decide) upd_same fun j H' hj h => ?_
    match j, h with
    | 9, h => exact absurd rfl hj
    | 0, h | 1, h | 2, h | 3, h | 4, h | 5, h | 6, h | 7, h | 8, h | 10, h | 11, h | 12, h | 13, h | 14, h => exact h
    | n + 15, h => exact h
theorem W.setLong (w : W G e g H r) (i : Bool) {xs : List V} (hx : H (e.a 10) = some (.lst xs)) (z : Int) : W G e g (upd H (e.a 10) (.lst (xs.set (bn i) (.int z)))) r := by
  obtain ⟨x, y, hh⟩ := w.cell 10
  rw [hh] at hx
  cases hx
  refine w.put (by decide) ?_ fun j H' hj h => h
  cases i
  · exact ⟨z, y, upd_same⟩
  · exact ⟨x, z, upd_same⟩
theorem W.setStock (w : W G e g H r) (i : Bool) {o : HO} {st : List (Int × Int)} (h : LT (upd H (e.a (1 + bn i)) o) (e.a (1 + bn i)) (st.map stV)) : W G e g (upd H (e.a (1 + bn i)) o) (r.sd i { r.s.sd i with stock := st }) := by
  cases i
  · refine w.put (i := 1) (by decide) h fun j H' hj h => ?_
    match j, h with
    | 1, h => exact absurd rfl hj
    | 0, h | 2, h | 3, h | 4, h | 5, h | 6, h | 7, h | 8, h | 9, h | 10, h | 11, h | 12, h | 13, h | 14, h => exact h
    | n + 15, h => exact h
  · refine w.put (i := 2) (by decide) h fun j H' hj h => ?_
    match j, h with
    | 2, h => exact absurd rfl hj
    | 0, h | 1, h | 3, h | 4, h | 5, h | 6, h | 7, h | 8, h | 9, h | 10, h | 11, h | 12, h | 13, h | 14, h => exact h
    | n + 15, h => exact h
theorem W.setLog (w : W G e g H r) {o : HO} {l : List Pc} (h : LT (upd H (e.a 11) o) (e.a 11) (l.map pcV)) : W G e g (upd H (e.a 11) o) { r with s := { r.s with log := l } } := by
  refine w.put (i := 11) (by decide) h fun j H' hj h => ?_
  match j, h with
  | 11, h => exact absurd rfl hj
  | 0, h | 1, h | 2, h | 3, h | 4, h | 5, h | 6, h | 7, h | 8, h | 9, h | 10, h | 12, h | 13, h | 14, h => exact h
  | n + 15, h => exact h
theorem W.setFlight (w : W G e g H r) {o : HO} {l : List Pc} (h : LT (upd H g o) g (l.map pcV)) : W G e g (upd H g o) { r with s := { r.s with flight := l } } := by
  refine w.putG h fun j H' hj h => ?_
  match j, h with
  | 14, h => exact absurd rfl hj
  | 0, h | 1, h | 2, h | 3, h | 4, h | 5, h | 6, h | 7, h | 8, h | 9, h | 10, h | 11, h | 12, h | 13, h => exact h
  | n + 15, h => exact h
theorem W.setC (w : W G e g H r) (i : Bool) (c : Co) : W G e g (upd H (e.a (12 + bn i)) (.ins G.C (e.cdx i) (courseF e i c))) { r with c := upS r.c i c } := by
  cases i
  · refine w.put (i := 12) (by decide) upd_same fun j H' hj h => ?_
    match j, h with
    | 12, h => exact absurd rfl hj
    | 0, h | 1, h | 2, h | 3, h | 4, h | 5, h | 6, h | 7, h | 8, h | 9, h | 10, h | 11, h | 13, h | 14, h => exact h
    | n + 15, h => exact h
  · refine w.put (i := 13) (by decide) upd_same fun j H' hj h => ?_
    match j, h with
    | 13, h => exact absurd rfl hj
    | 0, h | 1, h | 2, h | 3, h | 4, h | 5, h | 6, h | 7, h | 8, h | 9, h | 10, h | 11, h | 12, h | 14, h => exact h
    | n + 15, h => exact h
/-- the same world told by another state -/
theorem W.is (w : W G e g H r) (h : r = r') : W G e g H r' := h ▸ w
end
end SH
end
section
namespace SH
open PySem PySem.Spec PyProof.Rows L2
/-! ### what is not ours -/
structure Jk (e : En) (g D : Addr) : Prop where
  h0 : e.H0 D = none
  ne : ∀ i, i < 14 → e.a i ≠ D
  ng : g ≠ D
section
variable {G : Gl5} {e : En} {g : Addr} {H H' : Hp} {r r' : RS} {D : Addr}
theorem W.there (w : W G e g H r) {i : Nat} (hi : i < 15) : ∃ o, H (adr e g i) = some o := by
  have hh := w.cell i
  match i, hi, hh with
  | 0, _, hh => exact ⟨_, hh⟩
  | 1, _, ⟨_, hh, _⟩ => exact ⟨_, hh⟩
  | 2, _, ⟨_, hh, _⟩ => exact ⟨_, hh⟩
  | 3, _, hh => exact ⟨_, hh⟩
  | 4, _, hh => exact ⟨_, hh⟩
  | 5, _, hh => exact ⟨_, hh⟩
  | 6, _, hh => exact ⟨_, hh⟩
  | 7, _, hh => exact ⟨_, hh⟩
  | 8, _, hh => exact ⟨_, hh⟩
  | 9, _, hh => exact ⟨_, hh⟩
  | 10, _, ⟨_, _, hh⟩ => exact ⟨_, hh⟩
  | 11, _, ⟨_, hh, _⟩ => exact ⟨_, hh⟩
  | 12, _, hh => exact ⟨_, hh⟩
  | 13, _, hh => exact ⟨_, hh⟩
  | 14, _, ⟨_, hh, _⟩ => exact ⟨_, hh⟩
  | n + 15, hi, _ => omega
theorem W.ne_new (w : W G e g H r) (hD : H D = none) {i : Nat} (hi : i < 15) : adr e g i ≠ D := fun z => by
  obtain ⟨o, ho⟩ := w.there hi
  rw [z, hD] at ho
  cases ho
theorem W.jk (w : W G e g H r) (hD : H D = none) : Jk e g D := by
  refine ⟨w.same.free hD, fun i hi => ?_, ?_⟩
  · have := w.ne_new hD (i := i) (by omega)
    unfold adr at this
    rw [if_neg (by omega)] at this
    exact this
  · exact w.ne_new hD (i := 14) (by omega)
theorem W.junk (w : W G e g H r) (j : Jk e g D) (n : NoTup H D) {o : HO} : W G e g (upd H D o) r := by
  refine ⟨w.im, w.same.own j.h0, w.g0, w.ng, fun i => cell_mono (x := D) But.upd n (fun hi => ?_) (w.cell i)⟩
  unfold adr
  split
  · exact j.ng
  · exact j.ne i (by omega)
theorem noTup_lst {xs : List V} (h : H D = some (.lst xs)) : NoTup H D := fun ys z => by
  rw [h] at z
  cases z
end
/-! ### comprehensions whose turns leave the heap to an invariant I (the new list's items so far) -/
section
variable {K : PySem.W.Frag} {a D : Addr} {xs : List V} {g : TG} {tt : TT} {te : TE} {vs : List Nat} {σ : L2.St} {H1 : Hp} {Qd : Hp → Prop}
theorem lc_gen (I : List V → Hp → Prop) (p : V → Bool) (f : V → V) (h0 : I [] (upd H1 D (.lst []))) (hx : ∀ acc H, I acc H → SqL K H a xs) (hD : ∀ acc H, I acc H → H D = some (.lst acc))
    (hn : ∀ acc H y, I acc H → I (acc ++ [y]) (upd H D (.lst (acc ++ [y])))) (hl : xs.length < sizeLine)
    (turn : ∀ x ∈ xs, ∀ acc H, I acc H → ∀ (Y : V → Hp → Prop) (N : Hp → Prop), (p x = true → ∀ H4, I acc H4 → Y (f x) H4) → (p x = false → ∀ H3, I acc H3 → N H3) →
      g x (wipe σ vs) H fun σ2 H2 => wipe σ2 vs = wipe σ vs ∧ tt σ2 H2 fun b H3 => if b = true then te σ2 H3 Y else N H3)
    (hd : ∀ H, I ((xs.filter p).map f) H → Qd H) :
    ∃ W : Nat → Nat → Hp → Prop, (∃ m, W 0 m (upd H1 D (.lst []))) ∧ ∀ i m H, W i m H →
      ((Itl K a).stop i H ∧ Qd H) ∨ ((Itl K a).go i H ∧ ∃ Nx : Hp → Prop, (∀ H', Nx H' → ∃ m', m' < m ∧ W (i + 1) m' H') ∧ ∀ x H', (Itl K a).yld i H x H' → g x (wipe σ vs) H' fun σ2 H2 => wipe σ2 vs = wipe σ vs ∧ tt σ2 H2 fun b H3 =>
        if b = true then te σ2 H3 fun y H4 => ∃ acc, H4 D = some (.lst acc) ∧ acc.length < sizeLine ∧ Nx (upd H4 D (.lst (acc ++ [y]))) else Nx H3) := by
  refine lc_list (K := K) (a := a) (xs := xs) (fun i H => I (((xs.take i).filter p).map f) H) (by simpa using h0) (fun i H _ h => hx _ H h) (fun i x H hi h => ?_) (fun H h => hd H (by rw [List.take_length] at h; exact h))
  have hm : x ∈ xs := List.mem_of_getElem? hi
  have ht : xs.take (i + 1) = xs.take i ++ [x] := by rw [List.take_add_one, hi]; rfl
  have hlen : (((xs.take i).filter p).map f).length < sizeLine := by
    rw [List.length_map]
    have h1 := List.length_filter_le p (xs.take i)
    have h2 : (xs.take i).length ≤ xs.length := List.length_take_le' _ _
    omega
  refine turn x hm _ H h (fun y H4 => ∃ acc, H4 D = some (.lst acc) ∧ acc.length < sizeLine ∧ I (((xs.take (i + 1)).filter p).map f) (upd H4 D (.lst (acc ++ [y])))) (fun H3 => I (((xs.take (i + 1)).filter p).map f) H3) (fun hp H4 h4 => ?_) (fun hp H3 h3 => ?_)
  · refine ⟨_, hD _ _ h4, hlen, ?_⟩
    have := hn _ _ (f x) h4
    rw [ht, List.filter_append, List.filter_cons_of_pos hp, List.filter_nil, List.map_append]
    exact this
  · rw [ht, List.filter_append, List.filter_cons_of_neg (by rw [hp]; exact Bool.false_ne_true), List.filter_nil, List.append_nil]
    exact h3
theorem lc_genT (I : List V → Hp → Prop) (p : V → Bool) (f : V → V) (h0 : I [] (upd H1 D (.lst []))) (hx : ∀ acc H, I acc H → SqT K H a xs) (hD : ∀ acc H, I acc H → H D = some (.lst acc))
    (hn : ∀ acc H y, I acc H → I (acc ++ [y]) (upd H D (.lst (acc ++ [y])))) (hl : xs.length < sizeLine)
    (turn : ∀ x ∈ xs, ∀ acc H, I acc H → ∀ (Y : V → Hp → Prop) (N : Hp → Prop), (p x = true → ∀ H4, I acc H4 → Y (f x) H4) → (p x = false → ∀ H3, I acc H3 → N H3) →
      g x (wipe σ vs) H fun σ2 H2 => wipe σ2 vs = wipe σ vs ∧ tt σ2 H2 fun b H3 => if b = true then te σ2 H3 Y else N H3)
    (hd : ∀ H, I ((xs.filter p).map f) H → Qd H) :
    ∃ W : Nat → Nat → Hp → Prop, (∃ m, W 0 m (upd H1 D (.lst []))) ∧ ∀ i m H, W i m H →
      ((Itt K a).stop i H ∧ Qd H) ∨ ((Itt K a).go i H ∧ ∃ Nx : Hp → Prop, (∀ H', Nx H' → ∃ m', m' < m ∧ W (i + 1) m' H') ∧ ∀ x H', (Itt K a).yld i H x H' → g x (wipe σ vs) H' fun σ2 H2 => wipe σ2 vs = wipe σ vs ∧ tt σ2 H2 fun b H3 =>
        if b = true then te σ2 H3 fun y H4 => ∃ acc, H4 D = some (.lst acc) ∧ acc.length < sizeLine ∧ Nx (upd H4 D (.lst (acc ++ [y]))) else Nx H3) := by
  refine lc_tup (K := K) (a := a) (xs := xs) (fun i H => I (((xs.take i).filter p).map f) H) (by simpa using h0) (fun i H _ h => hx _ H h) (fun i x H hi h => ?_) (fun H h => hd H (by rw [List.take_length] at h; exact h))
  have hm : x ∈ xs := List.mem_of_getElem? hi
  have ht : xs.take (i + 1) = xs.take i ++ [x] := by rw [List.take_add_one, hi]; rfl
  have hlen : (((xs.take i).filter p).map f).length < sizeLine := by
    rw [List.length_map]
    have h1 := List.length_filter_le p (xs.take i)
    have h2 : (xs.take i).length ≤ xs.length := List.length_take_le' _ _
    omega
  refine turn x hm _ H h (fun y H4 => ∃ acc, H4 D = some (.lst acc) ∧ acc.length < sizeLine ∧ I (((xs.take (i + 1)).filter p).map f) (upd H4 D (.lst (acc ++ [y])))) (fun H3 => I (((xs.take (i + 1)).filter p).map f) H3) (fun hp H4 h4 => ?_) (fun hp H3 h3 => ?_)
  · refine ⟨_, hD _ _ h4, hlen, ?_⟩
    have := hn _ _ (f x) h4
    rw [ht, List.filter_append, List.filter_cons_of_pos hp, List.filter_nil, List.map_append]
    exact this
  · rw [ht, List.filter_append, List.filter_cons_of_neg (by rw [hp]; exact Bool.false_ne_true), List.filter_nil, List.append_nil]
    exact h3
end
/-- a comprehension over a list of tuples (W kept): the turn x is a tuple of the list -/
theorem map_const_ref {rs : List Addr} : ∀ {x : V}, x ∈ rs.map V.ref → ∃ a ∈ rs, x = .ref a := fun h => by
  obtain ⟨a, h1, h2⟩ := List.mem_map.mp h
  exact ⟨a, h1, h2.symm⟩
/-- the same invariants: W, the new list at D, the source -/
structure Lw (G : Gl5) (e : En) (g : Addr) (r : RS) (D : Addr) (acc : List V) (H : Hp) : Prop where
  w : W G e g H r
  jk : Jk e g D
  d : H D = some (.lst acc)
theorem Lw.start {G : Gl5} {e : En} {g : Addr} {r : RS} {D : Addr} {H : Hp} (w : W G e g H r) (hD : H D = none) : Lw G e g r D [] (upd H D (.lst [])) := ⟨w.new hD, w.jk hD, upd_same⟩
theorem Lw.next {G : Gl5} {e : En} {g : Addr} {r : RS} {D : Addr} {acc : List V} {H : Hp} {y : V} (h : Lw G e g r D acc H) : Lw G e g r D (acc ++ [y]) (upd H D (.lst (acc ++ [y]))) := ⟨h.w.junk h.jk (noTup_lst h.d), h.jk, upd_same⟩
end SH
end
section
namespace SH
open PySem PySem.Spec PyProof.Rows L2
/-- filter and map over addresses and what stands there -/
def fm (p : List V → Bool) (f : Addr → List V → V) : List Addr → List (List V) → List V
  | a :: as, x :: xs => if p x = true then f a x :: fm p f as xs else fm p f as xs
  | _, _ => []
theorem fm_nil (p : List V → Bool) (f : Addr → List V → V) (xs : List (List V)) : fm p f [] xs = [] := by cases xs <;> rfl
theorem fm_snoc {p : List V → Bool} {f : Addr → List V → V} {a : Addr} {x : List V} : ∀ {as : List Addr} {xs : List (List V)}, as.length = xs.length → fm p f (as ++ [a]) (xs ++ [x]) = fm p f as xs ++ (if p x = true then [f a x] else [])
  | [], [], _ => by
    show (if p x = true then f a x :: fm p f [] [] else fm p f [] []) = _
    split <;> rfl
  | b :: as, y :: xs, h => by
    have ih := fm_snoc (p := p) (f := f) (a := a) (x := x) (as := as) (xs := xs) (Nat.succ.inj h)
    show (if p y = true then f b y :: fm p f (as ++ [a]) (xs ++ [x]) else fm p f (as ++ [a]) (xs ++ [x])) = (if p y = true then f b y :: fm p f as xs else fm p f as xs) ++ _
    rw [ih]
    split <;> rfl
  | [], _ :: _, h => by cases h
  | _ :: _, [], h => by cases h
theorem fm_len {p : List V → Bool} {f : Addr → List V → V} : ∀ {as : List Addr} {xs : List (List V)}, (fm p f as xs).length ≤ xs.length
  | [], xs => by rw [fm_nil]; exact Nat.zero_le _
  | a :: as, [] => Nat.zero_le _
  | a :: as, x :: xs => by
    show (if p x = true then f a x :: fm p f as xs else fm p f as xs).length ≤ _
    have := fm_len (p := p) (f := f) (as := as) (xs := xs)
    split
    · exact Nat.succ_le_succ this
    · exact Nat.le_succ_of_le this
/-- values that do not hang on the address -/
theorem fm_val {p : List V → Bool} {f : List V → V} : ∀ {as : List Addr} {xs : List (List V)}, as.length = xs.length → fm p (fun _ x => f x) as xs = (xs.filter p).map f
  | [], [], _ => rfl
  | b :: as, y :: xs, h => by
    show (if p y = true then f y :: fm p (fun _ x => f x) as xs else fm p (fun _ x => f x) as xs) = _
    rw [fm_val (Nat.succ.inj h), List.filter_cons]
    split <;> rfl
  | [], _ :: _, h => by cases h
  | _ :: _, [], h => by cases h
/-- the addresses themselves -/
theorem fm_ref {p : List V → Bool} {H : Hp} : ∀ {as : List Addr} {xs : List (List V)}, TP H as xs → ∃ rs, fm p (fun a _ => .ref a) as xs = rs.map V.ref ∧ TP H rs (xs.filter p)
  | [], [], _ => ⟨[], rfl, True.intro⟩
  | b :: as, y :: xs, h => by
    obtain ⟨rs, h1, h2⟩ := fm_ref (p := p) h.2
    show ∃ rs, (if p y = true then V.ref b :: fm p (fun a _ => .ref a) as xs else fm p (fun a _ => .ref a) as xs) = rs.map V.ref ∧ TP H rs (List.filter p (y :: xs))
    rw [List.filter_cons]
    split
    · exact ⟨b :: rs, by rw [h1]; rfl, h.1, h2⟩
    · exact ⟨rs, h1, h2⟩
  | [], _ :: _, h => h.elim
  | _ :: _, [], h => h.elim
section
variable {G : Gl5} {e : En} {gg : Addr} {r : RS} {a D : Addr} {rs : List Addr} {xs : List (List V)} {g : TG} {tt : TT} {te : TE} {vs : List Nat} {σ : L2.St} {H1 : Hp} {Qd : Hp → Prop}
/-- a comprehension over a list of tuples: nothing is changed by a turn -/
theorem lc_tups (p : List V → Bool) (f : Addr → List V → V) (w : W G e gg H1 r) (hD : H1 D = none) (ha : H1 a = some (.lst (rs.map V.ref))) (tp : TP H1 rs xs) (hl : xs.length < sizeLine)
    (turn : ∀ b x H, H b = some (.tup x) → x ∈ xs → W G e gg H r → ∀ (Y : V → Hp → Prop) (N : Hp → Prop), (p x = true → Y (f b x) H) → (p x = false → N H) →
      g (.ref b) (wipe σ vs) H fun σ2 H2 => wipe σ2 vs = wipe σ vs ∧ tt σ2 H2 fun b H3 => if b = true then te σ2 H3 Y else N H3)
    (hd : ∀ H, Lw G e gg r D (fm p f rs xs) H → (∀ b o, H1 b = some o → H b = some o) → Qd H) :
    ∃ W : Nat → Nat → Hp → Prop, (∃ m, W 0 m (upd H1 D (.lst []))) ∧ ∀ i m H, W i m H →
      ((Itl G.K a).stop i H ∧ Qd H) ∨ ((Itl G.K a).go i H ∧ ∃ Nx : Hp → Prop, (∀ H', Nx H' → ∃ m', m' < m ∧ W (i + 1) m' H') ∧ ∀ x H', (Itl G.K a).yld i H x H' → g x (wipe σ vs) H' fun σ2 H2 => wipe σ2 vs = wipe σ vs ∧ tt σ2 H2 fun b H3 =>
        if b = true then te σ2 H3 fun y H4 => ∃ acc, H4 D = some (.lst acc) ∧ acc.length < sizeLine ∧ Nx (upd H4 D (.lst (acc ++ [y]))) else Nx H3) := by
  have hlen := tp.len
  refine lc_list (K := G.K) (a := a) (xs := rs.map V.ref) (fun i H => Lw G e gg r D (fm p f (rs.take i) (xs.take i)) H ∧ Same H1 H) ⟨by simpa [fm] using Lw.start w hD, Same.new hD⟩ (fun i H _ h => SqL.of (h.2 _ _ ha)) (fun i x H hi h => ?_) (fun H h => ?_)
  · obtain ⟨h1, h2⟩ := h
    rw [List.getElem?_map] at hi
    obtain ⟨b, hb, rfl⟩ : ∃ b, rs[i]? = some b ∧ x = .ref b := by
      cases q : rs[i]? with
      | none => rw [q] at hi; cases hi
      | some b => rw [q] at hi; exact ⟨b, rfl, (Option.some.inj hi).symm⟩
    obtain ⟨x, hx, hbx⟩ := tp.at2 hb
    have t1 : rs.take (i + 1) = rs.take i ++ [b] := by rw [List.take_add_one, hb]; rfl
    have t2 : xs.take (i + 1) = xs.take i ++ [x] := by rw [List.take_add_one, hx]; rfl
    have hs : fm p f (rs.take (i + 1)) (xs.take (i + 1)) = fm p f (rs.take i) (xs.take i) ++ (if p x = true then [f b x] else []) := by
      rw [t1, t2]
      exact fm_snoc (by rw [List.length_take, List.length_take, hlen])
    refine turn b x H (h2 _ _ hbx) (List.mem_of_getElem? hx) h1.w (fun y H4 => ∃ acc, H4 D = some (.lst acc) ∧ acc.length < sizeLine ∧ Lw G e gg r D (fm p f (rs.take (i + 1)) (xs.take (i + 1))) (upd H4 D (.lst (acc ++ [y]))) ∧ Same H1 (upd H4 D (.lst (acc ++ [y])))) (fun H3 => Lw G e gg r D (fm p f (rs.take (i + 1)) (xs.take (i + 1))) H3 ∧ Same H1 H3) (fun hp => ?_) (fun hp => ?_)
    · refine ⟨_, h1.d, ?_, ?_, h2.own hD⟩
      · have q1 := fm_len (p := p) (f := f) (as := rs.take i) (xs := xs.take i)
        have q2 : (xs.take i).length ≤ xs.length := List.length_take_le' _ _
        omega
      · rw [hs, if_pos hp]
        exact h1.next
    · rw [hs, if_neg (by rw [hp]; exact Bool.false_ne_true), List.append_nil]
      exact ⟨h1, h2⟩
  · obtain ⟨h1, h2⟩ := h
    rw [List.length_map, List.take_length, hlen, List.take_length] at h1
    exact hd H h1 h2
end
end SH
end
section
namespace SH
open PySem PySem.Spec PyProof.Rows L2
/-! ### expressions that leave the heap as it is; statements over them -/
section
variable {K : PySem.W.Frag} {σ : L2.St} {H : Hp} {D : Ends} {ta tb tc to ti te : TE} {tt tu : TT} {t1 t2 tw : TS} {ar : TA} {x y z v : V} {vs : List V} {Q : VK} {b : Bool} {g : TG}
def ValA (ta : TA) (σ : L2.St) (H : Hp) (vs : List V) : Prop := ∀ Q : List V → Hp → Prop, Q vs H → ta σ H Q
theorem va_nil : ValA tNil σ H [] := fun _ q => q
theorem va_cons (h : Val ta σ H x) (h2 : ValA ar σ H vs) : ValA (tCons ta ar) σ H (x :: vs) := fun Q q => h _ (h2 _ q)
theorem v_var {i : Nat} (h : σ[i]? = some (some v)) : Val (tVar i) σ H v := val_var h
theorem v_c : Val (tC v) σ H v := val_c
theorem v_I {f : Int → Int → V} {i j : Int} (ha : Val ta σ H (.int i)) (hb : Val tb σ H (.int j)) : Val (tOp (rI0 f) ta tb) σ H (f i j) := fun Q q => ha _ (hb _ ⟨_, _, rfl, rfl, q⟩)
theorem v_C {C : Int → Int → Prop} {f : Int → Int → V} {i j : Int} (ha : Val ta σ H (.int i)) (hb : Val tb σ H (.int j)) (hc : C i j) : Val (tOp (rI C f) ta tb) σ H (f i j) := fun Q q => ha _ (hb _ ⟨_, _, rfl, rfl, hc, q⟩)
theorem v_eq (ha : Val ta σ H x) (hb : Val tb σ H y) (h : scal x y = true) : Val (tOp rEq ta tb) σ H (.bl (decide (x = y))) := fun Q q => ha _ (hb _ ⟨h, q⟩)
theorem v_ne (ha : Val ta σ H x) (hb : Val tb σ H y) (h : scal x y = true) : Val (tOp rNe ta tb) σ H (.bl (!decide (x = y))) := fun Q q => ha _ (hb _ ⟨h, q⟩)
theorem v_isN (ha : Val ta σ H x) : Val (tOp (fun x y H Q => y = .non ∧ Q (.bl (decide (x = .non))) H) ta (tC .non)) σ H (.bl (decide (x = .non))) := fun Q q => ha _ ⟨rfl, q⟩
theorem v_notN (ha : Val ta σ H x) : Val (tOp (fun x y H Q => y = .non ∧ Q (.bl (!decide (x = .non))) H) ta (tC .non)) σ H (.bl (!decide (x = .non))) := fun Q q => ha _ ⟨rfl, q⟩
theorem v_max2 {i j : Int} (ha : Val ta σ H (.int i)) (hb : Val tb σ H (.int j)) : Val (tCB (fun xs H Q => ∃ i j, xs = [V.int i, V.int j] ∧ Q (.int (if j > i then j else i)) H) (tCons ta (tCons tb tNil))) σ H (.int (if j > i then j else i)) := fun Q q => ha _ (hb _ ⟨_, _, rfl, q⟩)
theorem v_min2 {i j : Int} (ha : Val ta σ H (.int i)) (hb : Val tb σ H (.int j)) : Val (tCB (fun xs H Q => ∃ i j, xs = [V.int i, V.int j] ∧ Q (.int (if j < i then j else i)) H) (tCons ta (tCons tb tNil))) σ H (.int (if j < i then j else i)) := fun Q q => ha _ (hb _ ⟨_, _, rfl, q⟩)
theorem v_abs {i : Int} (ha : Val ta σ H (.int i)) : Val (tCB (fun xs H Q => ∃ i, xs = [V.int i] ∧ Q (.int (if i < 0 then -i else i)) H) (tCons ta tNil)) σ H (.int (if i < 0 then -i else i)) := fun Q q => ha _ ⟨_, rfl, q⟩
theorem v_intI {i : Int} (ha : Val ta σ H (.int i)) : Val (tCB (fun xs H Q => (∃ i, xs = [V.int i] ∧ Q (.int i) H) ∨ ∃ k, xs = [V.bl k] ∧ Q (.int (if k then 1 else 0)) H) (tCons ta tNil)) σ H (.int i) := fun Q q => ha _ (.inl ⟨_, rfl, q⟩)
theorem v_lenL {p : Addr} {ys : List V} (ha : Val ta σ H (.ref p)) (h : SqL K H p ys) : Val (tCB (rLenK K) (tCons ta tNil)) σ H (.int (ys.length : Int)) := fun Q q => ha _ ⟨_, _, rfl, .inl h, q⟩
theorem v_lenT {p : Addr} {ys : List V} (ha : Val ta σ H (.ref p)) (h : SqT K H p ys) : Val (tCB (rLenK K) (tCons ta tNil)) σ H (.int (ys.length : Int)) := fun Q q => ha _ ⟨_, _, rfl, .inr h, q⟩
theorem v_sum {p : Addr} {ns : List Int} (ha : Val ta σ H (.ref p)) (h : SqL K H p (ns.map V.int)) : Val (tCB (rSum K) (tCons ta tNil)) σ H (.int ns.sum) := fun Q q => ha _ ⟨_, _, rfl, h, q⟩
theorem v_isi {t u : Value} (ha : Val ta σ H x) (hb : Val tb σ H y) (k : ClsV y u) (ty : TyX K H x t) (e : PySem.W.kitOne K t u = some b) : Val (tCB (rIsi K) (tCons ta (tCons tb tNil))) σ H (.bl b) := fun Q q => ha _ (hb _ ⟨x, y, t, u, b, rfl, k, ty, e, q⟩)
theorem v_sqL {p : Addr} {xs : List V} {k : Int} (h : Val ta σ H (.ref p)) (hi : Val ti σ H (.int k)) (hp : SqL K H p xs) (ha : atI xs k = some v) : Val (tOp (rIxL K) ta ti) σ H v := fun Q q => h _ (hi _ ⟨_, _, _, _, rfl, rfl, hp, ha, q⟩)
theorem v_sqT {p : Addr} {xs : List V} {k : Int} (h : Val ta σ H (.ref p)) (hi : Val ti σ H (.int k)) (hp : SqT K H p xs) (ha : atI xs k = some v) : Val (tOp (rIxT K) ta ti) σ H v := fun Q q => h _ (hi _ ⟨_, _, _, _, rfl, rfl, hp, ha, q⟩)
theorem v_fl {a C dx : Addr} {fs : List (Str × V)} {f : Str} (h : Val ta σ H (.ref a)) (ho : H a = some (.ins C dx fs)) (hc : Cls K C) (hn : NoAttr K C f) (hl : fs.lookup f = some v) : Val (tFld K ta f) σ H v := val_fld h ho hc hn hl
theorem v_in {p : Addr} {xs : List V} (ha : Val ta σ H x) (hb : Val tb σ H (.ref p)) (h : SqT K H p xs) (f1 : flatV x = true) (f2 : xs.all flatV = true) : Val (tOp (rIn K false) ta tb) σ H (.bl (inV x xs)) := fun Q q => ha _ (hb _ ⟨_, _, rfl, .inr h, f1, f2, q⟩)
theorem v_inL {p : Addr} {xs : List V} (ha : Val ta σ H x) (hb : Val tb σ H (.ref p)) (h : SqL K H p xs) (f1 : flatV x = true) (f2 : xs.all flatV = true) : Val (tOp (rIn K false) ta tb) σ H (.bl (inV x xs)) := fun Q q => ha _ (hb _ ⟨_, _, rfl, .inl h, f1, f2, q⟩)
theorem v_notIn {p : Addr} {xs : List V} (ha : Val ta σ H x) (hb : Val tb σ H (.ref p)) (h : SqT K H p xs) (f1 : flatV x = true) (f2 : xs.all flatV = true) : Val (tOp (rIn K true) ta tb) σ H (.bl (!inV x xs)) := fun Q q => ha _ (hb _ ⟨_, _, rfl, .inr h, f1, f2, q⟩)
theorem v_notV (ha : Val ta σ H (.bl b)) : Val (tNotV ta) σ H (.bl (!b)) := fun Q q => ha _ ⟨_, rfl, q⟩
theorem v_andV {c : Bool} (ha : Val ta σ H (.bl b)) (hb : b = true → Val tb σ H (.bl c)) : Val (tAndV ta tb) σ H (.bl (b && c)) := fun Q q => ha _ ⟨_, rfl, by
  cases b with
  | true => exact iteT (hb rfl _ q)
  | false => exact iteF q⟩
theorem v_orV {c : Bool} (ha : Val ta σ H (.bl b)) (hb : b = false → Val tb σ H (.bl c)) : Val (tOrV ta tb) σ H (.bl (b || c)) := fun Q q => ha _ ⟨_, rfl, by
  cases b with
  | true => exact iteT q
  | false => exact iteF (hb rfl _ q)⟩
theorem v_chain {f h : Int → Int → Bool} {i j k : Int} (ha : Val ta σ H (.int i)) (hb : Val tb σ H (.int j)) (hc : Val tc σ H (.int k)) : Val (tChain (rI0 fun i j => .bl (f i j)) (rI0 fun i j => .bl (h i j)) ta tb tc) σ H (.bl (f i j && h j k)) := fun Q q => ha _ (hb _ ⟨_, _, rfl, rfl, _, rfl, by
  cases e : f i j with
  | true =>
    rw [e, Bool.true_and] at q
    exact iteT (hc _ ⟨_, _, rfl, rfl, q⟩)
  | false =>
    rw [e, Bool.false_and] at q
    exact iteF q⟩)
theorem v_if (ht : Ans tt σ H b) (h1 : b = true → Val ta σ H x) (h2 : b = false → Val tb σ H x) : Val (tIf tt ta tb) σ H x := fun Q q => ht _ (by
  cases b with
  | true => exact iteT (h1 rfl _ q)
  | false => exact iteF (h2 rfl _ q))
theorem v_is (h : Val ta σ H x) (e : x = y) : Val ta σ H y := e ▸ h
/-! tests -/
theorem a_B (h : Val ta σ H (.bl b)) : Ans (tB ta) σ H b := ans_val h
theorem a_T (h : Val ta σ H (.bl b)) : Ans (tTest ta) σ H b := fun Q q => h _ ⟨_, rfl, q⟩
theorem a_not (h : Ans tt σ H b) : Ans (tNot tt) σ H (!b) := ans_not h
theorem a_and {c : Bool} (h1 : Ans tt σ H b) (h2 : b = true → Ans tu σ H c) : Ans (tAnd tt tu) σ H (b && c) := by
  cases b with
  | true => exact ans_and h1 (h2 rfl)
  | false => exact ans_and0 h1
theorem a_or {c : Bool} (h1 : Ans tt σ H b) (h2 : b = false → Ans tu σ H c) : Ans (tOr tt tu) σ H (b || c) := by
  cases b with
  | true => exact ans_or1 h1
  | false => exact ans_or h1 (h2 rfl)
theorem a_is {c : Bool} (h : Ans tt σ H b) (e : b = c) : Ans tt σ H c := e ▸ h
/-! statements -/
theorem x_seq (h : t1 { D with nx := t2 D } σ H) : tSeq t1 t2 D σ H := h
theorem x_ret (h : Val te σ H v) (q : D.rt v H) : tRet te D σ H := h _ q
theorem x_set {i : Nat} (h : Val te σ H v) (q : D.nx (σ.set i (some v)) H) : tAsg te (gName i) D σ H := h _ q
theorem x_if (h : Ans tt σ H b) (h1 : b = true → t1 D σ H) (h2 : b = false → t2 D σ H) : tIfS tt t1 t2 D σ H := h _ (by
  cases b with
  | true => exact iteT (h1 rfl)
  | false => exact iteF (h2 rfl))
theorem x_setL {p : Addr} {xs : List V} {k : Int} {j : Nat} (h : Val te σ H v) (ho : Val to σ H (.ref p)) (hi : Val ti σ H (.int k)) (hp : H p = some (.lst xs)) (hj : ixN xs.length k = some j) (q : D.nx σ (upd H p (.lst (xs.set j v)))) : tAsg te (gSub to ti rSetL) D σ H :=
  h _ (ho _ (hi _ ⟨_, _, _, _, rfl, rfl, hp, hj, q⟩))
theorem x_fld {a C dx : Addr} {fs : List (Str × V)} {f : Str} (h : Val te σ H v) (ho : Val ta σ H (.ref a)) (hp : H a = some (.ins C dx fs)) (hc : Cls K C) (hn : NoAttr K C f) (hl : fs.length < 1000) (q : D.nx σ (upd H a (.ins C dx (putF f v fs)))) : sFld K ta te f D σ H :=
  h _ (ho _ ⟨_, _, _, _, rfl, hp, hc, hn, hl, q⟩)
theorem x_tup (h : ValA ar σ H vs) (hl : vs.length ≤ sizeLine) (q : ∀ p, H p = none → Q (.ref p) (upd H p (.tup vs))) : tTup ar σ H Q := h _ ⟨hl, q⟩
theorem x_augL {p : Addr} {xs : List V} {j : Nat} {i1 i2 : Int} {f : Int → Int → Int} (ho : Val to σ H (.ref p)) (hi : Val ti σ H (.int (j : Int))) (hp : H p = some (.lst xs)) (hx : xs[j]? = some (.int i1)) (h : Val te σ H (.int i2)) (q : D.nx σ (upd H p (.lst (xs.set j (.int (f i1 i2)))))) :
    tAugS to ti te (rIxN K) (ipI f) rSetL D σ H := ho _ (hi _ ⟨_, _, _, _, rfl, rfl, SqL.of hp, hx, h _ ⟨_, _, rfl, rfl, _, _, _, _, rfl, rfl, hp, (by
      have hl := (List.getElem?_eq_some_iff.mp hx).1
      unfold ixN
      rw [if_pos (by omega), if_pos (by omega), Int.toNat_natCast]), q⟩⟩)
theorem x_aug {i : Nat} {f : Int → Int → Int} {a c : Int} (hx : σ[i]? = some (some (.int a))) (h : Val te σ H (.int c)) (q : D.nx (σ.set i (some (.int (f a c)))) H) : tAug i te (ipI f) D σ H := ⟨_, hx, h _ ⟨_, _, rfl, rfl, q⟩⟩
theorem x_app {l : Addr} {xs : List V} (ho : Val to σ H (.ref l)) (hp : H l = some (.lst xs)) (hl : xs.length < sizeLine) (h : te σ H fun y H1 => H1 l = some (.lst xs) ∧ D.nx σ (upd H1 l (.lst (xs ++ [y])))) (mono : ∀ {Q Q' : VK}, te σ H Q → (∀ v H', Q v H' → Q' v H') → te σ H Q') :
    tDrop (tBM K "list" rAppend to (tCons te tNil)) D σ H := ho _ ⟨.inl ⟨rfl, _, SqL.of hp⟩, mono h fun y H1 q => ⟨_, _, _, rfl, rfl, q.1, hl, q.2⟩⟩
/-- l.append((..)), the items read at one heap -/
theorem x_appT {l : Addr} {xs : List V} (ho : Val to σ H (.ref l)) (hp : H l = some (.lst xs)) (hl : xs.length < sizeLine) (h : ValA ar σ H vs) (hv : vs.length ≤ sizeLine) (q : ∀ p, H p = none → D.nx σ (upd (upd H p (.tup vs)) l (.lst (xs ++ [.ref p])))) :
    tDrop (tBM K "list" rAppend to (tCons (tTup ar) tNil)) D σ H := ho _ ⟨.inl ⟨rfl, _, SqL.of hp⟩, h _ ⟨hv, fun p hn => ⟨_, _, _, rfl, rfl, (by rw [upd_ne (ne_of_none hp hn)]; exact hp), hl, q p hn⟩⟩⟩
theorem x_appV {l : Addr} {xs : List V} (ho : Val to σ H (.ref l)) (hp : H l = some (.lst xs)) (hl : xs.length < sizeLine) (h : Val te σ H v) (q : D.nx σ (upd H l (.lst (xs ++ [v])))) :
    tDrop (tBM K "list" rAppend to (tCons te tNil)) D σ H := ho _ ⟨.inl ⟨rfl, _, SqL.of hp⟩, h _ ⟨_, _, _, rfl, rfl, hp, hl, q⟩⟩
/-- a method called: its promise at the values -/
theorem m_call {C : Addr} {mm : Str} {sp : Sp} {a dx : Addr} {fs : List (Str × V)} {E : XK} (ho : Val to σ H (.ref a)) (hp : H a = some (.ins C dx fs)) (hm : fs.lookup mm = none) (h : ValA ar σ H vs) (q : sp (.ref a :: vs) H Q E) : tMeth C mm sp [] E to ar σ H Q :=
  ho _ ⟨_, _, _, rfl, hp, hm, h _ (by rw [List.append_nil]; exact q)⟩
theorem c_call {sp : Sp} {E : XK} (h : ValA ar σ H vs) (q : sp vs H Q E) : tCall sp [] E ar σ H Q := h _ (by rw [List.append_nil]; exact q)
theorem x_drop (h : te σ H fun _ H1 => D.nx σ H1) : tDrop te D σ H := h
theorem x_asgE (h : te σ H fun x H1 => g x σ H1 D.nx) : tAsg te g D σ H := h
theorem x_retE (h : te σ H D.rt) : tRet te D σ H := h
theorem x_unpack2 {i j : Nat} {p : Addr} {x1 x2 : V} (h : Val te σ H (.ref p)) (hp : SqT K H p [x1, x2]) (q : D.nx ((σ.set i (some x1)).set j (some x2)) H) : tAsg te (gTup K 2 (gCons (gName i) (gCons (gName j) gNil))) D σ H :=
  h _ ⟨_, _, rfl, hp, rfl, _, _, rfl, _, _, rfl, rfl, q⟩
/-! the same, something behind -/
theorem y_set {i : Nat} (h : Val te σ H v) (q : t2 D (σ.set i (some v)) H) : tSeq (tAsg te (gName i)) t2 D σ H := x_set (D := { D with nx := t2 D }) h q
theorem y_if (h : Ans tt σ H b) (h1 : b = true → t1 { D with nx := t2 D } σ H) (h2 : b = false → tw { D with nx := t2 D } σ H) : tSeq (tIfS tt t1 tw) t2 D σ H := x_if (D := { D with nx := t2 D }) h h1 h2
theorem y_when (h : Ans tt σ H b) (h1 : b = true → t1 { D with nx := t2 D } σ H) (h2 : b = false → t2 D σ H) : tSeq (tIfS tt t1 tNext) t2 D σ H := x_if (D := { D with nx := t2 D }) h h1 h2
theorem y_skip (h : Ans tt σ H false) (q : t2 D σ H) : tSeq (tIfS tt t1 tNext) t2 D σ H := x_if (D := { D with nx := t2 D }) h (fun z => by cases z) (fun _ => q)
theorem y_setL {p : Addr} {xs : List V} {k : Int} {j : Nat} (h : Val te σ H v) (ho : Val to σ H (.ref p)) (hi : Val ti σ H (.int k)) (hp : H p = some (.lst xs)) (hj : ixN xs.length k = some j) (q : t2 D σ (upd H p (.lst (xs.set j v)))) : tSeq (tAsg te (gSub to ti rSetL)) t2 D σ H :=
  x_setL (D := { D with nx := t2 D }) h ho hi hp hj q
theorem y_fld {a C dx : Addr} {fs : List (Str × V)} {f : Str} (h : Val te σ H v) (ho : Val ta σ H (.ref a)) (hp : H a = some (.ins C dx fs)) (hc : Cls K C) (hn : NoAttr K C f) (hl : fs.length < 1000) (q : t2 D σ (upd H a (.ins C dx (putF f v fs)))) : tSeq (sFld K ta te f) t2 D σ H :=
  x_fld (D := { D with nx := t2 D }) h ho hp hc hn hl q
theorem y_augL {p : Addr} {xs : List V} {j : Nat} {i1 i2 : Int} {f : Int → Int → Int} (ho : Val to σ H (.ref p)) (hi : Val ti σ H (.int (j : Int))) (hp : H p = some (.lst xs)) (hx : xs[j]? = some (.int i1)) (h : Val te σ H (.int i2)) (q : t2 D σ (upd H p (.lst (xs.set j (.int (f i1 i2)))))) :
    tSeq (tAugS to ti te (rIxN K) (ipI f) rSetL) t2 D σ H := x_augL (D := { D with nx := t2 D }) ho hi hp hx h q
theorem y_aug {i : Nat} {f : Int → Int → Int} {a c : Int} (hx : σ[i]? = some (some (.int a))) (h : Val te σ H (.int c)) (q : t2 D (σ.set i (some (.int (f a c)))) H) : tSeq (tAug i te (ipI f)) t2 D σ H := x_aug (D := { D with nx := t2 D }) hx h q
theorem y_appT {l : Addr} {xs : List V} (ho : Val to σ H (.ref l)) (hp : H l = some (.lst xs)) (hl : xs.length < sizeLine) (h : ValA ar σ H vs) (hv : vs.length ≤ sizeLine) (q : ∀ p, H p = none → t2 D σ (upd (upd H p (.tup vs)) l (.lst (xs ++ [.ref p])))) :
    tSeq (tDrop (tBM K "list" rAppend to (tCons (tTup ar) tNil))) t2 D σ H := x_appT (D := { D with nx := t2 D }) ho hp hl h hv q
theorem y_appV {l : Addr} {xs : List V} (ho : Val to σ H (.ref l)) (hp : H l = some (.lst xs)) (hl : xs.length < sizeLine) (h : Val te σ H v) (q : t2 D σ (upd H l (.lst (xs ++ [v])))) :
    tSeq (tDrop (tBM K "list" rAppend to (tCons te tNil))) t2 D σ H := x_appV (D := { D with nx := t2 D }) ho hp hl h q
theorem y_drop (h : te σ H fun _ H1 => t2 D σ H1) : tSeq (tDrop te) t2 D σ H := h
theorem y_asgE (h : te σ H fun x H1 => g x σ H1 (t2 D)) : tSeq (tAsg te g) t2 D σ H := h
theorem y_unpack2 {i j : Nat} {p : Addr} {x1 x2 : V} (h : Val te σ H (.ref p)) (hp : SqT K H p [x1, x2]) (q : t2 D ((σ.set i (some x1)).set j (some x2)) H) : tSeq (tAsg te (gTup K 2 (gCons (gName i) (gCons (gName j) gNil)))) t2 D σ H :=
  x_unpack2 (D := { D with nx := t2 D }) h hp q
theorem y_for {wi : TI} (h : wi σ H fun J H1 => ∃ W : Nat → Nat → L2.St → Hp → Prop, (∃ m, W 0 m σ H1) ∧ ∀ i m σ H, W i m σ H →
  (J.stop i H ∧ t2 D σ H) ∨ (J.go i H ∧ ∃ N : L2.St → Hp → Prop, (∀ σ' H', N σ' H' → ∃ m', m' < m ∧ W (i + 1) m' σ' H') ∧ ∀ x H', J.yld i H x H' → g x σ H' fun σ2 H2 => t1 { D with nx := N, ct := N, bk := t2 D } σ2 H2)) : tSeq (tFor wi g t1) t2 D σ H := h
theorem x_cut {Mid : Hp → Prop} {Q : Hp → Prop} (h : (∀ H', Mid H' → Q H') → Q H) (k : ∀ H', Mid H' → Q H') : Q H := h k
/-- an if without else, what follows told once, from Mid -/
theorem y_whenC (Mid : Hp → Prop) (h : Ans tt σ H b) (q : ∀ H', Mid H' → t2 D σ H') (h1 : b = true → (∀ H', Mid H' → t2 D σ H') → t1 { D with nx := t2 D } σ H) (h2 : b = false → Mid H) : tSeq (tIfS tt t1 tNext) t2 D σ H :=
  y_when h (fun e => h1 e q) (fun e => q _ (h2 e))
theorem v_add {i j : Int} (ha : Val ta σ H (.int i)) (hb : Val tb σ H (.int j)) : Val (tOp (rI0 fun i j => .int (i + j)) ta tb) σ H (.int (i + j)) := v_I (f := fun i j => .int (i + j)) ha hb
theorem v_sub {i j : Int} (ha : Val ta σ H (.int i)) (hb : Val tb σ H (.int j)) : Val (tOp (rI0 fun i j => .int (i - j)) ta tb) σ H (.int (i - j)) := v_I (f := fun i j => .int (i - j)) ha hb
theorem v_lt {i j : Int} (ha : Val ta σ H (.int i)) (hb : Val tb σ H (.int j)) : Val (tOp (rI0 fun i j => .bl (decide (i < j))) ta tb) σ H (.bl (decide (i < j))) := v_I (f := fun i j => .bl (decide (i < j))) ha hb
theorem v_gt {i j : Int} (ha : Val ta σ H (.int i)) (hb : Val tb σ H (.int j)) : Val (tOp (rI0 fun i j => .bl (decide (j < i))) ta tb) σ H (.bl (decide (j < i))) := v_I (f := fun i j => .bl (decide (j < i))) ha hb
theorem v_le {i j : Int} (ha : Val ta σ H (.int i)) (hb : Val tb σ H (.int j)) : Val (tOp (rI0 fun i j => .bl (decide (i ≤ j))) ta tb) σ H (.bl (decide (i ≤ j))) := v_I (f := fun i j => .bl (decide (i ≤ j))) ha hb
theorem v_ge {i j : Int} (ha : Val ta σ H (.int i)) (hb : Val tb σ H (.int j)) : Val (tOp (rI0 fun i j => .bl (decide (j ≤ i))) ta tb) σ H (.bl (decide (j ≤ i))) := v_I (f := fun i j => .bl (decide (j ≤ i))) ha hb
/-- a comprehension over a list, over a tuple -/
theorem x_lcL {a : Addr} {xs : List V} {tl : TE} {vs : List Nat} (h : Val tl σ H (.ref a)) (hs : SqL K H a xs) (q : ∀ D, H D = none → ∃ W : Nat → Nat → Hp → Prop, (∃ m, W 0 m (upd H D (.lst []))) ∧ ∀ i m H, W i m H →
      ((Itl K a).stop i H ∧ Q (.ref D) H) ∨ ((Itl K a).go i H ∧ ∃ Nx : Hp → Prop, (∀ H', Nx H' → ∃ m', m' < m ∧ W (i + 1) m' H') ∧ ∀ x H', (Itl K a).yld i H x H' → g x (wipe σ vs) H' fun σ2 H2 => wipe σ2 vs = wipe σ vs ∧ tt σ2 H2 fun b H3 =>
        if b = true then te σ2 H3 fun y H4 => ∃ acc, H4 D = some (.lst acc) ∧ acc.length < sizeLine ∧ Nx (upd H4 D (.lst (acc ++ [y]))) else Nx H3)) : tLc (iList K tl) g tt te vs σ H Q := h _ ⟨_, rfl, ⟨_, hs⟩, q⟩
theorem x_lcT {a : Addr} {xs : List V} {tl : TE} {vs : List Nat} (h : Val tl σ H (.ref a)) (hs : SqT K H a xs) (q : ∀ D, H D = none → ∃ W : Nat → Nat → Hp → Prop, (∃ m, W 0 m (upd H D (.lst []))) ∧ ∀ i m H, W i m H →
      ((Itt K a).stop i H ∧ Q (.ref D) H) ∨ ((Itt K a).go i H ∧ ∃ Nx : Hp → Prop, (∀ H', Nx H' → ∃ m', m' < m ∧ W (i + 1) m' H') ∧ ∀ x H', (Itt K a).yld i H x H' → g x (wipe σ vs) H' fun σ2 H2 => wipe σ2 vs = wipe σ vs ∧ tt σ2 H2 fun b H3 =>
        if b = true then te σ2 H3 fun y H4 => ∃ acc, H4 D = some (.lst acc) ∧ acc.length < sizeLine ∧ Nx (upd H4 D (.lst (acc ++ [y]))) else Nx H3)) : tLc (iTup K tl) g tt te vs σ H Q := h _ ⟨_, rfl, ⟨_, hs⟩, q⟩
/-- .. over a tuple just made -/
theorem x_lcN {xs : List V} {vs : List Nat} (h : ValA ar σ H xs) (hl : xs.length ≤ sizeLine) (q : ∀ a, H a = none → ∀ D, upd H a (.tup xs) D = none → ∃ W : Nat → Nat → Hp → Prop, (∃ m, W 0 m (upd (upd H a (.tup xs)) D (.lst []))) ∧ ∀ i m H, W i m H →
      ((Itt K a).stop i H ∧ Q (.ref D) H) ∨ ((Itt K a).go i H ∧ ∃ Nx : Hp → Prop, (∀ H', Nx H' → ∃ m', m' < m ∧ W (i + 1) m' H') ∧ ∀ x H', (Itt K a).yld i H x H' → g x (wipe σ vs) H' fun σ2 H2 => wipe σ2 vs = wipe σ vs ∧ tt σ2 H2 fun b H3 =>
        if b = true then te σ2 H3 fun y H4 => ∃ acc, H4 D = some (.lst acc) ∧ acc.length < sizeLine ∧ Nx (upd H4 D (.lst (acc ++ [y]))) else Nx H3)) : tLc (iTup K (tTup ar)) g tt te vs σ H Q :=
  h _ ⟨hl, fun a ha => ⟨_, rfl, ⟨_, SqT.of upd_same⟩, q a ha⟩⟩
theorem x_forL {a : Addr} {xs : List V} {tl : TE} (h : Val tl σ H (.ref a)) (hs : SqL K H a xs) (Pv : Nat → L2.St → Hp → Prop) (h0 : Pv 0 σ H) (hl : ∀ i σ H, i ≤ xs.length → Pv i σ H → SqL K H a xs)
    (ht : ∀ i x σ H, xs[i]? = some x → Pv i σ H → g x σ H fun σ2 H2 => t1 { D with nx := Pv (i + 1), ct := Pv (i + 1), bk := D.nx } σ2 H2) (hd : ∀ σ H, Pv xs.length σ H → D.nx σ H) : tFor (iList K tl) g t1 D σ H :=
  h _ ⟨_, rfl, ⟨_, hs⟩, for_list Pv h0 hl ht hd⟩
theorem y_forL {a : Addr} {xs : List V} {tl : TE} (h : Val tl σ H (.ref a)) (hs : SqL K H a xs) (Pv : Nat → L2.St → Hp → Prop) (h0 : Pv 0 σ H) (hl : ∀ i σ H, i ≤ xs.length → Pv i σ H → SqL K H a xs)
    (ht : ∀ i x σ H, xs[i]? = some x → Pv i σ H → g x σ H fun σ2 H2 => t1 { D with nx := Pv (i + 1), ct := Pv (i + 1), bk := t2 D } σ2 H2) (hd : ∀ σ H, Pv xs.length σ H → t2 D σ H) : tSeq (tFor (iList K tl) g t1) t2 D σ H := x_forL (D := { D with nx := t2 D }) h hs Pv h0 hl ht hd
theorem x_forT {a : Addr} {xs : List V} {tl : TE} (h : Val tl σ H (.ref a)) (hs : SqT K H a xs) (Pv : Nat → L2.St → Hp → Prop) (h0 : Pv 0 σ H) (hl : ∀ i σ H, i ≤ xs.length → Pv i σ H → SqT K H a xs)
    (ht : ∀ i x σ H, xs[i]? = some x → Pv i σ H → g x σ H fun σ2 H2 => t1 { D with nx := Pv (i + 1), ct := Pv (i + 1), bk := D.nx } σ2 H2) (hd : ∀ σ H, Pv xs.length σ H → D.nx σ H) : tFor (iTup K tl) g t1 D σ H :=
  h _ ⟨_, rfl, ⟨_, hs⟩, for_tup Pv h0 hl ht hd⟩
theorem y_forT {a : Addr} {xs : List V} {tl : TE} (h : Val tl σ H (.ref a)) (hs : SqT K H a xs) (Pv : Nat → L2.St → Hp → Prop) (h0 : Pv 0 σ H) (hl : ∀ i σ H, i ≤ xs.length → Pv i σ H → SqT K H a xs)
    (ht : ∀ i x σ H, xs[i]? = some x → Pv i σ H → g x σ H fun σ2 H2 => t1 { D with nx := Pv (i + 1), ct := Pv (i + 1), bk := t2 D } σ2 H2) (hd : ∀ σ H, Pv xs.length σ H → t2 D σ H) : tSeq (tFor (iTup K tl) g t1) t2 D σ H := x_forT (D := { D with nx := t2 D }) h hs Pv h0 hl ht hd
theorem x_while (W : Nat → L2.St → Hp → Prop) (m0 : Nat) (h0 : W m0 σ H) (ht : ∀ m σ H, W m σ H → tt σ H fun b H1 => if b = true then ∃ N : L2.St → Hp → Prop, (∀ σ' H', N σ' H' → ∃ m', m' < m ∧ W m' σ' H') ∧ t1 { D with nx := N, ct := N, bk := D.nx } σ H1 else D.nx σ H1) : tWhile tt t1 D σ H := ⟨W, ⟨m0, h0⟩, ht⟩
theorem y_while (W : Nat → L2.St → Hp → Prop) (m0 : Nat) (h0 : W m0 σ H) (ht : ∀ m σ H, W m σ H → tt σ H fun b H1 => if b = true then ∃ N : L2.St → Hp → Prop, (∀ σ' H', N σ' H' → ∃ m', m' < m ∧ W m' σ' H') ∧ t1 { D with nx := N, ct := N, bk := t2 D } σ H1 else t2 D σ H1) : tSeq (tWhile tt t1) t2 D σ H := x_while (D := { D with nx := t2 D }) W m0 h0 ht
/-- for .. in a tuple just made -/
theorem x_forN {xs : List V} (h : ValA ar σ H xs) (hl : xs.length ≤ sizeLine) (Pv : Addr → Nat → L2.St → Hp → Prop) (h0 : ∀ p, H p = none → Pv p 0 σ (upd H p (.tup xs))) (hq : ∀ p i σ' H', Pv p i σ' H' → SqT K H' p xs)
    (ht : ∀ p i x σ' H', xs[i]? = some x → Pv p i σ' H' → g x σ' H' fun σ2 H2 => t1 { D with nx := Pv p (i + 1), ct := Pv p (i + 1), bk := D.nx } σ2 H2) (hd : ∀ p σ' H', Pv p xs.length σ' H' → D.nx σ' H') : tFor (iTup K (tTup ar)) g t1 D σ H :=
  h _ ⟨hl, fun p hp => ⟨p, rfl, ⟨_, SqT.of upd_same⟩, for_tup (K := K) (a := p) (xs := xs) (Pv p) (h0 p hp) (fun i σ H _ q => hq p i σ H q) (fun i x σ H hx q => ht p i x σ H hx q) (fun σ H q => hd p σ H q)⟩⟩
theorem y_forN {xs : List V} (h : ValA ar σ H xs) (hl : xs.length ≤ sizeLine) (Pv : Addr → Nat → L2.St → Hp → Prop) (h0 : ∀ p, H p = none → Pv p 0 σ (upd H p (.tup xs))) (hq : ∀ p i σ' H', Pv p i σ' H' → SqT K H' p xs)
    (ht : ∀ p i x σ' H', xs[i]? = some x → Pv p i σ' H' → g x σ' H' fun σ2 H2 => t1 { D with nx := Pv p (i + 1), ct := Pv p (i + 1), bk := t2 D } σ2 H2) (hd : ∀ p σ' H', Pv p xs.length σ' H' → t2 D σ' H') : tSeq (tFor (iTup K (tTup ar)) g t1) t2 D σ H :=
  x_forN (D := { D with nx := t2 D }) h hl Pv h0 hq ht hd
theorem two_at {n : Nat} {x : V} (h : [V.int 0, V.int 1][n]? = some x) : ∃ i : Bool, n = bn i ∧ x = .int (bi i) := by
  match n, h with
  | 0, h => cases h; exact ⟨false, rfl, rfl⟩
  | 1, h => cases h; exact ⟨true, rfl, rfl⟩
  | n + 2, h => simp at h
end
end SH
end
section
namespace SH
open PySem PySem.Spec PyProof.Rows L2
section
variable {P : Program} {w : World} {G : Gl5} {mg : Str → Option Value} {base : Heap}

/-! ### promises -/
def sp_kept (G : Gl5) : Sp := fun vs H Q _ => ∃ (e : En) (g : Addr) (r : RS) (i : Bool), vs = [.ref (e.a 0), .int (bi i)] ∧ W G e g H r ∧ (r.s.sd i).stock.length ≤ 100000 ∧ ∀ H', W G e g H' r → Q (.int (kept (r.s.sd i).stock)) H'
def sp_fresh (G : Gl5) : Sp := fun vs H Q _ => ∃ (e : En) (g : Addr) (r : RS) (i : Bool), vs = [.ref (e.a 0), .int (bi i)] ∧ W G e g H r ∧ Q (.int (fresh r.s i)) H
def sp_take_out (G : Gl5) : Sp := fun vs H Q _ => ∃ (e : En) (g : Addr) (r : RS) (i : Bool) (n : Int), vs = [.ref (e.a 0), .int (bi i), .int n] ∧ W G e g H r ∧ PosS (r.s.sd i).stock ∧ n ≤ kept (r.s.sd i).stock ∧
  ∀ H', W G e g H' (r.sd i { r.s.sd i with stock := takeStock (r.s.sd i).stock n }) → Q .non H'
def sp_lets (G : Gl5) : Sp := fun vs H Q _ => ∃ (e : En) (g : Addr) (r : RS) (i : Bool), vs = [.ref (e.a 0), .int (bi i)] ∧ W G e g H r ∧ Q (.bl (lets e.L i r.s)) H
def sp_is_due (G : Gl5) : Sp := fun vs H Q _ => ∃ (e : En) (g : Addr) (r : RS) (i : Bool), vs = [.ref (e.a 0), .int (bi i)] ∧ W G e g H r ∧ Q (.bl (isDue e.L i r.s)) H
theorem sz5 {n : Nat} (h : n ≤ 100000) : n < sizeLine := Nat.lt_of_le_of_lt h (by decide)
theorem ix2 (i : Bool) : ixN 2 (bi i) = some (bn i) := by cases i <;> rfl
theorem upS_upS {α : Type} (f : Bool → α) (i : Bool) (x y : α) : upS (upS f i x) i y = upS f i y := by
  funext j
  unfold upS
  split <;> rfl
theorem upS_id {α : Type} (f : Bool → α) (i : Bool) : upS f i (f i) = f := by
  funext j
  unfold upS
  split
  · rename_i e; rw [e]
  · rfl
theorem sd_same (r : RS) (i : Bool) (d d' : Sd) : (r.sd i d).sd i d' = r.sd i d' := by
  show ({ r with s := { r.s with sd := upS (upS r.s.sd i d) i d' } } : RS) = { r with s := { r.s with sd := upS r.s.sd i d' } }
  rw [upS_upS]
theorem ixN_zero {n : Nat} (h : 0 < n) : ixN n 0 = some 0 := by
  unfold ixN
  rw [if_pos (by omega), if_pos (by omega)]
  rfl
theorem sd_at (r : RS) (i : Bool) (d : Sd) : (r.sd i d).s.sd i = d := upS_same _ _ _
theorem sd_id (r : RS) (i : Bool) : r.sd i (r.s.sd i) = r := by
  show ({ r with s := { r.s with sd := upS r.s.sd i (r.s.sd i) } } : RS) = r
  rw [upS_id]
abbrev N_Flow_fresh : List Str := ["self", "side"]
theorem sc_Flow_fresh : FnScope N_Flow_fresh ["self", "side"] (defScope s_Flow_fresh) := C8.fnScope_by (by decide +kernel)
theorem ok_Flow_fresh (T : Txt G mg) {f : Addr} {fd : FuncData} (F : FnP G.K "fresh" "Flow.fresh" s_Flow_fresh f fd) (me : Meth G.K G.F "fresh" f) : C8.Met P w G.K mg base 1 G.F "fresh" (sp_fresh G) [] := by
  refine met_mk T.cF me F (F.bindsN fun _ _ _ _ _ _ us hl => match us, hl with | [_, _], _ => rfl) sc_Flow_fresh (fun vs H Q E h => ?_) (fun cdv A outer s H vs Q E hr h => ?_)
  · obtain ⟨e, g, r, i, rfl, hw, k⟩ := h
    rfl
  · obtain ⟨e, g, r, i, rfl, hw, k⟩ := h
    refine ⟨_, (pss_one (ps_ret (pe_op op_sub (pe_ix ix_list (pe_fld (pv 0) rfl) (pv 1) (fun _ _ => rfl)) (pe_ix ix_list (pe_fld (pv 0) rfl) (pv 1) (fun _ _ => rfl))))), ?_⟩
    have hs : Val (tVar 0) (start N_Flow_fresh [V.ref (e.a 0), V.int (bi i)]) H (.ref (e.a 0)) := val_var rfl
    have hi : Val (tVar 1) (start N_Flow_fresh [V.ref (e.a 0), V.int (bi i)]) H (.int (bi i)) := val_var rfl
    refine f_comeI T hw hs hi _ ?_
    refine f_takenI T hw hs hi _ ?_
    exact ⟨_, _, rfl, rfl, k⟩
abbrev N_Flow_kept : List Str := ["self", "side", "amount", "tick"]
theorem sc_Flow_kept : FnScope N_Flow_kept ["self", "side"] (defScope s_Flow_kept) := C8.fnScope_by (by decide +kernel)
theorem ok_Flow_kept (T : Txt G mg) {f : Addr} {fd : FuncData} (F : FnP G.K "kept" "Flow.kept" s_Flow_kept f fd) (me : Meth G.K G.F "kept" f) : C8.Met P w G.K mg base 1 G.F "kept" (sp_kept G) [] := by
  refine met_mk T.cF me F (F.bindsN fun _ _ _ _ _ _ us hl => match us, hl with | [_, _], _ => rfl) sc_Flow_kept (fun vs H Q E h => ?_) (fun cdv A outer s H vs Q E hr h => ?_)
  · obtain ⟨e, g, r, i, rfl, hw, hl, k⟩ := h
    rfl
  · obtain ⟨e, g, r, i, rfl, hw, hl, k⟩ := h
    refine ⟨_, (pss_one (ps_ret (pe_callB (r := rSum G.K) (cr_sum rfl) (by rfl) T.z_sum (by decide +kernel) (pa_cons (pe_lc (own := [("amount", 2), ("tick", 3)]) (g := gTup G.K 2 (gCons (gName 2) (gCons (gName 3) gNil))) (tt := tYes) rfl sc_Flow_kept.nd (pi_list (pe_ix ix_list (pe_fld (pv 0) rfl) (pv 1) (fun _ _ => rfl))) (blkOk_by (own := [("amount", 2), ("tick", 3)]) (N := N_Flow_kept) (sc := defScope s_Flow_kept) (by decide +kernel)) (fun _ _ _ _ _ => (pg_tup rfl (pgs_cons (pg_name (i := 2) sc_Flow_kept.nd rfl (Or.inl rfl)) (pgs_cons (pg_name (i := 3) sc_Flow_kept.nd rfl (Or.inl rfl)) pgs_nil)))) (fun _ _ _ _ _ => pts_nil) (fun _ _ _ _ _ => (pv 2))) pa_nil)))), ?_⟩
    have hs : Val (tVar 0) (start N_Flow_kept [V.ref (e.a 0), V.int (bi i)]) H (.ref (e.a 0)) := val_var rfl
    have hi : Val (tVar 1) (start N_Flow_kept [V.ref (e.a 0), V.int (bi i)]) H (.int (bi i)) := val_var rfl
    refine f_stk T hw hs hi _ ?_
    obtain ⟨rs, h1, h2⟩ := hw.hSt i
    refine ⟨_, rfl, ⟨_, SqL.of h1⟩, fun D hD => ?_⟩
    refine lc_tups (G := G) (rs := rs) (xs := (r.s.sd i).stock.map stV) (fun _ => true) (fun _ x => x.headD .non) hw hD h1 h2 (by rw [List.length_map]; exact sz5 hl) (fun b x H' hb hx w' Y N hY hN => ?_) (fun H' lw sm => ?_)
    · obtain ⟨p, hp, rfl⟩ := List.mem_map.mp hx
      refine ⟨_, _, rfl, SqT.of hb, rfl, _, _, rfl, _, _, rfl, rfl, rfl, ?_⟩
      exact ⟨_, rfl, hY rfl⟩
    · refine ⟨_, (r.s.sd i).stock.map (fun p : Int × Int => p.1), rfl, SqL.of (lw.d.trans ?_), k _ lw.w⟩
      rw [fm_val h2.len, List.filter_eq_self.mpr (fun _ _ => rfl), List.map_map, List.map_map]
      rfl
abbrev N_Flow_lets : List Str := ["self", "side", "rule"]
theorem sc_Flow_lets : FnScope N_Flow_lets ["self", "side"] (defScope s_Flow_lets) := C8.fnScope_by (by decide +kernel)
theorem ok_Flow_lets (T : Txt G mg) {f : Addr} {fd : FuncData} (F : FnP G.K "lets" "Flow.lets" s_Flow_lets f fd) (me : Meth G.K G.F "lets" f) : C8.Met P w G.K mg base 1 G.F "lets" (sp_lets G) [] := by
  refine met_mk T.cF me F (F.bindsN fun _ _ _ _ _ _ us hl => match us, hl with | [_, _], _ => rfl) sc_Flow_lets (fun vs H Q E h => ?_) (fun cdv A outer s H vs Q E hr h => ?_)
  · obtain ⟨e, g, r, i, rfl, hw, k⟩ := h
    rfl
  · obtain ⟨e, g, r, i, rfl, hw, k⟩ := h
    refine ⟨_, (pss_cons (ps_set (i := 2) sc_Flow_lets.nd rfl (Or.inl rfl) (pe_fld (pe_ix ix_tup (pe_fld (pv 0) rfl) (pv 1) (fun _ _ => rfl)) rfl))
    (pss_cons (ps_if (pt_cmpR op_eq (pv 2) pe_str (nomark _)) (pss_one (ps_ret (pe_cmpR op_eq (pe_ix ix_list (pe_fld (pv 0) rfl) (pv 1) (fun _ _ => rfl)) (pe_ix ix_list (pe_fld (pv 0) rfl) (pv 1) (fun _ _ => rfl)) (nomark _)))) pss_nil)
    (pss_one (ps_ret ((pe_or (pe_cmpR op_eq (pv 2) pe_str (nomark _)) (pe_one (pe_cmpR op_le (pe_ix ix_list (pe_fld (pv 0) rfl) (pv 1) (fun _ _ => rfl)) (pe_ix ix_list (pe_fld (pv 0) rfl) (pv 1) (fun _ _ => rfl)) (nomark _))))))))), ?_⟩
    have hs : ∀ v, Val (tVar 0) [some (V.ref (e.a 0)), some (V.int (bi i)), v] H (.ref (e.a 0)) := fun _ => val_var rfl
    have hi : ∀ v, Val (tVar 1) [some (V.ref (e.a 0)), some (V.int (bi i)), v] H (.int (bi i)) := fun _ => val_var rfl
    obtain ⟨z, hz, h1, h2⟩ := f_rule T hw (hs none) (hi none)
    refine hz _ ?_
    unfold lets at k
    refine ⟨_, rfl, rfl, _, rfl, ?_⟩
    have ez : decide (V.str z = V.str "hold") = (e.L.se i).hold := by
      rw [h1]
      exact decide_eq_decide.mpr ⟨fun q => V.str.inj q, fun q => congrArg V.str q⟩
    have ez2 : decide (V.str z = V.str "plain") = (e.L.se i).plain := by
      rw [h2]
      exact decide_eq_decide.mpr ⟨fun q => V.str.inj q, fun q => congrArg V.str q⟩
    rw [ez]
    cases hh : (e.L.se i).hold with
    | true =>
      rw [hh, if_pos rfl] at k
      refine iteT ?_
      refine f_outI T hw (hs _) (hi _) _ ?_
      refine f_knownI T hw (hs _) (hi _) _ ?_
      refine ⟨rfl, ?_⟩
      have eq : decide (V.int (r.s.sd i).out = V.int (r.s.sd i).known) = decide ((r.s.sd i).out = (r.s.sd i).known) := decide_eq_decide.mpr ⟨fun q => V.int.inj q, fun q => congrArg V.int q⟩
      rw [eq]
      exact k
    | false =>
      rw [hh, if_neg Bool.false_ne_true] at k
      refine iteF ?_
      refine ⟨_, rfl, rfl, _, rfl, ?_⟩
      show if decide (V.str z = V.str "plain") = true then _ else _
      rw [ez2]
      cases hp : (e.L.se i).plain with
      | true =>
        rw [hp, Bool.true_or] at k
        exact iteT k
      | false =>
        rw [hp, Bool.false_or] at k
        refine iteF ?_
        refine f_smallI T hw (hs _) (hi _) _ ?_
        refine f_knownI T hw (hs _) (hi _) _ ?_
        exact ⟨_, _, rfl, rfl, k⟩
abbrev N_Flow_take_out : List Str := ["self", "side", "amount", "left", "first", "tick"]
theorem sc_Flow_take_out : FnScope N_Flow_take_out ["self", "side", "amount"] (defScope s_Flow_take_out) := C8.fnScope_by (by decide +kernel)
theorem ok_Flow_take_out (T : Txt G mg) {f : Addr} {fd : FuncData} (F : FnP G.K "take_out" "Flow.take_out" s_Flow_take_out f fd) (me : Meth G.K G.F "take_out" f) : C8.Met P w G.K mg base 1 G.F "take_out" (sp_take_out G) [] := by
  refine met_mk T.cF me F (F.bindsN fun _ _ _ _ _ _ us hl => match us, hl with | [_, _, _], _ => rfl) sc_Flow_take_out (fun vs H Q E h => ?_) (fun cdv A outer s H vs Q E hr h => ?_)
  · obtain ⟨e, g, r, i, n, rfl, hw, hpos, hn, k⟩ := h
    rfl
  · obtain ⟨e, g, r, i, n, rfl, hw, hpos, hn, k⟩ := h
    refine ⟨_, (pss_cons (ps_set (i := 3) sc_Flow_take_out.nd rfl (Or.inl rfl) (pv 2))
    (pss_one (ps_while PassesOwn.never (pt_cmpR op_gt (pv 3) pe_int (nomark _)) (pss_cons (ps_asg (pe_ix ix_list (pe_ix ix_list (pe_fld (pv 0) rfl) (pv 1) (fun _ _ => rfl)) pe_int (fun _ _ => rfl)) (pg_tup rfl (pgs_cons (pg_name (i := 4) sc_Flow_take_out.nd rfl (Or.inl rfl)) (pgs_cons (pg_name (i := 5) sc_Flow_take_out.nd rfl (Or.inl rfl)) pgs_nil))))
    (pss_cons (ps_asg (pe_callB (call_max2 rfl) (by rfl) T.z_max (by decide +kernel) (pa_cons (pe_ix ix_list (pe_fld (pv 0) rfl) (pv 1) (fun _ _ => rfl)) (pa_cons (pe_op op_sub (pe_fld (pv 0) rfl) (pv 5)) pa_nil))) (pg_sub (pe_fld (pv 0) rfl) (pv 1) set_list))
    (pss_cons (ps_if (pt_cmpR op_gt (pv 4) (pv 3) (nomark _)) (pss_one (ps_asg (pe_tup (pa_cons (pe_op op_sub (pv 4) (pv 3)) (pa_cons (pv 5) pa_nil))) (pg_sub (pe_ix ix_list (pe_fld (pv 0) rfl) (pv 1) (fun _ _ => rfl)) pe_int set_list))) (pss_one (ps_delL (pe_ix ix_list (pe_fld (pv 0) rfl) (pv 1) (fun _ _ => rfl)) pe_int)))
    (pss_one (ps_aug (i := 3) sc_Flow_take_out.nd rfl (Or.inl rfl) (pe_callB (call_min2 rfl) (by rfl) T.z_min (by decide +kernel) (pa_cons (pv 4) (pa_cons (pv 3) pa_nil))) ip_sub)))))))), ?_⟩
    refine ⟨_, rfl, ?_⟩
    refine ⟨fun m σ H' => ∃ (st : List (Int × Int)) (left : Int) (x4 x5 : Option V), σ = [some (V.ref (e.a 0)), some (V.int (bi i)), some (V.int n), some (V.int left), x4, x5] ∧ W G e g H' (r.sd i { r.s.sd i with stock := st }) ∧ PosS st ∧ left ≤ kept st ∧ takeStock st left = takeStock (r.s.sd i).stock n ∧ m = left.toNat,
      ⟨_, (r.s.sd i).stock, n, _, _, rfl, ?_, hpos, hn, rfl, rfl⟩, ?_⟩
    · exact hw.is (sd_id r i).symm
    rintro m σ H' ⟨st, left, x4, x5, rfl, hw', hp', hl', ht', rfl⟩
    have hs : ∀ v3 v4 v5, Val (tVar 0) [some (V.ref (e.a 0)), some (V.int (bi i)), some (V.int n), v3, v4, v5] H' (.ref (e.a 0)) := fun _ _ _ => val_var rfl
    have hi : ∀ v3 v4 v5, Val (tVar 1) [some (V.ref (e.a 0)), some (V.int (bi i)), some (V.int n), v3, v4, v5] H' (.int (bi i)) := fun _ _ _ => val_var rfl
    refine ⟨_, rfl, _, _, rfl, rfl, _, rfl, ?_⟩
    refine ite2 (fun hc => ?_) (fun hc => ?_)
    · have hc' : 0 < left := of_decide_eq_true hc
      refine ⟨_, fun _ _ q => q, ?_⟩
      match st, hw', hp', hl', ht' with
      | [], hw', hp', hl', ht' =>
        rw [kept_nil] at hl'
        omega
      | (f, t) :: rst, hw', hp', hl', ht' =>
      have hf : 0 < f := hp'.head
      rw [kept_cons] at hl'
      obtain ⟨rs, h1, h2⟩ := hw'.hSt i
      rw [sd_at] at h2
      match rs, h1, h2 with
      | [], h1, h2 => exact h2.elim
      | a0 :: rs, h1, ⟨h2, h3⟩ =>
      refine y_unpack2 (x1 := V.int f) (x2 := V.int t) (v_ixL (f_stk T hw' (hs _ _ _) (hi _ _ _)) val_c h1 (atI_nat (j := 0) rfl)) (SqT.of h2) ?_
      have hsv := hs (some (V.int left)) (some (V.int f)) (some (V.int t))
      have hiv := hi (some (V.int left)) (some (V.int f)) (some (V.int t))
      show tSeq _ _ _ [some (V.ref (e.a 0)), some (V.int (bi i)), some (V.int n), some (V.int left), some (V.int f), some (V.int t)] H'
      obtain ⟨z, hz⟩ := f_longI T hw' hsv hiv
      obtain ⟨y1, y2, hy⟩ := hw'.cell 10
      refine y_setL (v_max2 hz (v_I (f_tick T hw' hsv) (v_var rfl))) (f_long T hw' hsv) hiv hy (ix2 i) ?_
      generalize hzz : (if (r.sd i { r.s.sd i with stock := (f, t) :: rst }).s.tick - t > z then _ else z) = zz
      have hw2 := hw'.setLong i hy zz
      have e10 : e.a (1 + bn i) ≠ e.a 10 := fun q => by
        have := hw.im.inj _ _ (by cases i <;> decide) (by decide) q
        cases i <;> cases this
      have h1' : (upd H' (e.a 10) (.lst ([V.int y1, V.int y2].set (bn i) (V.int zz)))) (e.a (1 + bn i)) = some (.lst ((a0 :: rs).map V.ref)) := by rw [upd_ne e10]; exact h1
      have n10 : NoTup H' (e.a 10) := noTup_lst hy
      have h3' : TP (upd H' (e.a 10) (.lst ([V.int y1, V.int y2].set (bn i) (V.int zz)))) rs (rst.map stV) := h3.mono (But.upd.tup n10)
      generalize hH2 : (upd H' (e.a 10) (.lst ([V.int y1, V.int y2].set (bn i) (V.int zz)))) = H2 at hw2 h1' h3' ⊢
      have hs2 : Val (tVar 0) [some (V.ref (e.a 0)), some (V.int (bi i)), some (V.int n), some (V.int left), some (V.int f), some (V.int t)] H2 (.ref (e.a 0)) := val_var rfl
      have hi2 : Val (tVar 1) [some (V.ref (e.a 0)), some (V.int (bi i)), some (V.int n), some (V.int left), some (V.int f), some (V.int t)] H2 (.int (bi i)) := val_var rfl
      refine y_if (a_T (v_I (v_var rfl) (v_var rfl))) (fun hd => ?_) (fun hd => ?_)
      · have hd' : left < f := of_decide_eq_true hd
        refine x_asgE (x_tup (va_cons (v_I (v_var rfl) (v_var rfl)) (va_cons (v_var rfl) va_nil)) (by show 2 ≤ sizeLine; decide) fun p hp => ?_)
        have hw3 := hw2.new (o := .tup [V.int (f - left), V.int t]) hp
        have ne1 : e.a (1 + bn i) ≠ p := ne_of_none h1' hp
        refine f_stk T hw3 (val_var rfl) (val_var rfl) _ ?_
        refine ⟨_, List.map V.ref (a0 :: rs), _, 0, rfl, rfl, (by rw [upd_ne ne1]; exact h1'), ixN_zero (Nat.succ_pos _), ?_⟩
        refine x_aug rfl (v_min2 (v_var rfl) (v_var rfl)) ?_
        have hst : LT (upd (upd H2 p (.tup [V.int (f - left), V.int t])) (e.a (1 + bn i)) (.lst ((List.map V.ref (a0 :: rs)).set 0 (.ref p)))) (e.a (1 + bn i)) (((f - left, t) :: rst).map stV) := by
          refine ⟨p :: rs, upd_same, ?_, ?_⟩
          · rw [upd_ne (ne1.symm), upd_same]
            rfl
          · exact (h3'.mono fun a y q => (Same.new hp) a _ q).mono (But.upd.tup (noTup_lst (by rw [upd_ne ne1]; exact h1')))
        have hw4 := hw3.setStock i hst
        rw [sd_same, sd_at] at hw4
        refine ⟨0, ?_, (f - left, t) :: rst, 0, some (V.int f), some (V.int t), ?_, hw4, ?_, ?_, ?_, rfl⟩
        · omega
        · rw [if_pos hd']
          simp
        · intro x hx
          rcases List.mem_cons.mp hx with q | q
          · rw [q]
            show 0 < f - left
            omega
          · exact hp'.tail x q
        · rw [kept_cons]
          have := kept_nonneg hp'.tail
          show 0 ≤ f - left + kept rst
          omega
        · rw [← ht']
          show takeStock ((f - left, t) :: rst) 0 = takeStock ((f, t) :: rst) left
          unfold takeStock
          rw [if_neg (by omega), if_pos hc', if_pos hd']
      · have hd' : ¬ left < f := of_decide_eq_false hd
        refine f_stk T hw2 hs2 hi2 _ ?_
        refine ⟨_, _, 0, 0, rfl, rfl, h1', (by decide), (by decide), (ixN_seq (ixN_zero (Nat.succ_pos _))).1, ?_⟩
        refine x_aug rfl (v_min2 (v_var rfl) (v_var rfl)) ?_
        have hst : LT (upd H2 (e.a (1 + bn i)) (.lst ((List.map V.ref (a0 :: rs)).eraseIdx 0))) (e.a (1 + bn i)) (rst.map stV) := ⟨rs, upd_same, h3'.mono (But.upd.tup (noTup_lst h1'))⟩
        have hw4 := hw2.setStock i hst
        rw [sd_same, sd_at] at hw4
        refine ⟨(left - f).toNat, ?_, rst, left - f, some (V.int f), some (V.int t), ?_, hw4, hp'.tail, ?_, ?_, rfl⟩
        · omega
        · rw [if_neg hd']
          rfl
        · dsimp only at hl'
          omega
        · rw [← ht']
          show _ = takeStock ((f, t) :: rst) left
          conv => rhs; unfold takeStock
          rw [if_pos hc', if_neg hd']
    · have hc' : ¬ 0 < left := fun q => hc (decide_eq_true q)
      refine k _ ?_
      rw [← ht']
      have e0 : takeStock st left = st := by
        cases st with
        | nil => rfl
        | cons x y =>
          obtain ⟨x1, x2⟩ := x
          unfold takeStock
          rw [if_neg hc']
      rw [e0]
      exact hw'

end
end SH
end
section
namespace SH
open PySem PySem.Spec PyProof.Rows L2
/-! the statements on the columns, the heap hidden behind the world -/
theorem LT.app {H : Hp} {a p : Addr} {xs : List (List V)} {x : List V} (h : LT H a xs) (hp : H p = none) : ∃ rs : List Addr, H a = some (.lst (rs.map V.ref)) ∧ rs.length = xs.length ∧ LT (upd (upd H p (.tup x)) a (.lst (rs.map V.ref ++ [.ref p]))) a (xs ++ [x]) := by
  obtain ⟨rs, h1, h2⟩ := h
  have na : a ≠ p := ne_of_none h1 hp
  refine ⟨rs, h1, h2.len, rs ++ [p], by rw [upd_same, List.map_append]; rfl, TP.snoc ?_ ?_⟩
  · rw [upd_ne na.symm, upd_same]
  · exact (h2.mono fun a y q => (Same.new hp) a _ q).mono (But.upd.tup (noTup_lst (by rw [upd_ne na]; exact h1)))
theorem bi_bn (i : Bool) : bi i = ((bn i : Nat) : Int) := by cases i <;> rfl
section
variable {G : Gl5} {mg : Str → Option Value} {e : En} {g : Addr} {H : Hp} {r : RS} {σ : L2.St} {ts ti te : TE} {i : Bool} {D : Ends} {t2 : TS} {z : Int} {ar : TA} {vs : List V}
variable (T : Txt G mg) (hw : W G e g H r) (hs : Val ts σ H (.ref (e.a 0))) (hi : Val ti σ H (.int (bi i)))
include T hw hs hi

theorem x_augOut (h : Val te σ H (.int z)) (q : ∀ H', W G e g H' (r.sd i { r.s.sd i with out := (r.s.sd i).out + z }) → D.nx σ H') : tAugS (tFld G.K ts "out") ti te (rIxN G.K) (ipI fun i j => i + j) rSetL D σ H :=
  x_augL (f_out T hw hs) (v_is hi (congrArg V.int (bi_bn i))) (hw.cell 3) (at2 (fun i => V.int (r.s.sd i).out) i) h (q _ (hw.setOut i _))
theorem y_augOut (h : Val te σ H (.int z)) (q : ∀ H', W G e g H' (r.sd i { r.s.sd i with out := (r.s.sd i).out + z }) → t2 D σ H') : tSeq (tAugS (tFld G.K ts "out") ti te (rIxN G.K) (ipI fun i j => i + j) rSetL) t2 D σ H :=
  x_augOut (D := { D with nx := t2 D }) T hw hs hi h q
theorem x_setOut (h : Val te σ H (.int z)) (q : ∀ H', W G e g H' (r.sd i { r.s.sd i with out := z }) → D.nx σ H') : tAsg te (gSub (tFld G.K ts "out") ti rSetL) D σ H :=
  x_setL h (f_out T hw hs) hi (hw.cell 3) (ix2 i) (q _ (hw.setOut i z))
theorem y_setOut (h : Val te σ H (.int z)) (q : ∀ H', W G e g H' (r.sd i { r.s.sd i with out := z }) → t2 D σ H') : tSeq (tAsg te (gSub (tFld G.K ts "out") ti rSetL)) t2 D σ H :=
  x_setOut (D := { D with nx := t2 D }) T hw hs hi h q
theorem x_setKnown (h : Val te σ H (.int z)) (q : ∀ H', W G e g H' (r.sd i { r.s.sd i with known := z }) → D.nx σ H') : tAsg te (gSub (tFld G.K ts "known") ti rSetL) D σ H :=
  x_setL h (f_known T hw hs) hi (hw.cell 4) (ix2 i) (q _ (hw.setKnown i z))
theorem y_setKnown (h : Val te σ H (.int z)) (q : ∀ H', W G e g H' (r.sd i { r.s.sd i with known := z }) → t2 D σ H') : tSeq (tAsg te (gSub (tFld G.K ts "known") ti rSetL)) t2 D σ H :=
  x_setKnown (D := { D with nx := t2 D }) T hw hs hi h q
theorem x_setSmall (h : Val te σ H (.int z)) (q : ∀ H', W G e g H' (r.sd i { r.s.sd i with small := z }) → D.nx σ H') : tAsg te (gSub (tFld G.K ts "small") ti rSetL) D σ H :=
  x_setL h (f_small T hw hs) hi (hw.cell 5) (ix2 i) (q _ (hw.setSmall i z))
theorem y_setSmall (h : Val te σ H (.int z)) (q : ∀ H', W G e g H' (r.sd i { r.s.sd i with small := z }) → t2 D σ H') : tSeq (tAsg te (gSub (tFld G.K ts "small") ti rSetL)) t2 D σ H :=
  x_setSmall (D := { D with nx := t2 D }) T hw hs hi h q
theorem x_augCome (h : Val te σ H (.int z)) (q : ∀ H', W G e g H' (r.sd i { r.s.sd i with come := (r.s.sd i).come + z }) → D.nx σ H') : tAugS (tFld G.K ts "come") ti te (rIxN G.K) (ipI fun i j => i + j) rSetL D σ H :=
  x_augL (f_come T hw hs) (v_is hi (congrArg V.int (bi_bn i))) (hw.cell 6) (at2 (fun i => V.int (r.s.sd i).come) i) h (q _ (hw.setCome i _))
theorem y_augCome (h : Val te σ H (.int z)) (q : ∀ H', W G e g H' (r.sd i { r.s.sd i with come := (r.s.sd i).come + z }) → t2 D σ H') : tSeq (tAugS (tFld G.K ts "come") ti te (rIxN G.K) (ipI fun i j => i + j) rSetL) t2 D σ H :=
  x_augCome (D := { D with nx := t2 D }) T hw hs hi h q
theorem x_setCome (h : Val te σ H (.int z)) (q : ∀ H', W G e g H' (r.sd i { r.s.sd i with come := z }) → D.nx σ H') : tAsg te (gSub (tFld G.K ts "come") ti rSetL) D σ H :=
  x_setL h (f_come T hw hs) hi (hw.cell 6) (ix2 i) (q _ (hw.setCome i z))
theorem y_setCome (h : Val te σ H (.int z)) (q : ∀ H', W G e g H' (r.sd i { r.s.sd i with come := z }) → t2 D σ H') : tSeq (tAsg te (gSub (tFld G.K ts "come") ti rSetL)) t2 D σ H :=
  x_setCome (D := { D with nx := t2 D }) T hw hs hi h q
theorem x_augTaken (h : Val te σ H (.int z)) (q : ∀ H', W G e g H' (r.sd i { r.s.sd i with taken := (r.s.sd i).taken + z }) → D.nx σ H') : tAugS (tFld G.K ts "taken") ti te (rIxN G.K) (ipI fun i j => i + j) rSetL D σ H :=
  x_augL (f_taken T hw hs) (v_is hi (congrArg V.int (bi_bn i))) (hw.cell 7) (at2 (fun i => V.int (r.s.sd i).taken) i) h (q _ (hw.setTaken i _))
theorem y_augTaken (h : Val te σ H (.int z)) (q : ∀ H', W G e g H' (r.sd i { r.s.sd i with taken := (r.s.sd i).taken + z }) → t2 D σ H') : tSeq (tAugS (tFld G.K ts "taken") ti te (rIxN G.K) (ipI fun i j => i + j) rSetL) t2 D σ H :=
  x_augTaken (D := { D with nx := t2 D }) T hw hs hi h q
theorem x_setTaken (h : Val te σ H (.int z)) (q : ∀ H', W G e g H' (r.sd i { r.s.sd i with taken := z }) → D.nx σ H') : tAsg te (gSub (tFld G.K ts "taken") ti rSetL) D σ H :=
  x_setL h (f_taken T hw hs) hi (hw.cell 7) (ix2 i) (q _ (hw.setTaken i z))
theorem y_setTaken (h : Val te σ H (.int z)) (q : ∀ H', W G e g H' (r.sd i { r.s.sd i with taken := z }) → t2 D σ H') : tSeq (tAsg te (gSub (tFld G.K ts "taken") ti rSetL)) t2 D σ H :=
  x_setTaken (D := { D with nx := t2 D }) T hw hs hi h q
theorem x_augFull (h : Val te σ H (.int z)) (q : ∀ H', W G e g H' (r.sd i { r.s.sd i with full := (r.s.sd i).full + z }) → D.nx σ H') : tAugS (tFld G.K ts "full") ti te (rIxN G.K) (ipI fun i j => i + j) rSetL D σ H :=
  x_augL (f_full T hw hs) (v_is hi (congrArg V.int (bi_bn i))) (hw.cell 8) (at2 (fun i => V.int (r.s.sd i).full) i) h (q _ (hw.setFull i _))
theorem y_augFull (h : Val te σ H (.int z)) (q : ∀ H', W G e g H' (r.sd i { r.s.sd i with full := (r.s.sd i).full + z }) → t2 D σ H') : tSeq (tAugS (tFld G.K ts "full") ti te (rIxN G.K) (ipI fun i j => i + j) rSetL) t2 D σ H :=
  x_augFull (D := { D with nx := t2 D }) T hw hs hi h q
theorem x_setFull (h : Val te σ H (.int z)) (q : ∀ H', W G e g H' (r.sd i { r.s.sd i with full := z }) → D.nx σ H') : tAsg te (gSub (tFld G.K ts "full") ti rSetL) D σ H :=
  x_setL h (f_full T hw hs) hi (hw.cell 8) (ix2 i) (q _ (hw.setFull i z))
theorem y_setFull (h : Val te σ H (.int z)) (q : ∀ H', W G e g H' (r.sd i { r.s.sd i with full := z }) → t2 D σ H') : tSeq (tAsg te (gSub (tFld G.K ts "full") ti rSetL)) t2 D σ H :=
  x_setFull (D := { D with nx := t2 D }) T hw hs hi h q
theorem x_setFirst {o : Option Int} (h : Val te σ H (ov o)) (q : ∀ H', W G e g H' (r.sd i { r.s.sd i with first := o }) → D.nx σ H') : tAsg te (gSub (tFld G.K ts "first") ti rSetL) D σ H :=
  x_setL h (f_first T hw hs) hi (hw.cell 9) (ix2 i) (q _ (hw.setFirst i o))
theorem y_setFirst {o : Option Int} (h : Val te σ H (ov o)) (q : ∀ H', W G e g H' (r.sd i { r.s.sd i with first := o }) → t2 D σ H') : tSeq (tAsg te (gSub (tFld G.K ts "first") ti rSetL)) t2 D σ H :=
  x_setFirst (D := { D with nx := t2 D }) T hw hs hi h q
omit hi
theorem y_appLog {p : Pc} (hl : r.s.log.length ≤ 1000000) (h : ValA ar σ H (pcV p)) (q : ∀ H', W G e g H' { r with s := { r.s with log := r.s.log ++ [p] } } → t2 D σ H') : tSeq (tDrop (tBM G.K "list" rAppend (tFld G.K ts "log") (tCons (tTup ar) tNil))) t2 D σ H := by
  obtain ⟨rs, h1, h2⟩ : ∃ rs : List Addr, H (e.a 11) = some (.lst (rs.map V.ref)) ∧ TP H rs (r.s.log.map pcV) := hw.cell 11
  refine y_appT (f_log T hw hs) h1 ?_ h (by show 4 ≤ sizeLine; decide) fun a ha => q _ ?_
  · rw [List.length_map, h2.len, List.length_map]
    exact Nat.lt_of_le_of_lt hl (by decide)
  · obtain ⟨rs', e1, _, e2⟩ := LT.app (x := pcV p) ⟨rs, h1, h2⟩ ha
    rw [h1] at e1
    have ee : rs.map V.ref = rs'.map V.ref := HO.lst.inj (Option.some.inj e1)
    rw [ee]
    refine (hw.new (o := .tup (pcV p)) ha).setLog ?_
    rw [List.map_append]
    exact e2
theorem y_appFlight {p : Pc} (hl : r.s.flight.length ≤ 1000000) (h : ValA ar σ H (pcV p)) (q : ∀ H', W G e g H' { r with s := { r.s with flight := r.s.flight ++ [p] } } → t2 D σ H') : tSeq (tDrop (tBM G.K "list" rAppend (tFld G.K ts "flight") (tCons (tTup ar) tNil))) t2 D σ H := by
  obtain ⟨rs, h1, h2⟩ : ∃ rs : List Addr, H g = some (.lst (rs.map V.ref)) ∧ TP H rs (r.s.flight.map pcV) := hw.cell 14
  refine y_appT (f_flight T hw hs) h1 ?_ h (by show 4 ≤ sizeLine; decide) fun a ha => q _ ?_
  · rw [List.length_map, h2.len, List.length_map]
    exact Nat.lt_of_le_of_lt hl (by decide)
  · obtain ⟨rs', e1, _, e2⟩ := LT.app (x := pcV p) ⟨rs, h1, h2⟩ ha
    rw [h1] at e1
    have ee : rs.map V.ref = rs'.map V.ref := HO.lst.inj (Option.some.inj e1)
    rw [ee]
    refine (hw.new (o := .tup (pcV p)) ha).setFlight ?_
    rw [List.map_append]
    exact e2
end
end SH
end
section
namespace SH
open PySem PySem.Spec PyProof.Rows L2
section
variable {P : Program} {w : World} {G : Gl5} {mg : Str → Option Value} {base : Heap}

structure Fit (T : Int) (r : RS) : Prop where
  good : GF T r.s
  lg : SH.m r.s + (r.s.log.length : Int) ≤ 100000
theorem Fit.log {T : Int} {r : RS} (f : Fit T r) : r.s.log.length ≤ 100000 := by
  have := f.lg
  have := m_nonneg f.good
  omega
theorem Fit.m {T : Int} {r : RS} (f : Fit T r) : SH.m r.s ≤ 100000 := by
  have := f.lg
  omega
theorem Fit.flight {T : Int} {r : RS} (f : Fit T r) : r.s.flight.length ≤ 100000 := by
  have := f.m
  have := flight_m f.good
  omega
theorem Fit.stock {T : Int} {r : RS} (f : Fit T r) (i : Bool) : (r.s.sd i).stock.length ≤ 100000 := by
  have := f.m
  have := stock_m f.good i
  omega
def sp_send (G : Gl5) : Sp := fun vs H Q _ => ∃ (e : En) (g : Addr) (r : RS) (i : Bool) (n : Int) (T : Int), vs = [.ref (e.a 0), .int (bi i), .int n] ∧ W G e g H r ∧ Fit T r ∧ n ≤ kept (r.s.sd i).stock ∧
  ∀ H', W G e g H' { r with s := send e.L i n r.s } → Q .non H'
def sp_let_go (G : Gl5) : Sp := fun vs H Q _ => ∃ (e : En) (g : Addr) (r : RS) (i : Bool) (T : Int), vs = [.ref (e.a 0), .int (bi i)] ∧ W G e g H r ∧ Fit T r ∧
  ∀ H', W G e g H' { r with s := letGo e.L i r.s } → Q .non H'
def sp_put (G : Gl5) : Sp := fun vs H Q _ => ∃ (e : En) (g : Addr) (r : RS) (i : Bool) (n : Int) (T : Int), vs = [.ref (e.a 0), .int (bi i), .int n] ∧ W G e g H r ∧ GF T r.s ∧ 0 < n ∧ SH.m r.s + 6 * n + (r.s.log.length : Int) ≤ 100000 ∧
  ∀ H', W G e g H' { r with s := put e.L i n r.s } → Q .non H'
def sp_land (G : Gl5) : Sp := fun vs H Q _ => ∃ (e : En) (g : Addr) (r : RS) (p : Pc), vs = [.ref (e.a 0), .int (bi p.side), .int p.amount, .int p.ans] ∧ W G e g H r ∧
  ∀ H', W G e g H' { r with s := land e.L p r.s } → Q .non H'
def sp_leave (G : Gl5) : Sp := fun vs H Q _ => ∃ (e : En) (g : Addr) (r : RS) (T : Int), vs = [.ref (e.a 0)] ∧ W G e g H r ∧ Fit T r ∧
  ∀ H' g', W G e g' H' { r with s := leave e.L r.s } → Q .non H'
def sp_next_tick (G : Gl5) : Sp := fun vs H Q _ => ∃ (e : En) (g : Addr) (r : RS), vs = [.ref (e.a 0)] ∧ W G e g H r ∧ r.s.flight.length ≤ 100000 ∧
  ∀ H', W G e g H' r → Q (ov (nextTick e.L r.s)) H'
def sp_begin (G : Gl5) : Sp := fun vs H Q _ => ∃ (e : En) (g : Addr) (r : RS) (t T : Int), vs = [.ref (e.a 0), .int t] ∧ W G e g H r ∧ Fit T r ∧ t ≤ T ∧
  ∀ H' g', W G e g' H' { r with s := begin e.L t r.s } → Q .non H'
open Classical in
noncomputable def rest (e : En) (g : Addr) (H : Hp) : Hp := fun b => if (∃ i, i < 14 ∧ e.a i = b) ∨ b = g then none else H b
noncomputable def reb (e : En) (g : Addr) (H : Hp) : En := { e with H0 := rest e g H }
section
variable {G : Gl5} {e : En} {g g' : Addr} {H H' : Hp} {r r' : RS}
theorem rest_at {b : Addr} (h1 : ∀ i, i < 14 → e.a i ≠ b) (h2 : b ≠ g) : rest e g H b = H b := by
  unfold rest
  rw [if_neg]
  rintro (⟨i, hi, q⟩ | q)
  · exact h1 i hi q
  · exact h2 q
theorem W.rest_H0 (w : W G e g H r) {b : Addr} {o : HO} (h : e.H0 b = some o) : rest e g H b = some o := by
  rw [rest_at]
  · exact w.same _ _ h
  · intro i hi q
    rw [← q, w.im.fr i hi] at h
    cases h
  · intro q
    rw [q, w.g0] at h
    cases h
theorem W.reb (w : W G e g H r) : W G (reb e g H) g H r := by
  have hi := w.im
  refine ⟨⟨hi.inj, fun i h => ?_, hi.line.same fun _ _ _ _ h => w.rest_H0 h, w.rest_H0 hi.stg, w.rest_H0 hi.stk, fun i => ?_, hi.lok, hi.pok⟩, fun b o h => ?_, ?_, w.ng, w.cell⟩
  · show rest e g H (e.a i) = none
    unfold rest
    rw [if_pos (.inl ⟨i, h, rfl⟩)]
  · obtain ⟨rs, h1, h2⟩ := hi.sp i
    exact ⟨rs, w.rest_H0 h1, h2.mono fun a x q => w.rest_H0 q⟩
  · have h' : rest e g H b = some o := h
    unfold rest at h'
    split at h'
    · cases h'
    · exact h'
  · show rest e g H g = none
    unfold rest
    rw [if_pos (.inr rfl)]
theorem W.unreb (w0 : W G e g H r) (w : W G (SH.reb e g H) g' H' r') : W G e g' H' r' := by
  refine ⟨w0.im, fun b o h => w.same _ _ (w0.rest_H0 h), ?_, w.ng, w.cell⟩
  cases q : e.H0 g' with
  | none => rfl
  | some o =>
    have := w.g0
    rw [show (SH.reb e g H).H0 g' = some o from w0.rest_H0 q] at this
    cases this
/-- what is new stays under a rebased world -/
theorem W.rest_new (w : W G e g H r) {p : Addr} {o : HO} (hp : H p = none) : rest e g (upd H p o) p = some o := by
  have j := w.jk hp
  rw [rest_at j.ne j.ng.symm, upd_same]
end
theorem match_some (o : Option Int) (a : Int) : o ≠ none → (match o with | none => some a | some x => some x) = o := by
  intro h
  cases o with
  | none => exact absurd rfl h
  | some x => rfl
theorem dec_ov_non (o : Option Int) : decide (ov o = V.non) = decide (o = none) := by cases o <;> rfl
abbrev N_Flow_send : List Str := ["self", "side", "amount"]
theorem sc_Flow_send : FnScope N_Flow_send ["self", "side", "amount"] (defScope s_Flow_send) := C8.fnScope_by (by decide +kernel)
theorem ok_Flow_send (T : Txt G mg) {f : Addr} {fd : FuncData} (F : FnP G.K "send" "Flow.send" s_Flow_send f fd) (me : Meth G.K G.F "send" f) (m_Flow_take_out : C8.Met P w G.K mg base 1 G.F "take_out" (sp_take_out G) []) : C8.Met P w G.K mg base 2 G.F "send" (sp_send G) [] := by
  refine met_mk T.cF me F (F.bindsN fun _ _ _ _ _ _ us hl => match us, hl with | [_, _, _], _ => rfl) sc_Flow_send (fun vs H Q E h => ?_) (fun cdv A outer s H vs Q E hr h => ?_)
  · obtain ⟨e, g, r, i, n, TT, rfl, hw, ft, hn, k⟩ := h
    rfl
  · obtain ⟨e, g, r, i, n, TT, rfl, hw, ft, hn, k⟩ := h
    refine ⟨_, (pss_cons (ps_expr (C8.pe_mt m_Flow_take_out hr (by decide) (pv 0) (pa_cons (pv 1) (pa_cons (pv 2) pa_nil))))
    (pss_cons (ps_augS (pe_fld (pv 0) rfl) (pv 1) get_list (pv 2) ip_add set_list)
    (pss_cons (ps_if (pt_chain op_lt op_lt pe_int (pv 2) (pe_fld (pe_fld (pv 0) rfl) rfl)) (pss_one (ps_asg (pe_ix ix_list (pe_fld (pv 0) rfl) (pv 1) (fun _ _ => rfl)) (pg_sub (pe_fld (pv 0) rfl) (pv 1) set_list))) pss_nil)
    (pss_cons (ps_expr (pe_bm PySem.F.plainAttrs_list PySem.F.slot_list_append PySem.F.type_list_append mt_append (pe_fld (pv 0) rfl) (pa_cons (pe_tup (pa_cons (pe_fld (pv 0) rfl) (pa_cons (pv 1) (pa_cons (pv 2) (pa_cons (pe_ix ix_list (pe_fld (pv 0) rfl) (pv 1) (fun _ _ => rfl)) pa_nil))))) pa_nil)))
    (pss_cons (ps_expr (pe_bm PySem.F.plainAttrs_list PySem.F.slot_list_append PySem.F.type_list_append mt_append (pe_fld (pv 0) rfl) (pa_cons (pe_tup (pa_cons (pe_op op_add (pe_fld (pv 0) rfl) (pe_fld (pe_fld (pv 0) rfl) rfl)) (pa_cons (pv 1) (pa_cons (pv 2) (pa_cons (pe_ix ix_list (pe_fld (pv 0) rfl) (pv 1) (fun _ _ => rfl)) pa_nil))))) pa_nil)))
    (pss_cons (ps_asg pe_int (pg_sub (pe_fld (pv 0) rfl) (pv 1) set_list))
    (pss_one (ps_asg pe_non (pg_sub (pe_fld (pv 0) rfl) (pv 1) set_list))))))))), ?_⟩
    have hs : ∀ H, Val (tVar 0) (start N_Flow_send [V.ref (e.a 0), V.int (bi i), V.int n]) H (.ref (e.a 0)) := fun _ => val_var rfl
    have hi : ∀ H, Val (tVar 1) (start N_Flow_send [V.ref (e.a 0), V.int (bi i), V.int n]) H (.int (bi i)) := fun _ => val_var rfl
    have ha : ∀ H, Val (tVar 2) (start N_Flow_send [V.ref (e.a 0), V.int (bi i), V.int n]) H (.int n) := fun _ => val_var rfl
    refine y_drop (m_call (hs H) hw.hF rfl (va_cons (hi H) (va_cons (ha H) va_nil)) ⟨e, g, r, i, n, rfl, hw, ft.good.pos i, hn, fun H1 w1 => ?_⟩)
    refine y_augOut T w1 (hs _) (hi _) (ha _) fun H2 w2 => ?_
    rw [sd_same, sd_at] at w2
    refine y_whenC (fun H3 => W G e g H3 (r.sd i { r.s.sd i with stock := takeStock (r.s.sd i).stock n, out := (r.s.sd i).out + n, small := (if 0 < n ∧ n < e.L.size then (r.s.sd i).out + n else (r.s.sd i).small) }))
      (a_T (v_chain (f := fun i j => decide (i < j)) (h := fun i j => decide (i < j)) v_c (ha _) (f_size T w2 (hs _)))) (fun H3 w3 => ?_) (fun hb cont => ?_) (fun hb => ?_)
    · refine y_appLog T w3 (hs _) (p := ⟨r.s.tick, i, n, (r.s.sd i).come⟩) (Nat.le_trans ft.log (by decide)) (va_cons (v_is (f_tick T w3 (hs _)) rfl) (va_cons (hi _) (va_cons (ha _) (va_cons (v_is (f_comeI T w3 (hs _) (hi _)) (by rw [sd_at])) va_nil)))) fun H4 w4 => ?_
      refine y_appFlight T w4 (hs _) (p := ⟨r.s.tick + e.L.way, i, n, (r.s.sd i).come⟩) (Nat.le_trans ft.flight (by decide)) (va_cons (v_is (v_add (f_tick T w4 (hs _)) (f_way T w4 (hs _))) rfl) (va_cons (hi _) (va_cons (ha _) (va_cons (v_is (f_comeI T w4 (hs _) (hi _)) (by
        show V.int ((r.sd i _).s.sd i).come = _
        rw [sd_at])) va_nil)))) fun H5 w5 => ?_
      refine y_setFull T w5 (hs _) (hi _) v_c fun H6 w6 => ?_
      refine x_setFirst T w6 (hs _) (hi _) (o := none) v_c fun H7 w7 => ?_
      refine k _ (w7.is ?_)
      simp only [RS.sd, upS_same, upS_upS]
      rfl
    · rw [Bool.and_eq_true, decide_eq_true_eq, decide_eq_true_eq] at hb
      refine x_setSmall T w2 (hs _) (hi _) (z := (r.s.sd i).out + n) (v_is (f_outI T w2 (hs _) (hi _)) (by rw [sd_at])) fun H3 w3 => ?_
      rw [sd_same, sd_at] at w3
      refine cont _ (w3.is ?_)
      rw [if_pos hb]
    · rw [Bool.and_eq_false_iff, decide_eq_false_iff_not, decide_eq_false_iff_not] at hb
      refine w2.is ?_
      rw [if_neg (fun z => hb.elim (fun q => q z.1) (fun q => q z.2))]
abbrev N_Flow_is_due : List Str := ["self", "side", "setting"]
theorem sc_Flow_is_due : FnScope N_Flow_is_due ["self", "side"] (defScope s_Flow_is_due) := C8.fnScope_by (by decide +kernel)
theorem ok_Flow_is_due (T : Txt G mg) {f : Addr} {fd : FuncData} (F : FnP G.K "is_due" "Flow.is_due" s_Flow_is_due f fd) (me : Meth G.K G.F "is_due" f) : C8.Met P w G.K mg base 1 G.F "is_due" (sp_is_due G) [] := by
  refine met_mk T.cF me F (F.bindsN fun _ _ _ _ _ _ us hl => match us, hl with | [_, _], _ => rfl) sc_Flow_is_due (fun vs H Q E h => ?_) (fun cdv A outer s H vs Q E hr h => ?_)
  · obtain ⟨e, g, r, i, rfl, hw, k⟩ := h
    rfl
  · obtain ⟨e, g, r, i, rfl, hw, k⟩ := h
    refine ⟨_, (pss_cons (ps_set (i := 2) sc_Flow_is_due.nd rfl (Or.inl rfl) (pe_ix ix_tup (pe_fld (pv 0) rfl) (pv 1) (fun _ _ => rfl)))
    (pss_cons (ps_if (pt_cmpR op_ge (pe_ix ix_list (pe_fld (pv 0) rfl) (pv 1) (fun _ _ => rfl)) (pe_fld (pv 2) rfl) (nomark _)) (pss_one (ps_ret pe_bl)) pss_nil)
    (pss_one (ps_ret ((pe_and (pe_cmpR op_notN (pe_ix ix_list (pe_fld (pv 0) rfl) (pv 1) (fun _ _ => rfl)) pe_non (nomark _)) (pe_one (pe_cmpR op_ge (pe_fld (pv 0) rfl) (pe_op op_add (pe_ix ix_list (pe_fld (pv 0) rfl) (pv 1) (fun _ _ => rfl)) (pe_fld (pv 2) rfl)) (nomark _))))))))), ?_⟩
    have hs : ∀ v, Val (tVar 0) [some (V.ref (e.a 0)), some (V.int (bi i)), v] H (.ref (e.a 0)) := fun _ => val_var rfl
    have hi : ∀ v, Val (tVar 1) [some (V.ref (e.a 0)), some (V.int (bi i)), v] H (.int (bi i)) := fun _ => val_var rfl
    refine y_set (f_set T hw (hs none) (hi none)) ?_
    show tSeq _ _ _ [some (V.ref (e.a 0)), some (V.int (bi i)), some (V.ref (e.se i))] H
    obtain ⟨dx, fs, z, h1, h2, h3, h4, h5, h6⟩ := hw.line.se i
    have hv : Val (tVar 2) [some (V.ref (e.a 0)), some (V.int (bi i)), some (V.ref (e.se i))] H (.ref (e.se i)) := val_var rfl
    unfold isDue at k
    refine y_when (a_T (v_ge (f_fullI T hw (hs _) (hi _)) (v_fl hv h1 T.cS T.S_every h5))) (fun hb => ?_) (fun hb => ?_)
    · rw [if_pos (of_decide_eq_true hb)] at k
      exact x_ret v_c k
    · rw [if_neg (of_decide_eq_false hb)] at k
      cases hf : (r.s.sd i).first with
      | none =>
        rw [hf] at k
        refine x_ret (v_andV (b := false) (c := false) (v_is (v_notN (f_firstI T hw (hs _) (hi _))) (by rw [hf]; rfl)) (fun q => by cases q)) ?_
        exact k
      | some f =>
        rw [hf] at k
        have hf2 : Val (tOp (rIxL G.K) (tFld G.K (tVar 0) "first") (tVar 1)) [some (V.ref (e.a 0)), some (V.int (bi i)), some (V.ref (e.se i))] H (.int f) := v_is (f_firstI T hw (hs _) (hi _)) (by rw [hf]; rfl)
        refine x_ret (v_andV (b := true) (v_is (v_notN hf2) rfl) (fun _ => v_ge (f_tick T hw (hs _)) (v_add hf2 (v_fl hv h1 T.cS T.S_delay h6)))) ?_
        rw [Bool.true_and]
        exact k

theorem loop_stop {L : Ln} {i : Bool} {s : FS} (h : ¬ L.size ≤ kept (s.sd i).stock) : ∀ n, loopGo L i n s = s
  | 0 => rfl
  | n + 1 => by
    unfold loopGo
    rw [if_neg h]
theorem Fit.send {T : Int} {r : RS} {L : Ln} {i : Bool} {a : Int} (f : Fit T r) (k : LOk L) (h0 : 0 ≤ a) (h1 : a ≤ kept (r.s.sd i).stock) (h2 : 0 < a ∨ (r.s.sd i).first ≠ none) : Fit T { r with s := SH.send L i a r.s } := by
  have x := (send_le (L := L) f.good h0 h1 h2).1.lg
  have y := f.lg
  exact ⟨send_good k f.good h0 h1, by show SH.m (SH.send L i a r.s) + ((SH.send L i a r.s).log.length : Int) ≤ _; omega⟩
theorem Fit.of {T : Int} {r r' : RS} (f : Fit T r) (h : Gd T r.s r'.s) : Fit T r' := by
  have x := h.le.lg
  have y := f.lg
  exact ⟨h.good, by omega⟩
abbrev N_Flow_let_go : List Str := ["self", "side", "amount"]
theorem sc_Flow_let_go : FnScope N_Flow_let_go ["self", "side"] (defScope s_Flow_let_go) := C8.fnScope_by (by decide +kernel)
theorem ok_Flow_let_go (T : Txt G mg) {f : Addr} {fd : FuncData} (F : FnP G.K "let_go" "Flow.let_go" s_Flow_let_go f fd) (me : Meth G.K G.F "let_go" f) (m_Flow_kept : C8.Met P w G.K mg base 1 G.F "kept" (sp_kept G) []) (m_Flow_send : C8.Met P w G.K mg base 2 G.F "send" (sp_send G) []) (m_Flow_lets : C8.Met P w G.K mg base 1 G.F "lets" (sp_lets G) []) : C8.Met P w G.K mg base 3 G.F "let_go" (sp_let_go G) [] := by
  refine met_mk T.cF me F (F.bindsN fun _ _ _ _ _ _ us hl => match us, hl with | [_, _], _ => rfl) sc_Flow_let_go (fun vs H Q E h => ?_) (fun cdv A outer s H vs Q E hr h => ?_)
  · obtain ⟨e, g, r, i, TT, rfl, hw, ft, k⟩ := h
    rfl
  · obtain ⟨e, g, r, i, TT, rfl, hw, ft, k⟩ := h
    refine ⟨_, (pss_cons (ps_while PassesOwn.never (pt_cmpR op_ge (C8.pe_mt m_Flow_kept hr (by decide) (pv 0) (pa_cons (pv 1) pa_nil)) (pe_fld (pe_fld (pv 0) rfl) rfl) (nomark _)) (pss_one (ps_expr (C8.pe_mt m_Flow_send hr (by decide) (pv 0) (pa_cons (pv 1) (pa_cons (pe_fld (pe_fld (pv 0) rfl) rfl) pa_nil))))))
    (pss_cons (ps_set (i := 2) sc_Flow_let_go.nd rfl (Or.inl rfl) (C8.pe_mt m_Flow_kept hr (by decide) (pv 0) (pa_cons (pv 1) pa_nil)))
    (pss_one (ps_if (PW.pt (pw_and (pt_cmpR op_gt (pv 2) pe_int (nomark _)) (pw_and1 (pt_val (C8.pe_mt m_Flow_lets hr (by decide) (pv 0) (pa_cons (pv 1) pa_nil)))))) (pss_one (ps_expr (C8.pe_mt m_Flow_send hr (by decide) (pv 0) (pa_cons (pv 1) (pa_cons (pv 2) pa_nil))))) pss_nil)))), ?_⟩
    have hs : ∀ v H, Val (tVar 0) [some (V.ref (e.a 0)), some (V.int (bi i)), v] H (.ref (e.a 0)) := fun _ _ => val_var rfl
    have hi : ∀ v H, Val (tVar 1) [some (V.ref (e.a 0)), some (V.int (bi i)), v] H (.int (bi i)) := fun _ _ => val_var rfl
    have kl := hw.im.lok
    have ks := kl.size
    have kn := kept_nonneg (ft.good.pos i)
    refine ⟨fun m σ H' => ∃ (s' : FS), σ = [some (V.ref (e.a 0)), some (V.int (bi i)), none] ∧ W G e g H' { r with s := s' } ∧ Fit TT { r with s := s' } ∧ kept (s'.sd i).stock ≤ (m : Int) ∧ loopGo e.L i m s' = loopGo e.L i (kept (r.s.sd i).stock).toNat r.s,
      ⟨_, r.s, rfl, hw, ft, Int.le_of_eq (Int.toNat_of_nonneg kn).symm, rfl⟩, ?_⟩
    rintro m σ H' ⟨s', rfl, hw', ft', hm', hl'⟩
    refine m_call (hs _ _) hw'.hF rfl (va_cons (hi _ _) va_nil) ⟨e, g, _, i, rfl, hw', ft'.stock i, fun H1 w1 => ?_⟩
    refine f_size T w1 (hs _ _) _ ?_
    refine ⟨_, _, rfl, rfl, _, rfl, ?_⟩
    refine ite2 (fun hb => ?_) (fun hb => ?_)
    · have hb' : e.L.size ≤ kept (s'.sd i).stock := of_decide_eq_true hb
      refine ⟨_, fun _ _ q => q, ?_⟩
      refine x_drop (m_call (hs _ _) w1.hF rfl (va_cons (hi _ _) (va_cons (f_size T w1 (hs _ _)) va_nil)) ⟨e, g, _, i, _, TT, rfl, w1, ft', hb', fun H2 w2 => ?_⟩)
      match m, hm', hl' with
      | 0, hm', _ =>
        exact absurd hm' (by omega)
      | m + 1, hm', hl' =>
        refine ⟨m, Nat.lt_succ_self m, SH.send e.L i e.L.size s', rfl, w2, ft'.send kl (by omega) hb' (.inl (by omega)), ?_, ?_⟩
        · have q2 : kept ((SH.send e.L i e.L.size s').sd i).stock = kept (s'.sd i).stock - e.L.size := send_kept ft'.good (by omega) hb'
          omega
        · rw [← hl']
          conv => rhs; unfold loopGo
          rw [if_pos hb']
    · have hb' : ¬ e.L.size ≤ kept (s'.sd i).stock := fun q => hb (decide_eq_true q)
      have e1 : s' = loopGo e.L i (kept (r.s.sd i).stock).toNat r.s := by rw [← hl', loop_stop hb']
      refine y_asgE (m_call (hs _ _) w1.hF rfl (va_cons (hi _ _) va_nil) ⟨e, g, _, i, rfl, w1, ft'.stock i, fun H2 w2 => ?_⟩)
      show tIfS _ _ _ _ [some (V.ref (e.a 0)), some (V.int (bi i)), some (V.int (kept (s'.sd i).stock))] H2
      have fin : ∀ H3 s3, W G e g H3 { r with s := s3 } → s3 = lastGo e.L i s' → Q .non H3 := fun H3 s3 w3 h3 => k _ (w3.is (by rw [h3, e1]; rfl))
      have hlets : ∀ Q' : Bool → Hp → Prop, Q' (lets e.L i s') H2 → tB (tMeth G.F "lets" (sp_lets G) [] C8.E0 (tVar 0) (tCons (tVar 1) tNil)) [some (V.ref (e.a 0)), some (V.int (bi i)), some (V.int (kept (s'.sd i).stock))] H2 Q' := fun Q' q =>
        m_call (hs _ _) w2.hF rfl (va_cons (hi _ _) va_nil) ⟨e, g, _, i, rfl, w2, _, rfl, q⟩
      refine x_if (a_and (a_T (v_gt (v_var rfl) v_c)) (fun _ => hlets)) (fun hb => ?_) (fun hb => ?_)
      · rw [Bool.and_eq_true, decide_eq_true_eq] at hb
        refine x_drop (m_call (hs _ _) w2.hF rfl (va_cons (hi _ _) (va_cons (v_var rfl) va_nil)) ⟨e, g, _, i, _, TT, rfl, w2, ft', Int.le_refl _, fun H3 w3 => fin _ _ w3 ?_⟩)
        unfold lastGo
        rw [if_pos hb]
      · refine fin _ _ w2 ?_
        unfold lastGo
        rw [if_neg]
        intro q
        rw [q.2, decide_eq_true q.1] at hb
        cases hb
abbrev N_Flow_put : List Str := ["self", "side", "amount"]
theorem sc_Flow_put : FnScope N_Flow_put ["self", "side", "amount"] (defScope s_Flow_put) := C8.fnScope_by (by decide +kernel)
theorem ok_Flow_put (T : Txt G mg) {f : Addr} {fd : FuncData} (F : FnP G.K "put" "Flow.put" s_Flow_put f fd) (me : Meth G.K G.F "put" f) (m_Flow_let_go : C8.Met P w G.K mg base 3 G.F "let_go" (sp_let_go G) []) : C8.Met P w G.K mg base 4 G.F "put" (sp_put G) [] := by
  refine met_mk T.cF me F (F.bindsN fun _ _ _ _ _ _ us hl => match us, hl with | [_, _, _], _ => rfl) sc_Flow_put (fun vs H Q E h => ?_) (fun cdv A outer s H vs Q E hr h => ?_)
  · obtain ⟨e, g, r, i, n, TT, rfl, hw, gf, hn, hm, k⟩ := h
    rfl
  · obtain ⟨e, g, r, i, n, TT, rfl, hw, gf, hn, hm, k⟩ := h
    refine ⟨_, (pss_cons (ps_expr (pe_bm PySem.F.plainAttrs_list PySem.F.slot_list_append PySem.F.type_list_append mt_append (pe_ix ix_list (pe_fld (pv 0) rfl) (pv 1) (fun _ _ => rfl)) (pa_cons (pe_tup (pa_cons (pv 2) (pa_cons (pe_fld (pv 0) rfl) pa_nil))) pa_nil)))
    (pss_one (ps_expr (C8.pe_mt m_Flow_let_go hr (by decide) (pv 0) (pa_cons (pv 1) pa_nil))))), ?_⟩
    have hs : ∀ H, Val (tVar 0) (start N_Flow_put [V.ref (e.a 0), V.int (bi i), V.int n]) H (.ref (e.a 0)) := fun _ => val_var rfl
    have hi : ∀ H, Val (tVar 1) (start N_Flow_put [V.ref (e.a 0), V.int (bi i), V.int n]) H (.int (bi i)) := fun _ => val_var rfl
    have hl : (r.s.sd i).stock.length ≤ 100000 := by
      have := stock_m gf i
      omega
    have h12 := hw.hSt i
    refine y_appT (f_stk T hw (hs _) (hi _)) h12.choose_spec.1 (by rw [List.length_map, h12.choose_spec.2.len, List.length_map]; exact sz5 hl) (va_cons (v_var rfl) (va_cons (f_tick T hw (hs _)) va_nil)) (by show 2 ≤ sizeLine; decide) fun p hp => ?_
    obtain ⟨rs', e1, _, e2⟩ := LT.app (x := stV (n, r.s.tick)) h12 hp
    have ee : h12.choose.map V.ref = rs'.map V.ref := HO.lst.inj (Option.some.inj (h12.choose_spec.1.symm.trans e1))
    rw [ee]
    have hw2 := (hw.new (o := .tup (stV (n, r.s.tick))) hp).setStock i (st := (r.s.sd i).stock ++ [(n, r.s.tick)]) (by rw [List.map_append]; exact e2)
    have pm := put_m r.s i n
    refine x_drop (m_call (hs _) hw2.hF rfl (va_cons (hi _) va_nil) ⟨e, g, _, i, TT, rfl, hw2, ⟨putS_good gf hn, ?_⟩, fun H3 w3 => k _ w3⟩)
    show SH.m (putS i n r.s) + (r.s.log.length : Int) ≤ _
    omega
abbrev N_Flow_land : List Str := ["self", "sender", "amount", "answered", "side"]
theorem sc_Flow_land : FnScope N_Flow_land ["self", "sender", "amount", "answered"] (defScope s_Flow_land) := C8.fnScope_by (by decide +kernel)
theorem ok_Flow_land (T : Txt G mg) {f : Addr} {fd : FuncData} (F : FnP G.K "land" "Flow.land" s_Flow_land f fd) (me : Meth G.K G.F "land" f) : C8.Met P w G.K mg base 1 G.F "land" (sp_land G) [] := by
  refine met_mk T.cF me F (F.bindsN fun _ _ _ _ _ _ us hl => match us, hl with | [_, _, _, _], _ => rfl) sc_Flow_land (fun vs H Q E h => ?_) (fun cdv A outer s H vs Q E hr h => ?_)
  · obtain ⟨e, g, r, p, rfl, hw, k⟩ := h
    rfl
  · obtain ⟨e, g, r, p, rfl, hw, k⟩ := h
    refine ⟨_, (pss_cons (ps_set (i := 4) sc_Flow_land.nd rfl (Or.inl rfl) (pe_op op_sub pe_int (pv 1)))
    (pss_cons (ps_asg (pe_callB (call_max2 rfl) (by rfl) T.z_max (by decide +kernel) (pa_cons (pe_ix ix_list (pe_fld (pv 0) rfl) (pv 4) (fun _ _ => rfl)) (pa_cons (pv 3) pa_nil))) (pg_sub (pe_fld (pv 0) rfl) (pv 4) set_list))
    (pss_one (ps_if (pt_cmpR op_gt (pv 2) pe_int (nomark _)) (pss_cons (ps_augS (pe_fld (pv 0) rfl) (pv 4) get_list (pv 2) ip_add set_list)
    (pss_cons (ps_if (pt_cmpR op_eq (pv 2) (pe_fld (pe_fld (pv 0) rfl) rfl) (nomark _)) (pss_one (ps_augS (pe_fld (pv 0) rfl) (pv 4) get_list pe_int ip_add set_list)) pss_nil)
    (pss_one (ps_if (pt_cmpR op_isN (pe_ix ix_list (pe_fld (pv 0) rfl) (pv 4) (fun _ _ => rfl)) pe_non (nomark _)) (pss_one (ps_asg (pe_fld (pv 0) rfl) (pg_sub (pe_fld (pv 0) rfl) (pv 4) set_list))) pss_nil)))) pss_nil)))), ?_⟩
    have hs : ∀ v H, Val (tVar 0) [some (V.ref (e.a 0)), some (V.int (bi p.side)), some (V.int p.amount), some (V.int p.ans), v] H (.ref (e.a 0)) := fun _ _ => val_var rfl
    have hv : Val (tOp (rI0 fun i j => .int (i - j)) (tC (.int 1)) (tVar 1)) [some (V.ref (e.a 0)), some (V.int (bi p.side)), some (V.int p.amount), some (V.int p.ans), none] H (.int (bi (!p.side))) := v_is (v_sub v_c (v_var rfl)) (by cases p.side <;> rfl)
    refine y_set hv ?_
    show tSeq _ _ _ [some (V.ref (e.a 0)), some (V.int (bi p.side)), some (V.int p.amount), some (V.int p.ans), some (V.int (bi (!p.side)))] H
    have hi : ∀ H, Val (tVar 4) [some (V.ref (e.a 0)), some (V.int (bi p.side)), some (V.int p.amount), some (V.int p.ans), some (V.int (bi (!p.side)))] H (.int (bi (!p.side))) := fun _ => val_var rfl
    have ha : ∀ H, Val (tVar 2) [some (V.ref (e.a 0)), some (V.int (bi p.side)), some (V.int p.amount), some (V.int p.ans), some (V.int (bi (!p.side)))] H (.int p.amount) := fun _ => val_var rfl
    generalize hj : (!p.side) = j at hv hi
    refine y_setKnown T hw (hs _ _) (hi _) (v_max2 (f_knownI T hw (hs _ _) (hi _)) (v_var rfl)) fun H1 w1 => ?_
    refine x_if (a_T (v_gt (ha _) v_c)) (fun hb => ?_) (fun hb => ?_)
    · have hb' : 0 < p.amount := of_decide_eq_true hb
      refine y_augCome T w1 (hs _ _) (hi _) (ha _) fun H2 w2 => ?_
      rw [sd_same, sd_at] at w2
      refine y_whenC (fun H3 => W G e g H3 (r.sd j { r.s.sd j with known := (if p.ans > (r.s.sd j).known then p.ans else (r.s.sd j).known), come := (r.s.sd j).come + p.amount, full := (if p.amount = e.L.size then (r.s.sd j).full + 1 else (r.s.sd j).full) }))
        (a_T (v_eq (ha _) (f_size T w2 (hs _ _)) rfl)) (fun H3 w3 => ?_) (fun hq cont => ?_) (fun hq => ?_)
      · have hf : Val (tOp (rIxL G.K) (tFld G.K (tVar 0) "first") (tVar 4)) [some (V.ref (e.a 0)), some (V.int (bi p.side)), some (V.int p.amount), some (V.int p.ans), some (V.int (bi j))] H3 (ov (r.s.sd j).first) := v_is (f_firstI T w3 (hs _ _) (hi _)) (by rw [sd_at])
        have fin : ∀ H4, W G e g H4 (r.sd j { r.s.sd j with known := (if p.ans > (r.s.sd j).known then p.ans else (r.s.sd j).known), come := (r.s.sd j).come + p.amount, full := (if p.amount = e.L.size then (r.s.sd j).full + 1 else (r.s.sd j).full), first := (match (r.s.sd j).first with | none => some r.s.tick | some x => some x) }) → Q .non H4 := fun H4 w4 => by
          refine k _ (w4.is ?_)
          show _ = ({ r with s := land e.L p r.s } : RS)
          unfold land landD
          rw [if_pos hb', hj]
          try rfl
        refine x_if (a_T (v_isN hf)) (fun hz => ?_) (fun hz => ?_)
        · rw [dec_ov_non, decide_eq_true_eq] at hz
          refine x_setFirst T w3 (hs _ _) (hi _) (o := some r.s.tick) (v_is (f_tick T w3 (hs _ _)) rfl) fun H4 w4 => ?_
          rw [sd_same, sd_at] at w4
          refine fin _ (w4.is ?_)
          rw [hz]
        · rw [dec_ov_non, decide_eq_false_iff_not] at hz
          refine fin _ (w3.is ?_)
          rw [match_some _ _ hz]
      · have hq' : p.amount = e.L.size := by
          have := of_decide_eq_true hq
          exact V.int.inj this
        refine x_augFull T w2 (hs _ _) (hi _) v_c fun H3 w3 => ?_
        rw [sd_same, sd_at] at w3
        refine cont _ (w3.is ?_)
        rw [if_pos hq']
      · have hq' : ¬ p.amount = e.L.size := fun z => (of_decide_eq_false hq) (congrArg V.int z)
        refine w2.is ?_
        rw [if_neg hq']
    · have hb' : ¬ 0 < p.amount := of_decide_eq_false hb
      refine k _ (w1.is ?_)
      show _ = ({ r with s := land e.L p r.s } : RS)
      unfold land landD
      rw [if_neg hb', hj]

end
end SH
end
section
namespace SH
open PySem PySem.Spec PyProof.Rows L2
section
variable {P : Program} {w : World} {G : Gl5} {mg : Str → Option Value} {base : Heap}

theorem tick_put (e : En) (g : Addr) (t u : Int) : putF "tick" (.int u) (flowF e g t) = flowF e g u := by rfl
theorem flight_put (e : En) (g g' : Addr) (t : Int) : putF "flight" (.ref g') (flowF e g t) = flowF e g' t := by rfl
theorem landAll_app (L : Ln) : ∀ (a b : List Pc) (s : FS), landAll L (a ++ b) s = landAll L b (landAll L a s)
  | [], b, s => rfl
  | p :: a, b, s => landAll_app L a b (land L p s)
/-- for side in (0, 1) -/
theorem for_sides {e : En} {g : Addr} {H : Hp} {r : RS} {σ : L2.St} {D : Ends} {tb : TS} {j : Nat} (hw : W G e g H r) (Iv : Nat → L2.St → RS → Prop) (h0 : Iv 0 σ r)
    (hs : ∀ (Hb : Hp), Same e.H0 (reb e g Hb).H0 → ∀ (i : Bool) (g' : Addr) (σ' : L2.St) (H' : Hp) (r' : RS), Iv (bn i) σ' r' → W G (reb e g Hb) g' H' r' → ∀ Nx : L2.St → Hp → Prop, (∀ σ2 H2 g2 r2, Iv (bn i + 1) σ2 r2 → W G (reb e g Hb) g2 H2 r2 → Nx σ2 H2) →
      tb { D with nx := Nx, ct := Nx, bk := D.nx } (σ'.set j (some (.int (bi i)))) H')
    (hd : ∀ σ' H' g' r', Iv 2 σ' r' → W G e g' H' r' → D.nx σ' H') : tFor (iTup G.K (tTup (tCons (tC (.int 0)) (tCons (tC (.int 1)) tNil)))) (gName j) tb D σ H := by
  unfold tFor iTup
  refine x_tup (va_cons v_c (va_cons v_c va_nil)) (by show 2 ≤ sizeLine; decide) fun p hp => ?_
  have hw1 := hw.new (o := .tup [V.int 0, V.int 1]) hp
  refine ⟨p, rfl, ⟨_, SqT.of upd_same⟩, for_tup (K := G.K) (a := p) (xs := [V.int 0, V.int 1]) (fun k σ' H' => ∃ g' r', Iv k σ' r' ∧ W G (reb e g (upd H p (.tup [V.int 0, V.int 1]))) g' H' r') ⟨g, r, h0, hw1.reb⟩ ?_ ?_ ?_⟩
  · rintro k σ' H' _ ⟨g', r', _, w'⟩
    exact SqT.of (w'.same _ _ (hw.rest_new hp))
  · rintro k x σ' H' hx ⟨g', r', hI, w'⟩
    have key : ∀ i : Bool, k = bn i → x = .int (bi i) → gName j x σ' H' fun σ2 H2 => tb { D with nx := fun σ' H' => ∃ g' r', Iv (k + 1) σ' r' ∧ W G (reb e g (upd H p (.tup [V.int 0, V.int 1]))) g' H' r', ct := fun σ' H' => ∃ g' r', Iv (k + 1) σ' r' ∧ W G (reb e g (upd H p (.tup [V.int 0, V.int 1]))) g' H' r', bk := D.nx } σ2 H2 := fun i e1 e2 => by
      subst e1
      subst e2
      exact hs _ (fun b o h => hw1.rest_H0 h) i g' σ' H' r' hI w' _ fun σ2 H2 g2 r2 h1 h2 => ⟨g2, r2, h1, h2⟩
    match k, hx with
    | 0, hx =>
      cases hx
      exact key false rfl rfl
    | 1, hx =>
      cases hx
      exact key true rfl rfl
    | k + 2, hx => simp at hx
  · rintro σ' H' ⟨g', r', hI, w'⟩
    exact hd σ' H' g' r' hI (hw1.unreb w')
theorem W.newG {e : En} {g D : Addr} {H : Hp} {r : RS} {l : List Pc} (w : W G e g H r) (j : Jk e g D) (h : LT H D (l.map pcV)) : W G e D (upd H (e.a 0) (.ins G.F e.fdx (flowF e D r.s.tick))) { r with s := { r.s with flight := l } } := by
  have n0 := cell_noTup w.cell (i := 0) (by decide)
  refine ⟨w.im, w.same.own (w.im.fr 0 (by decide)), j.h0, j.ne, fun i => ?_⟩
  have ne : ∀ k, k < 14 → k ≠ 0 → e.a k ≠ e.a 0 := fun k hk h0 z => h0 (w.im.inj k 0 hk (by decide) z)
  match i with
  | 0 => exact upd_same
  | 14 => exact h.mono But.upd n0 (j.ne 0 (by decide)).symm
  | 1 => exact LT.mono (w.cell 1) But.upd n0 (ne 1 (by decide) (by decide))
  | 2 => exact LT.mono (w.cell 2) But.upd n0 (ne 2 (by decide) (by decide))
  | 3 => exact But.upd _ _ (w.cell 3) (ne 3 (by decide) (by decide))
  | 4 => exact But.upd _ _ (w.cell 4) (ne 4 (by decide) (by decide))
  | 5 => exact But.upd _ _ (w.cell 5) (ne 5 (by decide) (by decide))
  | 6 => exact But.upd _ _ (w.cell 6) (ne 6 (by decide) (by decide))
  | 7 => exact But.upd _ _ (w.cell 7) (ne 7 (by decide) (by decide))
  | 8 => exact But.upd _ _ (w.cell 8) (ne 8 (by decide) (by decide))
  | 9 => exact But.upd _ _ (w.cell 9) (ne 9 (by decide) (by decide))
  | 10 =>
    obtain ⟨x, y, hh⟩ := w.cell 10
    exact ⟨x, y, But.upd _ _ hh (ne 10 (by decide) (by decide))⟩
  | 11 => exact LT.mono (w.cell 11) But.upd n0 (ne 11 (by decide) (by decide))
  | 12 => exact But.upd _ _ (w.cell 12) (ne 12 (by decide) (by decide))
  | 13 => exact But.upd _ _ (w.cell 13) (ne 13 (by decide) (by decide))
  | n + 15 => exact True.intro
abbrev N_Flow_leave : List Str := ["self", "side"]
theorem sc_Flow_leave : FnScope N_Flow_leave ["self"] (defScope s_Flow_leave) := C8.fnScope_by (by decide +kernel)
theorem ok_Flow_leave (T : Txt G mg) {f : Addr} {fd : FuncData} (F : FnP G.K "leave" "Flow.leave" s_Flow_leave f fd) (me : Meth G.K G.F "leave" f) (m_Flow_is_due : C8.Met P w G.K mg base 1 G.F "is_due" (sp_is_due G) []) (m_Flow_send : C8.Met P w G.K mg base 2 G.F "send" (sp_send G) []) : C8.Met P w G.K mg base 3 G.F "leave" (sp_leave G) [] := by
  refine met_mk T.cF me F (F.bindsN fun _ _ _ _ _ _ us hl => match us, hl with | [_], _ => rfl) sc_Flow_leave (fun vs H Q E h => ?_) (fun cdv A outer s H vs Q E hr h => ?_)
  · obtain ⟨e, g, r, TT, rfl, hw, ft, k⟩ := h
    rfl
  · obtain ⟨e, g, r, TT, rfl, hw, ft, k⟩ := h
    refine ⟨_, (pss_one (ps_for PassesOwn.never rfl (pi_tup (pe_tup (pa_cons pe_int (pa_cons pe_int pa_nil)))) (pg_name (i := 1) sc_Flow_leave.nd rfl (Or.inl rfl)) (pss_one (ps_if (pt_val (C8.pe_mt m_Flow_is_due hr (by decide) (pv 0) (pa_cons (pv 1) pa_nil))) (pss_one (ps_expr (C8.pe_mt m_Flow_send hr (by decide) (pv 0) (pa_cons (pv 1) (pa_cons pe_int pa_nil))))) pss_nil)))), ?_⟩
    refine for_sides hw (fun n σ' r' => ∃ x, σ' = [some (V.ref (e.a 0)), x] ∧ (n = 0 → r' = r) ∧ (n = 1 → r' = { r with s := leave1 e.L false r.s }) ∧ (n = 2 → r' = { r with s := leave e.L r.s }) ∧ Fit TT r') ⟨none, rfl, fun _ => rfl, (fun h => by cases h), (fun h => by cases h), ft⟩ ?_ ?_
    · rintro Hb sH i g' σ' H' r' ⟨x, rfl, h0, h1, h2, ft'⟩ w' Nx hN
      have hs : ∀ v H, Val (tVar 0) [some (V.ref (e.a 0)), v] H (.ref (e.a 0)) := fun _ _ => val_var rfl
      have hi : ∀ H, Val (tVar 1) [some (V.ref (e.a 0)), some (V.int (bi i))] H (.int (bi i)) := fun _ => val_var rfl
      have kl := hw.im.lok
      have hkn := kept_nonneg (ft'.good.pos i)
      have x1 := leave1_good (i := i) kl ft'.good
      have fin : ∀ H2 r2, W G (reb e g Hb) g' H2 r2 → r2 = { r' with s := leave1 e.L i r'.s } → Nx [some (V.ref (e.a 0)), some (V.int (bi i))] H2 := fun H2 r2 w2 e2 => by
        refine hN _ _ g' r2 ⟨_, rfl, ?_, ?_, ?_, e2 ▸ ft'.of x1.1⟩ w2
        · intro z; cases z
        · intro z
          cases i with
          | false => rw [e2, h0 rfl]
          | true => cases z
        · intro z
          cases i with
          | false => cases z
          | true =>
            rw [e2, h1 rfl]
            rfl
      refine (show ∀ Q' : Bool → Hp → Prop, Q' (isDue e.L i r'.s) H' → tB (tMeth G.F "is_due" (sp_is_due G) [] C8.E0 (tVar 0) (tCons (tVar 1) tNil)) [some (V.ref (e.a 0)), some (V.int (bi i))] H' Q' from fun Q' q => m_call (hs _ _) w'.hF rfl (va_cons (hi _) va_nil) ⟨reb e g Hb, g', _, i, rfl, w', _, rfl, q⟩) _ ?_
      refine ite2 (fun hb => ?_) (fun hb => ?_)
      · refine x_drop (m_call (hs _ _) w'.hF rfl (va_cons (hi _) (va_cons v_c va_nil)) ⟨reb e g Hb, g', _, i, _, TT, rfl, w', ft', hkn, fun H2 w2 => fin _ _ w2 ?_⟩)
        unfold leave1
        rw [if_pos hb]
        rfl
      · refine fin _ _ w' ?_
        unfold leave1
        rw [if_neg hb]
    · rintro σ' H' g' r' ⟨x, rfl, _, _, h2, _⟩ w'
      have w2 := w'.is (h2 rfl)
      exact k _ _ w2
abbrev N_Flow_begin : List Str := ["self", "tick", "landing", "there", "sender", "amount", "answered", "side", "piece"]
theorem sc_Flow_begin : FnScope N_Flow_begin ["self", "tick"] (defScope s_Flow_begin) := C8.fnScope_by (by decide +kernel)
theorem ok_Flow_begin (T : Txt G mg) {f : Addr} {fd : FuncData} (F : FnP G.K "begin" "Flow.begin" s_Flow_begin f fd) (me : Meth G.K G.F "begin" f) (m_Flow_land : C8.Met P w G.K mg base 1 G.F "land" (sp_land G) []) (m_Flow_let_go : C8.Met P w G.K mg base 3 G.F "let_go" (sp_let_go G) []) : C8.Met P w G.K mg base 4 G.F "begin" (sp_begin G) [] := by
  refine met_mk T.cF me F (F.bindsN fun _ _ _ _ _ _ us hl => match us, hl with | [_, _], _ => rfl) sc_Flow_begin (fun vs H Q E h => ?_) (fun cdv A outer s H vs Q E hr h => ?_)
  · obtain ⟨e, g, r, t, TT, rfl, hw, ft, ht, k⟩ := h
    rfl
  · obtain ⟨e, g, r, t, TT, rfl, hw, ft, ht, k⟩ := h
    refine ⟨_, (pss_cons (ps_fld (pv 0) (pv 1) rfl)
    (pss_cons (ps_setLc (i := 2) (own := [("piece", 8)]) (g := gName 8) rfl sc_Flow_begin.nd rfl rfl (sw_true rfl rfl rfl (by decide +kernel)) (pi_list (pe_fld (pv 0) rfl)) (blkOk_by (own := [("piece", 8)]) (N := N_Flow_begin) (sc := defScope s_Flow_begin) (by decide +kernel)) (fun _ _ _ _ _ => (pg_name (i := 8) sc_Flow_begin.nd rfl (Or.inl rfl))) (fun _ _ _ _ _ => (pts_one (pt_cmpR op_le (pe_ix (r := rIxT G.K) ix_tup (pv 8) pe_int (fun _ _ => rfl)) (pv 1) (nomark _)))) (fun _ _ _ _ _ => (pv 8)))
    (pss_cons (ps_fld (pv 0) (pe_lc (own := [("piece", 8)]) (g := gName 8) rfl sc_Flow_begin.nd (pi_list (pe_fld (pv 0) rfl)) (blkOk_by (own := [("piece", 8)]) (N := N_Flow_begin) (sc := defScope s_Flow_begin) (by decide +kernel)) (fun _ _ _ _ _ => (pg_name (i := 8) sc_Flow_begin.nd rfl (Or.inl rfl))) (fun _ _ _ _ _ => (pts_one (pt_cmpR op_gt (pe_ix (r := rIxT G.K) ix_tup (pv 8) pe_int (fun _ _ => rfl)) (pv 1) (nomark _)))) (fun _ _ _ _ _ => (pv 8))) rfl)
    (pss_cons (ps_for PassesOwn.never rfl (pi_list (pv 2)) (pg_tup rfl (pgs_cons (pg_name (i := 3) sc_Flow_begin.nd rfl (Or.inl rfl)) (pgs_cons (pg_name (i := 4) sc_Flow_begin.nd rfl (Or.inl rfl)) (pgs_cons (pg_name (i := 5) sc_Flow_begin.nd rfl (Or.inl rfl)) (pgs_cons (pg_name (i := 6) sc_Flow_begin.nd rfl (Or.inl rfl)) pgs_nil))))) (pss_one (ps_expr (C8.pe_mt m_Flow_land hr (by decide) (pv 0) (pa_cons (pv 4) (pa_cons (pv 5) (pa_cons (pv 6) pa_nil)))))))
    (pss_one (ps_for PassesOwn.never rfl (pi_tup (pe_tup (pa_cons pe_int (pa_cons pe_int pa_nil)))) (pg_name (i := 7) sc_Flow_begin.nd rfl (Or.inl rfl)) (pss_one (ps_expr (C8.pe_mt m_Flow_let_go hr (by decide) (pv 0) (pa_cons (pv 7) pa_nil)))))))))), ?_⟩
    have hs : ∀ v2 v3 v4 v5 v6 v7 v8 H, Val (tVar 0) [some (V.ref (e.a 0)), some (V.int t), v2, v3, v4, v5, v6, v7, v8] H (.ref (e.a 0)) := fun _ _ _ _ _ _ _ _ => val_var rfl
    refine y_fld (v_var rfl) (hs _ _ _ _ _ _ _ _) hw.hF T.cF T.F_tick (by show 14 < 1000; decide) ?_
    rw [tick_put]
    have w1 := hw.tick t
    generalize upd H (e.a 0) (.ins G.F e.fdx (flowF e g t)) = H1 at w1 ⊢
    have gf1 : GF TT (beginT t r.s) := ⟨ft.good.pos, ft.good.fl, ht, fun p hp => ft.good.ft p (List.mem_filter.mp hp).1, ft.good.fi⟩
    have hfl := ft.flight
    -- landing
    show tSeq _ _ _ [some (V.ref (e.a 0)), some (V.int t), none, none, none, none, none, none, none] H1
    obtain ⟨rs, h1, h2⟩ : ∃ rs : List Addr, H1 g = some (.lst (rs.map V.ref)) ∧ TP H1 rs (r.s.flight.map pcV) := w1.cell 14
    have hlen : (r.s.flight.map pcV).length < sizeLine := by rw [List.length_map]; exact sz5 hfl
    refine y_asgE (x_lcL (K := G.K) (f_flight T w1 (hs none none none none none none none H1)) (SqL.of h1) fun D1 hD1 => ?_)
    refine lc_tups (G := G) (rs := rs) (xs := r.s.flight.map pcV) (fun x => match x with | .int z :: _ => decide (z ≤ t) | _ => false) (fun b _ => .ref b) w1 hD1 h1 h2 hlen (fun b x H' hb hx w' Y N hY hN => ?_) (fun H2 lw sm => ?_)
    · obtain ⟨p, hp, rfl⟩ := List.mem_map.mp hx
      refine ⟨rfl, ?_⟩
      refine a_T (b := decide (p.tick ≤ t)) (v_le (v_sqT (v_var rfl) v_c (SqT.of hb) (atI_nat (j := 0) rfl)) (v_var rfl)) _ ?_
      refine ite2 (fun hb' => ?_) (fun hb' => ?_)
      · exact ⟨_, rfl, hY hb'⟩
      · refine hN ?_
        cases q : decide (p.tick ≤ t) with
        | true => exact absurd q hb'
        | false => exact q
    obtain ⟨rl, e1, e2⟩ := fm_ref (p := fun x => match x with | .int z :: _ => decide (z ≤ t) | _ => false) (h2.mono fun a x q => sm _ _ q)
    have d1 := lw.d
    rw [e1] at d1
    have el : (r.s.flight.map pcV).filter (fun x => match x with | .int z :: _ => decide (z ≤ t) | _ => false) = (r.s.flight.filter fun p => decide (p.tick ≤ t)).map pcV := by
      rw [List.filter_map]
      rfl
    rw [el] at e2
    have w2 := lw.w
    have h1' := sm _ _ h1
    have h2' : TP H2 rs (r.s.flight.map pcV) := h2.mono fun a x q => sm _ _ q
    -- self.flight
    show tSeq (sFld _ _ _ _) _ _ [some (V.ref (e.a 0)), some (V.int t), some (V.ref D1), none, none, none, none, none, none] H2
    refine (show ∀ {te : TE} {t2 : TS} {D : Ends} {σ : L2.St} {H : Hp}, (te σ H fun y H1 => (tVar 0) σ H1 fun x H2 => ∃ a C dx fs, x = .ref a ∧ H2 a = some (.ins C dx fs) ∧ Cls G.K C ∧ NoAttr G.K C "flight" ∧ fs.length < 1000 ∧ t2 D σ (upd H2 a (.ins C dx (putF "flight" y fs)))) → tSeq (sFld G.K (tVar 0) te "flight") t2 D σ H from fun h => h) ?_
    refine x_lcL (K := G.K) (f_flight T w2 (hs (some (V.ref D1)) none none none none none none H2)) (SqL.of h1') fun D2 hD2 => ?_
    refine lc_tups (G := G) (rs := rs) (xs := r.s.flight.map pcV) (fun x => match x with | .int z :: _ => decide (t < z) | _ => false) (fun b _ => .ref b) w2 hD2 h1' h2' hlen (fun b x H' hb hx w' Y N hY hN => ?_) (fun H3 lw3 sm3 => ?_)
    · obtain ⟨p, hp, rfl⟩ := List.mem_map.mp hx
      refine ⟨rfl, ?_⟩
      refine a_T (b := decide (t < p.tick)) (v_gt (v_sqT (v_var rfl) v_c (SqT.of hb) (atI_nat (j := 0) rfl)) (v_var rfl)) _ ?_
      refine ite2 (fun hb' => ?_) (fun hb' => ?_)
      · exact ⟨_, rfl, hY hb'⟩
      · refine hN ?_
        cases q : decide (t < p.tick) with
        | true => exact absurd q hb'
        | false => exact q
    obtain ⟨rl3, e13, e23⟩ := fm_ref (p := fun x => match x with | .int z :: _ => decide (t < z) | _ => false) (h2'.mono fun a x q => sm3 _ _ q)
    have d3 := lw3.d
    rw [e13] at d3
    have el3 : (r.s.flight.map pcV).filter (fun x => match x with | .int z :: _ => decide (t < z) | _ => false) = (r.s.flight.filter fun p => decide (t < p.tick)).map pcV := by
      rw [List.filter_map]
      rfl
    rw [el3] at e23
    have w3 := lw3.w
    refine v_var rfl _ ⟨_, _, _, _, rfl, w3.hF, T.cF, T.F_flight, (by show 14 < 1000; decide), ?_⟩
    rw [flight_put]
    have w4 := w3.newG lw3.jk (l := r.s.flight.filter fun p => decide (t < p.tick)) ⟨rl3, d3, e23⟩
    have d1' : upd H3 (e.a 0) (.ins G.F e.fdx (flowF e D2 t)) D1 = some (.lst (rl.map V.ref)) := by
      rw [upd_ne ((lw.jk.ne 0 (by decide)).symm)]
      exact sm3 _ _ d1
    have e2' : TP (upd H3 (e.a 0) (.ins G.F e.fdx (flowF e D2 t))) rl ((r.s.flight.filter fun p => decide (p.tick ≤ t)).map pcV) := (e2.mono fun a x q => sm3 _ _ q).mono (But.upd.tup (cell_noTup w3.cell (i := 0) (by decide)))
    have j1 : Jk e D2 D1 := ⟨lw.jk.h0, lw.jk.ne, fun q => by rw [← q, hD2] at d1; cases d1⟩
    have w5 : W G e D2 (upd H3 (e.a 0) (.ins G.F e.fdx (flowF e D2 t))) { r with s := beginT t r.s } := w4
    show tSeq _ _ _ [some (V.ref (e.a 0)), some (V.int t), some (V.ref D1), none, none, none, none, none, none] (upd H3 (e.a 0) (.ins G.F e.fdx (flowF e D2 t)))
    generalize upd H3 (e.a 0) (.ins G.F e.fdx (flowF e D2 t)) = H4 at w5 d1' e2' ⊢
    generalize hLd : (r.s.flight.filter fun p => decide (p.tick ≤ t)) = Ld at e2'
    have r1 : ∀ b o, H4 b = some o → (∀ i, i < 14 → e.a i ≠ b) → b ≠ D2 → (reb e D2 H4).H0 b = some o := fun b o q n1 n2 => (rest_at n1 n2).trans q
    have rD1 : (reb e D2 H4).H0 D1 = some (.lst (rl.map V.ref)) := r1 _ _ d1' j1.ne j1.ng.symm
    have rT : ∀ a x, H4 a = some (.tup x) → (reb e D2 H4).H0 a = some (.tup x) := fun a x q => r1 _ _ q (fun i hi z => cell_noTup w5.cell hi x (by rw [z]; exact q)) (fun z => cell_noTup14 w5.cell x (by rw [← z]; exact q))
    have rTP : TP (reb e D2 H4).H0 rl (Ld.map pcV) := e2'.mono rT
    refine y_forL (K := G.K) (v_var rfl) (SqL.of d1') (fun n σ' H' => ∃ v3 v4 v5 v6 g', σ' = [some (V.ref (e.a 0)), some (V.int t), some (V.ref D1), v3, v4, v5, v6, none, none] ∧ W G (reb e D2 H4) g' H' { r with s := landAll e.L (Ld.take n) (beginT t r.s) }) ⟨none, none, none, none, D2, rfl, w5.reb⟩ ?_ ?_ ?_
    · rintro n σ' H' _ ⟨_, _, _, _, g', rfl, w'⟩
      exact SqL.of (w'.same _ _ rD1)
    · rintro n x σ' H' hx ⟨v3, v4, v5, v6, g', rfl, w'⟩
      rw [List.getElem?_map] at hx
      obtain ⟨b, hb, rfl⟩ : ∃ b, rl[n]? = some b ∧ x = .ref b := by
        cases q : rl[n]? with
        | none => rw [q] at hx; cases hx
        | some b => rw [q] at hx; exact ⟨b, rfl, (Option.some.inj hx).symm⟩
      obtain ⟨y, hy, hby⟩ := rTP.at2 hb
      rw [List.getElem?_map] at hy
      obtain ⟨p, hp, rfl⟩ : ∃ p, Ld[n]? = some p ∧ y = pcV p := by
        cases q : Ld[n]? with
        | none => rw [q] at hy; cases hy
        | some p => rw [q] at hy; exact ⟨p, rfl, (Option.some.inj hy).symm⟩
      refine ⟨_, _, rfl, SqT.of (w'.same _ _ hby), rfl, _, _, rfl, _, _, rfl, _, _, rfl, _, _, rfl, rfl, ?_⟩
      refine x_drop (m_call (a := e.a 0) (v_var rfl) w'.hF rfl (va_cons (v_var rfl) (va_cons (v_var rfl) (va_cons (v_var rfl) va_nil))) ⟨reb e D2 H4, g', _, p, rfl, w', fun H5 w6 => ?_⟩)
      refine ⟨_, _, _, _, g', rfl, w6.is ?_⟩
      rw [List.take_add_one, hp, landAll_app]
      rfl
    · rintro σ' H' ⟨v3, v4, v5, v6, g', rfl, w'⟩
      have w6 := w5.unreb w'
      have hll : (rl.map V.ref).length = Ld.length := by rw [List.length_map, rTP.len, List.length_map]
      rw [hll, List.take_length] at w6
      obtain ⟨la1, la2, la3, la4⟩ := landAll_good (L := e.L) (l := Ld) gf1
      have kl := hw.im.lok
      have ft2 : Fit TT { r with s := landAll e.L Ld (beginT t r.s) } := by
        refine ⟨la1, ?_⟩
        show SH.m (landAll e.L Ld (beginT t r.s)) + ((landAll e.L Ld (beginT t r.s)).log.length : Int) ≤ _
        rw [la4]
        have h5 := ft.lg
        have h6 := fw_split t r.s.flight
        rw [hLd] at h6
        have h7 : SH.m (beginT t r.s) + fw Ld = SH.m r.s := by
          show fw (r.s.flight.filter fun p => decide (t < p.tick)) + mi r.s false + mi r.s true + _ = fw r.s.flight + mi r.s false + mi r.s true
          omega
        have h8 : (beginT t r.s).log = r.s.log := rfl
        rw [h8]
        omega
      refine for_sides w6 (fun n σ' r' => ∃ x, σ' = [some (V.ref (e.a 0)), some (V.int t), some (V.ref D1), v3, v4, v5, v6, x, none] ∧ (n = 0 → r' = { r with s := landAll e.L Ld (beginT t r.s) }) ∧ (n = 1 → r' = { r with s := letGo e.L false (landAll e.L Ld (beginT t r.s)) }) ∧
        (n = 2 → r' = { r with s := letGo e.L true (letGo e.L false (landAll e.L Ld (beginT t r.s))) }) ∧ Fit TT r') ⟨none, rfl, fun _ => rfl, (fun h => by cases h), (fun h => by cases h), ft2⟩ ?_ ?_
      · rintro Hb sH i g' σ' H' r' ⟨x, rfl, h0, h1, h2, ft'⟩ w' Nx hN
        refine x_drop (m_call (a := e.a 0) (v_var rfl) w'.hF rfl (va_cons (v_var rfl) va_nil) ⟨reb e _ Hb, g', _, i, TT, rfl, w', ft', fun H2 w2 => ?_⟩)
        refine hN _ _ g' _ ⟨_, rfl, ?_, ?_, ?_, ft'.of (letGo_good (i := i) kl ft'.good)⟩ w2
        · intro z; cases z
        · intro z
          cases i with
          | false => rw [h0 rfl]; rfl
          | true => cases z
        · intro z
          cases i with
          | false => cases z
          | true => rw [h1 rfl]; rfl
      · rintro σ' H' g' r' ⟨x, rfl, _, _, h2, _⟩ w'
        refine k _ _ (w'.is ((h2 rfl).trans ?_))
        rw [← hLd]
        rfl
abbrev N_Flow_next_tick : List Str := ["self", "ticks", "side", "piece"]
theorem sc_Flow_next_tick : FnScope N_Flow_next_tick ["self"] (defScope s_Flow_next_tick) := C8.fnScope_by (by decide +kernel)
theorem ok_Flow_next_tick (T : Txt G mg) {f : Addr} {fd : FuncData} (F : FnP G.K "next_tick" "Flow.next_tick" s_Flow_next_tick f fd) (me : Meth G.K G.F "next_tick" f) : C8.Met P w G.K mg base 1 G.F "next_tick" (sp_next_tick G) [] := by
  refine met_mk T.cF me F (F.bindsN fun _ _ _ _ _ _ us hl => match us, hl with | [_], _ => rfl) sc_Flow_next_tick (fun vs H Q E h => ?_) (fun cdv A outer s H vs Q E hr h => ?_)
  · obtain ⟨e, g, r, rfl, hw, hfl, k⟩ := h
    rfl
  · obtain ⟨e, g, r, rfl, hw, hfl, k⟩ := h
    refine ⟨_, (pss_cons (ps_setLc (i := 1) (own := [("piece", 3)]) (g := gName 3) (tt := tYes) rfl sc_Flow_next_tick.nd rfl rfl (sw_true rfl rfl rfl (by decide +kernel)) (pi_list (pe_fld (pv 0) rfl)) (blkOk_by (own := [("piece", 3)]) (N := N_Flow_next_tick) (sc := defScope s_Flow_next_tick) (by decide +kernel)) (fun _ _ _ _ _ => (pg_name (i := 3) sc_Flow_next_tick.nd rfl (Or.inl rfl))) (fun _ _ _ _ _ => pts_nil) (fun _ _ _ _ _ => (pe_ix (r := rIxT G.K) ix_tup (pv 3) pe_int (fun _ _ => rfl))))
    (pss_cons (ps_for PassesOwn.never rfl (pi_tup (pe_tup (pa_cons pe_int (pa_cons pe_int pa_nil)))) (pg_name (i := 2) sc_Flow_next_tick.nd rfl (Or.inl rfl)) (pss_one (ps_if (pt_cmpR op_notN (pe_ix ix_list (pe_fld (pv 0) rfl) (pv 2) (fun _ _ => rfl)) pe_non (nomark _)) (pss_one (ps_expr (pe_bm PySem.F.plainAttrs_list PySem.F.slot_list_append PySem.F.type_list_append mt_append (pv 1) (pa_cons (pe_op op_add (pe_ix ix_list (pe_fld (pv 0) rfl) (pv 2) (fun _ _ => rfl)) (pe_fld (pe_ix ix_tup (pe_fld (pv 0) rfl) (pv 2) (fun _ _ => rfl)) rfl)) pa_nil)))) pss_nil)))
    (pss_one (ps_ret (pe_ifExp (pt_cmpR op_gt (pe_callB (r := rLenK G.K) call_lenK (by rfl) T.z_len (by decide +kernel) (pa_cons (pv 1) pa_nil)) pe_int (nomark _)) (pe_callB (r := rMin G.K) (cr_min rfl) (by rfl) T.z_min (by decide +kernel) (pa_cons (pv 1) pa_nil)) pe_non))))), ?_⟩
    have hs : ∀ v1 v2 v3 H, Val (tVar 0) [some (V.ref (e.a 0)), v1, v2, v3] H (.ref (e.a 0)) := fun _ _ _ _ => val_var rfl
    obtain ⟨rs, h1, h2⟩ : ∃ rs : List Addr, H g = some (.lst (rs.map V.ref)) ∧ TP H rs (r.s.flight.map pcV) := hw.cell 14
    have hlen : (r.s.flight.map pcV).length < sizeLine := by rw [List.length_map]; exact sz5 hfl
    refine y_asgE (x_lcL (K := G.K) (f_flight T hw (hs none none none H)) (SqL.of h1) fun D hD => ?_)
    refine lc_tups (G := G) (rs := rs) (xs := r.s.flight.map pcV) (fun _ => true) (fun _ x => x.headD .non) hw hD h1 h2 hlen (fun b x H' hb hx w' Y N hY hN => ?_) (fun H2 lw sm => ?_)
    · obtain ⟨p, hp, rfl⟩ := List.mem_map.mp hx
      exact ⟨rfl, v_sqT (v_var rfl) v_c (SqT.of hb) (atI_nat (j := 0) rfl) _ (hY rfl)⟩
    have e1 : fm (fun _ => true) (fun _ x => x.headD .non) rs (r.s.flight.map pcV) = (r.s.flight.map (·.tick)).map V.int := by
      rw [fm_val h2.len, List.filter_eq_self.mpr (fun _ _ => rfl), List.map_map, List.map_map]
      rfl
    have d1 := lw.d
    rw [e1] at d1
    have w2 := lw.w
    have j1 := lw.jk
    show tSeq _ _ _ [some (V.ref (e.a 0)), some (V.ref D), none, none] H2
    have hl1 : (r.s.flight.map (·.tick)).length ≤ 100000 := by rw [List.length_map]; exact hfl
    generalize hfk : r.s.flight.map (·.tick) = fk at d1 hl1
    -- the loop
    refine y_forN (K := G.K) (xs := [V.int 0, V.int 1]) (va_cons v_c (va_cons v_c va_nil)) (by show 2 ≤ sizeLine; decide) (fun p n σ' H' => ∃ x l, σ' = [some (V.ref (e.a 0)), some (V.ref D), x, none] ∧ W G e g H' r ∧ H' p = some (.tup [V.int 0, V.int 1]) ∧ H' D = some (.lst (l.map V.int)) ∧ (n = 0 → l = fk) ∧ (n = 1 → l = fk ++ firstT e.L r.s false) ∧ (n = 2 → l = fk ++ firstT e.L r.s false ++ firstT e.L r.s true) ∧ l.length ≤ 100000 + n)
      (fun p hp => ?_) ?_ ?_ ?_
    · exact ⟨none, fk, rfl, w2.new hp, upd_same, by rw [upd_ne (ne_of_none d1 hp)]; exact d1, fun _ => rfl, (fun h => by cases h), (fun h => by cases h), hl1⟩
    · rintro p n σ' H' ⟨x, l, rfl, w', hp', _⟩
      exact SqT.of hp'
    · rintro p n x σ' H' hx ⟨y, l, rfl, w', hp', hD', h0, h1, h2, hl⟩
      obtain ⟨i, q1, q2⟩ := two_at hx
      · subst q2
        show tIfS _ _ _ _ [some (V.ref (e.a 0)), some (V.ref D), some (V.int (bi i)), none] H'
        have hi : ∀ H, Val (tVar 2) [some (V.ref (e.a 0)), some (V.ref D), some (V.int (bi i)), none] H (.int (bi i)) := fun _ => val_var rfl
        have step : ∀ l', l' = l ++ firstT e.L r.s i → (n + 1 = 0 → l' = fk) ∧ (n + 1 = 1 → l' = fk ++ firstT e.L r.s false) ∧ (n + 1 = 2 → l' = fk ++ firstT e.L r.s false ++ firstT e.L r.s true) := fun l' q => by
          subst q1
          refine ⟨fun z => absurd z (Nat.succ_ne_zero _), fun z => ?_, fun z => ?_⟩
          · cases i with
            | false => rw [q, h0 rfl]
            | true => cases z
          · cases i with
            | false => cases z
            | true => rw [q, h1 rfl]
        have hlast : Val (tOp (rIxL G.K) (tFld G.K (tVar 0) "first") (tVar 2)) [some (V.ref (e.a 0)), some (V.ref D), some (V.int (bi i)), none] H' (ov (r.s.sd i).first) := f_firstI T w' (hs _ _ _ _) (hi _)
        refine x_if (a_T (v_notN hlast)) (fun hb => ?_) (fun hb => ?_)
        · cases hf : (r.s.sd i).first with
          | none =>
            rw [hf] at hb
            cases hb
          | some f =>
            rw [hf] at hlast
            obtain ⟨dx, fs, z, k1, k2, k3, k4, k5, k6⟩ := w'.line.se i
            refine x_appV (v_var rfl) hD' ?_ (v_add hlast (v_fl (f_set T w' (hs _ _ _ _) (hi _)) k1 T.cS T.S_delay k6)) ?_
            · rw [List.length_map]
              have : n < 2 := by cases i <;> subst q1 <;> decide
              exact Nat.lt_of_le_of_lt (Nat.le_trans hl (by omega : 100000 + n ≤ 100002)) (by decide)
            have nDp : D ≠ p := ne_of hD' hp' (by intro z; cases z)
            have ee : firstT e.L r.s i = [f + (e.L.se i).delay] := by unfold firstT; rw [hf]
            obtain ⟨s0, s1, s2⟩ := step (l ++ [f + (e.L.se i).delay]) (by rw [ee])
            refine ⟨_, l ++ [f + (e.L.se i).delay], rfl, w'.junk j1 (noTup_lst hD'), by rw [upd_ne nDp.symm]; exact hp', by rw [upd_same, List.map_append]; rfl, s0, s1, s2, ?_⟩
            rw [List.length_append, List.length_singleton]
            omega
        · cases hf : (r.s.sd i).first with
          | some f =>
            rw [hf] at hb
            cases hb
          | none =>
            have ee : firstT e.L r.s i = [] := by unfold firstT; rw [hf]
            obtain ⟨s0, s1, s2⟩ := step l (by rw [ee, List.append_nil])
            exact ⟨_, l, rfl, w', hp', hD', s0, s1, s2, by omega⟩
    · rintro p σ' H' ⟨x, l, rfl, w', hp', hD', h0, h1, h2, hl⟩
      have el : l = nextTicks e.L r.s := by
        rw [h2 rfl, ← hfk]
        rfl
      refine (show ∀ {te : TE} {D : Ends} {σ : L2.St} {H : Hp}, te σ H D.rt → tRet te D σ H from fun h => h) ?_
      refine a_T (v_gt (v_lenL (v_var rfl) (SqL.of hD')) v_c) _ ?_
      rw [List.length_map]
      refine ite2 (fun hb => ?_) (fun hb => ?_)
      · have hb' : 0 < l.length := by
          have := of_decide_eq_true hb
          omega
        refine ⟨_, rfl, D, l, rfl, SqL.of hD', hb', fun m hm hle => ?_⟩
        have hmin : nextTick e.L r.s = some m := by
          unfold nextTick
          rw [← el]
          exact List.min?_eq_some_iff.mpr ⟨hm, hle⟩
        have kk := k H' w'
        rw [hmin] at kk
        exact kk
      · have hb' : l = [] := by
          have := fun q => hb (decide_eq_true q)
          cases l with
          | nil => rfl
          | cons x y => exact absurd (by rw [List.length_cons]; omega) this
        have kk := k H' w'
        have hmin : nextTick e.L r.s = none := by
          unfold nextTick
          rw [← el, hb']
          rfl
        rw [hmin] at kk
        exact kk

end
end SH
end
section
namespace SH
open PySem PySem.Spec PyProof.Rows L2
section
variable {P : Program} {w : World} {G : Gl5} {mg : Str → Option Value} {base : Heap}

theorem place_put (e : En) (i : Bool) (c : Co) (n : Nat) : putF "place" (.int (n : Int)) (courseF e i c) = courseF e i { c with place := n } := by rfl
theorem until_put (e : En) (i : Bool) (c : Co) (o : Option Int) : putF "until" (ov o) (courseF e i c) = courseF e i { c with til := o } := by rfl
theorem ended_put (e : En) (i : Bool) (c : Co) (o : Option Int) : putF "ended" (ov o) (courseF e i c) = courseF e i { c with ended := o } := by rfl
section
variable {e : En} {g : Addr} {H : Hp} {r : RS} {σ : L2.St} {tc : TE} {i : Bool}
variable (T : Txt G mg) (hw : W G e g H r) (hc : Val tc σ H (.ref (e.a (12 + bn i))))
include T hw hc
theorem c_steps : Val (tFld G.K tc "steps") σ H (.ref (e.sp i)) := v_fl hc (hw.hC i) T.cC T.C_steps rfl
theorem c_again : Val (tFld G.K tc "again") σ H (.bl false) := v_fl hc (hw.hC i) T.cC T.C_again rfl
theorem c_place : Val (tFld G.K tc "place") σ H (.int ((r.c i).place : Int)) := v_fl hc (hw.hC i) T.cC T.C_place rfl
theorem c_until : Val (tFld G.K tc "until") σ H (ov (r.c i).til) := v_fl hc (hw.hC i) T.cC T.C_until rfl
theorem c_ended : Val (tFld G.K tc "ended") σ H (ov (r.c i).ended) := v_fl hc (hw.hC i) T.cC T.C_ended rfl
variable {D : Ends} {t2 : TS} {te : TE}
theorem x_setUntil {o : Option Int} (h : Val te σ H (ov o)) (q : ∀ H', W G e g H' { r with c := upS r.c i { r.c i with til := o } } → D.nx σ H') : sFld G.K tc te "until" D σ H :=
  x_fld h hc (hw.hC i) T.cC T.C_until (by show 6 < 1000; decide) (q _ (by rw [until_put]; exact hw.setC i _))
theorem y_setUntil {o : Option Int} (h : Val te σ H (ov o)) (q : ∀ H', W G e g H' { r with c := upS r.c i { r.c i with til := o } } → t2 D σ H') : tSeq (sFld G.K tc te "until") t2 D σ H :=
  x_setUntil (D := { D with nx := t2 D }) T hw hc h q
theorem x_setEnded {o : Option Int} (h : Val te σ H (ov o)) (q : ∀ H', W G e g H' { r with c := upS r.c i { r.c i with ended := o } } → D.nx σ H') : sFld G.K tc te "ended" D σ H :=
  x_fld h hc (hw.hC i) T.cC T.C_ended (by show 6 < 1000; decide) (q _ (by rw [ended_put]; exact hw.setC i _))
theorem y_incPlace (q : ∀ H', W G e g H' { r with c := upS r.c i { r.c i with place := (r.c i).place + 1 } } → t2 D σ H') : tSeq (sFldAug G.K tc (tC (.int 1)) rAdd "place") t2 D σ H :=
  hc _ ⟨_, _, _, _, _, rfl, hw.hC i, T.cC, T.C_place, rfl, _, _, rfl, rfl, _, _, hw.hC i, by show 6 < 1000; decide, by
    refine q _ ?_
    have e1 : V.int (((r.c i).place : Int) + 1) = V.int (((r.c i).place + 1 : Nat) : Int) := rfl
    rw [e1, place_put]
    exact hw.setC i _⟩
end
theorem W.steps {e : En} {g : Addr} {H : Hp} {r : RS} (hw : W G e g H r) (i : Bool) : ∃ rs : List Addr, H (e.sp i) = some (.lst (rs.map V.ref)) ∧ TP H rs ((e.P i).map stepV) := by
  obtain ⟨rs, h1, h2⟩ := hw.im.sp i
  exact ⟨rs, hw.same _ _ h1, h2.mono fun a x q => hw.same _ _ q⟩
def sp_pass_step (G : Gl5) : Sp := fun vs H Q _ => ∃ (e : En) (g : Addr) (r : RS) (i : Bool), vs = [.ref (e.a (12 + bn i)), .ref (e.a 0)] ∧ W G e g H r ∧
  ∀ H', W G e g H' { r with c := upS r.c i (passStep (e.P i).length r.s.tick (r.c i)) } → Q .non H'
def sp_rests (G : Gl5) : Sp := fun vs H Q _ => ∃ (e : En) (g : Addr) (r : RS) (i : Bool) (n : Int), vs = [.ref (e.a (12 + bn i)), .ref (e.a 0), .int n] ∧ W G e g H r ∧
  ∀ H', W G e g H' { r with c := upS r.c i { r.c i with til := if r.s.tick < untilOf r.s.tick n (r.c i) then some (untilOf r.s.tick n (r.c i)) else none } } → Q (.bl (decide (r.s.tick < untilOf r.s.tick n (r.c i)))) H'
/-- a world that may go on: side i -/
structure FitC (T : Int) (e : En) (i : Bool) (r : RS) : Prop where
  good : GF T r.s
  gc : GC (e.P i) T (r.c i)
  lg : SH.m r.s + cw (e.P i) (r.c i) + (r.s.log.length : Int) ≤ 100000
def sp_do_step (G : Gl5) : Sp := fun vs H Q _ => ∃ (e : En) (g : Addr) (r : RS) (i : Bool) (T : Int), vs = [.ref (e.a (12 + bn i)), .ref (e.a 0), .int (bi i)] ∧ W G e g H r ∧ FitC T e i r ∧ (r.c i).place < (e.P i).length ∧
  ∀ H', W G e g H' { s := (doStep e.L i (e.P i) r.s (r.c i)).2.1, c := upS r.c i (doStep e.L i (e.P i) r.s (r.c i)).2.2 } → Q (.bl (doStep e.L i (e.P i) r.s (r.c i)).1) H'
def sp_go_on (G : Gl5) : Sp := fun vs H Q _ => ∃ (e : En) (g : Addr) (r : RS) (i : Bool) (T : Int), vs = [.ref (e.a (12 + bn i)), .ref (e.a 0), .int (bi i)] ∧ W G e g H r ∧ FitC T e i r ∧
  ∀ H', W G e g H' (goSide e.L e.P i r) → Q .non H'
def sp_do_tick (G : Gl5) : Sp := fun vs H Q _ => ∃ (e : En) (g : Addr) (r : RS) (cs : Addr) (t T : Int), vs = [.ref (e.a 0), .ref cs, .int t] ∧ W G e g H r ∧ e.H0 cs = some (.tup [.ref (e.a 12), .ref (e.a 13)]) ∧ GR e.P T r ∧ t ≤ T ∧ RM e.P r + (r.s.log.length : Int) ≤ 100000 ∧
  ∀ H' g', W G e g' H' (doTick e.L e.P t r) → Q .non H'
def sp_events (G : Gl5) : Sp := fun vs H Q _ => ∃ (e : En) (g : Addr) (r : RS) (cs : Addr), vs = [.ref (e.a 0), .ref cs] ∧ W G e g H r ∧ e.H0 cs = some (.tup [.ref (e.a 12), .ref (e.a 13)]) ∧ r.s.flight.length ≤ 100000 ∧
  ∀ H', W G e g H' r → Q (ov (events e.L r)) H'
theorem upC_same (r : RS) (i : Bool) (c d : Co) : ({ s := r.s, c := upS (upS r.c i c) i d } : RS) = { s := r.s, c := upS r.c i d } := by rw [upS_upS]
abbrev N_Course_pass_step : List Str := ["self", "flow"]
theorem sc_Course_pass_step : FnScope N_Course_pass_step ["self", "flow"] (defScope s_Course_pass_step) := C8.fnScope_by (by decide +kernel)
theorem ok_Course_pass_step (T : Txt G mg) {f : Addr} {fd : FuncData} (F : FnP G.K "pass_step" "Course.pass_step" s_Course_pass_step f fd) (me : Meth G.K G.C "pass_step" f) : C8.Met P w G.K mg base 1 G.C "pass_step" (sp_pass_step G) [] := by
  refine met_mk T.cC me F (F.bindsN fun _ _ _ _ _ _ us hl => match us, hl with | [_, _], _ => rfl) sc_Course_pass_step (fun vs H Q E h => ?_) (fun cdv A outer s H vs Q E hr h => ?_)
  · obtain ⟨e, g, r, i, rfl, hw, k⟩ := h
    rfl
  · obtain ⟨e, g, r, i, rfl, hw, k⟩ := h
    refine ⟨_, (pss_cons (ps_fldaug (pv 0) pe_int in_add)
    (pss_one (ps_if (pt_cmpR op_eq (pe_fld (pv 0) rfl) (pe_callB (r := rLenK G.K) call_lenK (by rfl) T.z_len (by decide +kernel) (pa_cons (pe_fld (pv 0) rfl) pa_nil)) (nomark _)) (pss_one (ps_if (pt_val (pe_fld (pv 0) rfl)) (pss_cons (ps_fld (pv 0) pe_int rfl)
    (pss_one (ps_expr (pe_bm PySem.F.plainAttrs_list PySem.F.slot_list_append PySem.F.type_list_append mt_append (pe_fld (pv 0) rfl) (pa_cons (pe_fld (pv 1) rfl) pa_nil))))) (pss_one (ps_fld (pv 0) (pe_fld (pv 1) rfl) rfl)))) pss_nil))), ?_⟩
    have hc : ∀ H, Val (tVar 0) (start N_Course_pass_step [V.ref (e.a (12 + bn i)), V.ref (e.a 0)]) H (.ref (e.a (12 + bn i))) := fun _ => val_var rfl
    have hf : ∀ H, Val (tVar 1) (start N_Course_pass_step [V.ref (e.a (12 + bn i)), V.ref (e.a 0)]) H (.ref (e.a 0)) := fun _ => val_var rfl
    refine y_incPlace T hw (hc _) fun H1 w1 => ?_
    obtain ⟨rs, h1, h2⟩ := w1.steps i
    have el : (rs.map V.ref).length = (e.P i).length := by rw [List.length_map, h2.len, List.length_map]
    have hp : Val (tFld G.K (tVar 0) "place") (start N_Course_pass_step [V.ref (e.a (12 + bn i)), V.ref (e.a 0)]) H1 (.int (((r.c i).place + 1 : Nat) : Int)) := v_is (c_place T w1 (hc _)) (by show V.int (((upS r.c i _) i).place : Int) = _; rw [upS_same])
    refine x_if (a_T (v_eq hp (v_lenL (c_steps T w1 (hc _)) (SqL.of h1)) rfl)) (fun hb => ?_) (fun hb => ?_)
    · have hb' : (r.c i).place + 1 = (e.P i).length := by
        have q := V.int.inj (of_decide_eq_true hb)
        rw [el] at q
        exact Int.ofNat.inj q
      refine x_if (a_B (c_again T w1 (hc _))) (fun z => by cases z) (fun _ => ?_)
      refine x_setEnded T w1 (hc _) (o := some r.s.tick) (v_is (f_tick T w1 (hf _)) rfl) fun H2 w2 => k _ (w2.is ?_)
      simp only [upS_upS, upS_same, passStep, if_pos hb']
    · have hb' : ¬ (r.c i).place + 1 = (e.P i).length := fun q => of_decide_eq_false hb (by rw [el, q])
      refine k _ (w1.is ?_)
      unfold passStep
      rw [if_neg hb']
abbrev N_Course_rests : List Str := ["self", "flow", "ticks"]
theorem sc_Course_rests : FnScope N_Course_rests ["self", "flow", "ticks"] (defScope s_Course_rests) := C8.fnScope_by (by decide +kernel)
theorem ok_Course_rests (T : Txt G mg) {f : Addr} {fd : FuncData} (F : FnP G.K "rests" "Course.rests" s_Course_rests f fd) (me : Meth G.K G.C "rests" f) : C8.Met P w G.K mg base 1 G.C "rests" (sp_rests G) [] := by
  refine met_mk T.cC me F (F.bindsN fun _ _ _ _ _ _ us hl => match us, hl with | [_, _, _], _ => rfl) sc_Course_rests (fun vs H Q E h => ?_) (fun cdv A outer s H vs Q E hr h => ?_)
  · obtain ⟨e, g, r, i, n, rfl, hw, k⟩ := h
    rfl
  · obtain ⟨e, g, r, i, n, rfl, hw, k⟩ := h
    refine ⟨_, (pss_cons (ps_if (pt_cmpR op_isN (pe_fld (pv 0) rfl) pe_non (nomark _)) (pss_one (ps_fld (pv 0) (pe_op op_add (pe_fld (pv 1) rfl) (pv 2)) rfl)) pss_nil)
    (pss_cons (ps_if (pt_cmpR op_lt (pe_fld (pv 1) rfl) (pe_fld (pv 0) rfl) (nomark _)) (pss_one (ps_ret pe_bl)) pss_nil)
    (pss_cons (ps_fld (pv 0) pe_non rfl)
    (pss_one (ps_ret pe_bl))))), ?_⟩
    have hc : ∀ H, Val (tVar 0) (start N_Course_rests [V.ref (e.a (12 + bn i)), V.ref (e.a 0), V.int n]) H (.ref (e.a (12 + bn i))) := fun _ => val_var rfl
    have hf : ∀ H, Val (tVar 1) (start N_Course_rests [V.ref (e.a (12 + bn i)), V.ref (e.a 0), V.int n]) H (.ref (e.a 0)) := fun _ => val_var rfl
    generalize hu : untilOf r.s.tick n (r.c i) = u at k
    refine y_whenC (fun H1 => W G e g H1 { r with c := upS r.c i { r.c i with til := some u } }) (a_T (v_isN (c_until T hw (hc _)))) (fun H1 w1 => ?_) (fun hb cont => ?_) (fun hb => ?_)
    · have hv : Val (tFld G.K (tVar 0) "until") (start N_Course_rests [V.ref (e.a (12 + bn i)), V.ref (e.a 0), V.int n]) H1 (.int u) := v_is (c_until T w1 (hc _)) (by show ov ((upS r.c i _) i).til = _; rw [upS_same]; rfl)
      refine y_when (a_T (v_lt (v_is (f_tick T w1 (hf _)) rfl) hv)) (fun hb => ?_) (fun hb => ?_)
      · have kk := k H1 (w1.is (by rw [if_pos (of_decide_eq_true hb)]))
        rw [hb] at kk
        exact x_ret v_c kk
      · refine y_setUntil T w1 (hc _) (o := none) v_c fun H2 w2 => ?_
        have kk := k H2 (w2.is (by simp only [upS_upS, upS_same, if_neg (of_decide_eq_false hb)]))
        rw [hb] at kk
        exact x_ret v_c kk
    · rw [dec_ov_non, decide_eq_true_eq] at hb
      refine x_setUntil T hw (hc _) (o := some (r.s.tick + n)) (v_add (f_tick T hw (hf _)) (v_var rfl)) fun H1 w1 => cont _ (w1.is ?_)
      rw [← hu]
      unfold untilOf
      rw [hb]
    · rw [dec_ov_non, decide_eq_false_iff_not] at hb
      cases ht : (r.c i).til with
      | none => exact absurd ht hb
      | some z =>
        refine hw.is ?_
        have : u = z := by rw [← hu]; unfold untilOf; rw [ht]
        rw [this]
        have e2 : ({ r.c i with til := some z } : Co) = r.c i := by rw [← ht]
        rw [e2, upS_id]
abbrev N_Course_do_step : List Str := ["self", "flow", "side", "word", "amount"]
theorem sc_Course_do_step : FnScope N_Course_do_step ["self", "flow", "side"] (defScope s_Course_do_step) := C8.fnScope_by (by decide +kernel)
theorem ok_Course_do_step (T : Txt G mg) {f : Addr} {fd : FuncData} (F : FnP G.K "do_step" "Course.do_step" s_Course_do_step f fd) (me : Meth G.K G.C "do_step" f) (m_Flow_put : C8.Met P w G.K mg base 4 G.F "put" (sp_put G) []) (m_Flow_fresh : C8.Met P w G.K mg base 1 G.F "fresh" (sp_fresh G) []) (m_Course_rests : C8.Met P w G.K mg base 1 G.C "rests" (sp_rests G) []) (m_Course_pass_step : C8.Met P w G.K mg base 1 G.C "pass_step" (sp_pass_step G) []) : C8.Met P w G.K mg base 5 G.C "do_step" (sp_do_step G) [] := by
  refine met_mk T.cC me F (F.bindsN fun _ _ _ _ _ _ us hl => match us, hl with | [_, _, _], _ => rfl) sc_Course_do_step (fun vs H Q E h => ?_) (fun cdv A outer s H vs Q E hr h => ?_)
  · obtain ⟨e, g, r, i, TT, rfl, hw, fc, hpl, k⟩ := h
    rfl
  · obtain ⟨e, g, r, i, TT, rfl, hw, fc, hpl, k⟩ := h
    refine ⟨_, (pss_cons (ps_asg (pe_ix ix_list (pe_fld (pv 0) rfl) (pe_fld (pv 0) rfl) (fun _ _ => rfl)) (pg_tup rfl (pgs_cons (pg_name (i := 3) sc_Course_do_step.nd rfl (Or.inl rfl)) (pgs_cons (pg_name (i := 4) sc_Course_do_step.nd rfl (Or.inl rfl)) pgs_nil))))
    (pss_cons (ps_if (pt_cmpR op_eq (pv 3) pe_str (nomark _)) (pss_one (ps_expr (C8.pe_mt m_Flow_put hr (by decide) (pv 1) (pa_cons (pv 2) (pa_cons (pv 4) pa_nil))))) (pss_one (ps_if (pt_cmpR op_eq (pv 3) pe_str (nomark _)) (pss_cons (ps_if (pt_cmpR op_lt (C8.pe_mt m_Flow_fresh hr (by decide) (pv 1) (pa_cons (pv 2) pa_nil)) (pv 4) (nomark _)) (pss_one (ps_ret pe_bl)) pss_nil)
    (pss_one (ps_augS (pe_fld (pv 1) rfl) (pv 2) get_list (pv 4) ip_add set_list))) (pss_one (ps_if (pt_val (C8.pe_mt m_Course_rests hr (by decide) (pv 0) (pa_cons (pv 1) (pa_cons (pv 4) pa_nil)))) (pss_one (ps_ret pe_bl)) pss_nil)))))
    (pss_cons (ps_expr (C8.pe_mt m_Course_pass_step hr (by decide) (pv 0) (pa_cons (pv 1) pa_nil)))
    (pss_one (ps_ret pe_bl))))), ?_⟩
    have hc : ∀ v3 v4 H, Val (tVar 0) [some (V.ref (e.a (12 + bn i))), some (V.ref (e.a 0)), some (V.int (bi i)), v3, v4] H (.ref (e.a (12 + bn i))) := fun _ _ _ => val_var rfl
    have hf : ∀ v3 v4 H, Val (tVar 1) [some (V.ref (e.a (12 + bn i))), some (V.ref (e.a 0)), some (V.int (bi i)), v3, v4] H (.ref (e.a 0)) := fun _ _ _ => val_var rfl
    have hi : ∀ v3 v4 H, Val (tVar 2) [some (V.ref (e.a (12 + bn i))), some (V.ref (e.a 0)), some (V.int (bi i)), v3, v4] H (.int (bi i)) := fun _ _ _ => val_var rfl
    obtain ⟨⟨wd, a⟩, hx⟩ : ∃ x, (e.P i)[(r.c i).place]? = some x := ⟨_, List.getElem?_eq_getElem hpl⟩
    have hmem : (wd, a) ∈ e.P i := List.mem_of_getElem? hx
    obtain ⟨rs, h1, h2⟩ := hw.steps i
    obtain ⟨b, hb, hbt⟩ := h2.at (i := (r.c i).place) (x := stepV (wd, a)) (by rw [List.getElem?_map, hx]; rfl)
    refine y_unpack2 (x1 := V.str (wdS wd)) (x2 := V.int a) (v_sqL (c_steps T hw (hc none none H)) (c_place T hw (hc none none H)) (SqL.of h1) (atI_nat (j := (r.c i).place) (by rw [List.getElem?_map, hb]; rfl))) (SqT.of hbt) ?_
    show tSeq _ _ _ [some (V.ref (e.a (12 + bn i))), some (V.ref (e.a 0)), some (V.int (bi i)), some (V.str (wdS wd)), some (V.int a)] H
    have fin : ∀ (H2 : Hp) (r2 : RS), W G e g H2 r2 → (doStep e.L i (e.P i) r.s (r.c i)).1 = true → ({ r2 with c := upS r2.c i (passStep (e.P i).length r2.s.tick (r2.c i)) } : RS) = { s := (doStep e.L i (e.P i) r.s (r.c i)).2.1, c := upS r.c i (doStep e.L i (e.P i) r.s (r.c i)).2.2 } →
        tSeq (tDrop (tMeth G.C "pass_step" (sp_pass_step G) [] C8.E0 (tVar 0) (tCons (tVar 1) tNil))) (tRet (tC (.bl true))) { nx := fun _ H' => Q .non H', rt := Q } [some (V.ref (e.a (12 + bn i))), some (V.ref (e.a 0)), some (V.int (bi i)), some (V.str (wdS wd)), some (V.int a)] H2 := fun H2 r2 w2 e1 e2 => by
      refine y_drop (m_call (hc _ _ _) (w2.hC i) rfl (va_cons (hf _ _ _) va_nil) ⟨e, g, r2, i, rfl, w2, fun H3 w3 => ?_⟩)
      have kk := k H3 (w3.is e2)
      rw [e1] at kk
      exact x_ret v_c kk
    have hg := fc.lg
    have hgc := cw_nonneg (hw.im.pok i) fc.gc
    cases wd with
    | w =>
      have hn : 0 < a := (hw.im.pok i).w a hmem
      have hcw : 6 * a + 1 ≤ cw (e.P i) (r.c i) := by
        have q := pass_cw (P := e.P i) (c := r.c i) (t := r.s.tick) hx
        dsimp only at q
        have q2 : 0 ≤ cw (e.P i) (passStep (e.P i).length r.s.tick (r.c i)) := by
          have q3 := remW_nonneg ((hw.im.pok i).drop ((r.c i).place + 1))
          show 0 ≤ 6 * remW ((e.P i).drop ((r.c i).place + 1)) + (((e.P i).length : Int) - (((r.c i).place + 1 : Nat) : Int))
          omega
        omega
      have ed : doStep e.L i (e.P i) r.s (r.c i) = (true, put e.L i a r.s, passStep (e.P i).length r.s.tick (r.c i)) := by unfold doStep; rw [hx]
      refine y_if (b := true) (a_T (v_is (v_eq (v_var rfl) v_c rfl) rfl)) (fun _ => ?_) (fun z => by cases z)
      refine x_drop (m_call (hf _ _ _) hw.hF rfl (va_cons (hi _ _ _) (va_cons (v_var rfl) va_nil)) ⟨e, g, r, i, a, TT, rfl, hw, fc.good, hn, by omega, fun H2 w2 => fin _ _ w2 (by rw [ed]) ?_⟩)
      rw [ed]
      have et : (put e.L i a r.s).tick = r.s.tick := (letGo_good (i := i) hw.im.lok (putS_good (i := i) fc.good hn)).le.tick
      show ({ s := put e.L i a r.s, c := upS r.c i (passStep (e.P i).length (put e.L i a r.s).tick (r.c i)) } : RS) = _
      rw [et]
    | r =>
      have ed : doStep e.L i (e.P i) r.s (r.c i) = if fresh r.s i < a then (false, r.s, r.c i) else (true, takeIn i a r.s, passStep (e.P i).length r.s.tick (r.c i)) := by unfold doStep; rw [hx]
      refine y_if (b := false) (a_T (v_is (v_eq (v_var rfl) v_c rfl) rfl)) (fun z => by cases z) (fun _ => ?_)
      refine x_if (b := true) (a_T (v_is (v_eq (v_var rfl) v_c rfl) rfl)) (fun _ => ?_) (fun z => by cases z)
      have hfr : Val (tMeth G.F "fresh" (sp_fresh G) [] C8.E0 (tVar 1) (tCons (tVar 2) tNil)) [some (V.ref (e.a (12 + bn i))), some (V.ref (e.a 0)), some (V.int (bi i)), some (V.str (wdS .r)), some (V.int a)] H (.int (fresh r.s i)) := fun Q' q =>
        m_call (hf _ _ _) hw.hF rfl (va_cons (hi _ _ _) va_nil) ⟨e, g, r, i, rfl, hw, q⟩
      refine y_when (a_T (v_lt hfr (v_var rfl))) (fun hb => ?_) (fun hb => ?_)
      · have kk := k H
        rw [ed, if_pos (of_decide_eq_true hb)] at kk
        refine x_ret v_c (kk ?_)
        show W G e g H { s := r.s, c := upS r.c i (r.c i) }
        rw [upS_id]
        exact hw
      · have ed2 := ed.trans (if_neg (of_decide_eq_false hb))
        refine x_augTaken T hw (hf _ _ _) (hi _ _ _) (v_var rfl) fun H2 w2 => fin _ _ w2 (by rw [ed2]) ?_
        rw [ed2]
        rfl
    | p =>
      have ed : doStep e.L i (e.P i) r.s (r.c i) = if r.s.tick < untilOf r.s.tick a (r.c i) then (false, r.s, { r.c i with til := some (untilOf r.s.tick a (r.c i)) }) else (true, r.s, passStep (e.P i).length r.s.tick { r.c i with til := none }) := by unfold doStep; rw [hx]
      refine y_if (b := false) (a_T (v_is (v_eq (v_var rfl) v_c rfl) rfl)) (fun z => by cases z) (fun _ => ?_)
      refine x_if (b := false) (a_T (v_is (v_eq (v_var rfl) v_c rfl) rfl)) (fun z => by cases z) (fun _ => ?_)
      show tB _ [some (V.ref (e.a (12 + bn i))), some (V.ref (e.a 0)), some (V.int (bi i)), some (V.str (wdS .p)), some (V.int a)] H _
      refine m_call (hc _ _ _) (hw.hC i) rfl (va_cons (hf _ _ _) (va_cons (v_var rfl) va_nil)) ⟨e, g, r, i, a, rfl, hw, fun H2 w2 => ⟨_, rfl, ?_⟩⟩
      by_cases hb : r.s.tick < untilOf r.s.tick a (r.c i)
      · rw [decide_eq_true hb]
        have kk := k H2
        rw [ed, if_pos hb] at kk
        rw [if_pos hb] at w2
        exact iteT (x_ret v_c (kk w2))
      · rw [decide_eq_false hb]
        have ed2 := ed.trans (if_neg hb)
        rw [if_neg hb] at w2
        refine iteF (fin _ _ w2 (by rw [ed2]) ?_)
        rw [ed2]
        show ({ s := r.s, c := upS (upS r.c i _) i (passStep (e.P i).length r.s.tick (upS r.c i _ i)) } : RS) = _
        rw [upS_upS, upS_same]

end
end SH
end
section
namespace SH
open PySem PySem.Spec PyProof.Rows L2
section
variable {P : Program} {w : World} {G : Gl5} {mg : Str → Option Value} {base : Heap}

theorem t_andT {t1 t2 : L2.TT} {σ : L2.St} {H : Hp} {Q : Bool → Hp → Prop} (h1 : Ans t1 σ H true) (h2 : t2 σ H Q) : tAnd t1 t2 σ H Q := h1 _ (iteT h2)
theorem t_andF {t1 t2 : L2.TT} {σ : L2.St} {H : Hp} {Q : Bool → Hp → Prop} (h1 : Ans t1 σ H false) (h2 : Q false H) : tAnd t1 t2 σ H Q := h1 _ (iteF h2)
theorem FitC.of {T : Int} {e : En} {i : Bool} {r : RS} {s' : FS} {c' : Co} (f : FitC T e i r) (h : SH.St (e.P i) T r.s (r.c i) s' c') : FitC T e i { s := s', c := upS r.c i c' } := by
  have := f.lg
  have := h.lg
  refine ⟨h.good, ?_, ?_⟩
  · show GC (e.P i) T (upS r.c i c' i)
    rw [upS_same]
    exact h.goodC
  · show SH.m s' + cw (e.P i) (upS r.c i c' i) + (s'.log.length : Int) ≤ _
    rw [upS_same]
    omega
abbrev N_Course_go_on : List Str := ["self", "flow", "side"]
theorem sc_Course_go_on : FnScope N_Course_go_on ["self", "flow", "side"] (defScope s_Course_go_on) := C8.fnScope_by (by decide +kernel)
theorem ok_Course_go_on (T : Txt G mg) {f : Addr} {fd : FuncData} (F : FnP G.K "go_on" "Course.go_on" s_Course_go_on f fd) (me : Meth G.K G.C "go_on" f) (m_Course_do_step : C8.Met P w G.K mg base 5 G.C "do_step" (sp_do_step G) []) : C8.Met P w G.K mg base 6 G.C "go_on" (sp_go_on G) [] := by
  refine met_mk T.cC me F (F.bindsN fun _ _ _ _ _ _ us hl => match us, hl with | [_, _, _], _ => rfl) sc_Course_go_on (fun vs H Q E h => ?_) (fun cdv A outer s H vs Q E hr h => ?_)
  · obtain ⟨e, g, r, i, TT, rfl, hw, fc, k⟩ := h
    rfl
  · obtain ⟨e, g, r, i, TT, rfl, hw, fc, k⟩ := h
    refine ⟨_, (pss_one (ps_while PassesOwn.never (PW.pt (pw_and (pt_cmpR op_isN (pe_fld (pv 0) rfl) pe_non (nomark _)) (pw_and1 (pt_val (C8.pe_mt m_Course_do_step hr (by decide) (pv 0) (pa_cons (pv 1) (pa_cons (pv 2) pa_nil))))))) (pss_one ps_pass))), ?_⟩
    have hc : ∀ H, Val (tVar 0) (start N_Course_go_on [V.ref (e.a (12 + bn i)), V.ref (e.a 0), V.int (bi i)]) H (.ref (e.a (12 + bn i))) := fun _ => val_var rfl
    have kl := hw.im.lok
    have kp := hw.im.pok i
    refine x_while (fun m σ H' => ∃ (s' : FS) (c' : Co), σ = start N_Course_go_on [V.ref (e.a (12 + bn i)), V.ref (e.a 0), V.int (bi i)] ∧ W G e g H' { s := s', c := upS r.c i c' } ∧ FitC TT e i { s := s', c := upS r.c i c' } ∧ (e.P i).length + 1 ≤ m + c'.place ∧
      goOn e.L i (e.P i) m s' c' = goOn e.L i (e.P i) ((e.P i).length + 1) r.s (r.c i)) ((e.P i).length + 1) ⟨r.s, r.c i, rfl, by rw [upS_id]; exact hw, by rw [upS_id]; exact fc, by omega, rfl⟩ ?_
    rintro m σ H' ⟨s', c', rfl, hw', fc', hm', hg'⟩
    have gc' := fc'.gc
    have eC : (upS r.c i c') i = c' := upS_same _ _ _
    rw [show ({ s := s', c := upS r.c i c' } : RS).c i = c' from eC] at gc'
    have fin : ∀ (H2 : Hp) (s2 : FS) (c2 : Co), W G e g H2 { s := s2, c := upS r.c i c2 } → goOn e.L i (e.P i) m s' c' = (s2, c2) → Q .non H2 := fun H2 s2 c2 w2 e2 => by
      refine k _ (w2.is ?_)
      unfold goSide
      rw [← hg', e2]
    have hend : Val (tFld G.K (tVar 0) "ended") (start N_Course_go_on [V.ref (e.a (12 + bn i)), V.ref (e.a 0), V.int (bi i)]) H' (ov c'.ended) := v_is (c_ended T hw' (hc _)) (by rw [show ({ s := s', c := upS r.c i c' } : RS).c i = c' from eC])
    obtain ⟨m, rfl⟩ : ∃ n, m = n + 1 := ⟨m - 1, by have := gc'.pl; omega⟩
    by_cases he : c'.ended = none
    · have hpl := gc'.en.mp he
      obtain ⟨s1, s2, s3⟩ := step_good (i := i) kl kp fc'.good gc' hpl
      refine t_andT (a_T (v_is (v_isN hend) (by rw [dec_ov_non, decide_eq_true he]))) ?_
      refine m_call (hc _) (hw'.hC i) rfl (va_cons (v_var rfl) (va_cons (v_var rfl) va_nil)) ⟨e, g, _, i, TT, rfl, hw', fc', by rw [show ({ s := s', c := upS r.c i c' } : RS).c i = c' from eC]; exact hpl, fun H2 w2 => ⟨_, rfl, ?_⟩⟩
      rw [show ({ s := s', c := upS r.c i c' } : RS).c i = c' from eC] at w2 ⊢
      have w3 : W G e g H2 { s := (doStep e.L i (e.P i) s' c').2.1, c := upS r.c i (doStep e.L i (e.P i) s' c').2.2 } := w2.is (by show ({ s := _, c := upS (upS r.c i c') i _ } : RS) = _; rw [upS_upS])
      have fc2 : FitC TT e i { s := (doStep e.L i (e.P i) s' c').2.1, c := upS r.c i (doStep e.L i (e.P i) s' c').2.2 } := by
        have q := fc'.of (s' := (doStep e.L i (e.P i) s' c').2.1) (c' := (doStep e.L i (e.P i) s' c').2.2) (by rw [show ({ s := s', c := upS r.c i c' } : RS).c i = c' from eC]; exact s1)
        have e3 : (upS (upS r.c i c') i (doStep e.L i (e.P i) s' c').2.2) = upS r.c i (doStep e.L i (e.P i) s' c').2.2 := upS_upS _ _ _ _
        rw [show ({ s := s', c := upS r.c i c' } : RS).c = upS r.c i c' from rfl, e3] at q
        exact q
      cases hd : (doStep e.L i (e.P i) s' c').1 with
      | true =>
        refine iteT ⟨_, fun _ _ q => q, ?_⟩
        refine ⟨m, Nat.lt_succ_self m, _, _, rfl, w3, fc2, ?_, ?_⟩
        · rw [(s2 hd).2]
          omega
        · rw [← hg']
          conv => rhs; unfold goOn
          rw [if_pos he, if_pos hd]
      | false =>
        refine iteF (fin _ _ _ w3 ?_)
        unfold goOn
        rw [if_pos he, if_neg (by rw [hd]; exact Bool.false_ne_true)]
    · refine t_andF (a_T (v_is (v_isN hend) (by rw [dec_ov_non, decide_eq_false he]))) ?_
      refine iteF (fin _ _ _ hw' ?_)
      unfold goOn
      rw [if_neg he]
abbrev N_do_tick : List Str := ["flow", "courses", "tick", "side"]
theorem sc_do_tick : FnScope N_do_tick ["flow", "courses", "tick"] (defScope s_do_tick) := C8.fnScope_by (by decide +kernel)
theorem ok_do_tick (T : Txt G mg) {f : Addr} {fd : FuncData} (F : FnP G.K "do_tick" "do_tick" s_do_tick f fd) (hm : mg "do_tick" = some (.ref f)) (m_Flow_begin : C8.Met P w G.K mg base 4 G.F "begin" (sp_begin G) []) (m_Flow_leave : C8.Met P w G.K mg base 3 G.F "leave" (sp_leave G) []) (m_Course_go_on : C8.Met P w G.K mg base 6 G.C "go_on" (sp_go_on G) []) : C8.Cal P w G.K mg base 7 "do_tick" (sp_do_tick G) [] := by
  refine cal_mk F hm (F.bindsN fun _ _ _ _ _ _ us hl => match us, hl with | [_, _, _], _ => rfl) sc_do_tick (fun vs H Q E h => ?_) (fun cdv A outer s H vs Q E hr h => ?_)
  · obtain ⟨e, g, r, cs, t, TT, rfl, hw, hcs, gr, ht, hlg, k⟩ := h
    rfl
  · obtain ⟨e, g, r, cs, t, TT, rfl, hw, hcs, gr, ht, hlg, k⟩ := h
    refine ⟨_, (pss_cons (ps_expr (C8.pe_mt m_Flow_begin hr (by decide) (pv 0) (pa_cons (pv 2) pa_nil)))
    (pss_cons (ps_for PassesOwn.never rfl (pi_tup (pe_tup (pa_cons pe_int (pa_cons pe_int pa_nil)))) (pg_name (i := 3) sc_do_tick.nd rfl (Or.inl rfl)) (pss_one (ps_expr (C8.pe_mt m_Course_go_on hr (by decide) (pe_ix ix_tup (pv 1) (pv 3) (fun _ _ => rfl)) (pa_cons (pv 0) (pa_cons (pv 3) pa_nil))))))
    (pss_one (ps_expr (C8.pe_mt0 m_Flow_leave hr (by decide) (pv 0)))))), ?_⟩
    have hf : ∀ v H, Val (tVar 0) [some (V.ref (e.a 0)), some (V.ref cs), some (V.int t), v] H (.ref (e.a 0)) := fun _ _ => val_var rfl
    have kl := hw.im.lok
    have kp := hw.im.pok
    have hm := RM_ge kp gr
    refine y_drop (m_call (hf none H) hw.hF rfl (va_cons (v_var rfl) va_nil) ⟨e, g, r, t, TT, rfl, hw, ⟨gr.s, by omega⟩, ht, fun H1 g1 w1 => ?_⟩)
    obtain ⟨b1, b2, b3, b4, b5⟩ := begin_good kl gr.s ht
    have gb : GR e.P TT { r with s := begin e.L t r.s } := ⟨b1, gr.c⟩
    have hb : RM e.P { r with s := begin e.L t r.s } + ((begin e.L t r.s).log.length : Int) ≤ 100000 := by
      have := RM_s e.P r (begin e.L t r.s)
      omega
    have y_for' : ∀ {tl : TE} {gg : TG} {t1 t2 : TS} {D : Ends} {σ : L2.St} {H : Hp}, tFor (iTup G.K tl) gg t1 { D with nx := t2 D } σ H → tSeq (tFor (iTup G.K tl) gg t1) t2 D σ H := fun h => h
    refine y_for' (for_sides w1 (fun n σ' r' => ∃ x, σ' = [some (V.ref (e.a 0)), some (V.ref cs), some (V.int t), x] ∧ (n = 0 → r' = { r with s := begin e.L t r.s }) ∧ (n = 1 → r' = goSide e.L e.P false { r with s := begin e.L t r.s }) ∧
      (n = 2 → r' = goSide e.L e.P true (goSide e.L e.P false { r with s := begin e.L t r.s })) ∧ GR e.P TT r' ∧ RM e.P r' + (r'.s.log.length : Int) ≤ 100000) ⟨none, rfl, fun _ => rfl, (fun h => by cases h), (fun h => by cases h), gb, hb⟩ ?_ ?_)
    · rintro Hb sH i g' σ' H' r' ⟨x, rfl, h0, h1, h2, gr', hlg'⟩ w' Nx hN
      have hcs1 : H' cs = some (.tup [.ref (e.a 12), .ref (e.a 13)]) := w'.same _ _ (sH _ _ hcs)
      have hcv : Val (tOp (rIxT G.K) (tVar 1) (tVar 3)) [some (V.ref (e.a 0)), some (V.ref cs), some (V.int t), some (V.int (bi i))] H' (.ref (e.a (12 + bn i))) := v_sqT (v_var rfl) (v_var rfl) (SqT.of hcs1) (by cases i <;> rfl)
      have hcw := RM_cw kp gr' i
      obtain ⟨s1, s2, s3, s4, s5, s6⟩ := side_good kl kp i gr'
      refine x_drop (m_call hcv (w'.hC i) rfl (va_cons (v_var rfl) (va_cons (v_var rfl) va_nil)) ⟨reb e g1 Hb, g', r', i, TT, rfl, w', ⟨gr'.s, gr'.c i, by show SH.m r'.s + cw (e.P i) (r'.c i) + (r'.s.log.length : Int) ≤ _; omega⟩, fun H2 w2 => ?_⟩)
      refine hN _ _ g' _ ⟨_, rfl, ?_, ?_, ?_, s1, by omega⟩ w2
      · intro z; cases z
      · intro z
        cases i with
        | false => rw [h0 rfl]
        | true => cases z
      · intro z
        cases i with
        | false => cases z
        | true => rw [h1 rfl]
    · rintro σ' H' g' r' ⟨x, rfl, _, _, h2, gr', hlg'⟩ w'
      have hm' := RM_ge kp gr'
      refine x_drop (m_call (hf _ _) w'.hF rfl va_nil ⟨e, g', r', TT, rfl, w', ⟨gr'.s, by omega⟩, fun H2 g2 w2 => k _ _ (w2.is ?_)⟩)
      rw [h2 rfl]
      rfl
abbrev N_events : List Str := ["flow", "courses", "ticks", "after", "course"]
theorem sc_events : FnScope N_events ["flow", "courses"] (defScope s_events) := C8.fnScope_by (by decide +kernel)
theorem ok_events (T : Txt G mg) {f : Addr} {fd : FuncData} (F : FnP G.K "events" "events" s_events f fd) (hm : mg "events" = some (.ref f)) (m_Flow_next_tick : C8.Met P w G.K mg base 1 G.F "next_tick" (sp_next_tick G) []) : C8.Cal P w G.K mg base 2 "events" (sp_events G) [] := by
  refine cal_mk F hm (F.bindsN fun _ _ _ _ _ _ us hl => match us, hl with | [_, _], _ => rfl) sc_events (fun vs H Q E h => ?_) (fun cdv A outer s H vs Q E hr h => ?_)
  · obtain ⟨e, g, r, cs, rfl, hw, hcs, hfl, k⟩ := h
    rfl
  · obtain ⟨e, g, r, cs, rfl, hw, hcs, hfl, k⟩ := h
    refine ⟨_, (pss_cons (ps_setLc (i := 2) (own := [("course", 4)]) (g := gName 4) rfl sc_events.nd rfl rfl (sw_true rfl rfl rfl (by decide +kernel)) (pi_tup (pv 1)) (blkOk_by (own := [("course", 4)]) (N := N_events) (sc := defScope s_events) (by decide +kernel)) (fun _ _ _ _ _ => (pg_name (i := 4) sc_events.nd rfl (Or.inl rfl))) (fun _ _ _ _ _ => (pts_one (pt_cmpR op_notN (pe_fldK (K := G.K) (pv 4) rfl rfl) pe_non (nomark _)))) (fun _ _ _ _ _ => (pe_fldK (K := G.K) (pv 4) rfl rfl)))
    (pss_cons (ps_set (i := 3) sc_events.nd rfl (Or.inl rfl) (C8.pe_mt0 m_Flow_next_tick hr (by decide) (pv 0)))
    (pss_cons (ps_if (pt_cmpR op_notN (pv 3) pe_non (nomark _)) (pss_one (ps_expr (pe_bm PySem.F.plainAttrs_list PySem.F.slot_list_append PySem.F.type_list_append mt_append (pv 2) (pa_cons (pv 3) pa_nil)))) pss_nil)
    (pss_one (ps_ret (pe_ifExp (pt_cmpR op_gt (pe_callB (r := rLenK G.K) call_lenK (by rfl) T.z_len (by decide +kernel) (pa_cons (pv 2) pa_nil)) pe_int (nomark _)) (pe_callB (r := rMin G.K) (cr_min rfl) (by rfl) T.z_min (by decide +kernel) (pa_cons (pv 2) pa_nil)) pe_non)))))), ?_⟩
    have hf : ∀ v2 v3 v4 H, Val (tVar 0) [some (V.ref (e.a 0)), some (V.ref cs), v2, v3, v4] H (.ref (e.a 0)) := fun _ _ _ _ => val_var rfl
    have hcs1 := hw.same _ _ hcs
    let fu : V → V := fun v => if v = .ref (e.a 12) then ov (r.c false).til else ov (r.c true).til
    let pu : V → Bool := fun v => if v = .ref (e.a 12) then !decide ((r.c false).til = none) else !decide ((r.c true).til = none)
    have n12 : ¬ (V.ref (e.a 13) = V.ref (e.a 12)) := fun q => by
      have := hw.im.inj 13 12 (by decide) (by decide) (V.ref.inj q)
      omega
    refine y_asgE (x_lcT (K := G.K) (v_var rfl) (SqT.of hcs1) fun D hD => ?_)
    refine lc_genT (K := G.K) (xs := [V.ref (e.a 12), V.ref (e.a 13)]) (fun acc H' => Lw G e g r D acc H') pu fu (Lw.start hw hD) (fun acc H' h => SqT.of (h.w.same _ _ hcs)) (fun acc H' h => h.d) (fun acc H' y h => h.next) (by show 2 < sizeLine; decide) (fun x hx acc H' h Y N hY hN => ?_) (fun H2 lw => ?_)
    · have key : ∀ i : Bool, x = .ref (e.a (12 + bn i)) → fu x = ov (r.c i).til → pu x = !decide ((r.c i).til = none) → gName 4 x (wipe [some (V.ref (e.a 0)), some (V.ref cs), none, none, none] [4]) H' fun σ2 H2 => wipe σ2 [4] = wipe [some (V.ref (e.a 0)), some (V.ref cs), none, none, none] [4] ∧ tTest (tOp (fun x y H Q => y = V.non ∧ Q (.bl (!decide (x = V.non))) H) (tFld G.K (tVar 4) "until") (tC .non)) σ2 H2 fun b H3 => if b = true then tFld G.K (tVar 4) "until" σ2 H3 Y else N H3 := fun i ex e1 e2 => by
        subst ex
        refine ⟨rfl, ?_⟩
        have hu : Val (tFld G.K (tVar 4) "until") [some (V.ref (e.a 0)), some (V.ref cs), none, none, some (V.ref (e.a (12 + bn i)))] H' (ov (r.c i).til) := c_until T h.w (v_var rfl)
        refine a_T (v_notN hu) _ ?_
        rw [dec_ov_non]
        rw [e2] at hY hN
        rw [e1] at hY
        refine ite2 (fun hb => ?_) (fun hb => ?_)
        · exact hu _ (hY hb _ h)
        · refine hN ?_ _ h
          cases q : !decide ((r.c i).til = none) with
          | true => exact absurd q hb
          | false => rfl
      rcases List.mem_cons.mp hx with hx | hx
      · exact key false hx (by rw [hx]; exact if_pos rfl) (by rw [hx]; exact if_pos rfl)
      · have hx := List.mem_singleton.mp hx
        exact key true hx (by rw [hx]; exact if_neg n12) (by rw [hx]; exact if_neg n12)
    have ea : ([V.ref (e.a 12), V.ref (e.a 13)].filter pu).map fu = (tilT (r.c false) ++ tilT (r.c true)).map V.int := by
      have p1 : pu (V.ref (e.a 12)) = !decide ((r.c false).til = none) := if_pos rfl
      have p2 : pu (V.ref (e.a 13)) = !decide ((r.c true).til = none) := if_neg n12
      have f1 : fu (V.ref (e.a 12)) = ov (r.c false).til := if_pos rfl
      have f2 : fu (V.ref (e.a 13)) = ov (r.c true).til := if_neg n12
      rw [List.filter_cons, List.filter_cons, p1, p2, List.filter_nil]
      unfold tilT
      cases h1 : (r.c false).til <;> cases h2 : (r.c true).til <;> simp [f1, f2, h1, h2, ov]
    have d1 := lw.d
    rw [ea] at d1
    generalize hl0 : tilT (r.c false) ++ tilT (r.c true) = l0 at d1
    have ll0 : l0.length ≤ 2 := by
      rw [← hl0, List.length_append]
      unfold tilT
      split <;> split <;> simp
    have w2 := lw.w
    have j1 := lw.jk
    have rD : (reb e g H2).H0 D = some (.lst (l0.map V.int)) := (rest_at j1.ne j1.ng.symm).trans d1
    refine y_asgE (m_call (hf _ _ _ _) w2.hF rfl va_nil ⟨reb e g H2, g, r, rfl, w2.reb, hfl, fun H3 w3 => ?_⟩)
    have d3 := w3.same _ _ rD
    have w4 := w2.unreb w3
    show tSeq _ _ _ [some (V.ref (e.a 0)), some (V.ref cs), some (V.ref D), some (ov (nextTick e.L r.s)), none] H3
    refine y_whenC (fun H4 => W G e g H4 r ∧ H4 D = some (.lst ((evTicks e.L r).map V.int))) (a_T (v_notN (v_var rfl))) (fun H4 h4 => ?_) (fun hb cont => ?_) (fun hb => ?_)
    · obtain ⟨w5, d5⟩ := h4
      show tIf _ _ _ _ H4 _
      have le : (evTicks e.L r).length ≤ 3 := by
        unfold evTicks
        rw [hl0, List.length_append]
        split <;> simp <;> omega
      refine a_T (v_gt (v_lenL (v_var rfl) (SqL.of d5)) v_c) _ ?_
      rw [List.length_map]
      refine ite2 (fun hb => ?_) (fun hb => ?_)
      · have hb' : 0 < (evTicks e.L r).length := by
          have := of_decide_eq_true hb
          omega
        refine ⟨_, rfl, D, evTicks e.L r, rfl, SqL.of d5, hb', fun mm hm hle => ?_⟩
        have hmin : events e.L r = some mm := List.min?_eq_some_iff.mpr ⟨hm, hle⟩
        have kk := k H4 w5
        rw [hmin] at kk
        exact kk
      · have hb' : evTicks e.L r = [] := by
          have := fun q => hb (decide_eq_true q)
          cases h : evTicks e.L r with
          | nil => rfl
          | cons x y => exact absurd (by rw [h, List.length_cons]; omega) this
        have hmin : events e.L r = none := by
          unfold events
          rw [hb']
          rfl
        have kk := k H4 w5
        rw [hmin] at kk
        exact kk
    · rw [dec_ov_non] at hb
      cases hn : nextTick e.L r.s with
      | none => rw [hn] at hb; cases hb
      | some t =>
        refine x_appV (v_var rfl) d3 (by rw [List.length_map]; exact Nat.lt_of_le_of_lt ll0 (by decide)) (v_var rfl) (cont _ ⟨w4.junk j1 (noTup_lst d3), ?_⟩)
        rw [upd_same]
        unfold evTicks
        rw [hl0, hn, List.map_append]
        rfl
    · rw [dec_ov_non] at hb
      cases hn : nextTick e.L r.s with
      | some t => rw [hn] at hb; cases hb
      | none =>
        refine ⟨w4, ?_⟩
        rw [d3]
        unfold evTicks
        rw [hl0, hn, List.append_nil]

end
end SH
end
section
set_option maxHeartbeats 1000000
namespace SH
open PySem PySem.Spec PyProof.Rows L2
open AutoSeq1 (wpAny_loadPart')
/-! ### enumerate over a tuple, zip over three tuples -/
theorem enum_tup_new (l : Addr) (its : Array Value) :
    Meets (Builtin.«enumerate.__new__» ⟨[.type "enumerate", .ref l], []⟩) (fun _ R s => s.heap.IsTuple l its ∧
      R (.ok (.ret (.ref (s.heap.push { cls := .type "tuple_iterator", data := .fields #[.ref l, .int 0 0] }).objs.size)))
        { s with heap := (s.heap.push { cls := .type "tuple_iterator", data := .fields #[.ref l, .int 0 0] }).push { cls := .type "enumerate", data := .fields #[.none, .bool false, .ref s.heap.objs.size, rawInt 0, .none, .none] } }) :=
  .of_wp fun prog w A R s hh => by
    obtain ⟨hp, gg, dd, tt, oo⟩ := s; obtain ⟨hL, hR⟩ := hh
    have hsub := sub_enumerate
    obtain ⟨ol, hol, hc, nl, hd⟩ := id hL
    have q1 : ∀ {A' : Around} {E : Value → Shared → Prop} {Q : Value → Shared → Prop}, Q (.ref hp.objs.size) ⟨hp.push { cls := .type "tuple_iterator", data := .fields #[.ref l, .int 0 0] }, gg, dd, tt, oo⟩ → wpAny (model prog w) A' (pyIter (.ref l)) Q E ⟨hp, gg, dd, tt, oo⟩ :=
      fun q => wpAny_pyIter_tuple (s := ⟨hp, gg, dd, tt, oo⟩) hL q
    wp_walk using wpAny_loadPart' hol, q1
    refine wpAny_stack_any fun st => wpAny_pure ?_
    split
    · rename_i c _ _ _ _ _
      cases (c == Value.type "enumerate")
      · wp_walk using wpAny_loadPart' hol, q1
        exact ⟨_, rfl, hR⟩
      · wp_walk using wpAny_loadPart' hol, q1
        exact ⟨_, rfl, hR⟩
    · wp_walk using wpAny_loadPart' hol, q1
      exact ⟨_, rfl, hR⟩
theorem call_enumT {prog : Program} {w : World} {A : Around} {E : Value → Shared → Prop} {s : Shared} {l : Addr} {its : Array Value} {Q : Value → Shared → Prop} (hL : s.heap.IsTuple l its)
    (k : ∀ h', IsEnum h' (s.heap.objs.size + 1) s.heap.objs.size 0 .none → h'.IsTupleIter s.heap.objs.size l 0 → (∀ b o, s.heap.get? b = some o → h'.get? b = some o) → Q (.ref (s.heap.objs.size + 1)) { s with heap := h' }) :
    wpAny (model prog w) A (call (.type "enumerate") [.ref l]) Q E s := by
  refine callType_new F.called_enumerate (by decide) (F.typeCall_enumerate_1 _) (F.newCall_enumerate_1 _) (fun obj => F.args_object_init_2 obj _) F.entry_enumerate_new (enum_tup_new l its) ⟨hL, ?_⟩
  have hz : (s.heap.push { cls := .type "tuple_iterator", data := .fields #[.ref l, .int 0 0] }).objs.size = s.heap.objs.size + 1 := Heap.size_push ..
  show _ ∧ _
  rw [hz]
  have he : IsEnum ((s.heap.push { cls := .type "tuple_iterator", data := .fields #[.ref l, .int 0 0] }).push { cls := .type "enumerate", data := .fields #[.none, .bool false, .ref s.heap.objs.size, rawInt 0, .none, .none] }) (s.heap.objs.size + 1) s.heap.objs.size 0 .none := by
    have q := Heap.get?_push_size (s.heap.push { cls := .type "tuple_iterator", data := .fields #[.ref l, .int 0 0] }) (o := { cls := .type "enumerate", data := .fields #[.none, .bool false, .ref s.heap.objs.size, rawInt 0, .none, .none] }) rfl
    rw [hz] at q
    exact q
  exact ⟨⟨_, he, rfl⟩, k _ he ⟨_, Heap.get?_push_of_some _ (Heap.get?_push_size _ rfl), rfl, rfl⟩ fun b o x => Heap.get?_push_of_some _ (Heap.get?_push_of_some _ x)⟩
def ItE (K : PySem.W.Frag) (a : Addr) : It :=
  ⟨fun i H => ∃ (xs : List V) (x : V), SqT K H a xs ∧ xs[i]? = some x, fun i H v H' => ∃ T x, v = .ref T ∧ H T = none ∧ H' = upd H T (.tup [.int (i : Nat), x]) ∧ ∀ xs, SqT K H a xs → xs[i]? = some x, fun i H => ∃ xs : List V, SqT K H a xs ∧ xs.length = i⟩
theorem tup_ne {h : Heap} {a it : Addr} {its : Array Value} {i : Nat} {l : Addr} (h1 : h.IsTuple a its) (h2 : h.IsTupleIter it l i) : a ≠ it := by
  intro z
  obtain ⟨o1, e1, c1, _⟩ := h1
  obtain ⟨o2, e2, c2, _⟩ := h2
  rw [z, e2] at e1
  cases e1
  rw [c2] at c1
  injection c1 with c3
  exact absurd c3 (by decide)
theorem turn_enT {P : Program} {w : World} {K : PySem.W.Frag} {elts : List Expr} {kk : Nat} {tpos : Pos} (a e it : Addr) :
    Turn P w K (.Tuple elts kk tpos) (ItE K a) [e, it] e (fun i h => (∃ old, IsEnum h e it ((i : Nat) : Int) old) ∧ h.IsTupleIter it a i ∧ e ≠ it) where
  mem := by simp
  obj := fun i h st b hb => by
    obtain ⟨⟨old, he⟩, ⟨o, ho, hc, hd⟩, _⟩ := st
    rcases (show b = e ∨ b = it by simpa using hb) with z | z
    · rw [z]; exact ⟨_, he, fun v q => nomatch q⟩
    · rw [z]; exact ⟨o, ho, fun v q => by rw [hd] at q; cases q⟩
  keep := fun i h h' st k => let ⟨⟨old, he⟩, hi, hne⟩ := st; ⟨⟨old, k e (by simp) _ he⟩, hi.at fun o q => k it (by simp) o q, hne⟩
  item := by
    intro X hP hw hK hc i pins s σ H E I hf st hg
    subst hP hw hK
    obtain ⟨⟨old, he⟩, hit, hne⟩ := st
    obtain ⟨xs, x, hq, hx⟩ := hg
    obtain ⟨its, rv, p, hz⟩ := I.tuple hq
    obtain ⟨u, hu, ru⟩ := rv.get hx
    have pT : s.heap.IsTuple a its.toArray := p
    have nai := tup_ne pT hit
    have hel : e < s.heap.objs.size := Heap.lt_size he
    have hil : it < s.heap.objs.size := by obtain ⟨_, q, _⟩ := hit; exact Heap.lt_size q
    have nea : e ≠ a := by
      intro z
      obtain ⟨o1, e1, c1, _⟩ := pT
      rw [← z] at e1
      have e2 := Option.some.inj (he.symm.trans e1)
      rw [← e2] at c1
      injection c1 with c3
      exact absurd c3 (by decide)
    have hi : i < its.toArray.size := by
      have q := (List.getElem?_eq_some_iff.mp hu).1
      simpa using q
    refine wpAny_pyNext_enum_itemC (Draws.tuple (prog := X.prog) (w := X.w) (A := X.A.in1) (I.ok.hd hc) it a nai its.toArray) he ⟨hit, pT⟩ hi hne (by simp [hne, nea]) fun x' h' tk hx' ho hst hT hsz hk => ?_
    have ex : x' = u := by
      have q1 : its.toArray[i]? = some x' := hx'
      have q2 : its.toArray[i]? = some u := by simpa using hu
      rw [q1] at q2
      exact Option.some.inj q2
    subst ex
    refine ⟨_, rfl, wpAny_letOwnedTupleGo_enum (s := { s with heap := h', toks := tk + 1 }) ho fun h'' he' sb => ?_⟩
    have hT2 : h''.get? s.heap.objs.size = some { cls := .type "tuple", data := .seq #[.int i tk, x'] } := (sb.2 _ (Nat.ne_of_gt hel)).trans hT
    have new : ObjOk X.prog X.w (upd H s.heap.objs.size (.tup [.int (i : Nat), x])) h'' s.heap.objs.size (.tup [.int (i : Nat), x]) := ⟨by show 2 ≤ sizeLine; decide, [.int i tk, x'], .cons ⟨_, rfl⟩ (.cons ru .nil), ⟨_, hT2, rfl, _, rfl⟩⟩
    have I1 : Inv X pins σ (upd H s.heap.objs.size (.tup [.int (i : Nat), x])) { s with heap := h'', toks := tk + 1 } :=
      I.turnedNew (ch := [e, it]) (fun b ob hb q => (sb.2 b (fun z => hb (by simp [z]))).trans (hk b ob (fun z => hb (by simp [z])) (fun z => hb (by simp [z])) q)) hf (Nat.le_refl _) new
    refine ⟨.ref s.heap.objs.size, _, I1, rfl, ⟨_, x, rfl, I.hok.fresh (Nat.le_refl _), rfl, fun ys hy => by rw [I.tuple_inj hy hq]; exact hx⟩, ⟨⟨x', ?_⟩, hst.1.at fun o q => (sb.2 it (Ne.symm hne)).trans q, hne⟩, fun b hb => ?_⟩
    · rw [show ((i + 1 : Nat) : Int) = (i : Int) + 1 by omega]
      exact he'
    · have hb' : b < s.heap.objs.size := by
        rcases (show b = e ∨ b = it by simpa using hb) with z | z
        · rw [z]; exact hel
        · rw [z]; exact hil
      rw [upd_ne (Nat.ne_of_lt hb')]
      exact (hf b hb).1
  done := by
    intro X hP hw hK hc i pins s σ H E I hf st hg
    subst hP hw hK
    obtain ⟨⟨old, he⟩, hit, hne⟩ := st
    obtain ⟨xs, hq, hx⟩ := hg
    obtain ⟨its, rv, p, hz⟩ := I.tuple hq
    have pT : s.heap.IsTuple a its.toArray := p
    have nai := tup_ne pT hit
    obtain ⟨f0, f1, f2, f3, f4, f5⟩ := hf it (by simp)
    have hn : i = its.toArray.size := by
      have := rv.length
      simp
      omega
    subst hn
    exact wpAny_pyNext_enum_endD (Draws.tuple (prog := X.prog) (w := X.w) (A := X.A.in1) (I.ok.hd hc) it a nai its.toArray) he ⟨hit, pT⟩ fun h' eb => ⟨rfl, I.turned (t' := s.toks) (fun b o hb q => eb b o hb q) f0 f1 f3 f4 f5⟩
  self := fun A i s Q E st h => let ⟨⟨_, he⟩, _⟩ := st; wpAny_pyIter_enum he h
def iEnT (K : PySem.W.Frag) (ta : TA) : TI := fun σ H R => ta σ H fun vs H1 => ∃ a xs, vs = [.ref a] ∧ SqT K H1 a xs ∧ R (ItE K a) H1
theorem pi_enumT {X : Cx} {e : Expr} {ta : TA} {p pos tpos : Pos} {elts : List Expr} {kk : Nat} (hg : Gl X "enumerate") (hm : X.mg "enumerate" = none) (ha : PA X [e] ta) (hs : starEach [e] X.env = [(false, eval e X.env)] := by rfl) :
    PI X (.Tuple elts kk tpos) (.Call (.Name "enumerate" p) [e] [] pos) (iEnT X.K ta) := by
  refine ⟨fun pins s σ H R I hR => ?_⟩
  refine Call_ (ld_blt I hg hm boot_enumerate (PyProof.Rows.callWith_type1 (thn (ha.run pos pins s σ H _ I hR) fun us s1 ⟨vs, H1, I1, r1, q1⟩ => ?_) hs rfl))
  obtain ⟨a, xs, ex, hq, q⟩ := q1
  subst ex
  cases r1 with
  | cons r rr =>
    cases rr
    cases r
    obtain ⟨its, rv, p', hz⟩ := I1.tuple hq
    refine call_enumT (show s1.heap.IsTuple a its.toArray from p') fun h' he hit hk => wpAny_pyIter_enum he ?_
    have I2 : Inv X pins σ H1 { s1 with heap := h' } := I1.kept (t' := s1.toks) hk
    refine ⟨s1.heap.objs.size + 1, [s1.heap.objs.size + 1, s1.heap.objs.size], _, _, H1, rfl, I2, turn_enT a (s1.heap.objs.size + 1) s1.heap.objs.size, ⟨⟨.none, he⟩, hit, Nat.succ_ne_self _⟩, fun b hb => ?_, q⟩
    have hle : s1.heap.objs.size ≤ b := by
      rcases (show b = s1.heap.objs.size + 1 ∨ b = s1.heap.objs.size by simpa using hb) with z | z
      · rw [z]; exact Nat.le_add_right _ _
      · rw [z]; exact Nat.le_refl _
    exact I1.fpOk hle (I1.hok.fresh hle)
/-- three tuples side by side -/
def ItZ3 (K : PySem.W.Frag) (a b c : Addr) : It :=
  ⟨fun i H => ∃ (xs ys zs : List V), SqT K H a xs ∧ SqT K H b ys ∧ SqT K H c zs ∧ i < xs.length ∧ i < ys.length ∧ i < zs.length,
    fun i H v H' => ∃ T x y z, v = .ref T ∧ H T = none ∧ H' = upd H T (.tup [x, y, z]) ∧ (∀ xs, SqT K H a xs → xs[i]? = some x) ∧ (∀ ys, SqT K H b ys → ys[i]? = some y) ∧ ∀ zs, SqT K H c zs → zs[i]? = some z,
    fun i H => ∃ xs ys zs : List V, SqT K H a xs ∧ SqT K H b ys ∧ SqT K H c zs ∧ i ≤ xs.length ∧ i ≤ ys.length ∧ i ≤ zs.length ∧ (i = xs.length ∨ i = ys.length ∨ i = zs.length)⟩
structure Ap3 (N i1 i2 i3 a b c : Addr) : Prop where
  e1 : i1 = N
  e2 : i2 = N + 1
  e3 : i3 = N + 2
  la : a < N
  lb : b < N
  lc : c < N
theorem turn_z3 {P : Program} {w : World} {K : PySem.W.Frag} {elts : List Expr} {kk : Nat} {tpos : Pos} {a b c N : Addr} (la : a < N) (lb : b < N) (lc : c < N) :
    Turn P w K (.Tuple elts kk tpos) (ItZ3 K a b c) [N + 5, N + 3, N + 4, N, N + 1, N + 2] (N + 5) (fun i h => IsZip h (N + 5) (N + 3) (N + 4) .none ∧ IsTupOf3 h (N + 3) (.ref N) (.ref (N + 1)) (.ref (N + 2)) ∧ (∃ x y z, IsTupOf3 h (N + 4) x y z) ∧
      h.IsTupleIter N a i ∧ h.IsTupleIter (N + 1) b i ∧ h.IsTupleIter (N + 2) c i) where
  mem := by simp
  obj := fun i h st d hd => by
    obtain ⟨hz, hTI, ⟨x, y, z, hTO⟩, ⟨o1, e1, _, d1⟩, ⟨o2, e2, _, d2⟩, ⟨o3, e3, _, d3⟩⟩ := st
    rcases (show d = N + 5 ∨ d = N + 3 ∨ d = N + 4 ∨ d = N ∨ d = N + 1 ∨ d = N + 2 by simpa using hd) with q | q | q | q | q | q
    · rw [q]; exact ⟨_, hz, fun v q => nomatch q⟩
    · rw [q]; exact ⟨_, hTI, fun v q => nomatch q⟩
    · rw [q]; exact ⟨_, hTO, fun v q => nomatch q⟩
    · rw [q]; exact ⟨o1, e1, fun v q => by rw [d1] at q; cases q⟩
    · rw [q]; exact ⟨o2, e2, fun v q => by rw [d2] at q; cases q⟩
    · rw [q]; exact ⟨o3, e3, fun v q => by rw [d3] at q; cases q⟩
  keep := fun i h h' st k => by
    obtain ⟨hz, hTI, ⟨x, y, z, hTO⟩, h1, h2, h3⟩ := st
    exact ⟨k _ (by simp) _ hz, k _ (by simp) _ hTI, ⟨x, y, z, k _ (by simp) _ hTO⟩, h1.at fun o q => k N (by simp) o q, h2.at fun o q => k (N + 1) (by simp) o q, h3.at fun o q => k (N + 2) (by simp) o q⟩
  item := by
    intro X hP hw hK hc i pins s σ H E I hf st hg
    subst hP hw hK
    obtain ⟨hz, hTI, ⟨x0, y0, z0, hTO⟩, h1, h2, h3⟩ := st
    obtain ⟨xs, ys, zs, hqx, hqy, hqz, lx, ly, lz⟩ := hg
    obtain ⟨ia, ra, pa, _⟩ := I.tuple hqx
    obtain ⟨ib, rb, pb, _⟩ := I.tuple hqy
    obtain ⟨ic, rc, pc, _⟩ := I.tuple hqz
    obtain ⟨u1, hu1, ru1⟩ := ra.get (List.getElem?_eq_getElem lx)
    obtain ⟨u2, hu2, ru2⟩ := rb.get (List.getElem?_eq_getElem ly)
    obtain ⟨u3, hu3, ru3⟩ := rc.get (List.getElem?_eq_getElem lz)
    have S3 : ZipSep3 (N + 5) (N + 3) (N + 4) N (N + 1) (N + 2) [N, a] [N + 1, b] [N + 2, c] :=
      zip_sep3 (fun d hd => by rw [List.mem_singleton.mp hd]; exact la) (fun d hd => by rw [List.mem_singleton.mp hd]; exact lb) (fun d hd => by rw [List.mem_singleton.mp hd]; exact lc)
    have ha0 := I.ok.hd hc
    have hzl : N + 5 < s.heap.objs.size := Heap.lt_size hz
    have hnd : ∀ {js : List Value} {vs : List V}, Vals vs js → i < vs.length → i < js.toArray.size := fun r hl => by
      have := r.length
      simp
      omega
    refine wpAny_pyNext_zipD3_item (i := i) S3 (Draws.tuple (prog := X.prog) (w := X.w) (A := X.A.in1) ha0 N a (Nat.ne_of_lt la) ia.toArray) (Draws.tuple (prog := X.prog) (w := X.w) (A := X.A.in1) ha0 (N + 1) b (Nat.ne_of_lt (Nat.lt_succ_of_lt lb)) ib.toArray)
      (Draws.tuple (prog := X.prog) (w := X.w) (A := X.A.in1) ha0 (N + 2) c (Nat.ne_of_lt (Nat.lt_succ_of_lt (Nat.lt_succ_of_lt lc))) ic.toArray) hz hTI hTO ⟨h1, pa⟩ ⟨h2, pb⟩ ⟨h3, pc⟩ (hnd ra lx) (hnd rb ly) (hnd rc lz) fun x1 x2 x3 h' tk y1 y2 y3 z' TO' s1 s2 s3 hT hsz hk => ?_
    have ex1 : x1 = u1 := by
      have q1 : ia.toArray[i]? = some x1 := y1
      have q2 : ia.toArray[i]? = some u1 := by simpa using hu1
      rw [q1] at q2
      exact Option.some.inj q2
    have ex2 : x2 = u2 := by
      have q1 : ib.toArray[i]? = some x2 := y2
      have q2 : ib.toArray[i]? = some u2 := by simpa using hu2
      rw [q1] at q2
      exact Option.some.inj q2
    have ex3 : x3 = u3 := by
      have q1 : ic.toArray[i]? = some x3 := y3
      have q2 : ic.toArray[i]? = some u3 := by simpa using hu3
      rw [q1] at q2
      exact Option.some.inj q2
    subst ex1 ex2 ex3
    refine ⟨_, rfl, wpAny_letOwnedTupleGo_zip (s := { s with heap := h', toks := tk }) z' fun h'' z'' sb => ?_⟩
    have hT2 : h''.get? s.heap.objs.size = some { cls := .type "tuple", data := .seq #[x1, x2, x3] } := (sb.2 _ (Nat.ne_of_gt hzl)).trans hT
    have new : ObjOk X.prog X.w (upd H s.heap.objs.size (.tup [xs[i], ys[i], zs[i]])) h'' s.heap.objs.size (.tup [xs[i], ys[i], zs[i]]) := ⟨by show 3 ≤ sizeLine; decide, [x1, x2, x3], .cons ru1 (.cons ru2 (.cons ru3 .nil)), ⟨_, hT2, rfl, _, rfl⟩⟩
    have I1 : Inv X pins σ (upd H s.heap.objs.size (.tup [xs[i], ys[i], zs[i]])) { s with heap := h'', toks := tk } :=
      I.turnedNew (ch := [N + 5, N + 3, N + 4, N, N + 1, N + 2]) (fun d o hb q => (sb.2 d (fun q' => hb (by simp [q']))).trans (hk d o (fun q' => hb (by simp [q'])) (fun q' => hb (by simp [q'])) (fun q' => hb (by simp [q'])) (fun q' => hb (by simp [q'])) (fun q' => hb (by simp [q'])) q)) hf (Nat.le_refl _) new
    refine ⟨.ref s.heap.objs.size, _, I1, rfl, ⟨_, _, _, _, rfl, I.hok.fresh (Nat.le_refl _), rfl, fun l hl => by rw [I.tuple_inj hl hqx]; exact List.getElem?_eq_getElem lx, fun l hl => by rw [I.tuple_inj hl hqy]; exact List.getElem?_eq_getElem ly, fun l hl => by rw [I.tuple_inj hl hqz]; exact List.getElem?_eq_getElem lz⟩, ⟨z'', ?_, ⟨x1, x2, x3, ?_⟩, ?_, ?_, ?_⟩, fun d hcm => ?_⟩
    · exact (sb.2 _ S3.TIz).trans (hk _ _ S3.TIz S3.TITO S3.TIi1 S3.TIi2 S3.TIi3 hTI)
    · exact (sb.2 _ S3.TOz).trans TO'
    · exact s1.1.at fun o q => (sb.2 _ S3.zi1.symm).trans q
    · exact s2.1.at fun o q => (sb.2 _ S3.zi2.symm).trans q
    · exact s3.1.at fun o q => (sb.2 _ S3.zi3.symm).trans q
    · have hlt : d < s.heap.objs.size := by
        refine Nat.lt_of_le_of_lt ?_ hzl
        rcases (show d = N + 5 ∨ d = N + 3 ∨ d = N + 4 ∨ d = N ∨ d = N + 1 ∨ d = N + 2 by simpa using hcm) with q | q | q | q | q | q <;> (rw [q]; first | exact Nat.le_refl _ | exact Nat.le_add_right _ _ | exact Nat.add_le_add_left (by decide) _)
      rw [upd_ne (Nat.ne_of_lt hlt)]
      exact (hf d hcm).1
  done := by
    intro X hP hw hK hc i pins s σ H E I hf st hg
    subst hP hw hK
    obtain ⟨hz, hTI, ⟨x0, y0, z0, hTO⟩, h1, h2, h3⟩ := st
    obtain ⟨xs, ys, zs, hqx, hqy, hqz, lx, ly, lz, hend⟩ := hg
    obtain ⟨ia, ra, pa, _⟩ := I.tuple hqx
    obtain ⟨ib, rb, pb, _⟩ := I.tuple hqy
    obtain ⟨ic, rc, pc, _⟩ := I.tuple hqz
    have S3 : ZipSep3 (N + 5) (N + 3) (N + 4) N (N + 1) (N + 2) [N, a] [N + 1, b] [N + 2, c] :=
      zip_sep3 (fun d hd => by rw [List.mem_singleton.mp hd]; exact la) (fun d hd => by rw [List.mem_singleton.mp hd]; exact lb) (fun d hd => by rw [List.mem_singleton.mp hd]; exact lc)
    have ha0 := I.ok.hd hc
    have z1 : xs.length = ia.toArray.size := by
      have := ra.length
      rw [List.size_toArray]
      omega
    have z2 : ys.length = ib.toArray.size := by
      have := rb.length
      rw [List.size_toArray]
      omega
    have z3 : zs.length = ic.toArray.size := by
      have := rc.length
      rw [List.size_toArray]
      omega
    exact wpAny_pyNext_zipD3_end (i := i) S3 (Draws.tuple (prog := X.prog) (w := X.w) (A := X.A.in1) ha0 N a (Nat.ne_of_lt la) ia.toArray) (Draws.tuple (prog := X.prog) (w := X.w) (A := X.A.in1) ha0 (N + 1) b (Nat.ne_of_lt (Nat.lt_succ_of_lt lb)) ib.toArray)
      (Draws.tuple (prog := X.prog) (w := X.w) (A := X.A.in1) ha0 (N + 2) c (Nat.ne_of_lt (Nat.lt_succ_of_lt (Nat.lt_succ_of_lt lc))) ic.toArray) hz hTI hTO ⟨h1, pa⟩ ⟨h2, pb⟩ ⟨h3, pc⟩ (Nat.le_trans lx (Nat.le_of_eq z1)) (Nat.le_trans ly (Nat.le_of_eq z2)) (Nat.le_trans lz (Nat.le_of_eq z3)) (hend.imp (fun z => z.trans z1) (Or.imp (fun z => z.trans z2) fun z => z.trans z3)) fun h' tk hk => ⟨rfl, I.turnedL (t' := tk) (ch := [N + 5, N + 3, N + 4, N, N + 1, N + 2]) (fun d o hb q =>
      hk d o (fun q' => hb (by simp [q'])) (fun q' => hb (by simp [q'])) (fun q' => hb (by simp [q'])) (fun q' => hb (by simp [q'])) (fun q' => hb (by simp [q'])) q) hf⟩
  self := fun A i s Q E st h => wpAny_pyIter_zip st.1 h
def iZ3 (K : PySem.W.Frag) (ta : TA) : TI := fun σ H R => ta σ H fun vs H1 => ∃ a b c xs ys zs, vs = [.ref a, .ref b, .ref c] ∧ SqT K H1 a xs ∧ SqT K H1 b ys ∧ SqT K H1 c zs ∧ R (ItZ3 K a b c) H1
theorem pi_zip3 {X : Cx} {e e2 e3 : Expr} {ta : TA} {p pos tpos : Pos} {elts : List Expr} {kk : Nat} (hg : Gl X "zip") (hm : X.mg "zip" = none) (ha : PA X [e, e2, e3] ta)
    (hs : starEach [e, e2, e3] X.env = (false, eval e X.env) :: starEach [e2, e3] X.env := by rfl) (hpl : (backTo pos (starEach [e2, e3] X.env)).any (·.1) = false := by rfl) :
    PI X (.Tuple elts kk tpos) (.Call (.Name "zip" p) [e, e2, e3] [] pos) (iZ3 X.K ta) := by
  refine ⟨fun pins s σ H R I hR => ?_⟩
  refine Call_ (ld_blt I hg hm PyProof.Rows.boot_zip (PyProof.Rows.callWith_type1 (thn (ha.run pos pins s σ H _ I hR) fun us s1 ⟨vs, H1, I1, r1, q1⟩ => ?_) hs hpl))
  obtain ⟨a, b, c, xs, ys, zs, ex, hqx, hqy, hqz, q⟩ := q1
  subst ex
  cases r1 with
  | cons r1 rr =>
    cases rr with
    | cons r2 rr =>
      cases rr with
      | cons r3 rr =>
        cases rr
        cases r1
        cases r2
        cases r3
        obtain ⟨ia, ra, pa, _⟩ := I1.tuple hqx
        obtain ⟨ib, rb, pb, _⟩ := I1.tuple hqy
        obtain ⟨ic, rc, pc, _⟩ := I1.tuple hqz
        have la : a < s1.heap.objs.size := let ⟨_, e, _⟩ := id pa; Heap.lt_size e
        have lb : b < s1.heap.objs.size := let ⟨_, e, _⟩ := id pb; Heap.lt_size e
        have lc : c < s1.heap.objs.size := let ⟨_, e, _⟩ := id pc; Heap.lt_size e
        refine zip_begins3 (begins_tuple a ia.toArray) (begins_tuple b ib.toArray) (begins_tuple c ic.toArray) (show s1.heap.IsTuple a ia.toArray from pa) (show s1.heap.IsTuple b ib.toArray from pb) (show s1.heap.IsTuple c ic.toArray from pc) fun h' hz hTI hTO h1 h2 h3 hsz hk => wpAny_pyIter_zip hz ?_
        have I2 : Inv X pins σ H1 { s1 with heap := h' } := I1.kept (t' := s1.toks) hk
        refine ⟨s1.heap.objs.size + 5, [s1.heap.objs.size + 5, s1.heap.objs.size + 3, s1.heap.objs.size + 4, s1.heap.objs.size, s1.heap.objs.size + 1, s1.heap.objs.size + 2], _, _, H1, rfl, I2, turn_z3 (N := s1.heap.objs.size) la lb lc, ⟨hz, hTI, ⟨_, _, _, hTO⟩, ⟨_, h1, rfl, rfl⟩, ⟨_, h2, rfl, rfl⟩, ⟨_, h3, rfl, rfl⟩⟩, fun d hd => ?_, q⟩
        have hle : s1.heap.objs.size ≤ d := by
          rcases (show d = s1.heap.objs.size + 5 ∨ d = s1.heap.objs.size + 3 ∨ d = s1.heap.objs.size + 4 ∨ d = s1.heap.objs.size ∨ d = s1.heap.objs.size + 1 ∨ d = s1.heap.objs.size + 2 by simpa using hd) with q | q | q | q | q | q <;> (rw [q]; first | exact Nat.le_refl _ | exact Nat.le_add_right _ _)
        exact I1.fpOk hle (I1.hok.fresh hle)
end SH
end
section
namespace SH
open PySem PySem.Spec PyProof.Rows L2
section
variable {P : Program} {w : World} {G : Gl5} {mg : Str → Option Value} {base : Heap}

def isIV : V → Bool
  | .int _ => true
  | _ => false
def btw (lo hi : Int) : V → Bool
  | .int i => decide (lo ≤ i) && decide (i ≤ hi)
  | _ => false
theorem btw_in {lo hi i : Int} (h1 : lo ≤ i) (h2 : i ≤ hi) : btw lo hi (.int i) = true := by simp [btw, h1, h2]
def IorS (v : V) : Prop := (∃ i, v = .int i) ∨ ∃ z, v = .str z
theorem v_call {sp : Sp} {E : XK} {ar : TA} {σ : L2.St} {H : Hp} {vs : List V} {v : V} (h : ValA ar σ H vs) (q : ∀ Q : VK, Q v H → sp vs H Q E) : Val (tCall sp [] E ar) σ H v := fun Q k => c_call h (q Q k)
def sp_is_integer : Sp := fun vs H Q _ => ∃ v, vs = [v] ∧ IorS v ∧ Q (.bl (isIV v)) H
def sp_is_between : Sp := fun vs H Q _ => ∃ v lo hi, vs = [v, .int lo, .int hi] ∧ IorS v ∧ Q (.bl (btw lo hi v)) H
def sp_check_number : Sp := fun vs H Q _ => ∃ i lo hi, vs = [.int i, .int lo, .int hi] ∧ lo ≤ i ∧ i ≤ hi ∧ Q .non H
theorem kb_ii : kitB "int" "int" = some true := by decide +kernel
theorem kb_ib : kitB "int" "bool" = some false := by decide +kernel
theorem kb_si : kitB "str" "int" = some false := by decide +kernel
theorem kb_ss : kitB "str" "str" = some true := by decide +kernel
theorem kb_is : kitB "int" "str" = some false := by decide +kernel
theorem kb_tt : kitB "tuple" "tuple" = some true := by decide +kernel
abbrev N_is_integer : List Str := ["value"]
theorem sc_is_integer : FnScope N_is_integer ["value"] (defScope s_is_integer) := C8.fnScope_by (by decide +kernel)
theorem ok_is_integer (T : Txt G mg) {f : Addr} {fd : FuncData} (F : FnP G.K "is_integer" "is_integer" s_is_integer f fd) (hm : mg "is_integer" = some (.ref f)) : C8.Cal P w G.K mg base 1 "is_integer" (sp_is_integer) [] := by
  refine cal_mk F hm (F.bindsN fun _ _ _ _ _ _ us hl => match us, hl with | [_], _ => rfl) sc_is_integer (fun vs H Q E h => ?_) (fun cdv A outer s H vs Q E hr h => ?_)
  · obtain ⟨v, rfl, hv, q⟩ := h
    rfl
  · obtain ⟨v, rfl, hv, q⟩ := h
    refine ⟨_, (pss_one (ps_ret ((pe_and (pe_callB (r := rIsi G.K) call_isi (by rfl) T.z_isinstance (by decide +kernel) (pa_cons (pv 0) (pa_cons (pe_bltn (v := .ty "int") (by rfl) T.z_int (by decide +kernel) rfl) pa_nil))) (pe_one (pe_not (pe_callB (r := rIsi G.K) call_isi (by rfl) T.z_isinstance (by decide +kernel) (pa_cons (pv 0) (pa_cons (pe_bltn (v := .ty "bool") (by rfl) T.z_bool (by decide +kernel) rfl) pa_nil))))))))), ?_⟩
    rcases hv with ⟨i, rfl⟩ | ⟨z, rfl⟩
    · exact x_ret (v_andV (c := true) (v_isi (v_var rfl) v_c (.ty "int") (.base (.int i)) (kit_ty kb_ii)) fun _ => v_notV (v_isi (v_var rfl) v_c (.ty "bool") (.base (.int i)) (kit_ty kb_ib))) q
    · exact x_ret (v_andV (c := false) (v_isi (v_var rfl) v_c (.ty "int") (.base (.str z)) (kit_ty kb_si)) fun z => by cases z) q
abbrev N_is_between : List Str := ["value", "low", "high"]
theorem sc_is_between : FnScope N_is_between ["value", "low", "high"] (defScope s_is_between) := C8.fnScope_by (by decide +kernel)
theorem ok_is_between (T : Txt G mg) {f : Addr} {fd : FuncData} (F : FnP G.K "is_between" "is_between" s_is_between f fd) (hm : mg "is_between" = some (.ref f)) (c_is_integer : C8.Cal P w G.K mg base 1 "is_integer" (sp_is_integer) []) : C8.Cal P w G.K mg base 2 "is_between" (sp_is_between) [] := by
  refine cal_mk F hm (F.bindsN fun _ _ _ _ _ _ us hl => match us, hl with | [_, _, _], _ => rfl) sc_is_between (fun vs H Q E h => ?_) (fun cdv A outer s H vs Q E hr h => ?_)
  · obtain ⟨v, lo, hi, rfl, hv, q⟩ := h
    rfl
  · obtain ⟨v, lo, hi, rfl, hv, q⟩ := h
    refine ⟨_, (pss_one (ps_ret ((pe_and (C8.pe_c c_is_integer hr (by decide) (by rfl) (pa_cons (pv 0) pa_nil)) (pe_one (pe_chain op_le op_le (pv 1) (pv 0) (pv 2))))))), ?_⟩
    refine x_ret (v := .bl (btw lo hi v)) ?_ q
    have h1 : ∀ (σ : L2.St), σ[0]? = some (some v) → Val (tCall sp_is_integer [] (C8.E0) (tCons (tVar 0) tNil)) σ H (.bl (isIV v)) := fun σ hs => v_call (va_cons (v_var hs) va_nil) fun Q k => ⟨v, rfl, hv, k⟩
    rcases hv with ⟨i, rfl⟩ | ⟨z, rfl⟩
    · exact v_is (v_andV (h1 _ rfl) fun _ => v_chain (v_var rfl) (v_var rfl) (v_var rfl)) rfl
    · exact v_is (v_andV (c := false) (h1 _ rfl) fun z => by cases z) rfl
abbrev N_check_number : List Str := ["value", "low", "high"]
theorem sc_check_number : FnScope N_check_number ["value", "low", "high"] (defScope s_check_number) := C8.fnScope_by (by decide +kernel)
theorem ok_check_number (T : Txt G mg) {f : Addr} {fd : FuncData} (F : FnP G.K "check_number" "check_number" s_check_number f fd) (hm : mg "check_number" = some (.ref f)) (c_is_between : C8.Cal P w G.K mg base 2 "is_between" (sp_is_between) []) : C8.Cal P w G.K mg base 3 "check_number" (sp_check_number) [] := by
  refine cal_mk F hm (F.bindsN fun _ _ _ _ _ _ us hl => match us, hl with | [_, _, _], _ => rfl) sc_check_number (fun vs H Q E h => ?_) (fun cdv A outer s H vs Q E hr h => ?_)
  · obtain ⟨v, lo, hi, rfl, h1, h2, q⟩ := h
    rfl
  · obtain ⟨v, lo, hi, rfl, h1, h2, q⟩ := h
    refine ⟨_, (pss_one (ps_if (pt_not (pt_val (C8.pe_c c_is_between hr (by decide) (by rfl) (pa_cons (pv 0) (pa_cons (pv 1) (pa_cons (pv 2) pa_nil)))))) (pss_one ps_never) pss_nil)), ?_⟩
    refine x_if (b := false) (a_is (a_not (a_B (v_call (v := .bl true) (va_cons (v_var rfl) (va_cons (v_var rfl) (va_cons (v_var rfl) va_nil))) fun Q k => ⟨.int v, lo, hi, rfl, .inl ⟨v, rfl⟩, ?_⟩))) rfl) (fun z => by cases z) fun _ => q
    rw [btw_in h1 h2]
    exact k

/-- what holds of a setting, of a line -/
def SetAt (G : Gl5) (H : Hp) (a : Addr) (z : Str) (ev de : Int) : Prop := ∃ (dx : Addr) (fs : List (Str × V)) (tp : Addr), H a = some (.ins G.S dx fs) ∧ lk fs "rule" = some (.str z) ∧ lk fs "every" = some (.int ev) ∧ lk fs "delay" = some (.int de) ∧ lk fs "told" = some (.ref tp)
theorem SetAt.same {G : Gl5} {H H' : Hp} {a : Addr} {z : Str} {ev de : Int} (h : SetAt G H a z ev de) (s : ∀ C dx fs, H a = some (.ins C dx fs) → H' a = some (.ins C dx fs)) : SetAt G H' a z ev de := by
  obtain ⟨dx, fs, tp, h1, h2⟩ := h
  exact ⟨dx, fs, tp, s _ _ _ h1, h2⟩
def ruleIn (z : Str) : Bool := inV (.str z) [.str "plain", .str "hold", .str "few"]
def lnOf (sz wy : Int) (z : Bool → Str) (ev de : Bool → Int) : Ln := ⟨sz, wy, fun i => ⟨decide (z i = ("hold" : Str)), decide (z i = ("plain" : Str)), ev i, de i⟩⟩
def LineIs (G : Gl5) (H : Hp) (ln : Addr) (L : Ln) : Prop := ∃ se, LineAt G H ln se L
def sp_Setting (G : Gl5) : Sp := fun vs H Q _ => ∃ x z ev de dx, vs = [.ref x, .str z, .int ev, .int de] ∧ H x = some (.ins G.S dx []) ∧ ruleIn z = true ∧ 1 ≤ ev ∧ ev ≤ 4 ∧ 0 ≤ de ∧ de ≤ 200 ∧ ∀ H', But x H H' → SetAt G H' x z ev de → Q .non H'
def sp_check_setting (G : Gl5) : Sp := fun vs H Q _ => ∃ x dx fs, vs = [.ref x] ∧ H x = some (.ins G.S dx fs) ∧ Q .non H
def sp_Line (G : Gl5) : Sp := fun vs H Q _ => ∃ x sz wy se z ev de dx, vs = [.ref x, .int sz, .int wy, .ref (se false), .ref (se true)] ∧ H x = some (.ins G.L dx []) ∧ 1 ≤ sz ∧ sz ≤ 40 ∧ 1 ≤ wy ∧ wy ≤ 200 ∧ (∀ i, SetAt G H (se i) (z i) (ev i) (de i)) ∧
  ∀ H', But x H H' → LineAt G H' x se (lnOf sz wy z ev de) → Q .non H'
def sp_check_line (G : Gl5) : Sp := fun vs H Q _ => ∃ x dx fs, vs = [.ref x] ∧ H x = some (.ins G.L dx fs) ∧ Q .non H
theorem y_call {sp : Sp} {E : XK} {D : Ends} {ar : TA} {t2 : TS} {σ : L2.St} {H : Hp} {vs : List V} (h : ValA ar σ H vs) (q : sp vs H (fun _ H1 => t2 D σ H1) E) : tSeq (tDrop (tCall sp [] E ar)) t2 D σ H := c_call (Q := fun _ H1 => t2 D σ H1) h q
theorem x_callD {sp : Sp} {E : XK} {D : Ends} {ar : TA} {σ : L2.St} {H : Hp} {vs : List V} (h : ValA ar σ H vs) (q : sp vs H (fun _ H1 => D.nx σ H1) E) : tDrop (tCall sp [] E ar) D σ H := c_call (Q := fun _ H1 => D.nx σ H1) h q
theorem y_setE {te : TE} {D : Ends} {i : Nat} {t2 : TS} {σ : L2.St} {H : Hp} (h : te σ H fun x H1 => t2 D (σ.set i (some x)) H1) : tSeq (tAsg te (gName i)) t2 D σ H := h
theorem x_fldT {K : PySem.W.Frag} {ta : TE} {ar : TA} {D : Ends} {σ : L2.St} {H : Hp} {a C dx : Addr} {fs : List (Str × V)} {f : Str} {vs : List V} (h : ValA ar σ H vs) (hv : vs.length ≤ sizeLine) (ho : ∀ H, Val ta σ H (.ref a)) (hp : H a = some (.ins C dx fs)) (hc : Cls K C) (hn : NoAttr K C f) (hl : fs.length < 1000)
    (q : ∀ p, H p = none → D.nx σ (upd (upd H p (.tup vs)) a (.ins C dx (putF f (.ref p) fs)))) : sFld K ta (tTup ar) f D σ H :=
  h _ ⟨hv, fun p hn' => ho _ _ ⟨_, _, _, _, rfl, (upd_ne (ne_of_none hp hn')).trans hp, hc, hn, hl, q p hn'⟩⟩
theorem But.own {H H' : Hp} {x p : Addr} {o : HO} (k : But x H H') (h : H p = none) : But x H (L2.upd H' p o) := fun b u e n => by
  rw [upd_ne (ne_of_none e h)]
  exact k b u e n
theorem But.at {H H' : Hp} {x : Addr} {o : HO} (k : But x H H') : But x H (L2.upd H' x o) := fun b u e n => by
  rw [upd_ne n]
  exact k b u e n
theorem But.of {H H' : Hp} {x : Addr} (s : Same H H') : But x H H' := fun b u e _ => s b u e
theorem pl0 : ([] : List (Str × V)).length < 1 := by decide
theorem pl {f : Str} {v : V} : ∀ {fs : List (Str × V)} {n : Nat}, fs.length < n → (putF f v fs).length < n + 1
  | [], n, h => Nat.succ_lt_succ h
  | (g, y) :: r, n, h => by
    unfold putF
    split
    · exact Nat.lt_succ_of_lt h
    · cases n with
      | zero => exact absurd h (Nat.not_lt_zero _)
      | succ n => exact Nat.succ_lt_succ (pl (Nat.lt_of_succ_lt_succ h))
theorem But.refl {H : Hp} {x : Addr} : But x H H := fun _ _ e _ => e
theorem But.trans {H H1 H2 : Hp} {x : Addr} (a : But x H H1) (b : But x H1 H2) : But x H H2 := fun c o e n => b c o (a c o e n) n
abbrev N_Setting_init : List Str := ["self", "rule", "every", "delay"]
theorem sc_Setting_init : FnScope N_Setting_init ["self", "rule", "every", "delay"] (defScope s_Setting_init) := C8.fnScope_by (by decide +kernel)
theorem ok_Setting_init (T : Txt G mg) {f : Addr} {fd : FuncData} (F : FnP G.K "__init__" "Setting.__init__" s_Setting_init f fd) (M : Mk G.K G.S f) (c_check_number : C8.Cal P w G.K mg base 3 "check_number" (sp_check_number) []) : C8.Mak P w G.K mg base 4 "Setting" G.S (sp_Setting G) [] := by
  refine mak_mk M T.gS F (F.bindsN fun _ _ _ _ _ _ us hl => match us, hl with | [_, _, _, _], _ => rfl) sc_Setting_init (fun vs H Q E h => ?_) (fun cdv A outer s H vs Q E hr h => ?_)
  · obtain ⟨x, z, ev, de, dx, rfl, hx, hz, h1, h2, h3, h4, q⟩ := h
    rfl
  · obtain ⟨x, z, ev, de, dx, rfl, hx, hz, h1, h2, h3, h4, q⟩ := h
    obtain ⟨ra, hRU, hRs⟩ := T.t_RULES
    refine ⟨_, (pss_cons (ps_if (PW.pt (pw_or (pt_not (pt_val (pe_callB (r := rIsi G.K) call_isi (by rfl) T.z_isinstance (by decide +kernel) (pa_cons (pv 1) (pa_cons (pe_bltn (v := .ty "str") (by rfl) T.z_str (by decide +kernel) rfl) pa_nil))))) (pw_or1 (pt_cmpR (r := rIn G.K true) op_notIn_seq (pv 1) (pe_glob (v := .ref ra) (by rfl) hRU rfl) (by rfl))))) (pss_one ps_never) pss_nil)
    (pss_cons (ps_expr (C8.pe_c c_check_number hr (by decide) (by rfl) (pa_cons (pv 2) (pa_cons pe_int (pa_cons (C8.pe_gc (by rfl) T.i_MOST_EVERY) pa_nil)))))
    (pss_cons (ps_expr (C8.pe_c c_check_number hr (by decide) (by rfl) (pa_cons (pv 3) (pa_cons pe_int (pa_cons (C8.pe_gc (by rfl) T.i_MOST_DELAY) pa_nil)))))
    (pss_cons (ps_fld (pv 0) (pv 1) rfl)
    (pss_cons (ps_fld (pv 0) (pv 2) rfl)
    (pss_cons (ps_fld (pv 0) (pv 3) rfl)
    (pss_one (ps_fld (pv 0) (pe_tup (pa_cons (pv 1) (pa_cons (pv 2) (pa_cons (pv 3) pa_nil)))) rfl)))))))), ?_⟩
    have hs : ∀ H, Val (tVar 0) (start N_Setting_init [V.ref x, V.str z, V.int ev, V.int de]) H (.ref x) := fun _ => val_var rfl
    refine y_skip (a_is (a_or (b := false) (c := false) (a_is (a_not (a_B (v_isi (v_var rfl) v_c (.ty "str") (.base (.str z)) (kit_ty kb_ss)))) rfl) fun _ => a_is (a_T (v_notIn (v_var rfl) v_c (hRs H) rfl rfl)) (show (!ruleIn z) = false by rw [hz]; rfl)) rfl) ?_
    refine y_call (va_cons (v_var rfl) (va_cons v_c (va_cons v_c va_nil))) ⟨ev, 1, 4, rfl, h1, h2, ?_⟩
    refine y_call (va_cons (v_var rfl) (va_cons v_c (va_cons v_c va_nil))) ⟨de, 0, 200, rfl, h3, h4, ?_⟩
    refine y_fld (v_var rfl) (hs _) hx T.cS T.S_rule (by decide) ?_
    refine y_fld (v_var rfl) (hs _) upd_same T.cS T.S_every (Nat.lt_of_lt_of_le (pl pl0) (by decide)) ?_
    refine y_fld (v_var rfl) (hs _) upd_same T.cS T.S_delay (Nat.lt_of_lt_of_le (pl (pl pl0)) (by decide)) ?_
    refine x_fldT (va_cons (v_var rfl) (va_cons (v_var rfl) (va_cons (v_var rfl) va_nil))) (by show 3 ≤ sizeLine; decide) hs upd_same T.cS T.S_told (Nat.lt_of_lt_of_le (pl (pl (pl pl0))) (by decide)) fun p hp => ?_
    exact q _ (But.at (But.own (But.at (But.at (But.at But.refl))) (by
      have n : p ≠ x := fun e => by rw [e, upd_same] at hp; cases hp
      rwa [upd_ne n, upd_ne n, upd_ne n] at hp))) ⟨dx, _, p, upd_same, rfl, rfl, rfl, rfl⟩
abbrev N_check_setting : List Str := ["value"]
theorem sc_check_setting : FnScope N_check_setting ["value"] (defScope s_check_setting) := C8.fnScope_by (by decide +kernel)
theorem ok_check_setting (T : Txt G mg) {f : Addr} {fd : FuncData} (F : FnP G.K "check_setting" "check_setting" s_check_setting f fd) (hm : mg "check_setting" = some (.ref f)) : C8.Cal P w G.K mg base 1 "check_setting" (sp_check_setting G) [] := by
  refine cal_mk F hm (F.bindsN fun _ _ _ _ _ _ us hl => match us, hl with | [_], _ => rfl) sc_check_setting (fun vs H Q E h => ?_) (fun cdv A outer s H vs Q E hr h => ?_)
  · obtain ⟨x, dx, fs, rfl, hx, q⟩ := h
    rfl
  · obtain ⟨x, dx, fs, rfl, hx, q⟩ := h
    refine ⟨_, (pss_one (ps_if (pt_not (pt_val (pe_callB (r := rIsi G.K) call_isi (by rfl) T.z_isinstance (by decide +kernel) (pa_cons (pv 0) (pa_cons (pe_glob (v := .ref G.S) (by rfl) T.gS rfl) pa_nil))))) (pss_one ps_never) pss_nil)), ?_⟩
    exact x_if (b := false) (a_is (a_not (a_B (v_isi (v_var rfl) v_c (.own G.S) (.base (.ins hx T.cS T.insS.ha T.insS.hn T.insS.htk T.insS.hm)) T.insS.me))) rfl) (fun z => by cases z) fun _ => q
abbrev N_check_line : List Str := ["value"]
theorem sc_check_line : FnScope N_check_line ["value"] (defScope s_check_line) := C8.fnScope_by (by decide +kernel)
theorem ok_check_line (T : Txt G mg) {f : Addr} {fd : FuncData} (F : FnP G.K "check_line" "check_line" s_check_line f fd) (hm : mg "check_line" = some (.ref f)) : C8.Cal P w G.K mg base 1 "check_line" (sp_check_line G) [] := by
  refine cal_mk F hm (F.bindsN fun _ _ _ _ _ _ us hl => match us, hl with | [_], _ => rfl) sc_check_line (fun vs H Q E h => ?_) (fun cdv A outer s H vs Q E hr h => ?_)
  · obtain ⟨x, dx, fs, rfl, hx, q⟩ := h
    rfl
  · obtain ⟨x, dx, fs, rfl, hx, q⟩ := h
    refine ⟨_, (pss_one (ps_if (pt_not (pt_val (pe_callB (r := rIsi G.K) call_isi (by rfl) T.z_isinstance (by decide +kernel) (pa_cons (pv 0) (pa_cons (pe_glob (v := .ref G.L) (by rfl) T.gL rfl) pa_nil))))) (pss_one ps_never) pss_nil)), ?_⟩
    exact x_if (b := false) (a_is (a_not (a_B (v_isi (v_var rfl) v_c (.own G.L) (.base (.ins hx T.cL T.insL.ha T.insL.hn T.insL.htk T.insL.hm)) T.insL.me))) rfl) (fun z => by cases z) fun _ => q
abbrev N_Line_init : List Str := ["self", "size", "way", "near", "far"]
theorem sc_Line_init : FnScope N_Line_init ["self", "size", "way", "near", "far"] (defScope s_Line_init) := C8.fnScope_by (by decide +kernel)
theorem ok_Line_init (T : Txt G mg) {f : Addr} {fd : FuncData} (F : FnP G.K "__init__" "Line.__init__" s_Line_init f fd) (M : Mk G.K G.L f) (c_check_number : C8.Cal P w G.K mg base 3 "check_number" (sp_check_number) []) (c_check_setting : C8.Cal P w G.K mg base 1 "check_setting" (sp_check_setting G) []) : C8.Mak P w G.K mg base 5 "Line" G.L (sp_Line G) [] := by
  refine mak_mk M T.gL F (F.bindsN fun _ _ _ _ _ _ us hl => match us, hl with | [_, _, _, _, _], _ => rfl) sc_Line_init (fun vs H Q E h => ?_) (fun cdv A outer s H vs Q E hr h => ?_)
  · obtain ⟨x, sz, wy, se, z, ev, de, dx, rfl, hx, h1, h2, h3, h4, hse, q⟩ := h
    rfl
  · obtain ⟨x, sz, wy, se, z, ev, de, dx, rfl, hx, h1, h2, h3, h4, hse, q⟩ := h
    refine ⟨_, (pss_cons (ps_expr (C8.pe_c c_check_number hr (by decide) (by rfl) (pa_cons (pv 1) (pa_cons pe_int (pa_cons (C8.pe_gc (by rfl) T.i_MOST_SIZE) pa_nil)))))
    (pss_cons (ps_expr (C8.pe_c c_check_number hr (by decide) (by rfl) (pa_cons (pv 2) (pa_cons pe_int (pa_cons (C8.pe_gc (by rfl) T.i_MOST_WAY) pa_nil)))))
    (pss_cons (ps_expr (C8.pe_c c_check_setting hr (by decide) (by rfl) (pa_cons (pv 3) pa_nil)))
    (pss_cons (ps_expr (C8.pe_c c_check_setting hr (by decide) (by rfl) (pa_cons (pv 4) pa_nil)))
    (pss_cons (ps_fld (pv 0) (pv 1) rfl)
    (pss_cons (ps_fld (pv 0) (pv 2) rfl)
    (pss_cons (ps_fld (pv 0) (pv 3) rfl)
    (pss_cons (ps_fld (pv 0) (pv 4) rfl)
    (pss_one (ps_fld (pv 0) (pe_tup (pa_cons (pv 1) (pa_cons (pv 2) (pa_cons (pe_fld (pv 3) rfl) (pa_cons (pe_fld (pv 4) rfl) pa_nil))))) rfl)))))))))), ?_⟩
    have hs : ∀ H, Val (tVar 0) (start N_Line_init [V.ref x, V.int sz, V.int wy, V.ref (se false), V.ref (se true)]) H (.ref x) := fun _ => val_var rfl
    obtain ⟨dx1, fs1, tp1, a1, b1, c1, d1, e1⟩ := hse false
    obtain ⟨dx2, fs2, tp2, a2, b2, c2, d2, e2⟩ := hse true
    have ne : ∀ (b dxx : Addr) (ff : List (Str × V)) (v : V), H b = some (.ins G.S dxx ff) → lk ff "rule" = some v → b ≠ x := fun b dxx ff v a1 b1 e => by
      rw [e, hx] at a1
      injection a1 with a1
      injection a1 with _ _ a1
      rw [← a1] at b1
      cases b1
    have n1 : se false ≠ x := ne _ _ _ _ a1 b1
    have n2 : se true ≠ x := ne _ _ _ _ a2 b2
    refine y_call (va_cons (v_var rfl) (va_cons v_c (va_cons v_c va_nil))) ⟨sz, 1, 40, rfl, h1, h2, ?_⟩
    refine y_call (va_cons (v_var rfl) (va_cons v_c (va_cons v_c va_nil))) ⟨wy, 1, 200, rfl, h3, h4, ?_⟩
    refine y_call (va_cons (v_var rfl) va_nil) ⟨se false, _, _, rfl, a1, ?_⟩
    refine y_call (va_cons (v_var rfl) va_nil) ⟨se true, _, _, rfl, a2, ?_⟩
    refine y_fld (v_var rfl) (hs _) hx T.cL T.L_size (by decide) ?_
    refine y_fld (v_var rfl) (hs _) upd_same T.cL T.L_way (Nat.lt_of_lt_of_le (pl pl0) (by decide)) ?_
    refine y_fld (v_var rfl) (hs _) upd_same T.cL T.L_near (Nat.lt_of_lt_of_le (pl (pl pl0)) (by decide)) ?_
    refine y_fld (v_var rfl) (hs _) upd_same T.cL T.L_far (Nat.lt_of_lt_of_le (pl (pl (pl pl0))) (by decide)) ?_
    have up : ∀ (b : Addr) (o1 o2 o3 o4 : HO), b ≠ x → upd (upd (upd (upd H x o1) x o2) x o3) x o4 b = H b := fun b _ _ _ _ n => by rw [upd_ne n, upd_ne n, upd_ne n, upd_ne n]
    refine x_fldT (va_cons (v_var rfl) (va_cons (v_var rfl) (va_cons (v_fl (v_var rfl) ((up _ _ _ _ _ n1).trans a1) T.cS T.S_told e1) (va_cons (v_fl (v_var rfl) ((up _ _ _ _ _ n2).trans a2) T.cS T.S_told e2) va_nil)))) (by show 4 ≤ sizeLine; decide) hs upd_same T.cL T.L_told (Nat.lt_of_lt_of_le (pl (pl (pl (pl pl0)))) (by decide)) fun p hp => ?_
    have n : p ≠ x := fun e => by rw [e, upd_same] at hp; cases hp
    rw [up _ _ _ _ _ n] at hp
    have m1 : se false ≠ p := ne_of_none a1 hp
    have m2 : se true ≠ p := ne_of_none a2 hp
    refine q _ (But.at (But.own (But.at (But.at (But.at (But.at But.refl)))) hp)) ⟨⟨dx, _, upd_same, rfl, rfl, rfl, rfl⟩, fun i => ?_⟩
    cases i with
    | false => exact ⟨dx1, fs1, z false, by rw [upd_ne n1, upd_ne m1, up _ _ _ _ _ n1]; exact a1, b1, rfl, rfl, c1, d1⟩
    | true => exact ⟨dx2, fs2, z true, by rw [upd_ne n2, upd_ne m2, up _ _ _ _ _ n2]; exact a2, b2, rfl, rfl, c2, d2⟩

end
end SH
end
section
namespace SH
open PySem PySem.Spec PyProof.Rows L2
section
variable {P : Program} {w : World} {G : Gl5} {mg : Str → Option Value} {base : Heap}

inductive Stp where
  | w (a : Option Int)
  | r (a : Option Int)
  | p (lo hi : Int)
def amV : Option Int → V
  | none => .str "x"
  | some i => .int i
def AmOk (a : Option Int) : Prop := ∀ i, a = some i → 1 ≤ i ∧ i ≤ 60
def stpV : Stp → List V
  | .w a => [.str "write", amV a]
  | .r a => [.str "read", amV a]
  | .p lo hi => [.str "pause", .int lo, .int hi]
def wdOf : Stp → Str
  | .w _ => "write"
  | .r _ => "read"
  | .p _ _ => "pause"
def StpOk : Stp → Prop
  | .w a => AmOk a
  | .r a => AmOk a
  | .p lo hi => 0 ≤ lo ∧ lo ≤ hi ∧ hi ≤ 60
abbrev Plan := List Stp
def TT2 (H : Hp) (a : Addr) (xs : List (List V)) : Prop := ∃ rs : List Addr, H a = some (.tup (rs.map V.ref)) ∧ TP H rs xs
theorem TT2.ext {H H' : Hp} {a : Addr} {xs : List (List V)} (h : TT2 H a xs) (k : ∀ b ys, H b = some (.tup ys) → H' b = some (.tup ys)) : TT2 H' a xs := by
  obtain ⟨rs, h1, h2⟩ := h
  exact ⟨rs, k _ _ h1, h2.mono k⟩
def PlanAt (H : Hp) (p : Addr) (A : Plan) : Prop := TT2 H p (A.map stpV)
structure PlanOk (A : Plan) : Prop where
  len : A.length ≤ 6
  each : ∀ s ∈ A, StpOk s
theorem t_orF {t1 t2 : L2.TT} {σ : L2.St} {H : Hp} {Q : Bool → Hp → Prop} (h1 : Ans t1 σ H false) (h2 : t2 σ H Q) : tOr t1 t2 σ H Q := h1 _ (iteF h2)
theorem t_orE {t1 t2 : L2.TT} {σ : L2.St} {H : Hp} {Q : Bool → Hp → Prop} (h : t1 σ H fun b H1 => if b = true then Q true H1 else t2 σ H1 Q) : tOr t1 t2 σ H Q := h
theorem t_notInT {K : PySem.W.Frag} {ta : TE} {ar : TA} {σ : L2.St} {H : Hp} {x : V} {xs : List V} {Q : Bool → Hp → Prop} (ha : Val ta σ H x) (hb : ValA ar σ H xs) (hl : xs.length ≤ sizeLine) (f1 : flatV x = true) (f2 : xs.all flatV = true)
    (q : ∀ p, H p = none → Q (!inV x xs) (upd H p (.tup xs))) : tTest (tOp (rIn K true) ta (tTup ar)) σ H Q := ha _ (hb _ ⟨hl, fun p hp => ⟨_, _, rfl, .inr (SqT.of upd_same), f1, f2, _, rfl, q p hp⟩⟩)
theorem t_andInT {K : PySem.W.Frag} {ta tb : TE} {ar : TA} {σ : L2.St} {H : Hp} {x : V} {xs : List V} {Q : VK} (ha : Val ta σ H x) (hb : ValA ar σ H xs) (hl : xs.length ≤ sizeLine) (f1 : flatV x = true) (f2 : xs.all flatV = true) (hi : inV x xs = true)
    (q : ∀ p, H p = none → tb σ (upd H p (.tup xs)) Q) : tAndV (tOp (rIn K false) ta (tTup ar)) tb σ H Q := ha _ (hb _ ⟨hl, fun p hp => ⟨_, _, rfl, .inr (SqT.of upd_same), f1, f2, _, rfl, by rw [hi]; exact iteT (q p hp)⟩⟩)
theorem y_whenE {tt : L2.TT} {t1 t2 : TS} {D : Ends} {σ : L2.St} {H : Hp} (h : tt σ H fun b H1 => if b = true then t1 { D with nx := t2 D } σ H1 else t2 D σ H1) : tSeq (tIfS tt t1 tNext) t2 D σ H := h
def sp_is_amount : Sp := fun vs H Q _ => ∃ a, vs = [amV a] ∧ AmOk a ∧ Q (.bl true) H
def sp_is_step : Sp := fun vs H Q _ => ∃ p s, vs = [.ref p] ∧ H p = some (.tup (stpV s)) ∧ StpOk s ∧ ∀ H', Same H H' → Q (.bl true) H'
def sp_check_program : Sp := fun vs H Q _ => ∃ p A, vs = [.ref p] ∧ PlanAt H p A ∧ PlanOk A ∧ ∀ H', Same H H' → Q .non H'
def sp_is_size : Sp := fun vs H Q _ => ∃ x, vs = [.int x] ∧ 1 ≤ x ∧ x ≤ 60 ∧ Q (.bl true) H
def sp_check_size : Sp := fun vs H Q _ => ∃ x, vs = [.int x] ∧ 1 ≤ x ∧ x ≤ 60 ∧ Q .non H
def sp_check_limit : Sp := fun vs H Q _ => ∃ x, vs = [.int x] ∧ 0 ≤ x ∧ x ≤ 1000000 ∧ Q .non H
def sp_check_run (G : Gl5) : Sp := fun vs H Q _ => ∃ ln L p q A B, vs = [.ref ln, .ref p, .ref q] ∧ LineIs G H ln L ∧ PlanAt H p A ∧ PlanOk A ∧ PlanAt H q B ∧ PlanOk B ∧ ∀ H', Same H H' → Q .non H'
def okE (b : Int) : Option Int → Bool
  | none => false
  | some e => decide (e ≤ b)
def sp_is_within : Sp := fun vs H Q _ => ∃ p a b l, vs = [.ref p, .int l] ∧ H p = some (.tup [ov a, ov b]) ∧ ∀ H', Same H H' → Q (.bl (okE l a && okE l b)) H'
abbrev N_is_amount : List Str := ["value"]
theorem sc_is_amount : FnScope N_is_amount ["value"] (defScope s_is_amount) := C8.fnScope_by (by decide +kernel)
theorem ok_is_amount (T : Txt G mg) {f : Addr} {fd : FuncData} (F : FnP G.K "is_amount" "is_amount" s_is_amount f fd) (hm : mg "is_amount" = some (.ref f)) (c_is_between : C8.Cal P w G.K mg base 2 "is_between" (sp_is_between) []) : C8.Cal P w G.K mg base 3 "is_amount" (sp_is_amount) [] := by
  refine cal_mk F hm (F.bindsN fun _ _ _ _ _ _ us hl => match us, hl with | [_], _ => rfl) sc_is_amount (fun vs H Q E h => ?_) (fun cdv A outer s H vs Q E hr h => ?_)
  · obtain ⟨a, rfl, ha, q⟩ := h
    rfl
  · obtain ⟨a, rfl, ha, q⟩ := h
    refine ⟨_, (pss_one (ps_ret ((pe_or (C8.pe_c c_is_between hr (by decide) (by rfl) (pa_cons (pv 0) (pa_cons pe_int (pa_cons (C8.pe_gc (by rfl) T.i_MOST_BYTES) pa_nil)))) (pe_one ((pe_and (pe_callB (r := rIsi G.K) call_isi (by rfl) T.z_isinstance (by decide +kernel) (pa_cons (pv 0) (pa_cons (pe_bltn (v := .ty "str") (by rfl) T.z_str (by decide +kernel) rfl) pa_nil))) (pe_one (pe_cmpR op_eq (pv 0) (C8.pe_gc (by rfl) T.s_LETTER) (nomark _)))))))))), ?_⟩
    refine x_ret (v := .bl true) ?_ q
    cases a with
    | some i =>
      obtain ⟨h1, h2⟩ := ha i rfl
      exact v_is (v_orV (b := true) (c := true) (v_call (va_cons (v_var rfl) (va_cons v_c (va_cons v_c va_nil))) fun Q k => ⟨.int i, 1, 60, rfl, .inl ⟨i, rfl⟩, by rw [btw_in h1 h2]; exact k⟩) fun z => by cases z) rfl
    | none =>
      exact v_is (v_orV (b := false) (c := true) (v_call (va_cons (v_var rfl) (va_cons v_c (va_cons v_c va_nil))) fun Q k => ⟨.str "x", 1, 60, rfl, .inr ⟨_, rfl⟩, k⟩) fun _ =>
        v_andV (b := true) (c := true) (v_isi (v_var rfl) v_c (.ty "str") (.base (.str "x")) (kit_ty kb_ss)) fun _ => v_is (v_eq (v_var rfl) v_c rfl) rfl) rfl
abbrev N_is_step : List Str := ["value"]
theorem sc_is_step : FnScope N_is_step ["value"] (defScope s_is_step) := C8.fnScope_by (by decide +kernel)
theorem ok_is_step (T : Txt G mg) {f : Addr} {fd : FuncData} (F : FnP G.K "is_step" "is_step" s_is_step f fd) (hm : mg "is_step" = some (.ref f)) (c_is_between : C8.Cal P w G.K mg base 2 "is_between" (sp_is_between) []) (c_is_amount : C8.Cal P w G.K mg base 3 "is_amount" (sp_is_amount) []) : C8.Cal P w G.K mg base 4 "is_step" (sp_is_step) [] := by
  refine cal_mk F hm (F.bindsN fun _ _ _ _ _ _ us hl => match us, hl with | [_], _ => rfl) sc_is_step (fun vs H Q E h => ?_) (fun cdv A outer s H vs Q E hr h => ?_)
  · obtain ⟨p, s, rfl, hp, ok, q⟩ := h
    rfl
  · obtain ⟨p, s, rfl, hp, ok, q⟩ := h
    refine ⟨_, (pss_cons (ps_if (PW.pt (pw_or (pt_not (pt_val (pe_callB (r := rIsi G.K) call_isi (by rfl) T.z_isinstance (by decide +kernel) (pa_cons (pv 0) (pa_cons (pe_bltn (v := .ty "tuple") (by rfl) T.z_tuple (by decide +kernel) rfl) pa_nil))))) (pw_or (pt_cmpR (r := rIn G.K true) op_notIn_seq (pe_callB (r := rLenK G.K) call_lenK (by rfl) T.z_len (by decide +kernel) (pa_cons (pv 0) pa_nil)) (pe_tup (pa_cons pe_int (pa_cons pe_int pa_nil))) (by rfl)) (pw_or1 (pt_not (pt_val (pe_callB (r := rIsi G.K) call_isi (by rfl) T.z_isinstance (by decide +kernel) (pa_cons (pe_ix ix_tup (pv 0) pe_int (fun _ _ => rfl)) (pa_cons (pe_bltn (v := .ty "str") (by rfl) T.z_str (by decide +kernel) rfl) pa_nil))))))))) (pss_one (ps_ret pe_bl)) pss_nil)
    (pss_cons (ps_if (PW.pt (pw_and (pt_cmpR op_eq (pe_ix ix_tup (pv 0) pe_int (fun _ _ => rfl)) pe_str (nomark _)) (pw_and1 (pt_cmpR op_eq (pe_callB (r := rLenK G.K) call_lenK (by rfl) T.z_len (by decide +kernel) (pa_cons (pv 0) pa_nil)) pe_int (nomark _))))) (pss_one (ps_ret ((pe_and (C8.pe_c c_is_between hr (by decide) (by rfl) (pa_cons (pe_ix ix_tup (pv 0) pe_int (fun _ _ => rfl)) (pa_cons pe_int (pa_cons (C8.pe_gc (by rfl) T.i_MOST_DELAY) pa_nil)))) (pe_one (C8.pe_c c_is_between hr (by decide) (by rfl) (pa_cons (pe_ix ix_tup (pv 0) pe_int (fun _ _ => rfl)) (pa_cons (pe_ix ix_tup (pv 0) pe_int (fun _ _ => rfl)) (pa_cons (C8.pe_gc (by rfl) T.i_MOST_DELAY) pa_nil))))))))) pss_nil)
    (pss_one (ps_ret ((pe_and (pe_cmpR (r := rIn G.K false) op_in_seq (pe_ix ix_tup (pv 0) pe_int (fun _ _ => rfl)) (pe_tup (pa_cons pe_str (pa_cons pe_str pa_nil))) (by rfl)) (pe_and (pe_cmpR op_eq (pe_callB (r := rLenK G.K) call_lenK (by rfl) T.z_len (by decide +kernel) (pa_cons (pv 0) pa_nil)) pe_int (nomark _)) (pe_one (C8.pe_c c_is_amount hr (by decide) (by rfl) (pa_cons (pe_ix ix_tup (pv 0) pe_int (fun _ _ => rfl)) pa_nil)))))))))), ?_⟩
    have hat : ∀ {H1 : Hp} {k : Int} {v : V}, Same H H1 → atI (stpV s) k = some v → Val (tOp (rIxT G.K) (tVar 0) (tC (.int k))) (start N_is_step [V.ref p]) H1 v := fun e a => v_sqT (v_var rfl) v_c (SqT.of (e _ _ hp)) a
    have hlen : ∀ {H1 : Hp}, Same H H1 → Val (tCB (rLenK G.K) (tCons (tVar 0) tNil)) (start N_is_step [V.ref p]) H1 (.int ((stpV s).length : Int)) := fun e => v_lenT (v_var rfl) (SqT.of (e _ _ hp))
    have e0 : Same H H := fun _ _ e => e
    have h0 : atI (stpV s) 0 = some (.str (wdOf s)) := by cases s <;> rfl
    have hin : inV (.int ((stpV s).length : Int)) [.int 2, .int 3] = true := by cases s <;> rfl
    refine y_whenE (t_orF (a_is (a_not (a_B (v_isi (v_var rfl) v_c (.ty "tuple") (.base (.tup hp)) (kit_ty kb_tt)))) rfl) (t_orE (t_notInT (hlen e0) (va_cons v_c (va_cons v_c va_nil)) (by show 2 ≤ sizeLine; decide) rfl rfl ?_)))
    intro a ha
    rw [hin]
    have e1 : Same H (upd H a (.tup [.int 2, .int 3])) := Same.new ha
    refine iteF ?_
    refine a_is (a_not (a_B (v_isi (hat e1 h0) v_c (.ty "str") (.base (.str _)) (kit_ty kb_ss)))) rfl _ (iteF ?_)
    cases s with
    | p lo hi =>
      obtain ⟨h1, h2, h3⟩ := ok
      refine y_if (b := true) (a_is (a_and (b := true) (c := true) (a_T (v_is (v_eq (hat e1 rfl) v_c rfl) rfl)) fun _ => a_T (v_is (v_eq (hlen e1) v_c rfl) rfl)) rfl) (fun _ => ?_) fun z => by cases z
      refine x_ret (v := .bl true) ?_ (q _ e1)
      have j1 : lo ≤ 200 := by omega
      have j2 : hi ≤ 200 := by omega
      exact v_is (v_andV (b := true) (c := true) (v_call (va_cons (hat e1 rfl) (va_cons v_c (va_cons v_c va_nil))) fun Q k => ⟨.int lo, 0, 200, rfl, .inl ⟨_, rfl⟩, by rw [btw_in h1 j1]; exact k⟩) fun _ =>
        v_call (va_cons (hat e1 rfl) (va_cons (hat e1 rfl) (va_cons v_c va_nil))) fun Q k => ⟨.int hi, lo, 200, rfl, .inl ⟨_, rfl⟩, by rw [btw_in h2 j2]; exact k⟩) rfl
    | w am =>
      refine y_skip (a_is (a_and (b := false) (c := false) (a_T (v_is (v_eq (hat e1 rfl) v_c rfl) rfl)) fun z => by cases z) rfl) ?_
      refine x_retE (t_andInT (hat e1 rfl) (va_cons v_c (va_cons v_c va_nil)) (by show 2 ≤ sizeLine; decide) rfl rfl rfl fun b hb => ?_)
      have e2 := Same.then (o := .tup [.str "write", .str "read"]) e1 hb
      exact v_andV (b := true) (c := true) (v_is (v_eq (hlen e2) v_c rfl) rfl) (fun _ => v_call (va_cons (hat e2 rfl) va_nil) fun Q k => ⟨am, rfl, ok, k⟩) _ (q _ e2)
    | r am =>
      refine y_skip (a_is (a_and (b := false) (c := false) (a_T (v_is (v_eq (hat e1 rfl) v_c rfl) rfl)) fun z => by cases z) rfl) ?_
      refine x_retE (t_andInT (hat e1 rfl) (va_cons v_c (va_cons v_c va_nil)) (by show 2 ≤ sizeLine; decide) rfl rfl rfl fun b hb => ?_)
      have e2 := Same.then (o := .tup [.str "write", .str "read"]) e1 hb
      exact v_andV (b := true) (c := true) (v_is (v_eq (hlen e2) v_c rfl) rfl) (fun _ => v_call (va_cons (hat e2 rfl) va_nil) fun Q k => ⟨am, rfl, ok, k⟩) _ (q _ e2)

end
end SH
end
section
namespace SH
open PySem PySem.Spec PyProof.Rows L2
section
variable {P : Program} {w : World} {G : Gl5} {mg : Str → Option Value} {base : Heap}

theorem walk_enT {K : PySem.W.Frag} {a : Addr} {xs : List V} : Walk (ItE K a) xs.length (fun H => SqT K H a xs) (YPair (fun i => some (.int (i : Nat))) (fun i => xs[i]?)) := by
  refine ⟨fun i _ hi q => ⟨xs, xs[i], q, by simp [hi]⟩, fun _ q => ⟨xs, q, rfl⟩, fun i H v H' _ q y => ?_⟩
  obtain ⟨T, x, h1, h2, h3, h4⟩ := y
  exact ⟨T, .int (i : Nat), x, h1, h2, h3, rfl, h4 xs q⟩
theorem walk_zT {K : PySem.W.Frag} {a b : Addr} {xs ys : List V} (hn : xs.length = ys.length) : Walk (RZ.ItzT K a b) xs.length (fun H => SqT K H a xs ∧ SqT K H b ys) (YPair (fun i => xs[i]?) (fun i => ys[i]?)) := by
  refine ⟨fun i _ hi q => ?_, fun _ q => ⟨xs, ys, q.1, q.2, .inl (Nat.le_refl _)⟩, fun i H v H' _ q y => ?_⟩
  · have h2 : i < ys.length := by omega
    exact ⟨xs, ys, xs[i], ys[i], q.1, q.2, by simp [hi], by simp [h2]⟩
  · obtain ⟨T, x, z, h1, h2, h3, h4, h5⟩ := y
    exact ⟨T, x, z, h1, h2, h3, h4 xs q.1, h5 ys q.2⟩
section
variable {K : PySem.W.Frag} {σ : L2.St} {H : Hp} {D : Ends} {ar : TA} {t1 t2 : TS} {xs ys zs : List V} {a b c : Addr} {n1 n2 n3 : Nat}
theorem g_two {p : Addr} {x y : V} {Q : L2.St → Hp → Prop} (hp : SqT K H p [x, y]) (q : Q ((σ.set n1 (some x)).set n2 (some y)) H) : gTup K 2 (gCons (gName n1) (gCons (gName n2) gNil)) (.ref p) σ H Q :=
  ⟨_, _, rfl, hp, rfl, _, _, rfl, _, _, rfl, rfl, q⟩
theorem g_three {p : Addr} {x y z : V} {Q : L2.St → Hp → Prop} (hp : SqT K H p [x, y, z]) (q : Q (((σ.set n1 (some x)).set n2 (some y)).set n3 (some z)) H) : gTup K 3 (gCons (gName n1) (gCons (gName n2) (gCons (gName n3) gNil))) (.ref p) σ H Q :=
  ⟨_, _, rfl, hp, rfl, _, _, rfl, _, _, rfl, _, _, rfl, rfl, q⟩
theorem x_forE (h : ValA ar σ H [.ref a]) (hs : SqT K H a xs) (Pv : Nat → L2.St → Hp → Prop) (h0 : Pv 0 σ H) (hq : ∀ i σ' H', Pv i σ' H' → SqT K H' a xs)
    (ht : ∀ i x σ' H' T, xs[i]? = some x → Pv i σ' H' → H' T = none → t1 { D with nx := Pv (i + 1), ct := Pv (i + 1), bk := D.nx } ((σ'.set n1 (some (.int (i : Nat)))).set n2 (some x)) (upd H' T (.tup [.int (i : Nat), x])))
    (hd : ∀ σ' H', Pv xs.length σ' H' → D.nx σ' H') : tFor (iEnT K ar) (gTup K 2 (gCons (gName n1) (gCons (gName n2) gNil))) t1 D σ H :=
  h _ ⟨a, xs, rfl, hs, for_it walk_enT Pv h0 (fun i σ H _ p => hq i σ H p) (fun i x σ' H' H2 _ p y => by
    obtain ⟨T, u, v, rfl, hT, rfl, eu, ev⟩ := y
    cases eu
    exact g_two (SqT.of upd_same) (ht i v σ' H' T ev p hT)) hd⟩
theorem x_forZ (hn : xs.length = ys.length) (h : ValA ar σ H [.ref a, .ref b]) (hs : SqT K H a xs) (hs2 : SqT K H b ys) (Pv : Nat → L2.St → Hp → Prop) (h0 : Pv 0 σ H) (hq : ∀ i σ' H', Pv i σ' H' → SqT K H' a xs ∧ SqT K H' b ys)
    (ht : ∀ i x y σ' H' T, xs[i]? = some x → ys[i]? = some y → Pv i σ' H' → H' T = none → t1 { D with nx := Pv (i + 1), ct := Pv (i + 1), bk := D.nx } ((σ'.set n1 (some x)).set n2 (some y)) (upd H' T (.tup [x, y])))
    (hd : ∀ σ' H', Pv xs.length σ' H' → D.nx σ' H') : tFor (RZ.iZipA K ar) (gTup K 2 (gCons (gName n1) (gCons (gName n2) gNil))) t1 D σ H :=
  h _ ⟨a, b, xs, ys, rfl, .inr ⟨hs, hs2, for_it (walk_zT hn) Pv h0 (fun i σ H _ p => hq i σ H p) (fun i x σ' H' H2 _ p y => by
    obtain ⟨T, u, v, rfl, hT, rfl, eu, ev⟩ := y
    exact g_two (SqT.of upd_same) (ht i u v σ' H' T eu ev p hT)) hd⟩⟩
theorem x_forZ3 (hn : xs.length = ys.length) (hm : xs.length = zs.length) (h : ValA ar σ H [.ref a, .ref b, .ref c]) (hs : SqT K H a xs) (hs2 : SqT K H b ys) (hs3 : SqT K H c zs) (Pv : Nat → L2.St → Hp → Prop) (h0 : Pv 0 σ H) (hq : ∀ i σ' H', Pv i σ' H' → SqT K H' a xs ∧ SqT K H' b ys ∧ SqT K H' c zs)
    (ht : ∀ i x y z σ' H' T, xs[i]? = some x → ys[i]? = some y → zs[i]? = some z → Pv i σ' H' → H' T = none → t1 { D with nx := Pv (i + 1), ct := Pv (i + 1), bk := D.nx } (((σ'.set n1 (some x)).set n2 (some y)).set n3 (some z)) (upd H' T (.tup [x, y, z])))
    (hd : ∀ σ' H', Pv xs.length σ' H' → D.nx σ' H') : tFor (iZ3 K ar) (gTup K 3 (gCons (gName n1) (gCons (gName n2) (gCons (gName n3) gNil)))) t1 D σ H := by
  refine h _ ⟨a, b, c, xs, ys, zs, rfl, hs, hs2, hs3, fun i m σ H => m = xs.length - i ∧ i ≤ xs.length ∧ Pv i σ H, ⟨xs.length, rfl, Nat.zero_le _, h0⟩, ?_⟩
  rintro i m σ' H' ⟨rfl, hi, p⟩
  obtain ⟨q1, q2, q3⟩ := hq i σ' H' p
  by_cases hlt : i < xs.length
  · refine .inr ⟨⟨xs, ys, zs, q1, q2, q3, hlt, by omega, by omega⟩, Pv (i + 1), fun s2 H2 p' => ⟨xs.length - (i + 1), by omega, rfl, hlt, p'⟩, fun v H2 y => ?_⟩
    obtain ⟨T, u1, u2, u3, rfl, hT, rfl, e1, e2, e3⟩ := y
    exact g_three (SqT.of upd_same) (ht i u1 u2 u3 σ' H' T (e1 _ q1) (e2 _ q2) (e3 _ q3) p hT)
  · have e : i = xs.length := by omega
    subst e
    exact .inl ⟨⟨xs, ys, zs, q1, q2, q3, Nat.le_refl _, by omega, by omega, .inl rfl⟩, hd σ' H' p⟩
/-- all([.. for x, y in zip(..)]) and the like: the comprehension over two tuples -/
theorem x_lcZ {te : TE} {tt : L2.TT} {vs : List Nat} {Q : VK} (hn : xs.length = ys.length) (h : ValA ar σ H [.ref a, .ref b]) (hs : SqT K H a xs) (hs2 : SqT K H b ys) (Pv : Addr → Nat → Hp → Prop) (h0 : ∀ d, H d = none → Pv d 0 (upd H d (.lst []))) (hq : ∀ d i H', Pv d i H' → SqT K H' a xs ∧ SqT K H' b ys)
    (ht : ∀ d i x y H' T, xs[i]? = some x → ys[i]? = some y → Pv d i H' → H' T = none → wipe (((wipe σ vs).set n1 (some x)).set n2 (some y)) vs = wipe σ vs ∧ tt (((wipe σ vs).set n1 (some x)).set n2 (some y)) (upd H' T (.tup [x, y])) fun b H3 =>
      if b = true then te (((wipe σ vs).set n1 (some x)).set n2 (some y)) H3 fun y H4 => ∃ acc, H4 d = some (.lst acc) ∧ acc.length < sizeLine ∧ Pv d (i + 1) (upd H4 d (.lst (acc ++ [y]))) else Pv d (i + 1) H3)
    (hd : ∀ d H', Pv d xs.length H' → Q (.ref d) H') : tLc (RZ.iZipA K ar) (gTup K 2 (gCons (gName n1) (gCons (gName n2) gNil))) tt te vs σ H Q :=
  h _ ⟨a, b, xs, ys, rfl, .inr ⟨hs, hs2, fun d hdn => lc_it (walk_zT hn) (Pv d) (h0 d hdn) (fun i H _ p => hq d i H p) (fun i x H' H2 _ p y => by
    obtain ⟨T, u, v, rfl, hT, rfl, eu, ev⟩ := y
    exact g_two (SqT.of upd_same) (ht d i u v H' T eu ev p hT)) (hd d)⟩⟩
end
theorem Same.refl (H : Hp) : Same H H := fun _ _ e => e
theorem TP.same {H H' : Hp} {rs : List Addr} {xs : List (List V)} (h : TP H rs xs) (e : Same H H') : TP H' rs xs := h.mono fun a x q => e _ _ q
abbrev N_check_program : List Str := ["value", "index", "step"]
theorem sc_check_program : FnScope N_check_program ["value"] (defScope s_check_program) := C8.fnScope_by (by decide +kernel)
theorem ok_check_program (T : Txt G mg) {f : Addr} {fd : FuncData} (F : FnP G.K "check_program" "check_program" s_check_program f fd) (hm : mg "check_program" = some (.ref f)) (c_is_step : C8.Cal P w G.K mg base 4 "is_step" (sp_is_step) []) : C8.Cal P w G.K mg base 5 "check_program" (sp_check_program) [] := by
  refine cal_mk F hm (F.bindsN fun _ _ _ _ _ _ us hl => match us, hl with | [_], _ => rfl) sc_check_program (fun vs H Q E h => ?_) (fun cdv A outer s H vs Q E hr h => ?_)
  · obtain ⟨p, A, rfl, ⟨rs, hp, hr2⟩, ok, q⟩ := h
    rfl
  · obtain ⟨p, A, rfl, ⟨rs, hp, hr2⟩, ok, q⟩ := h
    refine ⟨_, (pss_cons (ps_if (PW.pt (pw_or (pt_not (pt_val (pe_callB (r := rIsi G.K) call_isi (by rfl) T.z_isinstance (by decide +kernel) (pa_cons (pv 0) (pa_cons (pe_bltn (v := .ty "tuple") (by rfl) T.z_tuple (by decide +kernel) rfl) pa_nil))))) (pw_or1 (pt_cmpR op_gt (pe_callB (r := rLenK G.K) call_lenK (by rfl) T.z_len (by decide +kernel) (pa_cons (pv 0) pa_nil)) (C8.pe_gc (by rfl) T.i_MOST_STEPS) (nomark _))))) (pss_one ps_never) pss_nil)
    (pss_one (ps_for PassesOwn.never rfl (pi_enumT (by rfl) T.z_enumerate (pa_cons (pv 0) pa_nil)) (pg_tup rfl (pgs_cons (pg_name (i := 1) sc_check_program.nd rfl (Or.inl rfl)) (pgs_cons (pg_name (i := 2) sc_check_program.nd rfl (Or.inl rfl)) pgs_nil))) (pss_one (ps_if (pt_not (pt_val (C8.pe_c c_is_step hr (by decide) (by rfl) (pa_cons (pv 2) pa_nil)))) (pss_one ps_never) pss_nil))))), ?_⟩
    have hlen : rs.length = A.length := by rw [hr2.len, List.length_map]
    refine y_skip (a_is (a_or (b := false) (c := false) (a_is (a_not (a_B (v_isi (v_var rfl) v_c (.ty "tuple") (.base (.tup hp)) (kit_ty kb_tt)))) rfl) fun _ => a_T (v_is (v_gt (v_lenT (v_var rfl) (SqT.of hp)) v_c) ?_)) rfl) ?_
    · rw [List.length_map, hlen]
      exact congrArg V.bl (decide_eq_false (by have := ok.len; omega))
    · refine x_forE (xs := rs.map V.ref) (va_cons (v_var rfl) va_nil) (SqT.of hp) (fun i σ' H' => (∃ a b, σ' = [some (.ref p), a, b]) ∧ Same H H') ⟨⟨_, _, rfl⟩, Same.refl H⟩ (fun i σ' H' z => SqT.of (z.2 _ _ hp)) ?_ (fun σ' H' z => q _ z.2)
      rintro i x σ' H' T1 hx ⟨⟨a, b, rfl⟩, e1⟩ hT
      rw [List.getElem?_map] at hx
      obtain ⟨r, hr3, rfl⟩ := Option.map_eq_some_iff.mp hx
      obtain ⟨y, hy, hr4⟩ := TP.at2 hr2 hr3
      rw [List.getElem?_map] at hy
      obtain ⟨s1, hs1, rfl⟩ := Option.map_eq_some_iff.mp hy
      have e2 := Same.then (o := .tup [.int (i : Nat), .ref r]) e1 hT
      refine c_call (va_cons (v_var rfl) va_nil) ⟨r, s1, rfl, e2 _ _ hr4, ok.each _ (List.mem_of_getElem? hs1), fun H2 e3 => ⟨_, rfl, iteF ⟨⟨_, _, rfl⟩, e2.trans e3⟩⟩⟩
abbrev N_is_size : List Str := ["value"]
theorem sc_is_size : FnScope N_is_size ["value"] (defScope s_is_size) := C8.fnScope_by (by decide +kernel)
theorem ok_is_size (T : Txt G mg) {f : Addr} {fd : FuncData} (F : FnP G.K "is_size" "is_size" s_is_size f fd) (hm : mg "is_size" = some (.ref f)) (c_is_between : C8.Cal P w G.K mg base 2 "is_between" (sp_is_between) []) : C8.Cal P w G.K mg base 3 "is_size" (sp_is_size) [] := by
  refine cal_mk F hm (F.bindsN fun _ _ _ _ _ _ us hl => match us, hl with | [_], _ => rfl) sc_is_size (fun vs H Q E h => ?_) (fun cdv A outer s H vs Q E hr h => ?_)
  · obtain ⟨x, rfl, h1, h2, q⟩ := h
    rfl
  · obtain ⟨x, rfl, h1, h2, q⟩ := h
    refine ⟨_, (pss_one (ps_ret (C8.pe_c c_is_between hr (by decide) (by rfl) (pa_cons (pv 0) (pa_cons pe_int (pa_cons (C8.pe_gc (by rfl) T.i_MOST_X) pa_nil)))))), ?_⟩
    have h3 : x ≤ 2000 := by omega
    exact x_ret (v_call (va_cons (v_var rfl) (va_cons v_c (va_cons v_c va_nil))) fun Q k => ⟨.int x, 1, 2000, rfl, .inl ⟨x, rfl⟩, by rw [btw_in h1 h3]; exact k⟩) q
abbrev N_check_size : List Str := ["value"]
theorem sc_check_size : FnScope N_check_size ["value"] (defScope s_check_size) := C8.fnScope_by (by decide +kernel)
theorem ok_check_size (T : Txt G mg) {f : Addr} {fd : FuncData} (F : FnP G.K "check_size" "check_size" s_check_size f fd) (hm : mg "check_size" = some (.ref f)) (c_is_size : C8.Cal P w G.K mg base 3 "is_size" (sp_is_size) []) : C8.Cal P w G.K mg base 4 "check_size" (sp_check_size) [] := by
  refine cal_mk F hm (F.bindsN fun _ _ _ _ _ _ us hl => match us, hl with | [_], _ => rfl) sc_check_size (fun vs H Q E h => ?_) (fun cdv A outer s H vs Q E hr h => ?_)
  · obtain ⟨x, rfl, h1, h2, q⟩ := h
    rfl
  · obtain ⟨x, rfl, h1, h2, q⟩ := h
    refine ⟨_, (pss_one (ps_if (pt_not (pt_val (C8.pe_c c_is_size hr (by decide) (by rfl) (pa_cons (pv 0) pa_nil)))) (pss_one ps_never) pss_nil)), ?_⟩
    exact x_if (b := false) (a_is (a_not (a_B (v_call (v := .bl true) (va_cons (v_var rfl) va_nil) fun Q k => ⟨x, rfl, h1, h2, k⟩))) rfl) (fun z => by cases z) fun _ => q
abbrev N_check_limit : List Str := ["value"]
theorem sc_check_limit : FnScope N_check_limit ["value"] (defScope s_check_limit) := C8.fnScope_by (by decide +kernel)
theorem ok_check_limit (T : Txt G mg) {f : Addr} {fd : FuncData} (F : FnP G.K "check_limit" "check_limit" s_check_limit f fd) (hm : mg "check_limit" = some (.ref f)) (c_is_between : C8.Cal P w G.K mg base 2 "is_between" (sp_is_between) []) : C8.Cal P w G.K mg base 3 "check_limit" (sp_check_limit) [] := by
  refine cal_mk F hm (F.bindsN fun _ _ _ _ _ _ us hl => match us, hl with | [_], _ => rfl) sc_check_limit (fun vs H Q E h => ?_) (fun cdv A outer s H vs Q E hr h => ?_)
  · obtain ⟨x, rfl, h1, h2, q⟩ := h
    rfl
  · obtain ⟨x, rfl, h1, h2, q⟩ := h
    refine ⟨_, (pss_one (ps_if (pt_not (pt_val (C8.pe_c c_is_between hr (by decide) (by rfl) (pa_cons (pv 0) (pa_cons pe_int (pa_cons (C8.pe_gc (by rfl) T.i_MOST_LIMIT) pa_nil)))))) (pss_one ps_never) pss_nil)), ?_⟩
    exact x_if (b := false) (a_is (a_not (a_B (v_call (v := .bl true) (va_cons (v_var rfl) (va_cons v_c (va_cons v_c va_nil))) fun Q k => ⟨.int x, 0, 1000000, rfl, .inl ⟨x, rfl⟩, by rw [btw_in h1 h2]; exact k⟩))) rfl) (fun z => by cases z) fun _ => q
abbrev N_check_run : List Str := ["line", "one", "other"]
theorem sc_check_run : FnScope N_check_run ["line", "one", "other"] (defScope s_check_run) := C8.fnScope_by (by decide +kernel)
theorem ok_check_run (T : Txt G mg) {f : Addr} {fd : FuncData} (F : FnP G.K "check_run" "check_run" s_check_run f fd) (hm : mg "check_run" = some (.ref f)) (c_check_line : C8.Cal P w G.K mg base 1 "check_line" (sp_check_line G) []) (c_check_program : C8.Cal P w G.K mg base 5 "check_program" (sp_check_program) []) : C8.Cal P w G.K mg base 6 "check_run" (sp_check_run G) [] := by
  refine cal_mk F hm (F.bindsN fun _ _ _ _ _ _ us hl => match us, hl with | [_, _, _], _ => rfl) sc_check_run (fun vs H Q E h => ?_) (fun cdv A outer s H vs Q E hr h => ?_)
  · obtain ⟨ln, L, p, p2, A, B, rfl, ⟨se, hl⟩, hA, okA, hB, okB, q⟩ := h
    rfl
  · obtain ⟨ln, L, p, p2, A, B, rfl, ⟨se, hl⟩, hA, okA, hB, okB, q⟩ := h
    refine ⟨_, (pss_cons (ps_expr (C8.pe_c c_check_line hr (by decide) (by rfl) (pa_cons (pv 0) pa_nil)))
    (pss_cons (ps_expr (C8.pe_c c_check_program hr (by decide) (by rfl) (pa_cons (pv 1) pa_nil)))
    (pss_one (ps_expr (C8.pe_c c_check_program hr (by decide) (by rfl) (pa_cons (pv 2) pa_nil)))))), ?_⟩
    obtain ⟨dx, fs, hln, _⟩ := hl.line
    refine y_call (va_cons (v_var rfl) va_nil) ⟨ln, _, _, rfl, hln, ?_⟩
    refine y_call (va_cons (v_var rfl) va_nil) ⟨p, A, rfl, hA, okA, fun H1 e1 => ?_⟩
    refine x_callD (va_cons (v_var rfl) va_nil) ⟨p2, B, rfl, TT2.ext hB fun b ys z => e1 _ _ z, okB, fun H2 e2 => q _ (e1.trans e2)⟩

end
end SH
end
section
namespace SH
open PySem PySem.Spec PyProof.Rows L2
section
variable {K : PySem.W.Frag} {σ : L2.St} {H1 : Hp} {D a : Addr} {J : It} {ys : List V} {G : Hp → Prop} {g : TG} {tt : L2.TT} {te tl : TE} {vs : List Nat} {Qd : Hp → Prop} {Q : VK} {n : Nat}
/-- a comprehension whose turns leave the heap as it is -/
theorem lcp (w : Walk J ys.length G (YAt ys)) (hD : H1 D = none) (hG : ∀ H', Same H1 H' → G H') (ac : Nat → List V) (a0 : ac 0 = []) (al : ∀ i, i < ys.length → (ac i).length < sizeLine)
    (turn : ∀ i x H', ys[i]? = some x → Same H1 H' → g x (wipe σ vs) H' fun σ2 H2 => H2 = H' ∧ wipe σ2 vs = wipe σ vs ∧ ∃ b, Ans tt σ2 H' b ∧ (b = true → ∃ v, Val te σ2 H' v ∧ ac (i + 1) = ac i ++ [v]) ∧ (b = false → ac (i + 1) = ac i))
    (gm : ∀ x σ0 H0 (P1 P2 : L2.St → Hp → Prop), g x σ0 H0 P1 → (∀ s h, P1 s h → P2 s h) → g x σ0 H0 P2)
    (hd : ∀ H', H' D = some (.lst (ac ys.length)) → Same H1 H' → Qd H') :
    ∃ W : Nat → Nat → Hp → Prop, (∃ m, W 0 m (upd H1 D (.lst []))) ∧ ∀ i m H, W i m H →
      (J.stop i H ∧ Qd H) ∨ (J.go i H ∧ ∃ Nx : Hp → Prop, (∀ H', Nx H' → ∃ m', m' < m ∧ W (i + 1) m' H') ∧ ∀ x H', J.yld i H x H' → g x (wipe σ vs) H' fun σ2 H2 => wipe σ2 vs = wipe σ vs ∧ tt σ2 H2 fun b H3 =>
        if b = true then te σ2 H3 fun y H4 => ∃ acc, H4 D = some (.lst acc) ∧ acc.length < sizeLine ∧ Nx (upd H4 D (.lst (acc ++ [y]))) else Nx H3) := by
  refine lc_it w (fun i H => H D = some (.lst (ac i)) ∧ Same H1 H) ⟨by rw [upd_same, a0], Same.new hD⟩ (fun i H _ h => hG H h.2) ?_ (fun H h => hd H h.1 h.2)
  rintro i x H H' hi ⟨h1, h2⟩ ⟨rfl, hx⟩
  refine gm _ _ _ _ _ (turn i x H' hx h2) ?_
  rintro s h ⟨rfl, h3, b, h4, h5, h6⟩
  refine ⟨h3, h4 _ ?_⟩
  cases b with
  | true =>
    obtain ⟨v, h7, h8⟩ := h5 rfl
    exact iteT (h7 _ ⟨_, h1, al i hi, by rw [upd_same, h8], h2.own hD⟩)
  | false => exact iteF ⟨by rw [h6 rfl]; exact h1, h2⟩
theorem gName_mono {i : Nat} : ∀ x σ0 H0 (P1 P2 : L2.St → Hp → Prop), gName i x σ0 H0 P1 → (∀ s h, P1 s h → P2 s h) → gName i x σ0 H0 P2 := fun _ _ _ _ _ h k => k _ _ h
/-- .. over a tuple, over a list, one name -/
theorem x_lcPT (hs : ∀ H', Same H1 H' → SqT K H' a ys) (h : Val tl σ H1 (.ref a)) (ac : Nat → List V) (a0 : ac 0 = []) (al : ∀ i, i < ys.length → (ac i).length < sizeLine)
    (turn : ∀ i x H', ys[i]? = some x → Same H1 H' → wipe ((wipe σ vs).set n (some x)) vs = wipe σ vs ∧ ∃ b, Ans tt ((wipe σ vs).set n (some x)) H' b ∧ (b = true → ∃ v, Val te ((wipe σ vs).set n (some x)) H' v ∧ ac (i + 1) = ac i ++ [v]) ∧ (b = false → ac (i + 1) = ac i))
    (hd : ∀ D H', H1 D = none → H' D = some (.lst (ac ys.length)) → Same H1 H' → Q (.ref D) H') : tLc (iTup K tl) (gName n) tt te vs σ H1 Q :=
  h _ ⟨_, rfl, ⟨_, hs _ (Same.refl _)⟩, fun D hD => lcp walk_tup hD hs ac a0 al (fun i x H' hx e => ⟨rfl, turn i x H' hx e⟩) gName_mono (fun H' q1 q2 => hd D H' hD q1 q2)⟩
theorem x_lcPL (hs : ∀ H', Same H1 H' → SqL K H' a ys) (h : Val tl σ H1 (.ref a)) (ac : Nat → List V) (a0 : ac 0 = []) (al : ∀ i, i < ys.length → (ac i).length < sizeLine)
    (turn : ∀ i x H', ys[i]? = some x → Same H1 H' → wipe ((wipe σ vs).set n (some x)) vs = wipe σ vs ∧ ∃ b, Ans tt ((wipe σ vs).set n (some x)) H' b ∧ (b = true → ∃ v, Val te ((wipe σ vs).set n (some x)) H' v ∧ ac (i + 1) = ac i ++ [v]) ∧ (b = false → ac (i + 1) = ac i))
    (hd : ∀ D H', H1 D = none → H' D = some (.lst (ac ys.length)) → Same H1 H' → Q (.ref D) H') : tLc (iList K tl) (gName n) tt te vs σ H1 Q :=
  h _ ⟨_, rfl, ⟨_, hs _ (Same.refl _)⟩, fun D hD => lcp walk_list hD hs ac a0 al (fun i x H' hx e => ⟨rfl, turn i x H' hx e⟩) gName_mono (fun H' q1 q2 => hd D H' hD q1 q2)⟩
theorem x_cb {r : List V → Hp → VK → Prop} {H : Hp} (h : te σ H fun x H1 => r [x] H1 Q) : tCB r (tCons te tNil) σ H Q := h
theorem ans_yes {H : Hp} : Ans tYes σ H true := fun _ q => q
/-- the accumulator of a pass by values -/
theorem acV_succ {p : V → Bool} {f : V → V} {i : Nat} {x : V} (h : ys[i]? = some x) : ((ys.take (i + 1)).filter p).map f = ((ys.take i).filter p).map f ++ (if p x = true then [f x] else []) := by
  have t : ys.take (i + 1) = ys.take i ++ [x] := by rw [List.take_add_one, h]; rfl
  rw [t, List.filter_append, List.map_append, List.filter_cons]
  split <;> rfl
theorem acV_len {p : V → Bool} {f : V → V} {i m : Nat} (h : ys.length ≤ m) : (((ys.take i).filter p).map f).length ≤ m := by
  rw [List.length_map]
  have h1 := List.length_filter_le p (ys.take i)
  have h2 := List.length_take_le' i ys
  omega
/-- .. by tuples -/
theorem acT_succ {p : List V → Bool} {f : Addr → List V → V} {i : Nat} {b : Addr} {x : List V} {rs : List Addr} {xs : List (List V)} (hl : rs.length = xs.length) (h : rs[i]? = some b) (h2 : xs[i]? = some x) :
    fm p f (rs.take (i + 1)) (xs.take (i + 1)) = fm p f (rs.take i) (xs.take i) ++ (if p x = true then [f b x] else []) := by
  have t1 : rs.take (i + 1) = rs.take i ++ [b] := by rw [List.take_add_one, h]; rfl
  have t2 : xs.take (i + 1) = xs.take i ++ [x] := by rw [List.take_add_one, h2]; rfl
  rw [t1, t2]
  exact fm_snoc (by rw [List.length_take, List.length_take, hl])
theorem acT_len {p : List V → Bool} {f : Addr → List V → V} {i m : Nat} {rs : List Addr} {xs : List (List V)} (h : xs.length ≤ m) : (fm p f (rs.take i) (xs.take i)).length ≤ m := by
  have q1 := fm_len (p := p) (f := f) (as := rs.take i) (xs := xs.take i)
  have q2 : (xs.take i).length ≤ xs.length := List.length_take_le' _ _
  omega
theorem refs_at {rs : List Addr} {i : Nat} {x : V} (h : (rs.map V.ref)[i]? = some x) : ∃ b, rs[i]? = some b ∧ x = .ref b := by
  rw [List.getElem?_map] at h
  obtain ⟨b, h1, h2⟩ := Option.map_eq_some_iff.mp h
  exact ⟨b, h1, h2.symm⟩
end
end SH
end
section
namespace SH
open PySem PySem.Spec PyProof.Rows L2
section
variable {P : Program} {w : World} {G : Gl5} {mg : Str → Option Value} {base : Heap}

def pz : Stp → Option (Int × Int)
  | .p lo hi => some (lo, hi)
  | _ => none
def psV (q : Int × Int) : List V := [.str "pause", .int q.1, .int q.2]
def pauses (A B : Plan) : List (Int × Int) := (A ++ B).filterMap pz
def isPv (x : List V) : Bool := decide (x[0]? = some (V.str "pause"))
theorem filter_pz : ∀ A : Plan, (A.map stpV).filter isPv = (A.filterMap pz).map psV
  | [] => rfl
  | s :: A => by
    have ih := filter_pz A
    rw [List.map_cons, List.filter_cons]
    cases s with
    | w a => exact ih
    | r a => exact ih
    | p lo hi =>
      show stpV (.p lo hi) :: (A.map stpV).filter isPv = _
      rw [ih]
      rfl
theorem TP.app {H : Hp} : ∀ {rs rs2 : List Addr} {xs ys : List (List V)}, TP H rs xs → TP H rs2 ys → TP H (rs ++ rs2) (xs ++ ys)
  | [], _, [], _, _, h => h
  | _ :: _, _, _ :: _, _, h, k => ⟨h.1, TP.app h.2 k⟩
  | [], _, _ :: _, _, h, _ => h.elim
  | _ :: _, _, [], _, h, _ => h.elim
def Ch : List (Int × Int) → List Int → Prop
  | [], [] => True
  | q :: ps, t :: ts => q.1 ≤ t ∧ t ≤ q.2 ∧ Ch ps ts
  | _, _ => False
theorem Ch.len : ∀ {ps : List (Int × Int)} {ts : List Int}, Ch ps ts → ts.length = ps.length
  | [], [], _ => rfl
  | _ :: _, _ :: _, h => congrArg Nat.succ (Ch.len h.2.2)
  | [], _ :: _, h => h.elim
  | _ :: _, [], h => h.elim
theorem Ch.at : ∀ {ps : List (Int × Int)} {ts : List Int} {i : Nat} {t : Int}, Ch ps ts → ts[i]? = some t → ∃ q, ps[i]? = some q ∧ q.1 ≤ t ∧ t ≤ q.2
  | q :: _, _ :: _, 0, t, h, e => ⟨q, rfl, by simp at e; rw [← e]; exact ⟨h.1, h.2.1⟩⟩
  | _ :: _, _ :: _, i + 1, t, h, e => by
    obtain ⟨q, h1, h2⟩ := Ch.at (i := i) h.2.2 (by simpa using e)
    exact ⟨q, by simpa using h1, h2⟩
  | [], [], i, t, h, e => by simp at e
def amI (x : Int) : Option Int → Int
  | none => x
  | some i => i
def stepF (x : Int) (r : Prg × List Int) : Stp → Prg × List Int
  | .w a => (r.1 ++ [(.w, amI x a)], r.2)
  | .r a => (r.1 ++ [(.r, amI x a)], r.2)
  | .p _ _ => (r.1 ++ [(.p, r.2.headD 0)], r.2.tail)
def plainS (A : Plan) (x : Int) (ts : List Int) : Prg × List Int := A.foldl (stepF x) ([], ts)
theorem plainS_succ {A : Plan} {x : Int} {ts : List Int} {i : Nat} {s : Stp} (h : A[i]? = some s) : plainS (A.take (i + 1)) x ts = stepF x (plainS (A.take i) x ts) s := by
  unfold plainS
  rw [List.take_add_one, h, Option.toList_some, List.foldl_append]
  rfl
def cntC (ps : List (Int × Int)) : Int := ps.foldl (fun n q => n * (q.2 - q.1 + 1)) 1
def sp_pause_steps : Sp := fun vs H Q _ => ∃ p q A B, vs = [.ref p, .ref q] ∧ PlanAt H p A ∧ PlanOk A ∧ PlanAt H q B ∧ PlanOk B ∧ ∀ d H', Same H H' → H d = none → LT H' d ((pauses A B).map psV) → Q (.ref d) H'
def sp_shortest : Sp := fun vs H Q _ => ∃ p q A B, vs = [.ref p, .ref q] ∧ PlanAt H p A ∧ PlanOk A ∧ PlanAt H q B ∧ PlanOk B ∧ ∀ d H', Same H H' → H' d = some (.tup ((pauses A B).map fun q => .int q.1)) → Q (.ref d) H'
def sp_check_pauses : Sp := fun vs H Q _ => ∃ c p q A B ts, vs = [.ref c, .ref p, .ref q] ∧ PlanAt H p A ∧ PlanOk A ∧ PlanAt H q B ∧ PlanOk B ∧ H c = some (.tup (ts.map V.int)) ∧ Ch (pauses A B) ts ∧ ∀ H', Same H H' → Q .non H'
def sp_count_choices : Sp := fun vs H Q _ => ∃ p q A B, vs = [.ref p, .ref q] ∧ PlanAt H p A ∧ PlanOk A ∧ PlanAt H q B ∧ PlanOk B ∧ ∀ H', Same H H' → Q (.int (cntC (pauses A B))) H'
def sp_check_choices : Sp := fun vs H Q _ => ∃ p q A B, vs = [.ref p, .ref q] ∧ PlanAt H p A ∧ PlanOk A ∧ PlanAt H q B ∧ PlanOk B ∧ cntC (pauses A B) ≤ 400 ∧ ∀ H', Same H H' → Q .non H'
def sp_plain_steps (G : Gl5) : Sp := fun vs H Q _ => ∃ p c A x ts, vs = [.ref p, .int x, .ref c] ∧ PlanAt H p A ∧ PlanOk A ∧ (H c = some (.tup (ts.map V.int)) ∨ H c = some (.lst (ts.map V.int))) ∧ ts.length ≤ 100 ∧ (A.filterMap pz).length ≤ ts.length ∧
  ∀ d f l H', Same H H' → H' d = some (.tup [.ref f, .ref l]) → LT H' f ((plainS A x ts).1.map stepV) → H f = none → H' l = some (.lst ((plainS A x ts).2.map V.int)) → Q (.ref d) H'
theorem PlanAt.same {H H' : Hp} {p : Addr} {A : Plan} (h : PlanAt H p A) (e : Same H H') : PlanAt H' p A := TT2.ext h fun b ys z => e _ _ z
theorem LT.same {H H' : Hp} {p : Addr} {xs : List (List V)} (h : LT H p xs) (e : Same H H') : LT H' p xs := by
  obtain ⟨rs, h1, h2⟩ := h
  exact ⟨rs, e _ _ h1, h2.same e⟩
theorem pauses_len {A B : Plan} (hA : PlanOk A) (hB : PlanOk B) : (pauses A B).length ≤ 12 := by
  have h1 := List.length_filterMap_le pz (A ++ B)
  have h2 := hA.len
  have h3 := hB.len
  rw [List.length_append] at h1
  unfold pauses
  omega
theorem va_star {K : PySem.W.Frag} {te : TE} {t : TA} {σ : L2.St} {H : Hp} {p : Addr} {xs ys : List V} (h : Val te σ H (.ref p)) (hs : SqT K H p xs) (h2 : ValA t σ H ys) : ValA (StX.tStar K te t) σ H (xs ++ ys) := fun Q q => h _ ⟨_, _, rfl, .inl hs, h2 _ q⟩
def okV (l : Int) : V → V
  | .int e => .bl (decide (e ≤ l))
  | _ => .bl false
theorem okV_ov (l : Int) (o : Option Int) : okV l (ov o) = .bl (okE l o) := by cases o <;> rfl
abbrev N_is_within : List Str := ["ends", "limit", "end"]
theorem sc_is_within : FnScope N_is_within ["ends", "limit"] (defScope s_is_within) := C8.fnScope_by (by decide +kernel)
theorem ok_is_within (T : Txt G mg) {f : Addr} {fd : FuncData} (F : FnP G.K "is_within" "is_within" s_is_within f fd) (hm : mg "is_within" = some (.ref f)) : C8.Cal P w G.K mg base 1 "is_within" (sp_is_within) [] := by
  refine cal_mk F hm (F.bindsN fun _ _ _ _ _ _ us hl => match us, hl with | [_, _], _ => rfl) sc_is_within (fun vs H Q E h => ?_) (fun cdv A outer s H vs Q E hr h => ?_)
  · obtain ⟨p, a, b, l, rfl, hp, q⟩ := h
    rfl
  · obtain ⟨p, a, b, l, rfl, hp, q⟩ := h
    refine ⟨_, (pss_one (ps_ret (pe_callB (r := rAll G.K) (cr_all rfl) (by rfl) T.z_all (by decide +kernel) (pa_cons (pe_lc (own := [("end", 2)]) (g := gName 2) (tt := tYes) rfl sc_is_within.nd (pi_tup (pv 0)) (blkOk_by (own := [("end", 2)]) (N := N_is_within) (sc := defScope s_is_within) (by decide +kernel)) (fun _ _ _ _ _ => (pg_name (i := 2) sc_is_within.nd rfl (Or.inl rfl))) (fun _ _ _ _ _ => pts_nil) (fun _ _ _ _ _ => ((pe_and (pe_cmpR op_notN (pv 2) pe_non (nomark _)) (pe_one (pe_cmpR op_le (pv 2) (pv 1) (nomark _))))))) pa_nil)))), ?_⟩
    refine x_retE (x_cb (x_lcPT (ys := [ov a, ov b]) (fun H' e => SqT.of (e _ _ hp)) (v_var rfl) (fun i => (([ov a, ov b].take i).filter fun _ => true).map (okV l)) rfl (fun i _ => Nat.lt_of_le_of_lt (acV_len (Nat.le_refl _)) (by show 2 < sizeLine; decide)) ?_ ?_))
    · intro i x H' hx e
      refine ⟨rfl, true, ans_yes, fun _ => ⟨okV l x, ?_, acV_succ hx⟩, fun z => by cases z⟩
      have hx2 : ∃ o, x = ov o := by
        match i, hx with
        | 0, hx => exact ⟨a, (Option.some.inj hx).symm⟩
        | 1, hx => exact ⟨b, (Option.some.inj hx).symm⟩
        | n + 2, hx => simp at hx
      obtain ⟨o, rfl⟩ := hx2
      rw [okV_ov]
      cases o with
      | none => exact v_is (v_andV (b := false) (c := true) (v_is (v_notN (x := .non) (v_var rfl)) rfl) fun z => by cases z) rfl
      | some t => exact v_is (v_andV (b := true) (v_is (v_notN (x := .int t) (v_var rfl)) rfl) fun _ => v_le (i := t) (v_var rfl) (v_var rfl)) rfl
    · intro D H' hD hl e
      refine ⟨D, [okE l a, okE l b], rfl, SqL.of ?_, ?_⟩
      · rw [hl]
        show some (HO.lst [okV l (ov a), okV l (ov b)]) = _
        rw [okV_ov, okV_ov]
        rfl
      · have := q H' e
        simpa using this
abbrev N_pause_steps : List Str := ["one", "other", "step"]
theorem sc_pause_steps : FnScope N_pause_steps ["one", "other"] (defScope s_pause_steps) := C8.fnScope_by (by decide +kernel)
theorem ok_pause_steps (T : Txt G mg) {f : Addr} {fd : FuncData} (F : FnP G.K "pause_steps" "pause_steps" s_pause_steps f fd) (hm : mg "pause_steps" = some (.ref f)) : C8.Cal P w G.K mg base 1 "pause_steps" (sp_pause_steps) [] := by
  refine cal_mk F hm (F.bindsN fun _ _ _ _ _ _ us hl => match us, hl with | [_, _], _ => rfl) sc_pause_steps (fun vs H Q E h => ?_) (fun cdv A outer s H vs Q E hr h => ?_)
  · obtain ⟨p, q1, A, B, rfl, ⟨rs, hp, h1⟩, okA, ⟨rs2, hq, h2⟩, okB, q⟩ := h
    rfl
  · obtain ⟨p, q1, A, B, rfl, ⟨rs, hp, h1⟩, okA, ⟨rs2, hq, h2⟩, okB, q⟩ := h
    refine ⟨_, (pss_one (ps_ret (pe_lc (own := [("step", 2)]) (g := gName 2) rfl sc_pause_steps.nd (pi_tup (pe_tup (pa_starK (K := G.K) (pv 0) (pa_starK (K := G.K) (pv 1) pa_nil rfl) rfl))) (blkOk_by (own := [("step", 2)]) (N := N_pause_steps) (sc := defScope s_pause_steps) (by decide +kernel)) (fun _ _ _ _ _ => (pg_name (i := 2) sc_pause_steps.nd rfl (Or.inl rfl))) (fun _ _ _ _ _ => (pts_one (pt_cmpR op_eq (pe_ix (r := rIxT G.K) ix_tup (pv 2) pe_int (fun _ _ => rfl)) pe_str (nomark _)))) (fun _ _ _ _ _ => (pv 2))))), ?_⟩
    have hx : TP H (rs ++ rs2) ((A ++ B).map stpV) := by rw [List.map_append]; exact h1.app h2
    have hlen := hx.len
    have hsz : (rs ++ rs2).length ≤ 12 := by
      rw [hlen, List.length_map, List.length_append]
      have := okA.len
      have := okB.len
      omega
    have va : ValA (StX.tStar G.K (tVar 0) (StX.tStar G.K (tVar 1) tNil)) (start N_pause_steps [V.ref p, V.ref q1]) H ((rs ++ rs2).map V.ref) := by
      rw [List.map_append]
      have := va_star (K := G.K) (te := tVar 0) (σ := start N_pause_steps [V.ref p, V.ref q1]) (v_var rfl) (SqT.of hp) (va_star (K := G.K) (te := tVar 1) (v_var rfl) (SqT.of hq) va_nil)
      rwa [List.append_nil] at this
    refine x_retE (x_lcN va (by rw [List.length_map]; exact Nat.le_of_lt (Nat.lt_of_le_of_lt hsz (by decide))) fun m hm D hD => ?_)
    have e0 : Same H (upd H m (.tup ((rs ++ rs2).map V.ref))) := Same.new hm
    refine lcp (walk_tup (xs := (rs ++ rs2).map V.ref)) hD (fun H' e => SqT.of (e _ _ upd_same)) (fun i => fm isPv (fun a _ => .ref a) ((rs ++ rs2).take i) (((A ++ B).map stpV).take i)) (by simp [fm]) (fun i _ => Nat.lt_of_le_of_lt (acT_len (m := 12) (by rw [← hlen]; exact hsz)) (by decide)) ?_ gName_mono ?_
    · intro i x H' hxi e
      obtain ⟨b, hb, rfl⟩ := refs_at hxi
      obtain ⟨y, hy, hby⟩ := hx.at2 hb
      have hb' := e _ _ (e0 _ _ hby)
      refine ⟨rfl, rfl, isPv y, ?_, fun hp => ⟨.ref b, v_var rfl, ?_⟩, fun hn => ?_⟩
      · rw [List.getElem?_map] at hy
        obtain ⟨s1, hs1, rfl⟩ := Option.map_eq_some_iff.mp hy
        exact a_T (v_is (v_eq (v_sqT (v_var rfl) v_c (SqT.of hb') (show atI (stpV s1) 0 = some (.str (wdOf s1)) by cases s1 <;> rfl)) v_c rfl) (by cases s1 <;> rfl))
      · rw [acT_succ hlen hb hy, if_pos hp]
      · rw [acT_succ hlen hb hy, if_neg (by rw [hn]; exact Bool.false_ne_true), List.append_nil]
    · intro H' hl e
      rw [List.length_map, List.take_length, hlen, List.take_length] at hl
      obtain ⟨rs3, e1, e2⟩ := fm_ref (p := isPv) (hx.same (e0.trans e))
      rw [e1] at hl
      rw [filter_pz] at e2
      exact q D H' (e0.trans e) (by
        have n : D ≠ m := fun z => by rw [z, upd_same] at hD; cases hD
        rwa [upd_ne n] at hD) ⟨rs3, hl, e2⟩

end
end SH
end
section
namespace SH
open PySem PySem.Spec PyProof.Rows L2
section
variable {P : Program} {w : World} {G : Gl5} {mg : Str → Option Value} {base : Heap}

theorem x_lcE {K : PySem.W.Frag} {tl te : TE} {g : TG} {tt : L2.TT} {vs : List Nat} {σ : L2.St} {H : Hp} {Q : VK} (h : tl σ H fun x H1 => ∃ a, x = .ref a ∧ (∃ xs, SqL K H1 a xs) ∧ ∀ D, H1 D = none → ∃ W : Nat → Nat → Hp → Prop, (∃ m, W 0 m (upd H1 D (.lst []))) ∧ ∀ i m H, W i m H →
      ((Itl K a).stop i H ∧ Q (.ref D) H) ∨ ((Itl K a).go i H ∧ ∃ Nx : Hp → Prop, (∀ H', Nx H' → ∃ m', m' < m ∧ W (i + 1) m' H') ∧ ∀ x H', (Itl K a).yld i H x H' → g x (wipe σ vs) H' fun σ2 H2 => wipe σ2 vs = wipe σ vs ∧ tt σ2 H2 fun b H3 =>
        if b = true then te σ2 H3 fun y H4 => ∃ acc, H4 D = some (.lst acc) ∧ acc.length < sizeLine ∧ Nx (upd H4 D (.lst (acc ++ [y]))) else Nx H3)) : tLc (iList K tl) g tt te vs σ H Q := h
theorem Same.free {H H' : Hp} {a : Addr} (e : Same H H') (h : H' a = none) : H a = none := by
  cases q : H a with
  | none => rfl
  | some o => rw [e _ _ q] at h; cases h
theorem ac_all {f : Addr → List V → V} {p : List V → Bool} : ∀ {rs : List Addr} {xs : List (List V)}, rs.length = xs.length → (∀ x ∈ xs, p x = true) → fm p f rs xs = (rs.zip xs).map fun q => f q.1 q.2
  | [], [], _, _ => rfl
  | a :: rs, x :: xs, h, k => by
    show (if p x = true then f a x :: fm p f rs xs else fm p f rs xs) = _
    rw [if_pos (k x List.mem_cons_self), ac_all (Nat.succ.inj h) fun y hy => k y (List.mem_cons_of_mem _ hy)]
    rfl
  | [], _ :: _, h, _ => by cases h
  | _ :: _, [], h, _ => by cases h
theorem y_forLE {K : PySem.W.Frag} {tl : TE} {g : TG} {t1 t2 : TS} {D : Ends} {σ : L2.St} {H : Hp} (h : tl σ H fun x H1 => ∃ a, x = .ref a ∧ (∃ xs, SqL K H1 a xs) ∧ ∃ W : Nat → Nat → L2.St → Hp → Prop, (∃ m, W 0 m σ H1) ∧ ∀ i m σ H, W i m σ H →
  ((Itl K a).stop i H ∧ t2 D σ H) ∨ ((Itl K a).go i H ∧ ∃ N : L2.St → Hp → Prop, (∀ σ' H', N σ' H' → ∃ m', m' < m ∧ W (i + 1) m' σ' H') ∧ ∀ x H', (Itl K a).yld i H x H' → g x σ H' fun σ2 H2 => t1 { D with nx := N, ct := N, bk := t2 D } σ2 H2)) : tSeq (tFor (iList K tl) g t1) t2 D σ H := h
theorem for_itS {J : It} {n : Nat} {G : Hp → Prop} {Y : Nat → Hp → V → Hp → Prop} (w : Walk J n G Y) {g : TG} {tb t2 : TS} {D : Ends} {σ : L2.St} {H : Hp} (Pv : Nat → L2.St → Hp → Prop) (h0 : Pv 0 σ H) (hG : ∀ i σ H, i ≤ n → Pv i σ H → G H)
    (hs : ∀ i x σ H H', i < n → Pv i σ H → Y i H x H' → g x σ H' fun σ2 H2 => tb { D with nx := Pv (i + 1), ct := Pv (i + 1), bk := t2 D } σ2 H2) (hd : ∀ σ H, Pv n σ H → t2 D σ H) :
    ∃ W : Nat → Nat → L2.St → Hp → Prop, (∃ m, W 0 m σ H) ∧ ∀ i m σ H, W i m σ H →
      (J.stop i H ∧ t2 D σ H) ∨ (J.go i H ∧ ∃ N : L2.St → Hp → Prop, (∀ σ' H', N σ' H' → ∃ m', m' < m ∧ W (i + 1) m' σ' H') ∧ ∀ x H', J.yld i H x H' → g x σ H' fun σ2 H2 => tb { D with nx := N, ct := N, bk := t2 D } σ2 H2) :=
  for_it (D := { D with nx := t2 D }) w Pv h0 hG hs hd
theorem x_ifE {tt : L2.TT} {t1 t2 : TS} {D : Ends} {σ : L2.St} {H : Hp} (h : tt σ H fun b H1 => if b = true then t1 D σ H1 else t2 D σ H1) : tIfS tt t1 t2 D σ H := h
theorem t_opE {r : R2} {ta tb : TE} {σ : L2.St} {H : Hp} {Q : Bool → Hp → Prop} (h : ta σ H fun x H1 => tb σ H1 fun y H2 => r x y H2 fun z H3 => ∃ k, z = .bl k ∧ Q k H3) : tTest (tOp r ta tb) σ H Q := h
theorem at_nat {xs : List V} {i : Nat} {v : V} (h : xs[i]? = some v) : atI xs (i : Int) = some v := by
  have hl := (List.getElem?_eq_some_iff.mp h).1
  have e : ixN xs.length (i : Int) = some i := by
    unfold ixN
    rw [if_pos (by omega), if_pos (by omega), Int.toNat_natCast]
  show (ixN xs.length (i : Int)).bind _ = _
  rw [e]
  exact h
def rMulK : TIp := fun x y H Q => ∃ i j, x = .int i ∧ y = .int j ∧ CMul i j ∧ Q (.int (i * j)) H
theorem ip_mulK {X : Cx} : PIp X .Mult rMulK := by
  intro pins s σ H x y v u Q I r1 r2 h
  obtain ⟨i, j, e1, e2, hc, q⟩ := h
  subst e1; subst e2
  obtain ⟨t, rfl⟩ := r1
  obtain ⟨t', rfl⟩ := r2
  exact imul_int ⟨.int _, H, I.tok _, ⟨_, rfl⟩, q⟩ hc.ok
theorem pz_mem {A : Plan} {q : Int × Int} (h : q ∈ A.filterMap pz) (ok : ∀ s ∈ A, StpOk s) : 0 ≤ q.1 ∧ q.1 ≤ q.2 ∧ q.2 ≤ 60 := by
  obtain ⟨s, hs, e⟩ := List.mem_filterMap.mp h
  have := ok s hs
  cases s with
  | w a => cases e
  | r a => cases e
  | p lo hi => cases e; exact this
theorem pauses_ok {A B : Plan} (hA : PlanOk A) (hB : PlanOk B) {q : Int × Int} (h : q ∈ pauses A B) : 0 ≤ q.1 ∧ q.1 ≤ q.2 ∧ q.2 ≤ 60 := pz_mem h fun s hs => by
  rcases List.mem_append.mp hs with z | z
  · exact hA.each s z
  · exact hB.each s z
abbrev N_shortest : List Str := ["one", "other", "step"]
theorem sc_shortest : FnScope N_shortest ["one", "other"] (defScope s_shortest) := C8.fnScope_by (by decide +kernel)
theorem ok_shortest (T : Txt G mg) {f : Addr} {fd : FuncData} (F : FnP G.K "shortest" "shortest" s_shortest f fd) (hm : mg "shortest" = some (.ref f)) (c_pause_steps : C8.Cal P w G.K mg base 1 "pause_steps" (sp_pause_steps) []) : C8.Cal P w G.K mg base 2 "shortest" (sp_shortest) [] := by
  refine cal_mk F hm (F.bindsN fun _ _ _ _ _ _ us hl => match us, hl with | [_, _], _ => rfl) sc_shortest (fun vs H Q E h => ?_) (fun cdv A outer s H vs Q E hr h => ?_)
  · obtain ⟨p, q1, A, B, rfl, hA, okA, hB, okB, q⟩ := h
    rfl
  · obtain ⟨p, q1, A, B, rfl, hA, okA, hB, okB, q⟩ := h
    refine ⟨_, (pss_one (ps_ret (pe_callTy (r := rTupK G.K) call_tupK (by rfl) T.z_tuple (by decide +kernel) (pa_cons (pe_lc (own := [("step", 2)]) (g := gName 2) (tt := tYes) rfl sc_shortest.nd (pi_list (C8.pe_c c_pause_steps hr (by decide) (by rfl) (pa_cons (pv 0) (pa_cons (pv 1) pa_nil)))) (blkOk_by (own := [("step", 2)]) (N := N_shortest) (sc := defScope s_shortest) (by decide +kernel)) (fun _ _ _ _ _ => (pg_name (i := 2) sc_shortest.nd rfl (Or.inl rfl))) (fun _ _ _ _ _ => pts_nil) (fun _ _ _ _ _ => (pe_ix (r := rIxT G.K) ix_tup (pv 2) pe_int (fun _ _ => rfl)))) pa_nil)))), ?_⟩
    refine x_retE (x_cb (x_lcE (c_call (va_cons (v_var rfl) (va_cons (v_var rfl) va_nil)) ⟨p, q1, A, B, rfl, hA, okA, hB, okB, fun d H1 e1 hd lt => ?_⟩)))
    obtain ⟨rs, h1, h2⟩ := lt
    have hlen := h2.len
    have hsz : ((pauses A B).map psV).length ≤ 12 := by rw [List.length_map]; exact pauses_len okA okB
    refine ⟨d, rfl, ⟨_, SqL.of h1⟩, fun D hD => lcp (walk_list (xs := rs.map V.ref)) hD (fun H' e => SqL.of (e _ _ h1)) (fun i => fm (fun _ => true) (fun _ x => (x[1]?).getD .non) (rs.take i) (((pauses A B).map psV).take i)) (by simp [fm]) (fun i _ => Nat.lt_of_le_of_lt (acT_len hsz) (by decide)) ?_ gName_mono ?_⟩
    · intro i x H' hxi e
      obtain ⟨b, hb, rfl⟩ := refs_at hxi
      obtain ⟨y, hy, hby⟩ := h2.at2 hb
      refine ⟨rfl, rfl, true, ans_yes, fun _ => ⟨(y[1]?).getD .non, ?_, by rw [acT_succ hlen hb hy, if_pos rfl]⟩, fun hn => by cases hn⟩
      rw [List.getElem?_map] at hy
      obtain ⟨s1, hs1, rfl⟩ := Option.map_eq_some_iff.mp hy
      exact v_sqT (v_var rfl) v_c (SqT.of (e _ _ hby)) rfl
    · intro H' hl e
      rw [List.length_map, List.take_length, hlen, List.take_length, fm_val hlen] at hl
      refine ⟨D, _, rfl, .inl ⟨SqL.of hl, fun l hln => q l _ ((e1.trans e).own ((e1.trans e).free hln)) ?_⟩⟩
      rw [upd_same]
      congr 2
      simp [List.filter_eq_self.mpr, psV]
abbrev N_check_pauses : List Str := ["value", "one", "other", "steps", "index", "ticks"]
theorem sc_check_pauses : FnScope N_check_pauses ["value", "one", "other"] (defScope s_check_pauses) := C8.fnScope_by (by decide +kernel)
theorem ok_check_pauses (T : Txt G mg) {f : Addr} {fd : FuncData} (F : FnP G.K "check_pauses" "check_pauses" s_check_pauses f fd) (hm : mg "check_pauses" = some (.ref f)) (c_pause_steps : C8.Cal P w G.K mg base 1 "pause_steps" (sp_pause_steps) []) (c_is_between : C8.Cal P w G.K mg base 2 "is_between" (sp_is_between) []) : C8.Cal P w G.K mg base 3 "check_pauses" (sp_check_pauses) [] := by
  refine cal_mk F hm (F.bindsN fun _ _ _ _ _ _ us hl => match us, hl with | [_, _, _], _ => rfl) sc_check_pauses (fun vs H Q E h => ?_) (fun cdv A outer s H vs Q E hr h => ?_)
  · obtain ⟨c, p, q1, A, B, ts, rfl, hA, okA, hB, okB, hc, hch, q⟩ := h
    rfl
  · obtain ⟨c, p, q1, A, B, ts, rfl, hA, okA, hB, okB, hc, hch, q⟩ := h
    refine ⟨_, (pss_cons (ps_set (i := 3) sc_check_pauses.nd rfl (Or.inl rfl) (C8.pe_c c_pause_steps hr (by decide) (by rfl) (pa_cons (pv 1) (pa_cons (pv 2) pa_nil))))
    (pss_cons (ps_if (PW.pt (pw_or (pt_not (pt_val (pe_callB (r := rIsi G.K) call_isi (by rfl) T.z_isinstance (by decide +kernel) (pa_cons (pv 0) (pa_cons (pe_bltn (v := .ty "tuple") (by rfl) T.z_tuple (by decide +kernel) rfl) pa_nil))))) (pw_or1 (pt_cmpR op_ne (pe_callB (r := rLenK G.K) call_lenK (by rfl) T.z_len (by decide +kernel) (pa_cons (pv 0) pa_nil)) (pe_callB (r := rLenK G.K) call_lenK (by rfl) T.z_len (by decide +kernel) (pa_cons (pv 3) pa_nil)) (nomark _))))) (pss_one ps_never) pss_nil)
    (pss_one (ps_for PassesOwn.never rfl (pi_enumT (by rfl) T.z_enumerate (pa_cons (pv 0) pa_nil)) (pg_tup rfl (pgs_cons (pg_name (i := 4) sc_check_pauses.nd rfl (Or.inl rfl)) (pgs_cons (pg_name (i := 5) sc_check_pauses.nd rfl (Or.inl rfl)) pgs_nil))) (pss_one (ps_if (pt_not (pt_val (C8.pe_c c_is_between hr (by decide) (by rfl) (pa_cons (pv 5) (pa_cons (pe_ix ix_tup (pe_ix ix_list (pv 3) (pv 4) (fun _ _ => rfl)) pe_int (fun _ _ => rfl)) (pa_cons (pe_ix ix_tup (pe_ix ix_list (pv 3) (pv 4) (fun _ _ => rfl)) pe_int (fun _ _ => rfl)) pa_nil)))))) (pss_one ps_never) pss_nil)))))), ?_⟩
    refine y_setE (c_call (va_cons (v_var rfl) (va_cons (v_var rfl) va_nil)) ⟨p, q1, A, B, rfl, hA, okA, hB, okB, fun d H1 e1 hd lt => ?_⟩)
    obtain ⟨rs, h1, h2⟩ := lt
    have hlen : rs.length = (pauses A B).length := by rw [h2.len, List.length_map]
    have hcl := hch.len
    show tSeq _ _ _ [some (.ref c), some (.ref p), some (.ref q1), some (.ref d), none, none] H1
    refine y_skip (a_is (a_or (b := false) (c := false) (a_is (a_not (a_B (v_isi (v_var rfl) v_c (.ty "tuple") (.base (.tup (e1 _ _ hc))) (kit_ty kb_tt)))) rfl) fun _ => a_T (v_is (v_ne (v_lenT (v_var rfl) (SqT.of (e1 _ _ hc))) (v_lenL (v_var rfl) (SqL.of h1)) rfl) ?_)) rfl) ?_
    · rw [List.length_map, List.length_map, hlen, hcl, decide_eq_true rfl]
      rfl
    refine x_forE (xs := ts.map V.int) (va_cons (v_var rfl) va_nil) (SqT.of (e1 _ _ hc)) (fun i σ' H' => (∃ a b, σ' = [some (.ref c), some (.ref p), some (.ref q1), some (.ref d), a, b]) ∧ Same H1 H') ⟨⟨_, _, rfl⟩, Same.refl H1⟩ (fun i σ' H' z => SqT.of (z.2 _ _ (e1 _ _ hc))) ?_ (fun σ' H' z => q _ (e1.trans z.2))
    rintro i x σ' H' T1 hx ⟨⟨a, b, rfl⟩, e2⟩ hT
    rw [List.getElem?_map] at hx
    obtain ⟨t, ht, rfl⟩ := Option.map_eq_some_iff.mp hx
    obtain ⟨qq, hq1, hq2, hq3⟩ := hch.at ht
    have hqv : ((pauses A B).map psV)[i]? = some (psV qq) := by rw [List.getElem?_map, hq1]; rfl
    obtain ⟨m, hm, hmt⟩ := h2.at hqv
    have e3 := Same.then (o := .tup [.int (i : Nat), .int t]) e2 hT
    have hst : atI (rs.map V.ref) (i : Int) = some (.ref m) := at_nat (by rw [List.getElem?_map, hm]; rfl)
    have hv : ∀ {k : Int} {v : V}, atI (psV qq) k = some v → Val (tOp (rIxT G.K) (tOp (rIxL G.K) (tVar 3) (tVar 4)) (tC (.int k))) [some (.ref c), some (.ref p), some (.ref q1), some (.ref d), some (.int (i : Nat)), some (.int t)] (upd H' T1 (.tup [.int (i : Nat), .int t])) v := fun h => v_sqT (v_sqL (v_var rfl) (v_var rfl) (SqL.of (e3 _ _ h1)) hst) v_c (SqT.of (e3 _ _ hmt)) h
    refine x_if (b := false) (a_is (a_not (a_B (v_call (v := .bl true) (va_cons (v_var rfl) (va_cons (hv rfl) (va_cons (hv rfl) va_nil))) fun Q k => ⟨.int t, qq.1, qq.2, rfl, .inl ⟨t, rfl⟩, by rw [btw_in hq2 hq3]; exact k⟩))) rfl) (fun z => by cases z) fun _ => ?_
    exact ⟨⟨_, _, rfl⟩, e3⟩
abbrev N_count_choices : List Str := ["one", "other", "found", "step"]
theorem sc_count_choices : FnScope N_count_choices ["one", "other"] (defScope s_count_choices) := C8.fnScope_by (by decide +kernel)
theorem ok_count_choices (T : Txt G mg) {f : Addr} {fd : FuncData} (F : FnP G.K "count_choices" "count_choices" s_count_choices f fd) (hm : mg "count_choices" = some (.ref f)) (c_pause_steps : C8.Cal P w G.K mg base 1 "pause_steps" (sp_pause_steps) []) : C8.Cal P w G.K mg base 2 "count_choices" (sp_count_choices) [] := by
  refine cal_mk F hm (F.bindsN fun _ _ _ _ _ _ us hl => match us, hl with | [_, _], _ => rfl) sc_count_choices (fun vs H Q E h => ?_) (fun cdv A outer s H vs Q E hr h => ?_)
  · obtain ⟨p, q1, A, B, rfl, hA, okA, hB, okB, q⟩ := h
    rfl
  · obtain ⟨p, q1, A, B, rfl, hA, okA, hB, okB, q⟩ := h
    refine ⟨_, (pss_cons (ps_set (i := 2) sc_count_choices.nd rfl (Or.inl rfl) pe_int)
    (pss_cons (ps_for PassesOwn.never rfl (pi_list (C8.pe_c c_pause_steps hr (by decide) (by rfl) (pa_cons (pv 0) (pa_cons (pv 1) pa_nil)))) (pg_name (i := 3) sc_count_choices.nd rfl (Or.inl rfl)) (pss_one (ps_aug (i := 2) sc_count_choices.nd rfl (Or.inl rfl) (pe_op op_add (pe_op op_sub (pe_ix ix_tup (pv 3) pe_int (fun _ _ => rfl)) (pe_ix ix_tup (pv 3) pe_int (fun _ _ => rfl))) pe_int) ip_mulK)))
    (pss_one (ps_ret (pv 2))))), ?_⟩
    refine y_set v_c ?_
    show tSeq _ _ _ [some (.ref p), some (.ref q1), some (.int 1), none] H
    refine y_forLE (c_call (va_cons (v_var rfl) (va_cons (v_var rfl) va_nil)) ⟨p, q1, A, B, rfl, hA, okA, hB, okB, fun d H1 e1 hd lt => ?_⟩)
    obtain ⟨rs, h1, h2⟩ := lt
    have hlen : rs.length = (pauses A B).length := by rw [h2.len, List.length_map]
    refine ⟨d, rfl, ⟨_, SqL.of h1⟩, for_itS (walk_list (xs := rs.map V.ref)) (fun i σ' H' => (∃ a, σ' = [some (.ref p), some (.ref q1), some (.int (cntC ((pauses A B).take i))), a]) ∧ Same H1 H') ⟨⟨_, rfl⟩, Same.refl H1⟩ (fun i σ' H' _ z => SqL.of (z.2 _ _ h1)) ?_ ?_⟩
    · rintro i x σ' H' H2 hi ⟨⟨a, rfl⟩, e2⟩ ⟨rfl, hx⟩
      obtain ⟨b, hb, rfl⟩ := refs_at hx
      obtain ⟨y, hy, hby⟩ := h2.at2 hb
      rw [List.getElem?_map] at hy
      obtain ⟨s1, hs1, rfl⟩ := Option.map_eq_some_iff.mp hy
      have hok := pauses_ok okA okB (List.mem_of_getElem? hs1)
      have hv : ∀ {k : Int} {v : V}, atI (psV s1) k = some v → Val (tOp (rIxT G.K) (tVar 3) (tC (.int k))) [some (.ref p), some (.ref q1), some (.int (cntC ((pauses A B).take i))), some (.ref b)] H2 v := fun h => v_sqT (v_var rfl) v_c (SqT.of (e2 _ _ hby)) h
      refine ⟨_, rfl, v_I (v_I (hv rfl) (hv rfl)) v_c _ ⟨_, _, rfl, rfl, .inr ⟨by omega, by omega⟩, ⟨some (V.ref b), ?_⟩, e2⟩⟩
      show _ = [some (V.ref p), some (V.ref q1), some (V.int (cntC ((pauses A B).take (i + 1)))), some (V.ref b)]
      unfold cntC
      rw [List.take_add_one, hs1, Option.toList_some, List.foldl_append]
      rfl
    · rintro σ' H' ⟨⟨a, rfl⟩, e2⟩
      refine x_ret (v_var rfl) ?_
      rw [List.length_map, hlen, List.take_length]
      exact q _ (e1.trans e2)
abbrev N_check_choices : List Str := ["one", "other"]
theorem sc_check_choices : FnScope N_check_choices ["one", "other"] (defScope s_check_choices) := C8.fnScope_by (by decide +kernel)
theorem ok_check_choices (T : Txt G mg) {f : Addr} {fd : FuncData} (F : FnP G.K "check_choices" "check_choices" s_check_choices f fd) (hm : mg "check_choices" = some (.ref f)) (c_count_choices : C8.Cal P w G.K mg base 2 "count_choices" (sp_count_choices) []) : C8.Cal P w G.K mg base 3 "check_choices" (sp_check_choices) [] := by
  refine cal_mk F hm (F.bindsN fun _ _ _ _ _ _ us hl => match us, hl with | [_, _], _ => rfl) sc_check_choices (fun vs H Q E h => ?_) (fun cdv A outer s H vs Q E hr h => ?_)
  · obtain ⟨p, q1, A, B, rfl, hA, okA, hB, okB, hc, q⟩ := h
    rfl
  · obtain ⟨p, q1, A, B, rfl, hA, okA, hB, okB, hc, q⟩ := h
    refine ⟨_, (pss_one (ps_if (pt_cmpR op_gt (C8.pe_c c_count_choices hr (by decide) (by rfl) (pa_cons (pv 0) (pa_cons (pv 1) pa_nil))) (C8.pe_gc (by rfl) T.i_MOST_CHOICES) (nomark _)) (pss_one ps_never) pss_nil)), ?_⟩
    refine x_ifE (t_opE (c_call (va_cons (v_var rfl) (va_cons (v_var rfl) va_nil)) ⟨p, q1, A, B, rfl, hA, okA, hB, okB, fun H1 e1 => ?_⟩))
    exact v_c _ ⟨_, _, rfl, rfl, _, rfl, by rw [decide_eq_false (by omega)]; exact iteF (q _ e1)⟩

end
end SH
end
section
namespace SH
open PySem PySem.Spec PyProof.Rows L2
section
variable {P : Program} {w : World} {G : Gl5} {mg : Str → Option Value} {base : Heap}

theorem cutV_tail (xs : List V) (h : xs ≠ []) : cutV xs (some 1) none = xs.tail := by
  cases xs with
  | nil => exact absurd rfl h
  | cons x r =>
    show ((x :: r).drop (HT.sIx (r.length + 1) 0 (some ((1 : Nat) : Int)))).take (HT.sIx (r.length + 1) (r.length + 1) none - HT.sIx (r.length + 1) 0 (some ((1 : Nat) : Int))) = r
    rw [HT.sIx_nat, HT.sIx_none, show min 1 (r.length + 1) = 1 by omega]
    exact List.take_of_length_le (by simp)
theorem LT.but {H H' : Hp} {a l : Addr} {xs : List (List V)} (h : LT H a xs) (k : But l H H') (n : NoTup H l) (ne : a ≠ l) : LT H' a xs := h.mono k n ne
theorem Same.put {H H' : Hp} {a : Addr} {o : HO} (e : Same H H') (h : H a = none) : Same H (upd H' a o) := e.own h
def pzN (A : Plan) : Nat := (A.filterMap pz).length
theorem pzN_succ {A : Plan} {i : Nat} {s : Stp} (h : A[i]? = some s) : pzN (A.drop i) = (if (pz s).isSome = true then 1 else 0) + pzN (A.drop (i + 1)) := by
  have hl := (List.getElem?_eq_some_iff.mp h).1
  have : A.drop i = s :: A.drop (i + 1) := by
    rw [List.drop_eq_getElem_cons hl]
    congr 1
    exact (List.getElem?_eq_some_iff.mp h).2
  rw [this]
  unfold pzN
  cases s <;> simp [pz, List.filterMap_cons] <;> omega
abbrev N_plain_steps : List Str := ["program", "x", "ticks", "found", "left", "step"]
theorem sc_plain_steps : FnScope N_plain_steps ["program", "x", "ticks"] (defScope s_plain_steps) := C8.fnScope_by (by decide +kernel)
theorem ok_plain_steps (T : Txt G mg) {f : Addr} {fd : FuncData} (F : FnP G.K "plain_steps" "plain_steps" s_plain_steps f fd) (hm : mg "plain_steps" = some (.ref f)) : C8.Cal P w G.K mg base 1 "plain_steps" (sp_plain_steps G) [] := by
  refine cal_mk F hm (F.bindsN fun _ _ _ _ _ _ us hl => match us, hl with | [_, _, _], _ => rfl) sc_plain_steps (fun vs H Q E h => ?_) (fun cdv A outer s H vs Q E hr h => ?_)
  · obtain ⟨p, c, A, x, ts, rfl, ⟨rs, hp, hr2⟩, okA, hc, hts, hcnt, q⟩ := h
    rfl
  · obtain ⟨p, c, A, x, ts, rfl, ⟨rs, hp, hr2⟩, okA, hc, hts, hcnt, q⟩ := h
    refine ⟨_, (pss_cons (ps_par (i := 3) (j := 4) rfl sc_plain_steps.nd rfl rfl (by decide) rfl rfl (pa_cons (pe_lst pa_nil) (pa_cons (pe_callTy (r := rListK G.K) call_listK (by rfl) T.z_list (by decide +kernel) (pa_cons (pv 2) pa_nil)) pa_nil)) (by rfl))
    (pss_cons (ps_for PassesOwn.never rfl (pi_tup (pv 0)) (pg_name (i := 5) sc_plain_steps.nd rfl (Or.inl rfl)) (pss_one (ps_if (pt_cmpR op_eq (pe_ix ix_tup (pv 5) pe_int (fun _ _ => rfl)) pe_str (nomark _)) (pss_cons (ps_expr (pe_bm PySem.F.plainAttrs_list PySem.F.slot_list_append PySem.F.type_list_append mt_append (pv 3) (pa_cons (pe_tup (pa_cons pe_str (pa_cons (pe_ix ix_list (pv 4) pe_int (fun _ _ => rfl)) pa_nil))) pa_nil)))
    (pss_one (ps_set (i := 4) sc_plain_steps.nd rfl (Or.inl rfl) (pe_slice sl_list (pv 4) (po_some pe_int) po_none)))) (pss_one (ps_expr (pe_bm PySem.F.plainAttrs_list PySem.F.slot_list_append PySem.F.type_list_append mt_append (pv 3) (pa_cons (pe_tup (pa_cons (pe_ix ix_tup (pv 5) pe_int (fun _ _ => rfl)) (pa_cons (pe_ifExp (pt_cmpR op_eq (pe_ix ix_tup (pv 5) pe_int (fun _ _ => rfl)) (C8.pe_gc (by rfl) T.s_LETTER) (nomark _)) (pv 1) (pe_ix ix_tup (pv 5) pe_int (fun _ _ => rfl))) pa_nil))) pa_nil)))))))
    (pss_one (ps_ret (pe_tup (pa_cons (pv 3) (pa_cons (pv 4) pa_nil))))))), ?_⟩
    have hlen : rs.length = A.length := by rw [hr2.len, List.length_map]
    have hsL : SqL G.K H c (ts.map V.int) ∨ SqT G.K H c (ts.map V.int) := hc.elim (fun z => .inr (SqT.of z)) fun z => .inl (SqL.of z)
    have y_parL : ∀ {i j : Nat} {ar : TA} {t2 : TS} {D : Ends} {σ : L2.St} {H : Hp}, (ar σ H fun vs H1 => ∃ v w, vs = [v, w] ∧ t2 D ((σ.set i (some v)).set j (some w)) H1) → tSeq (tPar i j ar) t2 D σ H := fun h => h
    refine y_parL ?_
    refine (show _ from ⟨by decide, fun F hF => ?_⟩ : tCons (tLst tNil) _ _ _ _)
    have nFc : c ≠ F := by rcases hc with z | z <;> exact ne_of_none z hF
    have e0 : Same H (upd H F (.lst [])) := Same.new hF
    have hsL1 : SqL G.K (upd H F (.lst [])) c (ts.map V.int) ∨ SqT G.K (upd H F (.lst [])) c (ts.map V.int) := hc.elim (fun z => .inr (SqT.of (e0 _ _ z))) fun z => .inl (SqL.of (e0 _ _ z))
    refine v_var rfl _ ⟨c, ts.map V.int, rfl, hsL1, fun l0 hl0 => ⟨_, _, rfl, ?_⟩⟩
    have nl : l0 ≠ F := fun z => by rw [z, upd_same] at hl0; cases hl0
    have e1 : Same H (upd (upd H F (.lst [])) l0 (.lst (ts.map V.int))) := Same.then e0 hl0
    have y_forT' : ∀ {tl : TE} {g : TG} {t1 t2 : TS} {D : Ends} {σ : L2.St} {H : Hp} {a : Addr} {xs : List V} (h : Val tl σ H (.ref a)) (hs : SqT G.K H a xs) (Pv : Nat → L2.St → Hp → Prop) (h0 : Pv 0 σ H) (hl : ∀ i σ H, i ≤ xs.length → Pv i σ H → SqT G.K H a xs)
      (ht : ∀ i x σ H, xs[i]? = some x → Pv i σ H → g x σ H fun σ2 H2 => t1 { D with nx := Pv (i + 1), ct := Pv (i + 1), bk := t2 D } σ2 H2) (hd : ∀ σ H, Pv xs.length σ H → t2 D σ H), tSeq (tFor (iTup G.K tl) g t1) t2 D σ H := fun h hs Pv h0 hl ht hd => y_forT h hs Pv h0 hl ht hd
    show tSeq _ _ _ [some (V.ref p), some (V.int x), some (V.ref c), some (V.ref F), some (V.ref l0), none] _
    refine y_forT (xs := rs.map V.ref) (v_var rfl) (SqT.of (e1 _ _ hp)) (fun i σ' H' => (∃ lf a, σ' = [some (V.ref p), some (V.int x), some (V.ref c), some (V.ref F), some (V.ref lf), a] ∧ lf ≠ F ∧ H' lf = some (.lst ((plainS (A.take i) x ts).2.map V.int))) ∧ Same H H' ∧
      LT H' F ((plainS (A.take i) x ts).1.map stepV) ∧ (plainS (A.take i) x ts).1.length = min i A.length ∧ pzN (A.drop i) ≤ (plainS (A.take i) x ts).2.length) ?_ (fun i σ' H' _ z => SqT.of (z.2.1 _ _ hp)) ?_ ?_
    · refine ⟨⟨l0, none, rfl, nl, upd_same⟩, e1, ⟨[], ?_, True.intro⟩, by simp [plainS], hcnt⟩
      rw [upd_ne nl.symm, upd_same]
      rfl
    · rintro i xv σ' H' hxi ⟨⟨lf, a, rfl, nlf, hlf⟩, e2, ⟨fr, hf1, hf2⟩, hfl, hcn⟩
      obtain ⟨b, hb, rfl⟩ := refs_at hxi
      obtain ⟨y, hy, hby⟩ := hr2.at2 hb
      rw [List.getElem?_map] at hy
      obtain ⟨s1, hs1, rfl⟩ := Option.map_eq_some_iff.mp hy
      have hb' := e2 _ _ hby
      have hil : i < A.length := (List.getElem?_eq_some_iff.mp hs1).1
      have hsucc := plainS_succ (x := x) (ts := ts) hs1
      have hpn := pzN_succ hs1
      have frl : fr.length < sizeLine := by
        rw [hf2.len, List.length_map, hfl]
        exact Nat.lt_of_le_of_lt (Nat.le_trans (Nat.min_le_right _ _) okA.len) (by decide)
      have hv : ∀ {k : Int} {v : V} {H2 : Hp}, Same H' H2 → atI (stpV s1) k = some v → Val (tOp (rIxT G.K) (tVar 5) (tC (.int k))) [some (V.ref p), some (V.int x), some (V.ref c), some (V.ref F), some (V.ref lf), some (V.ref b)] H2 v := fun e h => v_sqT (v_var rfl) v_c (SqT.of (e _ _ hb')) h
      have push : ∀ (st : Wd × Int) (m : Addr), H' m = none → LT (upd (upd H' m (.tup (stepV st))) F (.lst (fr.map V.ref ++ [.ref m]))) F (((plainS (A.take i) x ts).1 ++ [st]).map stepV) ∧ Same H (upd (upd H' m (.tup (stepV st))) F (.lst (fr.map V.ref ++ [.ref m]))) := fun st m hm => by
        obtain ⟨rs', q1, _, q2⟩ := LT.app (x := stepV st) ⟨fr, hf1, hf2⟩ hm
        rw [hf1] at q1
        have ee : fr.map V.ref = rs'.map V.ref := HO.lst.inj (Option.some.inj q1)
        rw [ee, List.map_append]
        exact ⟨q2, (e2.then hm).own hF⟩
      have llf : ∀ (m : Addr) (o o' : HO), H' m = none → upd (upd H' m o) F o' lf = H' lf := fun m o o' hm => by rw [upd_ne nlf, upd_ne (ne_of_none hlf hm)]
      show tIfS _ _ _ _ [some (V.ref p), some (V.int x), some (V.ref c), some (V.ref F), some (V.ref lf), some (V.ref b)] H'
      cases s1 with
      | p lo hi =>
        refine x_if (b := true) (a_T (v_is (v_eq (hv (Same.refl _) rfl) v_c rfl) rfl)) (fun _ => ?_) fun z => by cases z
        rw [show (pz (.p lo hi)).isSome = true from rfl] at hpn
        rw [if_pos rfl] at hpn
        obtain ⟨t0, tr, htl⟩ : ∃ t0 tr, (plainS (A.take i) x ts).2 = t0 :: tr := by
          cases hq : (plainS (A.take i) x ts).2 with
          | nil => rw [hq] at hcn; simp at hcn; omega
          | cons t0 tr => exact ⟨t0, tr, rfl⟩
        rw [htl] at hlf hcn
        refine y_appT (v_var rfl) hf1 (by rw [List.length_map]; exact frl) (va_cons v_c (va_cons (v_sqL (v := .int t0) (v_var rfl) v_c (SqL.of hlf) (at_nat (i := 0) rfl)) va_nil)) (by show 2 ≤ sizeLine; decide) fun m hm => ?_
        obtain ⟨p1, p2⟩ := push (.p, t0) m hm
        have hlf2 := (llf m (.tup (stepV (.p, t0))) (.lst (fr.map V.ref ++ [.ref m])) hm).trans hlf
        have hf3 : upd (upd H' m (.tup (stepV (.p, t0)))) F (.lst (fr.map V.ref ++ [.ref m])) F = some (.lst (fr.map V.ref ++ [.ref m])) := upd_same
        refine x_asgE (v_var rfl _ (v_c _ ⟨_, rfl, lf, _, rfl, SqL.of hlf2, fun l2 hl2 => ?_⟩))
        rw [cutV_tail _ (by simp)]
        have n2 : l2 ≠ F := fun z => by rw [z] at hl2; have hl3 := hf3.symm.trans hl2; cases hl3
        refine ⟨⟨l2, _, rfl, n2, ?_⟩, p2.then hl2, ?_, ?_, ?_⟩
        · rw [hsucc, upd_same]
          show _ = some (HO.lst ((plainS (A.take i) x ts).2.tail.map V.int))
          rw [htl]
          rfl
        · rw [hsucc]
          show LT _ F (((plainS (A.take i) x ts).1 ++ [(Wd.p, (plainS (A.take i) x ts).2.headD 0)]).map stepV)
          rw [htl]
          exact p1.same (Same.new hl2)
        · rw [hsucc]
          show ((plainS (A.take i) x ts).1 ++ [_]).length = _
          rw [List.length_append, hfl, List.length_singleton]
          omega
        · rw [hsucc]
          show _ ≤ (plainS (A.take i) x ts).2.tail.length
          rw [htl]
          simp at hcn ⊢
          omega
      | w am =>
        refine x_if (b := false) (a_T (v_is (v_eq (hv (Same.refl _) rfl) v_c rfl) rfl)) (fun z => by cases z) fun _ => ?_
        have hval : ∀ {tt : L2.TT} , (∀ bb : Bool, (am = none ↔ bb = true) → Ans tt [some (V.ref p), some (V.int x), some (V.ref c), some (V.ref F), some (V.ref lf), some (V.ref b)] H' bb) → Val (tIf tt (tVar 1) (tOp (rIxT G.K) (tVar 5) (tC (.int 1)))) [some (V.ref p), some (V.int x), some (V.ref c), some (V.ref F), some (V.ref lf), some (V.ref b)] H' (.int (amI x am)) := fun ht => by
          cases am with
          | none => exact v_if (ht true (by simp)) (fun _ => v_var rfl) (fun z => by cases z)
          | some n => exact v_if (ht false (by simp)) (fun z => by cases z) (fun _ => hv (Same.refl _) rfl)
        refine x_appT (v_var rfl) hf1 (by rw [List.length_map]; exact frl) (va_cons (hv (Same.refl _) rfl) (va_cons (hval fun b1 hb1 => ?_) va_nil)) (by show 2 ≤ sizeLine; decide) fun m hm => ?_
        · refine a_T (v_is (v_eq (hv (Same.refl _) rfl) v_c (by cases am <;> rfl)) ?_)
          cases am with
          | none => rw [hb1.mp rfl]; exact congrArg V.bl (decide_eq_true rfl)
          | some n =>
            have : b1 = false := by
              cases b1 with
              | false => rfl
              | true => exact absurd (hb1.mpr rfl) (by simp)
            rw [this]
            exact congrArg V.bl (decide_eq_false (fun z => by cases z))
        · obtain ⟨p1, p2⟩ := push (.w, amI x am) m hm
          refine ⟨⟨lf, _, rfl, nlf, ?_⟩, p2, ?_, ?_, ?_⟩
          · rw [hsucc, llf m _ _ hm]
            exact hlf
          · rw [hsucc]
            exact p1
          · rw [hsucc]
            show ((plainS (A.take i) x ts).1 ++ [_]).length = _
            rw [List.length_append, hfl, List.length_singleton]
            omega
          · rw [hsucc]
            show _ ≤ (plainS (A.take i) x ts).2.length
            rw [show (pz (.w am)).isSome = false from rfl] at hpn
            simp at hpn
            omega
      | r am =>
        refine x_if (b := false) (a_T (v_is (v_eq (hv (Same.refl _) rfl) v_c rfl) rfl)) (fun z => by cases z) fun _ => ?_
        have hval : ∀ {tt : L2.TT} , (∀ bb : Bool, (am = none ↔ bb = true) → Ans tt [some (V.ref p), some (V.int x), some (V.ref c), some (V.ref F), some (V.ref lf), some (V.ref b)] H' bb) → Val (tIf tt (tVar 1) (tOp (rIxT G.K) (tVar 5) (tC (.int 1)))) [some (V.ref p), some (V.int x), some (V.ref c), some (V.ref F), some (V.ref lf), some (V.ref b)] H' (.int (amI x am)) := fun ht => by
          cases am with
          | none => exact v_if (ht true (by simp)) (fun _ => v_var rfl) (fun z => by cases z)
          | some n => exact v_if (ht false (by simp)) (fun z => by cases z) (fun _ => hv (Same.refl _) rfl)
        refine x_appT (v_var rfl) hf1 (by rw [List.length_map]; exact frl) (va_cons (hv (Same.refl _) rfl) (va_cons (hval fun b1 hb1 => ?_) va_nil)) (by show 2 ≤ sizeLine; decide) fun m hm => ?_
        · refine a_T (v_is (v_eq (hv (Same.refl _) rfl) v_c (by cases am <;> rfl)) ?_)
          cases am with
          | none => rw [hb1.mp rfl]; exact congrArg V.bl (decide_eq_true rfl)
          | some n =>
            have : b1 = false := by
              cases b1 with
              | false => rfl
              | true => exact absurd (hb1.mpr rfl) (by simp)
            rw [this]
            exact congrArg V.bl (decide_eq_false (fun z => by cases z))
        · obtain ⟨p1, p2⟩ := push (.r, amI x am) m hm
          refine ⟨⟨lf, _, rfl, nlf, ?_⟩, p2, ?_, ?_, ?_⟩
          · rw [hsucc, llf m _ _ hm]
            exact hlf
          · rw [hsucc]
            exact p1
          · rw [hsucc]
            show ((plainS (A.take i) x ts).1 ++ [_]).length = _
            rw [List.length_append, hfl, List.length_singleton]
            omega
          · rw [hsucc]
            show _ ≤ (plainS (A.take i) x ts).2.length
            rw [show (pz (.r am)).isSome = false from rfl] at hpn
            simp at hpn
            omega
    · rintro σ' H' ⟨⟨lf, a, rfl, nlf, hlf⟩, e2, hf, _⟩
      rw [List.length_map, hlen, List.take_length] at hlf hf
      exact x_retE (x_tup (va_cons (v_var rfl) (va_cons (v_var rfl) va_nil)) (by show 2 ≤ sizeLine; decide) fun d hd => q d F lf _ (e2.then hd) upd_same (hf.same (Same.new hd)) hF (Same.new hd _ _ hlf))

end
end SH
end
section
namespace SH
open PySem PySem.Spec PyProof.Rows L2
section
variable {P : Program} {w : World} {G : Gl5} {mg : Str → Option Value} {base : Heap}

def rng (q : Int × Int) : List Int := (List.range (q.2 - q.1 + 1).toNat).map fun i : Nat => q.1 + (i : Int)
def ext1 (q : Int × Int) (c : List Int) : List (List Int) := (rng q).map fun t => c ++ [t]
def stepC (found : List (List Int)) (q : Int × Int) : List (List Int) := found.flatMap (ext1 q)
def choices (ps : List (Int × Int)) : List (List Int) := ps.foldl stepC [[]]
def chV (c : List Int) : List V := c.map V.int
theorem choices_succ {ps : List (Int × Int)} {i : Nat} {q : Int × Int} (h : ps[i]? = some q) : choices (ps.take (i + 1)) = stepC (choices (ps.take i)) q := by
  unfold choices
  rw [List.take_add_one, h, Option.toList_some, List.foldl_append]
  rfl
theorem rng_len (q : Int × Int) : (rng q).length = (q.2 - q.1 + 1).toNat := by simp [rng]
theorem stepC_len (q : Int × Int) : ∀ l : List (List Int), (stepC l q).length = l.length * (q.2 - q.1 + 1).toNat
  | [] => by simp [stepC]
  | c :: l => by
    have ih := stepC_len q l
    unfold stepC at ih ⊢
    rw [List.flatMap_cons, List.length_append, ih]
    simp only [ext1, List.length_map, rng_len, List.length_cons]
    rw [Nat.succ_mul, Nat.add_comm]
theorem cnt_fold (ps : List (Int × Int)) (h : ∀ q ∈ ps, q.1 ≤ q.2) : ∀ (l : List (List Int)) (n : Int), (l.length : Int) = n → ((ps.foldl stepC l).length : Int) = ps.foldl (fun n q => n * (q.2 - q.1 + 1)) n := by
  induction ps with
  | nil => intro l n e; exact e
  | cons q ps ih =>
    intro l n e
    refine ih (fun q hq => h q (List.mem_cons_of_mem _ hq)) _ _ ?_
    have := h q List.mem_cons_self
    rw [stepC_len, Int.natCast_mul, e, Int.toNat_of_nonneg (by omega)]
theorem choices_len {ps : List (Int × Int)} (h : ∀ q ∈ ps, q.1 ≤ q.2) : ((choices ps).length : Int) = cntC ps := cnt_fold ps h [[]] 1 rfl
theorem fold_mono (ps : List (Int × Int)) (h : ∀ q ∈ ps, q.1 ≤ q.2) : ∀ l : List (List Int), l.length ≤ (ps.foldl stepC l).length := by
  induction ps with
  | nil => intro l; exact Nat.le_refl _
  | cons q ps ih =>
    intro l
    refine Nat.le_trans ?_ (ih (fun q hq => h q (List.mem_cons_of_mem _ hq)) (stepC l q))
    have := h q List.mem_cons_self
    rw [stepC_len]
    exact Nat.le_mul_of_pos_right _ (by omega)
theorem choices_take {ps : List (Int × Int)} (h : ∀ q ∈ ps, q.1 ≤ q.2) (i : Nat) : (choices (ps.take i)).length ≤ (choices ps).length := by
  have e : choices ps = (ps.drop i).foldl stepC (choices (ps.take i)) := by
    unfold choices
    rw [← List.foldl_append, List.take_append_drop]
  rw [e]
  exact fold_mono _ (fun q hq => h q (List.mem_of_mem_drop hq)) _
/-- the pairs so far -/
def accL (fs : List (List Int)) (q : Int × Int) (i j : Nat) : List (List Int) := stepC (fs.take i) q ++ (match fs[i]? with | none => [] | some c => (ext1 q c).take j)
theorem accL_zero (fs : List (List Int)) (q : Int × Int) (i : Nat) : accL fs q i 0 = stepC (fs.take i) q := by
  unfold accL
  cases fs[i]? <;> simp
theorem accL_next {fs : List (List Int)} {q : Int × Int} {i : Nat} {c : List Int} (h : fs[i]? = some c) {j : Nat} (hj : (rng q).length ≤ j) : accL fs q i j = stepC (fs.take (i + 1)) q := by
  have e : (ext1 q c).take j = ext1 q c := List.take_of_length_le (by unfold ext1; rw [List.length_map]; exact hj)
  unfold accL stepC
  rw [h, List.take_add_one, h]
  dsimp only
  rw [e]
  simp only [Option.toList_some, List.flatMap_append, List.flatMap_cons, List.flatMap_nil, List.append_nil]
theorem accL_succ {fs : List (List Int)} {q : Int × Int} {i j : Nat} {c : List Int} (h : fs[i]? = some c) (hj : j < (rng q).length) : accL fs q i (j + 1) = accL fs q i j ++ [c ++ [q.1 + (j : Int)]] := by
  unfold accL
  rw [h]
  simp only
  rw [List.append_assoc, List.take_add_one]
  congr 2
  have : (ext1 q c)[j]? = some (c ++ [q.1 + (j : Int)]) := by
    rw [rng_len] at hj
    unfold ext1 rng
    rw [List.getElem?_map, List.getElem?_map, List.getElem?_range hj]
    rfl
  rw [this]
  rfl
theorem accL_len {fs : List (List Int)} {q : Int × Int} {i j : Nat} (hi : i < fs.length) : (accL fs q i j).length ≤ (stepC fs q).length := by
  have h : fs[i]? = some fs[i] := List.getElem?_eq_getElem hi
  have e : stepC fs q = stepC (fs.take i) q ++ (ext1 q fs[i] ++ stepC (fs.drop (i + 1)) q) := by
    conv => lhs; rw [← List.take_append_drop i fs, List.drop_eq_getElem_cons hi]
    unfold stepC
    rw [List.flatMap_append, List.flatMap_cons]
  unfold accL
  rw [h, e]
  simp only [List.length_append]
  have := List.length_take_le j (ext1 q fs[i])
  have := List.length_take_le' j (ext1 q fs[i])
  omega
theorem choices_each (ps : List (Int × Int)) : ∀ c, c ∈ choices ps → c.length = ps.length := by
  have gen : ∀ (ps : List (Int × Int)) (l : List (List Int)) (n : Nat), (∀ c ∈ l, c.length = n) → ∀ c ∈ ps.foldl stepC l, c.length = n + ps.length := by
    intro ps
    induction ps with
    | nil => intro l n h c hc; exact h c hc
    | cons q ps ih =>
      intro l n h c hc
      have := ih (stepC l q) (n + 1) (fun c hc => by
        obtain ⟨d, hd, he⟩ := List.mem_flatMap.mp hc
        obtain ⟨t, _, rfl⟩ := List.mem_map.mp he
        rw [List.length_append, h d hd]
        rfl) c hc
      rw [this, List.length_cons]
      omega
  intro c hc
  have := gen ps [[]] 0 (fun c hc => by rw [List.mem_singleton.mp hc]; rfl) c hc
  omega
def sp_all_choices : Sp := fun vs H Q _ => ∃ p q A B, vs = [.ref p, .ref q] ∧ PlanAt H p A ∧ PlanOk A ∧ PlanAt H q B ∧ PlanOk B ∧ cntC (pauses A B) ≤ 400 ∧ ∀ d H', Same H H' → LT H' d ((choices (pauses A B)).map chV) → Q (.ref d) H'
theorem y_setLst1 {i : Nat} {t2 : TS} {D : Ends} {σ : L2.St} {H : Hp} (h : ∀ m d, H m = none → upd H m (.tup []) d = none → t2 D (σ.set i (some (.ref d))) (upd (upd H m (.tup [])) d (.lst [.ref m]))) : tSeq (tAsg (tLst (tCons (tTup tNil) tNil)) (gName i)) t2 D σ H :=
  ⟨by show 0 ≤ sizeLine; decide, fun m hm => ⟨by show 1 ≤ sizeLine; decide, fun d hd => h m d hm hd⟩⟩
theorem x_asgLc2 {K : PySem.W.Frag} {wi1 : TI} {te : TE} {D : Ends} {i n n1 : Nat} {vs vs1 : List Nat} {σ : L2.St} {H : Hp} {a : Addr} {xs : List V} {tl : TE} {J1 : Nat → It} (h : Val tl σ H (.ref a)) (hs : ∀ H', Same H H' → SqL K H' a xs) (m : Nat)
    (Pv : Addr → Nat → Nat → Hp → Prop) (h0 : ∀ d, H d = none → Pv d 0 0 (upd H d (.lst []))) (hE : ∀ d i j H', Pv d i j H' → Same H H')
    (hw : wipe ((wipe σ vs).set n none) vs = wipe σ vs)
    (hw1 : ∀ (i : Nat) (x : V), xs[i]? = some x → wipe ((wipe σ vs).set n (some x)) vs = wipe σ vs)
    (hi : ∀ d (i : Nat) (x : V) H', xs[i]? = some x → Pv d i 0 H' → ∀ R : It → Hp → Prop, R (J1 i) H' → wi1 ((wipe σ vs).set n (some x)) H' R)
    (hj : ∀ i, ∃ lo, J1 i = Itr lo m)
    (ht : ∀ d (i j : Nat) (x : V) lo H', xs[i]? = some x → J1 i = Itr lo m → j < m → Pv d i j H' → wipe ((wipe ((wipe σ vs).set n (some x)) vs1).set n1 (some (.int (lo + (j : Nat))))) vs1 = wipe ((wipe σ vs).set n (some x)) vs1 ∧
      te ((wipe ((wipe σ vs).set n (some x)) vs1).set n1 (some (.int (lo + (j : Nat))))) H' fun y H4 => ∃ acc, H4 d = some (.lst acc) ∧ acc.length < sizeLine ∧ Pv d i (j + 1) (upd H4 d (.lst (acc ++ [y]))))
    (hn : ∀ d i H', i < xs.length → Pv d i m H' → Pv d (i + 1) 0 H')
    (hd : ∀ d H', H d = none → Pv d xs.length 0 H' → D.nx (σ.set i (some (.ref d))) H') : tAsg (tLc2 (iList K tl) (gName n) tYes wi1 (gName n1) tYes te vs vs1) (gName i) D σ H := by
  refine h _ ⟨_, rfl, ⟨_, hs _ (Same.refl _)⟩, fun d hdn => ⟨fun i k H' => k = xs.length - i ∧ i ≤ xs.length ∧ Pv d i 0 H', ⟨xs.length, rfl, Nat.zero_le _, h0 d hdn⟩, ?_⟩⟩
  rintro i k H' ⟨rfl, hle, p⟩
  have q := hs _ (hE _ _ _ _ p)
  by_cases hlt : i < xs.length
  · refine .inr ⟨⟨xs, xs[i], q, List.getElem?_eq_getElem hlt⟩, Pv d (i + 1) 0, fun H2 p2 => ⟨xs.length - (i + 1), by omega, rfl, hlt, p2⟩, ?_⟩
    rintro x H2 ⟨rfl, hx⟩
    have hx' := hx xs q
    refine ⟨hw1 i x hx', iteT (B := Pv d (i + 1) 0 H2) ?_⟩
    refine hi d i x H2 hx' p _ ?_
    obtain ⟨lo, hJ⟩ := hj i
    refine ⟨fun j k H3 => k = m - j ∧ j ≤ m ∧ Pv d i j H3, ⟨m, rfl, Nat.zero_le _, p⟩, ?_⟩
    rintro j k H3 ⟨rfl, hjm, p3⟩
    rw [hJ]
    by_cases hjl : j < m
    · refine .inr ⟨hjl, Pv d i (j + 1), fun H4 p4 => ⟨m - (j + 1), by omega, rfl, hjl, p4⟩, ?_⟩
      rintro y H4 ⟨rfl, rfl⟩
      obtain ⟨t1, t2⟩ := ht d i j x lo H4 hx' hJ hjl p3
      exact ⟨t1, iteT (B := Pv d i (j + 1) H4) t2⟩
    · have e : j = m := by omega
      subst e
      exact .inl ⟨Nat.le_refl _, hn d i H3 hlt p3⟩
  · have e : i = xs.length := by omega
    subst e
    exact .inl ⟨⟨xs, q, Nat.le_refl _⟩, hd d H' hdn p⟩
abbrev N_all_choices : List Str := ["one", "other", "found", "step", "choice", "ticks"]
theorem sc_all_choices : FnScope N_all_choices ["one", "other"] (defScope s_all_choices) := C8.fnScope_by (by decide +kernel)
theorem ok_all_choices (T : Txt G mg) {f : Addr} {fd : FuncData} (F : FnP G.K "all_choices" "all_choices" s_all_choices f fd) (hm : mg "all_choices" = some (.ref f)) (c_pause_steps : C8.Cal P w G.K mg base 1 "pause_steps" (sp_pause_steps) []) : C8.Cal P w G.K mg base 2 "all_choices" (sp_all_choices) [] := by
  refine cal_mk F hm (F.bindsN fun _ _ _ _ _ _ us hl => match us, hl with | [_, _], _ => rfl) sc_all_choices (fun vs H Q E h => ?_) (fun cdv A outer s H vs Q E hr h => ?_)
  · obtain ⟨p, q1, A, B, rfl, hA, okA, hB, okB, hcn, q⟩ := h
    rfl
  · obtain ⟨p, q1, A, B, rfl, hA, okA, hB, okB, hcn, q⟩ := h
    refine ⟨_, (pss_cons (ps_set (i := 2) sc_all_choices.nd rfl (Or.inl rfl) (pe_lst (pa_cons (pe_tup pa_nil) pa_nil)))
    (pss_cons (ps_for PassesOwn.never rfl (pi_list (C8.pe_c c_pause_steps hr (by decide) (by rfl) (pa_cons (pv 0) (pa_cons (pv 1) pa_nil)))) (pg_name (i := 3) sc_all_choices.nd rfl (Or.inr rfl)) (pss_one (ps_setLc2 (i := 2) (own := [("choice", 4), ("ticks", 5)]) (vs1 := [5]) (g := gName 4) (g1 := gName 5) (tt := tYes) (tt1 := tYes) rfl sc_all_choices.nd rfl rfl (sw_true rfl rfl rfl (by decide +kernel)) (pi_list (pv 2)) (blkOk_by (own := [("choice", 4), ("ticks", 5)]) (N := N_all_choices) (sc := defScope s_all_choices) (by decide +kernel)) (by decide) (fun _ _ _ _ _ => (pg_name (i := 4) sc_all_choices.nd rfl (Or.inl rfl))) (fun _ _ _ _ _ => pts_nil) (fun _ _ _ _ _ => (pi_range2 (by rfl) T.z_range (pa_cons (pe_ix (r := rIxT G.K) ix_tup (pv 3) pe_int (fun _ _ => rfl)) (pa_cons (pe_op op_add (pe_ix (r := rIxT G.K) ix_tup (pv 3) pe_int (fun _ _ => rfl)) pe_int) pa_nil)))) (fun _ _ _ _ _ => (pg_name (i := 5) sc_all_choices.nd rfl (Or.inl rfl))) (fun _ _ _ _ _ => pts_nil) (fun _ _ _ _ _ => (pe_tup (pa_starK (K := G.K) (pv 4) (pa_cons (pv 5) pa_nil) rfl))))))
    (pss_one (ps_ret (pv 2))))), ?_⟩
    have hps : ∀ z ∈ pauses A B, z.1 ≤ z.2 := fun z hz => (pauses_ok okA okB hz).2.1
    have hL : ∀ i, (choices ((pauses A B).take i)).length ≤ 400 := fun i => by
      have h1 := choices_take hps i
      have h2 := choices_len hps
      omega
    refine y_setLst1 fun m d0 hm hd0 => ?_
    have nm : m ≠ d0 := fun z => by rw [← z, upd_same] at hd0; cases hd0
    have e0 : Same H (upd (upd H m (.tup [])) d0 (.lst [.ref m])) := Same.then (Same.new hm) hd0
    have hl0 : LT (upd (upd H m (.tup [])) d0 (.lst [.ref m])) d0 ((choices ((pauses A B).take 0)).map chV) := ⟨[m], upd_same, by rw [upd_ne nm, upd_same]; rfl, True.intro⟩
    refine y_forLE (c_call (va_cons (v_var rfl) (va_cons (v_var rfl) va_nil)) ⟨p, q1, A, B, rfl, hA.same e0, okA, hB.same e0, okB, fun d H1 e1 hd lt => ?_⟩)
    obtain ⟨rs, h1, h2⟩ := lt
    have hlen : rs.length = (pauses A B).length := by rw [h2.len, List.length_map]
    refine ⟨d, rfl, ⟨_, SqL.of h1⟩, for_itS (walk_list (xs := rs.map V.ref)) (fun i σ' H' => (∃ F a, σ' = [some (V.ref p), some (V.ref q1), some (V.ref F), a, none, none] ∧ LT H' F ((choices ((pauses A B).take i)).map chV)) ∧ Same H1 H') ⟨⟨d0, none, rfl, hl0.same e1⟩, Same.refl H1⟩ (fun i σ' H' _ z => SqL.of (z.2 _ _ h1)) ?_ ?_⟩
    · rintro i0 xv σ' H' H2 hi ⟨⟨F, a, rfl, lt⟩, e2⟩ ⟨rfl, hx⟩
      obtain ⟨b, hb, rfl⟩ := refs_at hx
      obtain ⟨y, hy, hby⟩ := h2.at2 hb
      rw [List.getElem?_map] at hy
      obtain ⟨s1, hs1, rfl⟩ := Option.map_eq_some_iff.mp hy
      have hok := pauses_ok okA okB (List.mem_of_getElem? hs1)
      have hsucc := choices_succ hs1
      have hL2 := hL (i0 + 1)
      rw [hsucc] at hL2
      obtain ⟨fr, f1, f2⟩ := lt
      have flen : fr.length = (choices ((pauses A B).take i0)).length := by rw [f2.len, List.length_map]
      show tAsg _ _ _ [some (V.ref p), some (V.ref q1), some (V.ref F), some (V.ref b), none, none] H2
      refine x_asgLc2 (xs := fr.map V.ref) (J1 := fun _ => Itr s1.1 (s1.2 - s1.1 + 1).toNat) (v_var rfl) (fun H' e => SqL.of (e _ _ f1)) (s1.2 - s1.1 + 1).toNat
        (fun D i j H' => ∃ rs', H' D = some (.lst (rs'.map V.ref)) ∧ TP H' rs' ((accL (choices ((pauses A B).take i0)) s1 i j).map chV) ∧ Same H2 H' ∧ H2 D = none) ?_ (fun _ _ _ _ ⟨_, _, _, z, _⟩ => z) rfl (fun _ _ _ => rfl) ?_ (fun _ => ⟨_, rfl⟩) ?_ ?_ ?_
      · intro D hD
        exact ⟨[], by rw [upd_same]; rfl, by rw [accL_zero]; exact True.intro, Same.new hD, hD⟩
      · rintro D i x H' hx2 ⟨rs', _, _, e3, _⟩ R hR
        have hb' := e3 _ _ (e2 _ _ hby)
        have hv : ∀ {k : Int} {v : V}, atI (psV s1) k = some v → Val (tOp (rIxT G.K) (tVar 3) (tC (.int k))) [some (V.ref p), some (V.ref q1), some (V.ref F), some (V.ref b), some x, none] H' v := fun h => v_sqT (v_var rfl) v_c (SqT.of hb') h
        refine hv rfl _ (v_I (hv rfl) v_c _ ⟨s1.1, s1.2 + 1, rfl, ⟨by omega, by omega, by omega, by omega⟩, ?_⟩)
        rw [show s1.2 + 1 - s1.1 = s1.2 - s1.1 + 1 by omega]
        exact hR
      · rintro D i j x lo H' hx2 hJ hj ⟨rs', g1, g2, e3, hD⟩
        obtain ⟨cr, hcr, rfl⟩ := refs_at hx2
        obtain ⟨cy, hcy, hcb⟩ := f2.at2 hcr
        rw [List.getElem?_map] at hcy
        obtain ⟨ch, hch, rfl⟩ := Option.map_eq_some_iff.mp hcy
        have hlo : lo = s1.1 := by
          have := congrArg It.yld hJ
          have h2 := congrFun (congrFun (congrFun (congrFun this 0) H2) (.int s1.1)) H2
          have h3 : (H2 = H2 ∧ V.int s1.1 = V.int (s1.1 + (0 : Nat))) = (H2 = H2 ∧ V.int s1.1 = V.int (lo + (0 : Nat))) := h2
          have h4 : H2 = H2 ∧ V.int s1.1 = V.int (lo + (0 : Nat)) := h3 ▸ ⟨rfl, by simp⟩
          have h5 := V.int.inj h4.2
          omega
        subst hlo
        have hjr : j < (rng s1).length := by rw [rng_len]; exact hj
        have hac := accL_succ (q := s1) hch hjr
        have hil : i < (choices ((pauses A B).take i0)).length := (List.getElem?_eq_some_iff.mp hch).1
        have hal := accL_len (q := s1) (j := j) hil
        refine ⟨rfl, va_star (xs := chV ch) (v_var rfl) (SqT.of (e3 _ _ hcb)) (va_cons (v_var rfl) va_nil) _ ⟨?_, fun mm hmm => ⟨_, (Same.new hmm) _ _ g1, ?_, rs' ++ [mm], ?_, ?_, ?_, hD⟩⟩⟩
        · have hm1 : ch ∈ choices ((pauses A B).take i0) := List.mem_of_getElem? hch
          have hcl := choices_each _ _ hm1
          have := List.length_take_le' i0 (pauses A B)
          have := pauses_len okA okB
          unfold chV
          rw [List.length_append, List.length_map]
          refine Nat.le_trans (show _ ≤ 20 from ?_) (by decide)
          simp
          omega
        · rw [List.length_map, g2.len, List.length_map]
          exact Nat.lt_of_le_of_lt (Nat.le_trans hal hL2) (by decide)
        · rw [upd_same, List.map_append]
          rfl
        · rw [hac, List.map_append]
          have nD : D ≠ mm := ne_of_none g1 hmm
          refine TP.snoc ?_ ?_
          · rw [upd_ne nD.symm, upd_same]
            unfold chV
            rw [List.map_append]
            rfl
          · exact (g2.same (Same.new hmm)).mono (But.upd.tup (noTup_lst (by rw [upd_ne nD]; exact g1)))
        · exact (e3.then hmm).own hD
      · rintro D i H' hi2 ⟨rs', g1, g2, e3, hD⟩
        rw [List.length_map, flen] at hi2
        refine ⟨rs', g1, ?_, e3, hD⟩
        rw [accL_zero]
        rw [accL_next (List.getElem?_eq_getElem hi2) (by rw [rng_len]; exact Nat.le_refl _)] at g2
        exact g2
      · rintro D H' hD ⟨rs', g1, g2, e3, _⟩
        rw [accL_zero, List.length_map, flen, List.take_length] at g2
        refine ⟨⟨D, some (V.ref b), rfl, rs', g1, ?_⟩, e2.trans e3⟩
        rw [hsucc]
        exact g2
    · rintro σ' H' ⟨⟨F, a, rfl, lt⟩, e2⟩
      rw [List.length_map, hlen, List.take_length] at lt
      exact x_ret (v_var rfl) (q F _ ((e0.trans e1).trans e2) lt)

end
end SH
end
section
namespace SH
open PySem PySem.Spec PyProof.Rows L2
/-! ### a comprehension of one name, no test, whose turns change the heap by Rl and keep Iv; Φ: what holds of the i-th item -/
structure Rel (Rl : Hp → Hp → Prop) (Iv : Hp → Prop) (H1 : Hp) (D : Addr) : Prop where
  tr : ∀ a b c, Rl a b → Rl b c → Rl a c
  at_ : ∀ H H' xs, Rl H H' → H D = some (.lst xs) → H' D = some (.lst xs)
  own : ∀ H o, Rl H1 H → Rl H1 (upd H D o)
  start : Rl H1 H1
  iv : ∀ H xs ys, Iv H → H D = some (.lst xs) → Iv (upd H D (.lst ys))
  iv0 : Iv H1 → Iv (upd H1 D (.lst []))
theorem lcr {J : It} {m n : Nat} {G : Hp → Prop} {Y : Nat → Hp → V → Hp → Prop} {te : TE} {vs : List Nat} {σ : L2.St} {H1 : Hp} {D : Addr} {Qd : Hp → Prop} {Rl : Hp → Hp → Prop} {Iv : Hp → Prop} (w : Walk J m G Y) (hY : ∀ i H x H', Y i H x H' → H' = H) (R : Rel Rl Iv H1 D) (hD : H1 D = none) (hi : Iv H1)
    (hG : ∀ H', Rl H1 H' → G H') (hm : m ≤ sizeLine) (Φ : Nat → V → Hp → Prop) (st1 : ∀ i y H H', Rl H H' → Φ i y H → Φ i y H') (st2 : ∀ i y H xs ys, H D = some (.lst xs) → Φ i y H → Φ i y (upd H D (.lst ys)))
    (turn : ∀ i x H' acc, i < m → Y i H' x H' → Rl H1 H' → Iv H' → H' D = some (.lst acc) → wipe ((wipe σ vs).set n (some x)) vs = wipe σ vs ∧ ∀ Q : VK, (∀ y H4, Rl H' H4 → Iv H4 → Φ i y H4 → Q y H4) → te ((wipe σ vs).set n (some x)) H' Q)
    (hd : ∀ H' acc, H' D = some (.lst acc) → acc.length = m → (∀ i y, acc[i]? = some y → Φ i y H') → Rl H1 H' → Iv H' → Qd H') :
    ∃ W : Nat → Nat → Hp → Prop, (∃ k, W 0 k (upd H1 D (.lst []))) ∧ ∀ i k H, W i k H →
      (J.stop i H ∧ Qd H) ∨ (J.go i H ∧ ∃ Nx : Hp → Prop, (∀ H', Nx H' → ∃ k', k' < k ∧ W (i + 1) k' H') ∧ ∀ x H', J.yld i H x H' → gName n x (wipe σ vs) H' fun σ2 H2 => wipe σ2 vs = wipe σ vs ∧ tYes σ2 H2 fun b H3 =>
        if b = true then te σ2 H3 fun y H4 => ∃ acc, H4 D = some (.lst acc) ∧ acc.length < sizeLine ∧ Nx (upd H4 D (.lst (acc ++ [y]))) else Nx H3) := by
  refine lc_it w (fun i H => ∃ acc, H D = some (.lst acc) ∧ acc.length = i ∧ (∀ j y, acc[j]? = some y → Φ j y H) ∧ Rl H1 H ∧ Iv H) ⟨[], upd_same, rfl, (fun j y h => by simp at h), R.own _ _ R.start, R.iv0 hi⟩ (fun i H _ h => let ⟨_, _, _, _, e, _⟩ := h; hG H e) ?_ (fun H h => let ⟨acc, a, b, c, d, e⟩ := h; hd H acc a b c d e)
  rintro i x H H' hlt ⟨acc, a, b, c, d, e⟩ hy
  obtain rfl := hY _ _ _ _ hy
  obtain ⟨t1, t2⟩ := turn i x H' acc hlt hy d e a
  refine ⟨t1, ?_⟩
  unfold tYes
  dsimp only
  rw [if_pos rfl]
  refine t2 _ fun y H4 r4 i4 φ => ?_
  have a4 := R.at_ _ _ _ r4 a
  refine ⟨acc, a4, by omega, acc ++ [y], upd_same, by rw [List.length_append, b]; rfl, fun j z hz => ?_, R.own _ _ (R.tr _ _ _ d r4), R.iv _ _ _ i4 a4⟩
  refine st2 _ _ _ _ _ a4 ?_
  by_cases hj : j < acc.length
  · rw [List.getElem?_append_left hj] at hz
    exact st1 _ _ _ _ r4 (c j z hz)
  · rw [List.getElem?_append_right (by omega)] at hz
    have h0 : j - acc.length = 0 := by
      cases q : j - acc.length with
      | zero => rfl
      | succ k => rw [q] at hz; simp at hz
    rw [h0] at hz
    have hz' : y = z := by simpa using hz
    subst hz'
    have : j = i := by omega
    subst this
    exact φ
theorem rel_same {H1 : Hp} {D : Addr} (hD : H1 D = none) : Rel Same (fun _ => True) H1 D := ⟨fun _ _ _ a b => a.trans b, fun _ _ _ e h => e _ _ h, fun _ _ e => e.own hD, Same.refl _, fun _ _ _ _ _ => True.intro, fun _ => True.intro⟩
end SH
end
section
set_option maxHeartbeats 1000000
namespace SH
open PySem PySem.Spec PyProof.Rows L2
open LamX (ExtN Tabs TabB)
/-! ### sorted(xs, key=lambda p: p[:2]), xs tuples of four numbers: some list; tables of code objects grow -/
section
variable {prog : Program} {w : World} {A : Around} {s : Shared}
structure KeyFn (params : Arguments) (x : Str) (scope : Scope) : Prop where
  kind : scope.kind = .function
  co : scope.isCoroutine = false
  gen : scope.isGenerator = false
  nocell : ∀ y ∈ scope.names, y.2 ≠ .cell
  nofree : ∀ y ∈ scope.names, y.2 ≠ .free
  par : scope.names.lookup x = some .local
  bind : ∀ (q : Str) (body : Expr) (cl : List (Str × Addr)) (pm cv ctv v : Value), bindArgs (PySem.W.kla_fn "<lambda>" q params body scope cl pm cv ctv) ⟨[v], []⟩ = pure [(x, v)]
theorem key_call {f c' r : Addr} {x qual : Str} {params : Arguments} {scope : Scope} {cl : List (Str × Addr)} {pm ctv v3 v4 : Value} {i1 i2 : Int} {t1 t2 : Tok} {j : Nat} {p2 p3 p4 p5 : Pos} (F : KeyFn params x scope) (hdx : (x == ("__debug__" : Str)) = false)
    (hroom : A.depth < recursionLimit)
    (hf : s.heap.get? f = some (PySem.W.kla_obj "<lambda>" qual params (.Subscript (.Name x p2) (.Slice none (some (.Constant (.int 2) j p3)) none p4) p5) scope cl pm c' ctv))
    (hcd : s.heap.CodeRec (.ref c') qual) (lim : s.heap.NoLimit) (hv : IsTup s.heap r #[.int i1 t1, .int i2 t2, v3, v4]) :
    wpAny (model prog w) A (call (.ref f) [.ref r]) (PySem.W.KeyPure (.tuple [.int i1, .int i2]) s) (fun _ _ => False) s := by
  have rc : codeAny (model prog w) A (.call (.ref f) ⟨[.ref r], []⟩) (fun q s' => ∃ v, q = .ok (.ret v) ∧ PySem.W.KeyPure (.tuple [.int i1, .int i2]) s v s') s := by
    refine PySem.W.kla_callFunE hroom hf rfl F.co F.gen rfl hcd ?_
    rw [F.bind]
    refine wpAny_pure (wpAny_newFunctionEnv F.nocell (fun y hy => by rw [List.mem_singleton.mp hy]; exact F.par) (fun h₁ hns hsb => ⟨lim.fresh _ hsb, ?_⟩) F.kind)
    have kp : ∀ b o, s.heap.get? b = some o → h₁.get? b = some o := fun b o e => hsb.extBut b o (Nat.ne_of_lt (Heap.lt_size e)) (Heap.get?_push_of_some _ e)
    refine PySem.W.kla_codeExpr (Subscript_ (wpAny_Name (wpAny_loadName_local F.kind F.par hns (v := .ref r) ?_ ?_) hdx))
    · show List.lookup x [(x, Value.ref r)] = _
      simp
    have pT : IsTup h₁ r #[.int i1 t1, .int i2 t2, v3, v4] := let ⟨o, e, z⟩ := hv; ⟨o, kp r o e, z⟩
    generalize newEnv _ _ _ _ _ _ _ _ _ = env
    refine wpAny_Slice ?_
    rw [evalPart_none]
    refine wpAny_pure ?_
    rw [evalPart_some]
    refine wpAny_Constant_int (wpAny_pure ?_)
    have pT2 : ∀ {o : Obj}, IsTup (h₁.push o) r #[.int i1 t1, .int i2 t2, v3, v4] := fun {o} => let ⟨o1, e, z⟩ := pT; ⟨o1, Heap.get?_push_of_some _ e, z⟩
    refine tail_any (ops := [.ref h₁.objs.size, .ref r]) pT2.typeIs PyProof.Rows.slot_tuple_getitem.lookup ?_ (by with_unfolding_all rfl)
    refine HT.getItem_tuple_cut (lo := none) (hi := some 2) pT2 (Heap.IsSliceOf.new ..) .none (.int 2 _) (by intro z; exact absurd (show (2 : Nat) = 4 from z.2) (by decide)) ?_ (by show 4 ≤ sizeLine; decide)
    refine ⟨_, rfl, _, _, rfl, fun b o e => Heap.get?_push_of_some _ (Heap.get?_push_of_some _ (kp b o e)), ?_⟩
    exact Reads.tuple (Heap.get?_push_size _ rfl) rfl rfl (ReadsAll.cons (Reads.int _ _) (ReadsAll.cons (Reads.int _ _) ReadsAll.nil))
  refine wpAny_call (codeAny_mono rc fun q s' hq => ?_)
  obtain ⟨v, rfl, hk⟩ := hq
  exact hk
end
def q4 (p : Int × Int × Int × Int) : List V := [.int p.1, .int p.2.1, .int p.2.2.1, .int p.2.2.2]
def tSortL (K : PySem.W.Frag) (T : List (Addr × Str)) (te : TE) : TE := fun σ H Q => te σ H fun y H1 => ∃ (a : Addr) (rs : List Addr) (ps : List (Int × Int × Int × Int)), y = .ref a ∧ SqL K H1 a (rs.map V.ref) ∧ TP H1 rs (ps.map q4) ∧ Tabs T H1 ∧
  ∀ D H2 ys, ExtN H1 H2 → Tabs T H2 → H2 D = some (.lst ys) → Q (.ref D) H2
theorem SqL.extN {K : PySem.W.Frag} {H H' : Hp} {a : Addr} {xs : List V} (e : ExtN H H') (h : SqL K H a xs) : SqL K H' a xs := by
  rcases h with (h | ⟨o, h⟩) | h
  · exact .inl (.inl (e _ _ h fun _ z => by cases z))
  · exact .inl (.inr ⟨o, e _ _ h fun _ z => by cases z⟩)
  · exact .inr h
theorem SqT.extN {K : PySem.W.Frag} {H H' : Hp} {a : Addr} {xs : List V} (e : ExtN H H') (h : SqT K H a xs) : SqT K H' a xs := by
  rcases h with (h | ⟨o, h⟩) | h
  · exact .inl (.inl (e _ _ h fun _ z => by cases z))
  · exact .inl (.inr ⟨o, e _ _ h fun _ z => by cases z⟩)
  · exact .inr h
theorem TP.extN {H H' : Hp} {rs : List Addr} {xs : List (List V)} (e : ExtN H H') (h : TP H rs xs) : TP H' rs xs := h.mono fun a x q => e _ _ q fun _ z => by cases z
def RT (h : Heap) (v : Value) (p : Int × Int × Int × Int) : Prop := ∃ r t1 t2 v3 v4, v = .ref r ∧ IsTup h r #[.int p.1 t1, .int p.2.1 t2, v3, v4]
theorem each_rt {P : Program} {w : World} {H : Hp} {h : Heap} (hok : HOk P w H h) : ∀ {rs : List Addr} {ps : List (Int × Int × Int × Int)} {its : List Value}, TP H rs (ps.map q4) → Vals (rs.map V.ref) its → PySem.W.EachIs (RT h) its ps
  | [], [], _, _, .nil => .nil
  | r :: rs, p :: ps, _, hT, .cons r1 r2 => by
    refine .cons ?_ (each_rt hok hT.2 r2)
    obtain ⟨_, js, rv, hI⟩ := hok r _ hT.1
    cases r1
    cases rv with
    | cons a1 b1 =>
      cases b1 with
      | cons a2 b2 =>
        cases b2 with
        | cons a3 b3 =>
          cases b3 with
          | cons a4 b4 =>
            cases b4
            obtain ⟨t1, rfl⟩ := a1
            obtain ⟨t2, rfl⟩ := a2
            exact ⟨r, t1, t2, _, _, rfl, hI⟩
  | [], _ :: _, _, hT, _ => hT.elim
  | _ :: _, [], _, hT, _ => hT.elim
def vOf : Value → V
  | .ref r => .ref r
  | _ => .non
theorem vals_rt {h : Heap} : ∀ {out : List Value} {ps : List (Int × Int × Int × Int)}, PySem.W.EachIs (RT h) out ps → Vals (out.map vOf) out
  | _, _, .nil => .nil
  | _, _, .cons ⟨r, _, _, _, _, e, _⟩ b => by
    subst e
    exact .cons rfl (vals_rt b)
theorem pe_sortL {X : Cx} {T : List (Addr × Str)} {c P : Addr} {x : Str} {e : Expr} {te : TE} {params : Arguments} {scope : Scope} {k j : Nat} {p1 p2 p3 p4 p5 p6 p7 p8 : Pos} (hg : Gl X "sorted") (hm : X.mg "sorted" = none) (he : PA X [e] (tCons te tNil)) (F : KeyFn params x scope) (hdx : (x == ("__debug__" : Str)) = false)
    (TB : TabB X.base X.mg c P) (hcode : X.env.code = .ref c) (hmT : (P, X.env.qual ++ "<lambda>") ∈ T) (hu : ∀ p ∈ T, p.1 = P → p.2 = X.env.qual ++ "<lambda>") (hr : Room k X.A) (hdef : defaultsOf params X.env = ([], []))
    (hst : backTo p8 (starEach [e] X.env) = (false, eval e X.env) :: backTo p8 (starEach [] X.env) := by rfl) (hpl : (backTo p8 (starEach [e] X.env)).any (·.1) = false := by rfl)
    (hkw : ∀ pos l, backToKw pos (keywordEach [⟨some (Str.ofString "key"), l, p7⟩] X.env) = [(some (Str.ofString "key"), do let v ← eval l X.env; standAt pos; pure v)] := by intro _ _; rfl) :
    PE X (.Call (.Name "sorted" p1) [e] [⟨some (Str.ofString "key"), .Lambda params (.Subscript (.Name x p2) (.Slice none (some (.Constant (.int 2) j p3)) none p4) p5) scope p6, p7⟩] p8) (tSortL X.K T te) := by
  refine ⟨fun pins s σ H Q I h => ?_⟩
  refine wpAny_Call_Name_kw (ld_blt I hg hm boot_sorted ?_)
  refine PyProof.Rows.callWith_kw (thn (he.run p8 pins s σ H (fun vs H1 => ∃ y, vs = [y] ∧ ∃ (a : Addr) (rs : List Addr) (ps : List (Int × Int × Int × Int)), y = .ref a ∧ SqL X.K H1 a (rs.map V.ref) ∧ TP H1 rs (ps.map q4) ∧ Tabs T H1 ∧ ∀ D H2 ys, ExtN H1 H2 → Tabs T H2 → H2 D = some (.lst ys) → Q (.ref D) H2) I ?_) fun us s1 ⟨vs, H1, I1, r1, q1⟩ => ?_) hst hpl (by rw [hkw]; rfl) (by rw [hkw]; rfl)
  · have h1 : te σ H (fun y H1 => ∃ (a : Addr) (rs : List Addr) (ps : List (Int × Int × Int × Int)), y = .ref a ∧ SqL X.K H1 a (rs.map V.ref) ∧ TP H1 rs (ps.map q4) ∧ Tabs T H1 ∧ ∀ D H2 ys, ExtN H1 H2 → Tabs T H2 → H2 D = some (.lst ys) → Q (.ref D) H2) := h
    have e1 : (fun y H1 => ∃ (a : Addr) (rs : List Addr) (ps : List (Int × Int × Int × Int)), y = .ref a ∧ SqL X.K H1 a (rs.map V.ref) ∧ TP H1 rs (ps.map q4) ∧ Tabs T H1 ∧ ∀ D H2 ys, ExtN H1 H2 → Tabs T H2 → H2 D = some (.lst ys) → Q (.ref D) H2) =
        (fun (y : V) H1 => ∃ z, [y] = [z] ∧ ∃ (a : Addr) (rs : List Addr) (ps : List (Int × Int × Int × Int)), z = .ref a ∧ SqL X.K H1 a (rs.map V.ref) ∧ TP H1 rs (ps.map q4) ∧ Tabs T H1 ∧ ∀ D H2 ys, ExtN H1 H2 → Tabs T H2 → H2 D = some (.lst ys) → Q (.ref D) H2) := by
      funext y H1
      exact propext ⟨fun z => ⟨y, rfl, z⟩, fun ⟨y', e', z⟩ => by cases e'; exact z⟩
    rw [e1] at h1
    exact h1
  · obtain ⟨y, rfl, a, rs, ps, rfl, hL, hP, hT, q⟩ := q1
    cases r1 with
    | cons r rr =>
      cases rr
      cases r
      rw [hkw]
      refine wpAny_evalAll_cons (wpAny_bind (LamX.lam_make2 I1 TB hcode hmT hu hT hdef (fun y hy z => absurd z (F.nofree y hy)) fun f c' pm ctv H2 s2 I2 eN T2 hf hfn hfr hco => ?_))
      refine wpAny_bind (wpAny_standAt (wpAny_pure (wpAny_evalAll_nil ?_)))
      obtain ⟨its, rv, pl, hz⟩ := I2.list (SqL.extN eN hL)
      obtain ⟨⟨oc, vs, t, hoc, hdc, hvc⟩, _, _⟩ := I2.hok c' _ hco
      have hun := hr.un
      have hdp := hr.dp
      have ee := each_rt I2.hok (TP.extN eN hP) rv
      refine PySem.W.sorted_key_data (s := s2) (b := false) (R := RT s2.heap) (fun p : Int × Int × Int × Int => .tuple [.int p.1, .int p.2.1]) pl.isList ee (PySem.W.AllAlike.of fun _ _ => by simp [PySem.W.alike, PySem.W.alikeAll]) (PySem.W.Sortable.tuples fun _ => ⟨_, _, rfl⟩) ?_ (fun p _ => ?_) (ksk_s1 _ _) (fun _ => ksk_l1 _ _) (fun _ => ksk_t1 _ _) ?_ ?_
      · have := rv.length
        have := ee.length
        omega
      · have hd : (PyData.tuple [.int p.1, .int p.2.1]).depth = 1 := by simp [PyData.depth, PyData.depthAll]
        omega
      · rintro v p ⟨r, t1, t2, v3, v4, rfl, hI⟩ hmem h tk kp
        refine key_call (s := { s2 with heap := h, toks := tk }) (f := f) (c' := c') (qual := X.env.qual ++ "<lambda>") F hdx ?_ (kp _ _ hf) ⟨c', oc, vs, t, rfl, kp _ _ hoc, hdc, hvc⟩ (I2.nolimit.keeps kp) (let ⟨o, e, z⟩ := hI; ⟨o, kp _ _ e, z⟩)
        show X.A.depth < _
        omega
      · intro out cc h' tk kp hfr2 hD hlen eo
        refine ⟨.ref (s2.heap.objs.size + 1), _, I2.laid (t' := tk) (o := .lst (out.map vOf)) kp (Nat.le_succ _) ?_, rfl, q _ _ _ (fun b o z n => ?_) (T2.ext ?_) upd_same⟩
        · refine ⟨?_, out, cc, vals_rt eo, hD⟩
          rw [List.length_map, hlen]
          have := rv.length
          have := ee.length
          omega
        · have e2 := eN b o z n
          rw [upd_ne (ne_of_none e2 (I2.hok.fresh (Nat.le_succ _)))]
          exact e2
        · exact Same.new (I2.hok.fresh (Nat.le_succ _))
end SH
end
section
namespace SH
open PySem PySem.Spec PyProof.Rows L2
section
variable {P : Program} {w : World} {G : Gl5} {mg : Str → Option Value} {base : Heap}

/-- what an instance's __init__ has made: the instance at x, the new objects l, all else as in H0 -/
structure Nw (H0 : Hp) (x : Addr) (l : List (Addr × HO)) (H : Hp) : Prop where
  nd : (x :: l.map (·.1)).Nodup
  has : ∀ q ∈ l, H q.1 = some q.2
  old : ∀ b, b ≠ x → b ∉ l.map (·.1) → H b = H0 b
  fr : ∀ q ∈ l, H0 q.1 = none
theorem Nw.start (H0 : Hp) (x : Addr) : Nw H0 x [] H0 := ⟨by simp, fun _ h => by simp at h, fun _ _ _ => rfl, fun _ h => by simp at h⟩
section
variable {H0 H : Hp} {x p : Addr} {l : List (Addr × HO)} {o : HO}
theorem Nw.new (h : Nw H0 x l H) (hx : H x ≠ none) (hp : H p = none) : Nw H0 x ((p, o) :: l) (upd H p o) := by
  have n1 : p ≠ x := fun z => hx (z ▸ hp)
  have n2 : p ∉ l.map (·.1) := fun z => by
    obtain ⟨q, hq, e⟩ := List.mem_map.mp z
    have := h.has q hq
    rw [e, hp] at this
    cases this
  refine ⟨?_, fun q hq => ?_, fun b hb hn => ?_, fun q hq => ?_⟩
  · have := h.nd
    simp only [List.map_cons, List.nodup_cons, List.mem_cons, not_or] at this ⊢
    exact ⟨⟨fun z => n1 z.symm, this.1⟩, n2, this.2⟩
  · rcases List.mem_cons.mp hq with e | e
    · subst e
      exact upd_same
    · rw [upd_ne (fun z => n2 (List.mem_map.mpr ⟨q, e, z⟩))]
      exact h.has q e
  · simp only [List.map_cons, List.mem_cons, not_or] at hn
    rw [upd_ne hn.1]
    exact h.old b hb hn.2
  · rcases List.mem_cons.mp hq with e | e
    · subst e
      have := h.old p n1 n2
      rw [hp] at this
      exact this.symm
    · exact h.fr q e
theorem Nw.at (h : Nw H0 x l H) : Nw H0 x l (upd H x o) := by
  refine ⟨h.nd, fun q hq => ?_, fun b hb hn => ?_, h.fr⟩
  · have := h.nd
    rw [upd_ne (fun z => (List.nodup_cons.mp this).1 (List.mem_map.mpr ⟨q, hq, z⟩))]
    exact h.has q hq
  · rw [upd_ne hb]
    exact h.old b hb hn
theorem Nw.keep (h : Nw H0 x l H) {b : Addr} {u : HO} (e : H0 b = some u) (n : b ≠ x) : H b = some u := by
  rw [h.old b n fun z => by
    obtain ⟨q, hq, e'⟩ := List.mem_map.mp z
    have := h.fr q hq
    rw [e', e] at this
    cases this]
  exact e
end
def New (te : TE) (o : HO) : Prop := ∀ σ H Q, (∀ p, H p = none → Q (.ref p) (upd H p o)) → te σ H Q
theorem new_00 {a b : V} : New (tLst (tCons (tC a) (tCons (tC b) tNil))) (.lst [a, b]) := fun σ H Q h => ⟨by show 2 ≤ sizeLine; decide, h⟩
theorem new_1 {a : V} : New (tLst (tCons (tC a) tNil)) (.lst [a]) := fun σ H Q h => ⟨by show 1 ≤ sizeLine; decide, h⟩
theorem new_e : New (tLst tNil) (.lst []) := fun σ H Q h => ⟨by show 0 ≤ sizeLine; decide, h⟩
section
variable {K : PySem.W.Frag} {ta te : TE} {D : Ends} {σ : L2.St} {H0 H : Hp} {a C dx : Addr} {fs : List (Str × V)} {f : Str} {o : HO} {l : List (Addr × HO)} {t2 : TS} {v : V} {ar : TA} {vs : List V}
theorem y_fldN (n : New te o) (nw : Nw H0 a l H) (hp : H a = some (.ins C dx fs)) (ho : ∀ H, Val ta σ H (.ref a)) (hc : Cls K C) (hn : NoAttr K C f) (hl : fs.length < 1000) (q : ∀ p H', Nw H0 a ((p, o) :: l) H' → H' a = some (.ins C dx (putF f (.ref p) fs)) → t2 D σ H') : tSeq (sFld K ta te f) t2 D σ H :=
  n σ H _ fun p hpn => ho _ _ ⟨_, _, _, _, rfl, (upd_ne (ne_of_none hp hpn)).trans hp, hc, hn, hl, q p _ (nw.new (by rw [hp]; simp) hpn).at upd_same⟩
theorem x_fldN (n : New te o) (nw : Nw H0 a l H) (hp : H a = some (.ins C dx fs)) (ho : ∀ H, Val ta σ H (.ref a)) (hc : Cls K C) (hn : NoAttr K C f) (hl : fs.length < 1000) (q : ∀ p H', Nw H0 a ((p, o) :: l) H' → H' a = some (.ins C dx (putF f (.ref p) fs)) → D.nx σ H') : sFld K ta te f D σ H :=
  n σ H _ fun p hpn => ho _ _ ⟨_, _, _, _, rfl, (upd_ne (ne_of_none hp hpn)).trans hp, hc, hn, hl, q p _ (nw.new (by rw [hp]; simp) hpn).at upd_same⟩
theorem y_fldV (n : Val te σ H v) (nw : Nw H0 a l H) (hp : H a = some (.ins C dx fs)) (ho : ∀ H, Val ta σ H (.ref a)) (hc : Cls K C) (hn : NoAttr K C f) (hl : fs.length < 1000) (q : ∀ H', Nw H0 a l H' → H' a = some (.ins C dx (putF f v fs)) → t2 D σ H') : tSeq (sFld K ta te f) t2 D σ H :=
  n _ (ho _ _ ⟨_, _, _, _, rfl, hp, hc, hn, hl, q _ nw.at upd_same⟩)
theorem y_fldT (n : ValA ar σ H vs) (hv : vs.length ≤ sizeLine) (nw : Nw H0 a l H) (hp : H a = some (.ins C dx fs)) (ho : ∀ H, Val ta σ H (.ref a)) (hc : Cls K C) (hn : NoAttr K C f) (hl : fs.length < 1000) (q : ∀ p H', Nw H0 a ((p, .tup vs) :: l) H' → H' a = some (.ins C dx (putF f (.ref p) fs)) → t2 D σ H') : tSeq (sFld K ta (tTup ar) f) t2 D σ H :=
  n _ ⟨hv, fun p hpn => ho _ _ ⟨_, _, _, _, rfl, (upd_ne (ne_of_none hp hpn)).trans hp, hc, hn, hl, q p _ (nw.new (by rw [hp]; simp) hpn).at upd_same⟩⟩
theorem y_fldLL {n1 n2 : TE} (m1 : New n1 (.lst [])) (m2 : New n2 (.lst [])) (nw : Nw H0 a l H) (hp : H a = some (.ins C dx fs)) (ho : ∀ H, Val ta σ H (.ref a)) (hc : Cls K C) (hn : NoAttr K C f) (hl : fs.length < 1000)
    (q : ∀ p1 p2 p H', Nw H0 a ((p, .lst [.ref p1, .ref p2]) :: (p2, .lst []) :: (p1, .lst []) :: l) H' → H' a = some (.ins C dx (putF f (.ref p) fs)) → t2 D σ H') : tSeq (sFld K ta (tLst (tCons n1 (tCons n2 tNil))) f) t2 D σ H := by
  refine m1 σ H _ fun p1 h1 => m2 σ _ _ fun p2 h2 => ⟨by show 2 ≤ sizeLine; decide, fun p h3 => ?_⟩
  have e1 := (upd_ne (o := .lst []) (ne_of_none hp h1)).trans hp
  have e2 := (upd_ne (o := .lst []) (ne_of_none e1 h2)).trans e1
  have e3 := (upd_ne (o := .lst [.ref p1, .ref p2]) (ne_of_none e2 h3)).trans e2
  exact ho _ _ ⟨_, _, _, _, rfl, e3, hc, hn, hl, q p1 p2 p _ (((nw.new (by rw [hp]; simp) h1).new (by rw [e1]; simp) h2).new (by rw [e2]; simp) h3).at upd_same⟩
end
def flowF0 (ln stg stk a3 a4 a5 a6 a7 a8 a9 a10 g a11 : Addr) : List (Str × V) := [("line", .ref ln), ("settings", .ref stg), ("tick", .int 0), ("stock", .ref stk), ("out", .ref a3), ("known", .ref a4), ("small", .ref a5), ("come", .ref a6),
  ("taken", .ref a7), ("full", .ref a8), ("first", .ref a9), ("long", .ref a10), ("flight", .ref g), ("log", .ref a11)]
def flowN (n f s1 s2 stg stk a3 a4 a5 a6 a7 a8 a9 a10 g a11 : Addr) : List (Addr × HO) := [(a11, .lst []), (g, .lst []), (a10, .lst [.int 0, .int 0]), (a9, .lst [.non, .non]), (a8, .lst [.int 0, .int 0]), (a7, .lst [.int 0, .int 0]), (a6, .lst [.int 0, .int 0]),
  (a5, .lst [.int 0, .int 0]), (a4, .lst [.int 0, .int 0]), (a3, .lst [.int 0, .int 0]), (stk, .lst [.ref s1, .ref s2]), (s2, .lst []), (s1, .lst []), (stg, .tup [.ref n, .ref f])]
def sp_Flow (G : Gl5) : Sp := fun vs H Q _ => ∃ x ln se L dx, vs = [.ref x, .ref ln] ∧ H x = some (.ins G.F dx []) ∧ LineAt G H ln se L ∧
  ∀ s1 s2 stg stk a3 a4 a5 a6 a7 a8 a9 a10 g a11 H', Nw H x (flowN (se false) (se true) s1 s2 stg stk a3 a4 a5 a6 a7 a8 a9 a10 g a11) H' → H' x = some (.ins G.F dx (flowF0 ln stg stk a3 a4 a5 a6 a7 a8 a9 a10 g a11)) → Q .non H'
def courseF0 (sp bg : Addr) (P : Prg) : List (Str × V) := [("steps", .ref sp), ("again", .bl false), ("place", .int 0), ("until", .non), ("ended", ov (co0 P).ended), ("begun", .ref bg)]
def sp_Course (G : Gl5) : Sp := fun vs H Q _ => ∃ x sp P dx, vs = [.ref x, .ref sp, .bl false] ∧ H x = some (.ins G.C dx []) ∧ LT H sp (P.map stepV) ∧ ∀ bg H', Nw H x [(bg, .lst [.int 0])] H' → H' x = some (.ins G.C dx (courseF0 sp bg P)) → Q .non H'
theorem ll {α : Type} {n : Nat} {l : List α} (h : l.length < n) (k : n ≤ 1000) : l.length < 1000 := Nat.lt_of_lt_of_le h k
abbrev N_Flow_init : List Str := ["self", "line"]
theorem sc_Flow_init : FnScope N_Flow_init ["self", "line"] (defScope s_Flow_init) := C8.fnScope_by (by decide +kernel)
theorem ok_Flow_init (T : Txt G mg) {f : Addr} {fd : FuncData} (F : FnP G.K "__init__" "Flow.__init__" s_Flow_init f fd) (M : Mk G.K G.F f) : C8.Mak P w G.K mg base 1 "Flow" G.F (sp_Flow G) [] := by
  refine mak_mk M T.gF F (F.bindsN fun _ _ _ _ _ _ us hl => match us, hl with | [_, _], _ => rfl) sc_Flow_init (fun vs H Q E h => ?_) (fun cdv A outer s H vs Q E hr h => ?_)
  · obtain ⟨x, ln, se, L, dx, rfl, hx, hl, q⟩ := h
    rfl
  · obtain ⟨x, ln, se, L, dx, rfl, hx, hl, q⟩ := h
    refine ⟨_, (pss_cons (ps_fld (pv 0) (pv 1) rfl)
    (pss_cons (ps_fld (pv 0) (pe_tup (pa_cons (pe_fld (pv 1) rfl) (pa_cons (pe_fld (pv 1) rfl) pa_nil))) rfl)
    (pss_cons (ps_fld (pv 0) pe_int rfl)
    (pss_cons (ps_fld (pv 0) (pe_lst (pa_cons (pe_lst pa_nil) (pa_cons (pe_lst pa_nil) pa_nil))) rfl)
    (pss_cons (ps_fld (pv 0) (pe_lst (pa_cons pe_int (pa_cons pe_int pa_nil))) rfl)
    (pss_cons (ps_fld (pv 0) (pe_lst (pa_cons pe_int (pa_cons pe_int pa_nil))) rfl)
    (pss_cons (ps_fld (pv 0) (pe_lst (pa_cons pe_int (pa_cons pe_int pa_nil))) rfl)
    (pss_cons (ps_fld (pv 0) (pe_lst (pa_cons pe_int (pa_cons pe_int pa_nil))) rfl)
    (pss_cons (ps_fld (pv 0) (pe_lst (pa_cons pe_int (pa_cons pe_int pa_nil))) rfl)
    (pss_cons (ps_fld (pv 0) (pe_lst (pa_cons pe_int (pa_cons pe_int pa_nil))) rfl)
    (pss_cons (ps_fld (pv 0) (pe_lst (pa_cons pe_non (pa_cons pe_non pa_nil))) rfl)
    (pss_cons (ps_fld (pv 0) (pe_lst (pa_cons pe_int (pa_cons pe_int pa_nil))) rfl)
    (pss_cons (ps_fld (pv 0) (pe_lst pa_nil) rfl)
    (pss_one (ps_fld (pv 0) (pe_lst pa_nil) rfl))))))))))))))), ?_⟩
    have hs : ∀ H, Val (tVar 0) (start N_Flow_init [V.ref x, V.ref ln]) H (.ref x) := fun _ => val_var rfl
    obtain ⟨dxl, fsl, l1, l2, l3, l4, l5⟩ := hl.line
    have nln : ln ≠ x := fun z => by
      rw [z, hx] at l1
      injection l1 with l1
      injection l1 with _ _ l1
      rw [← l1] at l2
      cases l2
    refine y_fldV (v_var rfl) (Nw.start H x) hx hs T.cF T.F_line (by decide) fun H1 w1 e1 => ?_
    have hln : H1 ln = some (.ins G.L dxl fsl) := w1.keep l1 nln
    refine y_fldT (va_cons (v_fl (v_var rfl) hln T.cL T.L_near l4) (va_cons (v_fl (v_var rfl) hln T.cL T.L_far l5) va_nil)) (by show 2 ≤ sizeLine; decide) w1 e1 hs T.cF T.F_settings (ll (pl pl0) (by decide)) fun stg H2 w2 e2 => ?_
    refine y_fldV v_c w2 e2 hs T.cF T.F_tick (ll (pl (pl pl0)) (by decide)) fun H3 w3 e3 => ?_
    refine y_fldLL new_e new_e w3 e3 hs T.cF T.F_stock (ll (pl (pl (pl pl0))) (by decide)) fun s1 s2 stk H4 w4 e4 => ?_
    refine y_fldN new_00 w4 e4 hs T.cF T.F_out (ll (pl (pl (pl (pl pl0)))) (by decide)) fun a3 H5 w5 e5 => ?_
    refine y_fldN new_00 w5 e5 hs T.cF T.F_known (ll (pl (pl (pl (pl (pl pl0))))) (by decide)) fun a4 H6 w6 e6 => ?_
    refine y_fldN new_00 w6 e6 hs T.cF T.F_small (ll (pl (pl (pl (pl (pl (pl pl0)))))) (by decide)) fun a5 H7 w7 e7 => ?_
    refine y_fldN new_00 w7 e7 hs T.cF T.F_come (ll (pl (pl (pl (pl (pl (pl (pl pl0))))))) (by decide)) fun a6 H8 w8 e8 => ?_
    refine y_fldN new_00 w8 e8 hs T.cF T.F_taken (ll (pl (pl (pl (pl (pl (pl (pl (pl pl0)))))))) (by decide)) fun a7 H9 w9 e9 => ?_
    refine y_fldN new_00 w9 e9 hs T.cF T.F_full (ll (pl (pl (pl (pl (pl (pl (pl (pl (pl pl0))))))))) (by decide)) fun a8 H10 w10 e10 => ?_
    refine y_fldN new_00 w10 e10 hs T.cF T.F_first (ll (pl (pl (pl (pl (pl (pl (pl (pl (pl (pl pl0)))))))))) (by decide)) fun a9 H11 w11 e11 => ?_
    refine y_fldN new_00 w11 e11 hs T.cF T.F_long (ll (pl (pl (pl (pl (pl (pl (pl (pl (pl (pl (pl pl0))))))))))) (by decide)) fun a10 H12 w12 e12 => ?_
    refine y_fldN new_e w12 e12 hs T.cF T.F_flight (ll (pl (pl (pl (pl (pl (pl (pl (pl (pl (pl (pl (pl pl0)))))))))))) (by decide)) fun g H13 w13 e13 => ?_
    refine x_fldN new_e w13 e13 hs T.cF T.F_log (ll (pl (pl (pl (pl (pl (pl (pl (pl (pl (pl (pl (pl (pl pl0))))))))))))) (by decide)) fun a11 H14 w14 e14 => ?_
    exact q s1 s2 stg stk a3 a4 a5 a6 a7 a8 a9 a10 g a11 _ w14 e14
abbrev N_Course_init : List Str := ["self", "steps", "again"]
theorem sc_Course_init : FnScope N_Course_init ["self", "steps", "again"] (defScope s_Course_init) := C8.fnScope_by (by decide +kernel)
theorem ok_Course_init (T : Txt G mg) {f : Addr} {fd : FuncData} (F : FnP G.K "__init__" "Course.__init__" s_Course_init f fd) (M : Mk G.K G.C f) : C8.Mak P w G.K mg base 1 "Course" G.C (sp_Course G) [] := by
  refine mak_mk M T.gC F (F.bindsN fun _ _ _ _ _ _ us hl => match us, hl with | [_, _, _], _ => rfl) sc_Course_init (fun vs H Q E h => ?_) (fun cdv A outer s H vs Q E hr h => ?_)
  · obtain ⟨x, sp, PP, dx, rfl, hx, hsp, q⟩ := h
    rfl
  · obtain ⟨x, sp, PP, dx, rfl, hx, hsp, q⟩ := h
    refine ⟨_, (pss_cons (ps_fld (pv 0) (pv 1) rfl)
    (pss_cons (ps_fld (pv 0) (pv 2) rfl)
    (pss_cons (ps_fld (pv 0) pe_int rfl)
    (pss_cons (ps_fld (pv 0) pe_non rfl)
    (pss_cons (ps_fld (pv 0) (pe_ifExp (pt_cmpR op_eq (pe_callB (r := rLenK G.K) call_lenK (by rfl) T.z_len (by decide +kernel) (pa_cons (pv 1) pa_nil)) pe_int (nomark _)) pe_int pe_non) rfl)
    (pss_one (ps_fld (pv 0) (pe_lst (pa_cons pe_int pa_nil)) rfl))))))), ?_⟩
    have hs : ∀ H, Val (tVar 0) (start N_Course_init [V.ref x, V.ref sp, V.bl false]) H (.ref x) := fun _ => val_var rfl
    obtain ⟨rs, h1, h2⟩ := hsp
    have nsp : sp ≠ x := fun z => by rw [z, hx] at h1; cases h1
    have hlen : rs.length = PP.length := by rw [h2.len, List.length_map]
    refine y_fldV (v_var rfl) (Nw.start H x) hx hs T.cC T.C_steps (by decide) fun H1 w1 e1 => ?_
    refine y_fldV (v_var rfl) w1 e1 hs T.cC T.C_again (ll (pl pl0) (by decide)) fun H2 w2 e2 => ?_
    refine y_fldV v_c w2 e2 hs T.cC T.C_place (ll (pl (pl pl0)) (by decide)) fun H3 w3 e3 => ?_
    refine y_fldV v_c w3 e3 hs T.cC T.C_until (ll (pl (pl (pl pl0))) (by decide)) fun H4 w4 e4 => ?_
    have hsq : SqL G.K H4 sp (rs.map V.ref) := SqL.of (w4.keep h1 nsp)
    refine y_fldV (v := ov (co0 PP).ended) ?_ w4 e4 hs T.cC T.C_ended (ll (pl (pl (pl (pl pl0)))) (by decide)) fun H5 w5 e5 => ?_
    · refine v_if (b := decide (PP.length = 0)) (a_T (v_is (v_eq (v_lenL (v_var rfl) hsq) v_c rfl) ?_)) (fun hb => ?_) (fun hb => ?_)
      · rw [List.length_map, hlen]
        refine congrArg V.bl ?_
        by_cases h0 : PP.length = 0
        · rw [decide_eq_true h0, decide_eq_true]
          rw [h0]
          rfl
        · rw [decide_eq_false h0, decide_eq_false]
          intro z
          have := V.int.inj z
          omega
      · have h0 := of_decide_eq_true hb
        exact v_is v_c (by unfold co0; rw [if_pos h0]; rfl)
      · have h0 := of_decide_eq_false hb
        exact v_is v_c (by unfold co0; rw [if_neg h0]; rfl)
    refine x_fldN new_1 w5 e5 hs T.cC T.C_begun (ll (pl (pl (pl (pl (pl pl0))))) (by decide)) fun bg H6 w6 e6 => ?_
    exact q bg _ w6 e6

end
end SH
end
section
namespace SH
open PySem PySem.Spec PyProof.Rows L2
open LamX (ExtN Tabs TabB)
section
variable {P : Program} {w : World} {G : Gl5} {mg : Str → Option Value} {base : Heap}

def lamQ : Str := ("Run.__init__" : Str) ++ ".<locals>." ++ "<lambda>"
abbrev TbOk (tP : Addr) (H : Hp) : Prop := Tabs [(tP, lamQ)] H
def CodeAt (K : PySem.W.Frag) (f c : Addr) : Prop := ∀ (oc : Value) (od : Option Addr) (fd : FuncData) (osl : Array (Option Value)) (c' : Addr), K.lookup f = some ⟨oc, od, .func fd, osl⟩ → fd.code = .ref c' → c' = c
section
variable {P : Program} {w : World} {K : PySem.W.Frag} {mg : Str → Option Value} {base : Heap}
theorem mak_mkC {x qual : Str} {C c : Addr} {st : Stmt} {f : Addr} {fd : FuncData} {N ps : List Str} {k : Nat} {sp : Sp} (hcode : CodeAt K f c) (M : Mk K C f) (hm : mg x = some (.ref C)) (F : FnP K "__init__" qual st f fd) (b : Binds K fd ps []) (S : FnScope N ps (defScope st)) (len : ∀ vs H Q E, sp vs H Q E → vs.length = ps.length)
    (hbody : ∀ (A : Around) (outer : List Env) (s : Shared) (H : Hp) (vs : List V) (Q : VK) (E : XK), Room k (A.deeper (envOfC qual (defScope st) s.heap.objs.size f (.ref c))) → sp vs H Q E →
      ∃ t, PSs (cxOf C8.CX0 P w K mg base N qual (defScope st) f (.ref c) A outer s H E).nox (defBody st) t ∧ t { nx := fun _ H' => Q .non H', rt := Q } (start N vs) H) : C8.Mak P w K mg base (k + 1) x C sp [] := by
  refine ⟨f, fd, ps, [], M, ?_, hm, b, .nil⟩
  obtain ⟨oc, od, dV, kV, doc, pm, an, cdv, ct, osl, rfl, lk, hcd, _, _⟩ := F.ex
  obtain ⟨c0, rfl⟩ := He.codeIn_ref hcd
  have hc : c0 = c := hcode _ _ _ _ _ lk rfl
  subst hc
  exact fn_of lk hcd S len fun A outer s H vs Q E hr hsp => let ⟨t, p, q⟩ := hbody A outer s H vs Q E hr hsp; ⟨t, p.nox, q⟩
end
/-- all but the object at x and the tables stay -/
def Xr (x : Addr) (H H' : Hp) : Prop := ∀ b o, H b = some o → b ≠ x → (∀ ps, o ≠ .tbl ps) → H' b = some o
section
variable {x : Addr} {H H1 H2 H' : Hp}
theorem Xr.refl : Xr x H H := fun _ _ e _ _ => e
theorem Xr.trans (a : Xr x H H1) (b : Xr x H1 H2) : Xr x H H2 := fun c o e n t => b c o (a c o e n t) n t
theorem Xr.ext (e : ExtN H H') : Xr x H H' := fun b o h _ t => e b o h t
theorem Xr.same (e : Same H H') : Xr x H H' := fun b o h _ _ => e b o h
theorem Xr.at {o : HO} : Xr x H (upd H x o) := fun b u e n _ => by rw [upd_ne n]; exact e
theorem Xr.tup (k : Xr x H H') {a : Addr} {xs : List V} (e : H a = some (.tup xs)) (n : a ≠ x) : H' a = some (.tup xs) := k _ _ e n fun _ z => by cases z
theorem Xr.lst (k : Xr x H H') {a : Addr} {xs : List V} (e : H a = some (.lst xs)) (n : a ≠ x) : H' a = some (.lst xs) := k _ _ e n fun _ z => by cases z
theorem Xr.ins (k : Xr x H H') {a C dx : Addr} {fs : List (Str × V)} (e : H a = some (.ins C dx fs)) (n : a ≠ x) : H' a = some (.ins C dx fs) := k _ _ e n fun _ z => by cases z
theorem LT.xr {a : Addr} {xs : List (List V)} (h : LT H a xs) (k : Xr x H H') (n : a ≠ x) (nt : NoTup H x) : LT H' a xs := by
  obtain ⟨rs, h1, h2⟩ := h
  exact ⟨rs, k.lst h1 n, h2.mono fun b y e => k.tup e fun z => nt y (z ▸ e)⟩
variable {G : Gl5} {e : En} {g : Addr} {r : RS}
theorem W.xr (w : W G e g H r) (j : Jk e g x) (nt : NoTup H x) (k : Xr x H H') : W G (SH.reb e g H') g H' r := by
  have key : ∀ {b : Addr} {o : HO}, e.H0 b = some o → (∀ ps, o ≠ .tbl ps) → rest e g H' b = some o := fun {b o} h t => by
    have n : b ≠ x := fun z => by rw [z, j.h0] at h; cases h
    have h' := k _ _ (w.same _ _ h) n t
    rw [rest_at]
    · exact h'
    · intro i hi q
      rw [← q, w.im.fr i hi] at h
      cases h
    · intro q
      rw [q, w.g0] at h
      cases h
  have hi := w.im
  refine ⟨⟨hi.inj, fun i h => ?_, hi.line.same (fun _ _ _ _ h => key h (fun _ z => by cases z)), key hi.stg (fun _ z => by cases z), key hi.stk (fun _ z => by cases z), fun i => ?_, hi.lok, hi.pok⟩, fun b o h => ?_, ?_, w.ng, fun i => ?_⟩
  · show rest e g H' (e.a i) = none
    unfold rest
    rw [if_pos (.inl ⟨i, h, rfl⟩)]
  · obtain ⟨rs, h1, h2⟩ := hi.sp i
    exact ⟨rs, key h1 (fun _ z => by cases z), h2.mono fun a y q => key q (fun _ z => by cases z)⟩
  · have h' : rest e g H' b = some o := h
    unfold rest at h'
    split at h'
    · cases h'
    · exact h'
  · show rest e g H' g = none
    unfold rest
    rw [if_pos (.inr rfl)]
  · have h := w.cell i
    match i, h with
    | 0, h => exact k.ins h (j.ne 0 (by omega))
    | 1, h => exact LT.xr h k (j.ne 1 (by omega)) nt
    | 2, h => exact LT.xr h k (j.ne 2 (by omega)) nt
    | 3, h => exact k.lst h (j.ne 3 (by omega))
    | 4, h => exact k.lst h (j.ne 4 (by omega))
    | 5, h => exact k.lst h (j.ne 5 (by omega))
    | 6, h => exact k.lst h (j.ne 6 (by omega))
    | 7, h => exact k.lst h (j.ne 7 (by omega))
    | 8, h => exact k.lst h (j.ne 8 (by omega))
    | 9, h => exact k.lst h (j.ne 9 (by omega))
    | 10, ⟨a, b, h⟩ => exact ⟨a, b, k.lst h (j.ne 10 (by omega))⟩
    | 11, h => exact LT.xr h k (j.ne 11 (by omega)) nt
    | 12, h => exact k.ins h (j.ne 12 (by omega))
    | 13, h => exact k.ins h (j.ne 13 (by omega))
    | 14, h => exact LT.xr h k j.ng nt
    | n + 15, _ => exact True.intro
end
theorem TbOk.same {tP : Addr} {H H' : Hp} (t : TbOk tP H) (e : Same H H') : TbOk tP H' := Tabs.ext t e
/-- the object at x, no table and no code, written -/
theorem TbOk.at {tP x C dx : Addr} {fs fs' : List (Str × V)} {H : Hp} (t : TbOk tP H) (hx : H x = some (.ins C dx fs)) : TbOk tP (upd H x (.ins C dx fs')) := fun p hp => by
  obtain ⟨ps, h1, h2, h3⟩ := t p hp
  refine ⟨ps, by rw [upd_ne (fun z => by rw [z, hx] at h1; cases h1)]; exact h1, h2, fun pos cv hc => ?_⟩
  obtain ⟨c, e1, e2⟩ := h3 pos cv hc
  refine ⟨c, e1, ?_⟩
  rw [upd_ne (fun z => by rw [z, hx] at e2; unfold LamX.CodeO at e2; cases e2)]
  exact e2
theorem y_fldX {K : PySem.W.Frag} {ta te : TE} {D : Ends} {σ : L2.St} {H : Hp} {a C dx : Addr} {fs : List (Str × V)} {f : Str} {t2 : TS} {Φ : V → Hp → Prop} (hp : H a = some (.ins C dx fs)) (n : ∀ Q : VK, (∀ v H', ExtN H H' → Φ v H' → Q v H') → te σ H Q)
    (ho : ∀ H, Val ta σ H (.ref a)) (hc : Cls K C) (hn : NoAttr K C f) (hl : fs.length < 1000) (q : ∀ v H', ExtN H H' → Φ v H' → t2 D σ (upd H' a (.ins C dx (putF f v fs)))) : tSeq (sFld K ta te f) t2 D σ H :=
  n _ fun v H' e φ => ho _ _ ⟨_, _, _, _, rfl, e _ _ hp (fun _ z => by cases z), hc, hn, hl, q v H' e φ⟩
structure Sr (G : Gl5) (tP : Addr) (H : Hp) (x dx ep : Addr) (a b : Option Int) (H' : Hp) (fs : List (Str × V)) : Prop where
  hx : H' x = some (.ins G.R dx fs)
  k : Xr x H H'
  t : TbOk tP H'
  he : H' ep = some (.tup [ov a, ov b])
  nep : ep ≠ x
theorem Sr.ext {G : Gl5} {tP : Addr} {H : Hp} {x dx ep : Addr} {a b : Option Int} {H' H2 : Hp} {fs : List (Str × V)} (s : Sr G tP H x dx ep a b H' fs) (e : ExtN H' H2) (t : TbOk tP H2) : Sr G tP H x dx ep a b H2 fs :=
  ⟨e _ _ s.hx (fun _ z => by cases z), s.k.trans (Xr.ext e), t, e _ _ s.he (fun _ z => by cases z), s.nep⟩
theorem Sr.at {G : Gl5} {tP : Addr} {H : Hp} {x dx ep : Addr} {a b : Option Int} {H' : Hp} {fs fs' : List (Str × V)} (s : Sr G tP H x dx ep a b H' fs) : Sr G tP H x dx ep a b (upd H' x (.ins G.R dx fs')) fs' :=
  ⟨upd_same, s.k.trans Xr.at, s.t.at s.hx, (upd_ne s.nep).trans s.he, s.nep⟩
theorem y_fldS {G : Gl5} {mg : Str → Option Value} (T : Txt G mg) {tP : Addr} {H : Hp} {x dx ep : Addr} {a b : Option Int} {H' : Hp} {fs : List (Str × V)} {ta te : TE} {D : Ends} {σ : L2.St} {f : Str} {t2 : TS} (s : Sr G tP H x dx ep a b H' fs)
    (n : ∀ Q : VK, (∀ v H2, ExtN H' H2 → TbOk tP H2 → Q v H2) → te σ H' Q) (ho : ∀ H, Val ta σ H (.ref x)) (hn : NoAttr G.K G.R f) (hl : fs.length < 1000) (q : ∀ v H2, Sr G tP H x dx ep a b H2 (putF f v fs) → t2 D σ H2) : tSeq (sFld G.K ta te f) t2 D σ H' :=
  n _ fun v H2 e t => ho _ _ ⟨_, _, _, _, rfl, (s.ext e t).hx, T.cR, hn, hl, q v _ (s.ext e t).at⟩
def pc4 (p : Pc) : Int × Int × Int × Int := (p.tick, bi p.side, p.amount, p.ans)
def plusW (w : Int) (y : List V) : V := match y with
  | .int t :: _ => .int (t + w)
  | _ => .non
theorem fm_ones {p : List V → Bool} : ∀ {rs : List Addr} {xs : List (List V)}, ∃ ns : List Int, fm p (fun _ _ => .int 1) rs xs = ns.map V.int
  | [], xs => ⟨[], fm_nil _ _ _⟩
  | r :: rs, [] => ⟨[], rfl⟩
  | r :: rs, x :: xs => by
    obtain ⟨ns, h⟩ := fm_ones (p := p) (rs := rs) (xs := xs)
    show ∃ ns : List Int, (if p x = true then V.int 1 :: fm p (fun _ _ => .int 1) rs xs else fm p (fun _ _ => .int 1) rs xs) = ns.map V.int
    rw [h]
    split
    · exact ⟨1 :: ns, rfl⟩
    · exact ⟨ns, rfl⟩
theorem x_lstS {K : PySem.W.Frag} {te : TE} {z : Int} {σ : L2.St} {H : Hp} {Q : VK} (h : te σ H fun y H1 => ∃ (p : Addr) (xs : List V), y = .ref p ∧ (SqT K H1 p xs ∨ SqL K H1 p xs) ∧ (V.int z :: (xs ++ [])).length ≤ sizeLine ∧ ∀ l, H1 l = none → Q (.ref l) (upd H1 l (.lst (V.int z :: (xs ++ []))))) : tLst (tCons (tC (.int z)) (StX.tStar K te tNil)) σ H Q := h
def sp_Run (G : Gl5) (tP : Addr) : Sp := fun vs H Q _ => ∃ x e g r cs dx, vs = [.ref x, .ref (e.a 0), .ref cs] ∧ H x = some (.ins G.R dx []) ∧ W G e g H r ∧ Jk e g x ∧ cs ≠ x ∧ H cs = some (.tup [.ref (e.a 12), .ref (e.a 13)]) ∧ r.s.log.length ≤ 100000 ∧ TbOk tP H ∧
  ∀ H' fs ep, Xr x H H' → TbOk tP H' → H' x = some (.ins G.R dx fs) → lk fs "ends" = some (.ref ep) → H' ep = some (.tup [ov (r.c false).ended, ov (r.c true).ended]) → Q .non H'
abbrev N_Run_init : List Str := ["self", "flow", "courses", "course", "side", "piece"]
theorem sc_Run_init : FnScope N_Run_init ["self", "flow", "courses"] (defScope s_Run_init) := C8.fnScope_by (by decide +kernel)
theorem ok_Run_init (T : Txt G mg) {tP tc : Addr} {f : Addr} {fd : FuncData} (F : FnP G.K "__init__" "Run.__init__" s_Run_init f fd) (M : Mk G.K G.R f) (hcode : CodeAt G.K f tc) (TB : TabB base mg tc tP) (m_Flow_fresh : C8.Met P w G.K mg base 1 G.F "fresh" (sp_fresh G) []) : C8.Mak P w G.K mg base 2 "Run" G.R (sp_Run G tP) [] := by
  refine mak_mkC hcode M T.gR F (F.bindsN fun _ _ _ _ _ _ us hl => match us, hl with | [_, _, _], _ => rfl) sc_Run_init (fun vs H Q E h => ?_) (fun A outer s H vs Q E hr h => ?_)
  · obtain ⟨x, e, g, r, cs, dx, rfl, _⟩ := h
    rfl
  · obtain ⟨x, e, g, r, cs, dx, rfl, hx, hw, jx, ncx, hcs, hlog, htb, q⟩ := h
    refine ⟨_, (pss_cons (ps_fld (pv 0) (pe_callTy (r := rTupK G.K) call_tupK (by rfl) T.z_tuple (by decide +kernel) (pa_cons (pe_lc (own := [("course", 3)]) (g := gName 3) (tt := tYes) rfl sc_Run_init.nd (pi_tup (pv 2)) (blkOk_by (own := [("course", 3)]) (N := N_Run_init) (sc := defScope s_Run_init) (by decide +kernel)) (fun _ _ _ _ _ => (pg_name (i := 3) sc_Run_init.nd rfl (Or.inl rfl))) (fun _ _ _ _ _ => pts_nil) (fun _ _ _ _ _ => (pe_fldK (K := G.K) (pv 3) rfl rfl))) pa_nil)) rfl)
    (pss_cons (ps_fld (pv 0) (pe_cmpR (r := rIn G.K false) op_in_seq pe_non (pe_fld (pv 0) rfl) (by rfl)) rfl)
    (pss_cons (ps_fld (pv 0) (pe_callTy (r := rTupK G.K) call_tupK (by rfl) T.z_tuple (by decide +kernel) (pa_cons (pe_sortL (T := [(tP, lamQ)]) (by rfl) T.z_sorted (pa_cons (pe_fld (pv 1) rfl) pa_nil) (by exact ⟨rfl, rfl, rfl, by decide, by decide, rfl, fun _ _ _ _ _ _ _ => rfl⟩) (by decide) TB rfl (List.mem_singleton.mpr rfl) (fun p hp _ => by rw [List.mem_singleton.mp hp]; rfl) hr rfl) pa_nil)) rfl)
    (pss_cons (ps_fld (pv 0) (pe_callTy (r := rTupK G.K) call_tupK (by rfl) T.z_tuple (by decide +kernel) (pa_cons (pe_lc (own := [("side", 4)]) (g := gName 4) (tt := tYes) rfl sc_Run_init.nd (pi_tup (pe_tup (pa_cons pe_int (pa_cons pe_int pa_nil)))) (blkOk_by (own := [("side", 4)]) (N := N_Run_init) (sc := defScope s_Run_init) (by decide +kernel)) (fun _ _ _ _ _ => (pg_name (i := 4) sc_Run_init.nd rfl (Or.inr rfl))) (fun _ _ _ _ _ => pts_nil) (fun _ _ _ _ _ => (pe_callB (r := rSum G.K) (cr_sum rfl) (by rfl) T.z_sum (by decide +kernel) (pa_cons (pe_lc (own := [("piece", 5)]) (g := gName 5) rfl sc_Run_init.nd (pi_listK (K := G.K) (pe_fldK (K := G.K) (pv 1) rfl rfl) rfl) (blk_in (own := [("piece", 5)]) (N := N_Run_init) (sc2 := (relS { kind := .function, names := [(".0", .local), ("side", .cell), ("sum", .globalImplicit), ("flow", .free)], isGenerator := false, isCoroutine := false, more := [] } (defScope s_Run_init))) (by decide +kernel) rfl) (fun _ _ _ _ _ => (pg_name (i := 5) sc_Run_init.nd rfl (Or.inl rfl))) (fun _ _ _ _ _ => (pts_one (PW.pt (pw_and (pt_cmpR op_eq (pe_ix (r := rIxT G.K) ix_tup (pv 5) pe_int (fun _ _ => rfl)) (pv 4) (nomark _)) (pw_and1 (pt_cmpR op_eq (pe_ix (r := rIxT G.K) ix_tup (pv 5) pe_int (fun _ _ => rfl)) pe_int (nomark _))))))) (fun _ _ _ _ _ => pe_int)) pa_nil)))) pa_nil)) rfl)
    (pss_cons (ps_fld (pv 0) (pe_callTy (r := rTupK G.K) call_tupK (by rfl) T.z_tuple (by decide +kernel) (pa_cons (pe_fld (pv 1) rfl) pa_nil)) rfl)
    (pss_cons (ps_fld (pv 0) (pe_tup (pa_cons (C8.pe_mt m_Flow_fresh hr (by decide) (pv 1) (pa_cons pe_int pa_nil)) (pa_cons (C8.pe_mt m_Flow_fresh hr (by decide) (pv 1) (pa_cons pe_int pa_nil)) pa_nil))) rfl)
    (pss_cons (ps_fld (pv 0) (pe_callB (r := rMax G.K) (cr_max rfl) (by rfl) T.z_max (by decide +kernel) (pa_cons (pe_lst (pa_cons pe_int (pa_starK (K := G.K) (pe_lc (own := [("piece", 5)]) (g := gName 5) (tt := tYes) rfl sc_Run_init.nd (pi_list (pe_fld (pv 1) rfl)) (blkOk_by (own := [("piece", 5)]) (N := N_Run_init) (sc := defScope s_Run_init) (by decide +kernel)) (fun _ _ _ _ _ => (pg_name (i := 5) sc_Run_init.nd rfl (Or.inl rfl))) (fun _ _ _ _ _ => pts_nil) (fun _ _ _ _ _ => (pe_op op_add (pe_ix (r := rIxT G.K) ix_tup (pv 5) pe_int (fun _ _ => rfl)) (pe_fldK (K := G.K) (pe_fldK (K := G.K) (pv 1) rfl rfl) rfl rfl)))) pa_nil rfl))) pa_nil)) rfl)
    (pss_one (ps_fld (pv 0) (pe_tup (pa_cons (pe_fld (pv 0) rfl) (pa_cons (pe_fld (pv 0) rfl) (pa_cons (pe_fld (pv 0) rfl) (pa_cons (pe_fld (pv 0) rfl) (pa_cons (pe_fld (pv 0) rfl) pa_nil)))))) rfl))))))))), ?_⟩
    have hs : ∀ H, Val (tVar 0) [some (V.ref x), some (V.ref (e.a 0)), some (V.ref cs), none, none, none] H (.ref x) := fun _ => val_var rfl
    have nt : ∀ {H1 : Hp} {fs : List (Str × V)}, H1 x = some (.ins G.R dx fs) → NoTup H1 x := fun h xs z => by rw [h] at z; cases z
    have na : ∀ i, i < 14 → e.a i ≠ x := jx.ne
    -- ends
    refine y_fldX (Φ := fun v H' => ∃ p, v = .ref p ∧ H' p = some (.tup [ov (r.c false).ended, ov (r.c true).ended]) ∧ Same H H') hx (fun Q' k => ?_) hs T.cR T.R_ends (by decide) ?_
    · refine x_cb (x_lcPT (ys := [V.ref (e.a 12), V.ref (e.a 13)]) (fun H' e1 => SqT.of (e1 _ _ hcs)) (v_var rfl) (fun i => [ov (r.c false).ended, ov (r.c true).ended].take i) rfl (fun i _ => Nat.lt_of_le_of_lt (List.length_take_le' _ _) (by show 2 < sizeLine; decide)) ?_ ?_)
      · intro i y H' hy e1
        have hv : ∀ j : Bool, y = .ref (e.a (12 + bn j)) → Val (tFld G.K (tVar 3) "ended") [some (V.ref x), some (V.ref (e.a 0)), some (V.ref cs), some y, none, none] H' (ov (r.c j).ended) := fun j ej => by
          subst ej
          exact v_fl (v_var rfl) (e1 _ _ (hw.hC j)) T.cC T.C_ended (by cases j <;> rfl)
        match i, hy with
        | 0, hy => exact ⟨rfl, true, ans_yes, fun _ => ⟨_, hv false (Option.some.inj hy).symm, rfl⟩, fun z => by cases z⟩
        | 1, hy => exact ⟨rfl, true, ans_yes, fun _ => ⟨_, hv true (Option.some.inj hy).symm, rfl⟩, fun z => by cases z⟩
        | n + 2, hy => simp at hy
      · intro D H' hD hl e1
        exact ⟨D, _, rfl, .inl ⟨SqL.of hl, fun l hln => k (.ref l) _ (ExtN.of (e1.then hln)) ⟨l, rfl, upd_same, e1.then hln⟩⟩⟩
    rintro _ H1 _ ⟨ep, rfl, hep, e1⟩
    have nep : ep ≠ x := fun z => by rw [z, e1 _ _ hx] at hep; cases hep
    have s1 : Sr G tP H x dx ep (r.c false).ended (r.c true).ended (upd H1 x (.ins G.R dx (putF "ends" (.ref ep) []))) (putF "ends" (.ref ep) []) :=
      ⟨upd_same, (Xr.same e1).trans Xr.at, (TbOk.same htb e1).at (e1 _ _ hx), (upd_ne nep).trans hep, nep⟩
    generalize upd H1 x (.ins G.R dx (putF "ends" (.ref ep) [])) = H2 at s1
    have wld : ∀ {H' : Hp} {fs : List (Str × V)}, Sr G tP H x dx ep (r.c false).ended (r.c true).ended H' fs → W G (reb e g H') g H' r := fun s => hw.xr jx (nt hx) s.k
    have hf : ∀ H', Val (tVar 1) [some (V.ref x), some (V.ref (e.a 0)), some (V.ref cs), none, none, none] H' (.ref (e.a 0)) := fun _ => val_var rfl
    -- stuck
    refine y_fldS T s1 (fun Q' k => ?_) hs T.R_stuck (ll (pl pl0) (by decide)) fun v2 H3 s2 => ?_
    · exact v_in v_c (v_fl (v_var rfl) s1.hx T.cR T.R_ends rfl) (SqT.of s1.he) rfl (by cases (r.c false).ended <;> cases (r.c true).ended <;> rfl) _ (k _ _ (ExtN.refl _) s1.t)
    -- pieces
    refine y_fldS T s2 (fun Q' k => ?_) hs T.R_pieces (ll (pl (pl pl0)) (by decide)) fun v3 H4 s3 => ?_
    · obtain ⟨rl, l1, l2⟩ := (wld s2).cell 11
      refine x_cb (f_log T (wld s2) (hf _) _ ⟨e.a 11, rl, r.s.log.map pc4, rfl, SqL.of l1, ?_, s2.t, fun D H5 ys eN t5 hD => ⟨D, ys, rfl, .inl ⟨SqL.of hD, fun l hl => k _ _ (eN.trans (ExtN.of (Same.new hl))) (TbOk.same t5 (Same.new hl))⟩⟩⟩)
      rw [List.map_map]
      exact l2
    -- answers
    refine y_fldS T s3 (fun Q' k => ?_) hs T.R_answers (ll (pl (pl (pl pl0))) (by decide)) fun v4 H5 s4 => ?_
    · refine x_cb (x_lcN (va_cons v_c (va_cons v_c va_nil)) (by show 2 ≤ sizeLine; decide) fun m hm D hD => ?_)
      have w3 := wld s3
      obtain ⟨rl, l1, l2⟩ := w3.cell 11
      have em : Same H4 (upd H4 m (.tup [.int 0, .int 1])) := Same.new hm
      refine lcr (walk_tup (xs := [V.int 0, V.int 1])) (fun _ _ _ _ h => h.1) (rel_same hD) hD True.intro (fun H' e2 => SqT.of (e2 _ _ upd_same)) (by show 2 ≤ sizeLine; decide) (fun _ y _ => ∃ z : Int, y = .int z) (fun _ _ _ _ _ h => h) (fun _ _ _ _ _ _ h => h) ?_ ?_
      · rintro i y H' acc hi ⟨_, hy⟩ e2 _ hDl
        obtain ⟨b, rfl, rfl⟩ := two_at hy
        refine ⟨rfl, fun Q2 k2 => ?_⟩
        have e3 : Same H4 H' := em.trans e2
        refine x_cb (x_lcPL (ys := rl.map V.ref) (a := e.a 11) (fun H5 e4 => SqL.of (e4 _ _ (e3 _ _ l1))) ?_ (fun i => fm (fun y => decide (y[1]? = some (V.int (bi b))) && decide (y[2]? = some (V.int 0))) (fun _ _ => .int 1) (rl.take i) ((r.s.log.map pcV).take i)) (by simp [fm]) (fun i _ => Nat.lt_of_le_of_lt (acT_len (m := 100000) (by rw [List.length_map]; exact hlog)) (by decide)) ?_ ?_)
        · exact v_fl (v_var rfl) (e3 _ _ w3.hF) T.cF T.F_log rfl
        · intro i x1 H5 hx1 e4
          obtain ⟨c, hc, rfl⟩ := refs_at hx1
          obtain ⟨y, hy, hcy⟩ := l2.at2 hc
          rw [List.getElem?_map] at hy
          obtain ⟨p, hp, rfl⟩ := Option.map_eq_some_iff.mp hy
          have hb' := e4 _ _ (e3 _ _ hcy)
          have hlen := l2.len
          have hy2 : (r.s.log.map pcV)[i]? = some (pcV p) := by rw [List.getElem?_map, hp]; rfl
          refine ⟨rfl, _, a_and (a_T (v_eq (v_sqT (v := .int (bi p.side)) (v_var rfl) v_c (SqT.of hb') rfl) (v_var rfl) rfl)) fun _ => a_T (v_eq (v_sqT (v := .int p.amount) (v_var rfl) v_c (SqT.of hb') rfl) v_c rfl), fun hb => ⟨.int 1, v_c, ?_⟩, fun hb => ?_⟩
          · rw [acT_succ hlen hc hy2, if_pos (by simpa [pcV] using hb)]
          · rw [acT_succ hlen hc hy2, if_neg (by simpa [pcV] using hb), List.append_nil]
        · intro D2 H5 hD2 hl2 e4
          have hlen := l2.len
          obtain ⟨ns, hns⟩ : ∃ ns : List Int, fm (fun y => decide (y[1]? = some (V.int (bi b))) && decide (y[2]? = some (V.int 0))) (fun _ _ => .int 1) rl (r.s.log.map pcV) = ns.map V.int := fm_ones
          rw [List.length_map, List.take_length, hlen, List.take_length, hns] at hl2
          exact ⟨D2, ns, rfl, SqL.of hl2, k2 _ _ e4 True.intro ⟨_, rfl⟩⟩
      · intro H' acc hacc _ _ e2 _
        exact ⟨D, acc, rfl, .inl ⟨SqL.of hacc, fun l hl => k _ _ (ExtN.of ((em.trans e2).then hl)) (TbOk.same s3.t ((em.trans e2).then hl))⟩⟩
    -- held
    refine y_fldS T s4 (fun Q' k => ?_) hs T.R_held (ll (pl (pl (pl (pl pl0)))) (by decide)) fun v5 H6 s5 => ?_
    · obtain ⟨z1, z2, l1⟩ := (wld s4).cell 10
      exact x_cb (f_long T (wld s4) (hf _) _ ⟨e.a 10, _, rfl, .inl ⟨SqL.of l1, fun l hl => k _ _ (ExtN.of (Same.new hl)) (TbOk.same s4.t (Same.new hl))⟩⟩)
    -- unread
    refine y_fldS T s5 (fun Q' k => ?_) hs T.R_unread (ll (pl (pl (pl (pl (pl pl0))))) (by decide)) fun v6 H7 s6 => ?_
    · have w5 := wld s5
      refine x_tup (va_cons (fun Q3 q3 => m_call (hf _) w5.hF rfl (va_cons v_c va_nil) ⟨reb e g H6, g, r, false, rfl, w5, q3⟩) (va_cons (fun Q3 q3 => m_call (hf _) w5.hF rfl (va_cons v_c va_nil) ⟨reb e g H6, g, r, true, rfl, w5, q3⟩) va_nil)) (by show 2 ≤ sizeLine; decide) fun l hl => k _ _ (ExtN.of (Same.new hl)) (TbOk.same s5.t (Same.new hl))
    -- quiet
    refine y_fldS T s6 (fun Q' k => ?_) hs T.R_quiet (ll (pl (pl (pl (pl (pl (pl pl0)))))) (by decide)) fun v7 H8 s7 => ?_
    · have w6 := wld s6
      obtain ⟨rl, l1, l2⟩ := w6.cell 11
      have hlen := l2.len
      refine x_cb (x_lstS (x_lcPL (ys := rl.map V.ref) (a := e.a 11) (fun H5 e4 => SqL.of (e4 _ _ l1)) (f_log (e := reb e g H7) T w6 (hf _)) (fun i => fm (fun _ => true) (fun _ y => plusW e.L.way y) (rl.take i) ((r.s.log.map pcV).take i)) (by simp [fm]) (fun i _ => Nat.lt_of_le_of_lt (acT_len (m := 100000) (by rw [List.length_map]; exact hlog)) (by decide)) ?_ ?_))
      · intro i x1 H5 hx1 e4
        obtain ⟨c, hc, rfl⟩ := refs_at hx1
        obtain ⟨y, hy, hcy⟩ := l2.at2 hc
        rw [List.getElem?_map] at hy
        obtain ⟨p, hp, rfl⟩ := Option.map_eq_some_iff.mp hy
        have hy2 : (r.s.log.map pcV)[i]? = some (pcV p) := by rw [List.getElem?_map, hp]; rfl
        obtain ⟨dxl, fsl, q1, q2, q3, _⟩ := w6.im.line.line
        refine ⟨rfl, true, ans_yes, fun _ => ⟨.int (p.tick + e.L.way), v_I (v_sqT (v_var rfl) v_c (SqT.of (e4 _ _ hcy)) rfl) (v_fl (v_fl (v_var rfl) (e4 _ _ w6.hF) T.cF T.F_line rfl) (e4 _ _ (w6.same _ _ q1)) T.cL T.L_way q3), ?_⟩, fun z => by cases z⟩
        rw [acT_succ hlen hc hy2, if_pos rfl]
        rfl
      · intro D2 H5 hD2 hl2 e4
        obtain ⟨ns, hns, hnl⟩ : ∃ ns : List Int, fm (fun _ => true) (fun _ y => plusW e.L.way y) rl (r.s.log.map pcV) = ns.map V.int ∧ ns.length ≤ 100000 := by
          refine ⟨r.s.log.map fun p => p.tick + e.L.way, ?_, by rw [List.length_map]; exact hlog⟩
          rw [fm_val (by rw [hlen]), List.map_map]
          simp [List.filter_eq_self.mpr]
          exact fun p _ => rfl
        rw [List.length_map, List.take_length, hlen, List.take_length, hns] at hl2
        refine ⟨_, ns.map V.int, rfl, .inr (SqL.of hl2), ?_, fun l hl => ⟨l, 0 :: ns, rfl, SqL.of (by rw [upd_same, List.append_nil]; rfl), by simp, fun m _ _ => k _ _ (ExtN.of (e4.then hl)) (TbOk.same s6.t (e4.then hl))⟩⟩
        rw [List.append_nil, List.length_cons, List.length_map]
        exact Nat.lt_of_le_of_lt hnl (by decide)
    -- all
    have hlk : ∀ (f : Str) (v : V), lk (putF "quiet" v7 (putF "unread" v6 (putF "held" v5 (putF "answers" v4 (putF "pieces" v3 (putF "stuck" v2 (putF "ends" (.ref ep) []))))))) f = some v → NoAttr G.K G.R f → Val (tFld G.K (tVar 0) f) [some (V.ref x), some (V.ref (e.a 0)), some (V.ref cs), none, none, none] H8 v := fun f v h n => v_fl (v_var rfl) s7.hx T.cR n h
    refine x_fldT (va_cons (hlk "ends" _ rfl T.R_ends) (va_cons (hlk "pieces" _ rfl T.R_pieces) (va_cons (hlk "held" _ rfl T.R_held) (va_cons (hlk "unread" _ rfl T.R_unread) (va_cons (hlk "quiet" _ rfl T.R_quiet) va_nil))))) (by show 5 ≤ sizeLine; decide) hs s7.hx T.cR T.R_all (ll (pl (pl (pl (pl (pl (pl (pl pl0))))))) (by decide)) fun p hp => ?_
    have s8 := (s7.ext (H2 := upd H8 p (.tup [V.ref ep, v3, v5, v6, v7])) (ExtN.of (Same.new hp)) (TbOk.same s7.t (Same.new hp))).at (fs' := putF "all" (.ref p) (putF "quiet" v7 (putF "unread" v6 (putF "held" v5 (putF "answers" v4 (putF "pieces" v3 (putF "stuck" v2 (putF "ends" (.ref ep) []))))))))
    exact q _ _ ep s8.k s8.t s8.hx rfl s8.he

end
end SH
end
section
namespace SH
open PySem PySem.Spec PyProof.Rows L2
open LamX (ExtN Tabs TabB)
section
variable {P : Program} {w : World} {G : Gl5} {mg : Str → Option Value} {base : Heap}

/-! ### the plain programs of two plans -/
def Pl (A B : Plan) (x : Int) (ts : List Int) : Bool → Prg
  | false => (plainS A x ts).1
  | true => (plainS B x (plainS A x ts).2).1
theorem pzN_cons (s : Stp) (A : Plan) : pzN (s :: A) = (if (pz s).isSome = true then 1 else 0) + pzN A := by
  unfold pzN
  cases s <;> simp [pz, List.filterMap_cons] <;> omega
def EG (e : Wd × Int) : Prop := (e.1 = .w → 1 ≤ e.2 ∧ e.2 ≤ 60) ∧ (e.1 = .p → e.2 ≤ 60)
theorem plain_gen {x : Int} (hx : 1 ≤ x ∧ x ≤ 60) : ∀ (A : Plan) (f : Prg) (ts : List Int), (∀ s ∈ A, StpOk s) → (∀ t ∈ ts, t ≤ 60) → (∀ e ∈ f, EG e) →
    (A.foldl (stepF x) (f, ts)).1.length = f.length + A.length ∧ (A.foldl (stepF x) (f, ts)).2 = ts.drop (pzN A) ∧ ∀ e ∈ (A.foldl (stepF x) (f, ts)).1, EG e
  | [], f, ts, _, _, hf => ⟨rfl, by show ts = ts.drop 0; rw [List.drop_zero], hf⟩
  | s :: A, f, ts, hA, ht, hf => by
    have hs := hA s List.mem_cons_self
    have hA' : ∀ s ∈ A, StpOk s := fun s h => hA s (List.mem_cons_of_mem _ h)
    have am : ∀ a, AmOk a → 1 ≤ amI x a ∧ amI x a ≤ 60 := fun a h => by
      cases a with
      | none => exact hx
      | some i => exact h i rfl
    rw [List.foldl_cons, pzN_cons, List.length_cons]
    have snoc : ∀ e0, EG e0 → ∀ e ∈ f ++ [e0], EG e := fun e0 h0 e he => by
      rcases List.mem_append.mp he with z | z
      · exact hf e z
      · rw [List.mem_singleton.mp z]
        exact h0
    cases s with
    | w a =>
      obtain ⟨h1, h2, h3⟩ := plain_gen hx A (f ++ [(.w, amI x a)]) ts hA' ht (snoc _ ⟨fun _ => am a hs, (fun z => by cases z)⟩)
      refine ⟨?_, ?_, h3⟩
      · show (A.foldl (stepF x) (f ++ [(.w, amI x a)], ts)).1.length = _
        rw [h1, List.length_append, List.length_singleton]
        omega
      · show (A.foldl (stepF x) (f ++ [(.w, amI x a)], ts)).2 = ts.drop (0 + pzN A)
        rw [h2, Nat.zero_add]
    | r a =>
      obtain ⟨h1, h2, h3⟩ := plain_gen hx A (f ++ [(.r, amI x a)]) ts hA' ht (snoc _ ⟨(fun z => by cases z), (fun z => by cases z)⟩)
      refine ⟨?_, ?_, h3⟩
      · show (A.foldl (stepF x) (f ++ [(.r, amI x a)], ts)).1.length = _
        rw [h1, List.length_append, List.length_singleton]
        omega
      · show (A.foldl (stepF x) (f ++ [(.r, amI x a)], ts)).2 = ts.drop (0 + pzN A)
        rw [h2, Nat.zero_add]
    | p lo hi =>
      have hd : ts.headD 0 ≤ 60 := by
        cases ts with
        | nil => decide
        | cons t r => exact ht t List.mem_cons_self
      obtain ⟨h1, h2, h3⟩ := plain_gen hx A (f ++ [(.p, ts.headD 0)]) ts.tail hA' (fun t h => ht t (List.mem_of_mem_tail h)) (snoc _ ⟨(fun z => by cases z), fun _ => hd⟩)
      refine ⟨?_, ?_, h3⟩
      · show (A.foldl (stepF x) (f ++ [(.p, ts.headD 0)], ts.tail)).1.length = _
        rw [h1, List.length_append, List.length_singleton]
        omega
      · show (A.foldl (stepF x) (f ++ [(.p, ts.headD 0)], ts.tail)).2 = ts.drop (1 + pzN A)
        rw [h2, ← List.drop_one, List.drop_drop, Nat.add_comm]
theorem remW_le : ∀ {P : Prg}, (∀ e ∈ P, EG e) → remW P ≤ 60 * (P.length : Int)
  | [], _ => Int.le_refl _
  | (.w, a) :: r, h => by
    have h1 := remW_le (P := r) fun e he => h e (List.mem_cons_of_mem _ he)
    have h2 := (h _ List.mem_cons_self).1 rfl
    show a + remW r ≤ _
    rw [List.length_cons]
    have : a ≤ 60 := h2.2
    omega
  | (.r, a) :: r, h => by
    have h1 := remW_le (P := r) fun e he => h e (List.mem_cons_of_mem _ he)
    show remW r ≤ _
    rw [List.length_cons]
    omega
  | (.p, a) :: r, h => by
    have h1 := remW_le (P := r) fun e he => h e (List.mem_cons_of_mem _ he)
    show remW r ≤ _
    rw [List.length_cons]
    omega
theorem pok_of {P : Prg} (h : ∀ e ∈ P, EG e) : POk P := ⟨fun a ha => by have := ((h _ ha).1 rfl).1; exact this, fun a ha => (h _ ha).2 rfl⟩
theorem ch_le {A B : Plan} (hA : PlanOk A) (hB : PlanOk B) {ts : List Int} (h : Ch (pauses A B) ts) : ∀ t ∈ ts, t ≤ 60 := fun t ht => by
  obtain ⟨i, hi⟩ := List.getElem?_of_mem ht
  obtain ⟨q, h1, h2, h3⟩ := h.at hi
  have := (pauses_ok hA hB (List.mem_of_getElem? h1)).2.2
  omega
theorem pz_app (A B : Plan) : (pauses A B).length = pzN A + pzN B := by
  unfold pauses pzN
  rw [List.filterMap_append, List.length_append]
structure PlF (A B : Plan) (x : Int) (ts : List Int) : Prop where
  pok : ∀ i, POk (Pl A B x ts i)
  rm : RM (Pl A B x ts) (rs0 (Pl A B x ts)) ≤ 10000
  l1 : pzN A ≤ ts.length
  l2 : pzN B ≤ (plainS A x ts).2.length
  l3 : (plainS A x ts).2.length ≤ 100
  l4 : ts.length ≤ 100
theorem plF {A B : Plan} {x : Int} {ts : List Int} (hA : PlanOk A) (hB : PlanOk B) (hx : 1 ≤ x ∧ x ≤ 60) (h : Ch (pauses A B) ts) : PlF A B x ts := by
  have hl := h.len
  have hp := pz_app A B
  have hpl := pauses_len hA hB
  have ht := ch_le hA hB h
  obtain ⟨g1, g2, g3⟩ := plain_gen hx A [] ts hA.each ht (fun e he => by cases he)
  have ht2 : ∀ t ∈ (plainS A x ts).2, t ≤ 60 := fun t h => by
    unfold plainS at h
    rw [g2] at h
    exact ht t (List.mem_of_mem_drop h)
  obtain ⟨k1, k2, k3⟩ := plain_gen hx B [] (plainS A x ts).2 hB.each ht2 (fun e he => by cases he)
  have e2 : (plainS A x ts).2.length = ts.length - pzN A := by
    unfold plainS
    rw [g2, List.length_drop]
  have r1 := remW_le (P := Pl A B x ts false) g3
  have r2 := remW_le (P := Pl A B x ts true) k3
  have la := hA.len
  have lb := hB.len
  have z1 : (Pl A B x ts false).length ≤ 6 := by
    show (A.foldl (stepF x) ([], ts)).1.length ≤ 6
    rw [g1]
    simp
    omega
  have z2 : (Pl A B x ts true).length ≤ 6 := by
    show (B.foldl (stepF x) ([], (plainS A x ts).2)).1.length ≤ 6
    rw [k1]
    simp
    omega
  refine ⟨fun i => ?_, ?_, by omega, by omega, by omega, by omega⟩
  · cases i with
    | false => exact pok_of g3
    | true => exact pok_of k3
  · rw [rs0_RM]
    omega
/-! ### the world at the start of a run -/
theorem nw_same {H H' : Hp} {x dx : Addr} {o o2 : HO} {l : List (Addr × HO)} (hx : H x = none) (hd : H dx = none) (nw : Nw (upd (upd H dx o) x o2) x l H') : Same H H' := fun b u e => by
  have n1 := ne_of_none e hx
  refine nw.keep ?_ n1
  rw [upd_ne n1, upd_ne (ne_of_none e hd)]
  exact e
theorem mk_world {G : Gl5} {H H2 Hs : Hp} {x dx dd ln s1 s2 stg stk a3 a4 a5 a6 a7 a8 a9 a10 g a11 co1 co2 d1 d2 sp1 sp2 b1 b2 cs : Addr} {o : HO} {se : Bool → Addr} {L : Ln} {P1 P2 : Prg}
    (hxn : H x = none) (hdn : H dd = none) (nw : Nw (upd (upd H dd o) x (.ins G.F dx [])) x (flowN (se false) (se true) s1 s2 stg stk a3 a4 a5 a6 a7 a8 a9 a10 g a11) H2) (hx : H2 x = some (.ins G.F dx (flowF0 ln stg stk a3 a4 a5 a6 a7 a8 a9 a10 g a11)))
    (hs : Same H2 Hs) (c1 : Hs co1 = some (.ins G.C d1 (courseF0 sp1 b1 P1))) (c2 : Hs co2 = some (.ins G.C d2 (courseF0 sp2 b2 P2))) (n1 : H2 co1 = none) (n2 : H2 co2 = none) (n12 : co1 ≠ co2)
    (l1 : LT Hs sp1 (P1.map stepV)) (l2 : LT Hs sp2 (P2.map stepV)) (m1 : H2 sp1 = none) (m2 : H2 sp2 = none) (line : LineAt G H ln se L) (lok : LOk L) (p1 : POk P1) (p2 : POk P2) (hcs : Hs cs = some (.tup [.ref co1, .ref co2])) :
    ∃ e : En, W G e g Hs (rs0 (fun i => if i = true then P2 else P1)) ∧ e.a 0 = x ∧ e.a 12 = co1 ∧ e.a 13 = co2 ∧ e.L = L ∧ e.P = (fun i => if i = true then P2 else P1) ∧ e.H0 cs = some (.tup [.ref co1, .ref co2]) ∧ Same H e.H0 := by
  have hH2 : Same H H2 := nw_same hxn hdn nw
  have h := nw.has
  simp only [flowN, List.mem_cons, List.not_mem_nil, or_false, forall_eq_or_imp, forall_eq] at h
  obtain ⟨e11, eg, e10, e9, e8, e7, e6, e5, e4, e3, ek, f2, f1, et⟩ := h
  have nd : (x :: [a11, g, a10, a9, a8, a7, a6, a5, a4, a3, stk, s2, s1, stg]).Nodup := nw.nd
  let Ls : List Addr := [x, s1, s2, a3, a4, a5, a6, a7, a8, a9, a10, a11, co1, co2]
  have inH2 : ∀ b ∈ [x, s1, s2, a3, a4, a5, a6, a7, a8, a9, a10, a11, g], H2 b ≠ none := by
    intro b hb
    simp only [List.mem_cons, List.not_mem_nil, or_false] at hb
    rcases hb with z | z | z | z | z | z | z | z | z | z | z | z | z <;> (rw [z]; first | (rw [hx]; simp) | (rw [f1]; simp) | (rw [f2]; simp) | (rw [e3]; simp) | (rw [e4]; simp) | (rw [e5]; simp) | (rw [e6]; simp) | (rw [e7]; simp) | (rw [e8]; simp) | (rw [e9]; simp) | (rw [e10]; simp) | (rw [e11]; simp) | (rw [eg]; simp))
  have ndf : [x, s1, s2, a3, a4, a5, a6, a7, a8, a9, a10, a11].Nodup := by
    have s : [a11, a10, a9, a8, a7, a6, a5, a4, a3, s2, s1].Sublist [a11, g, a10, a9, a8, a7, a6, a5, a4, a3, stk, s2, s1, stg] :=
      .cons₂ _ (.cons _ (.cons₂ _ (.cons₂ _ (.cons₂ _ (.cons₂ _ (.cons₂ _ (.cons₂ _ (.cons₂ _ (.cons₂ _ (.cons _ (.cons₂ _ (.cons₂ _ (.cons _ .slnil)))))))))))))
    have nd1 := List.nodup_cons.mp nd
    have nd2 : [s1, s2, a3, a4, a5, a6, a7, a8, a9, a10, a11].Nodup := show ([a11, a10, a9, a8, a7, a6, a5, a4, a3, s2, s1].reverse).Nodup from List.pairwise_reverse.mpr ((nd1.2.sublist s).imp fun h => Ne.symm h)
    refine List.nodup_cons.mpr ⟨fun z => nd1.1 (s.subset ?_), nd2⟩
    have : [a11, a10, a9, a8, a7, a6, a5, a4, a3, s2, s1] = [s1, s2, a3, a4, a5, a6, a7, a8, a9, a10, a11].reverse := rfl
    rw [this, List.mem_reverse]
    exact z
  have ndL : Ls.Nodup := by
    have : Ls = [x, s1, s2, a3, a4, a5, a6, a7, a8, a9, a10, a11] ++ [co1, co2] := rfl
    rw [this, List.nodup_append]
    refine ⟨ndf, by simp [n12], fun b hb c hc z => ?_⟩
    have hb2 : H2 b ≠ none := inH2 b (by
      simp only [List.mem_cons, List.not_mem_nil, or_false] at hb ⊢
      rcases hb with z | z | z | z | z | z | z | z | z | z | z | z <;> simp [z])
    simp only [List.mem_cons, List.not_mem_nil, or_false] at hc
    rcases hc with q | q
    · rw [z, q] at hb2
      exact hb2 n1
    · rw [z, q] at hb2
      exact hb2 n2
  have gL : g ∉ Ls := by
    have nd1 := List.nodup_cons.mp nd
    have nd2 := List.nodup_cons.mp nd1.2
    have nd3 := List.nodup_cons.mp nd2.2
    have hg2 : H2 g ≠ none := inH2 g (by simp)
    intro z
    have z : g ∈ [x, s1, s2, a3, a4, a5, a6, a7, a8, a9, a10, a11, co1, co2] := z
    simp only [List.mem_cons, List.not_mem_nil, or_false, not_or] at z nd1 nd2 nd3
    obtain ⟨⟨y1, y2, y3⟩, _⟩ := nd1
    obtain ⟨⟨y4, _⟩, _⟩ := nd2
    obtain ⟨w1, w2, w3, w4, w5, w6, w7, w8, w9, w10, w11, _⟩ := nd3.1
    rcases z with z | z | z | z | z | z | z | z | z | z | z | z | z | z
    · exact y2 z.symm
    · exact w11 z
    · exact w10 z
    · exact w8 z
    · exact w7 z
    · exact w6 z
    · exact w5 z
    · exact w4 z
    · exact w3 z
    · exact w2 z
    · exact w1 z
    · exact y4 z.symm
    · exact hg2 (z ▸ n1)
    · exact hg2 (z ▸ n2)
  let e0 : En := { H0 := Hs, a := fun i => Ls.getD i 0, fdx := dx, cdx := fun i => if i = true then d2 else d1, ln := ln, stg := stg, se := se, stk := stk, sp := fun i => if i = true then sp2 else sp1, bg := fun i => if i = true then b2 else b1, L := L, P := fun i => if i = true then P2 else P1 }
  have hcell : ∀ i, cellP G (reb e0 g Hs) g (rs0 (fun i => if i = true then P2 else P1)) Hs i := by
    intro i
    match i with
    | 0 => exact hs _ _ hx
    | 1 => exact ⟨[], hs _ _ f1, True.intro⟩
    | 2 => exact ⟨[], hs _ _ f2, True.intro⟩
    | 3 => exact hs _ _ e3
    | 4 => exact hs _ _ e4
    | 5 => exact hs _ _ e5
    | 6 => exact hs _ _ e6
    | 7 => exact hs _ _ e7
    | 8 => exact hs _ _ e8
    | 9 => exact hs _ _ e9
    | 10 => exact ⟨0, 0, hs _ _ e10⟩
    | 11 => exact ⟨[], hs _ _ e11, True.intro⟩
    | 12 => exact c1
    | 13 => exact c2
    | 14 => exact ⟨[], hs _ _ eg, True.intro⟩
    | n + 15 => exact True.intro
  have memL : ∀ i, i < 14 → Ls.getD i 0 ∈ Ls := fun i hi => by
    rw [List.getD_eq_getElem?_getD, List.getElem?_eq_getElem (show i < Ls.length from hi)]
    exact List.getElem_mem _
  have out : ∀ {b : Addr} {u : HO}, Hs b = some u → b ∉ Ls → b ≠ g → rest e0 g Hs b = some u := fun {b u} hb h1 h2 => by
    rw [rest_at (fun i hi z => h1 (by rw [← z]; exact memL i hi)) h2]
    exact hb
  have outT : ∀ {b : Addr} {ys : List V}, Hs b = some (.tup ys) → rest e0 g Hs b = some (.tup ys) := fun {b ys} hb => by
    rw [rest_at (fun i hi z => cell_noTup hcell hi ys (by rw [← z] at hb; exact hb)) (fun z => cell_noTup14 hcell ys (by rw [z] at hb; exact hb))]
    exact hb
  have outO : ∀ {b : Addr} {u : HO}, H b = some u → rest e0 g Hs b = some u := fun {b u} hb => by
    have nb : b ≠ x := ne_of_none hb hxn
    have nf : b ∉ (flowN (se false) (se true) s1 s2 stg stk a3 a4 a5 a6 a7 a8 a9 a10 g a11).map (·.1) := fun z => by
      obtain ⟨q, hq, hqe⟩ := List.mem_map.mp z
      have hq0 := nw.fr q hq
      rw [hqe, upd_ne nb, upd_ne (ne_of_none hb hdn), hb] at hq0
      cases hq0
    have hb2 := hH2 _ _ hb
    have nf2 : b ∉ [a11, g, a10, a9, a8, a7, a6, a5, a4, a3, stk, s2, s1, stg] := nf
    simp only [List.mem_cons, List.not_mem_nil, or_false, not_or] at nf2
    obtain ⟨v1, v2, v3, v4, v5, v6, v7, v8, v9, v10, v11, v12, v13, v14⟩ := nf2
    refine out (hs _ _ hb2) (fun z => ?_) v2
    have z : b ∈ [x, s1, s2, a3, a4, a5, a6, a7, a8, a9, a10, a11, co1, co2] := z
    simp only [List.mem_cons, List.not_mem_nil, or_false] at z
    rcases z with z | z | z | z | z | z | z | z | z | z | z | z | z | z
    · exact nb z
    · exact v13 z
    · exact v12 z
    · exact v10 z
    · exact v9 z
    · exact v8 z
    · exact v7 z
    · exact v6 z
    · exact v5 z
    · exact v4 z
    · exact v3 z
    · exact v1 z
    · rw [z, n1] at hb2; cases hb2
    · rw [z, n2] at hb2; cases hb2
  have outN : ∀ {b : Addr} {ys : List V}, Hs b = some (.lst ys) → H2 b = none → rest e0 g Hs b = some (.lst ys) := fun {b ys} hb hn => by
    refine out hb (fun z => ?_) (fun z => inH2 g (by simp) (z ▸ hn))
    have z : b ∈ [x, s1, s2, a3, a4, a5, a6, a7, a8, a9, a10, a11, co1, co2] := z
    have z2 : b ∈ [x, s1, s2, a3, a4, a5, a6, a7, a8, a9, a10, a11, g] ∨ b = co1 ∨ b = co2 := by
      simp only [List.mem_cons, List.not_mem_nil, or_false] at z ⊢
      rcases z with z | z | z | z | z | z | z | z | z | z | z | z | z | z <;> simp [z]
    rcases z2 with z | z | z
    · exact inH2 b z hn
    · rw [z, c1] at hb; cases hb
    · rw [z, c2] at hb; cases hb
  have outK : rest e0 g Hs stk = some (.lst [.ref s1, .ref s2]) := by
    have nd1 := List.nodup_cons.mp nd
    have hk2 : H2 stk ≠ none := by rw [ek]; simp
    have y0 : ¬ x = stk := fun z => nd1.1 (by rw [z]; simp)
    have hsub : [stk, s2, s1, stg].Nodup := nd1.2.sublist (.cons _ (.cons _ (.cons _ (.cons _ (.cons _ (.cons _ (.cons _ (.cons _ (.cons _ (.cons _ (List.Sublist.refl _)))))))))))
    have hperm : ∀ b ∈ [a11, g, a10, a9, a8, a7, a6, a5, a4, a3], b ≠ stk := fun b hb z => by
      have := (List.nodup_append (l₁ := [a11, g, a10, a9, a8, a7, a6, a5, a4, a3]) (l₂ := [stk, s2, s1, stg])).mp nd1.2
      exact this.2.2 b hb stk (by simp) z
    have h1 := (List.nodup_cons.mp hsub).1
    simp only [List.mem_cons, List.not_mem_nil, or_false, not_or] at h1
    refine out (hs _ _ ek) (fun z => ?_) (fun z => hperm g (by simp) z.symm)
    have z : stk ∈ [x, s1, s2, a3, a4, a5, a6, a7, a8, a9, a10, a11, co1, co2] := z
    simp only [List.mem_cons, List.not_mem_nil, or_false] at z
    rcases z with z | z | z | z | z | z | z | z | z | z | z | z | z | z
    · exact y0 z.symm
    · exact h1.2.1 z
    · exact h1.1 z
    · exact hperm a3 (by simp) z.symm
    · exact hperm a4 (by simp) z.symm
    · exact hperm a5 (by simp) z.symm
    · exact hperm a6 (by simp) z.symm
    · exact hperm a7 (by simp) z.symm
    · exact hperm a8 (by simp) z.symm
    · exact hperm a9 (by simp) z.symm
    · exact hperm a10 (by simp) z.symm
    · exact hperm a11 (by simp) z.symm
    · exact hk2 (z ▸ n1)
    · exact hk2 (z ▸ n2)
  have none14 : ∀ i, i < 14 → rest e0 g Hs (Ls.getD i 0) = none := fun i hi => by
    unfold rest
    rw [if_pos (.inl ⟨i, hi, rfl⟩)]
  refine ⟨reb e0 g Hs, ⟨⟨fun i j hi hj q => ?_, none14, line.same fun _ _ _ _ z => outO z, outT (hs _ _ et), outK, fun i => ?_, lok, fun i => ?_⟩, fun b u hb => ?_, ?_, fun i hi z => gL (by rw [← z]; exact memL i hi), hcell⟩, rfl, rfl, rfl, rfl, rfl, outT hcs, fun b u hb => outO hb⟩
  · have q : Ls.getD i 0 = Ls.getD j 0 := q
    rw [List.getD_eq_getElem?_getD, List.getD_eq_getElem?_getD, List.getElem?_eq_getElem (show i < Ls.length from hi), List.getElem?_eq_getElem (show j < Ls.length from hj)] at q
    have q2 : Ls[i]'hi = Ls[j]'hj := q
    have pw := List.pairwise_iff_getElem.mp ndL
    rcases Nat.lt_trichotomy i j with z | z | z
    · exact absurd q2 (pw i j hi hj z)
    · exact z
    · exact absurd q2.symm (pw j i hj hi z)
  · cases i with
    | false =>
      obtain ⟨rs, q1, q2⟩ := l1
      exact ⟨rs, outN q1 m1, q2.mono fun a y z => outT z⟩
    | true =>
      obtain ⟨rs, q1, q2⟩ := l2
      exact ⟨rs, outN q1 m2, q2.mono fun a y z => outT z⟩
  · cases i with
    | false => exact p1
    | true => exact p2
  · have hb' : rest e0 g Hs b = some u := hb
    unfold rest at hb'
    split at hb'
    · cases hb'
    · exact hb'
  · show rest e0 g Hs g = none
    unfold rest
    rw [if_pos (.inr rfl)]

end
end SH
end
section
namespace SH
open PySem PySem.Spec PyProof.Rows L2
open LamX (ExtN Tabs TabB)
section
variable {P : Program} {w : World} {G : Gl5} {mg : Str → Option Value} {base : Heap}

def RunAt (G : Gl5) (H : Hp) (rp : Addr) (E : Bool → Option Int) : Prop := ∃ (dx : Addr) (fs : List (Str × V)) (ep : Addr), H rp = some (.ins G.R dx fs) ∧ lk fs "ends" = some (.ref ep) ∧ H ep = some (.tup [ov (E false), ov (E true)])
structure Arg (G : Gl5) (H : Hp) (ln p q : Addr) (L : Ln) (A B : Plan) (x : Int) : Prop where
  line : LineIs G H ln L
  lok : LOk L
  pA : PlanAt H p A
  oA : PlanOk A
  pB : PlanAt H q B
  oB : PlanOk B
  x1 : 1 ≤ x ∧ x ≤ 60
theorem LineIs.ext {G : Gl5} {H H' : Hp} {ln : Addr} {L : Ln} (h : LineIs G H ln L) (e : ExtN H H') : LineIs G H' ln L := let ⟨se, l⟩ := h; ⟨se, l.same fun _ _ _ _ z => e _ _ z (fun _ q => by cases q)⟩
theorem PlanAt.extN {H H' : Hp} {p : Addr} {A : Plan} (h : PlanAt H p A) (e : ExtN H H') : PlanAt H' p A := TT2.ext h fun b ys z => e _ _ z (fun _ q => by cases q)
theorem Arg.ext {G : Gl5} {H H' : Hp} {ln p q : Addr} {L : Ln} {A B : Plan} {x : Int} (a : Arg G H ln p q L A B x) (e : ExtN H H') : Arg G H' ln p q L A B x := ⟨a.line.ext e, a.lok, a.pA.extN e, a.oA, a.pB.extN e, a.oB, a.x1⟩
def ends (L : Ln) (A B : Plan) (x : Int) (ts : List Int) : Bool → Option Int := endsOf L (Pl A B x ts)
def sp_run_of (G : Gl5) (tP : Addr) : Sp := fun vs H Q _ => ∃ ln p q x c L A B ts, vs = [.ref ln, .ref p, .ref q, .int x, .ref c] ∧ Arg G H ln p q L A B x ∧ H c = some (.tup (ts.map V.int)) ∧ Ch (pauses A B) ts ∧ TbOk tP H ∧
  ∀ rp H', ExtN H H' → TbOk tP H' → RunAt G H' rp (ends L A B x ts) → Q (.ref rp) H'
theorem y_setMk {C : Addr} {sp : Sp} {dvs : List V} {E : XK} {ar : TA} {i : Nat} {t2 : TS} {D : Ends} {σ : L2.St} {H : Hp} {vs : List V} (h : ValA ar σ H vs) (q : ∀ x dx, H x = none → H dx = none → dx ≠ x → sp (.ref x :: (vs ++ dvs)) (upd (upd H dx (.own x)) x (.ins C dx [])) (fun v H2 => v = .non ∧ t2 D (σ.set i (some (.ref x))) H2) E) : tSeq (tAsg (tMake C sp dvs E ar) (gName i)) t2 D σ H := h _ q
theorem mk_call {C : Addr} {sp : Sp} {dvs : List V} {E : XK} {ar : TA} {σ : L2.St} {H : Hp} {vs : List V} {Q : VK} (h : ValA ar σ H vs) (q : ∀ x dx, H x = none → H dx = none → dx ≠ x → sp (.ref x :: (vs ++ dvs)) (upd (upd H dx (.own x)) x (.ins C dx [])) (fun v H2 => v = .non ∧ Q (.ref x) H2) E) : tMake C sp dvs E ar σ H Q := h _ q
theorem y_setT2 {ta tb : TE} {i : Nat} {t2 : TS} {D : Ends} {σ : L2.St} {H : Hp} (h : ta σ H fun x H1 => tb σ H1 fun y H2 => [x, y].length ≤ sizeLine ∧ ∀ p, H2 p = none → t2 D (σ.set i (some (.ref p))) (upd H2 p (.tup [x, y]))) : tSeq (tAsg (tTup (tCons ta (tCons tb tNil))) (gName i)) t2 D σ H := h
theorem plB (A B : Plan) (x : Int) (ts : List Int) : (fun i => if i = true then (plainS B x (plainS A x ts).2).1 else (plainS A x ts).1) = Pl A B x ts := by
  funext i
  cases i <;> rfl
abbrev N_run_of : List Str := ["line", "one", "other", "x", "pauses", "flow", "first", "left", "second", "courses", "tick"]
theorem sc_run_of : FnScope N_run_of ["line", "one", "other", "x", "pauses"] (defScope s_run_of) := C8.fnScope_by (by decide +kernel)
theorem ok_run_of (T : Txt G mg) {f : Addr} {fd : FuncData} (F : FnP G.K "run_of" "run_of" s_run_of f fd) (hm : mg "run_of" = some (.ref f)) (k_Flow : C8.Mak P w G.K mg base 1 "Flow" G.F (sp_Flow G) []) (c_plain_steps : C8.Cal P w G.K mg base 1 "plain_steps" (sp_plain_steps G) []) (k_Course : C8.Mak P w G.K mg base 1 "Course" G.C (sp_Course G) []) (c_do_tick : C8.Cal P w G.K mg base 7 "do_tick" (sp_do_tick G) []) (c_events : C8.Cal P w G.K mg base 2 "events" (sp_events G) []) {tP : Addr} (k_Run : C8.Mak P w G.K mg base 2 "Run" G.R (sp_Run G tP) []) : C8.Cal P w G.K mg base 8 "run_of" (sp_run_of G tP) [] := by
  refine cal_mk F hm (F.bindsN fun _ _ _ _ _ _ us hl => match us, hl with | [_, _, _, _, _], _ => rfl) sc_run_of (fun vs H Q E h => ?_) (fun cdv A outer s H vs Q E hr h => ?_)
  · obtain ⟨ln, p, q1, x, c, L, A, B, ts, rfl, ha, hc, hch, htb, q⟩ := h
    rfl
  · obtain ⟨ln, p, q1, x, c, L, A, B, ts, rfl, ha, hc, hch, htb, q⟩ := h
    refine ⟨_, (pss_cons (ps_set (i := 5) sc_run_of.nd rfl (Or.inl rfl) (C8.pe_mk k_Flow hr (by decide) (by rfl) (pa_cons (pv 0) pa_nil)))
    (pss_cons (ps_asg (C8.pe_c c_plain_steps hr (by decide) (by rfl) (pa_cons (pv 1) (pa_cons (pv 3) (pa_cons (pv 4) pa_nil)))) (pg_tup rfl (pgs_cons (pg_name (i := 6) sc_run_of.nd rfl (Or.inl rfl)) (pgs_cons (pg_name (i := 7) sc_run_of.nd rfl (Or.inl rfl)) pgs_nil))))
    (pss_cons (ps_asg (C8.pe_c c_plain_steps hr (by decide) (by rfl) (pa_cons (pv 2) (pa_cons (pv 3) (pa_cons (pv 7) pa_nil)))) (pg_tup rfl (pgs_cons (pg_name (i := 8) sc_run_of.nd rfl (Or.inl rfl)) (pgs_cons (pg_name (i := 7) sc_run_of.nd rfl (Or.inl rfl)) pgs_nil))))
    (pss_cons (ps_set (i := 9) sc_run_of.nd rfl (Or.inl rfl) (pe_tup (pa_cons (C8.pe_mk k_Course hr (by decide) (by rfl) (pa_cons (pv 6) (pa_cons pe_bl pa_nil))) (pa_cons (C8.pe_mk k_Course hr (by decide) (by rfl) (pa_cons (pv 8) (pa_cons pe_bl pa_nil))) pa_nil))))
    (pss_cons (ps_set (i := 10) sc_run_of.nd rfl (Or.inl rfl) pe_int)
    (pss_cons (ps_while PassesOwn.never (pt_cmpR op_notN (pv 10) pe_non (nomark _)) (pss_cons (ps_expr (C8.pe_c c_do_tick hr (by decide) (by rfl) (pa_cons (pv 5) (pa_cons (pv 9) (pa_cons (pv 10) pa_nil)))))
    (pss_one (ps_set (i := 10) sc_run_of.nd rfl (Or.inl rfl) (C8.pe_c c_events hr (by decide) (by rfl) (pa_cons (pv 5) (pa_cons (pv 9) pa_nil)))))))
    (pss_one (ps_ret (C8.pe_mk k_Run hr (by decide) (by rfl) (pa_cons (pv 5) (pa_cons (pv 9) pa_nil))))))))))), ?_⟩
    obtain ⟨se, hl⟩ := ha.line
    have pf := plF ha.oA ha.oB ha.x1 hch
    -- the flow
    refine y_setMk (va_cons (v_var rfl) va_nil) fun xf df hxf hdf nxf => ?_
    have eH : Same H (upd (upd H df (.own xf)) xf (.ins G.F df [])) := fun b u e => by rw [upd_ne (ne_of_none e hxf), upd_ne (ne_of_none e hdf)]; exact e
    refine ⟨xf, ln, se, L, df, rfl, upd_same, hl.same fun _ _ _ _ e => eH _ _ e, fun s1 s2 stg stk a3 a4 a5 a6 a7 a8 a9 a10 g a11 H2 nw hx2 => ⟨rfl, ?_⟩⟩
    have e2 : Same H H2 := nw_same hxf hdf nw
    have hc2 := e2 _ _ hc
    show tSeq _ _ _ [some (V.ref ln), some (V.ref p), some (V.ref q1), some (V.int x), some (V.ref c), some (V.ref xf), none, none, none, none, none] H2
    -- the plain steps
    refine y_asgE (c_call (va_cons (v_var rfl) (va_cons (v_var rfl) (va_cons (v_var rfl) va_nil))) ⟨p, c, A, x, ts, rfl, ha.pA.same e2, ha.oA, .inl hc2, pf.l4, pf.l1, fun d f l H3 e3 hd hlt hfn hll => g_two (SqT.of hd) ?_⟩)
    show tSeq _ _ _ [some (V.ref ln), some (V.ref p), some (V.ref q1), some (V.int x), some (V.ref c), some (V.ref xf), some (V.ref f), some (V.ref l), none, none, none] H3
    refine y_asgE (c_call (va_cons (v_var rfl) (va_cons (v_var rfl) (va_cons (v_var rfl) va_nil))) ⟨q1, l, B, x, (plainS A x ts).2, rfl, (ha.pB.same e2).same e3, ha.oB, .inr hll, pf.l3, pf.l2, fun d2 f2 l2 H4 e4 hd2 hlt2 hfn2 hll2 => g_two (SqT.of hd2) ?_⟩)
    show tSeq _ _ _ [some (V.ref ln), some (V.ref p), some (V.ref q1), some (V.int x), some (V.ref c), some (V.ref xf), some (V.ref f), some (V.ref l2), some (V.ref f2), none, none] H4
    have hlt4 := hlt.same e4
    -- the courses
    refine y_setT2 (mk_call (va_cons (v_var rfl) (va_cons v_c va_nil)) fun x1 y1 hx1 hy1 nxy1 => ⟨x1, f, (plainS A x ts).1, y1, rfl, upd_same, ?_, fun b1 H5 nw1 hc1 => ⟨rfl, ?_⟩⟩)
    · exact hlt4.same fun b u e => by rw [upd_ne (ne_of_none e hx1), upd_ne (ne_of_none e hy1)]; exact e
    have e5 : Same H4 H5 := nw_same hx1 hy1 nw1
    refine mk_call (va_cons (v_var rfl) (va_cons v_c va_nil)) fun x2 y2 hx2' hy2 nxy2 => ⟨x2, f2, (plainS B x (plainS A x ts).2).1, y2, rfl, upd_same, ?_, fun b2 H6 nw2 hc2' => ⟨rfl, by show 2 ≤ sizeLine; decide, fun cs hcs => ?_⟩⟩
    · exact (hlt2.same e5).same fun b u e => by rw [upd_ne (ne_of_none e hx2'), upd_ne (ne_of_none e hy2)]; exact e
    have e6 : Same H5 H6 := nw_same hx2' hy2 nw2
    have e7 : Same H6 (upd H6 cs (.tup [.ref x1, .ref x2])) := Same.new hcs
    have e27 : Same H2 (upd H6 cs (.tup [.ref x1, .ref x2])) := (((e3.trans e4).trans e5).trans e6).trans e7
    have fr : ∀ {a : Addr}, H4 a = none → H2 a = none := fun h => Same.free (e3.trans e4) h
    obtain ⟨e, hw, ea0, ea12, ea13, eL, eP, ecs, eH0⟩ := mk_world (Hs := upd H6 cs (.tup [.ref x1, .ref x2])) (co1 := x1) (co2 := x2) (cs := cs) hxf hdf nw hx2 e27 (e7 _ _ (e6 _ _ hc1)) (e7 _ _ hc2') (fr hx1) (fr (Same.free e5 hx2'))
      (fun z => by rw [← z, hc1] at hx2'; cases hx2') (((hlt4.same e5).same e6).same e7) (((hlt2.same e5).same e6).same e7) hfn (Same.free e3 hfn2) hl ha.lok (pf.pok false) (pf.pok true) upd_same
    rw [plB] at hw eP
    subst ea0 ea12 ea13 eL
    show tSeq _ _ _ [some (V.ref ln), some (V.ref p), some (V.ref q1), some (V.int x), some (V.ref c), some (V.ref (e.a 0)), some (V.ref f), some (V.ref l2), some (V.ref f2), some (V.ref cs), none] _
    refine y_set v_c ?_
    show tSeq _ _ _ [some (V.ref ln), some (V.ref p), some (V.ref q1), some (V.int x), some (V.ref c), some (V.ref (e.a 0)), some (V.ref f), some (V.ref l2), some (V.ref f2), some (V.ref cs), some (V.int 0)] _
    have kp : ∀ i, POk (e.P i) := fun i => by rw [eP]; exact pf.pok i
    have hfin : final e.L e.P = final e.L (Pl A B x ts) := by rw [eP]
    have li0 : LI e.L e.P (fuel0 e.P) 0 0 (rs0 e.P) := start_LI kp (by rw [eP]; exact pf.rm)
    rw [← eP] at hw
    refine y_while (fun m σ H' => ∃ g' r, W G e g' H' r ∧ ((∃ t TT, σ = [some (V.ref ln), some (V.ref p), some (V.ref q1), some (V.int x), some (V.ref c), some (V.ref (e.a 0)), some (V.ref f), some (V.ref l2), some (V.ref f2), some (V.ref cs), some (V.int t)] ∧ LI e.L e.P m TT t r ∧ runN e.L e.P m t r = final e.L e.P) ∨
      (m = 0 ∧ σ = [some (V.ref ln), some (V.ref p), some (V.ref q1), some (V.int x), some (V.ref c), some (V.ref (e.a 0)), some (V.ref f), some (V.ref l2), some (V.ref f2), some (V.ref cs), some V.non] ∧ r = final e.L e.P))) (fuel0 e.P) ⟨g, rs0 e.P, hw, .inl ⟨0, 0, rfl, li0, rfl⟩⟩ ?_
    rintro m σ H' ⟨g', r, hw', ⟨t, TT, rfl, li, hr'⟩ | ⟨rfl, rfl, rfl⟩⟩
    · refine a_T (v_is (v_notN (x := .int t) (v_var rfl)) (show V.bl (!decide (V.int t = V.non)) = .bl true from rfl)) _ (iteT ?_)
      obtain ⟨k, rfl⟩ := li.pos kp
      refine ⟨_, fun _ _ z => z, ?_⟩
      refine y_call (va_cons (v_var rfl) (va_cons (v_var rfl) (va_cons (v_var rfl) va_nil))) ⟨e, g', r, cs, t, TT, rfl, hw', ecs, li.good, li.tle, li.lg, fun H7 g7 w7 => ?_⟩
      obtain ⟨t1, t2, t3, t4⟩ := tick_good hw'.im.lok kp li.good li.tle
      have hfl : (doTick e.L e.P t r).s.flight.length ≤ 100000 := by
        have h1 := flight_m t1.s
        have h2 := RM_ge kp t1
        have h3 := li.lg
        omega
      refine x_asgE (c_call (va_cons (v_var rfl) (va_cons (v_var rfl) va_nil)) ⟨e, g7, _, cs, rfl, w7, ecs, hfl, fun H8 w8 => ?_⟩)
      cases he : events e.L (doTick e.L e.P t r) with
      | none =>
        refine ⟨0, Nat.succ_pos _, g7, _, w8, .inr ⟨rfl, rfl, ?_⟩⟩
        rw [← hr', LI.run_none he]
      | some t' =>
        refine ⟨k, Nat.lt_succ_self k, g7, _, w8, .inl ⟨t', TT + 60, rfl, li.next hw'.im.lok kp he, ?_⟩⟩
        rw [← hr', LI.run_some he]
    · refine a_T (v_is (v_notN (x := .non) (v_var rfl)) (show V.bl (!decide (V.non = V.non)) = .bl false from rfl)) _ (iteF ?_)
      have eHH : Same H H' := eH0.trans hw'.same
      refine x_retE (mk_call (va_cons (v_var rfl) (va_cons (v_var rfl) va_nil)) fun xr dr hxr hdr nxr => ?_)
      have eR : Same H' (upd (upd H' dr (.own xr)) xr (.ins G.R dr [])) := fun b u z => by rw [upd_ne (ne_of_none z hxr), upd_ne (ne_of_none z hdr)]; exact z
      have hw9 : W G e g' (upd (upd H' dr (.own xr)) xr (.ins G.R dr [])) (final e.L e.P) := (hw'.new hdr).new (by rw [upd_ne nxr.symm]; exact hxr)
      have hcs9 := hw9.same _ _ ecs
      obtain ⟨T', z1, z2, z3⟩ := li0.ends hw'.im.lok kp
      have hlog : (final e.L e.P).s.log.length ≤ 100000 := by
        have h1 := RM_nonneg kp z1
        show (runN e.L e.P (fuel0 e.P) 0 (rs0 e.P)).s.log.length ≤ 100000
        omega
      refine ⟨xr, e, g', final e.L e.P, cs, dr, rfl, upd_same, hw9, hw'.jk hxr, fun z => ?_, hcs9, hlog, TbOk.same (TbOk.same htb eHH) eR, fun H9 fs ep k9 t9 h9 l9 p9 => ⟨rfl, q xr H9 (fun b u z1 z2 => ?_) t9 ⟨dr, fs, ep, h9, l9, ?_⟩⟩⟩
      · rw [z, upd_same] at hcs9
        cases hcs9
      · have z3 := eHH _ _ z1
        exact k9 _ _ (eR _ _ z3) (ne_of_none z3 hxr) z2
      · rw [hfin] at p9
        exact p9

end
end SH
end
section
namespace SH
open PySem PySem.Spec PyProof.Rows L2
open LamX (ExtN Tabs TabB)
section
variable {P : Program} {w : World} {G : Gl5} {mg : Str → Option Value} {base : Heap}

/-! ### calls with keywords: every keyword-only parameter given, or the last by its default -/
def catV : List V → List V → List V := fun us ws => us ++ ws
structure CalK (P : Program) (w : World) (K : PySem.W.Frag) (mg : Str → Option Value) (base : Heap) (k : Nat) (x : Str) (sp : Sp) (n : Nat) (ks : List Str) (tl : List V) : Prop where
  ex : ∃ (f : Addr) (fd : FuncData) (ps : List Str) (g : List Value → List Value → List Value), FnOk P w K mg base C8.CX0 k f fd ps sp ∧ mg x = some (.ref f) ∧ PySem.W.keepIn K (.ref f) = true ∧ KBn K fd ps n ks g (fun us ws => us ++ (ws ++ tl))
theorem pe_cK {X : Cx} {k j n : Nat} {ks : List Str} {tl : List V} {x : Str} {sp : Sp} {p pos : Pos} {e : Expr} {es : List Expr} {kws : List Keyword} {t tk : TA} (c : CalK X.prog X.w X.K X.mg X.base k x sp n ks tl) (hr : Room j X.A) (hk : k ≤ j) (hg : Gl X x) (ha : PA X (e :: es) t) (hkw : PK X kws tk)
    (hall : (backToKw pos (keywordEach kws X.env)).all (·.1.isSome) = true := by rfl) (hks : (backToKw pos (keywordEach kws X.env)).filterMap (·.1) = ks := by rfl)
    (hdb : (x == ("__debug__" : Str)) = false := by decide) (he : starEach (e :: es) X.env = (false, eval e X.env) :: starEach es X.env := by rfl)
    (hpl : ((backTo pos (starEach (e :: es) X.env)).any (·.1) || (backToKw pos (keywordEach kws X.env)).any (·.1.isNone)) = false := by rfl) :
    PE X (.Call (.Name x p) (e :: es) kws pos) (tCallN n ks.length sp (fun us ws => us ++ (ws ++ tl)) C8.E0 t tk) := by
  obtain ⟨f, fd, ps, g, F, hm, kp, b⟩ := c.ex
  exact pe_callN F (hr.mono hk) hg hm kp b C8.pass0 ha hkw hall hks hdb he hpl
theorem k_call {n m : Nat} {sp : Sp} {gV : List V → List V → List V} {E : XK} {ar tk : TA} {σ : L2.St} {H : Hp} {vs zs : List V} {Q : VK} (h : ValA ar σ H vs) (h2 : ValA tk σ H zs) (l1 : vs.length = n) (l2 : zs.length = m) (q : sp (gV vs zs) H Q E) : tCallN n m sp gV E ar tk σ H Q := h _ (h2 _ ⟨l1, l2, q⟩)
section
variable {K : PySem.W.Frag} {x qual : Str} {params : Arguments} {body : List Stmt} {scope : Scope} {kws : List (Str × V)} {f : Addr} {fd : FuncData} {ps : List Str}
theorem kall (F : FunD K x qual params body scope [] kws f fd) (n : Nat) (ks : List Str)
    (h : ∀ (kV doc pm : Value) (an : Option Addr) (cdv ct : Value) (us ws : List Value), us.length = n → ws.length = ks.length → bindArgs (PySem.W.fnOf x qual params body scope .none kV doc pm an cdv ct) ⟨us, ks.zip ws⟩ = pure (ps.zip (us ++ ws))) : KBn K fd ps n ks (fun us ws => us ++ ws) (fun us ws => us ++ (ws ++ [])) := by
  obtain ⟨oc, od, dV, kV, doc, pm, an, cdv, ct, osl, rfl, lk, hcd, hD, hK⟩ := F.ex
  rcases hD with ⟨_, rfl⟩ | ⟨e, _⟩
  · exact ⟨fun s us ws _ l1 l2 => .of_eq (h kV doc pm an cdv ct us ws l1 l2), fun r1 r2 => by rw [List.append_nil]; exact r1.append r2⟩
  · exact absurd rfl e
theorem kdef (F : FunD K x qual params body scope [] kws f fd) (n : Nat) (ks : List Str) (m : Str × V) (hm : m ∈ kws)
    (h : ∀ (D : Addr) (doc pm : Value) (an : Option Addr) (cdv ct u : Value) (us ws : List Value), us.length = n → ws.length = ks.length → KwChain D [(m.1, u)] (bindArgs (PySem.W.fnOf x qual params body scope .none (.ref D) doc pm an cdv ct) ⟨us, ks.zip ws⟩) (ps.zip (us ++ (ws ++ [u])))) :
    ∃ u, KBn K fd ps n ks (fun us ws => us ++ (ws ++ [u])) (fun us ws => us ++ (ws ++ [m.2])) := by
  obtain ⟨oc, od, dV, kV, doc, pm, an, cdv, ct, osl, rfl, lk, hcd, hD, hK⟩ := F.ex
  rcases hD with ⟨_, rfl⟩ | ⟨e, _⟩
  · rcases hK with e | ⟨D, rfl, hq⟩
    · rw [e] at hm
      cases hm
    · obtain ⟨u, e1, e2⟩ := hq m hm
      refine ⟨u, fun s us ws X l1 l2 => BindsTo.of_looks fun M => KwChain.looks X (fun q hq => ?_) (h D doc pm an cdv ct u us ws l1 l2), fun r1 r2 => r1.append (r2.append (.cons e2 .nil))⟩
      rw [List.mem_singleton.mp hq]
      exact e1
  · exact absurd rfl e
end
abbrev FnK (K : PySem.W.Frag) (x : Str) (st : Stmt) (kws : List (Str × V)) (f : Addr) (fd : FuncData) : Prop := FunD K x x (defArgs st) (defBody st) (defScope st) [] kws f fd
section
variable {K : PySem.W.Frag}
theorem fnk_ok {x : Str} {st : Stmt} {f : Addr} {fd : FuncData} {N ps : List Str} {k : Nat} {sp : Sp} {kws : List (Str × V)} (F : FnK K x st kws f fd) (S : FnScope N ps (defScope st)) (len : ∀ vs H Q E, sp vs H Q E → vs.length = ps.length)
    (hbody : ∀ (cdv : Value) (A : Around) (outer : List Env) (s : Shared) (H : Hp) (vs : List V) (Q : VK) (E : XK), Room k (A.deeper (envOfC x (defScope st) s.heap.objs.size f cdv)) → sp vs H Q E →
      ∃ t, PSs (cxOf C8.CX0 P w K mg base N x (defScope st) f cdv A outer s H E).nox (defBody st) t ∧ t { nx := fun _ H' => Q .non H', rt := Q } (start N vs) H) : FnOk P w K mg base C8.CX0 (k + 1) f fd ps sp :=
  F.ok S len fun cdv A outer s H vs Q E hr h => (let ⟨t, p, q⟩ := hbody cdv A outer s H vs Q E hr h; ⟨t, p.nox, q⟩)
end
/-! ### pure: what latest, earliest, late_of tell -/
def endV (E : Bool → Option Int) : List V := [ov (E false), ov (E true)]
def Late (l : List (Option Int)) (o : Option Int) : Prop := (o = none ↔ none ∈ l) ∧ ∀ m, o = some m → some m ∈ l ∧ ∀ e, some e ∈ l → e ≤ m
def Soon (l : List (Option Int)) (o : Option Int) : Prop := (o = none ↔ ∀ e ∈ l, e = none) ∧ ∀ m, o = some m → some m ∈ l ∧ ∀ e, some e ∈ l → m ≤ e
def colE (L : Ln) (A B : Plan) (x : Int) (i : Bool) : List (Option Int) := (choices (pauses A B)).map fun c => ends L A B x c i
theorem Ch.snoc : ∀ {ps : List (Int × Int)} {c : List Int} {q : Int × Int} {t : Int}, Ch ps c → q.1 ≤ t → t ≤ q.2 → Ch (ps ++ [q]) (c ++ [t])
  | [], [], _, _, _, h1, h2 => ⟨h1, h2, True.intro⟩
  | _ :: _, _ :: _, _, _, h, h1, h2 => ⟨h.1, h.2.1, Ch.snoc h.2.2 h1 h2⟩
  | [], _ :: _, _, _, h, _, _ => h.elim
  | _ :: _, [], _, _, h, _, _ => h.elim
theorem rng_mem {q : Int × Int} {t : Int} : t ∈ rng q ↔ q.1 ≤ t ∧ t ≤ q.2 := by
  unfold rng
  rw [List.mem_map]
  constructor
  · rintro ⟨i, hi, rfl⟩
    have := List.mem_range.mp hi
    omega
  · rintro ⟨h1, h2⟩
    exact ⟨(t - q.1).toNat, List.mem_range.mpr (by omega), by omega⟩
theorem stepC_mem {l : List (List Int)} {q : Int × Int} {c : List Int} : c ∈ stepC l q ↔ ∃ d t, d ∈ l ∧ q.1 ≤ t ∧ t ≤ q.2 ∧ c = d ++ [t] := by
  unfold stepC ext1
  rw [List.mem_flatMap]
  constructor
  · rintro ⟨d, hd, hc⟩
    obtain ⟨t, ht, rfl⟩ := List.mem_map.mp hc
    have := rng_mem.mp ht
    exact ⟨d, t, hd, this.1, this.2, rfl⟩
  · rintro ⟨d, t, hd, h1, h2, rfl⟩
    exact ⟨d, hd, List.mem_map.mpr ⟨t, rng_mem.mpr ⟨h1, h2⟩, rfl⟩⟩
theorem choices_ch_gen : ∀ (ps : List (Int × Int)) (l : List (List Int)) (qs : List (Int × Int)), (∀ c ∈ l, Ch qs c) → ∀ c ∈ ps.foldl stepC l, Ch (qs ++ ps) c
  | [], l, qs, h, c, hc => by rw [List.append_nil]; exact h c hc
  | q :: ps, l, qs, h, c, hc => by
    have := choices_ch_gen ps (stepC l q) (qs ++ [q]) (fun c hc => by
      obtain ⟨d, t, hd, h1, h2, rfl⟩ := stepC_mem.mp hc
      exact (h d hd).snoc h1 h2) c hc
    rwa [List.append_assoc] at this
theorem choices_ch {ps : List (Int × Int)} {c : List Int} (h : c ∈ choices ps) : Ch ps c := choices_ch_gen ps [[]] [] (fun c hc => by rw [List.mem_singleton.mp hc]; exact True.intro) c h
/-! ### ExtN in comprehensions -/
theorem rel_ext {tP : Addr} {H1 : Hp} {D : Addr} (hD : H1 D = none) : Rel ExtN (TbOk tP) H1 D := by
  refine ⟨fun _ _ _ a b => a.trans b, fun _ _ _ e h => e _ _ h (fun _ z => by cases z), fun H o e b u h n => ?_, ExtN.refl _, fun H xs ys t h => ?_, fun t => TbOk.same t (Same.new hD)⟩
  · rw [upd_ne (ne_of_none h hD)]
    exact e _ _ h n
  · intro p hp
    obtain ⟨ps, h1, h2, h3⟩ := t p hp
    refine ⟨ps, by rw [upd_ne (fun z => by rw [z, h] at h1; cases h1)]; exact h1, h2, fun pos cv hc => ?_⟩
    obtain ⟨c, e1, e2⟩ := h3 pos cv hc
    refine ⟨c, e1, ?_⟩
    rw [upd_ne (fun z => by rw [z, h] at e2; unfold LamX.CodeO at e2; cases e2)]
    exact e2
theorem tp_of {H : Hp} : ∀ {acc : List V} {xs : List (List V)}, acc.length = xs.length → (∀ (i : Nat) (y : V) (x : List V), acc[i]? = some y → xs[i]? = some x → ∃ r, y = V.ref r ∧ H r = some (.tup x)) → ∃ rs : List Addr, acc = rs.map V.ref ∧ TP H rs xs
  | [], [], _, _ => ⟨[], rfl, True.intro⟩
  | y :: acc, x :: xs, h, k => by
    obtain ⟨r, rfl, hr⟩ := k 0 y x rfl rfl
    obtain ⟨rs, rfl, ht⟩ := tp_of (acc := acc) (xs := xs) (Nat.succ.inj h) (fun i y x h1 h2 => k (i + 1) y x (by simpa using h1) (by simpa using h2))
    exact ⟨r :: rs, rfl, hr, ht⟩
  | [], _ :: _, h, _ => by cases h
  | _ :: _, [], h, _ => by cases h
theorem exOf {H H' : Hp} (e : Same H H') : ExtN H H' := ExtN.of e
theorem LT.ext {H H' : Hp} {p : Addr} {xs : List (List V)} (h : LT H p xs) (e : ExtN H H') : LT H' p xs := by
  obtain ⟨rs, h1, h2⟩ := h
  exact ⟨rs, e _ _ h1 (fun _ z => by cases z), TP.extN e h2⟩
theorem Arg.same {G : Gl5} {H H' : Hp} {ln p q : Addr} {L : Ln} {A B : Plan} {x : Int} (a : Arg G H ln p q L A B x) (e : Same H H') : Arg G H' ln p q L A B x := a.ext (exOf e)
def sp_all_ends (G : Gl5) (tP : Addr) : Sp := fun vs H Q _ => ∃ ln p q x L A B, vs = [.ref ln, .ref p, .ref q, .int x] ∧ Arg G H ln p q L A B x ∧ cntC (pauses A B) ≤ 400 ∧ TbOk tP H ∧
  ∀ d H', ExtN H H' → TbOk tP H' → LT H' d ((choices (pauses A B)).map fun c => endV (ends L A B x c)) → Q (.ref d) H'
def sp_run (G : Gl5) (tP : Addr) : Sp := fun vs H Q _ => ∃ ln p q x L A B ts cv, vs = [.ref ln, .ref p, .ref q, .int x, cv] ∧ Arg G H ln p q L A B x ∧ Ch (pauses A B) ts ∧ TbOk tP H ∧ ((∃ c, cv = .ref c ∧ H c = some (.tup (ts.map V.int))) ∨ (cv = .non ∧ ts = (pauses A B).map (·.1))) ∧
  ∀ rp H', ExtN H H' → TbOk tP H' → RunAt G H' rp (ends L A B x ts) → Q (.ref rp) H'
abbrev N_all_ends : List Str := ["line", "one", "other", "x", "choice"]
theorem sc_all_ends : FnScope N_all_ends ["line", "one", "other", "x"] (defScope s_all_ends) := C8.fnScope_by (by decide +kernel)
theorem ok_all_ends {tP : Addr} (T : Txt G mg) {f : Addr} {fd : FuncData} (F : FnP G.K "all_ends" "all_ends" s_all_ends f fd) (hm : mg "all_ends" = some (.ref f)) (c_check_run : C8.Cal P w G.K mg base 6 "check_run" (sp_check_run G) []) (c_check_size : C8.Cal P w G.K mg base 4 "check_size" (sp_check_size) []) (c_check_choices : C8.Cal P w G.K mg base 3 "check_choices" (sp_check_choices) []) (c_run_of : C8.Cal P w G.K mg base 8 "run_of" (sp_run_of G tP) []) (c_all_choices : C8.Cal P w G.K mg base 2 "all_choices" (sp_all_choices) []) : C8.Cal P w G.K mg base 9 "all_ends" (sp_all_ends G tP) [] := by
  refine cal_mk F hm (F.bindsN fun _ _ _ _ _ _ us hl => match us, hl with | [_, _, _, _], _ => rfl) sc_all_ends (fun vs H Q E h => ?_) (fun cdv A outer s H vs Q E hr h => ?_)
  · obtain ⟨ln, p, q1, x, L, A, B, rfl, ha, hcn, htb, q⟩ := h
    rfl
  · obtain ⟨ln, p, q1, x, L, A, B, rfl, ha, hcn, htb, q⟩ := h
    refine ⟨_, (pss_cons (ps_expr (C8.pe_c c_check_run hr (by decide) (by rfl) (pa_cons (pv 0) (pa_cons (pv 1) (pa_cons (pv 2) pa_nil)))))
    (pss_cons (ps_expr (C8.pe_c c_check_size hr (by decide) (by rfl) (pa_cons (pv 3) pa_nil)))
    (pss_cons (ps_expr (C8.pe_c c_check_choices hr (by decide) (by rfl) (pa_cons (pv 1) (pa_cons (pv 2) pa_nil))))
    (pss_one (ps_ret (pe_lc (own := [("choice", 4)]) (g := gName 4) (tt := tYes) rfl sc_all_ends.nd (pi_list (C8.pe_c c_all_choices hr (by decide) (by rfl) (pa_cons (pv 1) (pa_cons (pv 2) pa_nil)))) (blkOk_by (own := [("choice", 4)]) (N := N_all_ends) (sc := defScope s_all_ends) (by decide +kernel)) (fun _ _ _ _ _ => (pg_name (i := 4) sc_all_ends.nd rfl (Or.inl rfl))) (fun _ _ _ _ _ => pts_nil) (fun _ _ _ _ _ => (pe_fldK (K := G.K) (C8.pe_c c_run_of hr (by decide) (by rfl) (pa_cons (pv 0) (pa_cons (pv 1) (pa_cons (pv 2) (pa_cons (pv 3) (pa_cons (pv 4) pa_nil)))))) rfl rfl)))))))), ?_⟩
    refine y_call (va_cons (v_var rfl) (va_cons (v_var rfl) (va_cons (v_var rfl) va_nil))) ⟨ln, L, p, q1, A, B, rfl, ha.line, ha.pA, ha.oA, ha.pB, ha.oB, fun H1 e1 => ?_⟩
    refine y_call (va_cons (v_var rfl) va_nil) ⟨x, rfl, ha.x1.1, ha.x1.2, ?_⟩
    have a1 := ha.same e1
    refine y_call (va_cons (v_var rfl) (va_cons (v_var rfl) va_nil)) ⟨p, q1, A, B, rfl, a1.pA, ha.oA, a1.pB, ha.oB, hcn, fun H2 e2 => ?_⟩
    have a2 := a1.same e2
    refine x_retE (x_lcE (c_call (va_cons (v_var rfl) (va_cons (v_var rfl) va_nil)) ⟨p, q1, A, B, rfl, a2.pA, ha.oA, a2.pB, ha.oB, hcn, fun d H3 e3 lt => ?_⟩))
    obtain ⟨rs, h1, h2⟩ := lt
    have a3 := a2.same e3
    have t3 : TbOk tP H3 := TbOk.same htb ((e1.trans e2).trans e3)
    have hlen : rs.length = (choices (pauses A B)).length := by rw [h2.len, List.length_map]
    have hL : (choices (pauses A B)).length ≤ 400 := by
      have := choices_len (ps := pauses A B) fun z hz => (pauses_ok ha.oA ha.oB hz).2.1
      omega
    refine ⟨d, rfl, ⟨_, SqL.of h1⟩, fun D hD => ?_⟩
    refine lcr (walk_list (xs := rs.map V.ref)) (fun _ _ _ _ h => h.1) (rel_ext (tP := tP) hD) hD t3 (fun H' e => SqL.of (e _ _ h1 (fun _ z => by cases z))) (by rw [List.length_map, hlen]; exact Nat.le_trans hL (by decide)) (fun i y H' => ∃ r c, y = .ref r ∧ (choices (pauses A B))[i]? = some c ∧ H' r = some (.tup (endV (ends L A B x c))))
      (fun i y H' H'' e ⟨r, c, z1, z2, z3⟩ => ⟨r, c, z1, z2, e _ _ z3 (fun _ z => by cases z)⟩) (fun i y H' xs ys nD ⟨r, c, z1, z2, z3⟩ => ⟨r, c, z1, z2, by rw [upd_ne (fun z => by rw [z, nD] at z3; cases z3)]; exact z3⟩) ?_ ?_
    · rintro i y H' acc hi ⟨_, hy⟩ e t hDl
      obtain ⟨b, hb, rfl⟩ := refs_at hy
      obtain ⟨cy, hcy, hcb⟩ := h2.at2 hb
      rw [List.getElem?_map] at hcy
      obtain ⟨c, hc, rfl⟩ := Option.map_eq_some_iff.mp hcy
      refine ⟨rfl, fun Q2 k2 => ?_⟩
      refine c_call (va_cons (v_var rfl) (va_cons (v_var rfl) (va_cons (v_var rfl) (va_cons (v_var rfl) (va_cons (v_var rfl) va_nil))))) ⟨ln, p, q1, x, b, L, A, B, c, rfl, a3.ext e, e _ _ hcb (fun _ z => by cases z), choices_ch (List.mem_of_getElem? hc), t, fun rp H4 e4 t4 r4 => ?_⟩
      obtain ⟨dx, fs, ep, r1, r2, r3⟩ := r4
      exact ⟨rp, _, _, _, _, rfl, r1, T.cR, T.R_ends, r2, k2 _ _ e4 t4 ⟨ep, c, rfl, hc, r3⟩⟩
    · intro H' acc hacc hl hΦ e t
      rw [List.length_map, hlen] at hl
      obtain ⟨rs', rfl, ht⟩ := tp_of (H := H') (acc := acc) (xs := (choices (pauses A B)).map fun c => endV (ends L A B x c)) (by rw [List.length_map]; exact hl) (fun i y z h1 h2 => by
        obtain ⟨r, c, g1, g2, g3⟩ := hΦ i y h1
        rw [List.getElem?_map, g2] at h2
        exact ⟨r, g1, by rw [g3]; exact congrArg _ (congrArg _ (Option.some.inj h2))⟩)
      exact q D H' ((exOf ((e1.trans e2).trans e3)).trans e) t ⟨rs', hacc, ht⟩

end
end SH
end
section
namespace SH
open PySem PySem.Spec PyProof.Rows L2
open LamX (ExtN Tabs TabB)
section
variable {P : Program} {w : World} {G : Gl5} {mg : Str → Option Value} {base : Heap}

theorem x_c5 {sp : Sp} {E : XK} {t1 t2 t3 t4 t5 : TE} {v1 v2 v3 v4 : V} {σ : L2.St} {H : Hp} {Q : VK} (h1 : Val t1 σ H v1) (h2 : Val t2 σ H v2) (h3 : Val t3 σ H v3) (h4 : Val t4 σ H v4) (h5 : t5 σ H fun y H1 => sp [v1, v2, v3, v4, y] H1 Q E) : tCall sp [] E (tCons t1 (tCons t2 (tCons t3 (tCons t4 (tCons t5 tNil))))) σ H Q :=
  h1 _ (h2 _ (h3 _ (h4 _ h5)))
theorem ch_low : ∀ (ps : List (Int × Int)), (∀ q ∈ ps, q.1 ≤ q.2) → Ch ps (ps.map (·.1))
  | [], _ => True.intro
  | q :: ps, h => ⟨Int.le_refl _, h q List.mem_cons_self, ch_low ps fun z hz => h z (List.mem_cons_of_mem _ hz)⟩
abbrev N_run : List Str := ["line", "one", "other", "x", "pauses"]
theorem sc_run : FnScope N_run ["line", "one", "other", "x", "pauses"] (defScope s_run) := C8.fnScope_by (by decide +kernel)
theorem ok_run {tP : Addr} (T : Txt G mg) {f : Addr} {fd : FuncData} (F : FnK G.K "run" s_run [("x", .int 1), ("pauses", .non)] f fd) (c_check_run : C8.Cal P w G.K mg base 6 "check_run" (sp_check_run G) []) (c_check_size : C8.Cal P w G.K mg base 4 "check_size" (sp_check_size) []) (c_run_of : C8.Cal P w G.K mg base 8 "run_of" (sp_run_of G tP) []) (c_shortest : C8.Cal P w G.K mg base 2 "shortest" (sp_shortest) []) (c_check_pauses : C8.Cal P w G.K mg base 3 "check_pauses" (sp_check_pauses) []) : FnOk P w G.K mg base C8.CX0 9 f fd ["line", "one", "other", "x", "pauses"] (sp_run G tP) := by
  refine fnk_ok F sc_run (fun vs H Q E h => ?_) (fun cdv A outer s H vs Q E hr h => ?_)
  · obtain ⟨ln, p, q1, x, L, A, B, ts, cv, rfl, ha, hch, htb, hcv, q⟩ := h
    rfl
  · obtain ⟨ln, p, q1, x, L, A, B, ts, cv, rfl, ha, hch, htb, hcv, q⟩ := h
    refine ⟨_, (pss_cons (ps_expr (C8.pe_c c_check_run hr (by decide) (by rfl) (pa_cons (pv 0) (pa_cons (pv 1) (pa_cons (pv 2) pa_nil)))))
    (pss_cons (ps_expr (C8.pe_c c_check_size hr (by decide) (by rfl) (pa_cons (pv 3) pa_nil)))
    (pss_cons (ps_if (pt_cmpR op_isN (pv 4) pe_non (nomark _)) (pss_one (ps_ret (C8.pe_c c_run_of hr (by decide) (by rfl) (pa_cons (pv 0) (pa_cons (pv 1) (pa_cons (pv 2) (pa_cons (pv 3) (pa_cons (C8.pe_c c_shortest hr (by decide) (by rfl) (pa_cons (pv 1) (pa_cons (pv 2) pa_nil))) pa_nil)))))))) pss_nil)
    (pss_cons (ps_expr (C8.pe_c c_check_pauses hr (by decide) (by rfl) (pa_cons (pv 4) (pa_cons (pv 1) (pa_cons (pv 2) pa_nil)))))
    (pss_one (ps_ret (C8.pe_c c_run_of hr (by decide) (by rfl) (pa_cons (pv 0) (pa_cons (pv 1) (pa_cons (pv 2) (pa_cons (pv 3) (pa_cons (pv 4) pa_nil)))))))))))), ?_⟩
    refine y_call (va_cons (v_var rfl) (va_cons (v_var rfl) (va_cons (v_var rfl) va_nil))) ⟨ln, L, p, q1, A, B, rfl, ha.line, ha.pA, ha.oA, ha.pB, ha.oB, fun H1 e1 => ?_⟩
    refine y_call (va_cons (v_var rfl) va_nil) ⟨x, rfl, ha.x1.1, ha.x1.2, ?_⟩
    have a1 := ha.same e1
    rcases hcv with ⟨c, rfl, hc⟩ | ⟨rfl, rfl⟩
    · refine y_skip (a_T (v_is (v_isN (x := .ref c) (v_var rfl)) (show V.bl (decide (V.ref c = V.non)) = .bl false from congrArg V.bl (decide_eq_false (fun z => by cases z))))) ?_
      refine y_call (va_cons (v_var rfl) (va_cons (v_var rfl) (va_cons (v_var rfl) va_nil))) ⟨c, p, q1, A, B, ts, rfl, a1.pA, ha.oA, a1.pB, ha.oB, e1 _ _ hc, hch, fun H2 e2 => ?_⟩
      exact x_retE (c_call (va_cons (v_var rfl) (va_cons (v_var rfl) (va_cons (v_var rfl) (va_cons (v_var rfl) (va_cons (v_var rfl) va_nil))))) ⟨ln, p, q1, x, c, L, A, B, ts, rfl, a1.same e2, e2 _ _ (e1 _ _ hc), hch, TbOk.same htb (e1.trans e2), fun rp H3 e3 t3 r3 => q rp H3 ((exOf (e1.trans e2)).trans e3) t3 r3⟩)
    · refine y_if (b := true) (a_T (v_is (v_isN (x := .non) (v_var rfl)) (show V.bl (decide (V.non = V.non)) = .bl true from congrArg V.bl (decide_eq_true rfl)))) (fun _ => ?_) fun z => by cases z
      refine x_retE (x_c5 (v_var rfl) (v_var rfl) (v_var rfl) (v_var rfl) (c_call (va_cons (v_var rfl) (va_cons (v_var rfl) va_nil)) ⟨p, q1, A, B, rfl, a1.pA, ha.oA, a1.pB, ha.oB, fun d H2 e2 hd => ?_⟩))
      exact ⟨ln, p, q1, x, d, L, A, B, _, rfl, a1.same e2, by rw [hd, List.map_map]; rfl, hch, TbOk.same htb (e1.trans e2), fun rp H3 e3 t3 r3 => q rp H3 ((exOf (e1.trans e2)).trans e3) t3 r3⟩

def sp_latest (G : Gl5) (tP : Addr) : Sp := fun vs H Q _ => ∃ ln p q x L A B, vs = [.ref ln, .ref p, .ref q, .int x] ∧ Arg G H ln p q L A B x ∧ cntC (pauses A B) ≤ 400 ∧ TbOk tP H ∧
  ∀ d H' o1 o2, ExtN H H' → TbOk tP H' → Late (colE L A B x false) o1 → Late (colE L A B x true) o2 → H' d = some (.tup [ov o1, ov o2]) → Q (.ref d) H'
def sp_earliest (G : Gl5) (tP : Addr) : Sp := fun vs H Q _ => ∃ ln p q x L A B, vs = [.ref ln, .ref p, .ref q, .int x] ∧ Arg G H ln p q L A B x ∧ cntC (pauses A B) ≤ 400 ∧ TbOk tP H ∧
  ∀ d H' o1 o2, ExtN H H' → TbOk tP H' → Soon (colE L A B x false) o1 → Soon (colE L A B x true) o2 → H' d = some (.tup [ov o1, ov o2]) → Q (.ref d) H'
theorem inV_non : ∀ l : List (Option Int), inV .non (l.map ov) = decide (none ∈ l)
  | [] => rfl
  | none :: l => by
    rw [decide_eq_true List.mem_cons_self]
    rfl
  | some i :: l => by
    have ih := inV_non l
    have : inV .non ((some i :: l).map ov) = inV .non (l.map ov) := rfl
    rw [this, ih]
    simp
theorem flat_ov : ∀ l : List (Option Int), (l.map ov).all flatV = true
  | [] => rfl
  | none :: l => flat_ov l
  | some _ :: l => flat_ov l
theorem ints_of : ∀ l : List (Option Int), none ∉ l → l.map ov = (l.filterMap id).map V.int
  | [], _ => rfl
  | none :: l, h => absurd List.mem_cons_self h
  | some i :: l, h => by
    rw [List.map_cons, ints_of l fun z => h (List.mem_cons_of_mem _ z)]
    rfl
theorem mem_fm {l : List (Option Int)} {i : Int} : i ∈ l.filterMap id ↔ some i ∈ l := by
  rw [List.mem_filterMap]
  exact ⟨fun ⟨a, h, e⟩ => by rw [show a = some i from e] at h; exact h, fun h => ⟨some i, h, rfl⟩⟩
theorem late_some {l : List (Option Int)} {m : Int} (hn : none ∉ l) (h1 : m ∈ l.filterMap id) (h2 : ∀ y, y ∈ l.filterMap id → y ≤ m) : Late l (some m) :=
  ⟨⟨(fun z => by cases z), fun z => absurd z hn⟩, fun m' e => by cases e; exact ⟨mem_fm.mp h1, fun e he => h2 e (mem_fm.mpr he)⟩⟩
theorem late_none {l : List (Option Int)} (hn : none ∈ l) : Late l none := ⟨⟨fun _ => hn, fun _ => rfl⟩, fun m' e => by cases e⟩
theorem soon_some {l : List (Option Int)} {m : Int} (h1 : m ∈ l.filterMap id) (h2 : ∀ y, y ∈ l.filterMap id → m ≤ y) : Soon l (some m) :=
  ⟨⟨(fun z => by cases z), (fun z => by have := z _ (mem_fm.mp h1); cases this)⟩, fun m' e => by cases e; exact ⟨mem_fm.mp h1, fun e he => h2 e (mem_fm.mpr he)⟩⟩
theorem soon_none {l : List (Option Int)} (h : l.filterMap id = []) : Soon l none := by
  refine ⟨⟨fun _ e he => ?_, fun _ => rfl⟩, fun m' e => by cases e⟩
  cases e with
  | none => rfl
  | some i =>
    have := mem_fm.mpr he
    rw [h] at this
    cases this
theorem filt_map {α β : Type} (f : α → β) (p : β → Bool) : ∀ l : List α, (l.map f).filter p = (l.filter fun x => p (f x)).map f
  | [] => rfl
  | a :: l => by
    rw [List.map_cons, List.filter_cons, List.filter_cons, filt_map f p l]
    split <;> rfl
theorem filt_ov : ∀ l : List (Option Int), (l.map ov).filter (fun v => !decide (v = V.non)) = (l.filterMap id).map V.int
  | [] => rfl
  | none :: l => filt_ov l
  | some i :: l => by
    show V.int i :: (l.map ov).filter (fun v => !decide (v = V.non)) = _
    rw [filt_ov l]
    rfl

theorem t_ifE {tt : L2.TT} {ta tb : TE} {σ : L2.St} {H : Hp} {Q : VK} {b : Bool} (h : Ans tt σ H b) (e : b = true) (k : ta σ H Q) : tIf tt ta tb σ H Q := h _ (by rw [e]; exact iteT k)
theorem t_ifF {tt : L2.TT} {ta tb : TE} {σ : L2.St} {H : Hp} {Q : VK} {b : Bool} (h : Ans tt σ H b) (e : b = false) (k : tb σ H Q) : tIf tt ta tb σ H Q := h _ (by rw [e]; exact iteF k)
abbrev N_latest : List Str := ["line", "one", "other", "x", "found", "ends", "side", "pair", "each"]
theorem sc_latest : FnScope N_latest ["line", "one", "other", "x"] (defScope s_latest) := C8.fnScope_by (by decide +kernel)
theorem ok_latest {tP : Addr} (T : Txt G mg) {f : Addr} {fd : FuncData} (F : FnK G.K "latest" s_latest [("x", .int 1)] f fd) (c_all_ends : C8.Cal P w G.K mg base 9 "all_ends" (sp_all_ends G tP) []) : FnOk P w G.K mg base C8.CX0 10 f fd ["line", "one", "other", "x"] (sp_latest G tP) := by
  refine fnk_ok F sc_latest (fun vs H Q E h => ?_) (fun cdv A outer s H vs Q E hr h => ?_)
  · obtain ⟨ln, p, q1, x, L, A, B, rfl, ha, hcn, htb, q⟩ := h
    rfl
  · obtain ⟨ln, p, q1, x, L, A, B, rfl, ha, hcn, htb, q⟩ := h
    refine ⟨_, (pss_cons (ps_set (i := 4) sc_latest.nd rfl (Or.inr rfl) (C8.pe_c c_all_ends hr (by decide) (by rfl) (pa_cons (pv 0) (pa_cons (pv 1) (pa_cons (pv 2) (pa_cons (pv 3) pa_nil))))))
    (pss_cons (ps_setLc (i := 5) (own := [("side", 6)]) (g := gName 6) (tt := tYes) rfl sc_latest.nd rfl rfl (sw_true rfl rfl rfl (by decide +kernel)) (pi_tup (pe_tup (pa_cons pe_int (pa_cons pe_int pa_nil)))) (blkOk_by (own := [("side", 6)]) (N := N_latest) (sc := defScope s_latest) (by decide +kernel)) (fun _ _ _ _ _ => (pg_name (i := 6) sc_latest.nd rfl (Or.inr rfl))) (fun _ _ _ _ _ => pts_nil) (fun _ _ _ _ _ => (pe_lc (own := [("pair", 7)]) (g := gName 7) (tt := tYes) rfl sc_latest.nd (pi_listK (K := G.K) (pv 4) rfl) (blk_in (own := [("pair", 7)]) (N := N_latest) (sc2 := (relS { kind := .function, names := [(".0", .local), ("side", .cell), ("found", .free)], isGenerator := false, isCoroutine := false, more := [] } (defScope s_latest))) (by decide +kernel) rfl) (fun _ _ _ _ _ => (pg_name (i := 7) sc_latest.nd rfl (Or.inl rfl))) (fun _ _ _ _ _ => pts_nil) (fun _ _ _ _ _ => (pe_ix (r := rIxT G.K) ix_tup (pv 7) (pv 6) (fun _ _ => rfl))))))
    (pss_one (ps_ret (pe_callTy (r := rTupK G.K) call_tupK (by rfl) T.z_tuple (by decide +kernel) (pa_cons (pe_lc (own := [("each", 8)]) (g := gName 8) (tt := tYes) rfl sc_latest.nd (pi_list (pv 5)) (blkOk_by (own := [("each", 8)]) (N := N_latest) (sc := defScope s_latest) (by decide +kernel)) (fun _ _ _ _ _ => (pg_name (i := 8) sc_latest.nd rfl (Or.inl rfl))) (fun _ _ _ _ _ => pts_nil) (fun _ _ _ _ _ => (pe_ifExp (pt_cmpR (r := rIn G.K false) op_in_seq pe_non (pv 8) (by rfl)) pe_non (pe_callB (r := rMax G.K) (cr_max rfl) (by rfl) T.z_max (by decide +kernel) (pa_cons (pv 8) pa_nil))))) pa_nil)))))), ?_⟩
    have hps : ∀ z ∈ pauses A B, z.1 ≤ z.2 := fun z hz => (pauses_ok ha.oA ha.oB hz).2.1
    have hL : (choices (pauses A B)).length ≤ 400 := by
      have := choices_len hps
      omega
    have hcol_ne : choices (pauses A B) ≠ [] := fun z => by
      have h1 := choices_take hps 0
      rw [z] at h1
      simp [choices] at h1
    obtain ⟨col, hcol0⟩ : ∃ col, col = colE L A B x := ⟨_, rfl⟩
    have hcne : ∀ b, col b ≠ [] := fun b z => by
      rw [hcol0] at z
      exact hcol_ne (List.map_eq_nil_iff.mp z)
    refine y_setE (c_call (va_cons (v_var rfl) (va_cons (v_var rfl) (va_cons (v_var rfl) (va_cons (v_var rfl) va_nil)))) ⟨ln, p, q1, x, L, A, B, rfl, ha, hcn, htb, fun d H1 e1 t1 lt => ?_⟩)
    rw [show colE L A B x = col from hcol0.symm] at q
    obtain ⟨rs, l1, l2⟩ := lt
    have hlen := l2.len
    show tSeq _ _ _ [some (V.ref ln), some (V.ref p), some (V.ref q1), some (V.int x), some (V.ref d), none, none, none, none] H1
    refine y_setE (x_lcN (va_cons v_c (va_cons v_c va_nil)) (by show 2 ≤ sizeLine; decide) fun m hm D1 hD1 => ?_)
    have em : Same H1 (upd H1 m (.tup [.int 0, .int 1])) := Same.new hm
    refine lcr (walk_tup (xs := [V.int 0, V.int 1])) (fun _ _ _ _ h => h.1) (rel_same hD1) hD1 True.intro (fun H' e2 => SqT.of (e2 _ _ upd_same)) (by show 2 ≤ sizeLine; decide) (fun i y H' => ∃ (b : Bool) (r : Addr), i = bn b ∧ y = .ref r ∧ r ≠ D1 ∧ H' r = some (.lst ((col b).map ov)))
      (fun i y H' H'' e ⟨b, r, z1, z2, z3, z4⟩ => ⟨b, r, z1, z2, z3, e _ _ z4⟩) (fun i y H' xs ys hh ⟨b, r, z1, z2, z3, z4⟩ => ⟨b, r, z1, z2, z3, by rw [upd_ne z3]; exact z4⟩) ?_ ?_
    · rintro i y H' acc hi ⟨_, hy⟩ e6 _ hDl
      obtain ⟨b, rfl, rfl⟩ := two_at hy
      have e45 := em
      refine ⟨rfl, fun Q2 k2 => ?_⟩
      refine x_lcPL (ys := rs.map V.ref) (a := d) (fun H7 e7 => SqL.of (e7 _ _ (e45.trans e6 _ _ l1))) (v_var rfl) (fun j => fm (fun _ => true) (fun _ y => (y[bn b]?).getD .non) (rs.take j) (((choices (pauses A B)).map fun c => endV (ends L A B x c)).take j)) (by simp [fm]) (fun j _ => Nat.lt_of_le_of_lt (acT_len (m := 400) (by rw [List.length_map]; exact hL)) (by decide)) ?_ ?_
      · intro j y2 H7 hy2 e7
        obtain ⟨c, hc, rfl⟩ := refs_at hy2
        obtain ⟨y3, hy3, hcy⟩ := l2.at2 hc
        rw [List.getElem?_map] at hy3
        obtain ⟨ch, hch, rfl⟩ := Option.map_eq_some_iff.mp hy3
        have hxs : ((choices (pauses A B)).map fun c => endV (ends L A B x c))[j]? = some (endV (ends L A B x ch)) := by rw [List.getElem?_map, hch]; rfl
        have hv : Val (tOp (rIxT G.K) (tVar 7) (tVar 6)) [some (V.ref ln), some (V.ref p), some (V.ref q1), some (V.int x), some (V.ref d), none, some (V.int (bi b)), some (V.ref c), none] H7 (ov (ends L A B x ch b)) := v_sqT (v_var rfl) (v_var rfl) (SqT.of (e7 _ _ (e45.trans e6 _ _ hcy))) (by cases b <;> rfl)
        refine ⟨rfl, true, ans_yes, fun _ => ⟨_, hv, ?_⟩, fun z => by cases z⟩
        rw [acT_succ hlen hc hxs, if_pos rfl]
        cases b <;> rfl
      · intro D2 H7 hD2 hl2 e7
        have hcol : fm (fun _ => true) (fun _ y => (y[bn b]?).getD .non) rs ((choices (pauses A B)).map fun c => endV (ends L A B x c)) = (col b).map ov := by
          rw [fm_val hlen, List.filter_eq_self.mpr (fun _ _ => rfl), List.map_map, show col b = (choices (pauses A B)).map fun c => ends L A B x c b from by rw [hcol0]; rfl, List.map_map]
          refine List.map_congr_left fun c _ => ?_
          cases b <;> rfl
        rw [List.length_map, List.take_length, hlen, List.take_length, hcol] at hl2
        exact k2 _ _ e7 True.intro ⟨b, D2, rfl, rfl, (fun z => by rw [z, hDl] at hD2; cases hD2), hl2⟩
    · intro H2 acc hacc hal hΦ e2 _
      have e12 : Same H1 H2 := em.trans e2
      obtain ⟨r0, r1, hacc2, n0, n1, h0, h1⟩ : ∃ r0 r1, acc = [V.ref r0, V.ref r1] ∧ r0 ≠ D1 ∧ r1 ≠ D1 ∧ H2 r0 = some (.lst ((col false).map ov)) ∧ H2 r1 = some (.lst ((col true).map ov)) := by
        match acc, hal with
        | [y0, y1], _ =>
          obtain ⟨b0, r0, z1, z2, z3, z4⟩ := hΦ 0 y0 rfl
          obtain ⟨b1, r1, w1, w2, w3, w4⟩ := hΦ 1 y1 rfl
          cases b0 with
          | true => cases z1
          | false =>
            cases b1 with
            | false => cases w1
            | true => exact ⟨r0, r1, by rw [z2, w2], z3, w3, z4, w4⟩
      subst hacc2
      show tRet _ _ [some (V.ref ln), some (V.ref p), some (V.ref q1), some (V.int x), some (V.ref d), some (V.ref D1), none, none, none] H2
      refine x_retE (x_cb (x_lcE (v_var rfl _ ⟨D1, rfl, ⟨_, SqL.of hacc⟩, fun D3 hD3 => ?_⟩)))
      refine lcr (walk_list (xs := [V.ref r0, V.ref r1])) (fun _ _ _ _ h => h.1) (rel_same hD3) hD3 True.intro (fun H' e => SqL.of (e _ _ hacc)) (by show 2 ≤ sizeLine; decide) (fun i y _ => ∃ o, y = ov o ∧ Late (col (decide (i = 1))) o) (fun _ _ _ _ _ h => h) (fun _ _ _ _ _ _ h => h) ?_ ?_
      · rintro i y H' acc2 hi ⟨_, hy⟩ e8 _ hDl
        obtain ⟨b, r, hib, rfl, hr2⟩ : ∃ (b : Bool) (r : Addr), decide (i = 1) = b ∧ y = .ref r ∧ H2 r = some (.lst ((col b).map ov)) := by
          match i, hy with
          | 0, hy => exact ⟨false, r0, rfl, (Option.some.inj hy).symm, h0⟩
          | 1, hy => exact ⟨true, r1, rfl, (Option.some.inj hy).symm, h1⟩
          | n + 2, hy => simp at hy
        rw [hib]
        have hr' := e8 _ _ hr2
        have hin : Ans (tTest (tOp (rIn G.K false) (tC .non) (tVar 8))) [some (V.ref ln), some (V.ref p), some (V.ref q1), some (V.int x), some (V.ref d), some (V.ref D1), none, none, some (V.ref r)] H' (decide (none ∈ col b)) := a_T (v_is (v_inL v_c (v_var rfl) (SqL.of hr') rfl (flat_ov _)) (congrArg V.bl (inV_non _)))
        refine ⟨rfl, fun Q2 k2 => ?_⟩
        by_cases hm : none ∈ col b
        · exact t_ifE hin (decide_eq_true hm) (v_c _ (k2 _ _ (Same.refl _) True.intro ⟨none, rfl, late_none hm⟩))
        · rw [ints_of _ hm] at hr'
          refine t_ifF hin (decide_eq_false hm) (x_cb (v_var rfl _ ⟨r, _, rfl, SqL.of hr', ?_, fun m h1 h2 => k2 _ _ (Same.refl _) True.intro ⟨some m, rfl, late_some hm h1 h2⟩⟩))
          cases hq : (col b).filterMap id with
          | nil =>
            have hne := hcne b
            cases hcb : col b with
            | nil => exact absurd hcb hne
            | cons o1 l1 =>
              cases o1 with
              | none => exact absurd (by rw [hcb]; exact List.mem_cons_self) hm
              | some i1 => rw [hcb] at hq; cases hq
          | cons a l => simp
      · intro H' acc2 hacc2 hal2 hΦ2 e8 _
        match acc2, hal2 with
        | [y0, y1], _ =>
          obtain ⟨o0, rfl, p0⟩ := hΦ2 0 y0 rfl
          obtain ⟨o1, rfl, p1⟩ := hΦ2 1 y1 rfl
          exact ⟨D3, _, rfl, .inl ⟨SqL.of hacc2, fun l hl => q l _ o0 o1 (e1.trans (exOf ((e12.trans e8).then hl))) (TbOk.same t1 ((e12.trans e8).then hl)) p0 p1 upd_same⟩⟩
abbrev N_earliest : List Str := ["line", "one", "other", "x", "found", "ends", "side", "pair", "each"]
theorem sc_earliest : FnScope N_earliest ["line", "one", "other", "x"] (defScope s_earliest) := C8.fnScope_by (by decide +kernel)
theorem ok_earliest {tP : Addr} (T : Txt G mg) {f : Addr} {fd : FuncData} (F : FnK G.K "earliest" s_earliest [("x", .int 1)] f fd) (c_all_ends : C8.Cal P w G.K mg base 9 "all_ends" (sp_all_ends G tP) []) : FnOk P w G.K mg base C8.CX0 10 f fd ["line", "one", "other", "x"] (sp_earliest G tP) := by
  refine fnk_ok F sc_earliest (fun vs H Q E h => ?_) (fun cdv A outer s H vs Q E hr h => ?_)
  · obtain ⟨ln, p, q1, x, L, A, B, rfl, ha, hcn, htb, q⟩ := h
    rfl
  · obtain ⟨ln, p, q1, x, L, A, B, rfl, ha, hcn, htb, q⟩ := h
    refine ⟨_, (pss_cons (ps_set (i := 4) sc_earliest.nd rfl (Or.inr rfl) (C8.pe_c c_all_ends hr (by decide) (by rfl) (pa_cons (pv 0) (pa_cons (pv 1) (pa_cons (pv 2) (pa_cons (pv 3) pa_nil))))))
    (pss_cons (ps_setLc (i := 5) (own := [("side", 6)]) (g := gName 6) (tt := tYes) rfl sc_earliest.nd rfl rfl (sw_true rfl rfl rfl (by decide +kernel)) (pi_tup (pe_tup (pa_cons pe_int (pa_cons pe_int pa_nil)))) (blkOk_by (own := [("side", 6)]) (N := N_earliest) (sc := defScope s_earliest) (by decide +kernel)) (fun _ _ _ _ _ => (pg_name (i := 6) sc_earliest.nd rfl (Or.inr rfl))) (fun _ _ _ _ _ => pts_nil) (fun _ _ _ _ _ => (pe_lc (own := [("pair", 7)]) (g := gName 7) rfl sc_earliest.nd (pi_listK (K := G.K) (pv 4) rfl) (blk_in (own := [("pair", 7)]) (N := N_earliest) (sc2 := (relS { kind := .function, names := [(".0", .local), ("side", .cell), ("found", .free)], isGenerator := false, isCoroutine := false, more := [] } (defScope s_earliest))) (by decide +kernel) rfl) (fun _ _ _ _ _ => (pg_name (i := 7) sc_earliest.nd rfl (Or.inl rfl))) (fun _ _ _ _ _ => (pts_one (pt_cmpR op_notN (pe_ix (r := rIxT G.K) ix_tup (pv 7) (pv 6) (fun _ _ => rfl)) pe_non (nomark _)))) (fun _ _ _ _ _ => (pe_ix (r := rIxT G.K) ix_tup (pv 7) (pv 6) (fun _ _ => rfl))))))
    (pss_one (ps_ret (pe_callTy (r := rTupK G.K) call_tupK (by rfl) T.z_tuple (by decide +kernel) (pa_cons (pe_lc (own := [("each", 8)]) (g := gName 8) (tt := tYes) rfl sc_earliest.nd (pi_list (pv 5)) (blkOk_by (own := [("each", 8)]) (N := N_earliest) (sc := defScope s_earliest) (by decide +kernel)) (fun _ _ _ _ _ => (pg_name (i := 8) sc_earliest.nd rfl (Or.inl rfl))) (fun _ _ _ _ _ => pts_nil) (fun _ _ _ _ _ => (pe_ifExp (pt_cmpR op_gt (pe_callB (r := rLenK G.K) call_lenK (by rfl) T.z_len (by decide +kernel) (pa_cons (pv 8) pa_nil)) pe_int (nomark _)) (pe_callB (r := rMin G.K) (cr_min rfl) (by rfl) T.z_min (by decide +kernel) (pa_cons (pv 8) pa_nil)) pe_non))) pa_nil)))))), ?_⟩
    have hps : ∀ z ∈ pauses A B, z.1 ≤ z.2 := fun z hz => (pauses_ok ha.oA ha.oB hz).2.1
    have hL : (choices (pauses A B)).length ≤ 400 := by
      have := choices_len hps
      omega
    have hcol_ne : choices (pauses A B) ≠ [] := fun z => by
      have h1 := choices_take hps 0
      rw [z] at h1
      simp [choices] at h1
    obtain ⟨col, hcol0⟩ : ∃ col, col = colE L A B x := ⟨_, rfl⟩
    have hcne : ∀ b, col b ≠ [] := fun b z => by
      rw [hcol0] at z
      exact hcol_ne (List.map_eq_nil_iff.mp z)
    refine y_setE (c_call (va_cons (v_var rfl) (va_cons (v_var rfl) (va_cons (v_var rfl) (va_cons (v_var rfl) va_nil)))) ⟨ln, p, q1, x, L, A, B, rfl, ha, hcn, htb, fun d H1 e1 t1 lt => ?_⟩)
    rw [show colE L A B x = col from hcol0.symm] at q
    obtain ⟨rs, l1, l2⟩ := lt
    have hlen := l2.len
    show tSeq _ _ _ [some (V.ref ln), some (V.ref p), some (V.ref q1), some (V.int x), some (V.ref d), none, none, none, none] H1
    refine y_setE (x_lcN (va_cons v_c (va_cons v_c va_nil)) (by show 2 ≤ sizeLine; decide) fun m hm D1 hD1 => ?_)
    have em : Same H1 (upd H1 m (.tup [.int 0, .int 1])) := Same.new hm
    refine lcr (walk_tup (xs := [V.int 0, V.int 1])) (fun _ _ _ _ h => h.1) (rel_same hD1) hD1 True.intro (fun H' e2 => SqT.of (e2 _ _ upd_same)) (by show 2 ≤ sizeLine; decide) (fun i y H' => ∃ (b : Bool) (r : Addr), i = bn b ∧ y = .ref r ∧ r ≠ D1 ∧ H' r = some (.lst (((col b).filterMap id).map V.int)))
      (fun i y H' H'' e ⟨b, r, z1, z2, z3, z4⟩ => ⟨b, r, z1, z2, z3, e _ _ z4⟩) (fun i y H' xs ys hh ⟨b, r, z1, z2, z3, z4⟩ => ⟨b, r, z1, z2, z3, by rw [upd_ne z3]; exact z4⟩) ?_ ?_
    · rintro i y H' acc hi ⟨_, hy⟩ e6 _ hDl
      obtain ⟨b, rfl, rfl⟩ := two_at hy
      have e45 := em
      refine ⟨rfl, fun Q2 k2 => ?_⟩
      refine x_lcPL (ys := rs.map V.ref) (a := d) (fun H7 e7 => SqL.of (e7 _ _ (e45.trans e6 _ _ l1))) (v_var rfl) (fun j => fm (fun y => !decide ((y[bn b]?).getD .non = V.non)) (fun _ y => (y[bn b]?).getD .non) (rs.take j) (((choices (pauses A B)).map fun c => endV (ends L A B x c)).take j)) (by simp [fm]) (fun j _ => Nat.lt_of_le_of_lt (acT_len (m := 400) (by rw [List.length_map]; exact hL)) (by decide)) ?_ ?_
      · intro j y2 H7 hy2 e7
        obtain ⟨c, hc, rfl⟩ := refs_at hy2
        obtain ⟨y3, hy3, hcy⟩ := l2.at2 hc
        rw [List.getElem?_map] at hy3
        obtain ⟨ch, hch, rfl⟩ := Option.map_eq_some_iff.mp hy3
        have hxs : ((choices (pauses A B)).map fun c => endV (ends L A B x c))[j]? = some (endV (ends L A B x ch)) := by rw [List.getElem?_map, hch]; rfl
        have hv : Val (tOp (rIxT G.K) (tVar 7) (tVar 6)) [some (V.ref ln), some (V.ref p), some (V.ref q1), some (V.int x), some (V.ref d), none, some (V.int (bi b)), some (V.ref c), none] H7 (ov (ends L A B x ch b)) := v_sqT (v_var rfl) (v_var rfl) (SqT.of (e7 _ _ (e45.trans e6 _ _ hcy))) (by cases b <;> rfl)
        refine ⟨rfl, _, a_T (v_notN hv), fun hb => ⟨_, hv, ?_⟩, fun hb => ?_⟩
        · rw [acT_succ hlen hc hxs, if_pos (by cases b <;> exact hb)]
          cases b <;> rfl
        · rw [acT_succ hlen hc hxs, if_neg (by rw [Bool.not_eq_true]; cases b <;> exact hb), List.append_nil]
      · intro D2 H7 hD2 hl2 e7
        have hcol : fm (fun y => !decide ((y[bn b]?).getD .non = V.non)) (fun _ y => (y[bn b]?).getD .non) rs ((choices (pauses A B)).map fun c => endV (ends L A B x c)) = ((col b).filterMap id).map V.int := by
          rw [fm_val hlen, ← filt_ov, show (col b).map ov = ((choices (pauses A B)).map fun c => endV (ends L A B x c)).map fun y => (y[bn b]?).getD .non from ?_]
          · exact (filt_map (fun y : List V => (y[bn b]?).getD V.non) (fun v => !decide (v = V.non)) _).symm
          · rw [List.map_map, show col b = (choices (pauses A B)).map fun c => ends L A B x c b from by rw [hcol0]; rfl, List.map_map]
            refine List.map_congr_left fun c _ => ?_
            cases b <;> rfl
        rw [List.length_map, List.take_length, hlen, List.take_length, hcol] at hl2
        exact k2 _ _ e7 True.intro ⟨b, D2, rfl, rfl, (fun z => by rw [z, hDl] at hD2; cases hD2), hl2⟩
    · intro H2 acc hacc hal hΦ e2 _
      have e12 : Same H1 H2 := em.trans e2
      obtain ⟨r0, r1, hacc2, n0, n1, h0, h1⟩ : ∃ r0 r1, acc = [V.ref r0, V.ref r1] ∧ r0 ≠ D1 ∧ r1 ≠ D1 ∧ H2 r0 = some (.lst (((col false).filterMap id).map V.int)) ∧ H2 r1 = some (.lst (((col true).filterMap id).map V.int)) := by
        match acc, hal with
        | [y0, y1], _ =>
          obtain ⟨b0, r0, z1, z2, z3, z4⟩ := hΦ 0 y0 rfl
          obtain ⟨b1, r1, w1, w2, w3, w4⟩ := hΦ 1 y1 rfl
          cases b0 with
          | true => cases z1
          | false =>
            cases b1 with
            | false => cases w1
            | true => exact ⟨r0, r1, by rw [z2, w2], z3, w3, z4, w4⟩
      subst hacc2
      show tRet _ _ [some (V.ref ln), some (V.ref p), some (V.ref q1), some (V.int x), some (V.ref d), some (V.ref D1), none, none, none] H2
      refine x_retE (x_cb (x_lcE (v_var rfl _ ⟨D1, rfl, ⟨_, SqL.of hacc⟩, fun D3 hD3 => ?_⟩)))
      refine lcr (walk_list (xs := [V.ref r0, V.ref r1])) (fun _ _ _ _ h => h.1) (rel_same hD3) hD3 True.intro (fun H' e => SqL.of (e _ _ hacc)) (by show 2 ≤ sizeLine; decide) (fun i y _ => ∃ o, y = ov o ∧ Soon (col (decide (i = 1))) o) (fun _ _ _ _ _ h => h) (fun _ _ _ _ _ _ h => h) ?_ ?_
      · rintro i y H' acc2 hi ⟨_, hy⟩ e8 _ hDl
        obtain ⟨b, r, hib, rfl, hr2⟩ : ∃ (b : Bool) (r : Addr), decide (i = 1) = b ∧ y = .ref r ∧ H2 r = some (.lst (((col b).filterMap id).map V.int)) := by
          match i, hy with
          | 0, hy => exact ⟨false, r0, rfl, (Option.some.inj hy).symm, h0⟩
          | 1, hy => exact ⟨true, r1, rfl, (Option.some.inj hy).symm, h1⟩
          | n + 2, hy => simp at hy
        rw [hib]
        have hr' := e8 _ _ hr2
        have hlen2 : Ans (tTest (tOp (rI0 fun i j => .bl (decide (j < i))) (tCB (rLenK G.K) (tCons (tVar 8) tNil)) (tC (.int 0)))) [some (V.ref ln), some (V.ref p), some (V.ref q1), some (V.int x), some (V.ref d), some (V.ref D1), none, none, some (V.ref r)] H' (decide (0 < ((col b).filterMap id).length)) := a_T (v_is (v_gt (v_lenL (v_var rfl) (SqL.of hr')) v_c) (by rw [List.length_map]; simp))
        refine ⟨rfl, fun Q2 k2 => ?_⟩
        by_cases hm : 0 < ((col b).filterMap id).length
        · exact t_ifE hlen2 (decide_eq_true hm) (x_cb (v_var rfl _ ⟨r, _, rfl, SqL.of hr', hm, fun m h1 h2 => k2 _ _ (Same.refl _) True.intro ⟨some m, rfl, soon_some h1 h2⟩⟩))
        · exact t_ifF hlen2 (decide_eq_false hm) (v_c _ (k2 _ _ (Same.refl _) True.intro ⟨none, rfl, soon_none (List.eq_nil_of_length_eq_zero (by omega))⟩))
      · intro H' acc2 hacc2 hal2 hΦ2 e8 _
        match acc2, hal2 with
        | [y0, y1], _ =>
          obtain ⟨o0, rfl, p0⟩ := hΦ2 0 y0 rfl
          obtain ⟨o1, rfl, p1⟩ := hΦ2 1 y1 rfl
          exact ⟨D3, _, rfl, .inl ⟨SqL.of hacc2, fun l hl => q l _ o0 o1 (e1.trans (exOf ((e12.trans e8).then hl))) (TbOk.same t1 ((e12.trans e8).then hl)) p0 p1 upd_same⟩⟩

end
end SH
end
section
namespace SH
open PySem PySem.Spec PyProof.Rows L2
open LamX (ExtN Tabs TabB)
section
variable {P : Program} {w : World} {G : Gl5} {mg : Str → Option Value} {base : Heap}

def wit (L : Ln) (A B : Plan) (x lim : Int) (c : List Int) : Bool := okE lim (ends L A B x c false) && okE lim (ends L A B x c true)
def LateC (L : Ln) (A B : Plan) (x lim : Int) (v : V) (H : Hp) : Prop := (v = .non ∧ ∀ c ∈ choices (pauses A B), wit L A B x lim c = true) ∨
  ∃ (i : Nat) (c : List Int) (r : Addr), v = .ref r ∧ H r = some (.tup (chV c)) ∧ (choices (pauses A B))[i]? = some c ∧ wit L A B x lim c = false ∧ ∀ j d, j < i → (choices (pauses A B))[j]? = some d → wit L A B x lim d = true
def sp_late_of (G : Gl5) (tP : Addr) : Sp := fun vs H Q _ => ∃ ln p q lim x L A B, vs = [.ref ln, .ref p, .ref q, .int lim, .int x] ∧ Arg G H ln p q L A B x ∧ cntC (pauses A B) ≤ 400 ∧ TbOk tP H ∧
  ∀ v H', ExtN H H' → TbOk tP H' → LateC L A B x lim v H' → Q v H'
def sp_late_choice (G : Gl5) (tP : Addr) : Sp := fun vs H Q _ => ∃ ln p q lim x L A B, vs = [.ref ln, .ref p, .ref q, .int lim, .int x] ∧ Arg G H ln p q L A B x ∧ cntC (pauses A B) ≤ 400 ∧ 0 ≤ lim ∧ lim ≤ 1000000 ∧ TbOk tP H ∧
  ∀ v H', ExtN H H' → TbOk tP H' → LateC L A B x lim v H' → Q v H'
theorem t_notB {te : TE} {σ : L2.St} {H : Hp} {Q : Bool → Hp → Prop} (h : te σ H fun x H1 => ∃ k, x = .bl k ∧ Q (!k) H1) : tNot (tB te) σ H Q := h
theorem c_callF {K : PySem.W.Frag} {sp sp1 : Sp} {E E1 : XK} {ar : TA} {t2 : TE} {f : Str} {vs : List V} {σ : L2.St} {H : Hp} {Q : VK} (h : ValA ar σ H vs) (q : sp1 vs H (fun x H1 => ∃ a C dx fs v, x = .ref a ∧ H1 a = some (.ins C dx fs) ∧ Cls K C ∧ NoAttr K C f ∧ fs.lookup f = some v ∧ t2 σ H1 fun y H2 => sp [v, y] H2 Q E) E1) :
    tCall sp [] E (tCons (tFld K (tCall sp1 [] E1 ar) f) (tCons t2 tNil)) σ H Q := h _ (by rw [List.append_nil]; exact q)
abbrev N_late_of : List Str := ["line", "one", "other", "limit", "x", "choice"]
theorem sc_late_of : FnScope N_late_of ["line", "one", "other", "limit", "x"] (defScope s_late_of) := C8.fnScope_by (by decide +kernel)
theorem ok_late_of {tP : Addr} (T : Txt G mg) {f : Addr} {fd : FuncData} (F : FnP G.K "late_of" "late_of" s_late_of f fd) (hm : mg "late_of" = some (.ref f)) (c_run_of : C8.Cal P w G.K mg base 8 "run_of" (sp_run_of G tP) []) (c_all_choices : C8.Cal P w G.K mg base 2 "all_choices" (sp_all_choices) []) (c_is_within : C8.Cal P w G.K mg base 1 "is_within" (sp_is_within) []) : C8.Cal P w G.K mg base 9 "late_of" (sp_late_of G tP) [] := by
  refine cal_mk F hm (F.bindsN fun _ _ _ _ _ _ us hl => match us, hl with | [_, _, _, _, _], _ => rfl) sc_late_of (fun vs H Q E h => ?_) (fun cdv A outer s H vs Q E hr h => ?_)
  · obtain ⟨ln, p, q1, lim, x, L, A, B, rfl, ha, hcn, htb, q⟩ := h
    rfl
  · obtain ⟨ln, p, q1, lim, x, L, A, B, rfl, ha, hcn, htb, q⟩ := h
    refine ⟨_, (pss_cons (ps_for PassesOwn.never rfl (pi_list (C8.pe_c c_all_choices hr (by decide) (by rfl) (pa_cons (pv 1) (pa_cons (pv 2) pa_nil)))) (pg_name (i := 5) sc_late_of.nd rfl (Or.inl rfl)) (pss_one (ps_if (pt_not (pt_val (C8.pe_c c_is_within hr (by decide) (by rfl) (pa_cons (pe_fld (C8.pe_c c_run_of hr (by decide) (by rfl) (pa_cons (pv 0) (pa_cons (pv 1) (pa_cons (pv 2) (pa_cons (pv 4) (pa_cons (pv 5) pa_nil)))))) rfl) (pa_cons (pv 3) pa_nil))))) (pss_one (ps_ret (pv 5))) pss_nil)))
    (pss_one (ps_ret pe_non))), ?_⟩
    refine y_forLE (c_call (va_cons (v_var rfl) (va_cons (v_var rfl) va_nil)) ⟨p, q1, A, B, rfl, ha.pA, ha.oA, ha.pB, ha.oB, hcn, fun d H1 e1 lt => ?_⟩)
    obtain ⟨rs, h1, h2⟩ := lt
    have a1 := ha.same e1
    have t1 := TbOk.same htb e1
    have hlen : rs.length = (choices (pauses A B)).length := by rw [h2.len, List.length_map]
    refine ⟨d, rfl, ⟨_, SqL.of h1⟩, for_itS (walk_list (xs := rs.map V.ref)) (fun i σ' H' => (∃ a, σ' = [some (V.ref ln), some (V.ref p), some (V.ref q1), some (V.int lim), some (V.int x), a]) ∧ ExtN H1 H' ∧ TbOk tP H' ∧ ∀ j c, j < i → (choices (pauses A B))[j]? = some c → wit L A B x lim c = true)
      ⟨⟨none, rfl⟩, ExtN.refl _, t1, fun j c hj => absurd hj (Nat.not_lt_zero _)⟩ (fun i σ' H' _ z => SqL.of (z.2.1 _ _ h1 (fun _ y => by cases y))) ?_ ?_⟩
    · rintro i xv σ' H' H2 hi ⟨⟨a, rfl⟩, e2, t2, hw⟩ ⟨rfl, hx⟩
      obtain ⟨b, hb, rfl⟩ := refs_at hx
      obtain ⟨cy, hcy, hcb⟩ := h2.at2 hb
      rw [List.getElem?_map] at hcy
      obtain ⟨c, hc, rfl⟩ := Option.map_eq_some_iff.mp hcy
      have hcb2 := e2 _ _ hcb (fun _ z => by cases z)
      refine x_ifE (t_notB (c_callF (va_cons (v_var rfl) (va_cons (v_var rfl) (va_cons (v_var rfl) (va_cons (v_var rfl) (va_cons (v_var rfl) va_nil))))) ⟨ln, p, q1, x, b, L, A, B, c, rfl, a1.ext e2, hcb2, choices_ch (List.mem_of_getElem? hc), t2, fun rp H3 e3 t3 r3 => ?_⟩))
      obtain ⟨dx, fs, ep, r1, r2, r3⟩ := r3
      refine ⟨rp, _, _, _, _, rfl, r1, T.cR, T.R_ends, r2, v_var rfl _ ⟨ep, _, _, lim, rfl, r3, fun H4 e4 => ⟨_, rfl, ?_⟩⟩⟩
      have e14 := e2.trans (e3.trans (exOf e4))
      have t4 := TbOk.same t3 e4
      cases hwit : wit L A B x lim c with
      | true =>
        have hwit' : (okE lim (ends L A B x c false) && okE lim (ends L A B x c true)) = true := hwit
        rw [hwit']
        refine iteF ⟨⟨some (V.ref b), rfl⟩, e14, t4, fun j e hj he => ?_⟩
        rcases Nat.lt_succ_iff_lt_or_eq.mp hj with z | z
        · exact hw j e z he
        · rw [z, hc] at he
          rw [← Option.some.inj he]
          exact hwit
      | false =>
        have hwit' : (okE lim (ends L A B x c false) && okE lim (ends L A B x c true)) = false := hwit
        rw [hwit']
        exact iteT (x_ret (v_var rfl) (q _ _ ((exOf e1).trans e14) t4 (.inr ⟨i, c, b, rfl, (e3.trans (exOf e4)) _ _ hcb2 (fun _ z => by cases z), hc, hwit, hw⟩)))
    · rintro σ' H' ⟨⟨a, rfl⟩, e2, t2, hw⟩
      refine x_ret v_c (q _ _ ((exOf e1).trans e2) t2 (.inl ⟨rfl, fun c hc => ?_⟩))
      obtain ⟨j, hj⟩ := List.getElem?_of_mem hc
      refine hw j c ?_ hj
      rw [List.length_map, hlen]
      exact (List.getElem?_eq_some_iff.mp hj).1
abbrev N_late_choice : List Str := ["line", "one", "other", "limit", "x"]
theorem sc_late_choice : FnScope N_late_choice ["line", "one", "other", "limit", "x"] (defScope s_late_choice) := C8.fnScope_by (by decide +kernel)
theorem ok_late_choice {tP : Addr} (T : Txt G mg) {f : Addr} {fd : FuncData} (F : FnK G.K "late_choice" s_late_choice [("x", .int 1)] f fd) (c_check_run : C8.Cal P w G.K mg base 6 "check_run" (sp_check_run G) []) (c_check_size : C8.Cal P w G.K mg base 4 "check_size" (sp_check_size) []) (c_check_limit : C8.Cal P w G.K mg base 3 "check_limit" (sp_check_limit) []) (c_check_choices : C8.Cal P w G.K mg base 3 "check_choices" (sp_check_choices) []) (c_late_of : C8.Cal P w G.K mg base 9 "late_of" (sp_late_of G tP) []) : FnOk P w G.K mg base C8.CX0 10 f fd ["line", "one", "other", "limit", "x"] (sp_late_choice G tP) := by
  refine fnk_ok F sc_late_choice (fun vs H Q E h => ?_) (fun cdv A outer s H vs Q E hr h => ?_)
  · obtain ⟨ln, p, q1, lim, x, L, A, B, rfl, ha, hcn, h1, h2, htb, q⟩ := h
    rfl
  · obtain ⟨ln, p, q1, lim, x, L, A, B, rfl, ha, hcn, h1, h2, htb, q⟩ := h
    refine ⟨_, (pss_cons (ps_expr (C8.pe_c c_check_run hr (by decide) (by rfl) (pa_cons (pv 0) (pa_cons (pv 1) (pa_cons (pv 2) pa_nil)))))
    (pss_cons (ps_expr (C8.pe_c c_check_limit hr (by decide) (by rfl) (pa_cons (pv 3) pa_nil)))
    (pss_cons (ps_expr (C8.pe_c c_check_size hr (by decide) (by rfl) (pa_cons (pv 4) pa_nil)))
    (pss_cons (ps_expr (C8.pe_c c_check_choices hr (by decide) (by rfl) (pa_cons (pv 1) (pa_cons (pv 2) pa_nil))))
    (pss_one (ps_ret (C8.pe_c c_late_of hr (by decide) (by rfl) (pa_cons (pv 0) (pa_cons (pv 1) (pa_cons (pv 2) (pa_cons (pv 3) (pa_cons (pv 4) pa_nil)))))))))))), ?_⟩
    refine y_call (va_cons (v_var rfl) (va_cons (v_var rfl) (va_cons (v_var rfl) va_nil))) ⟨ln, L, p, q1, A, B, rfl, ha.line, ha.pA, ha.oA, ha.pB, ha.oB, fun H1 e1 => ?_⟩
    refine y_call (va_cons (v_var rfl) va_nil) ⟨lim, rfl, h1, h2, ?_⟩
    refine y_call (va_cons (v_var rfl) va_nil) ⟨x, rfl, ha.x1.1, ha.x1.2, ?_⟩
    have a1 := ha.same e1
    refine y_call (va_cons (v_var rfl) (va_cons (v_var rfl) va_nil)) ⟨p, q1, A, B, rfl, a1.pA, ha.oA, a1.pB, ha.oB, hcn, fun H2 e2 => ?_⟩
    exact x_retE (c_call (va_cons (v_var rfl) (va_cons (v_var rfl) (va_cons (v_var rfl) (va_cons (v_var rfl) (va_cons (v_var rfl) va_nil))))) ⟨ln, p, q1, lim, x, L, A, B, rfl, a1.same e2, hcn, TbOk.same htb (e1.trans e2), fun v H3 e3 t3 l3 => q v H3 ((exOf (e1.trans e2)).trans e3) t3 l3⟩)

theorem k_latest {tP : Addr} {f : Addr} {fd : FuncData} (F : FnK G.K "latest" s_latest [("x", .int 1)] f fd) (hm : mg "latest" = some (.ref f)) (o : FnOk P w G.K mg base C8.CX0 10 f fd ["line", "one", "other", "x"] (sp_latest G tP)) : CalK P w G.K mg base 10 "latest" (sp_latest G tP) 3 ["x"] [] :=
  ⟨f, fd, _, _, o, hm, F.kp, kall F 3 ["x"] fun _ _ _ _ _ _ us ws h1 h2 => match us, ws, h1, h2 with | [_, _, _], [_], _, _ => rfl⟩
theorem k_earliest {tP : Addr} {f : Addr} {fd : FuncData} (F : FnK G.K "earliest" s_earliest [("x", .int 1)] f fd) (hm : mg "earliest" = some (.ref f)) (o : FnOk P w G.K mg base C8.CX0 10 f fd ["line", "one", "other", "x"] (sp_earliest G tP)) : CalK P w G.K mg base 10 "earliest" (sp_earliest G tP) 3 ["x"] [] :=
  ⟨f, fd, _, _, o, hm, F.kp, kall F 3 ["x"] fun _ _ _ _ _ _ us ws h1 h2 => match us, ws, h1, h2 with | [_, _, _], [_], _, _ => rfl⟩
theorem k_late_choice {tP : Addr} {f : Addr} {fd : FuncData} (F : FnK G.K "late_choice" s_late_choice [("x", .int 1)] f fd) (hm : mg "late_choice" = some (.ref f)) (o : FnOk P w G.K mg base C8.CX0 10 f fd ["line", "one", "other", "limit", "x"] (sp_late_choice G tP)) : CalK P w G.K mg base 10 "late_choice" (sp_late_choice G tP) 4 ["x"] [] :=
  ⟨f, fd, _, _, o, hm, F.kp, kall F 4 ["x"] fun _ _ _ _ _ _ us ws h1 h2 => match us, ws, h1, h2 with | [_, _, _, _], [_], _, _ => rfl⟩
theorem k_run {tP : Addr} {f : Addr} {fd : FuncData} (F : FnK G.K "run" s_run [("x", .int 1), ("pauses", .non)] f fd) (hm : mg "run" = some (.ref f)) (o : FnOk P w G.K mg base C8.CX0 9 f fd ["line", "one", "other", "x", "pauses"] (sp_run G tP)) : CalK P w G.K mg base 9 "run" (sp_run G tP) 3 ["x", "pauses"] [] :=
  ⟨f, fd, _, _, o, hm, F.kp, kall F 3 ["x", "pauses"] fun _ _ _ _ _ _ us ws h1 h2 => match us, ws, h1, h2 with | [_, _, _], [_, _], _, _ => rfl⟩
theorem k_run1 {tP : Addr} {f : Addr} {fd : FuncData} (F : FnK G.K "run" s_run [("x", .int 1), ("pauses", .non)] f fd) (hm : mg "run" = some (.ref f)) (o : FnOk P w G.K mg base C8.CX0 9 f fd ["line", "one", "other", "x", "pauses"] (sp_run G tP)) : CalK P w G.K mg base 9 "run" (sp_run G tP) 3 ["x"] [.non] := by
  obtain ⟨u, h⟩ := kdef (ps := ["line", "one", "other", "x", "pauses"]) F 3 ["x"] ("pauses", .non) (by simp) fun _ _ _ _ _ _ u us ws h1 h2 => match us, ws, h1, h2 with | [_, _, _], [_], _, _ => ⟨_, _, _, _, _, _, rfl, rfl, by unfold KwChain; rfl⟩
  exact ⟨f, fd, _, _, o, hm, F.kp, h⟩

end
end SH
end
section
namespace SH
open PySem PySem.Spec PyProof.Rows L2
open LamX (ExtN Tabs TabB)
section
variable {P : Program} {w : World} {G : Gl5} {mg : Str → Option Value} {base : Heap}

def MillAt (H : Hp) (a : Addr) : Prop := ∃ x y z : Int, H a = some (.lst [.int x, .int y, .int z])
structure Mo (a : Addr) (H H' : Hp) : Prop where
  but : But a H H'
  mill : MillAt H' a
theorem Mo.refl {a : Addr} {H : Hp} (h : MillAt H a) : Mo a H H := ⟨But.refl, h⟩
theorem Mo.trans {a : Addr} {H H1 H2 : Hp} (x : Mo a H H1) (y : Mo a H1 H2) : Mo a H H2 := ⟨x.but.trans y.but, y.mill⟩
theorem MillAt.same {a : Addr} {H H' : Hp} (h : MillAt H a) (e : Same H H') : MillAt H' a := let ⟨x, y, z, q⟩ := h; ⟨x, y, z, e _ _ q⟩
theorem Mo.same {a : Addr} {H H' : Hp} (h : MillAt H a) (e : Same H H') : Mo a H H' := ⟨But.of e, h.same e⟩
theorem Mo.then {a : Addr} {H H1 H2 : Hp} (x : Mo a H H1) (e : Same H1 H2) : Mo a H H2 := x.trans (Mo.same x.mill e)
theorem MillAt.ne {a p : Addr} {H : Hp} (h : MillAt H a) (n : H p = none) : p ≠ a := fun z => by
  obtain ⟨_, _, _, q⟩ := h
  rw [z, q] at n
  cases n
theorem MillAt.ext {a : Addr} {H H' : Hp} (h : MillAt H a) (e : ExtN H H') : MillAt H' a := let ⟨x, y, z, q⟩ := h; ⟨x, y, z, e _ _ q (fun _ w => by cases w)⟩
def sp_mill (G : Gl5) : Sp := fun vs H Q _ => ∃ (s : Addr) (ns : List Int) (k : Int), vs = [.ref s, .int k] ∧ (∀ H', Same H H' → SqL G.K H' s (ns.map V.int)) ∧ ns.length ≤ sizeLine ∧ 0 ≤ k ∧ k ≤ 10 ∧ ∀ d H', Same H H' → H d = none → MillAt H' d → Q (.ref d) H'
def sp_grain : Sp := fun vs H Q _ => ∃ a n, vs = [.ref a, .int n] ∧ MillAt H a ∧ 0 < n ∧ n < 1073741824 ∧ ∀ d H', 0 ≤ d → d < n → Mo a H H' → Q (.int d) H'
def sp_pick : Sp := fun vs H Q _ => ∃ a l ys, vs = [.ref a, .ref l] ∧ MillAt H a ∧ H l = some (.lst ys) ∧ l ≠ a ∧ ys ≠ [] ∧ ys.length < 1000 ∧ ∀ v H', v ∈ ys → Mo a H H' → Q v H'
def WayT (H : Hp) (t : Addr) (z : Str) (ev de : Int) : Prop := H t = some (.tup [.str z, .int ev, .int de]) ∧ ruleIn z = true ∧ 1 ≤ ev ∧ ev ≤ 4 ∧ 0 ≤ de ∧ de ≤ 60
theorem WayT.but {a t : Addr} {H H' : Hp} {z : Str} {ev de : Int} (w : WayT H t z ev de) (b : But a H H') (n : t ≠ a) : WayT H' t z ev de := ⟨b _ _ w.1 n, w.2⟩
def sp_ways : Sp := fun vs H Q _ => ∃ a, vs = [.ref a] ∧ MillAt H a ∧ ∀ t H' z ev de, H t = none → Mo a H H' → WayT H' t z ev de → Q (.ref t) H'
def ToldT (H : Hp) (t : Addr) (sz wy : Int) (tc td : Addr) : Prop := H t = some (.tup [.int sz, .int wy, .ref tc, .ref td]) ∧ 1 ≤ sz ∧ sz ≤ 40 ∧ 1 ≤ wy ∧ wy ≤ 60 ∧ (∃ z ev de, WayT H tc z ev de) ∧ ∃ z ev de, WayT H td z ev de
def sp_told : Sp := fun vs H Q _ => ∃ a, vs = [.ref a] ∧ MillAt H a ∧ ∀ t H' sz wy tc td, H t = none → Mo a H H' → ToldT H' t sz wy tc td → Q (.ref t) H'
def sp_made (G : Gl5) : Sp := fun vs H Q _ => ∃ t sz wy tc td, vs = [.ref t] ∧ ToldT H t sz wy tc td ∧ ∀ ln H' L, Same H H' → H ln = none → LineIs G H' ln L → LOk L → Q (.ref ln) H'
def sp_amount : Sp := fun vs H Q _ => ∃ a, vs = [.ref a, .bl true] ∧ MillAt H a ∧ ∀ am H', AmOk am → Mo a H H' → Q (amV am) H'
theorem x_sl0 {r : V → Option Int → Option Int → Hp → VK → Prop} {te : TE} {n : Int} {x : V} {σ : L2.St} {H : Hp} {Q : VK} (h : Val te σ H x) (q : r x none (some n) H Q) : tSl r te tNoPart (tPart (tC (.int n))) σ H Q := h _ (show tPart (tC (.int n)) σ H (fun u H3 => r x none u H3 Q) from show ∃ i, V.int n = .int i ∧ r x none (some i) H Q from ⟨n, rfl, q⟩)
theorem v_intO {te : TE} {σ : L2.St} {H : Hp} (h : ∃ z : Int, Val te σ H (.int z)) : ∃ z : Int, Val (tCB (fun xs H Q => (∃ i, xs = [V.int i] ∧ Q (.int i) H) ∨ ∃ k, xs = [V.bl k] ∧ Q (.int (if k then 1 else 0)) H) (tCons te tNil)) σ H (.int z) := let ⟨z, v⟩ := h; ⟨z, v_intI v⟩
theorem v_modO {te : TE} {m : Int} {σ : L2.St} {H : Hp} (h : ∃ z : Int, Val te σ H (.int z)) (hm : 0 < m) : ∃ z : Int, Val (tOp (rI (fun _ j => 0 < j) fun i j => .int (i % j)) te (tC (.int m))) σ H (.int z) := let ⟨z, v⟩ := h; ⟨_, v_C v v_c hm⟩
theorem v_mulO {te : TE} {m : Int} {σ : L2.St} {H : Hp} (h : ∃ z : Int, Val te σ H (.int z)) (h1 : -(2 ^ 64) < m) (h2 : m < 2 ^ 64) : ∃ z : Int, Val (tOp (rI CMul fun i j => .int (i * j)) te (tC (.int m))) σ H (.int z) := let ⟨z, v⟩ := h; ⟨_, v_C v v_c (.inr ⟨h1, h2⟩)⟩
theorem v_addO {ta tb : TE} {σ : L2.St} {H : Hp} (h : ∃ z : Int, Val ta σ H (.int z)) (k : ∃ z : Int, Val tb σ H (.int z)) : ∃ z : Int, Val (tOp (rI0 fun i j => .int (i + j)) ta tb) σ H (.int z) := let ⟨_, v⟩ := h; let ⟨_, u⟩ := k; ⟨_, v_I v u⟩
theorem v_divO {te : TE} {m : Int} {σ : L2.St} {H : Hp} (h : ∃ z : Int, Val te σ H (.int z)) (hm : CDiv 0 m) : ∃ z : Int, Val (tOp (rI CDiv fun i j => .int (i / j)) te (tC (.int m))) σ H (.int z) := let ⟨_, v⟩ := h; ⟨_, v_C v v_c hm⟩
theorem v_cO {i : Int} {σ : L2.St} {H : Hp} : ∃ z : Int, Val (tC (.int i)) σ H (.int z) := ⟨_, v_c⟩
abbrev N_law_mill : List Str := ["_law_script", "_law_k", "_law_own", "_law_mixed", "_law_entry"]
theorem sc_law_mill : FnScope N_law_mill ["_law_script", "_law_k"] (defScope s_law_mill) := C8.fnScope_by (by decide +kernel)
theorem ok_law_mill (T : Txt G mg) {f : Addr} {fd : FuncData} (F : FnP G.K "_law_mill" "_law_mill" s_law_mill f fd) (hm : mg "_law_mill" = some (.ref f)) : C8.Cal P w G.K mg base 1 "_law_mill" (sp_mill G) [] := by
  refine cal_mk F hm (F.bindsN fun _ _ _ _ _ _ us hl => match us, hl with | [_, _], _ => rfl) sc_law_mill (fun vs H Q E h => ?_) (fun cdv A outer s H vs Q E hr h => ?_)
  · obtain ⟨s1, ns, k, rfl, hs, hl, hk0, hk1, q⟩ := h
    rfl
  · obtain ⟨s1, ns, k, rfl, hs, hl, hk0, hk1, q⟩ := h
    refine ⟨_, (pss_cons (ps_set (i := 2) sc_law_mill.nd rfl (Or.inl rfl) (pe_ifExp (pt_cmpR op_lt (pv 1) (pe_callB (r := rLenK G.K) call_lenK (by rfl) T.z_len (by decide +kernel) (pa_cons (pv 0) pa_nil)) (nomark _)) (pe_callTy call_int1 (by rfl) T.z_int (by decide +kernel) (pa_cons (pe_ix ix_list (pv 0) (pv 1) (fun _ _ => rfl)) pa_nil)) (pe_op op_add (pe_op op_mul pe_int (pv 1)) pe_int)))
    (pss_cons (ps_set (i := 3) sc_law_mill.nd rfl (Or.inl rfl) (pe_op op_add pe_int (pe_op op_mul pe_int (pv 1))))
    (pss_cons (ps_for PassesOwn.never rfl (pi_list (pe_slice sl_list (pv 0) po_none (po_some pe_int))) (pg_name (i := 4) sc_law_mill.nd rfl (Or.inl rfl)) (pss_one (ps_set (i := 3) sc_law_mill.nd rfl (Or.inl rfl) (pe_op op_mod (pe_callTy call_int1 (by rfl) T.z_int (by decide +kernel) (pa_cons (pe_op op_add (pe_op op_mul (pv 3) pe_int) (pe_op op_mod (pe_callTy call_int1 (by rfl) T.z_int (by decide +kernel) (pa_cons (pv 4) pa_nil)) pe_int)) pa_nil)) pe_int))))
    (pss_one (ps_ret (pe_lst (pa_cons (pe_op op_mod (pe_callTy call_int1 (by rfl) T.z_int (by decide +kernel) (pa_cons (pe_op op_add (pe_op op_mul (pv 3) pe_int) (pe_op op_mod (pv 2) pe_int)) pa_nil)) pe_int) (pa_cons pe_int (pa_cons (pe_ifExp (PW.pt (pw_or (pt_cmpR op_lt (pv 2) pe_int (nomark _)) (pw_or1 (pt_cmpR op_ge (pv 2) (pe_op op_pow pe_int pe_int) (nomark _))))) (pe_callB call_abs (by rfl) T.z_abs (by decide +kernel) (pa_cons (pv 2) pa_nil)) pe_int) pa_nil))))))))), ?_⟩
    obtain ⟨own, h1⟩ : ∃ own : Int, Val (tIf (tTest (tOp (rI0 fun i j => .bl (decide (i < j))) (tVar 1) (tCB (rLenK G.K) (tCons (tVar 0) tNil)))) (tCB (fun xs H Q => (∃ i, xs = [V.int i] ∧ Q (.int i) H) ∨ ∃ k, xs = [V.bl k] ∧ Q (.int (if k then 1 else 0)) H) (tCons (tOp (rIxL G.K) (tVar 0) (tVar 1)) tNil))
        (tOp (rI0 fun i j => .int (i + j)) (tOp (rI CMul fun i j => .int (i * j)) (tC (.int 41)) (tVar 1)) (tC (.int 29)))) (start N_law_mill [V.ref s1, V.int k]) H (.int own) := by
      have hsl := hs H (Same.refl H)
      by_cases hk : k < (ns.map V.int).length
      · have hkn : k.toNat < ns.length := by rw [List.length_map] at hk; omega
        refine ⟨ns[k.toNat], v_if (a_T (v_lt (v_var rfl) (v_lenL (v_var rfl) hsl))) (fun _ => v_intI (v_sqL (v_var rfl) (v_var rfl) hsl ?_)) fun z => ?_⟩
        · have := at_nat (xs := ns.map V.int) (i := k.toNat) (v := .int ns[k.toNat]) (by rw [List.getElem?_map, List.getElem?_eq_getElem hkn]; rfl)
          rwa [Int.toNat_of_nonneg hk0] at this
        · exact absurd hk (of_decide_eq_false z)
      · exact ⟨41 * k + 29, v_if (a_T (v_lt (v_var rfl) (v_lenL (v_var rfl) hsl))) (fun z => absurd (of_decide_eq_true z) hk) (fun _ => v_I (v_C v_c (v_var rfl) (.inl ⟨by decide, by decide⟩)) v_c)⟩
    refine y_set h1 ?_
    refine y_set (v_I v_c (v_C v_c (v_var rfl) (.inl ⟨by decide, by decide⟩))) ?_
    show tSeq _ _ _ [some (V.ref s1), some (V.int k), some (V.int own), some (V.int (50021 + 1901 * k)), none] H
    have hsl := hs H (Same.refl H)
    refine y_forLE (x_sl0 (v_var rfl) ⟨s1, _, rfl, hsl, fun p hp => ?_⟩)
    have e1 : Same H (upd H p (.lst (cutV (ns.map V.int) none (some 12)))) := Same.new hp
    have hcut : ∀ v ∈ cutV (ns.map V.int) none (some 12), ∃ z : Int, v = .int z := fun v hv => by
      unfold cutV at hv
      obtain ⟨z, _, e⟩ := List.mem_map.mp (List.mem_of_mem_drop (List.mem_of_mem_take hv))
      exact ⟨z, e.symm⟩
    refine ⟨p, rfl, ⟨_, SqL.of upd_same⟩, for_itS (walk_list (xs := cutV (ns.map V.int) none (some 12))) (fun i σ' H' => (∃ (m : Int) (a : Option V), σ' = [some (V.ref s1), some (V.int k), some (V.int own), some (V.int m), a]) ∧ H' = upd H p (.lst (cutV (ns.map V.int) none (some 12)))) ⟨⟨_, _, rfl⟩, rfl⟩ (fun i σ' H' _ z => SqL.of (by rw [z.2]; exact upd_same)) ?_ ?_⟩
    · rintro i x σ' H' H2 hi ⟨⟨m, a, rfl⟩, rfl⟩ ⟨rfl, hx⟩
      obtain ⟨z, rfl⟩ := hcut x (List.mem_of_getElem? hx)
      obtain ⟨w, hw⟩ := v_modO (m := 1999999817) (v_intO (v_addO (v_mulO (m := 39199) ⟨m, v_var (σ := [some (V.ref s1), some (V.int k), some (V.int own), some (V.int m), some (V.int z)]) (H := upd H p (.lst (cutV (ns.map V.int) none (some 12)))) (i := 3) rfl⟩ (by decide) (by decide)) (v_modO (m := 1999999817) (v_intO ⟨z, v_var (i := 4) rfl⟩) (by decide)))) (by decide)
      exact x_set hw ⟨⟨w, _, rfl⟩, rfl⟩
    · rintro σ' H' ⟨⟨m, a, rfl⟩, rfl⟩
      obtain ⟨w1, hw1⟩ := v_modO (m := 1999999817) (v_intO (v_addO (v_mulO (m := 13) ⟨m, v_var (σ := [some (V.ref s1), some (V.int k), some (V.int own), some (V.int m), a]) (H := upd H p (.lst (cutV (ns.map V.int) none (some 12)))) (i := 3) rfl⟩ (by decide) (by decide)) (v_modO (m := 1999999817) ⟨own, v_var (i := 2) rfl⟩ (by decide)))) (by decide)
      have hv3 : ∀ c : Bool, Ans (tOr (tTest (tOp (rI0 fun i j => .bl (decide (i < j))) (tVar 2) (tC (.int 0)))) (tTest (tOp (rI0 fun i j => .bl (decide (j ≤ i))) (tVar 2) (tOp (rI CPow fun i j => .int (i ^ j.toNat)) (tC (.int 10)) (tC (.int 13)))))) [some (V.ref s1), some (V.int k), some (V.int own), some (V.int m), a] (upd H p (.lst (cutV (ns.map V.int) none (some 12)))) (decide (own < 0) || decide (10 ^ (13 : Int).toNat ≤ own)) := fun c =>
        a_or (a_T (v_lt (v_var rfl) v_c)) fun _ => a_T (v_ge (v_var rfl) (v_C v_c v_c ⟨by decide, by decide, by decide⟩))
      obtain ⟨w3, hw3⟩ : ∃ w3 : Int, Val (tIf (tOr (tTest (tOp (rI0 fun i j => .bl (decide (i < j))) (tVar 2) (tC (.int 0)))) (tTest (tOp (rI0 fun i j => .bl (decide (j ≤ i))) (tVar 2) (tOp (rI CPow fun i j => .int (i ^ j.toNat)) (tC (.int 10)) (tC (.int 13)))))) (tCB (fun xs H Q => ∃ i, xs = [V.int i] ∧ Q (.int (if i < 0 then -i else i)) H) (tCons (tVar 2) tNil)) (tC (.int 0)))
          [some (V.ref s1), some (V.int k), some (V.int own), some (V.int m), a] (upd H p (.lst (cutV (ns.map V.int) none (some 12)))) (.int w3) := by
        cases hb : (decide (own < 0) || decide (10 ^ (13 : Int).toNat ≤ own)) with
        | true => exact ⟨_, v_if (hb ▸ hv3 true) (fun _ => v_abs (v_var rfl)) (fun z => by cases z)⟩
        | false => exact ⟨_, v_if (hb ▸ hv3 true) (fun z => by cases z) (fun _ => v_c)⟩
      refine x_retE (hw1 _ (v_c _ (hw3 _ ⟨by show 3 ≤ sizeLine; decide, fun d hd => q d _ (e1.then hd) (e1.free hd) ⟨_, _, _, upd_same⟩⟩)))

end
end SH
end
section
namespace SH
open PySem PySem.Spec PyProof.Rows L2
open LamX (ExtN Tabs TabB)
section
variable {P : Program} {w : World} {G : Gl5} {mg : Str → Option Value} {base : Heap}

theorem x_ixC {K : PySem.W.Frag} {to : TE} {sp : Sp} {E : XK} {ar : TA} {o : V} {vs : List V} {σ : L2.St} {H : Hp} {Q : VK} (h : Val to σ H o) (h2 : ValA ar σ H vs) (q : sp vs H (fun d H1 => ∃ (p : Addr) (xs : List V) (k : Int) (v : V), o = .ref p ∧ d = .int k ∧ SqL K H1 p xs ∧ atI xs k = some v ∧ Q v H1) E) : tOp (rIxL K) to (tCall sp [] E ar) σ H Q := h _ (c_call h2 q)
theorem x_cb2 {r : List V → Hp → VK → Prop} {t1 t2 : TE} {v1 v2 : V} {σ : L2.St} {H : Hp} {Q : VK} (h1 : Val t1 σ H v1) (h2 : Val t2 σ H v2) (q : r [v1, v2] H Q) : tCB r (tCons t1 (tCons t2 tNil)) σ H Q := h1 _ (h2 _ q)
abbrev N_law_grain : List Str := ["_law_mill_here", "_law_many", "_law_digit"]
theorem sc_law_grain : FnScope N_law_grain ["_law_mill_here", "_law_many"] (defScope s_law_grain) := C8.fnScope_by (by decide +kernel)
theorem ok_law_grain (T : Txt G mg) {f : Addr} {fd : FuncData} (F : FnP G.K "_law_grain" "_law_grain" s_law_grain f fd) (hm : mg "_law_grain" = some (.ref f)) : C8.Cal P w G.K mg base 1 "_law_grain" (sp_grain) [] := by
  refine cal_mk F hm (F.bindsN fun _ _ _ _ _ _ us hl => match us, hl with | [_, _], _ => rfl) sc_law_grain (fun vs H Q E h => ?_) (fun cdv A outer s H vs Q E hr h => ?_)
  · obtain ⟨a, n, rfl, ⟨x, y, z, hm⟩, h0, h1, q⟩ := h
    rfl
  · obtain ⟨a, n, rfl, ⟨x, y, z, hm⟩, h0, h1, q⟩ := h
    refine ⟨_, (pss_cons (ps_asg (pe_op op_add (pe_ix ix_list (pv 0) pe_int (fun _ _ => rfl)) pe_int) (pg_sub (pv 0) pe_int set_list))
    (pss_cons (ps_if (pt_cmpR op_gt (pe_ix ix_list (pv 0) pe_int (fun _ _ => rfl)) pe_int (nomark _)) (pss_cons (ps_asg (pe_callB call_divmod (by rfl) T.z_divmod (by decide +kernel) (pa_cons (pe_callTy call_int1 (by rfl) T.z_int (by decide +kernel) (pa_cons (pe_ix ix_list (pv 0) pe_int (fun _ _ => rfl)) pa_nil)) (pa_cons (pv 1) pa_nil))) (pg_tup rfl (pgs_cons (pg_sub (pv 0) pe_int set_list) (pgs_cons (pg_name (i := 2) sc_law_grain.nd rfl (Or.inl rfl)) pgs_nil))))
    (pss_one (ps_ret (pv 2)))) pss_nil)
    (pss_cons (ps_asg (pe_op op_mod (pe_callTy call_int1 (by rfl) T.z_int (by decide +kernel) (pa_cons (pe_op op_add (pe_op op_add (pe_op op_mul (pe_ix ix_list (pv 0) pe_int (fun _ _ => rfl)) pe_int) (pe_op op_mul (pe_ix ix_list (pv 0) pe_int (fun _ _ => rfl)) pe_int)) (pe_op op_mul (pe_op op_fdiv (pe_ix ix_list (pv 0) pe_int (fun _ _ => rfl)) pe_int) pe_int)) pa_nil)) pe_int) (pg_sub (pv 0) pe_int set_list))
    (pss_one (ps_ret (pe_op op_mod (pe_callTy call_int1 (by rfl) T.z_int (by decide +kernel) (pa_cons (pe_op op_fdiv (pe_ix ix_list (pv 0) pe_int (fun _ _ => rfl)) pe_int) pa_nil)) (pv 1))))))), ?_⟩
    have n0 : NoTup H a := noTup_lst hm
    refine y_setL (v_I (v_sqL (v_var rfl) v_c (SqL.of hm) rfl) v_c) (v_var rfl) v_c hm (j := 1) rfl ?_
    have hm1 : upd H a (.lst ([V.int x, V.int y, V.int z].set 1 (V.int (y + 4)))) a = some (.lst [.int x, .int (y + 4), .int z]) := upd_same
    have b1 : But a H (upd H a (.lst ([V.int x, V.int y, V.int z].set 1 (V.int (y + 4))))) := But.at But.refl
    generalize upd H a (.lst ([V.int x, V.int y, V.int z].set 1 (V.int (y + 4)))) = H1 at *
    refine y_when (b := decide (0 < z)) (a_T (v_gt (v_sqL (v_var rfl) v_c (SqL.of hm1) rfl) v_c)) (fun _ => ?_) fun _ => ?_
    · refine y_asgE (x_cb2 (v_intI (v_sqL (v_var rfl) v_c (SqL.of hm1) rfl)) (v_var rfl) ⟨z, n, rfl, ⟨h0, h1⟩, fun p hp => ?_⟩)
      have hm2 : upd H1 p (.tup [.int (z / n), .int (z % n)]) a = some (.lst [.int x, .int (y + 4), .int z]) := (upd_ne (ne_of_none hm1 hp)).trans hm1
      refine ⟨_, _, rfl, SqT.of upd_same, rfl, _, _, rfl, v_var rfl _ (v_c _ ⟨_, _, _, _, rfl, rfl, hm2, rfl, _, _, rfl, rfl, ?_⟩)⟩
      refine x_ret (v_var rfl) (q (z % n) _ (Int.emod_nonneg _ (by omega)) (Int.emod_lt_of_pos _ h0) ⟨But.at (b1.trans (But.of (Same.new hp))), ⟨_, _, _, upd_same⟩⟩)
    · obtain ⟨w, hw⟩ := v_modO (m := 1999999817) (v_intO (v_addO (v_addO (v_mulO (m := 47017) ⟨x, v_sqL (K := G.K) (σ := start N_law_grain [V.ref a, V.int n]) (ta := tVar 0) (ti := tC (.int 0)) (v_var rfl) v_c (SqL.of hm1) rfl⟩ (by decide) (by decide)) (v_mulO (m := 70009) ⟨y + 4, v_sqL (ta := tVar 0) (ti := tC (.int 1)) (v_var rfl) v_c (SqL.of hm1) rfl⟩ (by decide) (by decide)))
        (v_mulO (m := 37) (v_divO (m := 6007) ⟨x, v_sqL (ta := tVar 0) (ti := tC (.int 0)) (v_var rfl) v_c (SqL.of hm1) rfl⟩ ⟨by decide, by decide⟩) (by decide) (by decide)))) (by decide)
      refine y_setL hw (v_var rfl) v_c hm1 (j := 0) rfl ?_
      have hm2 : upd H1 a (.lst ([V.int x, V.int (y + 4), V.int z].set 0 (V.int w))) a = some (.lst [.int w, .int (y + 4), .int z]) := upd_same
      refine x_ret (v_C (v_intI (v_C (v_sqL (v_var rfl) v_c (SqL.of hm2) rfl) v_c ⟨by decide, by decide⟩)) (v_var rfl) h0) (q (w / 271 % n) _ (Int.emod_nonneg _ (by omega)) (Int.emod_lt_of_pos _ h0) ⟨But.at b1, ⟨_, _, _, hm2⟩⟩)
abbrev N_law_pick : List Str := ["_law_mill_here", "_law_things"]
theorem sc_law_pick : FnScope N_law_pick ["_law_mill_here", "_law_things"] (defScope s_law_pick) := C8.fnScope_by (by decide +kernel)
theorem ok_law_pick (T : Txt G mg) {f : Addr} {fd : FuncData} (F : FnP G.K "_law_pick" "_law_pick" s_law_pick f fd) (hm : mg "_law_pick" = some (.ref f)) (c_law_grain : C8.Cal P w G.K mg base 1 "_law_grain" (sp_grain) []) : C8.Cal P w G.K mg base 2 "_law_pick" (sp_pick) [] := by
  refine cal_mk F hm (F.bindsN fun _ _ _ _ _ _ us hl => match us, hl with | [_, _], _ => rfl) sc_law_pick (fun vs H Q E h => ?_) (fun cdv A outer s H vs Q E hr h => ?_)
  · obtain ⟨a, l, ys, rfl, hm, hl, nla, hne, hlen, q⟩ := h
    rfl
  · obtain ⟨a, l, ys, rfl, hm, hl, nla, hne, hlen, q⟩ := h
    refine ⟨_, (pss_one (ps_ret (pe_ix ix_list (pv 1) (C8.pe_c c_law_grain hr (by decide) (by rfl) (pa_cons (pv 0) (pa_cons (pe_callB (r := rLenK G.K) call_lenK (by rfl) T.z_len (by decide +kernel) (pa_cons (pv 1) pa_nil)) pa_nil))) (fun _ _ => rfl)))), ?_⟩
    have hpos : 0 < ys.length := List.length_pos_iff.mpr hne
    have hg : sp_grain [.ref a, .int ((ys.length : Nat) : Int)] H (fun d H1 => ∃ (p : Addr) (xs : List V) (k : Int) (v : V), V.ref l = .ref p ∧ d = .int k ∧ SqL G.K H1 p xs ∧ atI xs k = some v ∧ Q v H1) C8.E0 := by
      refine ⟨a, _, rfl, hm, by omega, by omega, fun d H1 d0 d1 mo => ?_⟩
      have hl1 := mo.but _ _ hl nla
      have hd : d.toNat < ys.length := by omega
      refine ⟨l, ys, d, ys[d.toNat], rfl, rfl, SqL.of hl1, ?_, q _ _ (List.getElem_mem _) mo⟩
      have := at_nat (xs := ys) (i := d.toNat) (List.getElem?_eq_getElem hd)
      rwa [Int.toNat_of_nonneg d0] at this
    exact x_retE (x_ixC (v_var rfl) (va_cons (v_var rfl) (va_cons (v_lenL (v_var rfl) (SqL.of hl)) va_nil)) hg)

end
end SH
end
section
namespace SH
open PySem PySem.Spec PyProof.Rows L2
open LamX (ExtN Tabs TabB)
section
variable {P : Program} {w : World} {G : Gl5} {mg : Str → Option Value} {base : Heap}

theorem c_callE {sp : Sp} {E : XK} {ar : TA} {σ : L2.St} {H : Hp} {Q : VK} (h : ar σ H fun vs H1 => sp vs H1 Q E) : tCall sp [] E ar σ H Q := by
  have e : (fun vs H1 => sp (vs ++ []) H1 Q E) = fun vs H1 => sp vs H1 Q E := by
    funext vs H1
    rw [List.append_nil]
  show ar σ H (fun vs H1 => sp (vs ++ []) H1 Q E)
  rw [e]
  exact h
theorem w_cons {te : TE} {tr : TA} {x : V} {σ : L2.St} {H : Hp} {K : List V → Hp → Prop} (h : Val te σ H x) (k : tr σ H fun xs H1 => K (x :: xs) H1) : tCons te tr σ H K := h _ k
theorem w_consE {te : TE} {tr : TA} {σ : L2.St} {H : Hp} {K : List V → Hp → Prop} (h : te σ H fun x H1 => tr σ H1 fun xs H2 => K (x :: xs) H2) : tCons te tr σ H K := h
theorem w_nil {σ : L2.St} {H : Hp} {K : List V → Hp → Prop} (h : K [] H) : tNil σ H K := h
theorem w_lst {ar : TA} {σ : L2.St} {H : Hp} {Q : VK} (h : ar σ H fun xs H1 => xs.length ≤ sizeLine ∧ ∀ p, H1 p = none → Q (.ref p) (upd H1 p (.lst xs))) : tLst ar σ H Q := h
theorem w_tup {ar : TA} {σ : L2.St} {H : Hp} {Q : VK} (h : ar σ H fun xs H1 => xs.length ≤ sizeLine ∧ ∀ p, H1 p = none → Q (.ref p) (upd H1 p (.tup xs))) : tTup ar σ H Q := h
theorem w_op {r : R2} {ta tb : TE} {σ : L2.St} {H : Hp} {Q : VK} (h : ta σ H fun x H1 => tb σ H1 fun y H2 => r x y H2 Q) : tOp r ta tb σ H Q := h
theorem w_opV {r : R2} {ta tb : TE} {x : V} {σ : L2.St} {H : Hp} {Q : VK} (h : Val ta σ H x) (k : tb σ H fun y H2 => r x y H2 Q) : tOp r ta tb σ H Q := h _ k
theorem hs_at {σ : L2.St} {i : Nat} {v : V} (h : σ[i]? = some (some v)) : ∀ H, Val (tVar i) σ H v := fun _ => v_var h
/-- grain called -/
theorem g_call {E : XK} {t1 t2 : TE} {a : Addr} {n : Int} {σ : L2.St} {H : Hp} {Q : VK} (h1 : Val t1 σ H (.ref a)) (h2 : Val t2 σ H (.int n)) (hm : MillAt H a) (h0 : 0 < n) (hn : n < 1073741824) (q : ∀ d H', 0 ≤ d → d < n → Mo a H H' → Q (.int d) H') : tCall sp_grain [] E (tCons t1 (tCons t2 tNil)) σ H Q :=
  c_call (va_cons h1 (va_cons h2 va_nil)) ⟨a, n, rfl, hm, h0, hn, q⟩
theorem p_call {E : XK} {t1 : TE} {ar : TA} {a : Addr} {σ : L2.St} {H : Hp} {Q : VK} (h1 : Val t1 σ H (.ref a)) (h2 : ar σ H fun ys H1 => ys.length ≤ sizeLine ∧ ∀ l, H1 l = none → sp_pick [.ref a, .ref l] (upd H1 l (.lst ys)) Q E) : tCall sp_pick [] E (tCons t1 (tCons (tLst ar) tNil)) σ H Q := c_callE (w_cons h1 (w_consE (w_lst h2)))
theorem pk_fin {E : XK} {a : Addr} {H1 : Hp} {ys : List V} {Q : VK} (hm : MillAt H1 a) (hne : ys ≠ []) (hl : ys.length < 1000) (q : ∀ v H', v ∈ ys → Mo a H1 H' → Q v H') : ys.length ≤ sizeLine ∧ ∀ l, H1 l = none → sp_pick [.ref a, .ref l] (upd H1 l (.lst ys)) Q E :=
  ⟨Nat.le_of_lt (Nat.lt_trans hl (by decide)), fun l hn => ⟨a, l, ys, rfl, hm.same (Same.new hn), upd_same, hm.ne hn, hne, hl, fun v H' hv mo => q v H' hv ((Mo.same hm (Same.new hn)).trans mo)⟩⟩
theorem Mo.fresh {a p : Addr} {H H' : Hp} (m : Mo a H H') (hm : MillAt H a) (h : H' p = none) : H p = none := by
  cases q : H p with
  | none => rfl
  | some o =>
    have n : p ≠ a := fun z => by
      obtain ⟨_, _, _, e⟩ := m.mill
      rw [z, e] at h
      cases h
    rw [m.but _ _ q n] at h
    cases h
def strs4 : List V := [.str "plain", .str "hold", .str "few", .str "hold"]
abbrev N_law_ways : List Str := ["_law_mill_here", "_law_word"]
theorem sc_law_ways : FnScope N_law_ways ["_law_mill_here"] (defScope s_law_ways) := C8.fnScope_by (by decide +kernel)
theorem ok_law_ways (T : Txt G mg) {f : Addr} {fd : FuncData} (F : FnP G.K "_law_ways" "_law_ways" s_law_ways f fd) (hm : mg "_law_ways" = some (.ref f)) (c_law_grain : C8.Cal P w G.K mg base 1 "_law_grain" (sp_grain) []) (c_law_pick : C8.Cal P w G.K mg base 2 "_law_pick" (sp_pick) []) : C8.Cal P w G.K mg base 3 "_law_ways" (sp_ways) [] := by
  refine cal_mk F hm (F.bindsN fun _ _ _ _ _ _ us hl => match us, hl with | [_], _ => rfl) sc_law_ways (fun vs H Q E h => ?_) (fun cdv A outer s H vs Q E hr h => ?_)
  · obtain ⟨a, rfl, hm, q⟩ := h
    rfl
  · obtain ⟨a, rfl, hm, q⟩ := h
    refine ⟨_, (pss_cons (ps_set (i := 1) sc_law_ways.nd rfl (Or.inl rfl) (C8.pe_c c_law_pick hr (by decide) (by rfl) (pa_cons (pv 0) (pa_cons (pe_lst (pa_cons pe_str (pa_cons pe_str (pa_cons pe_str (pa_cons pe_str pa_nil))))) pa_nil))))
    (pss_one (ps_ret (pe_tup (pa_cons (pv 1) (pa_cons (pe_op op_add pe_int (C8.pe_c c_law_grain hr (by decide) (by rfl) (pa_cons (pv 0) (pa_cons pe_int pa_nil)))) (pa_cons (C8.pe_c c_law_pick hr (by decide) (by rfl) (pa_cons (pv 0) (pa_cons (pe_lst (pa_cons pe_int (pa_cons pe_int (pa_cons pe_int (pa_cons pe_int (pa_cons pe_int (pa_cons (C8.pe_c c_law_grain hr (by decide) (by rfl) (pa_cons (pv 0) (pa_cons pe_int pa_nil))) pa_nil))))))) pa_nil))) pa_nil))))))), ?_⟩
    refine y_setE (p_call (v_var rfl) (w_cons v_c (w_cons v_c (w_cons v_c (w_cons v_c (w_nil (pk_fin hm (by simp) (by show 4 < 1000; decide) fun v H1 hv mo => ?_)))))))
    obtain ⟨z, rfl, hz⟩ : ∃ z : Str, v = .str z ∧ ruleIn z = true := by
      simp only [List.mem_cons, List.not_mem_nil, or_false] at hv
      rcases hv with e | e | e | e <;> exact ⟨_, e, by decide +kernel⟩
    show tRet _ _ [some (V.ref a), some (V.str z)] H1
    have hs : ∀ H2, Val (tVar 0) [some (V.ref a), some (V.str z)] H2 (.ref a) := fun _ => v_var rfl
    refine x_retE (w_tup (w_cons (v_var rfl) (w_consE (w_opV v_c (g_call (hs _) v_c mo.mill (by decide) (by decide) fun d H2 d0 d1 mo2 => ⟨1, d, rfl, rfl, ?_⟩)))))
    refine w_consE (p_call (hs _) (w_cons v_c (w_cons v_c (w_cons v_c (w_cons v_c (w_cons v_c (w_consE (g_call (hs _) v_c mo2.mill (by decide) (by decide) fun d2 H3 e0 e1 mo3 => w_nil (pk_fin mo3.mill (by simp) (by show 6 < 1000; decide) fun v H4 hv mo4 => w_nil ⟨by show 3 ≤ sizeLine; decide, fun t ht => ?_⟩))))))))) 
    obtain ⟨de, rfl, h1, h2⟩ : ∃ de : Int, v = .int de ∧ 0 ≤ de ∧ de ≤ 60 := by
      simp only [List.mem_cons, List.not_mem_nil, or_false] at hv
      rcases hv with e | e | e | e | e | e
      · exact ⟨_, e, by decide, by decide⟩
      · exact ⟨_, e, by decide, by decide⟩
      · exact ⟨_, e, by decide, by decide⟩
      · exact ⟨_, e, by decide, by decide⟩
      · exact ⟨_, e, by decide, by decide⟩
      · exact ⟨_, e, e0, by omega⟩
    have mo5 := ((mo.trans mo2).trans mo3).trans mo4
    exact q t _ z (1 + d) de (mo5.fresh hm ht) (mo5.then (Same.new ht)) ⟨upd_same, hz, by omega, by omega, h1, h2⟩
abbrev N_law_told : List Str := ["_law_mill_here", "_law_big"]
theorem sc_law_told : FnScope N_law_told ["_law_mill_here"] (defScope s_law_told) := C8.fnScope_by (by decide +kernel)
theorem ok_law_told (T : Txt G mg) {f : Addr} {fd : FuncData} (F : FnP G.K "_law_told" "_law_told" s_law_told f fd) (hm : mg "_law_told" = some (.ref f)) (c_law_grain : C8.Cal P w G.K mg base 1 "_law_grain" (sp_grain) []) (c_law_pick : C8.Cal P w G.K mg base 2 "_law_pick" (sp_pick) []) (c_law_ways : C8.Cal P w G.K mg base 3 "_law_ways" (sp_ways) []) : C8.Cal P w G.K mg base 4 "_law_told" (sp_told) [] := by
  refine cal_mk F hm (F.bindsN fun _ _ _ _ _ _ us hl => match us, hl with | [_], _ => rfl) sc_law_told (fun vs H Q E h => ?_) (fun cdv A outer s H vs Q E hr h => ?_)
  · obtain ⟨a, rfl, hm, q⟩ := h
    rfl
  · obtain ⟨a, rfl, hm, q⟩ := h
    refine ⟨_, (pss_cons (ps_set (i := 1) sc_law_told.nd rfl (Or.inl rfl) (C8.pe_c c_law_pick hr (by decide) (by rfl) (pa_cons (pv 0) (pa_cons (pe_lst (pa_cons pe_int (pa_cons pe_int (pa_cons pe_int (pa_cons pe_int (pa_cons pe_int (pa_cons pe_int pa_nil))))))) pa_nil))))
    (pss_one (ps_ret (pe_tup (pa_cons (pv 1) (pa_cons (C8.pe_c c_law_pick hr (by decide) (by rfl) (pa_cons (pv 0) (pa_cons (pe_lst (pa_cons pe_int (pa_cons pe_int (pa_cons pe_int (pa_cons (pe_op op_add pe_int (C8.pe_c c_law_grain hr (by decide) (by rfl) (pa_cons (pv 0) (pa_cons pe_int pa_nil)))) pa_nil))))) pa_nil))) (pa_cons (C8.pe_c c_law_ways hr (by decide) (by rfl) (pa_cons (pv 0) pa_nil)) (pa_cons (C8.pe_c c_law_ways hr (by decide) (by rfl) (pa_cons (pv 0) pa_nil)) pa_nil)))))))), ?_⟩
    refine y_setE (p_call (v_var rfl) (w_cons v_c (w_cons v_c (w_cons v_c (w_cons v_c (w_cons v_c (w_cons v_c (w_nil (pk_fin hm (by simp) (by show 6 < 1000; decide) fun v H1 hv mo => ?_)))))))))
    obtain ⟨sz, rfl, z1, z2⟩ : ∃ sz : Int, v = .int sz ∧ 1 ≤ sz ∧ sz ≤ 40 := by
      simp only [List.mem_cons, List.not_mem_nil, or_false] at hv
      rcases hv with e | e | e | e | e | e <;> exact ⟨_, e, by decide, by decide⟩
    show tRet _ _ [some (V.ref a), some (V.int sz)] H1
    have hs : ∀ H2, Val (tVar 0) [some (V.ref a), some (V.int sz)] H2 (.ref a) := fun _ => v_var rfl
    refine x_retE (w_tup (w_cons (v_var rfl) (w_consE (p_call (hs _) (w_cons v_c (w_cons v_c (w_cons v_c (w_consE (w_opV v_c (g_call (hs _) v_c mo.mill (by decide) (by decide) fun d H2 d0 d1 mo2 => ⟨1, d, rfl, rfl, w_nil (pk_fin mo2.mill (by simp) (by show 4 < 1000; decide) fun v H3 hv mo3 => ?_)⟩))))))))))
    obtain ⟨wy, rfl, y1, y2⟩ : ∃ wy : Int, v = .int wy ∧ 1 ≤ wy ∧ wy ≤ 60 := by
      simp only [List.mem_cons, List.not_mem_nil, or_false] at hv
      rcases hv with e | e | e | e
      · exact ⟨_, e, by decide, by decide⟩
      · exact ⟨_, e, by decide, by decide⟩
      · exact ⟨_, e, by decide, by decide⟩
      · exact ⟨_, e, by omega, by omega⟩
    have mo3' := (mo.trans mo2).trans mo3
    refine w_consE (c_call (va_cons (hs _) va_nil) ⟨a, rfl, mo3.mill, fun tc H4 zc ec dc fc mo4 wc => w_consE (c_call (va_cons (hs _) va_nil) ⟨a, rfl, mo4.mill, fun td H5 zd ed dd fd2 mo5 wd => w_nil ⟨by show 4 ≤ sizeLine; decide, fun t ht => ?_⟩⟩)⟩)
    have mo6 := (mo3'.trans mo4).trans mo5
    have nc : tc ≠ a := mo3.mill.ne fc
    have ntc : tc ≠ t := ne_of_none (mo5.but _ _ wc.1 nc) ht
    have ntd : td ≠ t := ne_of_none wd.1 ht
    have wc5 := wc.but mo5.but nc
    exact q t _ sz wy tc td (mo6.fresh hm ht) (mo6.then (Same.new ht)) ⟨upd_same, z1, z2, y1, y2, ⟨zc, ec, dc, by rw [upd_ne ntc]; exact wc5.1, wc5.2⟩, ⟨zd, ed, dd, by rw [upd_ne ntd]; exact wd.1, wd.2⟩⟩

end
end SH
end
section
namespace SH
open PySem PySem.Spec PyProof.Rows L2
open LamX (ExtN Tabs TabB)
section
variable {P : Program} {w : World} {G : Gl5} {mg : Str → Option Value} {base : Heap}

theorem mkS {H H' : Hp} {x dx : Addr} {o o2 : HO} (hx : H x = none) (hd : H dx = none) (b : But x (upd (upd H dx o) x o2) H') : Same H H' := fun c u e => by
  have n := ne_of_none e hx
  refine b c u ?_ n
  rw [upd_ne n, upd_ne (ne_of_none e hd)]
  exact e
theorem mk_callE {C : Addr} {sp : Sp} {dvs : List V} {E : XK} {ar : TA} {σ : L2.St} {H : Hp} {Q : VK} (h : ar σ H fun vs H1 => ∀ x dx, H1 x = none → H1 dx = none → dx ≠ x → sp (.ref x :: (vs ++ dvs)) (upd (upd H1 dx (.own x)) x (.ins C dx [])) (fun v H2 => v = .non ∧ Q (.ref x) H2) E) : tMake C sp dvs E ar σ H Q := h
theorem g_four {K : PySem.W.Frag} {σ : L2.St} {H : Hp} {n1 n2 n3 n4 : Nat} {p : Addr} {x y z u : V} {Q : L2.St → Hp → Prop} (hp : SqT K H p [x, y, z, u]) (q : Q ((((σ.set n1 (some x)).set n2 (some y)).set n3 (some z)).set n4 (some u)) H) : gTup K 4 (gCons (gName n1) (gCons (gName n2) (gCons (gName n3) (gCons (gName n4) gNil)))) (.ref p) σ H Q :=
  ⟨_, _, rfl, hp, rfl, _, _, rfl, _, _, rfl, _, _, rfl, _, _, rfl, rfl, q⟩
abbrev N_law_made : List Str := ["_law_told_here_here", "_law_a", "_law_b", "_law_c", "_law_d"]
theorem sc_law_made : FnScope N_law_made ["_law_told_here_here"] (defScope s_law_made) := C8.fnScope_by (by decide +kernel)
theorem ok_law_made (T : Txt G mg) {f : Addr} {fd : FuncData} (F : FnP G.K "_law_made" "_law_made" s_law_made f fd) (hm : mg "_law_made" = some (.ref f)) (k_Setting : C8.Mak P w G.K mg base 4 "Setting" G.S (sp_Setting G) []) (k_Line : C8.Mak P w G.K mg base 5 "Line" G.L (sp_Line G) []) : C8.Cal P w G.K mg base 7 "_law_made" (sp_made G) [] := by
  refine cal_mk F hm (F.bindsN fun _ _ _ _ _ _ us hl => match us, hl with | [_], _ => rfl) sc_law_made (fun vs H Q E h => ?_) (fun cdv A outer s H vs Q E hr h => ?_)
  · obtain ⟨t, sz, wy, tc, td, rfl, ⟨ht, z1, z2, y1, y2, ⟨zc, ec, dc, wc⟩, ⟨zd, ed, dd, wd⟩⟩, q⟩ := h
    rfl
  · obtain ⟨t, sz, wy, tc, td, rfl, ⟨ht, z1, z2, y1, y2, ⟨zc, ec, dc, wc⟩, ⟨zd, ed, dd, wd⟩⟩, q⟩ := h
    refine ⟨_, (pss_cons (ps_asg (pv 0) (pg_tup rfl (pgs_cons (pg_name (i := 1) sc_law_made.nd rfl (Or.inl rfl)) (pgs_cons (pg_name (i := 2) sc_law_made.nd rfl (Or.inl rfl)) (pgs_cons (pg_name (i := 3) sc_law_made.nd rfl (Or.inl rfl)) (pgs_cons (pg_name (i := 4) sc_law_made.nd rfl (Or.inl rfl)) pgs_nil))))))
    (pss_one (ps_ret (C8.pe_mk k_Line hr (by decide) (by rfl) (pa_cons (pv 1) (pa_cons (pv 2) (pa_cons (C8.pe_mk k_Setting hr (by decide) (by rfl) (pa_cons (pe_ix ix_tup (pv 3) pe_int (fun _ _ => rfl)) (pa_cons (pe_ix ix_tup (pv 3) pe_int (fun _ _ => rfl)) (pa_cons (pe_ix ix_tup (pv 3) pe_int (fun _ _ => rfl)) pa_nil)))) (pa_cons (C8.pe_mk k_Setting hr (by decide) (by rfl) (pa_cons (pe_ix ix_tup (pv 4) pe_int (fun _ _ => rfl)) (pa_cons (pe_ix ix_tup (pv 4) pe_int (fun _ _ => rfl)) (pa_cons (pe_ix ix_tup (pv 4) pe_int (fun _ _ => rfl)) pa_nil)))) pa_nil)))))))), ?_⟩
    refine y_asgE (v_var rfl _ (g_four (SqT.of ht) ?_))
    show tRet _ _ [some (V.ref t), some (V.int sz), some (V.int wy), some (V.ref tc), some (V.ref td)] H
    have hat : ∀ {H2 : Hp} {i : Nat} {ti : Addr} {z : Str} {ev de k : Int} {v : V}, [some (V.ref t), some (V.int sz), some (V.int wy), some (V.ref tc), some (V.ref td)][i]? = some (some (.ref ti)) → H2 ti = some (.tup [.str z, .int ev, .int de]) → atI [V.str z, .int ev, .int de] k = some v → Val (tOp (rIxT G.K) (tVar i) (tC (.int k))) [some (V.ref t), some (V.int sz), some (V.int wy), some (V.ref tc), some (V.ref td)] H2 v := fun h e a => v_sqT (v_var h) v_c (SqT.of e) a
    obtain ⟨wc1, wc2, wc3, wc4, wc5, wc6⟩ := wc
    obtain ⟨wd1, wd2, wd3, wd4, wd5, wd6⟩ := wd
    refine x_retE (mk_callE (w_cons (v_var rfl) (w_cons (v_var rfl) (w_consE (mk_call (va_cons (hat rfl wc1 rfl) (va_cons (hat rfl wc1 rfl) (va_cons (hat rfl wc1 rfl) va_nil))) fun x1 e1 hx1 he1 ne1 => ⟨x1, zc, ec, dc, e1, rfl, upd_same, wc2, wc3, wc4, wc5, by omega, fun H1 b1 s1 => ⟨rfl, ?_⟩⟩)))))
    have m1 := mkS hx1 he1 b1
    refine w_consE (mk_call (va_cons (hat rfl (m1 _ _ wd1) rfl) (va_cons (hat rfl (m1 _ _ wd1) rfl) (va_cons (hat rfl (m1 _ _ wd1) rfl) va_nil))) fun x2 e2 hx2 he2 ne2 => ⟨x2, zd, ed, dd, e2, rfl, upd_same, wd2, wd3, wd4, wd5, by omega, fun H2 b2 s2 => ⟨rfl, w_nil fun x3 e3 hx3 he3 ne3 => ?_⟩⟩)
    have m2 := mkS hx2 he2 b2
    have up : Same H2 (upd (upd H2 e3 (.own x3)) x3 (.ins G.L e3 [])) := fun b u e => by rw [upd_ne (ne_of_none e hx3), upd_ne (ne_of_none e he3)]; exact e
    have s1' := s1.same (H' := upd (upd H2 e3 (.own x3)) x3 (.ins G.L e3 [])) fun C dx fs e => up _ _ (m2 _ _ e)
    have s2' := s2.same (H' := upd (upd H2 e3 (.own x3)) x3 (.ins G.L e3 [])) fun C dx fs e => up _ _ e
    refine ⟨x3, sz, wy, fun i => cond i x2 x1, fun i => cond i zd zc, fun i => cond i ed ec, fun i => cond i dd dc, e3, rfl, upd_same, z1, by omega, y1, by omega, fun i => by cases i; exact s1'; exact s2', fun H3 b3 l3 => ⟨rfl, ?_⟩⟩
    have m3 := mkS hx3 he3 b3
    refine q x3 H3 _ ((m1.trans m2).trans m3) (Same.free (m1.trans m2) hx3) ⟨_, l3⟩ ⟨z1, ⟨by show 0 ≤ wy; omega, y2⟩, fun i => ?_, fun i => ?_⟩
    · cases i
      · exact wc3
      · exact wd3
    · cases i
      · exact wc6
      · exact wd6
abbrev N_law_amount : List Str := ["_law_mill_here", "_law_letter"]
theorem sc_law_amount : FnScope N_law_amount ["_law_mill_here", "_law_letter"] (defScope s_law_amount) := C8.fnScope_by (by decide +kernel)
theorem ok_law_amount (T : Txt G mg) {f : Addr} {fd : FuncData} (F : FnP G.K "_law_amount" "_law_amount" s_law_amount f fd) (hm : mg "_law_amount" = some (.ref f)) (c_law_grain : C8.Cal P w G.K mg base 1 "_law_grain" (sp_grain) []) (c_law_pick : C8.Cal P w G.K mg base 2 "_law_pick" (sp_pick) []) : C8.Cal P w G.K mg base 3 "_law_amount" (sp_amount) [] := by
  refine cal_mk F hm (F.bindsN fun _ _ _ _ _ _ us hl => match us, hl with | [_, _], _ => rfl) sc_law_amount (fun vs H Q E h => ?_) (fun cdv A outer s H vs Q E hr h => ?_)
  · obtain ⟨a, rfl, hm, q⟩ := h
    rfl
  · obtain ⟨a, rfl, hm, q⟩ := h
    refine ⟨_, (pss_cons (ps_if (PW.pt (pw_and (pt_val (pv 1)) (pw_and1 (pt_cmpR op_eq (C8.pe_c c_law_grain hr (by decide) (by rfl) (pa_cons (pv 0) (pa_cons pe_int pa_nil))) pe_int (nomark _))))) (pss_one (ps_ret pe_str)) pss_nil)
    (pss_one (ps_ret (pe_op op_add pe_int (C8.pe_c c_law_grain hr (by decide) (by rfl) (pa_cons (pv 0) (pa_cons (C8.pe_c c_law_pick hr (by decide) (by rfl) (pa_cons (pv 0) (pa_cons (pe_lst (pa_cons pe_int (pa_cons pe_int (pa_cons pe_int pa_nil)))) pa_nil))) pa_nil))))))), ?_⟩
    have hs : ∀ H2, Val (tVar 0) (start N_law_amount [V.ref a, V.bl true]) H2 (.ref a) := fun _ => v_var rfl
    refine y_whenE (t_andT (a_B (v_var rfl)) (t_opE (g_call (hs _) v_c hm (by decide) (by decide) fun d H1 d0 d1 mo => v_c _ ⟨rfl, _, rfl, ?_⟩)))
    cases hd : decide (V.int d = V.int 0) with
    | true => exact iteT (x_ret v_c (q none H1 (fun i e => by cases e) mo))
    | false =>
      refine iteF ?_
      refine x_retE (w_opV v_c (c_callE (w_cons (hs _) (w_consE (p_call (hs _) (w_cons v_c (w_cons v_c (w_cons v_c (w_nil (pk_fin mo.mill (by simp) (by show 3 < 1000; decide) fun v H2 hv mo2 => w_nil ?_))))))))))
      obtain ⟨n, rfl, n1, n2⟩ : ∃ n : Int, v = .int n ∧ 1 ≤ n ∧ n ≤ 14 := by
        simp only [List.mem_cons, List.not_mem_nil, or_false] at hv
        rcases hv with e | e | e <;> exact ⟨_, e, by decide, by decide⟩
      refine ⟨a, n, rfl, mo2.mill, by omega, by omega, fun g H3 g0 g1 mo3 => ⟨1, g, rfl, rfl, q (some (1 + g)) H3 (fun i e => by cases e; omega) ((mo.trans mo2).trans mo3)⟩⟩

end
end SH
end
section
namespace SH
open PySem PySem.Spec PyProof.Rows L2
open LamX (ExtN Tabs TabB)
section
variable {P : Program} {w : World} {G : Gl5} {mg : Str → Option Value} {base : Heap}

def StpB (n : Int) : Stp → Prop
  | .w a => AmOk a
  | .r a => AmOk a
  | .p lo hi => 0 ≤ lo ∧ lo ≤ hi ∧ hi ≤ n
structure PlanB (n : Int) (A : Plan) : Prop where
  len : A.length ≤ 6
  each : ∀ s ∈ A, StpB n s
theorem PlanB.ok {n : Int} {A : Plan} (h : PlanB n A) (hn : n ≤ 60) : PlanOk A := ⟨h.len, fun s hs => by
  have := h.each s hs
  cases s with
  | w a => exact this
  | r a => exact this
  | p lo hi => exact ⟨this.1, this.2.1, Int.le_trans this.2.2 hn⟩⟩
theorem y_forR {ar : TA} {g : TG} {t1 t2 : TS} {D : Ends} {σ : L2.St} {H : Hp} (h : ar σ H fun vs H1 => ∃ j : Int, vs = [.int j] ∧ -(2 ^ 62) ≤ j ∧ j < 2 ^ 62 ∧ ∃ W : Nat → Nat → L2.St → Hp → Prop, (∃ m, W 0 m σ H1) ∧ ∀ i m σ H, W i m σ H →
  ((Itr 0 j.toNat).stop i H ∧ t2 D σ H) ∨ ((Itr 0 j.toNat).go i H ∧ ∃ N : L2.St → Hp → Prop, (∀ σ' H', N σ' H' → ∃ m', m' < m ∧ W (i + 1) m' σ' H') ∧ ∀ x H', (Itr 0 j.toNat).yld i H x H' → g x σ H' fun σ2 H2 => t1 { D with nx := N, ct := N, bk := t2 D } σ2 H2)) : tSeq (tFor (iRng1 ar) g t1) t2 D σ H := h
theorem w_app {K : PySem.W.Frag} {to te : TE} {D : Ends} {σ : L2.St} {H : Hp} (h : to σ H fun x H1 => tyV K "list" x H1 ∧ te σ H1 fun y H2 => rAppend x [y] H2 (fun _ H3 => D.nx σ H3)) : tDrop (tBM K "list" rAppend to (tCons te tNil)) D σ H := h
theorem y_app {K : PySem.W.Frag} {to te : TE} {t2 : TS} {D : Ends} {σ : L2.St} {H : Hp} (h : to σ H fun x H1 => tyV K "list" x H1 ∧ te σ H1 fun y H2 => rAppend x [y] H2 (fun _ H3 => t2 D σ H3)) : tSeq (tDrop (tBM K "list" rAppend to (tCons te tNil))) t2 D σ H := h
theorem ap_ty {K : PySem.W.Frag} {H : Hp} {l : Addr} {xs : List V} (h : H l = some (.lst xs)) : tyV K "list" (.ref l) H := .inl ⟨rfl, _, SqL.of h⟩
theorem ap_do {H : Hp} {l : Addr} {xs : List V} {y : V} {Q : VK} (h : H l = some (.lst xs)) (hl : xs.length < sizeLine) (q : Q .non (upd H l (.lst (xs ++ [y])))) : rAppend (.ref l) [y] H Q := ⟨_, _, _, rfl, rfl, h, hl, q⟩
/-- the two lists that grow -/
structure Pz (H : Hp) (a pl : Addr) (P : Bool → Addr) (n : Nat) (H' : Hp) : Prop where
  but : But a H H'
  mill : MillAt H' a
  l : H' pl = some (.lst [.ref (P false), .ref (P true)])
  p : ∀ b, ∃ A : Plan, LT H' (P b) (A.map stpV) ∧ (∀ s ∈ A, StpB 8 s) ∧ A.length ≤ n
  ne : P false ≠ P true
  na : ∀ b, P b ≠ a
  nl : ∀ b, P b ≠ pl
  fr : ∀ b, H (P b) = none
  la : pl ≠ a
  lf : H pl = none
theorem Pz.mono {H H' : Hp} {a pl : Addr} {P : Bool → Addr} {n m : Nat} (z : Pz H a pl P n H') (h : n ≤ m) : Pz H a pl P m H' :=
  ⟨z.but, z.mill, z.l, fun b => let ⟨A, h1, h2, h3⟩ := z.p b; ⟨A, h1, h2, Nat.le_trans h3 h⟩, z.ne, z.na, z.nl, z.fr, z.la, z.lf⟩
theorem Pz.mo {H H' H2 : Hp} {a pl : Addr} {P : Bool → Addr} {n : Nat} (z : Pz H a pl P n H') (m : Mo a H' H2) : Pz H a pl P n H2 := by
  have nt : NoTup H' a := by
    obtain ⟨_, _, _, e⟩ := z.mill
    exact noTup_lst e
  exact ⟨z.but.trans m.but, m.mill, m.but _ _ z.l z.la, fun b => let ⟨A, h1, h2, h3⟩ := z.p b; ⟨A, h1.mono m.but nt (z.na b), h2, h3⟩, z.ne, z.na, z.nl, z.fr, z.la, z.lf⟩
theorem Pz.push {H H' : Hp} {a pl m : Addr} {P : Bool → Addr} {n : Nat} (z : Pz H a pl P n H') (b : Bool) (s : Stp) (hs : StpB 8 s) (hm : H' m = none) {rs : List Addr} (hr : H' (P b) = some (.lst (rs.map V.ref))) : Pz H a pl P (n + 1) (upd (upd H' m (.tup (stpV s))) (P b) (.lst (rs.map V.ref ++ [.ref m]))) := by
  have nm : ∀ c, P c ≠ m := fun c => by
    obtain ⟨A, ⟨r, h1, _⟩, _⟩ := z.p c
    exact ne_of_none h1 hm
  have nlm : pl ≠ m := ne_of_none z.l hm
  have nam : a ≠ m := fun e => z.mill.ne hm e.symm
  refine ⟨fun c u e n1 => ?_, ?_, ?_, fun c => ?_, z.ne, z.na, z.nl, z.fr, z.la, z.lf⟩
  · rw [upd_ne (ne_of_none e (z.fr b))]
    exact Same.new hm _ _ (z.but _ _ e n1)
  · obtain ⟨x, y, w, e⟩ := z.mill
    exact ⟨x, y, w, by rw [upd_ne (z.na b).symm, upd_ne nam]; exact e⟩
  · rw [upd_ne (z.nl b).symm, upd_ne nlm]
    exact z.l
  · obtain ⟨A, h1, h2, h3⟩ := z.p c
    by_cases hc : c = b
    · subst hc
      obtain ⟨rs', e1, _, e2⟩ := LT.app (x := stpV s) h1 hm
      rw [hr] at e1
      have ee : rs.map V.ref = rs'.map V.ref := HO.lst.inj (Option.some.inj e1)
      rw [ee]
      refine ⟨A ++ [s], by rw [List.map_append]; exact e2, fun t ht => ?_, by rw [List.length_append]; exact Nat.succ_le_succ h3⟩
      rcases List.mem_append.mp ht with q | q
      · exact h2 t q
      · rw [List.mem_singleton.mp q]
        exact hs
    · have nc : P c ≠ P b := fun e => by
        cases c <;> cases b
        · exact hc rfl
        · exact z.ne e
        · exact z.ne e.symm
        · exact hc rfl
      have h1' : LT (upd H' m (.tup (stpV s))) (P c) (A.map stpV) := h1.same (Same.new hm)
      have hb : upd H' m (.tup (stpV s)) (P b) = some (.lst (rs.map V.ref)) := (upd_ne (nm b)).trans hr
      exact ⟨A, h1'.mono (But.upd (o := .lst (rs.map V.ref ++ [.ref m]))) (noTup_lst hb) nc, h2, Nat.le_succ_of_le h3⟩
theorem Pz.at {H H' : Hp} {a pl : Addr} {P : Bool → Addr} {n : Nat} (z : Pz H a pl P n H') (b : Bool) : ∃ rs : List Addr, H' (P b) = some (.lst (rs.map V.ref)) ∧ rs.length ≤ n := by
  obtain ⟨A, ⟨rs, h1, h2⟩, _, h3⟩ := z.p b
  exact ⟨rs, h1, by rw [h2.len, List.length_map]; exact h3⟩
theorem bool_of {d : Int} (h0 : 0 ≤ d) (h1 : d < 2) : ∃ b : Bool, d = bi b := by
  by_cases h : d = 0
  · exact ⟨false, h⟩
  · exact ⟨true, by show d = 1; omega⟩
theorem pz_ix {K : PySem.W.Frag} {H0 H : Hp} {a pl : Addr} {P : Bool → Addr} {n : Nat} {σ : L2.St} {ti : TE} {c : Bool} (z : Pz H0 a pl P n H) (h1 : σ[2]? = some (some (V.ref pl))) (h3 : Val ti σ H (.int (bi c))) : Val (tOp (rIxL K) (tVar 2) ti) σ H (.ref (P c)) :=
  v_sqL (v_var h1) h3 (SqL.of z.l) (by cases c <;> rfl)
theorem lt_line {n m : Nat} (h : n ≤ m) (h2 : m < 100) : n < sizeLine := Nat.lt_of_le_of_lt h (Nat.lt_of_lt_of_le h2 (by decide))
theorem plan_tail {K : PySem.W.Frag} {D : Ends} {H H8 : Hp} {a pl : Addr} {P : Bool → Addr} {n : Nat} {x3 x4 x5 x6 x7 : Option V} (hn : n < 90) (z8 : Pz H a pl P n H8) (nx : ∀ v7 H', Pz H a pl P (n + 1) H' → D.nx [some (V.ref a), some (V.bl true), some (V.ref pl), x3, x4, x5, x6, v7] H') :
    tIfS (tTest (tOp rEq (tCall sp_grain [] C8.E0 (tCons (tVar 0) (tCons (tC (.int 5)) tNil))) (tC (.int 0)))) (tSeq (tAsg (tCall sp_grain [] C8.E0 (tCons (tVar 0) (tCons (tC (.int 6)) tNil))) (gName 7))
      (tDrop (tBM K "list" rAppend (tOp (rIxL K) (tVar 2) (tCall sp_grain [] C8.E0 (tCons (tVar 0) (tCons (tC (.int 2)) tNil)))) (tCons (tTup (tCons (tC (.str "pause")) (tCons (tVar 7) (tCons (tOp (rI0 fun i j => .int (i + j)) (tVar 7) (tCall sp_grain [] C8.E0 (tCons (tVar 0) (tCons (tC (.int 4)) tNil)))) tNil)))) tNil)))) tNext
      D [some (V.ref a), some (V.bl true), some (V.ref pl), x3, x4, x5, x6, x7] H8 := by
  refine x_ifE (t_opE (g_call (v_var rfl) v_c z8.mill (by decide) (by decide) fun d H1 d0 d1 mo1 => v_c _ ⟨rfl, _, rfl, ?_⟩))
  have z1 := z8.mo mo1
  cases hd : decide (V.int d = V.int 0) with
  | false => exact iteF (nx _ _ (z1.mono (Nat.le_succ _)))
  | true =>
    refine iteT (y_setE (g_call (v_var rfl) v_c z1.mill (by decide) (by decide) fun lo H2 l0 l1 mo2 => ?_))
    show tDrop _ _ [some (V.ref a), some (V.bl true), some (V.ref pl), x3, x4, x5, x6, some (V.int lo)] H2
    have z2 := z1.mo mo2
    refine w_app (x_ixC (v_var rfl) (va_cons (v_var rfl) (va_cons v_c va_nil)) ⟨a, 2, rfl, z2.mill, by decide, by decide, fun nr H3 n0 n1 mo3 => ?_⟩)
    obtain ⟨b, rfl⟩ := bool_of n0 n1
    have z3 := z2.mo mo3
    obtain ⟨r3, e3, l3⟩ := z3.at b
    refine ⟨pl, _, bi b, _, rfl, rfl, SqL.of z3.l, (by cases b <;> rfl : atI [V.ref (P false), V.ref (P true)] (bi b) = some (V.ref (P b))), ap_ty e3, w_tup (w_cons v_c (w_cons (v_var rfl) (w_consE (w_opV (v_var rfl) (g_call (v_var rfl) v_c z3.mill (by decide) (by decide) fun g H4 g0 g1 mo4 => ⟨lo, g, rfl, rfl, w_nil ⟨by show 3 ≤ sizeLine; decide, fun m hm => ?_⟩⟩)))))⟩
    have z4 := z3.mo mo4
    obtain ⟨r4, e4, l4⟩ := z4.at b
    exact ap_do ((Same.new hm) _ _ e4) (by rw [List.length_map]; exact lt_line l4 (by omega)) (nx _ _ (z4.push b (.p lo (lo + g)) ⟨l0, by omega, by omega⟩ hm e4))
def sp_plans : Sp := fun vs H Q _ => ∃ a, vs = [.ref a, .bl true] ∧ MillAt H a ∧ ∀ d p q A B H', Mo a H H' → H d = none → H' d = some (.tup [.ref p, .ref q]) → PlanAt H' p A → PlanB 8 A → PlanAt H' q B → PlanB 8 B → Q (.ref d) H'
theorem cutV_take (xs : List V) (n : Nat) : cutV xs none (some (n : Int)) = xs.take n := by
  show (xs.drop (HT.sIx xs.length 0 none)).take (HT.sIx xs.length xs.length (some (n : Int)) - HT.sIx xs.length 0 none) = _
  rw [HT.sIx_none, HT.sIx_nat, List.drop_zero, Nat.sub_zero]
  rcases Nat.le_total n xs.length with h | h
  · rw [Nat.min_eq_left h]
  · rw [Nat.min_eq_right h, List.take_of_length_le (Nat.le_refl _), List.take_of_length_le h]
theorem TP.take {H : Hp} : ∀ {rs : List Addr} {xs : List (List V)} (n : Nat), TP H rs xs → TP H (rs.take n) (xs.take n)
  | [], [], n, _ => by simp [TP]
  | r :: rs, x :: xs, 0, _ => True.intro
  | r :: rs, x :: xs, n + 1, h => ⟨h.1, TP.take n h.2⟩
  | [], _ :: _, _, h => h.elim
  | _ :: _, [], _, h => h.elim
abbrev N_law_plans : List Str := ["_law_mill_here", "_law_letter", "_law_plans_here", "_law_k", "_law_near_here", "_law_amount_here", "_law_way", "_law_least"]
theorem sc_law_plans : FnScope N_law_plans ["_law_mill_here", "_law_letter"] (defScope s_law_plans) := C8.fnScope_by (by decide +kernel)
theorem ok_law_plans (T : Txt G mg) {f : Addr} {fd : FuncData} (F : FnP G.K "_law_plans" "_law_plans" s_law_plans f fd) (hm : mg "_law_plans" = some (.ref f)) (c_law_grain : C8.Cal P w G.K mg base 1 "_law_grain" (sp_grain) []) (c_law_amount : C8.Cal P w G.K mg base 3 "_law_amount" (sp_amount) []) : C8.Cal P w G.K mg base 4 "_law_plans" (sp_plans) [] := by
  refine cal_mk F hm (F.bindsN fun _ _ _ _ _ _ us hl => match us, hl with | [_, _], _ => rfl) sc_law_plans (fun vs H Q E h => ?_) (fun cdv A outer s H vs Q E hr h => ?_)
  · obtain ⟨a, rfl, hm, q⟩ := h
    rfl
  · obtain ⟨a, rfl, hm, q⟩ := h
    refine ⟨_, (pss_cons (ps_set (i := 2) sc_law_plans.nd rfl (Or.inl rfl) (pe_lst (pa_cons (pe_lst pa_nil) (pa_cons (pe_lst pa_nil) pa_nil))))
    (pss_cons (ps_for PassesOwn.never rfl (pi_range1 (by rfl) T.z_range (pa_cons (pe_op op_add pe_int (C8.pe_c c_law_grain hr (by decide) (by rfl) (pa_cons (pv 0) (pa_cons pe_int pa_nil)))) pa_nil)) (pg_name (i := 3) sc_law_plans.nd rfl (Or.inl rfl)) (pss_cons (ps_par (i := 4) (j := 5) rfl sc_law_plans.nd rfl rfl (by decide) rfl rfl (pa_cons (C8.pe_c c_law_grain hr (by decide) (by rfl) (pa_cons (pv 0) (pa_cons pe_int pa_nil))) (pa_cons (C8.pe_c c_law_amount hr (by decide) (by rfl) (pa_cons (pv 0) (pa_cons (pv 1) pa_nil))) pa_nil)) (by rfl))
    (pss_cons (ps_expr (pe_bm PySem.F.plainAttrs_list PySem.F.slot_list_append PySem.F.type_list_append mt_append (pe_ix ix_list (pv 2) (pv 4) (fun _ _ => rfl)) (pa_cons (pe_tup (pa_cons pe_str (pa_cons (pv 5) pa_nil))) pa_nil)))
    (pss_cons (ps_set (i := 6) sc_law_plans.nd rfl (Or.inl rfl) (C8.pe_c c_law_grain hr (by decide) (by rfl) (pa_cons (pv 0) (pa_cons pe_int pa_nil))))
    (pss_cons (ps_if (pt_cmpR op_gt (pv 6) pe_int (nomark _)) (pss_one (ps_expr (pe_bm PySem.F.plainAttrs_list PySem.F.slot_list_append PySem.F.type_list_append mt_append (pe_ix ix_list (pv 2) (pe_op op_sub pe_int (pv 4)) (fun _ _ => rfl)) (pa_cons (pe_tup (pa_cons pe_str (pa_cons (pe_ifExp (pt_cmpR op_gt (pv 6) pe_int (nomark _)) (pv 5) (C8.pe_c c_law_amount hr (by decide) (by rfl) (pa_cons (pv 0) (pa_cons (pv 1) pa_nil)))) pa_nil))) pa_nil)))) pss_nil)
    (pss_one (ps_if (pt_cmpR op_eq (C8.pe_c c_law_grain hr (by decide) (by rfl) (pa_cons (pv 0) (pa_cons pe_int pa_nil))) pe_int (nomark _)) (pss_cons (ps_set (i := 7) sc_law_plans.nd rfl (Or.inl rfl) (C8.pe_c c_law_grain hr (by decide) (by rfl) (pa_cons (pv 0) (pa_cons pe_int pa_nil))))
    (pss_one (ps_expr (pe_bm PySem.F.plainAttrs_list PySem.F.slot_list_append PySem.F.type_list_append mt_append (pe_ix ix_list (pv 2) (C8.pe_c c_law_grain hr (by decide) (by rfl) (pa_cons (pv 0) (pa_cons pe_int pa_nil))) (fun _ _ => rfl)) (pa_cons (pe_tup (pa_cons pe_str (pa_cons (pv 7) (pa_cons (pe_op op_add (pv 7) (C8.pe_c c_law_grain hr (by decide) (by rfl) (pa_cons (pv 0) (pa_cons pe_int pa_nil)))) pa_nil)))) pa_nil))))) pss_nil)))))))
    (pss_one (ps_ret (pe_tup (pa_cons (pe_callTy (r := rTupK G.K) call_tupK (by rfl) T.z_tuple (by decide +kernel) (pa_cons (pe_slice sl_list (pe_ix ix_list (pv 2) pe_int (fun _ _ => rfl)) po_none (po_some pe_int)) pa_nil)) (pa_cons (pe_callTy (r := rTupK G.K) call_tupK (by rfl) T.z_tuple (by decide +kernel) (pa_cons (pe_slice sl_list (pe_ix ix_list (pv 2) pe_int (fun _ _ => rfl)) po_none (po_some pe_int)) pa_nil)) pa_nil))))))), ?_⟩
    -- plans = [[], []]
    refine y_asgE (w_lst (w_consE (w_lst (w_nil ⟨by show 0 ≤ sizeLine; decide, fun p0 hp0 => w_consE (w_lst (w_nil ⟨by show 0 ≤ sizeLine; decide, fun p1 hp1 => w_nil ⟨by show 2 ≤ sizeLine; decide, fun pl hpl => ?_⟩⟩))⟩))))
    have n10 : p1 ≠ p0 := fun z => by rw [z, upd_same] at hp1; cases hp1
    have hp1' : H p1 = none := by rwa [upd_ne n10] at hp1
    have np1 : pl ≠ p1 := fun z => by rw [z, upd_same] at hpl; cases hpl
    have np0 : pl ≠ p0 := fun z => by rw [z, upd_ne n10.symm, upd_same] at hpl; cases hpl
    have hpl' : H pl = none := by rwa [upd_ne np1, upd_ne np0] at hpl
    let P : Bool → Addr := fun b => cond b p1 p0
    have z0 : Pz H a pl P 0 (upd (upd (upd H p0 (.lst [])) p1 (.lst [])) pl (.lst [.ref p0, .ref p1])) := by
      refine ⟨But.of (((Same.new hp0).then hp1).then hpl), hm.same (((Same.new hp0).then hp1).then hpl), upd_same, fun b => ⟨[], ⟨[], ?_, True.intro⟩, (fun s h => by cases h), Nat.le_refl _⟩, n10.symm, fun b => ?_, fun b => ?_, fun b => ?_, hm.ne hpl', hpl'⟩
      · cases b
        · show upd (upd (upd H p0 (.lst [])) p1 (.lst [])) pl (.lst [.ref p0, .ref p1]) p0 = _
          rw [upd_ne np0.symm, upd_ne n10.symm, upd_same]
          rfl
        · show upd (upd (upd H p0 (.lst [])) p1 (.lst [])) pl (.lst [.ref p0, .ref p1]) p1 = _
          rw [upd_ne np1.symm, upd_same]
          rfl
      · cases b
        · exact hm.ne hp0
        · exact hm.ne hp1'
      · cases b
        · exact np0.symm
        · exact np1.symm
      · cases b
        · exact hp0
        · exact hp1'
    generalize upd (upd (upd H p0 (.lst [])) p1 (.lst [])) pl (.lst [.ref p0, .ref p1]) = H1 at z0
    show tSeq _ _ _ [some (V.ref a), some (V.bl true), some (V.ref pl), none, none, none, none, none] H1
    refine y_forR (w_consE (w_opV v_c (g_call (v_var rfl) v_c z0.mill (by decide) (by decide) fun d0 H2 d00 d01 mo => ⟨1, d0, rfl, rfl, w_nil ⟨1 + d0, rfl, by omega, by omega, ?_⟩⟩)))
    refine for_itS (walk_range (lo := 0) (n := (1 + d0).toNat)) (fun i σ' H' => (∃ v3 v4 v5 v6 v7, σ' = [some (V.ref a), some (V.bl true), some (V.ref pl), v3, v4, v5, v6, v7]) ∧ Pz H a pl P (3 * i) H') ⟨⟨_, _, _, _, _, rfl⟩, z0.mo mo⟩ (fun _ _ _ _ _ => True.intro) ?_ ?_
    · rintro i x σ' H' H3 hi ⟨⟨v3, v4, v5, v6, v7, rfl⟩, z⟩ ⟨rfl, rfl⟩
      have hi4 : i < 4 := by omega
      show tSeq _ _ _ [some (V.ref a), some (V.bl true), some (V.ref pl), some (V.int (0 + (i : Nat))), v4, v5, v6, v7] H3
      have y_parE : ∀ {i j : Nat} {ar : TA} {t2 : TS} {D : Ends} {σ : L2.St} {H : Hp}, (ar σ H fun vs H1 => ∃ v w, vs = [v, w] ∧ t2 D ((σ.set i (some v)).set j (some w)) H1) → tSeq (tPar i j ar) t2 D σ H := fun h => h
      refine y_parE (w_consE (g_call (v_var rfl) v_c z.mill (by decide) (by decide) fun nr H4 n0 n1 mo1 => w_consE (c_call (va_cons (v_var rfl) (va_cons (v_var rfl) va_nil)) ⟨a, rfl, mo1.mill, fun am H5 ham mo2 => w_nil ⟨_, _, rfl, ?_⟩⟩)))
      obtain ⟨b, rfl⟩ := bool_of n0 n1
      show tSeq _ _ _ [some (V.ref a), some (V.bl true), some (V.ref pl), some (V.int (0 + (i : Nat))), some (V.int (bi b)), some (amV am), v6, v7] H5
      have z5 := (z.mo mo1).mo mo2
      -- write
      obtain ⟨r5, e5, l5⟩ := z5.at b
      refine y_app (pz_ix (c := b) z5 rfl (v_var rfl) _ ⟨ap_ty e5, w_tup (w_cons v_c (w_cons (v_var rfl) (w_nil ⟨by show 2 ≤ sizeLine; decide, fun m hm' => ap_do ((Same.new hm') _ _ e5) (by rw [List.length_map]; exact lt_line l5 (by omega)) ?_⟩)))⟩)
      have z6 := z5.push b (.w am) ham hm' e5
      show tSeq _ _ _ [some (V.ref a), some (V.bl true), some (V.ref pl), some (V.int (0 + (i : Nat))), some (V.int (bi b)), some (amV am), v6, v7] (upd (upd H5 m (.tup (stpV (.w am)))) (P b) (.lst (r5.map V.ref ++ [.ref m])))
      generalize upd (upd H5 m (.tup (stpV (.w am)))) (P b) (.lst (r5.map V.ref ++ [.ref m])) = H6 at z6
      refine y_setE (g_call (v_var rfl) v_c z6.mill (by decide) (by decide) fun wy H7 w0 w1 mo7 => ?_)
      show tSeq _ _ _ [some (V.ref a), some (V.bl true), some (V.ref pl), some (V.int (0 + (i : Nat))), some (V.int (bi b)), some (amV am), some (V.int wy), v7] H7
      have z7 := z6.mo mo7
      have tl : ∀ {H8 : Hp}, Pz H a pl P (3 * i + 2) H8 → ∀ v7' H', Pz H a pl P (3 * i + 2 + 1) H' → (∃ v3 v4 v5 v6 v7, [some (V.ref a), some (V.bl true), some (V.ref pl), some (V.int (0 + (i : Nat))), some (V.int (bi b)), some (amV am), some (V.int wy), v7'] = [some (V.ref a), some (V.bl true), some (V.ref pl), v3, v4, v5, v6, v7]) ∧ Pz H a pl P (3 * (i + 1)) H' := fun _ v7' H' z => ⟨⟨_, _, _, _, _, rfl⟩, z.mono (by omega)⟩
      refine y_when (b := decide (0 < wy)) (a_T (v_gt (v_var rfl) v_c)) (fun _ => ?_) (fun _ => plan_tail (by omega) (z7.mono (m := 3 * i + 2) (by omega)) (tl (z7.mono (by omega))))
      -- read
      obtain ⟨r7, e7, l7⟩ := z7.at (!b)
      refine w_app (pz_ix (c := !b) z7 rfl (v_is (v_I v_c (v_var rfl)) (show V.int (1 - bi b) = V.int (bi (!b)) by cases b <;> rfl)) _ ⟨ap_ty e7, w_tup (w_cons v_c (w_consE ?_))⟩)
      by_cases h1w : 1 < wy
      · exact t_ifE (a_T (v_gt (v_var rfl) v_c)) (decide_eq_true h1w) (v_var rfl _ (w_nil ⟨by show 2 ≤ sizeLine; decide, fun m hm => ap_do ((Same.new hm) _ _ e7) (by rw [List.length_map]; exact lt_line l7 (by omega)) (plan_tail (by omega) (z7.push (!b) (.r am) ham hm e7) (fun v7' H' z => ⟨⟨_, _, _, _, _, rfl⟩, z.mono (by omega)⟩))⟩))
      · refine t_ifF (a_T (v_gt (v_var rfl) v_c)) (decide_eq_false h1w) (c_call (va_cons (v_var rfl) (va_cons (v_var rfl) va_nil)) ⟨a, rfl, z7.mill, fun am2 H8 ham2 mo8 => w_nil ⟨by show 2 ≤ sizeLine; decide, fun m hm => ?_⟩⟩)
        have z8 := z7.mo mo8
        obtain ⟨r8, e8, l8⟩ := z8.at (!b)
        exact ap_do ((Same.new hm) _ _ e8) (by rw [List.length_map]; exact lt_line l8 (by omega)) (plan_tail (by omega) (z8.push (!b) (.r am2) ham2 hm e8) (fun v7' H' z => ⟨⟨_, _, _, _, _, rfl⟩, z.mono (by omega)⟩))
    · rintro σ' H' ⟨⟨v3, v4, v5, v6, v7, rfl⟩, z⟩
      obtain ⟨A, ⟨r0, h0, t0⟩, okA, lA⟩ := z.p false
      obtain ⟨B, ⟨r1, h1, t1⟩, okB, lB⟩ := z.p true
      have ix : ∀ {H2 : Hp} (c : Bool), Same H' H2 → Val (tOp (rIxL G.K) (tVar 2) (tC (.int (bi c)))) [some (V.ref a), some (V.bl true), some (V.ref pl), v3, v4, v5, v6, v7] H2 (.ref (P c)) := fun c e => v_sqL (v_var rfl) v_c (SqL.of (e _ _ z.l)) (by cases c <;> rfl)
      refine x_retE (w_tup (w_consE (x_cb (x_sl0 (ix false (Same.refl _)) ⟨P false, _, rfl, SqL.of h0, fun m0 hm0 => ⟨m0, _, rfl, .inl ⟨SqL.of upd_same, fun q0 hq0 => ?_⟩⟩⟩))))
      have e1 := (Same.new (o := .lst (cutV (r0.map V.ref) none (some 6))) hm0).then (o := .tup (cutV (r0.map V.ref) none (some 6))) hq0
      refine w_consE (x_cb (x_sl0 (ix true e1) ⟨P true, _, rfl, SqL.of (e1 _ _ h1), fun m1 hm1 => ⟨m1, _, rfl, .inl ⟨SqL.of upd_same, fun q1 hq1 => w_nil ⟨by show 2 ≤ sizeLine; decide, fun d hd => ?_⟩⟩⟩⟩))
      have e2 := (Same.new (o := .lst (cutV (r1.map V.ref) none (some 6))) hm1).then (o := .tup (cutV (r1.map V.ref) none (some 6))) hq1
      have e12 := (e1.trans e2).then (o := .tup [.ref q0, .ref q1]) hd
      have c0 : cutV (r0.map V.ref) none (some 6) = (r0.take 6).map V.ref := by rw [show (6 : Int) = ((6 : Nat) : Int) from rfl, cutV_take, List.map_take]
      have c1 : cutV (r1.map V.ref) none (some 6) = (r1.take 6).map V.ref := by rw [show (6 : Int) = ((6 : Nat) : Int) from rfl, cutV_take, List.map_take]
      have mo9 : Mo a H _ := (⟨z.but, z.mill⟩ : Mo a H H').then e12
      have ok : ∀ {C : Plan}, (∀ s ∈ C, StpB 8 s) → PlanB 8 (C.take 6) := fun h => ⟨List.length_take_le _ _, fun s hs => h s (List.mem_of_mem_take hs)⟩
      have pa : ∀ {C : Plan} {r : List Addr} {q : Addr} {H9 : Hp}, H9 q = some (.tup ((r.take 6).map V.ref)) → TP H9 r (C.map stpV) → PlanAt H9 q (C.take 6) := fun h t => ⟨_, h, by rw [List.map_take]; exact t.take 6⟩
      have hq0' : upd (upd H' m0 (.lst (cutV (r0.map V.ref) none (some 6)))) q0 (.tup (cutV (r0.map V.ref) none (some 6))) q0 = some (.tup ((r0.take 6).map V.ref)) := by rw [upd_same, c0]
      have hq1' : upd (upd (upd (upd H' m0 (.lst (cutV (r0.map V.ref) none (some 6)))) q0 (.tup (cutV (r0.map V.ref) none (some 6)))) m1 (.lst (cutV (r1.map V.ref) none (some 6)))) q1 (.tup (cutV (r1.map V.ref) none (some 6))) q1 = some (.tup ((r1.take 6).map V.ref)) := by rw [upd_same, c1]
      have e3 := Same.new (o := .tup [.ref q0, .ref q1]) hd
      exact q d q0 q1 (A.take 6) (B.take 6) _ mo9 ((⟨z.but, z.mill⟩ : Mo a H H').fresh hm (Same.free (e1.trans e2) hd)) upd_same (pa (e3 _ _ (e2 _ _ hq0')) (t0.same e12)) (ok okA) (pa (e3 _ _ hq1') (t1.same e12)) (ok okB)

end
end SH
end
section
namespace SH
open PySem PySem.Spec PyProof.Rows L2
open LamX (ExtN Tabs TabB)
section
variable {P : Program} {w : World} {G : Gl5} {mg : Str → Option Value} {base : Heap}

theorem y_forTE {K : PySem.W.Frag} {tl : TE} {g : TG} {t1 t2 : TS} {D : Ends} {σ : L2.St} {H : Hp} (h : tl σ H fun x H1 => ∃ a, x = .ref a ∧ (∃ xs, SqT K H1 a xs) ∧ ∃ W : Nat → Nat → L2.St → Hp → Prop, (∃ m, W 0 m σ H1) ∧ ∀ i m σ H, W i m σ H →
  ((Itt K a).stop i H ∧ t2 D σ H) ∨ ((Itt K a).go i H ∧ ∃ N : L2.St → Hp → Prop, (∀ σ' H', N σ' H' → ∃ m', m' < m ∧ W (i + 1) m' σ' H') ∧ ∀ x H', (Itt K a).yld i H x H' → g x σ H' fun σ2 H2 => t1 { D with nx := N, ct := N, bk := t2 D } σ2 H2)) : tSeq (tFor (iTup K tl) g t1) t2 D σ H := h
theorem cat_any {K : PySem.W.Frag} {a b : Addr} {xs ys : List V} {H : Hp} {Q : VK} (ha : SqT K H a xs) (hb : SqT K H b ys) (hl : xs.length + ys.length ≤ sizeLine) (q : ∀ p H', Same H H' → SqT K H' p (xs ++ ys) → Q (.ref p) H') : rCatA K (.ref a) (.ref b) H Q :=
  ⟨a, b, xs, ys, rfl, rfl, ha, hb, hl, fun e => q b H (Same.refl H) (by rw [e]; exact hb), fun _ e => q a H (Same.refl H) (by rw [e, List.append_nil]; exact ha), fun _ _ p hp => q p _ (Same.new hp) (SqT.of upd_same)⟩
theorem But.tupM {a : Addr} {H H' : Hp} (b : But a H H') (hm : MillAt H a) {p : Addr} {xs : List V} (h : H p = some (.tup xs)) : H' p = some (.tup xs) := b _ _ h fun z => by
  obtain ⟨_, _, _, e⟩ := hm
  rw [z, e] at h
  cases h
theorem SqT.butM {K : PySem.W.Frag} {a p : Addr} {xs : List V} {H H' : Hp} (b : But a H H') (hm : MillAt H a) (h : SqT K H p xs) : SqT K H' p xs := by
  obtain ⟨x, y, z, e⟩ := hm
  rcases h with (h | ⟨o, h⟩) | h
  · exact .inl (.inl (b _ _ h fun q => by rw [q, e] at h; cases h))
  · exact .inl (.inr ⟨o, b _ _ h fun q => by rw [q, e] at h; cases h⟩)
  · exact .inr h
theorem TP.butM {a : Addr} {H H' : Hp} (b : But a H H') (hm : MillAt H a) {rs : List Addr} {xs : List (List V)} (h : TP H rs xs) : TP H' rs xs := h.mono fun c y q => b.tupM hm q
theorem PlanAt.butM {a : Addr} {H H' : Hp} (b : But a H H') (hm : MillAt H a) {p : Addr} {A : Plan} (h : PlanAt H p A) : PlanAt H' p A := TT2.ext h fun c ys z => b.tupM hm z
theorem pz_take {L : Plan} {i : Nat} {s : Stp} (h : L[i]? = some s) : (L.take (i + 1)).filterMap pz = (L.take i).filterMap pz ++ (match pz s with | none => [] | some q => [q]) := by
  rw [List.take_add_one, h, Option.toList_some, List.filterMap_append]
  congr 1
  cases s <;> rfl
/-- all but two lists stay -/
structure Bt (a F : Addr) (H H' : Hp) : Prop where
  k : ∀ b o, H b = some o → b ≠ a → b ≠ F → H' b = some o
  ma : MillAt H a
  mf : ∃ ys, H F = some (.lst ys)
  ma' : MillAt H' a
theorem Bt.tup {a F : Addr} {H H' : Hp} (z : Bt a F H H') {p : Addr} {xs : List V} (h : H p = some (.tup xs)) : H' p = some (.tup xs) := by
  obtain ⟨_, _, _, e⟩ := z.ma
  obtain ⟨_, e2⟩ := z.mf
  exact z.k _ _ h (fun q => by rw [q, e] at h; cases h) (fun q => by rw [q, e2] at h; cases h)
theorem Bt.sqT {K : PySem.W.Frag} {a F p : Addr} {xs : List V} {H H' : Hp} (z : Bt a F H H') (h : SqT K H p xs) : SqT K H' p xs := by
  obtain ⟨_, _, _, e⟩ := z.ma
  obtain ⟨_, e2⟩ := z.mf
  rcases h with (h | ⟨o, h⟩) | h
  · exact .inl (.inl (z.tup h))
  · exact .inl (.inr ⟨o, z.k _ _ h (fun q => by rw [q, e] at h; cases h) (fun q => by rw [q, e2] at h; cases h)⟩)
  · exact .inr h
theorem Bt.mo {a F : Addr} {H H1 H2 : Hp} (z : Bt a F H H1) (m : Mo a H1 H2) : Bt a F H H2 := ⟨fun b o h n1 n2 => m.but _ _ (z.k b o h n1 n2) n1, z.ma, z.mf, m.mill⟩
theorem Bt.same {a F : Addr} {H H1 H2 : Hp} (z : Bt a F H H1) (e : Same H1 H2) : Bt a F H H2 := ⟨fun b o h n1 n2 => e _ _ (z.k b o h n1 n2), z.ma, z.mf, z.ma'.same e⟩
theorem Bt.put {a F : Addr} {H H1 : Hp} (z : Bt a F H H1) (n : F ≠ a) (o : HO) : Bt a F H (upd H1 F o) := ⟨fun b u h n1 n2 => by rw [upd_ne n2]; exact z.k b u h n1 n2, z.ma, z.mf, let ⟨x, y, w, e⟩ := z.ma'; ⟨x, y, w, by rw [upd_ne n.symm]; exact e⟩⟩
theorem Bt.refl {a F : Addr} {H : Hp} {ys : List V} (hm : MillAt H a) (hF : H F = some (.lst ys)) : Bt a F H H := ⟨fun _ _ h _ _ => h, hm, ⟨ys, hF⟩, hm⟩
theorem Bt.out {a F : Addr} {H H1 H2 : Hp} (z : Bt a F H1 H2) (e : Same H H1) (hF : H F = none) : Mo a H H2 := ⟨fun b o h n => z.k b o (e _ _ h) n (ne_of_none h hF), z.ma'⟩
def sp_choice : Sp := fun vs H Q _ => ∃ a pl p q A B, vs = [.ref a, .ref pl] ∧ MillAt H a ∧ H pl = some (.lst [.ref p, .ref q]) ∧ pl ≠ a ∧ PlanAt H p A ∧ PlanOk A ∧ PlanAt H q B ∧ PlanOk B ∧
  ∀ d ts H', Mo a H H' → H' d = some (.tup (ts.map V.int)) → Ch (pauses A B) ts → Q (.ref d) H'
abbrev N_law_choice : List Str := ["_law_mill_here", "_law_plans_here", "_law_found", "_law_each"]
theorem sc_law_choice : FnScope N_law_choice ["_law_mill_here", "_law_plans_here"] (defScope s_law_choice) := C8.fnScope_by (by decide +kernel)
theorem ok_law_choice (T : Txt G mg) {f : Addr} {fd : FuncData} (F : FnP G.K "_law_choice" "_law_choice" s_law_choice f fd) (hm : mg "_law_choice" = some (.ref f)) (c_law_grain : C8.Cal P w G.K mg base 1 "_law_grain" (sp_grain) []) : C8.Cal P w G.K mg base 2 "_law_choice" (sp_choice) [] := by
  refine cal_mk F hm (F.bindsN fun _ _ _ _ _ _ us hl => match us, hl with | [_, _], _ => rfl) sc_law_choice (fun vs H Q E h => ?_) (fun cdv A outer s H vs Q E hr h => ?_)
  · obtain ⟨a, pl, p, q1, A, B, rfl, hm, hpl, nla, ⟨rs, hp, t1⟩, okA, ⟨rs2, hq, t2⟩, okB, q⟩ := h
    rfl
  · obtain ⟨a, pl, p, q1, A, B, rfl, hm, hpl, nla, ⟨rs, hp, t1⟩, okA, ⟨rs2, hq, t2⟩, okB, q⟩ := h
    refine ⟨_, (pss_cons (ps_set (i := 2) sc_law_choice.nd rfl (Or.inl rfl) (pe_lst pa_nil))
    (pss_cons (ps_for PassesOwn.never rfl (pi_tup (pe_op (r := rCatA G.K) op_catA (pe_ix ix_list (pv 1) pe_int (fun _ _ => rfl)) (pe_ix ix_list (pv 1) pe_int (fun _ _ => rfl)))) (pg_name (i := 3) sc_law_choice.nd rfl (Or.inl rfl)) (pss_one (ps_if (pt_cmpR op_eq (pe_ix ix_tup (pv 3) pe_int (fun _ _ => rfl)) pe_str (nomark _)) (pss_one (ps_expr (pe_bm PySem.F.plainAttrs_list PySem.F.slot_list_append PySem.F.type_list_append mt_append (pv 2) (pa_cons (pe_op op_add (pe_ix ix_tup (pv 3) pe_int (fun _ _ => rfl)) (C8.pe_c c_law_grain hr (by decide) (by rfl) (pa_cons (pv 0) (pa_cons (pe_op op_add (pe_op op_sub (pe_ix ix_tup (pv 3) pe_int (fun _ _ => rfl)) (pe_ix ix_tup (pv 3) pe_int (fun _ _ => rfl))) pe_int) pa_nil)))) pa_nil)))) pss_nil)))
    (pss_one (ps_ret (pe_callTy (r := rTupK G.K) call_tupK (by rfl) T.z_tuple (by decide +kernel) (pa_cons (pv 2) pa_nil)))))), ?_⟩
    refine y_asgE (w_lst (w_nil ⟨by show 0 ≤ sizeLine; decide, fun F hF => ?_⟩))
    have nFa := hm.ne hF
    have e1 : Same H (upd H F (.lst [])) := Same.new hF
    show tSeq _ _ _ [some (V.ref a), some (V.ref pl), some (V.ref F), none] (upd H F (.lst []))
    have hx : TP H (rs ++ rs2) ((A ++ B).map stpV) := by rw [List.map_append]; exact t1.app t2
    have hlen : (rs ++ rs2).length = (A ++ B).length := by rw [hx.len, List.length_map]
    have hL : (A ++ B).length ≤ 12 := by
      rw [List.length_append]
      have := okA.len
      have := okB.len
      omega
    refine y_forTE (w_op (v_sqL (v_var rfl) v_c (SqL.of (e1 _ _ hpl)) rfl _ (v_sqL (v_var rfl) v_c (SqL.of (e1 _ _ hpl)) rfl _ (cat_any (SqT.of (e1 _ _ hp)) (SqT.of (e1 _ _ hq)) (by rw [List.length_map, List.length_map, ← List.length_append, hlen]; exact Nat.le_trans hL (by decide)) fun m H2 e2 sq => ⟨m, rfl, ⟨_, sq⟩, ?_⟩))))
    rw [← List.map_append] at sq
    have hF2 := e2 _ _ (upd_same (H := H) (a := F) (o := .lst []))
    have mo2 : Mo a H H2 := Mo.same hm (e1.trans e2)
    refine for_itS (walk_tup (xs := (rs ++ rs2).map V.ref)) (fun i σ' H' => (∃ v3, σ' = [some (V.ref a), some (V.ref pl), some (V.ref F), v3]) ∧ Bt a F H2 H' ∧ ∃ ts : List Int, H' F = some (.lst (ts.map V.int)) ∧ Ch (((A ++ B).take i).filterMap pz) ts) ⟨⟨_, rfl⟩, Bt.refl mo2.mill hF2, [], hF2, True.intro⟩
      (fun i σ' H' _ z => z.2.1.sqT sq) ?_ ?_
    · rintro i xv σ' H' H3 hi ⟨⟨v3, rfl⟩, mo3, ts, hts, hch⟩ ⟨rfl, hxi⟩
      obtain ⟨b, hb, rfl⟩ := refs_at hxi
      obtain ⟨y, hy, hby⟩ := hx.at2 hb
      rw [List.getElem?_map] at hy
      obtain ⟨s1, hs1, rfl⟩ := Option.map_eq_some_iff.mp hy
      have mo4 := mo3.out (e1.trans e2) hF
      have hb' := mo4.but.tupM hm hby
      have hsucc := pz_take hs1
      have hat : ∀ {H5 : Hp} {k : Int} {v : V}, H5 b = some (.tup (stpV s1)) → atI (stpV s1) k = some v → Val (tOp (rIxT G.K) (tVar 3) (tC (.int k))) [some (V.ref a), some (V.ref pl), some (V.ref F), some (V.ref b)] H5 v := fun h e => v_sqT (v_var rfl) v_c (SqT.of h) e
      show tIfS _ _ _ _ [some (V.ref a), some (V.ref pl), some (V.ref F), some (V.ref b)] H3
      have tl : ts.length < 100 := by
        have h1 := hch.len
        have h2 := List.length_filterMap_le pz ((A ++ B).take i)
        have h3 := List.length_take_le' i (A ++ B)
        omega
      cases s1 with
      | w am => exact x_if (b := false) (a_T (v_is (v_eq (hat hb' rfl) v_c rfl) rfl)) (fun z => by cases z) fun _ => ⟨⟨_, rfl⟩, mo3, ts, hts, by rw [hsucc]; simpa [pz] using hch⟩
      | r am => exact x_if (b := false) (a_T (v_is (v_eq (hat hb' rfl) v_c rfl) rfl)) (fun z => by cases z) fun _ => ⟨⟨_, rfl⟩, mo3, ts, hts, by rw [hsucc]; simpa [pz] using hch⟩
      | p lo hi =>
        have hsok : StpOk (.p lo hi) := by
          rcases List.mem_append.mp (List.mem_of_getElem? hs1) with z | z
          · exact okA.each _ z
          · exact okB.each _ z
        obtain ⟨k1, k2, k3⟩ := hsok
        refine x_if (b := true) (a_T (v_is (v_eq (hat hb' rfl) v_c rfl) rfl)) (fun _ => ?_) fun z => by cases z
        refine w_app (v_var rfl _ ⟨ap_ty hts, w_opV (hat hb' rfl) (g_call (v_var rfl) (v_I (v_I (hat hb' rfl) (hat hb' rfl)) v_c) mo4.mill (by omega) (by omega) fun g H4 g0 g1 mo5 => ⟨lo, g, rfl, rfl, ?_⟩)⟩)
        have hts4 := mo5.but _ _ hts nFa
        refine ap_do hts4 (by rw [List.length_map]; exact Nat.lt_trans tl (by decide)) ⟨⟨_, rfl⟩, (mo3.mo mo5).put nFa _, ts ++ [lo + g], by rw [upd_same, List.map_append]; rfl, ?_⟩
        · rw [hsucc]
          exact hch.snoc (by show lo ≤ lo + g; omega) (by show lo + g ≤ hi; omega)
    · rintro σ' H' ⟨⟨v3, rfl⟩, mo3, ts, hts, hch⟩
      rw [List.length_map, hlen, List.take_length] at hch
      exact x_retE (x_cb (v_var rfl _ ⟨F, _, rfl, .inl ⟨SqL.of hts, fun l hl => q l ts _ ((mo3.out (e1.trans e2) hF).then (Same.new hl)) upd_same hch⟩⟩))

end
end SH
end
section
namespace SH
open PySem PySem.Spec PyProof.Rows L2
open LamX (ExtN Tabs TabB)
section
variable {P : Program} {w : World} {G : Gl5} {mg : Str → Option Value} {base : Heap}

def Wd9 (A : Plan) : Prop := ∀ q ∈ A.filterMap pz, q.2 - q.1 ≤ 9
theorem wd9_snoc {A : Plan} {s : Stp} (h : Wd9 A) (hs : ∀ q, pz s = some q → q.2 - q.1 ≤ 9) : Wd9 (A ++ [s]) := fun q hq => by
  rw [List.filterMap_append] at hq
  rcases List.mem_append.mp hq with z | z
  · exact h q z
  · obtain ⟨t, ht, e⟩ := List.mem_filterMap.mp z
    rw [List.mem_singleton.mp ht] at e
    exact hs q e
theorem pzN_snoc (A : Plan) (s : Stp) : pzN (A ++ [s]) = pzN A + (if (pz s).isSome = true then 1 else 0) := by
  unfold pzN
  rw [List.filterMap_append, List.length_append]
  cases s <;> rfl
/-- plans, side by side with their addresses -/
def PLs (H : Hp) : List Addr → List Plan → Prop
  | [], [] => True
  | p :: ps, A :: As => PlanAt H p A ∧ PLs H ps As
  | _, _ => False
theorem PLs.mono {H H' : Hp} (k : ∀ b ys, H b = some (.tup ys) → H' b = some (.tup ys)) : ∀ {ps : List Addr} {As : List Plan}, PLs H ps As → PLs H' ps As
  | [], [], _ => True.intro
  | _ :: _, _ :: _, h => ⟨TT2.ext h.1 k, PLs.mono k h.2⟩
  | [], _ :: _, h => h.elim
  | _ :: _, [], h => h.elim
theorem PLs.snoc {H : Hp} {p : Addr} {A : Plan} (h : PlanAt H p A) : ∀ {ps : List Addr} {As : List Plan}, PLs H ps As → PLs H (ps ++ [p]) (As ++ [A])
  | [], [], _ => ⟨h, True.intro⟩
  | _ :: _, _ :: _, k => ⟨k.1, PLs.snoc h k.2⟩
  | [], _ :: _, k => k.elim
  | _ :: _, [], k => k.elim
theorem PLs.len {H : Hp} : ∀ {ps : List Addr} {As : List Plan}, PLs H ps As → ps.length = As.length
  | [], [], _ => rfl
  | _ :: _, _ :: _, k => congrArg Nat.succ (PLs.len k.2)
  | [], _ :: _, k => k.elim
  | _ :: _, [], k => k.elim
def sumN (As : List Plan) : Nat := (As.map pzN).sum
structure GoodW (As : List Plan) : Prop where
  b : ∀ A ∈ As, PlanB 17 A
  w : ∀ A ∈ As, Wd9 A
def sp_wide : Sp := fun vs H Q _ => ∃ a pt p q A B, vs = [.ref a, .ref pt] ∧ MillAt H a ∧ H pt = some (.tup [.ref p, .ref q]) ∧ PlanAt H p A ∧ PlanB 8 A ∧ PlanAt H q B ∧ PlanB 8 B ∧
  ∀ d p' q' A' B' H', Mo a H H' → H d = none → H' d = some (.lst [.ref p', .ref q']) → PlanAt H' p' A' → PlanB 17 A' → PlanAt H' q' B' → PlanB 17 B' → Wd9 A' → Wd9 B' → pzN A' + pzN B' ≤ 2 → Q (.ref d) H'
theorem Bt.tup2 {a F : Addr} {H H' : Hp} (z : Bt a F H H') : ∀ b ys, H b = some (.tup ys) → H' b = some (.tup ys) := fun _ _ h => z.tup h
theorem Bt.lst {a F : Addr} {H H' : Hp} (z : Bt a F H H') {p : Addr} {xs : List V} (h : H p = some (.lst xs)) (n1 : p ≠ a) (n2 : p ≠ F) : H' p = some (.lst xs) := z.k _ _ h n1 n2
abbrev N_law_wide : List Str := ["_law_mill_here", "_law_plans_here", "_law_found", "_law_left", "_law_plan", "_law_steps", "_law_each"]
theorem sc_law_wide : FnScope N_law_wide ["_law_mill_here", "_law_plans_here"] (defScope s_law_wide) := C8.fnScope_by (by decide +kernel)
theorem ok_law_wide (T : Txt G mg) {f : Addr} {fd : FuncData} (F : FnP G.K "_law_wide" "_law_wide" s_law_wide f fd) (hm : mg "_law_wide" = some (.ref f)) (c_law_grain : C8.Cal P w G.K mg base 1 "_law_grain" (sp_grain) []) : C8.Cal P w G.K mg base 2 "_law_wide" (sp_wide) [] := by
  refine cal_mk F hm (F.bindsN fun _ _ _ _ _ _ us hl => match us, hl with | [_, _], _ => rfl) sc_law_wide (fun vs H Q E h => ?_) (fun cdv A outer s H vs Q E hr h => ?_)
  · obtain ⟨a, pt, p, q1, A, B, rfl, hm, hpt, hA, bA, hB, bB, q⟩ := h
    rfl
  · obtain ⟨a, pt, p, q1, A, B, rfl, hm, hpt, hA, bA, hB, bB, q⟩ := h
    refine ⟨_, (pss_cons (ps_par (i := 2) (j := 3) rfl sc_law_wide.nd rfl rfl (by decide) rfl rfl (pa_cons (pe_lst pa_nil) (pa_cons pe_int pa_nil)) (by rfl))
    (pss_cons (ps_for PassesOwn.never rfl (pi_tup (pv 1)) (pg_name (i := 4) sc_law_wide.nd rfl (Or.inl rfl)) (pss_cons (ps_set (i := 5) sc_law_wide.nd rfl (Or.inl rfl) (pe_lst pa_nil))
    (pss_cons (ps_for PassesOwn.never rfl (pi_tup (pv 4)) (pg_name (i := 6) sc_law_wide.nd rfl (Or.inl rfl)) (pss_one (ps_if (pt_cmpR op_ne (pe_ix ix_tup (pv 6) pe_int (fun _ _ => rfl)) pe_str (nomark _)) (pss_one (ps_expr (pe_bm PySem.F.plainAttrs_list PySem.F.slot_list_append PySem.F.type_list_append mt_append (pv 5) (pa_cons (pv 6) pa_nil)))) (pss_one (ps_if (pt_cmpR op_gt (pv 3) pe_int (nomark _)) (pss_cons (ps_set (i := 3) sc_law_wide.nd rfl (Or.inl rfl) (pe_op op_sub (pv 3) pe_int))
    (pss_one (ps_expr (pe_bm PySem.F.plainAttrs_list PySem.F.slot_list_append PySem.F.type_list_append mt_append (pv 5) (pa_cons (pe_tup (pa_cons pe_str (pa_cons (pe_ix ix_tup (pv 6) pe_int (fun _ _ => rfl)) (pa_cons (pe_op op_add (pe_ix ix_tup (pv 6) pe_int (fun _ _ => rfl)) (C8.pe_c c_law_grain hr (by decide) (by rfl) (pa_cons (pv 0) (pa_cons pe_int pa_nil)))) pa_nil)))) pa_nil))))) pss_nil)))))
    (pss_one (ps_expr (pe_bm PySem.F.plainAttrs_list PySem.F.slot_list_append PySem.F.type_list_append mt_append (pv 2) (pa_cons (pe_callTy (r := rTupK G.K) call_tupK (by rfl) T.z_tuple (by decide +kernel) (pa_cons (pv 5) pa_nil)) pa_nil)))))))
    (pss_one (ps_ret (pv 2))))), ?_⟩
    have y_parE : ∀ {i j : Nat} {ar : TA} {t2 : TS} {D : Ends} {σ : L2.St} {H : Hp}, (ar σ H fun vs H1 => ∃ v w, vs = [v, w] ∧ t2 D ((σ.set i (some v)).set j (some w)) H1) → tSeq (tPar i j ar) t2 D σ H := fun h => h
    refine y_parE (w_consE (w_lst (w_nil ⟨by show 0 ≤ sizeLine; decide, fun F hF => w_cons v_c (w_nil ⟨_, _, rfl, ?_⟩)⟩)))
    have nFa := hm.ne hF
    have e1 : Same H (upd H F (.lst [])) := Same.new hF
    have hF1 : upd H F (.lst []) F = some (.lst []) := upd_same
    have hm1 := hm.same e1
    generalize upd H F (.lst []) = H1 at e1 hF1 hm1
    show tSeq _ _ _ [some (V.ref a), some (V.ref pt), some (V.ref F), some (V.int 2), none, none, none] H1
    refine y_forT (xs := [V.ref p, V.ref q1]) (v_var rfl) (SqT.of (e1 _ _ hpt)) (fun i σ' H' => (∃ (lf : Int) (v4 v5 v6 : Option V), σ' = [some (V.ref a), some (V.ref pt), some (V.ref F), some (V.int lf), v4, v5, v6] ∧ Bt a F H1 H' ∧ ∃ (ps : List Addr) (As : List Plan), H' F = some (.lst (ps.map V.ref)) ∧ PLs H' ps As ∧ As.length = i ∧ GoodW As ∧ (sumN As : Int) + lf = 2 ∧ 0 ≤ lf))
      ⟨2, none, none, none, rfl, Bt.refl hm1 hF1, [], [], hF1, True.intro, rfl, ⟨(fun _ h => by cases h), (fun _ h => by cases h)⟩, rfl, by decide⟩ (fun i σ' H' _ ⟨_, _, _, _, _, z, _⟩ => z.sqT (SqT.of (e1 _ _ hpt))) ?_ ?_
    · rintro i xv σ' H' hxi ⟨lf, v4, v5, v6, rfl, bt, ps, As, hps, hpl, hAl, gA, hsum, hlf⟩
      obtain ⟨p0, C0, rfl, hC, bC⟩ : ∃ (p0 : Addr) (C0 : Plan), xv = .ref p0 ∧ PlanAt H p0 C0 ∧ PlanB 8 C0 := by
        match i, hxi with
        | 0, h => exact ⟨p, A, (Option.some.inj h).symm, hA, bA⟩
        | 1, h => exact ⟨q1, B, (Option.some.inj h).symm, hB, bB⟩
        | n + 2, h => simp at h
      have hi2 : i < 2 := (List.getElem?_eq_some_iff.mp hxi).1
      obtain ⟨rs, hp0, hrs⟩ := hC
      have hrlen : rs.length = C0.length := by rw [hrs.len, List.length_map]
      show tSeq _ _ _ [some (V.ref a), some (V.ref pt), some (V.ref F), some (V.int lf), some (V.ref p0), v5, v6] H'
      refine y_asgE (w_lst (w_nil ⟨by show 0 ≤ sizeLine; decide, fun S hS => ?_⟩))
      have nSF : S ≠ F := (ne_of_none hps hS).symm
      have nSa := bt.ma'.ne hS
      have e2 : Same H' (upd H' S (.lst [])) := Same.new hS
      have hS2 : upd H' S (.lst []) S = some (.lst []) := upd_same
      have hm2 := bt.ma'.same e2
      show tSeq _ _ _ [some (V.ref a), some (V.ref pt), some (V.ref F), some (V.int lf), some (V.ref p0), some (V.ref S), v6] (upd H' S (.lst []))
      generalize upd H' S (.lst []) = H2 at e2 hS2 hm2
      have hp2 := e2 _ _ (bt.tup (e1 _ _ hp0))
      refine y_forT (xs := rs.map V.ref) (v_var rfl) (SqT.of hp2) (fun j σ' H'' => (∃ (lf' : Int) (v6 : Option V), σ' = [some (V.ref a), some (V.ref pt), some (V.ref F), some (V.int lf'), some (V.ref p0), some (V.ref S), v6] ∧ Bt a S H2 H'' ∧ ∃ (rs' : List Addr) (C : Plan), H'' S = some (.lst (rs'.map V.ref)) ∧ TP H'' rs' (C.map stpV) ∧ C.length ≤ j ∧ (∀ s ∈ C, StpB 17 s) ∧ Wd9 C ∧ (pzN C : Int) + lf' = lf ∧ 0 ≤ lf'))
        ⟨lf, v6, rfl, Bt.refl hm2 hS2, [], [], hS2, True.intro, Nat.le_refl _, (fun _ h => by cases h), (fun _ h => by cases h), by show ((0 : Nat) : Int) + lf = lf; omega, hlf⟩ (fun j σ' H'' _ ⟨_, _, _, z, _⟩ => z.sqT (SqT.of hp2)) ?_ ?_
      · rintro j xv σ' H'' hxj ⟨lf', v6', rfl, bt2, rs', C, hrs', hTP, hCl, hC17, hW, hsum2, hlf'⟩
        obtain ⟨b, hb, rfl⟩ := refs_at hxj
        obtain ⟨y, hy, hby⟩ := hrs.at2 hb
        rw [List.getElem?_map] at hy
        obtain ⟨s1, hs1, rfl⟩ := Option.map_eq_some_iff.mp hy
        have hj6 : j < 6 := Nat.lt_of_lt_of_le (List.getElem?_eq_some_iff.mp hs1).1 bC.len
        have hb0 : H'' b = some (.tup (stpV s1)) := bt2.tup (e2 _ _ (bt.tup (e1 _ _ hby)))
        have hat : ∀ {H5 : Hp} {k : Int} {v : V} {w3 : Option V}, H5 b = some (.tup (stpV s1)) → atI (stpV s1) k = some v → Val (tOp (rIxT G.K) (tVar 6) (tC (.int k))) [some (V.ref a), some (V.ref pt), some (V.ref F), w3, some (V.ref p0), some (V.ref S), some (V.ref b)] H5 v := fun h e => v_sqT (v_var rfl) v_c (SqT.of h) e
        have sB := bC.each s1 (List.mem_of_getElem? hs1)
        have rl : (rs'.map V.ref).length < sizeLine := by
          rw [List.length_map, hTP.len, List.length_map]
          exact lt_line hCl (by omega)
        show tIfS _ _ _ _ [some (V.ref a), some (V.ref pt), some (V.ref F), some (V.int lf'), some (V.ref p0), some (V.ref S), some (V.ref b)] H''
        have keep : ∀ {s : Stp}, stpV s1 = stpV s → StpB 17 s → pz s = none → (∃ (lf'' : Int) (v6 : Option V), [some (V.ref a), some (V.ref pt), some (V.ref F), some (V.int lf'), some (V.ref p0), some (V.ref S), some (V.ref b)] = [some (V.ref a), some (V.ref pt), some (V.ref F), some (V.int lf''), some (V.ref p0), some (V.ref S), v6] ∧ Bt a S H2 (upd H'' S (.lst (rs'.map V.ref ++ [.ref b]))) ∧ ∃ (rs2 : List Addr) (C2 : Plan), upd H'' S (.lst (rs'.map V.ref ++ [.ref b])) S = some (.lst (rs2.map V.ref)) ∧ TP (upd H'' S (.lst (rs'.map V.ref ++ [.ref b]))) rs2 (C2.map stpV) ∧ C2.length ≤ j + 1 ∧ (∀ s ∈ C2, StpB 17 s) ∧ Wd9 C2 ∧ (pzN C2 : Int) + lf'' = lf ∧ 0 ≤ lf'') := fun {s} es bs ns => by
          refine ⟨lf', _, rfl, bt2.put nSa _, rs' ++ [b], C ++ [s], by rw [upd_same, List.map_append]; rfl, ?_, by rw [List.length_append]; exact Nat.succ_le_succ hCl, fun t ht => ?_, wd9_snoc hW (fun q hq => by rw [ns] at hq; cases hq), by rw [pzN_snoc, ns]; exact hsum2, hlf'⟩
          · rw [List.map_append]
            refine (TP.snoc ?_ hTP).mono (But.upd.tup (noTup_lst hrs'))
            rw [← es]
            exact hb0
          · rcases List.mem_append.mp ht with z | z
            · exact hC17 t z
            · rw [List.mem_singleton.mp z]
              exact bs
        cases s1 with
        | w am => exact x_if (b := true) (a_T (v_is (v_ne (hat hb0 rfl) v_c rfl) rfl)) (fun _ => w_app (v_var rfl _ ⟨ap_ty hrs', v_var rfl _ (ap_do hrs' rl (keep rfl sB rfl))⟩)) fun z => by cases z
        | r am => exact x_if (b := true) (a_T (v_is (v_ne (hat hb0 rfl) v_c rfl) rfl)) (fun _ => w_app (v_var rfl _ ⟨ap_ty hrs', v_var rfl _ (ap_do hrs' rl (keep rfl sB rfl))⟩)) fun z => by cases z
        | p lo hi =>
          refine x_if (b := false) (a_T (v_is (v_ne (hat hb0 rfl) v_c rfl) rfl)) (fun z => by cases z) fun _ => ?_
          refine x_if (b := decide (0 < lf')) (a_T (v_gt (v_var rfl) v_c)) (fun hb1 => ?_) fun _ => ⟨lf', _, rfl, bt2, rs', C, hrs', hTP, Nat.le_succ_of_le hCl, hC17, hW, hsum2, hlf'⟩
          have hpos := of_decide_eq_true hb1
          refine y_set (v_I (v_var rfl) v_c) ?_
          show tDrop _ _ [some (V.ref a), some (V.ref pt), some (V.ref F), some (V.int (lf' - 1)), some (V.ref p0), some (V.ref S), some (V.ref b)] H''
          refine w_app (v_var rfl _ ⟨ap_ty hrs', w_tup (w_cons v_c (w_cons (hat hb0 rfl) (w_consE (w_opV (hat hb0 rfl) (g_call (v_var rfl) v_c bt2.ma' (by decide) (by decide) fun g H5 g0 g1 mo5 => ⟨lo, g, rfl, rfl, w_nil ⟨by show 3 ≤ sizeLine; decide, fun m hm' => ?_⟩⟩)))))⟩)
          have hS5 := mo5.but _ _ hrs' nSa
          have e6 := Same.new (o := .tup [.str "pause", .int lo, .int (lo + g)]) hm'
          obtain ⟨k1, k2, k3⟩ := sB
          refine ap_do (e6 _ _ hS5) rl ⟨lf' - 1, _, rfl, ((bt2.mo mo5).same e6).put nSa _, rs' ++ [m], C ++ [.p lo (lo + g)], by rw [upd_same, List.map_append]; rfl, ?_, by rw [List.length_append]; exact Nat.succ_le_succ hCl, fun t ht => ?_, wd9_snoc hW (fun q hq => by cases hq; show lo + g - lo ≤ 9; omega), ?_, by omega⟩
          · rw [List.map_append]
            have nSm : S ≠ m := ne_of_none hS5 hm'
            refine (TP.snoc ?_ ((hTP.butM mo5.but bt2.ma').same e6)).mono (But.upd.tup (noTup_lst (e6 _ _ hS5)))
            exact upd_same
          · rcases List.mem_append.mp ht with z | z
            · exact hC17 t z
            · rw [List.mem_singleton.mp z]
              exact ⟨k1, by omega, by omega⟩
          · rw [pzN_snoc]
            show ((pzN C + 1 : Nat) : Int) + (lf' - 1) = lf
            omega
      · rintro σ' H'' ⟨lf', v6', rfl, bt2, rs', C, hrs', hTP, hCl, hC17, hW, hsum2, hlf'⟩
        rw [List.length_map, hrlen] at hCl
        have hF'' := bt2.lst (e2 _ _ hps) nFa nSF.symm
        refine w_app (v_var rfl _ ⟨ap_ty hF'', x_cb (v_var rfl _ ⟨S, _, rfl, .inl ⟨SqL.of hrs', fun l hl => ?_⟩⟩)⟩)
        have e7 := Same.new (o := .tup (rs'.map V.ref)) hl
        have btO : Bt a F H1 H'' := ⟨fun b o h n1 n2 => bt2.k _ _ (e2 _ _ (bt.k _ _ h n1 n2)) n1 (ne_of_none (bt.k _ _ h n1 n2) hS), bt.ma, bt.mf, bt2.ma'⟩
        refine ap_do (e7 _ _ hF'') ?_ ⟨lf', _, _, _, rfl, (btO.same e7).put nFa _, ps ++ [l], As ++ [C], by rw [upd_same, List.map_append]; rfl, ?_, ?_, ⟨fun D hD => ?_, fun D hD => ?_⟩, ?_, hlf'⟩
        · rw [List.length_map, hpl.len, hAl]
          exact Nat.lt_of_lt_of_le hi2 (by decide)
        · refine (PLs.snoc (⟨rs', upd_same, hTP.same e7⟩ : PlanAt _ l C) (hpl.mono fun b ys z => e7 _ _ (bt2.tup (e2 _ _ z)))).mono (But.upd.tup (noTup_lst (e7 _ _ hF'')))
        · rw [List.length_append, hAl]
          rfl
        · rcases List.mem_append.mp hD with z | z
          · exact gA.b D z
          · rw [List.mem_singleton.mp z]
            exact ⟨Nat.le_trans hCl bC.len, hC17⟩
        · rcases List.mem_append.mp hD with z | z
          · exact gA.w D z
          · rw [List.mem_singleton.mp z]
            exact hW
        · have : sumN (As ++ [C]) = sumN As + pzN C := by simp [sumN]
          rw [this]
          omega
    · rintro σ' H' ⟨lf, v4, v5, v6, rfl, bt, ps, As, hps, hpl, hAl, gA, hsum, hlf⟩
      have hpsl : ps.length = 2 := by rw [hpl.len, hAl]; rfl
      match ps, As, hpsl, hAl, hps, hpl, gA, hsum with
      | [p', q'], [A', B'], _, _, hps, hpl, gA, hsum =>
        refine x_ret (v_var rfl) (q F p' q' A' B' H' (bt.out e1 hF) hF hps hpl.1 (gA.b A' (by simp)) hpl.2.1 (gA.b B' (by simp)) (gA.w A' (by simp)) (gA.w B' (by simp)) ?_)
        have : sumN [A', B'] = pzN A' + pzN B' := by simp [sumN]
        rw [this] at hsum
        omega

def sp_inside : Sp := fun vs H Q _ => ∃ p a b l, vs = [.ref p, .int l] ∧ H p = some (.tup [ov a, ov b]) ∧ ∀ H', Same H H' → Q (.bl (okE l a && okE l b)) H'
abbrev N_law_inside : List Str := ["_law_ends_here", "_law_bound", "_law_end"]
theorem sc_law_inside : FnScope N_law_inside ["_law_ends_here", "_law_bound"] (defScope s_law_inside) := C8.fnScope_by (by decide +kernel)
theorem ok_law_inside (T : Txt G mg) {f : Addr} {fd : FuncData} (F : FnP G.K "_law_inside" "_law_inside" s_law_inside f fd) (hm : mg "_law_inside" = some (.ref f)) : C8.Cal P w G.K mg base 1 "_law_inside" (sp_inside) [] := by
  refine cal_mk F hm (F.bindsN fun _ _ _ _ _ _ us hl => match us, hl with | [_, _], _ => rfl) sc_law_inside (fun vs H Q E h => ?_) (fun cdv A outer s H vs Q E hr h => ?_)
  · obtain ⟨p, a, b, l, rfl, hp, q⟩ := h
    rfl
  · obtain ⟨p, a, b, l, rfl, hp, q⟩ := h
    refine ⟨_, (pss_one (ps_ret (pe_callB (r := rAll G.K) (cr_all rfl) (by rfl) T.z_all (by decide +kernel) (pa_cons (pe_lc (own := [("_law_end", 2)]) (g := gName 2) (tt := tYes) rfl sc_law_inside.nd (pi_tup (pv 0)) (blkOk_by (own := [("_law_end", 2)]) (N := N_law_inside) (sc := defScope s_law_inside) (by decide +kernel)) (fun _ _ _ _ _ => (pg_name (i := 2) sc_law_inside.nd rfl (Or.inl rfl))) (fun _ _ _ _ _ => pts_nil) (fun _ _ _ _ _ => ((pe_and (pe_cmpR op_notN (pv 2) pe_non (nomark _)) (pe_one (pe_cmpR op_le (pv 2) (pv 1) (nomark _))))))) pa_nil)))), ?_⟩
    refine x_retE (x_cb (x_lcPT (ys := [ov a, ov b]) (fun H' e => SqT.of (e _ _ hp)) (v_var rfl) (fun i => (([ov a, ov b].take i).filter fun _ => true).map (okV l)) rfl (fun i _ => Nat.lt_of_le_of_lt (acV_len (Nat.le_refl _)) (by show 2 < sizeLine; decide)) ?_ ?_))
    · intro i x H' hx e
      refine ⟨rfl, true, ans_yes, fun _ => ⟨okV l x, ?_, acV_succ hx⟩, fun z => by cases z⟩
      have hx2 : ∃ o, x = ov o := by
        match i, hx with
        | 0, hx => exact ⟨a, (Option.some.inj hx).symm⟩
        | 1, hx => exact ⟨b, (Option.some.inj hx).symm⟩
        | n + 2, hx => simp at hx
      obtain ⟨o, rfl⟩ := hx2
      rw [okV_ov]
      cases o with
      | none => exact v_is (v_andV (b := false) (c := true) (v_is (v_notN (x := .non) (v_var rfl)) rfl) fun z => by cases z) rfl
      | some t => exact v_is (v_andV (b := true) (v_is (v_notN (x := .int t) (v_var rfl)) rfl) fun _ => v_le (i := t) (v_var rfl) (v_var rfl)) rfl
    · intro D H' hD hl e
      refine ⟨D, [okE l a, okE l b], rfl, SqL.of ?_, ?_⟩
      · rw [hl]
        show some (HO.lst [okV l (ov a), okV l (ov b)]) = _
        rw [okV_ov, okV_ov]
        rfl
      · have := q H' e
        simpa using this

end
end SH
end
section
/-! Whether a course ends does not depend on the pauses: what the flow keeps, and the places at the end. -/
namespace SH

def infl (i : Bool) : List Pc → Int
  | [] => 0
  | p :: r => (if p.side = i then p.amount else 0) + infl i r
theorem infl_app (i : Bool) : ∀ (a b : List Pc), infl i (a ++ b) = infl i a + infl i b
  | [], b => by simp [infl]
  | p :: a, b => by
    show _ + infl i (a ++ b) = _ + infl i a + infl i b
    rw [infl_app i a b]
    omega
theorem infl_nn {i : Bool} : ∀ {l : List Pc}, (∀ p ∈ l, 0 ≤ p.amount) → 0 ≤ infl i l
  | [], _ => Int.le_refl _
  | p :: l, h => by
    have h1 := infl_nn (i := i) (l := l) fun q hq => h q (List.mem_cons_of_mem _ hq)
    have h2 := h p List.mem_cons_self
    show 0 ≤ (if p.side = i then p.amount else 0) + infl i l
    split <;> omega
theorem infl_split (i : Bool) (t : Int) : ∀ l : List Pc, infl i ((l.filter fun p => decide (p.tick ≤ t)) ++ (l.filter fun p => decide (t < p.tick))) = infl i l
  | [] => rfl
  | p :: l => by
    have ih := infl_split i t l
    rw [infl_app] at ih
    rw [infl_app, List.filter_cons, List.filter_cons]
    by_cases h : p.tick ≤ t
    · rw [if_pos (by simpa using h), if_neg (by simpa using h)]
      show (if p.side = i then p.amount else 0) + infl i _ + infl i _ = (if p.side = i then p.amount else 0) + infl i l
      omega
    · rw [if_neg (by simpa using h), if_pos (by simpa using h)]
      show infl i _ + ((if p.side = i then p.amount else 0) + infl i _) = (if p.side = i then p.amount else 0) + infl i l
      omega
structure FI (Wt Tk : Bool → Int) (fl : List Pc) (s : FS) : Prop where
  cons : ∀ i, (s.sd i).out + kept (s.sd i).stock = Wt i
  tk : ∀ i, (s.sd i).taken = Tk i
  arr : ∀ i, (s.sd (!i)).come + infl i fl = (s.sd i).out
  sm : ∀ i, (s.sd i).small ≤ (s.sd i).out
  kn : ∀ i, (s.sd i).known ≤ (s.sd (!i)).come
  ka : ∀ p ∈ fl, p.ans ≤ (s.sd p.side).come
  nn : ∀ p ∈ fl, 0 ≤ p.amount
  ack : ∀ i, (s.sd i).known = (s.sd (!i)).come ∨ (s.sd (!i)).first ≠ none ∨ ∃ p ∈ fl, p.side = (!i) ∧ p.ans = (s.sd (!i)).come
section
variable {L : Ln} {T : Int} {s : FS} {i : Bool} {a : Int} {Wt Tk : Bool → Int} {fl : List Pc}
theorem sd_send (j : Bool) : (send L i a s).sd j = if j = i then { (s.sd i) with stock := takeStock (s.sd i).stock a, out := (s.sd i).out + a, small := (if 0 < a ∧ a < L.size then (s.sd i).out + a else (s.sd i).small), full := 0, first := none } else s.sd j := by
  show (upS s.sd i _) j = _
  unfold upS
  rfl
theorem FI.send (g : GF T s) (h : FI Wt Tk fl s) (h0 : 0 ≤ a) (h1 : a ≤ kept (s.sd i).stock) : FI Wt Tk (fl ++ [⟨s.tick + L.way, i, a, (s.sd i).come⟩]) (send L i a s) := by
  have same : ∀ j, j ≠ i → (SH.send L i a s).sd j = s.sd j := fun j hj => by rw [sd_send, if_neg hj]
  have at_ := sd_send (L := L) (s := s) (i := i) (a := a) i
  rw [if_pos rfl] at at_
  have come : ∀ j, ((SH.send L i a s).sd j).come = (s.sd j).come := fun j => by
    by_cases hj : j = i
    · rw [hj, at_]
    · rw [same j hj]
  have known : ∀ j, ((SH.send L i a s).sd j).known = (s.sd j).known := fun j => by
    by_cases hj : j = i
    · rw [hj, at_]
    · rw [same j hj]
  have inf : ∀ j, infl j (fl ++ [⟨s.tick + L.way, i, a, (s.sd i).come⟩]) = infl j fl + (if i = j then a else 0) := fun j => by
    rw [infl_app]
    show _ + ((if i = j then a else 0) + 0) = _
    rw [Int.add_zero]
  refine ⟨fun j => ?_, fun j => ?_, fun j => ?_, fun j => ?_, fun j => ?_, fun p hp => ?_, fun p hp => ?_, fun j => ?_⟩
  · by_cases hj : j = i
    · subst hj
      rw [send_kept g h0 h1, at_]
      have := h.cons j
      show (s.sd j).out + a + _ = _
      omega
    · rw [same j hj]
      exact h.cons j
  · by_cases hj : j = i
    · rw [hj, at_]
      exact h.tk i
    · rw [same j hj]
      exact h.tk j
  · rw [come, inf]
    have := h.arr j
    by_cases hj : j = i
    · subst hj
      rw [at_, if_pos rfl]
      show _ = (s.sd j).out + a
      omega
    · rw [same j hj, if_neg (fun z => hj z.symm)]
      omega
  · by_cases hj : j = i
    · subst hj
      rw [at_]
      have := h.sm j
      show (if 0 < a ∧ a < L.size then (s.sd j).out + a else (s.sd j).small) ≤ (s.sd j).out + a
      split <;> omega
    · rw [same j hj]
      exact h.sm j
  · rw [known, come]
    exact h.kn j
  · rw [come]
    rcases List.mem_append.mp hp with z | z
    · exact h.ka p z
    · rw [List.mem_singleton.mp z]
      exact Int.le_refl _
  · rcases List.mem_append.mp hp with z | z
    · exact h.nn p z
    · rw [List.mem_singleton.mp z]
      exact h0
  · rw [known, come]
    by_cases hj : (!j) = i
    · refine .inr (.inr ⟨_, List.mem_append_right _ (List.mem_singleton.mpr rfl), hj.symm, ?_⟩)
      show (s.sd i).come = _
      rw [hj]
    · rw [same _ hj]
      rcases h.ack j with z | z | ⟨p, hp, e⟩
      · exact .inl z
      · exact .inr (.inl z)
      · exact .inr (.inr ⟨p, List.mem_append_left _ hp, e⟩)
/-- what letGo leaves: nothing kept, or it may not go -/
def Quiet (L : Ln) (i : Bool) (s : FS) : Prop := kept (s.sd i).stock = 0 ∨ lets L i s = false
theorem fi_loop (k : LOk L) : ∀ {n : Nat} {s : FS}, GF T s → FI Wt Tk s.flight s → FI Wt Tk (loopGo L i n s).flight (loopGo L i n s) ∧ (loopGo L i n s).sd (!i) = s.sd (!i)
  | 0, s, g, h => ⟨h, rfl⟩
  | n + 1, s, g, h => by
    unfold loopGo
    have ks := k.size
    split
    · rename_i hs
      have h2 : FI Wt Tk (send L i L.size s).flight (send L i L.size s) := h.send g (by omega) hs
      obtain ⟨e1, e2⟩ := fi_loop k (n := n) (send_good k g (by omega) hs) h2
      refine ⟨e1, e2.trans ?_⟩
      rw [sd_send, if_neg (by cases i <;> decide)]
    · exact ⟨h, rfl⟩
theorem lets_of {s s' : FS} (e : s'.sd i = s.sd i) : lets L i s' = lets L i s := by
  unfold lets
  rw [e]
theorem fi_letGo (k : LOk L) (g : GF T s) (h : FI Wt Tk s.flight s) : FI Wt Tk (letGo L i s).flight (letGo L i s) ∧ (letGo L i s).sd (!i) = s.sd (!i) ∧ Quiet L i (letGo L i s) := by
  have x := loop_good (i := i) (n := (kept (s.sd i).stock).toNat) k g
  obtain ⟨e1, e2⟩ := fi_loop (i := i) (n := (kept (s.sd i).stock).toNat) k g h
  unfold letGo lastGo
  generalize loopGo L i (kept (s.sd i).stock).toNat s = s1 at x e1 e2
  have hk := kept_nonneg (x.good.pos i)
  split
  · rename_i hs
    refine ⟨e1.send x.good (by omega) (Int.le_refl _), ?_, .inl ?_⟩
    · rw [sd_send, if_neg (by cases i <;> decide)]
      exact e2
    · rw [send_kept x.good (by omega) (Int.le_refl _)]
      omega
  · rename_i hs
    refine ⟨e1, e2, ?_⟩
    by_cases h0 : kept (s1.sd i).stock = 0
    · exact .inl h0
    · right
      cases hl : lets L i s1 with
      | false => rfl
      | true => exact absurd ⟨by omega, hl⟩ hs
theorem fi_putS (h : FI Wt Tk fl s) : FI (upS Wt i (Wt i + a)) Tk fl (putS i a s) := by
  have e : ∀ j, ((putS i a s).sd j).out = (s.sd j).out ∧ ((putS i a s).sd j).taken = (s.sd j).taken ∧ ((putS i a s).sd j).come = (s.sd j).come ∧ ((putS i a s).sd j).small = (s.sd j).small ∧ ((putS i a s).sd j).known = (s.sd j).known ∧ ((putS i a s).sd j).first = (s.sd j).first := fun j => by
    show ((upS s.sd i _) j).out = _ ∧ ((upS s.sd i _) j).taken = _ ∧ ((upS s.sd i _) j).come = _ ∧ ((upS s.sd i _) j).small = _ ∧ ((upS s.sd i _) j).known = _ ∧ ((upS s.sd i _) j).first = _
    unfold upS
    by_cases hj : j = i
    · subst hj
      rw [if_pos rfl]
      exact ⟨rfl, rfl, rfl, rfl, rfl, rfl⟩
    · rw [if_neg hj]
      exact ⟨rfl, rfl, rfl, rfl, rfl, rfl⟩
  refine ⟨fun j => ?_, fun j => ?_, fun j => ?_, fun j => ?_, fun j => ?_, fun p hp => ?_, h.nn, fun j => ?_⟩
  · rw [(e j).1]
    have := h.cons j
    show _ + kept ((upS s.sd i _) j).stock = (upS Wt i _) j
    unfold upS
    by_cases hj : j = i
    · subst hj
      rw [if_pos rfl, if_pos rfl]
      show _ + kept ((s.sd j).stock ++ [(a, s.tick)]) = _
      rw [kept_snoc]
      show _ + (_ + a) = _
      omega
    · rw [if_neg hj, if_neg hj]
      exact this
  · rw [(e j).2.1]; exact h.tk j
  · rw [(e _).2.2.1, (e j).1]; exact h.arr j
  · rw [(e j).2.2.2.1, (e j).1]; exact h.sm j
  · rw [(e j).2.2.2.2.1, (e _).2.2.1]; exact h.kn j
  · rw [(e _).2.2.1]; exact h.ka p hp
  · rw [(e j).2.2.2.2.1, (e _).2.2.1, (e _).2.2.2.2.2]; exact h.ack j
theorem fi_takeIn (h : FI Wt Tk fl s) : FI Wt (upS Tk i (Tk i + a)) fl (takeIn i a s) := by
  have e : ∀ j, ((takeIn i a s).sd j).out = (s.sd j).out ∧ ((takeIn i a s).sd j).stock = (s.sd j).stock ∧ ((takeIn i a s).sd j).come = (s.sd j).come ∧ ((takeIn i a s).sd j).small = (s.sd j).small ∧ ((takeIn i a s).sd j).known = (s.sd j).known ∧ ((takeIn i a s).sd j).first = (s.sd j).first := fun j => by
    show ((upS s.sd i _) j).out = _ ∧ ((upS s.sd i _) j).stock = _ ∧ ((upS s.sd i _) j).come = _ ∧ ((upS s.sd i _) j).small = _ ∧ ((upS s.sd i _) j).known = _ ∧ ((upS s.sd i _) j).first = _
    unfold upS
    by_cases hj : j = i
    · subst hj
      rw [if_pos rfl]
      exact ⟨rfl, rfl, rfl, rfl, rfl, rfl⟩
    · rw [if_neg hj]
      exact ⟨rfl, rfl, rfl, rfl, rfl, rfl⟩
  refine ⟨fun j => ?_, fun j => ?_, fun j => ?_, fun j => ?_, fun j => ?_, fun p hp => ?_, h.nn, fun j => ?_⟩
  · rw [(e j).1, (e j).2.1]; exact h.cons j
  · show ((upS s.sd i _) j).taken = (upS Tk i _) j
    unfold upS
    by_cases hj : j = i
    · subst hj
      rw [if_pos rfl, if_pos rfl]
      show (s.sd j).taken + a = _
      rw [h.tk j]
    · rw [if_neg hj, if_neg hj]
      exact h.tk j
  · rw [(e _).2.2.1, (e j).1]; exact h.arr j
  · rw [(e j).2.2.2.1, (e j).1]; exact h.sm j
  · rw [(e j).2.2.2.2.1, (e _).2.2.1]; exact h.kn j
  · rw [(e _).2.2.1]; exact h.ka p hp
  · rw [(e j).2.2.2.2.1, (e _).2.2.1, (e _).2.2.2.2.2]; exact h.ack j
theorem fi_land {p : Pc} (h : FI Wt Tk (p :: fl) s) : FI Wt Tk fl (land L p s) := by
  obtain ⟨pt, ps, pa, pn⟩ := p
  have hps : ∀ j, j ≠ (!ps) → (land L ⟨pt, ps, pa, pn⟩ s).sd j = s.sd j := fun j hj => upS_ne s.sd _ hj
  have hat : (land L ⟨pt, ps, pa, pn⟩ s).sd (!ps) = landD L ⟨pt, ps, pa, pn⟩ s.tick (s.sd (!ps)) := upS_same _ _ _
  have hno : ∀ j, j ≠ (!ps) → j = ps := fun j hj => by cases j <;> cases ps <;> simp_all
  have np : ps ≠ (!ps) := by cases ps <;> decide
  have hnn := h.nn _ List.mem_cons_self
  have hka := h.ka _ List.mem_cons_self
  have fld : ∀ d : Sd, (landD L ⟨pt, ps, pa, pn⟩ s.tick d).out = d.out ∧ (landD L ⟨pt, ps, pa, pn⟩ s.tick d).stock = d.stock ∧ (landD L ⟨pt, ps, pa, pn⟩ s.tick d).taken = d.taken ∧ (landD L ⟨pt, ps, pa, pn⟩ s.tick d).small = d.small ∧
      (landD L ⟨pt, ps, pa, pn⟩ s.tick d).known = (if d.known < pn then pn else d.known) ∧ (landD L ⟨pt, ps, pa, pn⟩ s.tick d).come = d.come + pa ∧ (0 < pa → (landD L ⟨pt, ps, pa, pn⟩ s.tick d).first ≠ none) ∧ (pa = 0 → (landD L ⟨pt, ps, pa, pn⟩ s.tick d).first = d.first) := fun d => by
    have hnn' : 0 ≤ pa := hnn
    unfold landD
    by_cases hp : 0 < pa
    · rw [if_pos hp]
      refine ⟨rfl, rfl, rfl, rfl, rfl, rfl, fun _ => ?_, fun z => by omega⟩
      show (match d.first with | none => some s.tick | some x => some x) ≠ none
      cases d.first <;> simp
    · rw [if_neg hp]
      have : pa = 0 := by omega
      subst this
      exact ⟨rfl, rfl, rfl, rfl, rfl, (Int.add_zero _).symm, fun z => absurd z hp, fun _ => rfl⟩
  obtain ⟨f1, f2, f3, f4, f5, f6, f7, f8⟩ := fld (s.sd (!ps))
  have inf : ∀ j, infl j (⟨pt, ps, pa, pn⟩ :: fl) = (if ps = j then pa else 0) + infl j fl := fun j => rfl
  refine ⟨fun j => ?_, fun j => ?_, fun j => ?_, fun j => ?_, fun j => ?_, fun q hq => ?_, fun q hq => h.nn q (List.mem_cons_of_mem _ hq), fun j => ?_⟩
  · by_cases hj : j = (!ps)
    · rw [hj, hat, f1, f2]; exact h.cons _
    · rw [hps j hj]; exact h.cons j
  · by_cases hj : j = (!ps)
    · rw [hj, hat, f3]; exact h.tk _
    · rw [hps j hj]; exact h.tk j
  · have := h.arr j
    rw [inf] at this
    by_cases hj : j = (!ps)
    · subst hj
      rw [hat, f1, Bool.not_not, hps ps np]
      rw [if_neg np, Bool.not_not] at this
      omega
    · have e := hno j hj
      subst e
      rw [hat, f6, hps j np]
      rw [if_pos rfl] at this
      omega
  · by_cases hj : j = (!ps)
    · rw [hj, hat, f1, f4]; exact h.sm _
    · rw [hps j hj]; exact h.sm j
  · by_cases hj : j = (!ps)
    · subst hj
      rw [hat, f5, Bool.not_not, hps ps np]
      have h1 := h.kn (!ps)
      rw [Bool.not_not] at h1
      have h2 : pn ≤ (s.sd ps).come := hka
      split <;> omega
    · have e := hno j hj
      subst e
      rw [hps j np, hat, f6]
      have h1 := h.kn j
      have h2 : 0 ≤ pa := hnn
      omega
  · have h1 := h.ka q (List.mem_cons_of_mem _ hq)
    by_cases hj : q.side = (!ps)
    · rw [hj] at h1 ⊢
      rw [hat, f6]
      have h2 : 0 ≤ pa := hnn
      omega
    · rw [hps _ hj]; exact h1
  · by_cases hj : j = (!ps)
    · subst hj
      rw [hat, f5, Bool.not_not, hps ps np]
      have h1 := h.kn (!ps)
      have h0 := h.ack (!ps)
      rw [Bool.not_not] at h1 h0
      have h2 : pn ≤ (s.sd ps).come := hka
      rcases h0 with z | z | ⟨q, hq, e1, e2⟩
      · left
        rw [z]
        split <;> omega
      · exact .inr (.inl z)
      · rcases List.mem_cons.mp hq with e | e
        · subst e
          left
          have e2' : pn = (s.sd ps).come := e2
          split <;> omega
        · exact .inr (.inr ⟨q, e, e1, e2⟩)
    · have e := hno j hj
      subst e
      rw [hps j np, hat, f6]
      by_cases hp : 0 < pa
      · exact .inr (.inl (f7 hp))
      · have hp0 : pa = 0 := by
          have h2 : 0 ≤ pa := hnn
          omega
        rw [f8 hp0, hp0, Int.add_zero]
        rcases h.ack j with z | z | ⟨q, hq, e1, e2⟩
        · exact .inl z
        · exact .inr (.inl z)
        · rcases List.mem_cons.mp hq with e | e
          · subst e
            exact absurd (show j = (!j) from e1) np
          · exact .inr (.inr ⟨q, e, e1, e2⟩)
theorem fi_landAll : ∀ {l : List Pc} {s : FS}, FI Wt Tk (l ++ fl) s → FI Wt Tk fl (landAll L l s) ∧ (landAll L l s).flight = s.flight
  | [], s, h => ⟨h, rfl⟩
  | p :: l, s, h => fi_landAll (l := l) (s := land L p s) (fi_land h)
end
end SH
end
section
namespace SH
section
variable {L : Ln} {T : Int} {s : FS} {i : Bool} {a : Int} {Wt Tk : Bool → Int} {fl : List Pc}
theorem quiet_of {s s' : FS} (h : Quiet L i s) (e : s'.sd i = s.sd i) : Quiet L i s' := by
  unfold Quiet at h ⊢
  rw [e, lets_of e]
  exact h
theorem fi_begin (k : LOk L) (g : GF T s) {t : Int} (ht : t ≤ T) (h : FI Wt Tk s.flight s) : FI Wt Tk (begin L t s).flight (begin L t s) ∧ ∀ i, Quiet L i (begin L t s) := by
  have g1 : GF T (beginT t s) := ⟨g.pos, g.fl, ht, fun p hp => g.ft p (List.mem_filter.mp hp).1, g.fi⟩
  obtain ⟨h1, _⟩ := landAll_good (L := L) (l := s.flight.filter fun p => decide (p.tick ≤ t)) g1
  have f0 : FI Wt Tk ((s.flight.filter fun p => decide (p.tick ≤ t)) ++ (s.flight.filter fun p => decide (t < p.tick))) (beginT t s) := by
    have mem : ∀ p, p ∈ (s.flight.filter fun p => decide (p.tick ≤ t)) ++ (s.flight.filter fun p => decide (t < p.tick)) ↔ p ∈ s.flight := fun p => by
      rw [List.mem_append, List.mem_filter, List.mem_filter]
      constructor
      · rintro (z | z) <;> exact z.1
      · intro z
        by_cases hp : p.tick ≤ t
        · exact .inl ⟨z, by simpa using hp⟩
        · exact .inr ⟨z, by simpa using hp⟩
    refine ⟨h.cons, h.tk, fun j => ?_, h.sm, h.kn, fun p hp => h.ka p ((mem p).mp hp), fun p hp => h.nn p ((mem p).mp hp), fun j => ?_⟩
    · rw [infl_split]
      exact h.arr j
    · rcases h.ack j with z | z | ⟨p, hp, e⟩
      · exact .inl z
      · exact .inr (.inl z)
      · exact .inr (.inr ⟨p, (mem p).mpr hp, e⟩)
  obtain ⟨f1, f2⟩ := fi_landAll (L := L) f0
  have ef : (landAll L (s.flight.filter fun p => decide (p.tick ≤ t)) (beginT t s)).flight = s.flight.filter fun p => decide (t < p.tick) := f2
  rw [← ef] at f1
  obtain ⟨a1, a2, a3⟩ := fi_letGo (i := false) k h1 f1
  have g2 := (letGo_good (i := false) k h1).good
  obtain ⟨b1, b2, b3⟩ := fi_letGo (i := true) k g2 a1
  refine ⟨b1, fun i => ?_⟩
  cases i with
  | true => exact b3
  | false => exact quiet_of a3 b2
theorem fi_leave1 (k : LOk L) (g : GF T s) (h : FI Wt Tk s.flight s) : FI Wt Tk (leave1 L i s).flight (leave1 L i s) ∧ ∀ j, Quiet L j s → Quiet L j (leave1 L i s) := by
  unfold leave1
  split
  · have hk := kept_nonneg (g.pos i)
    refine ⟨h.send g (Int.le_refl _) hk, fun j hq => ?_⟩
    by_cases hj : j = i
    · subst hj
      have e := sd_send (L := L) (s := s) (i := j) (a := 0) j
      rw [if_pos rfl] at e
      rcases hq with z | z
      · left
        rw [send_kept g (Int.le_refl _) hk, z]
        rfl
      · right
        unfold lets at z ⊢
        rw [e]
        simpa using z
    · exact quiet_of hq (by rw [sd_send, if_neg hj])
  · exact ⟨h, fun _ hq => hq⟩
theorem come_leave1 : ∀ j, ((leave1 L i s).sd j).come = (s.sd j).come ∧ ((leave1 L i s).sd j).taken = (s.sd j).taken := fun j => by
  unfold leave1
  split
  · rw [sd_send]
    by_cases hj : j = i
    · rw [if_pos hj, hj]
      exact ⟨rfl, rfl⟩
    · rw [if_neg hj]
      exact ⟨rfl, rfl⟩
  · exact ⟨rfl, rfl⟩
theorem come_loop : ∀ {n : Nat} {s : FS} (j : Bool), ((loopGo L i n s).sd j).come = (s.sd j).come ∧ ((loopGo L i n s).sd j).taken = (s.sd j).taken
  | 0, s, j => ⟨rfl, rfl⟩
  | n + 1, s, j => by
    unfold loopGo
    split
    · obtain ⟨e1, e2⟩ := come_loop (n := n) (s := send L i L.size s) j
      rw [e1, e2, sd_send]
      by_cases hj : j = i
      · rw [if_pos hj, hj]
        exact ⟨rfl, rfl⟩
      · rw [if_neg hj]
        exact ⟨rfl, rfl⟩
    · exact ⟨rfl, rfl⟩
theorem come_put (j : Bool) : ((put L i a s).sd j).come = (s.sd j).come ∧ ((put L i a s).sd j).taken = (s.sd j).taken := by
  have h0 : ((putS i a s).sd j).come = (s.sd j).come ∧ ((putS i a s).sd j).taken = (s.sd j).taken := by
    show ((upS s.sd i _) j).come = _ ∧ ((upS s.sd i _) j).taken = _
    unfold upS
    by_cases hj : j = i
    · subst hj
      rw [if_pos rfl]
      exact ⟨rfl, rfl⟩
    · rw [if_neg hj]
      exact ⟨rfl, rfl⟩
  unfold put letGo lastGo
  obtain ⟨e1, e2⟩ := come_loop (L := L) (i := i) (n := (kept ((putS i a s).sd i).stock).toNat) (s := putS i a s) j
  rw [← h0.1, ← h0.2, ← e1, ← e2]
  split
  · rw [sd_send]
    by_cases hj : j = i
    · rw [if_pos hj, hj]
      exact ⟨rfl, rfl⟩
    · rw [if_neg hj]
      exact ⟨rfl, rfl⟩
  · exact ⟨rfl, rfl⟩
end
/-! ### the places, the pauses aside -/
def wsum : Prg → Nat → Int
  | _, 0 => 0
  | [], _ => 0
  | (.w, a) :: r, n + 1 => a + wsum r n
  | _ :: r, n + 1 => wsum r n
def rsum : Prg → Nat → Int
  | _, 0 => 0
  | [], _ => 0
  | (.r, a) :: r, n + 1 => a + rsum r n
  | _ :: r, n + 1 => rsum r n
theorem wsum_succ : ∀ {P : Prg} {n : Nat} {x : Wd × Int}, P[n]? = some x → wsum P (n + 1) = wsum P n + (match x with | (.w, a) => a | _ => 0)
  | y :: r, 0, x, h => by
    have e : y = x := by simpa using h
    subst e
    obtain ⟨w, a⟩ := y
    cases w <;> simp [wsum]
  | (w, b) :: r, n + 1, x, h => by
    have ih := wsum_succ (P := r) (n := n) (x := x) (by simpa using h)
    cases w
    · show b + wsum r (n + 1) = b + wsum r n + _
      omega
    · exact ih
    · exact ih
  | [], n, x, h => by simp at h
theorem rsum_succ : ∀ {P : Prg} {n : Nat} {x : Wd × Int}, P[n]? = some x → rsum P (n + 1) = rsum P n + (match x with | (.r, a) => a | _ => 0)
  | y :: r, 0, x, h => by
    have e : y = x := by simpa using h
    subst e
    obtain ⟨w, a⟩ := y
    cases w <;> simp [rsum]
  | (w, b) :: r, n + 1, x, h => by
    have ih := rsum_succ (P := r) (n := n) (x := x) (by simpa using h)
    cases w
    · exact ih
    · show b + rsum r (n + 1) = b + rsum r n + _
      omega
    · exact ih
  | [], n, x, h => by simp at h
theorem wsum_mono {P : Prg} (k : POk P) : ∀ {n m : Nat}, n ≤ m → wsum P n ≤ wsum P m := by
  intro n m h
  induction h with
  | refl => exact Int.le_refl _
  | step hm ih =>
    rename_i m
    refine Int.le_trans ih ?_
    cases q : P[m]? with
    | none =>
      have : ∀ (P : Prg) (m : Nat), P[m]? = none → wsum P (m + 1) = wsum P m := by
        intro P
        induction P with
        | nil => intro m _; cases m <;> rfl
        | cons x r ih =>
          intro m h
          cases m with
          | zero => simp at h
          | succ m =>
            have e := ih m (by simpa using h)
            obtain ⟨w, a⟩ := x
            cases w
            · show a + wsum r (m + 1) = a + wsum r m
              rw [e]
            · exact e
            · exact e
      rw [this P m q]
      exact Int.le_refl _
    | some x =>
      rw [wsum_succ q]
      obtain ⟨w, a⟩ := x
      cases w
      · have := k.w a (List.mem_of_getElem? q)
        show _ ≤ wsum P m + a
        omega
      · show _ ≤ wsum P m + 0
        omega
      · show _ ≤ wsum P m + 0
        omega
inductive Rch (P : Bool → Prg) : (Bool → Nat) → Prop
  | start : Rch P fun _ => 0
  | go {q : Bool → Nat} {i : Bool} {x : Wd × Int} (h : Rch P q) (e : (P i)[q i]? = some x) (r : ∀ a, x = (.r, a) → rsum (P i) (q i) + a ≤ wsum (P (!i)) (q (!i))) : Rch P (upS q i (q i + 1))
/-- nothing goes on -/
def Trm (P : Bool → Prg) (q : Bool → Nat) : Prop := ∀ i, (P i).length ≤ q i ∨ ∃ a, (P i)[q i]? = some (.r, a) ∧ wsum (P (!i)) (q (!i)) < rsum (P i) (q i) + a
/-- the pauses' ticks aside -/
def key : Wd × Int → Wd × Int
  | (.p, _) => (.p, 0)
  | x => x
def SameP (P P' : Bool → Prg) : Prop := ∀ i, (P i).map key = (P' i).map key
theorem key_at {P P' : Prg} (h : P.map key = P'.map key) {n : Nat} {x : Wd × Int} (e : P[n]? = some x) : ∃ y, P'[n]? = some y ∧ key x = key y := by
  have h1 : (P.map key)[n]? = some (key x) := by rw [List.getElem?_map, e]; rfl
  rw [h, List.getElem?_map] at h1
  cases q : P'[n]? with
  | none => rw [q] at h1; cases h1
  | some y => rw [q] at h1; exact ⟨y, rfl, (Option.some.inj h1).symm⟩
theorem wsum_key : ∀ {P P' : Prg}, P.map key = P'.map key → ∀ n, wsum P n = wsum P' n
  | [], [], _, _ => rfl
  | x :: r, y :: r', h, 0 => by cases x; cases y; rename_i w _ w2 _; cases w <;> cases w2 <;> rfl
  | (w, a) :: r, (w2, b) :: r', h, n + 1 => by
    rw [List.map_cons, List.map_cons] at h
    injection h with h1 h2
    have ih := wsum_key h2 n
    cases w <;> cases w2 <;> simp_all [key, wsum]
  | [], _ :: _, h, _ => by cases h
  | _ :: _, [], h, _ => by cases h
theorem rsum_key : ∀ {P P' : Prg}, P.map key = P'.map key → ∀ n, rsum P n = rsum P' n
  | [], [], _, _ => rfl
  | x :: r, y :: r', h, 0 => by cases x; cases y; rename_i w _ w2 _; cases w <;> cases w2 <;> rfl
  | (w, a) :: r, (w2, b) :: r', h, n + 1 => by
    rw [List.map_cons, List.map_cons] at h
    injection h with h1 h2
    have ih := rsum_key h2 n
    cases w <;> cases w2 <;> simp_all [key, rsum]
  | [], _ :: _, h, _ => by cases h
  | _ :: _, [], h, _ => by cases h
/-- what can be reached lies below what ends -/
theorem rch_le {P P' : Bool → Prg} (kp : ∀ i, POk (P i)) (sp : SameP P P') {q' : Bool → Nat} (ht : Trm P' q') : ∀ {q : Bool → Nat}, Rch P q → ∀ i, q i ≤ q' i := by
  intro q h
  induction h with
  | start => exact fun i => Nat.zero_le _
  | go h e r ih =>
    rename_i q i x
    intro j
    by_cases hj : j = i
    · subst hj
      rw [upS_same]
      rcases Nat.lt_or_eq_of_le (ih j) with z | z
      · exact z
      · exfalso
        have hl : q j < (P j).length := (List.getElem?_eq_some_iff.mp e).1
        have hll : (P j).length = (P' j).length := by
          have := congrArg List.length (sp j)
          simpa using this
        rcases ht j with y | ⟨a, y1, y2⟩
        · omega
        · obtain ⟨y, k1, k2⟩ := key_at (sp j) e
          rw [z, y1] at k1
          cases k1
          have hx : x = (.r, a) := by
            obtain ⟨w, b⟩ := x
            cases w <;> simp_all [key]
          have h1 := r a hx
          have h2 := wsum_mono (kp (!j)) (ih (!j))
          rw [wsum_key (sp (!j)) (q' (!j))] at h2
          rw [← z, ← rsum_key (sp j) (q j)] at y2
          omega
    · rw [upS_ne _ _ hj]
      exact ih j
end SH
end
section
namespace SH
theorem not_of {i j : Bool} (h : j ≠ i) : j = !i := by cases i <;> cases j <;> simp_all
structure KS (P : Bool → Prg) (i : Bool) (q : Bool → Nat) (s : FS) (n : Nat) : Prop where
  f : FI (fun j => wsum (P j) (upS q i n j)) (fun j => rsum (P j) (upS q i n j)) s.flight s
  r : Rch P (upS q i n)
def Blk (P : Prg) (i : Bool) (s : FS) (c : Co) : Prop := c.ended ≠ none ∨ c.til ≠ none ∨ ∃ a, P[c.place]? = some (.r, a) ∧ fresh s i < a
section
variable {L : Ln} {T : Int} {s : FS} {c : Co} {i : Bool} {P : Bool → Prg} {q : Bool → Nat}
theorem upS_up {α : Type} (f : Bool → α) (i : Bool) (x y : α) : upS (upS f i x) i y = upS f i y := by
  funext j
  unfold upS
  split <;> rfl
theorem fi_eq {Wt Wt' Tk Tk' : Bool → Int} {fl : List Pc} (h : FI Wt Tk fl s) (e : ∀ j, Wt j = Wt' j) (e2 : ∀ j, Tk j = Tk' j) : FI Wt' Tk' fl s := by
  rw [← funext e, ← funext e2]
  exact h
theorem ks_step (kl : LOk L) (kp : ∀ i, POk (P i)) (g : GF T s) (gc : GC (P i) T c) (hp : c.place < (P i).length) (k : KS P i q s c.place) :
    ((doStep L i (P i) s c).1 = true → KS P i q (doStep L i (P i) s c).2.1 (c.place + 1)) ∧ ((doStep L i (P i) s c).1 = false → (doStep L i (P i) s c).2.2.place = c.place ∧ (doStep L i (P i) s c).2.1 = s ∧ Blk (P i) i s (doStep L i (P i) s c).2.2) ∧
    (∀ j, Quiet L j s → Quiet L j (doStep L i (P i) s c).2.1) ∧ (∀ j, (((doStep L i (P i) s c).2.1).sd j).come = (s.sd j).come) ∧ (((doStep L i (P i) s c).2.1).sd (!i)).taken = (s.sd (!i)).taken := by
  obtain ⟨x, hx⟩ : ∃ x, (P i)[c.place]? = some x := ⟨_, List.getElem?_eq_getElem hp⟩
  have hw := wsum_succ hx
  have hr := rsum_succ hx
  have pl : upS q i c.place i = c.place := upS_same _ _ _
  have wt : ∀ (v : Int), (wsum (P i) (c.place + 1) = wsum (P i) c.place + v) → ∀ j, upS (fun j => wsum (P j) (upS q i c.place j)) i ((fun j => wsum (P j) (upS q i c.place j)) i + v) j = wsum (P j) (upS q i (c.place + 1) j) := fun v hv j => by
    by_cases hj : j = i
    · subst hj
      rw [upS_same, upS_same]
      show wsum (P j) (upS q j c.place j) + v = _
      rw [upS_same, hv]
    · rw [upS_ne _ _ hj, upS_ne _ _ hj, upS_ne _ _ hj]
  have rt : ∀ (v : Int), (rsum (P i) (c.place + 1) = rsum (P i) c.place + v) → ∀ j, upS (fun j => rsum (P j) (upS q i c.place j)) i ((fun j => rsum (P j) (upS q i c.place j)) i + v) j = rsum (P j) (upS q i (c.place + 1) j) := fun v hv j => by
    by_cases hj : j = i
    · subst hj
      rw [upS_same, upS_same]
      show rsum (P j) (upS q j c.place j) + v = _
      rw [upS_same, hv]
    · rw [upS_ne _ _ hj, upS_ne _ _ hj, upS_ne _ _ hj]
  have w0 : wsum (P i) (c.place + 1) = wsum (P i) c.place → ∀ j, wsum (P j) (upS q i c.place j) = wsum (P j) (upS q i (c.place + 1) j) := fun hv j => by
    by_cases hj : j = i
    · subst hj
      rw [upS_same, upS_same, hv]
    · rw [upS_ne _ _ hj, upS_ne _ _ hj]
  have r0 : rsum (P i) (c.place + 1) = rsum (P i) c.place → ∀ j, rsum (P j) (upS q i c.place j) = rsum (P j) (upS q i (c.place + 1) j) := fun hv j => by
    by_cases hj : j = i
    · subst hj
      rw [upS_same, upS_same, hv]
    · rw [upS_ne _ _ hj, upS_ne _ _ hj]
  have rch : (∀ a, x = (.r, a) → rsum (P i) c.place + a ≤ wsum (P (!i)) (upS q i c.place (!i))) → Rch P (upS q i (c.place + 1)) := fun h => by
    have := Rch.go (i := i) (x := x) k.r (by rw [upS_same]; exact hx) (fun a e => by rw [upS_same]; exact h a e)
    rwa [upS_same, upS_up] at this
  obtain ⟨wd, a⟩ := x
  cases wd with
  | w =>
    have e : doStep L i (P i) s c = (true, put L i a s, passStep (P i).length s.tick c) := by unfold doStep; rw [hx]
    rw [e]
    have ha := (kp i).w a (List.mem_of_getElem? hx)
    obtain ⟨f1, f2, f3⟩ := fi_letGo (i := i) kl (putS_good (i := i) g ha) (fi_putS (i := i) (a := a) k.f)
    refine ⟨fun _ => ⟨fi_eq f1 (wt a hw) (r0 (by rw [hr]; exact Int.add_zero _)), rch fun b z => by cases z⟩, (fun z => by cases z), fun j hq => ?_, fun j => (come_put (L := L) (i := i) (a := a) j).1, (come_put (L := L) (i := i) (a := a) (!i)).2⟩
    by_cases hj : j = i
    · rw [hj]
      exact f3
    · have ej : j = !i := not_of hj
      subst ej
      exact quiet_of hq (f2.trans (upS_not s.sd i _))
  | r =>
    have e : doStep L i (P i) s c = if fresh s i < a then (false, s, c) else (true, takeIn i a s, passStep (P i).length s.tick c) := by unfold doStep; rw [hx]
    rw [e]
    split
    · rename_i hlt
      exact ⟨(fun z => by cases z), fun _ => ⟨rfl, rfl, .inr (.inr ⟨a, hx, hlt⟩)⟩, fun _ h => h, fun _ => rfl, rfl⟩
    · rename_i hlt
      refine ⟨fun _ => ⟨fi_eq (fi_takeIn (i := i) (a := a) k.f) (w0 (by rw [hw]; exact Int.add_zero _)) (rt a hr), rch fun b z => ?_⟩, (fun z => by cases z), fun j hq => ?_, fun j => ?_, ?_⟩
      · cases z
        have h1 := k.f.cons (!i)
        have h2 := k.f.arr (!i)
        have h3 := k.f.tk i
        have h4 := infl_nn (i := !i) k.f.nn
        have h5 := kept_nonneg (g.pos (!i))
        rw [Bool.not_not] at h2
        have h6 : ¬ (s.sd i).come - (s.sd i).taken < a := hlt
        have h3' : (s.sd i).taken = rsum (P i) c.place := by
          have h3 : (s.sd i).taken = rsum (P i) (upS q i c.place i) := h3
          rw [upS_same] at h3
          exact h3
        have h1 : (s.sd (!i)).out + kept (s.sd (!i)).stock = wsum (P (!i)) (upS q i c.place (!i)) := h1
        omega
      · by_cases hj : j = i
        · subst hj
          rcases hq with z | z
          · left
            show kept ((upS s.sd j _) j).stock = 0
            rw [upS_same]
            exact z
          · right
            unfold lets at z ⊢
            show (if (L.se j).hold then decide (((upS s.sd j _) j).out = ((upS s.sd j _) j).known) else ((L.se j).plain || decide (((upS s.sd j _) j).small ≤ ((upS s.sd j _) j).known))) = false
            rw [upS_same]
            exact z
        · exact quiet_of hq (upS_ne s.sd _ hj)
      · show ((upS s.sd i _) j).come = _
        unfold upS
        split
        · rename_i hj
          rw [hj]
        · rfl
      · show ((upS s.sd i _) (!i)).taken = _
        rw [upS_not]
  | p =>
    have e : doStep L i (P i) s c = if s.tick < untilOf s.tick a c then (false, s, { c with til := some (untilOf s.tick a c) }) else (true, s, passStep (P i).length s.tick { c with til := none }) := by unfold doStep; rw [hx]
    rw [e]
    split
    · exact ⟨(fun z => by cases z), fun _ => ⟨rfl, rfl, .inr (.inl (fun z => by cases z))⟩, fun _ h => h, fun _ => rfl, rfl⟩
    · exact ⟨fun _ => ⟨fi_eq k.f (w0 (by rw [hw]; exact Int.add_zero _)) (r0 (by rw [hr]; exact Int.add_zero _)), rch fun b z => by cases z⟩, (fun z => by cases z), fun _ h => h, fun _ => rfl, rfl⟩
theorem ks_goOn (kl : LOk L) (kp : ∀ i, POk (P i)) : ∀ {n : Nat} {s : FS} {c : Co}, GF T s → GC (P i) T c → KS P i q s c.place → (P i).length + 1 ≤ n + c.place →
    KS P i q (goOn L i (P i) n s c).1 (goOn L i (P i) n s c).2.place ∧ Blk (P i) i (goOn L i (P i) n s c).1 (goOn L i (P i) n s c).2 ∧ (∀ j, Quiet L j s → Quiet L j (goOn L i (P i) n s c).1) ∧
    (∀ j, (((goOn L i (P i) n s c).1).sd j).come = (s.sd j).come) ∧ (((goOn L i (P i) n s c).1).sd (!i)).taken = (s.sd (!i)).taken
  | 0, s, c, g, gc, k, h => by
    have := gc.pl
    omega
  | n + 1, s, c, g, gc, k, h => by
    unfold goOn
    split
    · rename_i he
      have hp := gc.en.mp he
      obtain ⟨g1, g2, g3⟩ := step_good (i := i) kl (kp i) g gc hp
      obtain ⟨s1, s2, s3, s4, s5⟩ := ks_step kl kp g gc hp k
      split
      · rename_i hb
        have hpl := (g2 hb).2
        have k1 := s1 hb
        rw [← hpl] at k1
        obtain ⟨t1, t2, t3, t4, t5⟩ := ks_goOn kl kp (n := n) g1.good g1.goodC k1 (by omega)
        exact ⟨t1, t2, fun j hq => t3 j (s3 j hq), fun j => (t4 j).trans (s4 j), t5.trans s5⟩
      · rename_i hb
        have hb' : (doStep L i (P i) s c).1 = false := by
          cases q : (doStep L i (P i) s c).1 with
          | true => exact absurd q hb
          | false => rfl
        obtain ⟨u1, u2, u3⟩ := s2 hb'
        show KS P i q (doStep L i (P i) s c).2.1 (doStep L i (P i) s c).2.2.place ∧ Blk (P i) i (doStep L i (P i) s c).2.1 (doStep L i (P i) s c).2.2 ∧ _
        rw [u1, u2]
        exact ⟨k, u3, fun _ h => h, fun _ => rfl, rfl⟩
    · rename_i he
      exact ⟨k, .inl he, fun _ h => h, fun _ => rfl, rfl⟩
end
section
variable {L : Ln} {T : Int} {P : Bool → Prg} {r : RS}
def plc (r : RS) : Bool → Nat := fun i => (r.c i).place
structure KI (P : Bool → Prg) (r : RS) : Prop where
  f : FI (fun j => wsum (P j) (plc r j)) (fun j => rsum (P j) (plc r j)) r.s.flight r.s
  r : Rch P (plc r)
theorem plc_up (r : RS) (i : Bool) : upS (plc r) i (r.c i).place = plc r := by
  funext j
  unfold upS
  split
  · rename_i h
    rw [h]
    rfl
  · rfl
theorem ki_side (kl : LOk L) (kp : ∀ i, POk (P i)) (i : Bool) (g : GR P T r) (k : KI P r) :
    KI P (goSide L P i r) ∧ Blk (P i) i (goSide L P i r).s ((goSide L P i r).c i) ∧ (∀ j, Quiet L j r.s → Quiet L j (goSide L P i r).s) ∧ (∀ j, ((goSide L P i r).s.sd j).come = (r.s.sd j).come) ∧ ((goSide L P i r).s.sd (!i)).taken = (r.s.sd (!i)).taken := by
  have k0 : KS P i (plc r) r.s (r.c i).place := ⟨by rw [plc_up]; exact k.f, by rw [plc_up]; exact k.r⟩
  obtain ⟨t1, t2, t3, t4, t5⟩ := ks_goOn (n := (P i).length + 1) kl kp g.s (g.c i) k0 (by omega)
  have ec : (goSide L P i r).c i = (goOn L i (P i) ((P i).length + 1) r.s (r.c i)).2 := upS_same _ _ _
  have ep : plc (goSide L P i r) = upS (plc r) i (goOn L i (P i) ((P i).length + 1) r.s (r.c i)).2.place := by
    funext j
    by_cases hj : j = i
    · subst hj
      rw [upS_same]
      show ((goSide L P j r).c j).place = _
      rw [ec]
    · rw [upS_ne _ _ hj]
      show ((upS r.c i _) j).place = (r.c j).place
      rw [upS_ne _ _ hj]
  refine ⟨⟨by rw [ep]; exact t1.f, by rw [ep]; exact t1.r⟩, by rw [ec]; exact t2, t3, t4, t5⟩
structure KE (L : Ln) (P : Bool → Prg) (r : RS) : Prop where
  k : KI P r
  q : ∀ i, Quiet L i r.s
  b : ∀ i, Blk (P i) i r.s (r.c i)
theorem blk_of {Q : Prg} {i : Bool} {s s' : FS} {c : Co} (h : Blk Q i s c) (e1 : (s'.sd i).come = (s.sd i).come) (e2 : (s'.sd i).taken = (s.sd i).taken) : Blk Q i s' c := by
  rcases h with z | z | ⟨a, h1, h2⟩
  · exact .inl z
  · exact .inr (.inl z)
  · refine .inr (.inr ⟨a, h1, ?_⟩)
    unfold fresh at h2 ⊢
    rw [e1, e2]
    exact h2
theorem ki_core (kl : LOk L) {r1 r2 r3 r4 : RS} {t : Int} (ht : t ≤ T) (e1 : r1 = ⟨begin L t r.s, r.c⟩) (e2 : r2 = goSide L P false r1) (e3 : r3 = goSide L P true r2) (e4 : r4 = ⟨leave L r3.s, r3.c⟩) (kp : ∀ i, POk (P i)) (g : GR P T r) (k : KI P r) : KE L P r4 := by
  have hb := (begin_good kl g.s ht).1
  have es : r1.s = begin L t r.s := by rw [e1]
  have ec : r1.c = r.c := by rw [e1]
  have gb : GR P T r1 := ⟨by rw [es]; exact hb, fun i => by rw [ec]; exact g.c i⟩
  obtain ⟨fb, qb⟩ := fi_begin kl g.s ht k.f
  have ep1 : plc r1 = plc r := by
    funext j
    show (r1.c j).place = _
    rw [ec]
    rfl
  have k1 : KI P r1 := ⟨by rw [ep1, es]; exact fb, by rw [ep1]; exact k.r⟩
  have q1 : ∀ i, Quiet L i r1.s := fun i => by rw [es]; exact qb i
  have ga := (side_good kl kp false gb).1
  obtain ⟨a1, a2, a3, a4, a5⟩ := ki_side kl kp false gb k1
  rw [← e2] at ga a1 a2 a3 a4 a5
  have gd := (side_good kl kp true ga).1
  have gdc := (side_good kl kp true ga).2.2.2.2.1
  obtain ⟨d1, d2, d3, d4, d5⟩ := ki_side kl kp true ga a1
  rw [← e3] at gd gdc d1 d2 d3 d4 d5
  obtain ⟨l1, l2⟩ := fi_leave1 (i := false) kl gd.s d1.f
  have gl : GF T (leave1 L false r3.s) := (leave1_good (i := false) kl gd.s).1.good
  obtain ⟨l3, l4⟩ := fi_leave1 (i := true) kl gl l1
  have es4 : r4.s = leave1 L true (leave1 L false r3.s) := by rw [e4]; rfl
  have ec4 : r4.c = r3.c := by rw [e4]
  have ep4 : plc r4 = plc r3 := by
    funext j
    show (r4.c j).place = _
    rw [ec4]
    rfl
  have ct : ∀ j, (r4.s.sd j).come = (r3.s.sd j).come ∧ (r4.s.sd j).taken = (r3.s.sd j).taken := fun j => by
    rw [es4]
    have x := come_leave1 (L := L) (i := true) (s := leave1 L false r3.s) j
    have y := come_leave1 (L := L) (i := false) (s := r3.s) j
    exact ⟨x.1.trans y.1, x.2.trans y.2⟩
  refine ⟨⟨by rw [ep4, es4]; exact l3, by rw [ep4]; exact d1.r⟩, fun i => ?_, fun i => ?_⟩
  · rw [es4]
    exact l4 i (l2 i (d3 i (a3 i (q1 i))))
  · rw [ec4]
    refine blk_of ?_ (ct i).1 (ct i).2
    cases i with
    | true => exact d2
    | false =>
      rw [show r3.c false = r2.c false from gdc]
      exact blk_of a2 (d4 false) d5
theorem ki_tick (kl : LOk L) (kp : ∀ i, POk (P i)) (g : GR P T r) {t : Int} (ht : t ≤ T) (k : KI P r) : KE L P (doTick L P t r) := ki_core kl ht rfl rfl rfl rfl kp g k
theorem ki_run (kl : LOk L) (kp : ∀ i, POk (P i)) : ∀ {n : Nat} {T t : Int} {r : RS}, LI L P n T t r → KI P r → KE L P (runN L P n t r) ∧ events L (runN L P n t r) = none
  | 0, T, t, r, h, _ => by
    obtain ⟨k, e⟩ := h.pos kp
    omega
  | n + 1, T, t, r, h, k => by
    have ke := ki_tick kl kp h.good h.tle k
    cases he : events L (doTick L P t r) with
    | none =>
      rw [LI.run_none he]
      exact ⟨ke, he⟩
    | some t' =>
      rw [LI.run_some he]
      exact ki_run kl kp (h.next kl kp he) ke.k
theorem ki_start (P : Bool → Prg) : KI P (rs0 P) := by
  have e : plc (rs0 P) = fun _ => 0 := rfl
  have w0 : ∀ P : Prg, wsum P 0 = 0 := fun P => by cases P <;> rfl
  have r0 : ∀ P : Prg, rsum P 0 = 0 := fun P => by cases P <;> rfl
  refine ⟨⟨fun i => ?_, fun i => ?_, fun i => rfl, fun i => Int.le_refl _, fun i => Int.le_refl _, (fun p hp => by cases hp), (fun p hp => by cases hp), fun i => .inl rfl⟩, by rw [e]; exact .start⟩
  · rw [e]
    show (0 : Int) + kept [] = wsum (P i) 0
    rw [w0, kept_nil]
    rfl
  · rw [e]
    show (0 : Int) = rsum (P i) 0
    rw [r0]
theorem trm_of (ke : KE L P r) (g : GR P T r) (he : events L r = none) : Trm P (plc r) := by
  have h0 : evTicks L r = [] := List.min?_eq_none_iff.mp he
  unfold evTicks at h0
  have h1 := List.append_eq_nil_iff.mp h0
  have h2 := List.append_eq_nil_iff.mp h1.1
  have hn : nextTick L r.s = none := by
    cases q : nextTick L r.s with
    | none => rfl
    | some t => have := h1.2; rw [q] at this; cases this
  have h3 : nextTicks L r.s = [] := List.min?_eq_none_iff.mp hn
  unfold nextTicks at h3
  have h4 := List.append_eq_nil_iff.mp h3
  have h5 := List.append_eq_nil_iff.mp h4.1
  have hfl : r.s.flight = [] := List.map_eq_nil_iff.mp h5.1
  have hfi : ∀ i, (r.s.sd i).first = none := fun i => by
    have hh : firstT L r.s i = [] := by
      cases i
      · exact h5.2
      · exact h4.2
    unfold firstT at hh
    cases q : (r.s.sd i).first with
    | none => rfl
    | some f => rw [q] at hh; cases hh
  have hti : ∀ i, (r.c i).til = none := fun i => by
    have hh : tilT (r.c i) = [] := by
      cases i
      · exact h2.1
      · exact h2.2
    unfold tilT at hh
    cases q : (r.c i).til with
    | none => rfl
    | some f => rw [q] at hh; cases hh
  have f := ke.k.f
  have hout : ∀ i, (r.s.sd (!i)).come = (r.s.sd i).out := fun i => by
    have := f.arr i
    rw [hfl] at this
    have h0 : infl i [] = 0 := rfl
    omega
  have hkn : ∀ i, (r.s.sd i).known = (r.s.sd i).out := fun i => by
    rcases f.ack i with z | z | ⟨p, hp, _⟩
    · rw [z, hout]
    · exact absurd (hfi _) z
    · rw [hfl] at hp
      cases hp
  have hkp : ∀ i, kept (r.s.sd i).stock = 0 := fun i => by
    rcases ke.q i with z | z
    · exact z
    · exfalso
      unfold lets at z
      have hs := f.sm i
      rw [hkn i] at z
      split at z
      · simp at z
      · simp at z
        omega
  intro i
  rcases ke.b i with z | z | ⟨a, e1, e2⟩
  · left
    refine Nat.le_of_not_lt fun h => z ((g.c i).en.mpr h)
  · exact absurd (hti i) z
  · refine .inr ⟨a, e1, ?_⟩
    have c1 := f.cons (!i)
    have t1 := f.tk i
    have o1 := hout (!i)
    rw [Bool.not_not] at o1
    rw [hkp] at c1
    have e2 : (r.s.sd i).come - (r.s.sd i).taken < a := e2
    have c1 : (r.s.sd (!i)).out + 0 = wsum (P (!i)) (plc r (!i)) := c1
    have t1 : (r.s.sd i).taken = rsum (P i) (plc r i) := t1
    omega
end
/-- whether an end is None does not depend on the pauses' ticks -/
theorem stuck_same {L : Ln} {P P' : Bool → Prg} (kl : LOk L) (kp : ∀ i, POk (P i)) (kp' : ∀ i, POk (P' i)) (hb : RM P (rs0 P) ≤ 10000) (hb' : RM P' (rs0 P') ≤ 10000) (sp : SameP P P') (i : Bool) : endsOf L P i = none ↔ endsOf L P' i = none := by
  have l1 := start_LI (L := L) kp hb
  have l2 := start_LI (L := L) kp' hb'
  obtain ⟨k1, v1⟩ := ki_run kl kp l1 (ki_start P)
  obtain ⟨k2, v2⟩ := ki_run kl kp' l2 (ki_start P')
  obtain ⟨T1, g1, _, _⟩ := l1.ends kl kp
  obtain ⟨T2, g2, _, _⟩ := l2.ends kl kp'
  have t1 := trm_of k1 g1 v1
  have t2 := trm_of k2 g2 v2
  have a1 := rch_le kp sp t2 k1.k.r i
  have a2 := rch_le kp' (fun j => (sp j).symm) t1 k2.k.r i
  have hll : (P i).length = (P' i).length := by
    have := congrArg List.length (sp i)
    simpa using this
  have n1 := (g1.c i).en
  have n2 := (g2.c i).en
  have a1 : ((runN L P (fuel0 P) 0 (rs0 P)).c i).place ≤ ((runN L P' (fuel0 P') 0 (rs0 P')).c i).place := a1
  have a2 : ((runN L P' (fuel0 P') 0 (rs0 P')).c i).place ≤ ((runN L P (fuel0 P) 0 (rs0 P)).c i).place := a2
  show ((runN L P (fuel0 P) 0 (rs0 P)).c i).ended = none ↔ ((runN L P' (fuel0 P') 0 (rs0 P')).c i).ended = none
  rw [n1, n2]
  omega
end SH
end
section
namespace SH
open PySem PySem.Spec PyProof.Rows L2
theorem ch_in_gen : ∀ (ps : List (Int × Int)) (l : List (List Int)) (d c : List Int), d ∈ l → Ch ps c → d ++ c ∈ ps.foldl stepC l
  | [], l, d, [], hd, _ => by rw [List.append_nil]; exact hd
  | q :: ps, l, d, t :: c, hd, h => by
    have := ch_in_gen ps (stepC l q) (d ++ [t]) c (stepC_mem.mpr ⟨d, t, hd, h.1, h.2.1, rfl⟩) h.2.2
    rwa [List.append_assoc] at this
  | [], _, _, _ :: _, _, h => h.elim
  | _ :: _, _, _, [], _, h => h.elim
theorem ch_in {ps : List (Int × Int)} {c : List Int} (h : Ch ps c) : c ∈ choices ps := ch_in_gen ps [[]] [] c (List.mem_singleton.mpr rfl) h
/-! the order -/
theorem lex_irr : ∀ l : List Int, HT.lexLt l l = false := by
  intro l
  induction l with
  | nil => rfl
  | cons x l ih => simp [HT.lexLt, ih]
theorem lex_asym : ∀ l m : List Int, HT.lexLt l m = true → HT.lexLt m l = false
  | [], [], h => by simp [HT.lexLt] at h
  | [], _ :: _, _ => by simp [HT.lexLt]
  | _ :: _, [], h => by simp [HT.lexLt] at h
  | x :: l, y :: m, h => by
    have ih := lex_asym l m
    simp only [HT.lexLt] at h ⊢
    by_cases hxy : x = y
    · subst hxy
      simp at h ⊢
      exact ih h
    · have hyx : ¬ y = x := fun e => hxy e.symm
      simp [hxy, hyx] at h ⊢
      omega
theorem lex_app : ∀ {l m : List Int}, l.length = m.length → HT.lexLt l m = true → ∀ a b : List Int, HT.lexLt (l ++ a) (m ++ b) = true
  | [], [], _, h, _, _ => by simp [HT.lexLt] at h
  | x :: l, y :: m, hl, h, a, b => by
    have ih := lex_app (l := l) (m := m) (Nat.succ.inj hl)
    rw [List.cons_append, List.cons_append]
    simp only [HT.lexLt] at h ⊢
    by_cases hxy : x = y
    · subst hxy
      simp at h ⊢
      exact ih h a b
    · simp [hxy] at h ⊢
      exact h
  | [], _ :: _, hl, _, _, _ => by cases hl
  | _ :: _, [], hl, _, _, _ => by cases hl
theorem lex_last : ∀ (l : List Int) {s t : Int}, s < t → HT.lexLt (l ++ [s]) (l ++ [t]) = true
  | [], s, t, h => by simp [HT.lexLt]; omega
  | x :: l, s, t, h => by
    have ih := lex_last l h
    rw [List.cons_append, List.cons_append]
    simp [HT.lexLt, ih]
def Asc (l : List (List Int)) : Prop := l.Pairwise fun a b => HT.lexLt a b = true
theorem rng_asc (q : Int × Int) : (rng q).Pairwise fun a b => a < b := by
  unfold rng
  rw [List.pairwise_map]
  refine List.Pairwise.imp ?_ List.pairwise_lt_range
  intro a b h
  omega
theorem asc_step {l : List (List Int)} {n : Nat} (q : Int × Int) (hn : ∀ c ∈ l, c.length = n) (h : Asc l) : Asc (stepC l q) := by
  unfold stepC Asc
  induction l with
  | nil => exact List.Pairwise.nil
  | cons d l ih =>
    obtain ⟨h1, h2⟩ := List.pairwise_cons.mp h
    rw [List.flatMap_cons, List.pairwise_append]
    refine ⟨?_, ih (fun c hc => hn c (List.mem_cons_of_mem _ hc)) h2, fun a ha b hb => ?_⟩
    · unfold ext1
      rw [List.pairwise_map]
      exact (rng_asc q).imp fun h => lex_last d h
    · unfold ext1 at ha
      obtain ⟨t, _, rfl⟩ := List.mem_map.mp ha
      obtain ⟨d', hd', hb2⟩ := List.mem_flatMap.mp hb
      unfold ext1 at hb2
      obtain ⟨t', _, rfl⟩ := List.mem_map.mp hb2
      exact lex_app (by rw [hn d List.mem_cons_self, hn d' (List.mem_cons_of_mem _ hd')]) (h1 d' hd') _ _
theorem asc_gen : ∀ (ps : List (Int × Int)) (l : List (List Int)) (n : Nat), (∀ c ∈ l, c.length = n) → Asc l → Asc (ps.foldl stepC l)
  | [], l, n, _, h => h
  | q :: ps, l, n, hn, h => asc_gen ps (stepC l q) (n + 1) (fun c hc => by
    obtain ⟨d, t, hd, _, _, rfl⟩ := stepC_mem.mp hc
    rw [List.length_append, hn d hd]
    rfl) (asc_step q hn h)
theorem choices_asc (ps : List (Int × Int)) : Asc (choices ps) := asc_gen ps [[]] 0 (fun c hc => by rw [List.mem_singleton.mp hc]; rfl) (by unfold Asc; simp)
/-- what is less stands ahead -/
theorem ahead {ps : List (Int × Int)} {i j : Nat} {c d : List Int} (hi : (choices ps)[i]? = some c) (hj : (choices ps)[j]? = some d) (h : HT.lexLt d c = true) : j < i := by
  have hil := (List.getElem?_eq_some_iff.mp hi)
  have hjl := (List.getElem?_eq_some_iff.mp hj)
  obtain ⟨hil, ei⟩ := hil
  obtain ⟨hjl, ej⟩ := hjl
  have pw := List.pairwise_iff_getElem.mp (choices_asc ps)
  rcases Nat.lt_trichotomy j i with z | z | z
  · exact z
  · exfalso
    subst z
    rw [ei] at ej
    subst ej
    rw [lex_irr] at h
    cases h
  · exfalso
    have := pw i j hil hjl z
    rw [ei, ej] at this
    rw [lex_asym _ _ this] at h
    cases h
/-! longer pauses -/
def lgS : Stp → Stp
  | .p lo hi => .p lo (hi + 1)
  | s => s
def up1 (q : Int × Int) : Int × Int := (q.1, q.2 + 1)
theorem pz_lg (A : Plan) : (A.map lgS).filterMap pz = (A.filterMap pz).map up1 := by
  induction A with
  | nil => rfl
  | cons s A ih =>
    cases s with
    | w a => exact ih
    | r a => exact ih
    | p lo hi =>
      show (lo, hi + 1) :: (A.map lgS).filterMap pz = _
      rw [ih]
      rfl
theorem pauses_lg (A B : Plan) : pauses (A.map lgS) (B.map lgS) = (pauses A B).map up1 := by
  unfold pauses
  rw [← List.map_append, pz_lg]
theorem ch_up : ∀ {ps : List (Int × Int)} {c : List Int}, Ch ps c → Ch (ps.map up1) c
  | [], [], _ => True.intro
  | q :: ps, t :: c, h => ⟨h.1, by show t ≤ q.2 + 1; have := h.2.1; omega, ch_up h.2.2⟩
  | [], _ :: _, h => h.elim
  | _ :: _, [], h => h.elim
theorem plainS_lg (A : Plan) (x : Int) : ∀ r : Prg × List Int, (A.map lgS).foldl (stepF x) r = A.foldl (stepF x) r := by
  induction A with
  | nil => intro r; rfl
  | cons s A ih =>
    intro r
    rw [List.map_cons, List.foldl_cons, List.foldl_cons, ih]
    cases s <;> rfl
theorem ends_lg (L : Ln) (A B : Plan) (x : Int) (c : List Int) : ends L (A.map lgS) (B.map lgS) x c = ends L A B x c := by
  unfold ends
  congr 1
  funext i
  cases i
  · show ((A.map lgS).foldl (stepF x) ([], c)).1 = (A.foldl (stepF x) ([], c)).1
    rw [plainS_lg]
  · show ((B.map lgS).foldl (stepF x) ([], ((A.map lgS).foldl (stepF x) ([], c)).2)).1 = (B.foldl (stepF x) ([], (A.foldl (stepF x) ([], c)).2)).1
    rw [plainS_lg, plainS_lg]
theorem lg_ok {n : Int} {A : Plan} (h : PlanB n A) : PlanB (n + 1) (A.map lgS) := by
  refine ⟨by rw [List.length_map]; exact h.len, fun s hs => ?_⟩
  obtain ⟨t, ht, rfl⟩ := List.mem_map.mp hs
  have := h.each t ht
  cases t with
  | w a => exact this
  | r a => exact this
  | p lo hi => exact ⟨this.1, by have := this.2.1; show lo ≤ hi + 1; omega, by have := this.2.2; show hi + 1 ≤ n + 1; omega⟩
/-! the same words -/
def kst (x : Int) : Stp → Wd × Int
  | .w a => (.w, amI x a)
  | .r a => (.r, amI x a)
  | .p _ _ => (.p, 0)
theorem plain_key (x : Int) : ∀ (A : Plan) (r : Prg × List Int), ((A.foldl (stepF x) r).1).map key = r.1.map key ++ A.map (kst x)
  | [], r => by simp
  | s :: A, r => by
    rw [List.foldl_cons, plain_key x A, List.map_cons]
    cases s <;> simp [stepF, kst, key]
theorem same_words (A B : Plan) (x : Int) (c d : List Int) : SameP (Pl A B x c) (Pl A B x d) := fun i => by
  cases i
  · show ((A.foldl (stepF x) ([], c)).1).map key = ((A.foldl (stepF x) ([], d)).1).map key
    rw [plain_key, plain_key]
  · show ((B.foldl (stepF x) ([], (plainS A x c).2)).1).map key = ((B.foldl (stepF x) ([], (plainS A x d).2)).1).map key
    rw [plain_key, plain_key]
theorem ends_stuck {L : Ln} {A B : Plan} {x : Int} {c d : List Int} (kl : LOk L) (hA : PlanOk A) (hB : PlanOk B) (hx : 1 ≤ x ∧ x ≤ 60) (hc : Ch (pauses A B) c) (hd : Ch (pauses A B) d) (i : Bool) : ends L A B x c i = none ↔ ends L A B x d i = none := by
  have f1 := plF hA hB hx hc
  have f2 := plF hA hB hx hd
  exact stuck_same kl f1.pok f2.pok f1.rm f2.rm (same_words A B x c d) i
theorem ends_le1 {L : Ln} {A B : Plan} {x : Int} {c : List Int} (kl : LOk L) (hA : PlanOk A) (hB : PlanOk B) (hx : 1 ≤ x ∧ x ≤ 60) (hc : Ch (pauses A B) c) {i : Bool} {e : Int} (h : ends L A B x c i = some e) : e ≤ 900000 :=
  ends_le kl (plF hA hB hx hc).pok (plF hA hB hx hc).rm i e h
/-! counting -/
theorem cnt_le {w : Int} (hw : 1 ≤ w) {ps : List (Int × Int)} (hl : ps.length ≤ 2) (h : ∀ q ∈ ps, q.1 ≤ q.2 ∧ q.2 - q.1 + 1 ≤ w) : cntC ps ≤ w * w := by
  have e1 : ∀ a b : Int, 1 ≤ a → a ≤ w → 1 ≤ b → b ≤ w → a * b ≤ w * w := fun a b h1 h2 h3 h4 => by
    have x1 : a * b ≤ w * b := Int.mul_le_mul_of_nonneg_right h2 (by omega)
    have x2 : w * b ≤ w * w := Int.mul_le_mul_of_nonneg_left h4 (by omega)
    omega
  have e0 : 1 ≤ w * w := by
    have := e1 1 1 (by omega) hw (by omega) hw
    omega
  match ps, hl with
  | [], _ => exact e0
  | [q], _ =>
    obtain ⟨h1, h2⟩ := h q List.mem_cons_self
    have := e1 1 (q.2 - q.1 + 1) (by omega) hw (by omega) h2
    exact this
  | [q, r], _ =>
    obtain ⟨h1, h2⟩ := h q List.mem_cons_self
    obtain ⟨h3, h4⟩ := h r (List.mem_cons_of_mem _ List.mem_cons_self)
    have := e1 (q.2 - q.1 + 1) (r.2 - r.1 + 1) (by omega) h2 (by omega) h4
    show 1 * (q.2 - q.1 + 1) * (r.2 - r.1 + 1) ≤ _
    rw [Int.one_mul]
    exact this
  | _ :: _ :: _ :: _, hl => exact absurd hl (by simp)
theorem cnt_wide {A B : Plan} (hA : PlanOk A) (hB : PlanOk B) (wA : Wd9 A) (wB : Wd9 B) (hn : pzN A + pzN B ≤ 2) : cntC (pauses A B) ≤ 400 := by
  have := cnt_le (w := 10) (by decide) (ps := pauses A B) (by rw [pz_app]; exact hn) fun q hq => by
    have h1 := pauses_ok hA hB hq
    unfold pauses at hq
    rw [List.filterMap_append] at hq
    rcases List.mem_append.mp hq with z | z
    · have := wA q z
      omega
    · have := wB q z
      omega
  omega
theorem cnt_long {A B : Plan} (hA : PlanOk A) (hB : PlanOk B) (wA : Wd9 A) (wB : Wd9 B) (hn : pzN A + pzN B ≤ 2) : cntC (pauses (A.map lgS) (B.map lgS)) ≤ 400 := by
  rw [pauses_lg]
  have := cnt_le (w := 11) (by decide) (ps := (pauses A B).map up1) (by rw [List.length_map, pz_app]; exact hn) fun q hq => by
    obtain ⟨q0, hq0, rfl⟩ := List.mem_map.mp hq
    have h1 := pauses_ok hA hB hq0
    unfold pauses at hq0
    rw [List.filterMap_append] at hq0
    show q0.1 ≤ q0.2 + 1 ∧ q0.2 + 1 - q0.1 + 1 ≤ 11
    rcases List.mem_append.mp hq0 with z | z
    · have := wA q0 z
      omega
    · have := wB q0 z
      omega
  omega
/-! bare plans -/
def bareP (A : Plan) : Plan := A.filter fun s => (pz s).isNone
theorem bare_pz (A : Plan) : (bareP A).filterMap pz = [] := by
  rw [List.filterMap_eq_nil_iff]
  intro s hs
  have := (List.mem_filter.mp hs).2
  cases q : pz s with
  | none => rfl
  | some v => rw [q] at this; cases this
theorem bare_pauses (A B : Plan) : pauses (bareP A) (bareP B) = [] := by
  unfold pauses
  rw [List.filterMap_append, bare_pz, bare_pz]
  rfl
theorem bare_ok {n : Int} {A : Plan} (h : PlanB n A) : PlanB n (bareP A) := ⟨Nat.le_trans (List.length_filter_le _ _) h.len, fun s hs => h.each s (List.mem_filter.mp hs).1⟩
theorem bare_col (L : Ln) (A B : Plan) (x : Int) (b : Bool) : colE L (bareP A) (bareP B) x b = [ends L (bareP A) (bareP B) x [] b] := by
  unfold colE
  rw [bare_pauses]
  rfl
theorem late_one {e o : Option Int} (h : Late [e] o) : o = e := by
  cases o with
  | none =>
    have := h.1.mp rfl
    exact List.mem_singleton.mp this
  | some m => exact List.mem_singleton.mp (h.2 m rfl).1
theorem soon_one {e o : Option Int} (h : Soon [e] o) : o = e := by
  cases o with
  | none => exact (h.1.mp rfl e List.mem_cons_self).symm
  | some m => exact List.mem_singleton.mp (h.2 m rfl).1
/-! what the law asks of the numbers -/
theorem col_mem {L : Ln} {A B : Plan} {x : Int} {b : Bool} {c : List Int} (h : Ch (pauses A B) c) : ends L A B x c b ∈ colE L A B x b := List.mem_map.mpr ⟨c, ch_in h, rfl⟩
theorem col_of {L : Ln} {A B : Plan} {x : Int} {b : Bool} {o : Option Int} (h : o ∈ colE L A B x b) : ∃ c, Ch (pauses A B) c ∧ ends L A B x c b = o := by
  obtain ⟨c, hc, e⟩ := List.mem_map.mp h
  exact ⟨c, choices_ch hc, e⟩
theorem lg_col {L : Ln} {A B : Plan} {x : Int} {b : Bool} {o : Option Int} (h : o ∈ colE L A B x b) : o ∈ colE L (A.map lgS) (B.map lgS) x b := by
  obtain ⟨c, hc, e⟩ := col_of h
  rw [← e, ← ends_lg]
  exact col_mem (by rw [pauses_lg]; exact ch_up hc)
theorem late_wide {L : Ln} {A B : Plan} {x : Int} {b : Bool} {o1 o2 : Option Int} {n : Int} (kl : LOk L) (hA : PlanB n A) (hB : PlanB n B) (hn : n ≤ 59) (hx : 1 ≤ x ∧ x ≤ 60) (h1 : Late (colE L A B x b) o1) (h2 : Late (colE L (A.map lgS) (B.map lgS) x b) o2) {m : Int} (hm : o1 = some m) : ∃ m2, o2 = some m2 ∧ m ≤ m2 := by
  obtain ⟨k1, k2⟩ := h1.2 m hm
  obtain ⟨c, hc, e⟩ := col_of k1
  cases o2 with
  | some m2 => exact ⟨m2, rfl, (h2.2 m2 rfl).2 m (lg_col k1)⟩
  | none =>
    exfalso
    obtain ⟨d, hd, e2⟩ := col_of (h2.1.mp rfl)
    have hc2 : Ch (pauses (A.map lgS) (B.map lgS)) c := by rw [pauses_lg]; exact ch_up hc
    have := (ends_stuck kl ((lg_ok hA).ok (by omega)) ((lg_ok hB).ok (by omega)) hx hd hc2 b).mp e2
    rw [ends_lg, e] at this
    cases this
theorem soon_wide {L : Ln} {A B : Plan} {x : Int} {b : Bool} {o1 o2 : Option Int} (h1 : Soon (colE L A B x b) o1) (h2 : Soon (colE L (A.map lgS) (B.map lgS) x b) o2) {m : Int} (hm : o1 = some m) : ∃ m2, o2 = some m2 ∧ m2 ≤ m := by
  obtain ⟨k1, k2⟩ := h1.2 m hm
  cases o2 with
  | some m2 => exact ⟨m2, rfl, (h2.2 m2 rfl).2 m (lg_col k1)⟩
  | none =>
    have := h2.1.mp rfl _ (lg_col k1)
    cases this
end SH
end
section
namespace SH
open PySem PySem.Spec PyProof.Rows L2
open LamX (ExtN Tabs TabB)
section
variable {P : Program} {w : World} {G : Gl5} {mg : Str → Option Value} {base : Heap}

def sp_right (G : Gl5) (tP : Addr) : Sp := fun vs H Q _ => ∃ a, vs = [.ref a] ∧ MillAt H a ∧ TbOk tP H ∧ ∀ H', Xr a H H' → MillAt H' a → TbOk tP H' → Q (.bl true) H'
theorem ne_lst {a b : Addr} {H : Hp} {o : HO} (m : MillAt H a) (h : H b = some o) (n : ∀ ys, o ≠ .lst ys) : b ≠ a := fun z => by
  obtain ⟨x, y, u, e⟩ := m
  rw [z, e] at h
  exact n _ (Option.some.inj h).symm
theorem TbOk.but {tP F : Addr} {ys : List V} {H H' : Hp} (t : TbOk tP H) (hF : H F = some (.lst ys)) (k : But F H H') : TbOk tP H' := fun p hp => by
  obtain ⟨ps, h1, h2, h3⟩ := t p hp
  refine ⟨ps, k _ _ h1 (fun z => by rw [z, hF] at h1; cases h1), h2, fun pos cv hc => ?_⟩
  obtain ⟨c, e1, e2⟩ := h3 pos cv hc
  exact ⟨c, e1, k _ _ e2 (fun z => by rw [z, hF] at e2; unfold LamX.CodeO at e2; cases e2)⟩
theorem Arg.keep {G : Gl5} {H H' : Hp} {ln p q : Addr} {L : Ln} {A B : Plan} {x : Int} (a : Arg G H ln p q L A B x) (k1 : ∀ b C dx fs, H b = some (.ins C dx fs) → H' b = some (.ins C dx fs)) (k2 : ∀ b ys, H b = some (.tup ys) → H' b = some (.tup ys)) : Arg G H' ln p q L A B x :=
  ⟨let ⟨se, l⟩ := a.line; ⟨se, l.same k1⟩, a.lok, TT2.ext a.pA k2, a.oA, TT2.ext a.pB k2, a.oB, a.x1⟩
/-- what the law's turns keep -/
structure Fr (G : Gl5) (tP a : Addr) (H0 Hb : Hp) (ln pl p q : Addr) (L : Ln) (A B : Plan) (x : Int) (H : Hp) : Prop where
  ar : Arg G H ln p q L A B x
  hp : H pl = some (.lst [.ref p, .ref q])
  np : pl ≠ a
  m : MillAt H a
  t : TbOk tP H
  x : Xr a H0 H
  tk : ∀ b ys, Hb b = some (.tup ys) → H b = some (.tup ys)
section
variable {tP a ln pl p q : Addr} {H0 Hb H H' : Hp} {L : Ln} {A B : Plan} {x : Int}
theorem Fr.xr (f : Fr G tP a H0 Hb ln pl p q L A B x H) (k : Xr a H H') (m' : MillAt H' a) (t' : TbOk tP H') : Fr G tP a H0 Hb ln pl p q L A B x H' :=
  have k2 : ∀ b ys, H b = some (.tup ys) → H' b = some (.tup ys) := fun _ _ h => k.tup h (ne_lst f.m h fun _ z => by cases z)
  ⟨f.ar.keep (fun _ _ _ _ h => k.ins h (ne_lst f.m h fun _ z => by cases z)) k2, k.lst f.hp f.np, f.np, m', t', f.x.trans k, fun b ys h => k2 b ys (f.tk b ys h)⟩
theorem Fr.ext (f : Fr G tP a H0 Hb ln pl p q L A B x H) (e : ExtN H H') (t' : TbOk tP H') : Fr G tP a H0 Hb ln pl p q L A B x H' := f.xr (Xr.ext e) (f.m.ext e) t'
theorem Fr.mo (f : Fr G tP a H0 Hb ln pl p q L A B x H) (mo : Mo a H H') : Fr G tP a H0 Hb ln pl p q L A B x H' :=
  f.xr (fun b o h n _ => mo.but b o h n) mo.mill (let ⟨_, _, _, e⟩ := f.m; TbOk.but f.t e mo.but)
theorem Fr.same (f : Fr G tP a H0 Hb ln pl p q L A B x H) (e : Same H H') : Fr G tP a H0 Hb ln pl p q L A B x H' := f.ext (exOf e) (TbOk.same f.t e)
theorem Fr.put {F : Addr} {ys zs : List V} (f : Fr G tP a H0 Hb ln pl p q L A B x H) (hF : H F = some (.lst ys)) (n0 : ∀ o, H0 F = some o → ¬ ∀ ps, o ≠ .tbl ps) (nl : F ≠ pl) (na : F ≠ a) : Fr G tP a H0 Hb ln pl p q L A B x (upd H F (.lst zs)) :=
  have k : ∀ {b : Addr} {o : HO}, H b = some o → b ≠ F → upd H F (.lst zs) b = some o := fun h n => by rw [upd_ne n]; exact h
  have n2 : ∀ {b : Addr} {o : HO}, H b = some o → (∀ us, o ≠ .lst us) → b ≠ F := fun h n z => by rw [z, hF] at h; exact n _ (Option.some.inj h).symm
  ⟨f.ar.keep (fun _ _ _ _ h => k h (n2 h fun _ z => by cases z)) (fun _ _ h => k h (n2 h fun _ z => by cases z)), k f.hp nl.symm, f.np, let ⟨x, y, z, e⟩ := f.m; ⟨x, y, z, k e na.symm⟩, TbOk.but f.t hF But.upd,
    fun b o h n t => k (f.x b o h n t) (fun z => n0 o (z ▸ h) t), fun b ys h => k (f.tk b ys h) (n2 (f.tk b ys h) fun _ z => by cases z)⟩
theorem Fr.re (f : Fr G tP a H0 Hb ln pl p q L A B x H) : Fr G tP a H0 H ln pl p q L A B x H := ⟨f.ar, f.hp, f.np, f.m, f.t, f.x, fun _ _ h => h⟩
end
theorem y_parE {i j : Nat} {ar : TA} {t2 : TS} {D : Ends} {σ : L2.St} {H : Hp} (h : ar σ H fun vs H1 => ∃ v w, vs = [v, w] ∧ t2 D ((σ.set i (some v)).set j (some w)) H1) : tSeq (tPar i j ar) t2 D σ H := h
theorem y_par3E {i j l : Nat} {ar : TA} {t2 : TS} {D : Ends} {σ : L2.St} {H : Hp} (h : ar σ H fun vs H1 => ∃ u v w, vs = [u, v, w] ∧ t2 D (((σ.set i (some u)).set j (some v)).set l (some w)) H1) : tSeq (tPar3 i j l ar) t2 D σ H := h
theorem w_cbV {r : List V → Hp → VK → Prop} {t1 t2 : TE} {v1 : V} {σ : L2.St} {H : Hp} {Q : VK} (h1 : Val t1 σ H v1) (h2 : t2 σ H fun y H2 => r [v1, y] H2 Q) : tCB r (tCons t1 (tCons t2 tNil)) σ H Q := h1 _ h2
/-- a comprehension over a tuple made on the spot -/
theorem x_lcPTE {K : PySem.W.Frag} {σ : L2.St} {H1 : Hp} {tt : L2.TT} {te tl : TE} {vs : List Nat} {Q : VK} {n : Nat}
    (h : tl σ H1 fun x H2 => ∃ a ys, x = .ref a ∧ (∀ H', Same H2 H' → SqT K H' a ys) ∧ ∃ ac : Nat → List V, ac 0 = [] ∧ (∀ i, i < ys.length → (ac i).length < sizeLine) ∧
      (∀ i x H', ys[i]? = some x → Same H2 H' → wipe ((wipe σ vs).set n (some x)) vs = wipe σ vs ∧ ∃ b, Ans tt ((wipe σ vs).set n (some x)) H' b ∧ (b = true → ∃ v, Val te ((wipe σ vs).set n (some x)) H' v ∧ ac (i + 1) = ac i ++ [v]) ∧ (b = false → ac (i + 1) = ac i)) ∧
      ∀ D H', H2 D = none → H' D = some (.lst (ac ys.length)) → Same H2 H' → Q (.ref D) H')
    (mono : ∀ {Q1 Q2 : VK}, tl σ H1 Q1 → (∀ v H', Q1 v H' → Q2 v H') → tl σ H1 Q2) : tLc (iTup K tl) (gName n) tt te vs σ H1 Q :=
  mono h fun x H2 ⟨a, ys, e, hs, ac, a0, al, turn, hd⟩ => ⟨a, e, ⟨_, hs _ (Same.refl _)⟩, fun D hD => lcp walk_tup hD hs ac a0 al (fun i x H' hx e => ⟨rfl, turn i x H' hx e⟩) gName_mono (fun H' q1 q2 => hd D H' hD q1 q2)⟩
theorem bnd_mem {lt so : Bool → Option Int} {v : V} (hv : v ∈ ((endV lt ++ endV so).filter fun v => !decide (v = .non)).map id ++ [.int 9]) (h1 : ∀ b m, lt b = some m → m ≤ 900000) (h2 : ∀ b m, so b = some m → m ≤ 900000) : ∃ z, v = .int z ∧ z ≤ 900000 := by
  rcases List.mem_append.mp hv with h | h
  · rw [List.map_id] at h
    obtain ⟨h3, h4⟩ := List.mem_filter.mp h
    have hn : v ≠ .non := fun z => by
      rw [z] at h4
      exact absurd h4 (by decide)
    have key : ∀ o : Option Int, v = ov o → (∀ m, o = some m → m ≤ 900000) → ∃ z, v = .int z ∧ z ≤ 900000 := fun o e k => by
      cases o with
      | none => exact absurd e hn
      | some m => exact ⟨m, e, k m rfl⟩
    rcases List.mem_append.mp h3 with h5 | h5
    · rcases List.mem_cons.mp h5 with e | h6
      · exact key _ e (h1 false)
      · exact key _ (List.mem_singleton.mp h6) (h1 true)
    · rcases List.mem_cons.mp h5 with e | h6
      · exact key _ e (h2 false)
      · exact key _ (List.mem_singleton.mp h6) (h2 true)
  · exact ⟨9, List.mem_singleton.mp h, by decide⟩
theorem a_isN {x : V} {i : Nat} {σ : L2.St} {H : Hp} {b : Bool} (h : σ[i]? = some (some x)) (e : decide (x = V.non) = b) : Ans (tTest (tOp (fun x y H Q => y = .non ∧ Q (.bl (decide (x = .non))) H) (tVar i) (tC .non))) σ H b := a_T (v_is (v_isN (v_var h)) (congrArg V.bl e))
theorem a_ntN {x : V} {i : Nat} {σ : L2.St} {H : Hp} {b : Bool} (h : σ[i]? = some (some x)) (e : decide (x = V.non) = !b) : Ans (tTest (tOp (fun x y H Q => y = .non ∧ Q (.bl (!decide (x = .non))) H) (tVar i) (tC .non))) σ H b := a_T (v_is (v_notN (v_var h)) (congrArg V.bl (by rw [e, Bool.not_not])))
theorem isN_ov (o : Option Int) : decide (ov o = V.non) = o.isNone := by
  cases o with
  | none => exact decide_eq_true rfl
  | some m => exact decide_eq_false fun z => by cases z
theorem isN_ref (r : Addr) : decide (V.ref r = V.non) = false := decide_eq_false fun z => by cases z
theorem isN_non : decide (V.non = V.non) = true := decide_eq_true rfl
theorem v_ltT {K : PySem.W.Frag} {ta tb : TE} {σ : L2.St} {H : Hp} {a b : Addr} {ns ms : List Int} (ha : Val ta σ H (.ref a)) (hb : Val tb σ H (.ref b)) (h1 : SqT K H a (ns.map V.int)) (h2 : SqT K H b (ms.map V.int)) : Val (tOp (rLtT K) ta tb) σ H (.bl (HT.lexLt ns ms)) := fun _ q => ha _ (hb _ ⟨_, _, _, _, rfl, rfl, h1, h2, q⟩)
theorem y_whenS {tt : L2.TT} {t1 t2 : TS} {D : Ends} {σ : L2.St} {H : Hp} {b : Bool} (Mid : L2.St → Hp → Prop) (h : Ans tt σ H b) (q : ∀ σ' H', Mid σ' H' → t2 D σ' H') (h1 : b = true → (∀ σ' H', Mid σ' H' → t2 D σ' H') → t1 { D with nx := t2 D } σ H) (h2 : b = false → Mid σ H) : tSeq (tIfS tt t1 tNext) t2 D σ H :=
  y_when h (fun z => h1 z q) fun z => q _ _ (h2 z)
theorem Fr.rb {tP a ln pl p q : Addr} {H0 Hb H1 H2 : Hp} {L : Ln} {A B : Plan} {x : Int} (f : Fr G tP a H0 Hb ln pl p q L A B x H1) (g : Fr G tP a H0 H1 ln pl p q L A B x H2) : Fr G tP a H0 Hb ln pl p q L A B x H2 := ⟨g.ar, g.hp, g.np, g.m, g.t, g.x, fun b ys h => g.tk b ys (f.tk b ys h)⟩
theorem Fr.p0 {tP a ln pl p q : Addr} {H0 Hb H : Hp} {L : Ln} {A B : Plan} {x : Int} (f : Fr G tP a H0 Hb ln pl p q L A B x H) {σ : L2.St} (h : σ[2]? = some (some (V.ref pl))) : Val (tOp (rIxL G.K) (tVar 2) (tC (.int 0))) σ H (.ref p) := v_sqL (v_var h) v_c (SqL.of f.hp) rfl
theorem Fr.p1 {tP a ln pl p q : Addr} {H0 Hb H : Hp} {L : Ln} {A B : Plan} {x : Int} (f : Fr G tP a H0 Hb ln pl p q L A B x H) {σ : L2.St} (h : σ[2]? = some (some (V.ref pl))) : Val (tOp (rIxL G.K) (tVar 2) (tC (.int 1))) σ H (.ref q) := v_sqL (v_var h) v_c (SqL.of f.hp) rfl
theorem w_fld {K : PySem.W.Frag} {te : TE} {f : Str} {σ : L2.St} {H : Hp} {Q : VK} (h : te σ H fun x H1 => ∃ a C dx fs v, x = .ref a ∧ H1 a = some (.ins C dx fs) ∧ Cls K C ∧ NoAttr K C f ∧ fs.lookup f = some v ∧ Q v H1) : tFld K te f σ H Q := h
theorem x_ifB {te : TE} {t1 t2 : TS} {D : Ends} {σ : L2.St} {H : Hp} (h : te σ H fun x H1 => ∃ k, x = .bl k ∧ (if k = true then t1 D σ H1 else t2 D σ H1)) : tIfS (tB te) t1 t2 D σ H := h
def ltO : Option Int → Option Int → Bool
  | some m, some l => decide (m < l)
  | _, _ => false
theorem a_isO {o : Option Int} {i : Nat} {σ : L2.St} {H : Hp} (h : σ[i]? = some (some (ov o))) : Ans (tTest (tOp (fun x y H Q => y = .non ∧ Q (.bl (decide (x = .non))) H) (tVar i) (tC .non))) σ H o.isNone := a_isN h (isN_ov o)
theorem a_ntO {o : Option Int} {i : Nat} {σ : L2.St} {H : Hp} (h : σ[i]? = some (some (ov o))) : Ans (tTest (tOp (fun x y H Q => y = .non ∧ Q (.bl (!decide (x = .non))) H) (tVar i) (tC .non))) σ H o.isSome := a_ntN h (by rw [isN_ov]; cases o <;> rfl)
theorem a_ltO {o u : Option Int} {i j : Nat} {σ : L2.St} {H : Hp} (h1 : σ[i]? = some (some (ov o))) (h2 : σ[j]? = some (some (ov u))) (n1 : o.isSome = true) (n2 : u.isSome = true) : Ans (tTest (tOp (rI0 fun i j => .bl (decide (i < j))) (tVar i) (tVar j))) σ H (ltO o u) := by
  cases o with
  | none => cases n1
  | some m =>
    cases u with
    | none => cases n2
    | some l => exact a_T (v_lt (i := m) (j := l) (v_var h1) (v_var h2))
theorem a_gtO {o u : Option Int} {i j : Nat} {σ : L2.St} {H : Hp} (h1 : σ[i]? = some (some (ov o))) (h2 : σ[j]? = some (some (ov u))) (n1 : o.isSome = true) (n2 : u.isSome = true) : Ans (tTest (tOp (rI0 fun i j => .bl (decide (j < i))) (tVar i) (tVar j))) σ H (ltO u o) := by
  cases o with
  | none => cases n1
  | some m =>
    cases u with
    | none => cases n2
    | some l => exact a_T (v_gt (i := m) (j := l) (v_var h1) (v_var h2))
theorem someO {o : Option Int} (h : o.isNone = false) : o.isSome = true := by
  cases o with
  | none => cases h
  | some _ => rfl
theorem end1 {lo e hi : Option Int} (k1 : e = none → hi = none) (k2 : ∀ m, e = some m → ∃ l, lo = some l ∧ l ≤ m) : ((e.isNone && hi.isSome) || (e.isSome && (lo.isNone || ltO e lo))) = false := by
  cases e with
  | none =>
    rw [k1 rfl]
    rfl
  | some m =>
    obtain ⟨l, rfl, h⟩ := k2 m rfl
    have : ltO (some m) (some l) = false := decide_eq_false (by omega)
    rw [this]
    rfl
theorem end2 {e hi : Option Int} (k : ∀ m h, e = some m → hi = some h → m ≤ h) : (e.isSome && (hi.isSome && ltO hi e)) = false := by
  cases e with
  | none => rfl
  | some m =>
    cases hi with
    | none => rfl
    | some h =>
      have : ltO (some h) (some m) = false := decide_eq_false (by have := k m h rfl rfl; omega)
      rw [this]
      rfl
theorem endV_at3 {so e lt : Bool → Option Int} {j : Nat} {x y z : V} (h1 : (endV so)[j]? = some x) (h2 : (endV e)[j]? = some y) (h3 : (endV lt)[j]? = some z) : ∃ b, x = ov (so b) ∧ y = ov (e b) ∧ z = ov (lt b) := by
  match j, h1, h2, h3 with
  | 0, h1, h2, h3 => exact ⟨false, (Option.some.inj h1).symm, (Option.some.inj h2).symm, (Option.some.inj h3).symm⟩
  | 1, h1, h2, h3 => exact ⟨true, (Option.some.inj h1).symm, (Option.some.inj h2).symm, (Option.some.inj h3).symm⟩
  | n + 2, h1, _, _ => simp [endV] at h1
theorem filter_np : ∀ C : Plan, (C.map stpV).filter (fun y => !isPv y) = (bareP C).map stpV
  | [] => rfl
  | s :: C => by
    have ih := filter_np C
    unfold bareP at ih ⊢
    rw [List.map_cons, List.filter_cons, List.filter_cons, ih]
    cases s <;> rfl
def pdO : Option Int → PyData
  | none => .none
  | some m => .int m
theorem dp_ends {K : PySem.W.Frag} {H : Hp} {d : Addr} {E : Bool → Option Int} (h : H d = some (.tup (endV E))) : Dp K H (.ref d) (.tuple [pdO (E false), pdO (E true)]) :=
  have one : ∀ o : Option Int, Dp K H (ov o) (pdO o) := fun o => by
    cases o with
    | none => exact Dp.non
    | some m => exact Dp.int m
  Dp.tup (SqT.of h) (DpAll.cons (one _) (DpAll.cons (one _) DpAll.nil))
theorem pd_shaped (a b : Option Int) : SeqAt.shaped (.tuple [pdO a, pdO b]) = true := by
  cases a <;> cases b <;> rfl
theorem pd_eq (a b : Option Int) : PyData.eqv (.tuple [pdO a, pdO b]) (.tuple [pdO a, pdO b]) = true := by
  cases a <;> cases b <;> simp [pdO, PyData.eqv, PyData.eqvAll]
theorem end3 {o u : Option Int} (k : ∀ m, o = some m → ∃ m2, u = some m2 ∧ m ≤ m2) : (o.isSome && (u.isNone || ltO u o)) = false := by
  cases o with
  | none => rfl
  | some m =>
    obtain ⟨m2, rfl, h⟩ := k m rfl
    have : ltO (some m2) (some m) = false := decide_eq_false (by omega)
    rw [this]
    rfl
theorem endV_at2 {so e : Bool → Option Int} {j : Nat} {x y : V} (h1 : (endV so)[j]? = some x) (h2 : (endV e)[j]? = some y) : ∃ b, x = ov (so b) ∧ y = ov (e b) := by
  match j, h1, h2 with
  | 0, h1, h2 => exact ⟨false, (Option.some.inj h1).symm, (Option.some.inj h2).symm⟩
  | 1, h1, h2 => exact ⟨true, (Option.some.inj h1).symm, (Option.some.inj h2).symm⟩
  | n + 2, h1, _ => simp [endV] at h1
abbrev N_law_right : List Str := ["_law_mill_here", "_law_made_here", "_law_plans_here", "_law_many", "_law_late", "_law_soon", "_law_bound", "_law_told_here", "_law_turn", "_law_ticks", "_law_ends_here", "_law_low_here", "_law_end", "_law_high_here", "_law_bare", "_law_longer", "_law_plan", "_law_steps", "_law_wide_late", "_law_wide_soon", "_law_first", "_law_last", "_law_each"]
theorem sc_law_right : FnScope N_law_right ["_law_mill_here"] (defScope s_law_right) := C8.fnScope_by (by decide +kernel)
theorem ok_law_right {tP : Addr} (T : Txt G mg) {f : Addr} {fd : FuncData} (F : FnP G.K "_law_right" "_law_right" s_law_right f fd) (hm : mg "_law_right" = some (.ref f)) (c_law_told : C8.Cal P w G.K mg base 4 "_law_told" (sp_told) []) (c_law_made : C8.Cal P w G.K mg base 7 "_law_made" (sp_made G) []) (c_law_plans : C8.Cal P w G.K mg base 4 "_law_plans" (sp_plans) []) (c_law_wide : C8.Cal P w G.K mg base 2 "_law_wide" (sp_wide) []) (c_law_grain : C8.Cal P w G.K mg base 1 "_law_grain" (sp_grain) []) (c_law_pick : C8.Cal P w G.K mg base 2 "_law_pick" (sp_pick) []) (c_law_choice : C8.Cal P w G.K mg base 2 "_law_choice" (sp_choice) []) (c_law_inside : C8.Cal P w G.K mg base 1 "_law_inside" (sp_inside) []) (c_latest : CalK P w G.K mg base 10 "latest" (sp_latest G tP) 3 ["x"] []) (c_earliest : CalK P w G.K mg base 10 "earliest" (sp_earliest G tP) 3 ["x"] []) (c_late_choice : CalK P w G.K mg base 10 "late_choice" (sp_late_choice G tP) 4 ["x"] []) (c_run : CalK P w G.K mg base 9 "run" (sp_run G tP) 3 ["x", "pauses"] []) (c_run1 : CalK P w G.K mg base 9 "run" (sp_run G tP) 3 ["x"] [.non]) : C8.Cal P w G.K mg base 11 "_law_right" (sp_right G tP) [] := by
  refine cal_mk F hm (F.bindsN fun _ _ _ _ _ _ us hl => match us, hl with | [_], _ => rfl) sc_law_right (fun vs H Q E h => ?_) (fun cdv A outer s H vs Q E hr h => ?_)
  · obtain ⟨a, rfl, hm, htb, q⟩ := h
    rfl
  · obtain ⟨a, rfl, hm, htb, q⟩ := h
    refine ⟨_, (pss_cons (ps_par3 (i := 1) (j := 2) (l := 3) rfl sc_law_right.nd rfl rfl rfl (by decide) (by decide) (by decide) rfl rfl rfl (pa_cons (C8.pe_c c_law_made hr (by decide) (by rfl) (pa_cons (C8.pe_c c_law_told hr (by decide) (by rfl) (pa_cons (pv 0) pa_nil)) pa_nil)) (pa_cons (C8.pe_c c_law_wide hr (by decide) (by rfl) (pa_cons (pv 0) (pa_cons (C8.pe_c c_law_plans hr (by decide) (by rfl) (pa_cons (pv 0) (pa_cons pe_bl pa_nil))) pa_nil))) (pa_cons (pe_op op_add pe_int (C8.pe_c c_law_grain hr (by decide) (by rfl) (pa_cons (pv 0) (pa_cons pe_int pa_nil)))) pa_nil))) (by rfl))
    (pss_cons (ps_par (i := 4) (j := 5) rfl sc_law_right.nd rfl rfl (by decide) rfl rfl (pa_cons (pe_cK c_latest hr (by decide) (by rfl) (pa_cons (pv 1) (pa_cons (pe_ix ix_list (pv 2) pe_int (fun _ _ => rfl)) (pa_cons (pe_ix ix_list (pv 2) pe_int (fun _ _ => rfl)) pa_nil))) (pk_cons (pv 3) pk_nil)) (pa_cons (pe_cK c_earliest hr (by decide) (by rfl) (pa_cons (pv 1) (pa_cons (pe_ix ix_list (pv 2) pe_int (fun _ _ => rfl)) (pa_cons (pe_ix ix_list (pv 2) pe_int (fun _ _ => rfl)) pa_nil))) (pk_cons (pv 3) pk_nil)) pa_nil)) (by rfl))
    (pss_cons (ps_set (i := 6) sc_law_right.nd rfl (Or.inl rfl) (pe_callB (call_max2 rfl) (by rfl) T.z_max (by decide +kernel) (pa_cons pe_int (pa_cons (pe_op op_sub (C8.pe_c c_law_pick hr (by decide) (by rfl) (pa_cons (pv 0) (pa_cons (pe_op op_cat (pe_lc (own := [("_law_end", 12)]) (g := gName 12) rfl sc_law_right.nd (pi_tupK (K := G.K) (pe_op (r := rCatA G.K) op_catA (pv 4) (pv 5)) rfl) (blkOk_by (own := [("_law_end", 12)]) (N := N_law_right) (sc := defScope s_law_right) (by decide +kernel)) (fun _ _ _ _ _ => (pg_name (i := 12) sc_law_right.nd rfl (Or.inl rfl))) (fun _ _ _ _ _ => (pts_one (pt_cmpR op_notN (pv 12) pe_non (nomark _)))) (fun _ _ _ _ _ => (pv 12))) (pe_lst (pa_cons pe_int pa_nil))) pa_nil))) (C8.pe_c c_law_grain hr (by decide) (by rfl) (pa_cons (pv 0) (pa_cons pe_int pa_nil)))) pa_nil))))
    (pss_cons (ps_set (i := 7) sc_law_right.nd rfl (Or.inl rfl) (pe_cK c_late_choice hr (by decide) (by rfl) (pa_cons (pv 1) (pa_cons (pe_ix ix_list (pv 2) pe_int (fun _ _ => rfl)) (pa_cons (pe_ix ix_list (pv 2) pe_int (fun _ _ => rfl)) (pa_cons (pv 6) pa_nil)))) (pk_cons (pv 3) pk_nil)))
    (pss_cons (ps_for PassesOwn.never rfl (pi_range1 (by rfl) T.z_range (pa_cons pe_int pa_nil)) (pg_name (i := 8) sc_law_right.nd rfl (Or.inl rfl)) (pss_cons (ps_set (i := 9) sc_law_right.nd rfl (Or.inl rfl) (C8.pe_c c_law_choice hr (by decide) (by rfl) (pa_cons (pv 0) (pa_cons (pv 2) pa_nil))))
    (pss_cons (ps_set (i := 10) sc_law_right.nd rfl (Or.inl rfl) (pe_fld (pe_cK c_run hr (by decide) (by rfl) (pa_cons (pv 1) (pa_cons (pe_ix ix_list (pv 2) pe_int (fun _ _ => rfl)) (pa_cons (pe_ix ix_list (pv 2) pe_int (fun _ _ => rfl)) pa_nil))) (pk_cons (pv 3) (pk_cons (pv 9) pk_nil))) rfl))
    (pss_cons (ps_for PassesOwn.never rfl (pi_zip3 (by rfl) T.z_zip (pa_cons (pv 5) (pa_cons (pv 10) (pa_cons (pv 4) pa_nil)))) (pg_tup rfl (pgs_cons (pg_name (i := 11) sc_law_right.nd rfl (Or.inl rfl)) (pgs_cons (pg_name (i := 12) sc_law_right.nd rfl (Or.inl rfl)) (pgs_cons (pg_name (i := 13) sc_law_right.nd rfl (Or.inl rfl)) pgs_nil)))) (pss_cons (ps_if (PW.pt (pw_or (PW.pt (pw_and (pt_cmpR op_isN (pv 12) pe_non (nomark _)) (pw_and1 (pt_cmpR op_notN (pv 13) pe_non (nomark _))))) (pw_or1 (PW.pt (pw_and (pt_cmpR op_notN (pv 12) pe_non (nomark _)) (pw_and1 (PW.pt (pw_or (pt_cmpR op_isN (pv 11) pe_non (nomark _)) (pw_or1 (pt_cmpR op_lt (pv 12) (pv 11) (nomark _))))))))))) (pss_one (ps_ret pe_bl)) pss_nil)
    (pss_one (ps_if (PW.pt (pw_and (pt_cmpR op_notN (pv 12) pe_non (nomark _)) (pw_and (pt_cmpR op_notN (pv 13) pe_non (nomark _)) (pw_and1 (pt_cmpR op_gt (pv 12) (pv 13) (nomark _)))))) (pss_one (ps_ret pe_bl)) pss_nil))))
    (pss_one (ps_if (PW.pt (pw_and (PW.pt (pw_or (pt_cmpR op_isN (pv 7) pe_non (nomark _)) (pw_or1 (pt_cmpR (r := rLtT G.K) (op_ltT hr.units0) (pv 9) (pv 7) (nomark _))))) (pw_and1 (pt_not (pt_val (C8.pe_c c_law_inside hr (by decide) (by rfl) (pa_cons (pv 10) (pa_cons (pv 6) pa_nil)))))))) (pss_one (ps_ret pe_bl)) pss_nil))))))
    (pss_cons (ps_if (pt_cmpR op_notN (pv 7) pe_non (nomark _)) (pss_cons (ps_set (i := 10) sc_law_right.nd rfl (Or.inl rfl) (pe_fld (pe_cK c_run hr (by decide) (by rfl) (pa_cons (pv 1) (pa_cons (pe_ix ix_list (pv 2) pe_int (fun _ _ => rfl)) (pa_cons (pe_ix ix_list (pv 2) pe_int (fun _ _ => rfl)) pa_nil))) (pk_cons (pv 3) (pk_cons (pv 7) pk_nil))) rfl))
    (pss_one (ps_if (pt_val (C8.pe_c c_law_inside hr (by decide) (by rfl) (pa_cons (pv 10) (pa_cons (pv 6) pa_nil)))) (pss_one (ps_ret pe_bl)) pss_nil))) pss_nil)
    (pss_cons (ps_setLc (i := 14) (own := [("_law_plan", 16)]) (g := gName 16) (tt := tYes) rfl sc_law_right.nd rfl rfl (sw_true rfl rfl rfl (by decide +kernel)) (pi_list (pv 2)) (blkOk_by (own := [("_law_plan", 16)]) (N := N_law_right) (sc := defScope s_law_right) (by decide +kernel)) (fun _ _ _ _ _ => (pg_name (i := 16) sc_law_right.nd rfl (Or.inl rfl))) (fun _ _ _ _ _ => pts_nil) (fun _ _ _ _ _ => (pe_callTy (r := rTupK G.K) call_tupK (by rfl) T.z_tuple (by decide +kernel) (pa_cons (pe_lc (own := [("_law_each", 22)]) (g := gName 22) rfl sc_law_right.nd (pi_tupK (K := G.K) (pv 16) rfl) (blk_in (own := [("_law_each", 22)]) (N := N_law_right) (sc2 := (relS { kind := .function, names := [(".0", .local), ("_law_plan", .local), ("tuple", .globalImplicit)], isGenerator := false, isCoroutine := false, more := [] } (defScope s_law_right))) (by decide +kernel) rfl) (fun _ _ _ _ _ => (pg_name (i := 22) sc_law_right.nd rfl (Or.inl rfl))) (fun _ _ _ _ _ => (pts_one (pt_cmpR op_ne (pe_ix (r := rIxT G.K) ix_tup (pv 22) pe_int (fun _ _ => rfl)) pe_str (nomark _)))) (fun _ _ _ _ _ => (pv 22))) pa_nil))))
    (pss_cons (ps_set (i := 10) sc_law_right.nd rfl (Or.inl rfl) (pe_fld (pe_cK c_run1 hr (by decide) (by rfl) (pa_cons (pv 1) (pa_cons (pe_ix ix_list (pv 14) pe_int (fun _ _ => rfl)) (pa_cons (pe_ix ix_list (pv 14) pe_int (fun _ _ => rfl)) pa_nil))) (pk_cons (pv 3) pk_nil)) rfl))
    (pss_cons (ps_if (PW.pt (pw_or (pt_cmpR (r := rNeD G.K) (op_neD hr.units) (pe_cK c_latest hr (by decide) (by rfl) (pa_cons (pv 1) (pa_cons (pe_ix ix_list (pv 14) pe_int (fun _ _ => rfl)) (pa_cons (pe_ix ix_list (pv 14) pe_int (fun _ _ => rfl)) pa_nil))) (pk_cons (pv 3) pk_nil)) (pv 10) (nomark _)) (pw_or1 (pt_cmpR (r := rNeD G.K) (op_neD hr.units) (pe_cK c_earliest hr (by decide) (by rfl) (pa_cons (pv 1) (pa_cons (pe_ix ix_list (pv 14) pe_int (fun _ _ => rfl)) (pa_cons (pe_ix ix_list (pv 14) pe_int (fun _ _ => rfl)) pa_nil))) (pk_cons (pv 3) pk_nil)) (pv 10) (nomark _))))) (pss_one (ps_ret pe_bl)) pss_nil)
    (pss_cons (ps_set (i := 15) sc_law_right.nd rfl (Or.inl rfl) (pe_lst pa_nil))
    (pss_cons (ps_for PassesOwn.never rfl (pi_list (pv 2)) (pg_name (i := 16) sc_law_right.nd rfl (Or.inl rfl)) (pss_cons (ps_setLc (i := 17) (own := [("_law_each", 22)]) (g := gName 22) (tt := tYes) rfl sc_law_right.nd rfl rfl (sw_true rfl rfl rfl (by decide +kernel)) (pi_tupK (K := G.K) (pv 16) rfl) (blkOk_by (own := [("_law_each", 22)]) (N := N_law_right) (sc := defScope s_law_right) (by decide +kernel)) (fun _ _ _ _ _ => (pg_name (i := 22) sc_law_right.nd rfl (Or.inl rfl))) (fun _ _ _ _ _ => pts_nil) (fun _ _ _ _ _ => (pe_ifExp (pt_cmpR op_eq (pe_ix (r := rIxT G.K) ix_tup (pv 22) pe_int (fun _ _ => rfl)) pe_str (nomark _)) (pe_tup (pa_cons (pe_ix (r := rIxT G.K) ix_tup (pv 22) pe_int (fun _ _ => rfl)) (pa_cons (pe_ix (r := rIxT G.K) ix_tup (pv 22) pe_int (fun _ _ => rfl)) (pa_cons (pe_op op_add (pe_ix (r := rIxT G.K) ix_tup (pv 22) pe_int (fun _ _ => rfl)) pe_int) pa_nil)))) (pv 22))))
    (pss_one (ps_expr (pe_bm PySem.F.plainAttrs_list PySem.F.slot_list_append PySem.F.type_list_append mt_append (pv 15) (pa_cons (pe_callTy (r := rTupK G.K) call_tupK (by rfl) T.z_tuple (by decide +kernel) (pa_cons (pv 17) pa_nil)) pa_nil))))))
    (pss_cons (ps_par (i := 18) (j := 19) rfl sc_law_right.nd rfl rfl (by decide) rfl rfl (pa_cons (pe_cK c_latest hr (by decide) (by rfl) (pa_cons (pv 1) (pa_cons (pe_ix ix_list (pv 15) pe_int (fun _ _ => rfl)) (pa_cons (pe_ix ix_list (pv 15) pe_int (fun _ _ => rfl)) pa_nil))) (pk_cons (pv 3) pk_nil)) (pa_cons (pe_cK c_earliest hr (by decide) (by rfl) (pa_cons (pv 1) (pa_cons (pe_ix ix_list (pv 15) pe_int (fun _ _ => rfl)) (pa_cons (pe_ix ix_list (pv 15) pe_int (fun _ _ => rfl)) pa_nil))) (pk_cons (pv 3) pk_nil)) pa_nil)) (by rfl))
    (pss_cons (ps_for PassesOwn.never rfl (RZ.pi_zipA (by rfl) T.z_zip (pa_cons (pv 4) (pa_cons (pv 18) pa_nil))) (pg_tup rfl (pgs_cons (pg_name (i := 20) sc_law_right.nd rfl (Or.inl rfl)) (pgs_cons (pg_name (i := 21) sc_law_right.nd rfl (Or.inl rfl)) pgs_nil))) (pss_one (ps_if (PW.pt (pw_and (pt_cmpR op_notN (pv 20) pe_non (nomark _)) (pw_and1 (PW.pt (pw_or (pt_cmpR op_isN (pv 21) pe_non (nomark _)) (pw_or1 (pt_cmpR op_lt (pv 21) (pv 20) (nomark _)))))))) (pss_one (ps_ret pe_bl)) pss_nil)))
    (pss_one (ps_ret (pe_callB (r := rAll G.K) (cr_all rfl) (by rfl) T.z_all (by decide +kernel) (pa_cons (pe_lc (own := [("_law_first", 20), ("_law_last", 21)]) (g := gTup G.K 2 (gCons (gName 20) (gCons (gName 21) gNil))) (tt := tYes) rfl sc_law_right.nd (RZ.pi_zipA (by rfl) T.z_zip (pa_cons (pv 5) (pa_cons (pv 19) pa_nil))) (blkOk_by (own := [("_law_first", 20), ("_law_last", 21)]) (N := N_law_right) (sc := defScope s_law_right) (by decide +kernel)) (fun _ _ _ _ _ => (pg_tup rfl (pgs_cons (pg_name (i := 20) sc_law_right.nd rfl (Or.inl rfl)) (pgs_cons (pg_name (i := 21) sc_law_right.nd rfl (Or.inl rfl)) pgs_nil)))) (fun _ _ _ _ _ => pts_nil) (fun _ _ _ _ _ => ((pe_or (pe_cmpR op_isN (pv 20) pe_non (nomark _)) (pe_one ((pe_and (pe_cmpR op_notN (pv 21) pe_non (nomark _)) (pe_one (pe_cmpR op_le (pv 21) (pv 20) (nomark _)))))))))) pa_nil))))))))))))))))), ?_⟩
    refine y_par3E (w_consE (c_callE (w_consE (c_callE (w_cons (v_var rfl) (w_nil ⟨a, rfl, hm, fun t H1 sz wy tc td _ mo1 ht => w_nil ⟨t, sz, wy, tc, td, rfl, ht, fun ln H2 L e2 _ hL lok => ?_⟩⟩))))))
    have m2 := mo1.mill.same e2
    have x2 : Xr a H H2 := Xr.trans (fun b o h n _ => mo1.but b o h n) (Xr.same e2)
    have t2 : TbOk tP H2 := TbOk.same (let ⟨_, _, _, e⟩ := hm; TbOk.but htb e mo1.but) e2
    refine w_consE (c_callE (w_cons (v_var rfl) (w_consE (c_callE (w_cons (v_var rfl) (w_cons v_c (w_nil ⟨a, rfl, m2, fun d p0 q0 A0 B0 H3 mo3 _ hd3 hA0 bA0 hB0 bB0 => w_nil ⟨a, d, p0, q0, A0, B0, rfl, mo3.mill, hd3, hA0, bA0, hB0, bB0, fun pl p q1 A B H4 mo4 hpl0 hpl hA bA hB bB wA wB hn => ?_⟩⟩)))))))
    refine w_consE (w_opV v_c (g_call (v_var rfl) v_c mo4.mill (by decide) (by decide) fun g H5 g0 g1 mo5 => ⟨1, g, rfl, rfl, w_nil ⟨_, _, _, rfl, ?_⟩⟩))
    show tSeq _ _ _ [some (V.ref a), some (V.ref ln), some (V.ref pl), some (V.int (1 + g)), none, none, none, none, none, none, none, none, none, none, none, none, none, none, none, none, none, none, none] H5
    obtain ⟨x, hx⟩ : ∃ x, x = 1 + g := ⟨_, rfl⟩
    rw [← hx]
    have x1 : 1 ≤ x ∧ x ≤ 60 := by omega
    have mo25 := (mo3.trans mo4).trans mo5
    have npl : pl ≠ a := mo3.mill.ne hpl0
    have f5 : Fr G tP a H H5 ln pl p q1 L A B x H5 := by
      refine ⟨⟨?_, lok, PlanAt.butM mo5.but mo4.mill hA, bA.ok (by decide), PlanAt.butM mo5.but mo4.mill hB, bB.ok (by decide), x1⟩, mo5.but _ _ hpl npl, npl, mo5.mill, let ⟨_, _, _, e⟩ := m2; TbOk.but t2 e mo25.but, x2.trans (fun b o h n _ => mo25.but b o h n), fun _ _ h => h⟩
      obtain ⟨se, l⟩ := hL
      exact ⟨se, l.same fun b C dx fs h => mo25.but _ _ h (ne_lst m2 h fun _ z => by cases z)⟩
    clear hd3 hA0 bA0 hB0 bB0 mo1 ht mo25 mo3 mo4 mo5 t2 x2 m2 e2 hL hpl hA hB hpl0
    have oA := bA.ok (by decide : (17 : Int) ≤ 60)
    have oB := bB.ok (by decide : (17 : Int) ≤ 60)
    have cn : cntC (pauses A B) ≤ 400 := cnt_wide oA oB wA wB hn
    refine y_parE (w_consE (k_call (va_cons (v_var rfl) (va_cons (f5.p0 rfl) (va_cons (f5.p1 rfl) va_nil))) (va_cons (v_var rfl) va_nil) rfl rfl ⟨ln, p, q1, x, L, A, B, rfl, f5.ar, cn, f5.t, fun d1 H6 o1 o2 e6 t6 l1 l2 hd1 => ?_⟩))
    have f6 := f5.ext e6 t6
    refine w_consE (k_call (va_cons (v_var rfl) (va_cons (f6.p0 rfl) (va_cons (f6.p1 rfl) va_nil))) (va_cons (v_var rfl) va_nil) rfl rfl ⟨ln, p, q1, x, L, A, B, rfl, f6.ar, cn, f6.t, fun d2 H7 s1 s2 e7 t7 k1 k2 hd2 => w_nil ⟨_, _, rfl, ?_⟩⟩)
    have f7 := (f6.ext e7 t7).re
    have hd1 := e7 _ _ hd1 (fun _ z => by cases z)
    show tSeq _ _ _ [some (V.ref a), some (V.ref ln), some (V.ref pl), some (V.int x), some (V.ref d1), some (V.ref d2), none, none, none, none, none, none, none, none, none, none, none, none, none, none, none, none, none] H7
    obtain ⟨lt, hlt, hltL⟩ : ∃ lt : Bool → Option Int, H7 d1 = some (.tup (endV lt)) ∧ ∀ b, Late (colE L A B x b) (lt b) := ⟨fun b => bif b then o2 else o1, hd1, fun b => by cases b <;> assumption⟩
    obtain ⟨so, hso, hsoL⟩ : ∃ so : Bool → Option Int, H7 d2 = some (.tup (endV so)) ∧ ∀ b, Soon (colE L A B x b) (so b) := ⟨fun b => bif b then s2 else s1, hd2, fun b => by cases b <;> assumption⟩
    clear hd1 hd2 l1 l2 k1 k2 e6 e7 t6 t7 f6
    have hi1 : ∀ b m, lt b = some m → m ≤ 900000 := fun b m h => by
      obtain ⟨c, hc, e⟩ := col_of ((hltL b).2 m h).1
      exact ends_le1 lok oA oB x1 hc e
    have hi2 : ∀ b m, so b = some m → m ≤ 900000 := fun b m h => by
      obtain ⟨c, hc, e⟩ := col_of ((hsoL b).2 m h).1
      exact ends_le1 lok oA oB x1 hc e
    refine y_setE (w_cbV v_c (w_op (c_callE (w_cons (v_var rfl) (w_consE (w_op (x_lcPTE (w_opV (v_var rfl) (v_var rfl _ (cat_any (SqT.of hlt) (SqT.of hso) (by show (4 : Nat) ≤ sizeLine; decide) fun m H8 e8 sq => ⟨m, _, rfl, fun H' e => e.sqT sq, fun i => (((endV lt ++ endV so).take i).filter fun v => !decide (v = .non)).map id, rfl, fun i _ => Nat.lt_of_le_of_lt (acV_len (m := 4) (Nat.le_refl _)) (by decide), fun i y H' hy e => ⟨rfl, _, a_T (v_notN (v_var rfl)), fun hb => ⟨y, v_var rfl, ?_⟩, fun hb => ?_⟩, fun D H9 hD hD9 e9 => ?_⟩))) ?_)))))))
    · have z := acV_succ (p := fun v => !decide (v = .non)) (f := id) hy
      rw [if_pos hb] at z
      exact z
    · have z := acV_succ (p := fun v => !decide (v = .non)) (f := id) hy
      rw [if_neg (by rw [hb]; decide), List.append_nil] at z
      exact z
    · have hD9 : H9 D = some (.lst (((endV lt ++ endV so).filter fun v => !decide (v = .non)).map id)) := hD9
      refine w_lst (w_cons v_c (w_nil ⟨by decide, fun l hl => ?_⟩))
      have f9 := (f7.same e8).same e9
      have nDl : D ≠ l := ne_of_none hD9 hl
      have lac : (((endV lt ++ endV so).filter fun v => !decide (v = .non)).map id).length ≤ 4 := by
        rw [List.length_map]
        exact List.length_filter_le _ _
      have h5 : (1000 : Nat) ≤ sizeLine := by decide
      refine ⟨D, l, _, _, rfl, rfl, (Same.new hl) _ _ hD9, upd_same, ?_, fun c hc => ?_⟩
      · show _ + 1 ≤ _
        omega
      · have f10 := (f9.same (Same.new hl)).same (Same.new (o := .lst (((endV lt ++ endV so).filter fun v => !decide (v = .non)).map id ++ [.int 9])) hc)
        refine w_nil ⟨a, c, _, rfl, f10.m, upd_same, f9.m.ne (Same.free (Same.new hl) hc), by simp, ?_, fun v H11 hv mo11 => ?_⟩
        · rw [List.length_append]
          show _ + 1 < _
          omega
        · obtain ⟨z, rfl, hz⟩ := bnd_mem hv hi1 hi2
          have f11 := f10.mo mo11
          refine g_call (v_var rfl) v_c f11.m (by decide) (by decide) fun g3 H12 g30 g31 mo12 => ⟨z, g3, rfl, rfl, 0, z - g3, rfl, ?_⟩
          have f12 := f11.mo mo12
          obtain ⟨bd, hbd⟩ : ∃ bd : Int, bd = (if z - g3 > 0 then z - g3 else 0) := ⟨_, rfl⟩
          show tSeq _ _ _ [some (V.ref a), some (V.ref ln), some (V.ref pl), some (V.int x), some (V.ref d1), some (V.ref d2), some (V.int (if z - g3 > 0 then z - g3 else 0)), none, none, none, none, none, none, none, none, none, none, none, none, none, none, none, none] H12
          rw [← hbd]
          have bd0 : 0 ≤ bd ∧ bd ≤ 1000000 := by
            rw [hbd]
            split <;> omega
          refine y_setE (k_call (va_cons (v_var rfl) (va_cons (f12.p0 rfl) (va_cons (f12.p1 rfl) (va_cons (v_var rfl) va_nil)))) (va_cons (v_var rfl) va_nil) rfl rfl ⟨ln, p, q1, bd, x, L, A, B, rfl, f12.ar, cn, bd0.1, bd0.2, f12.t, fun tv H13 e13 t13 hlc => ?_⟩)
          have f13' := f12.ext e13 t13
          have hlt13 := f13'.tk _ _ hlt
          have hso13 := f13'.tk _ _ hso
          have f13 := f13'.re
          clear f13' f12 f11 f10 f9 f7 hlt hso hv
          show tSeq _ _ _ [some (V.ref a), some (V.ref ln), some (V.ref pl), some (V.int x), some (V.ref d1), some (V.ref d2), some (V.int bd), some tv, none, none, none, none, none, none, none, none, none, none, none, none, none, none, none] H13
          refine y_forR (w_cons v_c (w_nil ⟨8, rfl, by decide, by decide, ?_⟩))
          refine for_itS (walk_range (lo := 0) (n := 8)) (fun i σ' H' => (∃ v8 v9 v10 v11 v12 v13, σ' = [some (V.ref a), some (V.ref ln), some (V.ref pl), some (V.int x), some (V.ref d1), some (V.ref d2), some (V.int bd), some tv, v8, v9, v10, v11, v12, v13, none, none, none, none, none, none, none, none, none]) ∧ Fr G tP a H H13 ln pl p q1 L A B x H') ⟨⟨_, _, _, _, _, _, rfl⟩, f13⟩ (fun _ _ _ _ _ => True.intro) ?_ ?_
          · rintro i y σ' H' H14 hi ⟨⟨v8, v9, v10, v11, v12, v13, rfl⟩, fr⟩ ⟨rfl, rfl⟩
            show tSeq _ _ _ [some (V.ref a), some (V.ref ln), some (V.ref pl), some (V.int x), some (V.ref d1), some (V.ref d2), some (V.int bd), some tv, some (V.int (0 + (i : Nat))), v9, v10, v11, v12, v13, none, none, none, none, none, none, none, none, none] H14
            refine y_setE (c_call (va_cons (v_var rfl) (va_cons (v_var rfl) va_nil)) ⟨a, pl, p, q1, A, B, rfl, fr.m, fr.hp, fr.np, fr.ar.pA, oA, fr.ar.pB, oB, fun tk ts H15 mo15 htk hch => ?_⟩)
            have f15 := fr.mo mo15
            show tSeq _ _ _ [some (V.ref a), some (V.ref ln), some (V.ref pl), some (V.int x), some (V.ref d1), some (V.ref d2), some (V.int bd), some tv, some (V.int (0 + (i : Nat))), some (V.ref tk), v10, v11, v12, v13, none, none, none, none, none, none, none, none, none] H15
            refine y_setE (w_fld (k_call (va_cons (v_var rfl) (va_cons (f15.p0 rfl) (va_cons (f15.p1 rfl) va_nil))) (va_cons (v_var rfl) (va_cons (v_var rfl) va_nil)) rfl rfl ⟨ln, p, q1, x, L, A, B, ts, _, rfl, f15.ar, hch, f15.t, .inl ⟨tk, rfl, htk⟩, fun rp H16 e16 t16 r16 => ?_⟩))
            obtain ⟨dx, fs, ep, r1, r2, r3⟩ := r16
            refine ⟨rp, _, _, _, _, rfl, r1, T.cR, T.R_ends, r2, ?_⟩
            have f16 := f15.ext e16 t16
            have htk16 := e16 _ _ htk (fun _ z => by cases z)
            have hlt16 := f16.tk _ _ hlt13
            have hso16 := f16.tk _ _ hso13
            show tSeq _ _ _ [some (V.ref a), some (V.ref ln), some (V.ref pl), some (V.int x), some (V.ref d1), some (V.ref d2), some (V.int bd), some tv, some (V.int (0 + (i : Nat))), some (V.ref tk), some (V.ref ep), v11, v12, v13, none, none, none, none, none, none, none, none, none] H16
            refine x_seq (x_forZ3 (xs := endV so) (ys := endV (ends L A B x ts)) (zs := endV lt) rfl rfl (va_cons (v_var rfl) (va_cons (v_var rfl) (va_cons (v_var rfl) va_nil))) (SqT.of hso16) (SqT.of r3) (SqT.of hlt16) (fun j σ' H' => (∃ v11 v12 v13, σ' = [some (V.ref a), some (V.ref ln), some (V.ref pl), some (V.int x), some (V.ref d1), some (V.ref d2), some (V.int bd), some tv, some (V.int (0 + (i : Nat))), some (V.ref tk), some (V.ref ep), v11, v12, v13, none, none, none, none, none, none, none, none, none]) ∧ Fr G tP a H H16 ln pl p q1 L A B x H') ⟨⟨_, _, _, rfl⟩, f16.re⟩ (fun j σ' H' z => ⟨SqT.of (z.2.tk _ _ hso16), SqT.of (z.2.tk _ _ r3), SqT.of (z.2.tk _ _ hlt16)⟩) ?_ ?_)
            · rintro j xv yv zv σ' H' Tn h1 h2 h3 ⟨⟨v11, v12, v13, rfl⟩, fj⟩ hT
              obtain ⟨b, rfl, rfl, rfl⟩ := endV_at3 h1 h2 h3
              have fj' := fj.same (Same.new (o := .tup [ov (so b), ov (ends L A B x ts b), ov (lt b)]) hT)
              have hmem := col_mem (L := L) (x := x) (b := b) hch
              show tSeq _ _ _ [some (V.ref a), some (V.ref ln), some (V.ref pl), some (V.int x), some (V.ref d1), some (V.ref d2), some (V.int bd), some tv, some (V.int (0 + (i : Nat))), some (V.ref tk), some (V.ref ep), some (ov (so b)), some (ov (ends L A B x ts b)), some (ov (lt b)), none, none, none, none, none, none, none, none, none] _
              refine y_skip (a_is (a_or (a_and (a_isO rfl) fun _ => a_ntO rfl) fun _ => a_and (a_ntO rfl) fun z => a_or (a_isO rfl) fun z2 => a_ltO rfl rfl z (someO z2)) (end1 (fun z => (hltL b).1.mpr (z ▸ hmem)) fun m z => ?_)) ?_
              · cases hs : so b with
                | none => exact absurd ((hsoL b).1.mp hs _ hmem) (by rw [z]; exact fun u => by cases u)
                | some l => exact ⟨l, rfl, ((hsoL b).2 l hs).2 m (z ▸ hmem)⟩
              · refine x_if (a_is (a_and (a_ntO rfl) fun z => a_and (a_ntO rfl) fun z2 => a_gtO rfl rfl z z2) (end2 fun m h z1 z2 => ((hltL b).2 h z2).2 m (z1 ▸ hmem))) (fun z => by cases z) fun _ => ⟨⟨_, _, _, rfl⟩, fj'⟩
            · rintro σ' H' ⟨⟨v11, v12, v13, rfl⟩, fj⟩
              have fo := f16.rb fj
              have r3' := fj.tk _ _ r3
              have htk' := fj.tk _ _ htk16
              dsimp only
              refine x_ifE ?_
              rcases hlc with ⟨rfl, hall⟩ | ⟨i0, c0, r, rfl, hr0, hi0, hw0, hlow⟩
              · have hw : (okE bd (ends L A B x ts false) && okE bd (ends L A B x ts true)) = true := hall ts (ch_in hch)
                refine t_andT (a_is (a_or (b := true) (c := true) (a_isN rfl isN_non) fun z => by cases z) rfl) (t_notB (c_call (va_cons (v_var rfl) (va_cons (v_var rfl) va_nil)) ⟨ep, _, _, bd, rfl, r3', fun H5 e5 => ⟨_, rfl, ?_⟩⟩))
                rw [hw]
                exact iteF ⟨⟨_, _, _, _, _, _, rfl⟩, fo.same e5⟩
              · have hr1 := fo.tk _ _ hr0
                cases hlex : HT.lexLt ts c0 with
                | false => exact t_andF (a_is (a_or (b := false) (c := false) (a_isN rfl (isN_ref r)) fun _ => a_T (v_is (v_ltT (v_var rfl) (v_var rfl) (SqT.of htk') (SqT.of hr1)) (by rw [hlex]))) rfl) (iteF ⟨⟨_, _, _, _, _, _, rfl⟩, fo⟩)
                | true =>
                  obtain ⟨j, hj⟩ := List.getElem?_of_mem (ch_in hch)
                  have hw : (okE bd (ends L A B x ts false) && okE bd (ends L A B x ts true)) = true := hlow j ts (ahead hi0 hj hlex) hj
                  refine t_andT (a_is (a_or (b := false) (c := true) (a_isN rfl (isN_ref r)) fun _ => a_T (v_is (v_ltT (v_var rfl) (v_var rfl) (SqT.of htk') (SqT.of hr1)) (by rw [hlex]))) rfl) (t_notB (c_call (va_cons (v_var rfl) (va_cons (v_var rfl) va_nil)) ⟨ep, _, _, bd, rfl, r3', fun H5 e5 => ⟨_, rfl, ?_⟩⟩))
                  rw [hw]
                  exact iteF ⟨⟨_, _, _, _, _, _, rfl⟩, fo.same e5⟩
          · rintro σ' H14 ⟨⟨v8, v9, v10, v11, v12, v13, rfl⟩, fr⟩
            dsimp only
            refine y_whenS (fun σ' H' => (∃ v10, σ' = [some (V.ref a), some (V.ref ln), some (V.ref pl), some (V.int x), some (V.ref d1), some (V.ref d2), some (V.int bd), some tv, v8, v9, v10, v11, v12, v13, none, none, none, none, none, none, none, none, none]) ∧ Fr G tP a H H13 ln pl p q1 L A B x H') (a_T (v_notN (v_var rfl))) ?_ (fun hb k => ?_) fun _ => ⟨⟨_, rfl⟩, fr⟩
            · rintro σ' H' ⟨⟨v10, rfl⟩, fr⟩
              clear hlc f13
              refine y_setE (x_lcL (v_var rfl) (SqL.of fr.hp) fun D hD => lcr (walk_list (xs := [V.ref p, V.ref q1])) (fun _ _ _ _ h => h.1) (rel_same hD) hD True.intro (fun H6 e6 => SqL.of (e6 _ _ fr.hp)) (by show 2 ≤ sizeLine; decide) (fun i y H6 => ∃ r, y = .ref r ∧ PlanAt H6 r (bareP (if i = 0 then A else B))) (fun i y H6 H7 e ⟨r, z1, z2⟩ => ⟨r, z1, z2.same e⟩) (fun i y H6 xs ys hh ⟨r, z1, z2⟩ => ⟨r, z1, TT2.ext z2 (But.upd.tup (noTup_lst hh))⟩) ?_ ?_)
              · rintro i y H6 acc hi ⟨_, hy⟩ e6 _ hDl
                obtain ⟨b, C, hC0, rfl, hC, bC⟩ : ∃ (b : Addr) (C : Plan), (if i = 0 then A else B) = C ∧ y = .ref b ∧ PlanAt H6 b C ∧ PlanB 17 C := by
                  match i, hy with
                  | 0, hy => exact ⟨p, A, rfl, (Option.some.inj hy).symm, fr.ar.pA.same e6, bA⟩
                  | 1, hy => exact ⟨q1, B, rfl, (Option.some.inj hy).symm, fr.ar.pB.same e6, bB⟩
                  | n + 2, hy => simp at hy
                rw [hC0]
                obtain ⟨rs, hrs, hT⟩ := hC
                have hlen := hT.len
                refine ⟨rfl, fun Q2 k2 => ?_⟩
                refine x_cb (x_lcPT (ys := rs.map V.ref) (a := b) (fun H5 e => SqT.of (e _ _ hrs)) (v_var rfl) (fun j => fm (fun y => !isPv y) (fun a _ => .ref a) (rs.take j) ((C.map stpV).take j)) (by simp [fm]) (fun j _ => Nat.lt_of_le_of_lt (acT_len (m := 6) (by rw [List.length_map]; exact bC.len)) (by decide)) ?_ ?_)
                · intro j y2 H7 hy2 e7
                  obtain ⟨c, hc, rfl⟩ := refs_at hy2
                  obtain ⟨y3, hy3, hcy⟩ := hT.at2 hc
                  refine ⟨rfl, !isPv y3, ?_, fun hp => ⟨.ref c, v_var rfl, ?_⟩, fun hn => ?_⟩
                  · rw [List.getElem?_map] at hy3
                    obtain ⟨s1, hs1, rfl⟩ := Option.map_eq_some_iff.mp hy3
                    exact a_T (v_is (v_ne (v_sqT (v_var rfl) v_c (SqT.of (e7 _ _ hcy)) (show atI (stpV s1) 0 = some (.str (wdOf s1)) by cases s1 <;> rfl)) v_c rfl) (by cases s1 <;> rfl))
                  · rw [acT_succ hlen hc hy3, if_pos hp]
                  · rw [acT_succ hlen hc hy3, if_neg (by rw [hn]; exact Bool.false_ne_true), List.append_nil]
                · intro D2 H7 hD2 hl2 e7
                  rw [List.length_map, List.take_length, hlen, List.take_length] at hl2
                  obtain ⟨rs3, e1, e2⟩ := fm_ref (p := fun y => !isPv y) (hT.same e7)
                  rw [e1] at hl2
                  rw [filter_np] at e2
                  exact ⟨D2, _, rfl, .inl ⟨SqL.of hl2, fun l hl => k2 _ _ (e7.then hl) True.intro ⟨l, rfl, rs3, upd_same, e2.same (Same.new hl)⟩⟩⟩
              · intro H6 acc hacc hal hΦ e6 _
                obtain ⟨r0, r1, rfl, h0, h1⟩ : ∃ r0 r1, acc = [V.ref r0, V.ref r1] ∧ PlanAt H6 r0 (bareP A) ∧ PlanAt H6 r1 (bareP B) := by
                  match acc, hal, hΦ with
                  | [u, v], _, hΦ =>
                    obtain ⟨r0, rfl, z0⟩ := hΦ 0 u rfl
                    obtain ⟨r1, rfl, z1⟩ := hΦ 1 v rfl
                    exact ⟨r0, r1, rfl, z0, z1⟩
                have f6 := fr.same e6
                have oA2 := (bare_ok bA).ok (by decide : (17 : Int) ≤ 60)
                have oB2 := (bare_ok bB).ok (by decide : (17 : Int) ≤ 60)
                have ar0 : Arg G H6 ln r0 r1 L (bareP A) (bareP B) x := ⟨f6.ar.line, lok, h0, oA2, h1, oB2, x1⟩
                have cb := bare_pauses A B
                have cnb : cntC (pauses (bareP A) (bareP B)) ≤ 400 := by
                  rw [cb]
                  decide
                show tSeq _ _ _ [some (V.ref a), some (V.ref ln), some (V.ref pl), some (V.int x), some (V.ref d1), some (V.ref d2), some (V.int bd), some tv, v8, v9, v10, v11, v12, v13, some (V.ref D), none, none, none, none, none, none, none, none] H6
                refine y_setE (w_fld (k_call (va_cons (v_var rfl) (va_cons (v_sqL (v_var rfl) v_c (SqL.of hacc) rfl) (va_cons (v_sqL (v_var rfl) v_c (SqL.of hacc) rfl) va_nil))) (va_cons (v_var rfl) va_nil) rfl rfl ⟨ln, r0, r1, x, L, _, _, [], .non, rfl, ar0, by rw [cb]; exact True.intro, f6.t, .inr ⟨rfl, by rw [cb]; rfl⟩, fun rp H7 e7 t7 r7 => ?_⟩))
                obtain ⟨dx, fs, ep, g1, g2, g3⟩ := r7
                refine ⟨rp, _, _, _, _, rfl, g1, T.cR, T.R_ends, g2, ?_⟩
                have f7 := f6.ext e7 t7
                have ar7 := ar0.ext e7
                have hacc7 := e7 _ _ hacc (fun _ z => by cases z)
                have g3 : H7 ep = some (.tup (endV (ends L (bareP A) (bareP B) x []))) := g3
                show tSeq _ _ _ [some (V.ref a), some (V.ref ln), some (V.ref pl), some (V.int x), some (V.ref d1), some (V.ref d2), some (V.int bd), some tv, v8, v9, some (V.ref ep), v11, v12, v13, some (V.ref D), none, none, none, none, none, none, none, none] H7
                refine y_whenE (t_orE (t_opE (k_call (va_cons (v_var rfl) (va_cons (v_sqL (v_var rfl) v_c (SqL.of hacc7) rfl) (va_cons (v_sqL (v_var rfl) v_c (SqL.of hacc7) rfl) va_nil))) (va_cons (v_var rfl) va_nil) rfl rfl ⟨ln, r0, r1, x, L, _, _, rfl, ar7, cnb, f7.t, fun D1 H8 o1 o2 e8 t8 l1 l2 hD1 => ?_⟩)))
                have f8 := f7.ext e8 t8
                rw [bare_col] at l1 l2
                rw [late_one l1, late_one l2] at hD1
                have g38 := e8 _ _ g3 (fun _ z => by cases z)
                have hacc8 := e8 _ _ hacc7 (fun _ z => by cases z)
                refine v_var rfl _ ⟨_, _, dp_ends hD1, dp_ends g38, pd_shaped _ _, pd_shaped _ _, _, rfl, ?_⟩
                rw [pd_eq]
                refine iteF (t_opE (k_call (va_cons (v_var rfl) (va_cons (v_sqL (v_var rfl) v_c (SqL.of hacc8) rfl) (va_cons (v_sqL (v_var rfl) v_c (SqL.of hacc8) rfl) va_nil))) (va_cons (v_var rfl) va_nil) rfl rfl ⟨ln, r0, r1, x, L, _, _, rfl, ar7.ext e8, cnb, f8.t, fun D2 H9 s1 s2 e9 t9 k1 k2 hD2 => ?_⟩))
                have f9 := f8.ext e9 t9
                rw [bare_col] at k1 k2
                rw [soon_one k1, soon_one k2] at hD2
                have g39 := e9 _ _ g38 (fun _ z => by cases z)
                refine v_var rfl _ ⟨_, _, dp_ends hD2, dp_ends g39, pd_shaped _ _, pd_shaped _ _, _, rfl, ?_⟩
                rw [pd_eq]
                refine iteF ?_
                show tSeq _ _ _ [some (V.ref a), some (V.ref ln), some (V.ref pl), some (V.int x), some (V.ref d1), some (V.ref d2), some (V.int bd), some tv, v8, v9, some (V.ref ep), v11, v12, v13, some (V.ref D), none, none, none, none, none, none, none, none] H9
                refine y_asgE (w_lst (w_nil ⟨by show 0 ≤ sizeLine; decide, fun F hF => ?_⟩))
                have nF0 : ∀ o, H F = some o → ¬ ∀ ps, o ≠ .tbl ps := fun o h nt => by
                  have z := f9.x _ _ h (f9.m.ne hF) nt
                  rw [hF] at z
                  cases z
                have nFa := f9.m.ne hF
                have nFp : F ≠ pl := (ne_of_none f9.hp hF).symm
                have fF := f9.same (Same.new (o := .lst []) hF)
                have hF1 : upd H9 F (.lst []) F = some (.lst []) := upd_same
                show tSeq _ _ _ [some (V.ref a), some (V.ref ln), some (V.ref pl), some (V.int x), some (V.ref d1), some (V.ref d2), some (V.int bd), some tv, v8, v9, some (V.ref ep), v11, v12, v13, some (V.ref D), some (V.ref F), none, none, none, none, none, none, none] (upd H9 F (.lst []))
                generalize upd H9 F (.lst []) = H10 at fF hF1
                refine y_forL (xs := [V.ref p, V.ref q1]) (v_var rfl) (SqL.of fF.hp) (fun i σ' H' => (∃ v16 v17, σ' = [some (V.ref a), some (V.ref ln), some (V.ref pl), some (V.int x), some (V.ref d1), some (V.ref d2), some (V.int bd), some tv, v8, v9, some (V.ref ep), v11, v12, v13, some (V.ref D), some (V.ref F), v16, v17, none, none, none, none, none]) ∧ Fr G tP a H H13 ln pl p q1 L A B x H' ∧ ∃ (rs : List Addr), H' F = some (.lst (rs.map V.ref)) ∧ PLs H' rs ((([A, B].take i)).map fun C => C.map lgS)) ⟨⟨_, _, rfl⟩, fF, [], hF1, True.intro⟩ (fun i σ' H' _ z => SqL.of z.2.1.hp) ?_ ?_
                · rintro i y σ' H' hy ⟨⟨v16, v17, rfl⟩, fi, rsF, hF', hPL⟩
                  obtain ⟨b, C, hi2, hAB, rfl, hC, bC⟩ : ∃ (b : Addr) (C : Plan), i < 2 ∧ [A, B][i]? = some C ∧ y = .ref b ∧ PlanAt H' b C ∧ PlanB 17 C := by
                    match i, hy with
                    | 0, hy => exact ⟨p, A, by decide, rfl, (Option.some.inj hy).symm, fi.ar.pA, bA⟩
                    | 1, hy => exact ⟨q1, B, by decide, rfl, (Option.some.inj hy).symm, fi.ar.pB, bB⟩
                    | n + 2, hy => simp at hy
                  obtain ⟨rs, hrs, hT⟩ := hC
                  have hlen : rs.length = C.length := by rw [hT.len, List.length_map]
                  show tSeq _ _ _ [some (V.ref a), some (V.ref ln), some (V.ref pl), some (V.int x), some (V.ref d1), some (V.ref d2), some (V.int bd), some tv, v8, v9, some (V.ref ep), v11, v12, v13, some (V.ref D), some (V.ref F), some (V.ref b), v17, none, none, none, none, none] H'
                  refine y_setE (x_lcT (v_var rfl) (SqT.of hrs) fun D2 hD2 => lcr (walk_tup (xs := rs.map V.ref)) (fun _ _ _ _ h => h.1) (rel_same hD2) hD2 True.intro (fun H6 e6 => SqT.of (e6 _ _ hrs)) (by rw [List.length_map, hlen]; exact Nat.le_trans bC.len (by decide)) (fun i y H6 => ∃ r s, y = .ref r ∧ C[i]? = some s ∧ H6 r = some (.tup (stpV (lgS s)))) (fun i y H6 H7 e ⟨r, s, z1, z2, z3⟩ => ⟨r, s, z1, z2, e _ _ z3⟩) (fun i y H6 xs ys hh ⟨r, s, z1, z2, z3⟩ => ⟨r, s, z1, z2, by rw [upd_ne (fun z => by rw [z, hh] at z3; cases z3)]; exact z3⟩) ?_ ?_)
                  · rintro j y2 H6 acc hj ⟨_, hy2⟩ e6 _ hDl
                    obtain ⟨c, hc, rfl⟩ := refs_at hy2
                    obtain ⟨y3, hy3, hcy⟩ := hT.at2 hc
                    rw [List.getElem?_map] at hy3
                    obtain ⟨s1, hs1, rfl⟩ := Option.map_eq_some_iff.mp hy3
                    have hc6 := e6 _ _ hcy
                    have hat : ∀ {k : Int} {v : V} {σ : L2.St}, σ[22]? = some (some (V.ref c)) → atI (stpV s1) k = some v → Val (tOp (rIxT G.K) (tVar 22) (tC (.int k))) σ H6 v := fun hσ e => v_sqT (v_var hσ) v_c (SqT.of hc6) e
                    refine ⟨rfl, fun Q2 k2 => ?_⟩
                    cases s1 with
                    | w am => exact t_ifF (a_T (v_is (v_eq (hat rfl rfl) v_c rfl) rfl)) rfl (v_var rfl _ (k2 _ _ (Same.refl _) True.intro ⟨c, _, rfl, hs1, hc6⟩))
                    | r am => exact t_ifF (a_T (v_is (v_eq (hat rfl rfl) v_c rfl) rfl)) rfl (v_var rfl _ (k2 _ _ (Same.refl _) True.intro ⟨c, _, rfl, hs1, hc6⟩))
                    | p lo hi =>
                      refine t_ifE (a_T (v_is (v_eq (hat rfl rfl) v_c rfl) rfl)) rfl (w_tup (w_cons (hat rfl rfl) (w_cons (hat rfl rfl) (w_cons (v_add (hat rfl rfl) v_c) (w_nil ⟨by show 3 ≤ sizeLine; decide, fun m hm => ?_⟩)))))
                      exact k2 _ _ (Same.new hm) True.intro ⟨m, _, rfl, hs1, upd_same⟩
                  · intro H6 acc hacc hal hΦ e6 _
                    rw [List.length_map, hlen] at hal
                    obtain ⟨rs2, rfl, ht⟩ := tp_of (H := H6) (acc := acc) (xs := (C.map lgS).map stpV) (by rw [List.length_map, List.length_map]; exact hal) (fun i y z h1 h2 => by
                      obtain ⟨r, s, g1, g2, g3⟩ := hΦ i y h1
                      rw [List.getElem?_map, List.getElem?_map, g2] at h2
                      exact ⟨r, g1, by rw [g3]; exact congrArg _ (congrArg _ (Option.some.inj h2))⟩)
                    have hF6 := e6 _ _ hF'
                    have f6 := fi.same e6
                    show tDrop _ _ [some (V.ref a), some (V.ref ln), some (V.ref pl), some (V.int x), some (V.ref d1), some (V.ref d2), some (V.int bd), some tv, v8, v9, some (V.ref ep), v11, v12, v13, some (V.ref D), some (V.ref F), some (V.ref b), some (V.ref D2), none, none, none, none, none] H6
                    refine w_app (v_var rfl _ ⟨ap_ty hF6, x_cb (v_var rfl _ ⟨D2, _, rfl, .inl ⟨SqL.of hacc, fun l hl => ?_⟩⟩)⟩)
                    have e7 := Same.new (o := .tup (rs2.map V.ref)) hl
                    have f7 := f6.same e7
                    have hlP := hPL.len
                    refine ap_do (e7 _ _ hF6) ?_ ⟨⟨_, _, rfl⟩, f7.put (e7 _ _ hF6) nF0 nFp nFa, rsF ++ [l], by rw [upd_same, List.map_append]; rfl, ?_⟩
                    · rw [List.length_map, hlP, List.length_map, List.length_take]
                      have : (1000 : Nat) ≤ sizeLine := by decide
                      omega
                    · rw [List.take_add_one, hAB, Option.toList_some, List.map_append]
                      exact (PLs.snoc (⟨rs2, upd_same, ht.same e7⟩ : PlanAt _ l (C.map lgS)) (hPL.mono fun b ys z => e7 _ _ (e6 _ _ z))).mono (But.upd.tup (noTup_lst (e7 _ _ hF6)))
                · rintro σ' H' ⟨⟨v16, v17, rfl⟩, fi, rsF, hF', hPL⟩
                  obtain ⟨l0, l1, rfl, hl0, hl1⟩ : ∃ l0 l1, rsF = [l0, l1] ∧ PlanAt H' l0 (A.map lgS) ∧ PlanAt H' l1 (B.map lgS) := by
                    match rsF, hPL with
                    | [l0, l1], hPL => exact ⟨l0, l1, rfl, hPL.1, hPL.2.1⟩
                  have arL : Arg G H' ln l0 l1 L (A.map lgS) (B.map lgS) x := ⟨fi.ar.line, lok, hl0, (lg_ok bA).ok (by decide), hl1, (lg_ok bB).ok (by decide), x1⟩
                  have cnL := cnt_long oA oB wA wB hn
                  refine y_parE (w_consE (k_call (va_cons (v_var rfl) (va_cons (v_sqL (v_var rfl) v_c (SqL.of hF') rfl) (va_cons (v_sqL (v_var rfl) v_c (SqL.of hF') rfl) va_nil))) (va_cons (v_var rfl) va_nil) rfl rfl ⟨ln, l0, l1, x, L, _, _, rfl, arL, cnL, fi.t, fun D3 H11 o1 o2 e11 t11 m1 m2 hD3 => ?_⟩))
                  have f11 := fi.ext e11 t11
                  have hF11 := e11 _ _ hF' (fun _ z => by cases z)
                  refine w_consE (k_call (va_cons (v_var rfl) (va_cons (v_sqL (v_var rfl) v_c (SqL.of hF11) rfl) (va_cons (v_sqL (v_var rfl) v_c (SqL.of hF11) rfl) va_nil))) (va_cons (v_var rfl) va_nil) rfl rfl ⟨ln, l0, l1, x, L, _, _, rfl, arL.ext e11, cnL, f11.t, fun D4 H12 s1 s2 e12 t12 k1 k2 hD4 => w_nil ⟨_, _, rfl, ?_⟩⟩)
                  have f12 := f11.ext e12 t12
                  have hD3 := e12 _ _ hD3 (fun _ z => by cases z)
                  obtain ⟨wl, hwl, hwlL⟩ : ∃ wl : Bool → Option Int, H12 D3 = some (.tup (endV wl)) ∧ ∀ b, Late (colE L (A.map lgS) (B.map lgS) x b) (wl b) := ⟨fun b => bif b then o2 else o1, hD3, fun b => by cases b <;> assumption⟩
                  obtain ⟨ws, hws, hwsL⟩ : ∃ ws : Bool → Option Int, H12 D4 = some (.tup (endV ws)) ∧ ∀ b, Soon (colE L (A.map lgS) (B.map lgS) x b) (ws b) := ⟨fun b => bif b then s2 else s1, hD4, fun b => by cases b <;> assumption⟩
                  have hlt12 := f12.tk _ _ hlt13
                  have hso12 := f12.tk _ _ hso13
                  have f12 := f12.re
                  show tSeq _ _ _ [some (V.ref a), some (V.ref ln), some (V.ref pl), some (V.int x), some (V.ref d1), some (V.ref d2), some (V.int bd), some tv, v8, v9, some (V.ref ep), v11, v12, v13, some (V.ref D), some (V.ref F), v16, v17, some (V.ref D3), some (V.ref D4), none, none, none] H12
                  refine x_seq (x_forZ (xs := endV lt) (ys := endV wl) rfl (va_cons (v_var rfl) (va_cons (v_var rfl) va_nil)) (SqT.of hlt12) (SqT.of hwl) (fun j σ' H' => (∃ v20 v21, σ' = [some (V.ref a), some (V.ref ln), some (V.ref pl), some (V.int x), some (V.ref d1), some (V.ref d2), some (V.int bd), some tv, v8, v9, some (V.ref ep), v11, v12, v13, some (V.ref D), some (V.ref F), v16, v17, some (V.ref D3), some (V.ref D4), v20, v21, none]) ∧ Fr G tP a H H12 ln pl p q1 L A B x H') ⟨⟨_, _, rfl⟩, f12⟩ (fun j σ' H' z => ⟨SqT.of (z.2.tk _ _ hlt12), SqT.of (z.2.tk _ _ hwl)⟩) ?_ ?_)
                  · rintro j xv yv σ' H' Tn h1 h2 ⟨⟨v20, v21, rfl⟩, fj⟩ hT
                    obtain ⟨b, rfl, rfl⟩ := endV_at2 h1 h2
                    have fj' := fj.same (Same.new (o := .tup [ov (lt b), ov (wl b)]) hT)
                    show tIfS _ _ _ _ [some (V.ref a), some (V.ref ln), some (V.ref pl), some (V.int x), some (V.ref d1), some (V.ref d2), some (V.int bd), some tv, v8, v9, some (V.ref ep), v11, v12, v13, some (V.ref D), some (V.ref F), v16, v17, some (V.ref D3), some (V.ref D4), some (ov (lt b)), some (ov (wl b)), none] _
                    exact x_if (a_is (a_and (a_ntO rfl) fun z => a_or (a_isO rfl) fun z2 => a_ltO rfl rfl (someO z2) z) (end3 fun m hm => late_wide lok bA bB (by decide) x1 (hltL b) (hwlL b) hm)) (fun z => by cases z) fun _ => ⟨⟨_, _, rfl⟩, fj'⟩
                  · rintro σ' H' ⟨⟨v20, v21, rfl⟩, fj⟩
                    dsimp only
                    refine x_retE (x_cb (x_lcZ (xs := endV so) (ys := endV ws) rfl (va_cons (v_var rfl) (va_cons (v_var rfl) va_nil)) (SqT.of (fj.tk _ _ hso12)) (SqT.of (fj.tk _ _ hws)) (fun d i H' => H' d = some (.lst (List.replicate i (V.bl true))) ∧ i ≤ 2 ∧ (∀ o, H d = some o → ¬ ∀ ps, o ≠ .tbl ps) ∧ d ≠ pl ∧ d ≠ a ∧ Fr G tP a H H12 ln pl p q1 L A B x H') (fun d hd => ⟨upd_same, by decide, fun o h nt => ?_, (ne_of_none fj.hp hd).symm, fj.m.ne hd, fj.same (Same.new hd)⟩) (fun d i H' z => ⟨SqT.of (z.2.2.2.2.2.tk _ _ hso12), SqT.of (z.2.2.2.2.2.tk _ _ hws)⟩) ?_ ?_))
                    · have z := fj.x _ _ h (fj.m.ne hd) nt
                      rw [hd] at z
                      cases z
                    · rintro d i xv yv H' Tn h1 h2 ⟨z1, z2, z3, z4, z5, fk⟩ hT
                      obtain ⟨b, rfl, rfl⟩ := endV_at2 h1 h2
                      have hi2 : i < 2 := (List.getElem?_eq_some_iff.mp h1).1
                      have fk' := fk.same (Same.new (o := .tup [ov (so b), ov (ws b)]) hT)
                      have z1' := (Same.new (o := .tup [ov (so b), ov (ws b)]) hT) _ _ z1
                      refine ⟨rfl, ?_⟩
                      unfold tYes
                      dsimp only
                      rw [if_pos rfl]
                      refine v_is (y := V.bl true) (v_orV (b := (so b).isNone) (c := true) (v_is (v_isN (v_var rfl)) (congrArg V.bl (isN_ov _))) fun hb => ?_) (congrArg V.bl (Bool.or_true _)) _ ⟨_, z1', ?_, ?_, hi2, z3, z4, z5, fk'.put z1' z3 z4 z5⟩
                      · cases hs : so b with
                        | none => rw [hs] at hb; cases hb
                        | some m =>
                          obtain ⟨m2, hm2, hle⟩ := soon_wide (hsoL b) (hwsL b) hs
                          rw [hm2]
                          exact v_is (v_andV (b := true) (c := true) (v_is (v_notN (x := .int m2) (v_var rfl)) rfl) fun _ => v_is (v_le (i := m2) (j := m) (v_var rfl) (v_var rfl)) (congrArg V.bl (decide_eq_true hle))) rfl
                      · rw [List.length_replicate]
                        have : (1000 : Nat) ≤ sizeLine := by decide
                        omega
                      · rw [upd_same, List.replicate_succ']
                    · rintro d H' ⟨z1, z2, z3, z4, z5, fk⟩
                      refine ⟨d, [true, true], rfl, SqL.of z1, ?_⟩
                      exact q H' fk.x fk.m fk.t
            · rcases hlc with ⟨rfl, hall⟩ | ⟨i0, c0, r, rfl, hr0, hi0, hw0, hlow⟩
              · rw [isN_non] at hb
                cases hb
              · have hch := choices_ch (List.mem_of_getElem? hi0)
                refine y_setE (w_fld (k_call (va_cons (v_var rfl) (va_cons (fr.p0 rfl) (va_cons (fr.p1 rfl) va_nil))) (va_cons (v_var rfl) (va_cons (v_var rfl) va_nil)) rfl rfl ⟨ln, p, q1, x, L, A, B, c0, _, rfl, fr.ar, hch, fr.t, .inl ⟨r, rfl, fr.tk _ _ hr0⟩, fun rp H16 e16 t16 r16 => ?_⟩))
                obtain ⟨dx, fs, ep, r1, r2, r3⟩ := r16
                refine ⟨rp, _, _, _, _, rfl, r1, T.cR, T.R_ends, r2, ?_⟩
                have f16 := fr.ext e16 t16
                refine x_ifB (c_call (va_cons (v_var rfl) (va_cons (v_var rfl) va_nil)) ⟨ep, _, _, bd, rfl, r3, fun H5 e5 => ⟨_, rfl, ?_⟩⟩)
                have hw : (okE bd (ends L A B x c0 false) && okE bd (ends L A B x c0 true)) = false := hw0
                rw [hw]
                exact iteF (k _ _ ⟨⟨_, rfl⟩, f16.same e5⟩)
    · rintro Q1 Q2 ⟨v, hv, w1, hw, a1, b1, xs, ys, e1, e2, ha, hb, hl, c1, c2, c3⟩ k
      exact ⟨v, hv, w1, hw, a1, b1, xs, ys, e1, e2, ha, hb, hl, fun e => k _ _ (c1 e), fun n e => k _ _ (c2 n e), fun n1 n2 p hp => k _ _ (c3 n1 n2 p hp)⟩

end
end SH
end
section
namespace SH
open PySem PySem.Spec PyProof.Rows L2
open LamX (ExtN Tabs TabB)
section
variable {P : Program} {w : World} {G : Gl5} {mg : Str → Option Value} {base : Heap}

theorem x_lcRE {ar : TA} {g : TG} {tt : L2.TT} {te : TE} {vs : List Nat} {σ : L2.St} {H : Hp} {Q : VK} (h : ar σ H fun us H1 => ∃ j : Int, us = [.int j] ∧ -(2 ^ 62) ≤ j ∧ j < 2 ^ 62 ∧ ∀ D, H1 D = none → ∃ W : Nat → Nat → Hp → Prop, (∃ m, W 0 m (upd H1 D (.lst []))) ∧ ∀ i m H, W i m H →
      ((Itr 0 j.toNat).stop i H ∧ Q (.ref D) H) ∨ ((Itr 0 j.toNat).go i H ∧ ∃ Nx : Hp → Prop, (∀ H', Nx H' → ∃ m', m' < m ∧ W (i + 1) m' H') ∧ ∀ x H', (Itr 0 j.toNat).yld i H x H' → g x (wipe σ vs) H' fun σ2 H2 => wipe σ2 vs = wipe σ vs ∧ tt σ2 H2 fun b H3 =>
        if b = true then te σ2 H3 fun y H4 => ∃ acc, H4 D = some (.lst acc) ∧ acc.length < sizeLine ∧ Nx (upd H4 D (.lst (acc ++ [y]))) else Nx H3)) : tLc (iRng1 ar) g tt te vs σ H Q := h
theorem all_true : ∀ {acc : List V}, (∀ (i : Nat) (y : V), acc[i]? = some y → y = V.bl true) → acc = (List.replicate acc.length true).map V.bl
  | [], _ => rfl
  | y :: acc, h => by
    have ih := all_true (acc := acc) fun i z hz => h (i + 1) z hz
    rw [List.length_cons, List.replicate_succ, List.map_cons, ← ih, h 0 y rfl]
theorem all_rep : ∀ n : Nat, (List.replicate n true).all id = true
  | 0 => rfl
  | n + 1 => by
    rw [List.replicate_succ, List.all_cons, all_rep n]
    rfl
def sp_law (G : Gl5) (tP : Addr) : Sp := fun vs H Q _ => ∃ (s : Addr) (ns : List Int), vs = [.ref s] ∧ SqL G.K H s (ns.map V.int) ∧ ns.length ≤ 63 ∧ TbOk tP H ∧ ∀ H', Q (.bl true) H'
abbrev N_law : List Str := ["_law_script", "_law_k"]
theorem sc_law : FnScope N_law ["_law_script"] (defScope s_law) := C8.fnScope_by (by decide +kernel)
theorem ok_law {tP : Addr} (T : Txt G mg) {f : Addr} {fd : FuncData} (F : FnP G.K "law" "law" s_law f fd) (c_law_mill : C8.Cal P w G.K mg base 1 "_law_mill" (sp_mill G) []) (c_law_right : C8.Cal P w G.K mg base 11 "_law_right" (sp_right G tP) []) : FnOk P w G.K mg base C8.CX0 12 f fd ["_law_script"] (sp_law G tP) := by
  refine fnk_ok (kws := []) F sc_law (fun vs H Q E h => ?_) (fun cdv A outer s H vs Q E hr h => ?_)
  · obtain ⟨s1, ns, rfl, hs, hl, htb, q⟩ := h
    rfl
  · obtain ⟨s1, ns, rfl, hs, hl, htb, q⟩ := h
    refine ⟨_, (pss_one (ps_ret (pe_callB (r := rAll G.K) (cr_all rfl) (by rfl) T.z_all (by decide +kernel) (pa_cons (pe_lc (own := [("_law_k", 1)]) (g := gName 1) (tt := tYes) rfl sc_law.nd (pi_range1 (by rfl) T.z_range (pa_cons (pe_callB (call_max2 rfl) (by rfl) T.z_max (by decide +kernel) (pa_cons pe_int (pa_cons (pe_callB (call_min2 rfl) (by rfl) T.z_min (by decide +kernel) (pa_cons (pe_callB (r := rLenK G.K) call_lenK (by rfl) T.z_len (by decide +kernel) (pa_cons (pv 0) pa_nil)) (pa_cons pe_int pa_nil))) pa_nil))) pa_nil)) (blkOk_by (own := [("_law_k", 1)]) (N := N_law) (sc := defScope s_law) (by decide +kernel)) (fun _ _ _ _ _ => (pg_name (i := 1) sc_law.nd rfl (Or.inl rfl))) (fun _ _ _ _ _ => pts_nil) (fun _ _ _ _ _ => (C8.pe_c c_law_right hr (by decide) (by rfl) (pa_cons (C8.pe_c c_law_mill hr (by decide) (by rfl) (pa_cons (pv 0) (pa_cons (pv 1) pa_nil))) pa_nil)))) pa_nil)))), ?_⟩
    have h63 : (63 : Nat) ≤ sizeLine := by decide
    refine x_retE (x_cb (x_lcRE (w_cons (v_max2 v_c (v_min2 (v_lenL (v_var rfl) hs) v_c)) (w_nil ?_))))
    rw [List.length_map]
    obtain ⟨j, hj⟩ : ∃ j : Int, j = (if (if (3 : Int) < (ns.length : Int) then (3 : Int) else (ns.length : Int)) > 2 then (if (3 : Int) < (ns.length : Int) then (3 : Int) else (ns.length : Int)) else 2) := ⟨_, rfl⟩
    rw [← hj]
    have hj3 : 2 ≤ j ∧ j ≤ 3 := by
      rw [hj]
      split <;> split <;> omega
    refine ⟨j, rfl, by omega, by omega, fun D hD => ?_⟩
    refine lcr (walk_range (lo := 0) (n := j.toNat)) (fun _ _ _ _ h => h.1) (rel_ext (tP := tP) hD) hD htb (fun _ _ => True.intro) (by omega) (fun i y H' => y = .bl true) (fun _ _ _ _ _ h => h) (fun _ _ _ _ _ _ h => h) ?_ ?_
    · rintro i y H' acc hi ⟨_, rfl⟩ e t hDl
      refine ⟨rfl, fun Q2 k2 => ?_⟩
      refine c_callE (w_consE (c_call (va_cons (v_var rfl) (va_cons (v_var rfl) va_nil)) ⟨s1, ns, 0 + (i : Int), rfl, fun H2 e2 => SqL.extN (e.trans (exOf e2)) hs, Nat.le_trans hl h63, by omega, by omega, fun d H2 e2 hd hm => w_nil ⟨d, rfl, hm, TbOk.same t e2, fun H3 x3 m3 t3 => ?_⟩⟩))
      exact k2 _ _ (fun b o h n => x3 b o (e2 _ _ h) (ne_of_none h hd) n) t3 rfl
    · intro H' acc hacc hal hΦ e t
      have ha := all_true hΦ
      refine ⟨D, List.replicate acc.length true, rfl, SqL.of (by rw [hacc, ← ha]), ?_⟩
      rw [all_rep]
      exact q H'

end
end SH
end
section
namespace SH
open SHH
open PySem PySem.Spec PyProof.Rows L2
open LamX (ExtN Tabs TabB)
abbrev gl (K : PySem.W.Frag) : Gl5 := ⟨K, He.ga K "Setting", He.ga K "Line", He.ga K "Flow", He.ga K "Course", He.ga K "Run"⟩
section
variable {P : Program} {w : World} {K : PySem.W.Frag} {h base : Heap} {mg : Str → Option Value}
theorem ins_of {x : Str} (e : insB K x = true) : InsK K (He.ga K x) := by
  obtain ⟨e, e5⟩ := He.ba e
  obtain ⟨e, e4⟩ := He.ba e
  obtain ⟨e, e3⟩ := He.ba e
  obtain ⟨e1, e2⟩ := He.ba e
  exact ⟨He.eqO_ok e1, He.eqO_ok e2, of_decide_eq_true e3, of_decide_eq_true e4, of_decide_eq_true e5⟩
theorem int_at {x : Str} {i : Int} (e : ∃ t, mg x = some (.int i t)) : ∃ u, mg x = some u ∧ RelV (.int i) u := by
  obtain ⟨t, e⟩ := e
  exact ⟨_, e, t, rfl⟩
theorem str_at {x z : Str} (e : ∃ t, mg x = some (.str z t)) : ∃ u, mg x = some u ∧ RelV (.str z) u := by
  obtain ⟨t, e⟩ := e
  exact ⟨_, e, t, rfl⟩
theorem txt_of (X : K.In h) (N : h.Ns mainGlobals mg) (c : He.SaysD fa fn K) (e : exB K = true) : Txt (gl K) mg := by
  obtain ⟨e, e3⟩ := He.ba e
  obtain ⟨e1, e2⟩ := He.ba e
  exact {
    cS := He.cls_ok (c.fact 75 (f := .cls "Setting") rfl)
    gS := He.glo_ok X N (c.fact 42 (f := .glo "Setting") rfl)
    S_rule := He.noat_ok (c.fact 77 (f := .noat "Setting" "rule") rfl)
    S_every := He.noat_ok (c.fact 78 (f := .noat "Setting" "every") rfl)
    S_delay := He.noat_ok (c.fact 79 (f := .noat "Setting" "delay") rfl)
    S_told := He.noat_ok (c.fact 80 (f := .noat "Setting" "told") rfl)
    cL := He.cls_ok (c.fact 81 (f := .cls "Line") rfl)
    gL := He.glo_ok X N (c.fact 43 (f := .glo "Line") rfl)
    L_size := He.noat_ok (c.fact 83 (f := .noat "Line" "size") rfl)
    L_way := He.noat_ok (c.fact 84 (f := .noat "Line" "way") rfl)
    L_near := He.noat_ok (c.fact 85 (f := .noat "Line" "near") rfl)
    L_far := He.noat_ok (c.fact 86 (f := .noat "Line" "far") rfl)
    L_told := He.noat_ok (c.fact 87 (f := .noat "Line" "told") rfl)
    cF := He.cls_ok (c.fact 88 (f := .cls "Flow") rfl)
    gF := He.glo_ok X N (c.fact 44 (f := .glo "Flow") rfl)
    F_line := He.noat_ok (c.fact 90 (f := .noat "Flow" "line") rfl)
    F_settings := He.noat_ok (c.fact 91 (f := .noat "Flow" "settings") rfl)
    F_tick := He.noat_ok (c.fact 92 (f := .noat "Flow" "tick") rfl)
    F_stock := He.noat_ok (c.fact 93 (f := .noat "Flow" "stock") rfl)
    F_out := He.noat_ok (c.fact 94 (f := .noat "Flow" "out") rfl)
    F_known := He.noat_ok (c.fact 95 (f := .noat "Flow" "known") rfl)
    F_small := He.noat_ok (c.fact 96 (f := .noat "Flow" "small") rfl)
    F_come := He.noat_ok (c.fact 97 (f := .noat "Flow" "come") rfl)
    F_taken := He.noat_ok (c.fact 98 (f := .noat "Flow" "taken") rfl)
    F_full := He.noat_ok (c.fact 99 (f := .noat "Flow" "full") rfl)
    F_first := He.noat_ok (c.fact 100 (f := .noat "Flow" "first") rfl)
    F_long := He.noat_ok (c.fact 101 (f := .noat "Flow" "long") rfl)
    F_flight := He.noat_ok (c.fact 102 (f := .noat "Flow" "flight") rfl)
    F_log := He.noat_ok (c.fact 103 (f := .noat "Flow" "log") rfl)
    cC := He.cls_ok (c.fact 104 (f := .cls "Course") rfl)
    gC := He.glo_ok X N (c.fact 45 (f := .glo "Course") rfl)
    C_steps := He.noat_ok (c.fact 106 (f := .noat "Course" "steps") rfl)
    C_again := He.noat_ok (c.fact 107 (f := .noat "Course" "again") rfl)
    C_place := He.noat_ok (c.fact 108 (f := .noat "Course" "place") rfl)
    C_until := He.noat_ok (c.fact 109 (f := .noat "Course" "until") rfl)
    C_ended := He.noat_ok (c.fact 110 (f := .noat "Course" "ended") rfl)
    C_begun := He.noat_ok (c.fact 111 (f := .noat "Course" "begun") rfl)
    cR := He.cls_ok (c.fact 112 (f := .cls "Run") rfl)
    gR := He.glo_ok X N (c.fact 46 (f := .glo "Run") rfl)
    R_ends := He.noat_ok (c.fact 114 (f := .noat "Run" "ends") rfl)
    R_stuck := He.noat_ok (c.fact 115 (f := .noat "Run" "stuck") rfl)
    R_pieces := He.noat_ok (c.fact 116 (f := .noat "Run" "pieces") rfl)
    R_answers := He.noat_ok (c.fact 117 (f := .noat "Run" "answers") rfl)
    R_held := He.noat_ok (c.fact 118 (f := .noat "Run" "held") rfl)
    R_unread := He.noat_ok (c.fact 119 (f := .noat "Run" "unread") rfl)
    R_quiet := He.noat_ok (c.fact 120 (f := .noat "Run" "quiet") rfl)
    R_all := He.noat_ok (c.fact 121 (f := .noat "Run" "all") rfl)
    z_len := He.free_ok X N (c.fact 48 (f := .free "len") rfl)
    z_sum := He.free_ok X N (c.fact 49 (f := .free "sum") rfl)
    z_max := He.free_ok X N (c.fact 50 (f := .free "max") rfl)
    z_min := He.free_ok X N (c.fact 51 (f := .free "min") rfl)
    z_tuple := He.free_ok X N (c.fact 52 (f := .free "tuple") rfl)
    z_list := He.free_ok X N (c.fact 53 (f := .free "list") rfl)
    z_isinstance := He.free_ok X N (c.fact 54 (f := .free "isinstance") rfl)
    z_int := He.free_ok X N (c.fact 55 (f := .free "int") rfl)
    z_str := He.free_ok X N (c.fact 56 (f := .free "str") rfl)
    z_bool := He.free_ok X N (c.fact 57 (f := .free "bool") rfl)
    z_sorted := He.free_ok X N (c.fact 58 (f := .free "sorted") rfl)
    z_range := He.free_ok X N (c.fact 59 (f := .free "range") rfl)
    z_enumerate := He.free_ok X N (c.fact 60 (f := .free "enumerate") rfl)
    z_zip := He.free_ok X N (c.fact 61 (f := .free "zip") rfl)
    z_abs := He.free_ok X N (c.fact 62 (f := .free "abs") rfl)
    z_divmod := He.free_ok X N (c.fact 63 (f := .free "divmod") rfl)
    z_all := He.free_ok X N (c.fact 64 (f := .free "all") rfl)
    i_MOST_SIZE := int_at (He.int_ok X N (c.fact 65 (f := .int "MOST_SIZE" 40) rfl))
    i_MOST_WAY := int_at (He.int_ok X N (c.fact 66 (f := .int "MOST_WAY" 200) rfl))
    i_MOST_EVERY := int_at (He.int_ok X N (c.fact 67 (f := .int "MOST_EVERY" 4) rfl))
    i_MOST_DELAY := int_at (He.int_ok X N (c.fact 68 (f := .int "MOST_DELAY" 200) rfl))
    i_MOST_STEPS := int_at (He.int_ok X N (c.fact 69 (f := .int "MOST_STEPS" 6) rfl))
    i_MOST_BYTES := int_at (He.int_ok X N (c.fact 70 (f := .int "MOST_BYTES" 60) rfl))
    i_MOST_X := int_at (He.int_ok X N (c.fact 71 (f := .int "MOST_X" 2000) rfl))
    i_MOST_CHOICES := int_at (He.int_ok X N (c.fact 72 (f := .int "MOST_CHOICES" 400) rfl))
    i_MOST_LIMIT := int_at (He.int_ok X N (c.fact 73 (f := .int "MOST_LIMIT" 1000000) rfl))
    s_LETTER := str_at (He.str_ok X N (c.fact 74 (f := .str "LETTER" "x") rfl))
    t_RULES := ⟨_, He.glo_ok X N (c.fact 47 (f := .glo "RULES") rfl), fun H => He.tupB_ok e1 H⟩
    insL := ins_of e2
    insS := ins_of e3
  }
theorem code_run {f : Addr} (e : He.fAd K ("Run", some "__init__") = f) : CodeAt K f (He.cT K ("Run", some "__init__")).1 := by
  subst e
  intro oc od fd osl c' lk ec
  exact (He.codeOf_eq lk ec).symm
theorem law_of (X : K.In h) (N : h.Ns mainGlobals mg) (c : He.SaysD fa fn K) (e : exB K = true) (TB : TabB base mg (He.cT K ("Run", some "__init__")).1 (He.cT K ("Run", some "__init__")).2) {fd : FuncData} (F_law : FnP K "law" "law" s_law (He.ga K "law") fd) : FnOk P w K mg base C8.CX0 12 (He.ga K "law") fd ["_law_script"] (sp_law (gl K) (He.cT K ("Run", some "__init__")).2) := by
  have T := txt_of X N c e
  generalize (He.cT K ("Run", some "__init__")).2 = tP at TB ⊢
  obtain ⟨_, F_is_integer⟩ := c.def_ 0 (d := d_is_integer) rfl
  have c_is_integer := ok_is_integer (P := P) (w := w) (base := base) T F_is_integer (hm := He.glo_ok X N (c.fact 0 (f := .glo "is_integer") rfl)) 
  obtain ⟨_, F_is_between⟩ := c.def_ 1 (d := d_is_between) rfl
  have c_is_between := ok_is_between (P := P) (w := w) (base := base) T F_is_between (hm := He.glo_ok X N (c.fact 1 (f := .glo "is_between") rfl)) (c_is_integer := c_is_integer)
  obtain ⟨_, F_check_number⟩ := c.def_ 2 (d := d_check_number) rfl
  have c_check_number := ok_check_number (P := P) (w := w) (base := base) T F_check_number (hm := He.glo_ok X N (c.fact 2 (f := .glo "check_number") rfl)) (c_is_between := c_is_between)
  obtain ⟨_, F_Setting_init⟩ := c.def_ 3 (d := d_Setting_init) rfl
  have k_Setting := ok_Setting_init (P := P) (w := w) (base := base) T F_Setting_init (M := He.mkr_ok (c.fact 76 (f := .mkr "Setting") rfl)) (c_check_number := c_check_number)
  obtain ⟨_, F_check_setting⟩ := c.def_ 4 (d := d_check_setting) rfl
  have c_check_setting := ok_check_setting (P := P) (w := w) (base := base) T F_check_setting (hm := He.glo_ok X N (c.fact 3 (f := .glo "check_setting") rfl)) 
  obtain ⟨_, F_check_line⟩ := c.def_ 6 (d := d_check_line) rfl
  have c_check_line := ok_check_line (P := P) (w := w) (base := base) T F_check_line (hm := He.glo_ok X N (c.fact 4 (f := .glo "check_line") rfl)) 
  obtain ⟨_, F_Line_init⟩ := c.def_ 5 (d := d_Line_init) rfl
  have k_Line := ok_Line_init (P := P) (w := w) (base := base) T F_Line_init (M := He.mkr_ok (c.fact 82 (f := .mkr "Line") rfl)) (c_check_number := c_check_number) (c_check_setting := c_check_setting)
  obtain ⟨_, F_is_amount⟩ := c.def_ 7 (d := d_is_amount) rfl
  have c_is_amount := ok_is_amount (P := P) (w := w) (base := base) T F_is_amount (hm := He.glo_ok X N (c.fact 5 (f := .glo "is_amount") rfl)) (c_is_between := c_is_between)
  obtain ⟨_, F_is_step⟩ := c.def_ 8 (d := d_is_step) rfl
  have c_is_step := ok_is_step (P := P) (w := w) (base := base) T F_is_step (hm := He.glo_ok X N (c.fact 6 (f := .glo "is_step") rfl)) (c_is_between := c_is_between) (c_is_amount := c_is_amount)
  obtain ⟨_, F_check_program⟩ := c.def_ 9 (d := d_check_program) rfl
  have c_check_program := ok_check_program (P := P) (w := w) (base := base) T F_check_program (hm := He.glo_ok X N (c.fact 7 (f := .glo "check_program") rfl)) (c_is_step := c_is_step)
  obtain ⟨_, F_is_size⟩ := c.def_ 10 (d := d_is_size) rfl
  have c_is_size := ok_is_size (P := P) (w := w) (base := base) T F_is_size (hm := He.glo_ok X N (c.fact 8 (f := .glo "is_size") rfl)) (c_is_between := c_is_between)
  obtain ⟨_, F_check_size⟩ := c.def_ 11 (d := d_check_size) rfl
  have c_check_size := ok_check_size (P := P) (w := w) (base := base) T F_check_size (hm := He.glo_ok X N (c.fact 9 (f := .glo "check_size") rfl)) (c_is_size := c_is_size)
  obtain ⟨_, F_check_limit⟩ := c.def_ 41 (d := d_check_limit) rfl
  have c_check_limit := ok_check_limit (P := P) (w := w) (base := base) T F_check_limit (hm := He.glo_ok X N (c.fact 20 (f := .glo "check_limit") rfl)) (c_is_between := c_is_between)
  obtain ⟨_, F_check_run⟩ := c.def_ 38 (d := d_check_run) rfl
  have c_check_run := ok_check_run (P := P) (w := w) (base := base) T F_check_run (hm := He.glo_ok X N (c.fact 17 (f := .glo "check_run") rfl)) (c_check_line := c_check_line) (c_check_program := c_check_program)
  obtain ⟨_, F_is_within⟩ := c.def_ 40 (d := d_is_within) rfl
  have c_is_within := ok_is_within (P := P) (w := w) (base := base) T F_is_within (hm := He.glo_ok X N (c.fact 19 (f := .glo "is_within") rfl)) 
  obtain ⟨_, F_pause_steps⟩ := c.def_ 12 (d := d_pause_steps) rfl
  have c_pause_steps := ok_pause_steps (P := P) (w := w) (base := base) T F_pause_steps (hm := He.glo_ok X N (c.fact 10 (f := .glo "pause_steps") rfl)) 
  obtain ⟨_, F_shortest⟩ := c.def_ 14 (d := d_shortest) rfl
  have c_shortest := ok_shortest (P := P) (w := w) (base := base) T F_shortest (hm := He.glo_ok X N (c.fact 12 (f := .glo "shortest") rfl)) (c_pause_steps := c_pause_steps)
  obtain ⟨_, F_check_pauses⟩ := c.def_ 13 (d := d_check_pauses) rfl
  have c_check_pauses := ok_check_pauses (P := P) (w := w) (base := base) T F_check_pauses (hm := He.glo_ok X N (c.fact 11 (f := .glo "check_pauses") rfl)) (c_pause_steps := c_pause_steps) (c_is_between := c_is_between)
  obtain ⟨_, F_count_choices⟩ := c.def_ 42 (d := d_count_choices) rfl
  have c_count_choices := ok_count_choices (P := P) (w := w) (base := base) T F_count_choices (hm := He.glo_ok X N (c.fact 21 (f := .glo "count_choices") rfl)) (c_pause_steps := c_pause_steps)
  obtain ⟨_, F_check_choices⟩ := c.def_ 44 (d := d_check_choices) rfl
  have c_check_choices := ok_check_choices (P := P) (w := w) (base := base) T F_check_choices (hm := He.glo_ok X N (c.fact 23 (f := .glo "check_choices") rfl)) (c_count_choices := c_count_choices)
  obtain ⟨_, F_plain_steps⟩ := c.def_ 15 (d := d_plain_steps) rfl
  have c_plain_steps := ok_plain_steps (P := P) (w := w) (base := base) T F_plain_steps (hm := He.glo_ok X N (c.fact 13 (f := .glo "plain_steps") rfl)) 
  obtain ⟨_, F_all_choices⟩ := c.def_ 43 (d := d_all_choices) rfl
  have c_all_choices := ok_all_choices (P := P) (w := w) (base := base) T F_all_choices (hm := He.glo_ok X N (c.fact 22 (f := .glo "all_choices") rfl)) (c_pause_steps := c_pause_steps)
  obtain ⟨_, F_Flow_fresh⟩ := c.def_ 18 (d := d_Flow_fresh) rfl
  have m_Flow_fresh := ok_Flow_fresh (P := P) (w := w) (base := base) T F_Flow_fresh (me := He.meth_ok (c.fact 123 (f := .meth "Flow" "fresh") rfl)) 
  obtain ⟨_, F_Flow_kept⟩ := c.def_ 17 (d := d_Flow_kept) rfl
  have m_Flow_kept := ok_Flow_kept (P := P) (w := w) (base := base) T F_Flow_kept (me := He.meth_ok (c.fact 122 (f := .meth "Flow" "kept") rfl)) 
  obtain ⟨_, F_Flow_lets⟩ := c.def_ 21 (d := d_Flow_lets) rfl
  have m_Flow_lets := ok_Flow_lets (P := P) (w := w) (base := base) T F_Flow_lets (me := He.meth_ok (c.fact 126 (f := .meth "Flow" "lets") rfl)) 
  obtain ⟨_, F_Flow_take_out⟩ := c.def_ 19 (d := d_Flow_take_out) rfl
  have m_Flow_take_out := ok_Flow_take_out (P := P) (w := w) (base := base) T F_Flow_take_out (me := He.meth_ok (c.fact 124 (f := .meth "Flow" "take_out") rfl)) 
  obtain ⟨_, F_Flow_send⟩ := c.def_ 20 (d := d_Flow_send) rfl
  have m_Flow_send := ok_Flow_send (P := P) (w := w) (base := base) T F_Flow_send (me := He.meth_ok (c.fact 125 (f := .meth "Flow" "send") rfl)) (m_Flow_take_out := m_Flow_take_out)
  obtain ⟨_, F_Flow_is_due⟩ := c.def_ 26 (d := d_Flow_is_due) rfl
  have m_Flow_is_due := ok_Flow_is_due (P := P) (w := w) (base := base) T F_Flow_is_due (me := He.meth_ok (c.fact 131 (f := .meth "Flow" "is_due") rfl)) 
  obtain ⟨_, F_Flow_let_go⟩ := c.def_ 22 (d := d_Flow_let_go) rfl
  have m_Flow_let_go := ok_Flow_let_go (P := P) (w := w) (base := base) T F_Flow_let_go (me := He.meth_ok (c.fact 127 (f := .meth "Flow" "let_go") rfl)) (m_Flow_kept := m_Flow_kept) (m_Flow_send := m_Flow_send) (m_Flow_lets := m_Flow_lets)
  obtain ⟨_, F_Flow_put⟩ := c.def_ 23 (d := d_Flow_put) rfl
  have m_Flow_put := ok_Flow_put (P := P) (w := w) (base := base) T F_Flow_put (me := He.meth_ok (c.fact 128 (f := .meth "Flow" "put") rfl)) (m_Flow_let_go := m_Flow_let_go)
  obtain ⟨_, F_Flow_land⟩ := c.def_ 24 (d := d_Flow_land) rfl
  have m_Flow_land := ok_Flow_land (P := P) (w := w) (base := base) T F_Flow_land (me := He.meth_ok (c.fact 129 (f := .meth "Flow" "land") rfl)) 
  obtain ⟨_, F_Flow_leave⟩ := c.def_ 27 (d := d_Flow_leave) rfl
  have m_Flow_leave := ok_Flow_leave (P := P) (w := w) (base := base) T F_Flow_leave (me := He.meth_ok (c.fact 132 (f := .meth "Flow" "leave") rfl)) (m_Flow_is_due := m_Flow_is_due) (m_Flow_send := m_Flow_send)
  obtain ⟨_, F_Flow_begin⟩ := c.def_ 25 (d := d_Flow_begin) rfl
  have m_Flow_begin := ok_Flow_begin (P := P) (w := w) (base := base) T F_Flow_begin (me := He.meth_ok (c.fact 130 (f := .meth "Flow" "begin") rfl)) (m_Flow_land := m_Flow_land) (m_Flow_let_go := m_Flow_let_go)
  obtain ⟨_, F_Flow_next_tick⟩ := c.def_ 28 (d := d_Flow_next_tick) rfl
  have m_Flow_next_tick := ok_Flow_next_tick (P := P) (w := w) (base := base) T F_Flow_next_tick (me := He.meth_ok (c.fact 133 (f := .meth "Flow" "next_tick") rfl)) 
  obtain ⟨_, F_Course_pass_step⟩ := c.def_ 30 (d := d_Course_pass_step) rfl
  have m_Course_pass_step := ok_Course_pass_step (P := P) (w := w) (base := base) T F_Course_pass_step (me := He.meth_ok (c.fact 134 (f := .meth "Course" "pass_step") rfl)) 
  obtain ⟨_, F_Course_rests⟩ := c.def_ 31 (d := d_Course_rests) rfl
  have m_Course_rests := ok_Course_rests (P := P) (w := w) (base := base) T F_Course_rests (me := He.meth_ok (c.fact 135 (f := .meth "Course" "rests") rfl)) 
  obtain ⟨_, F_Course_do_step⟩ := c.def_ 32 (d := d_Course_do_step) rfl
  have m_Course_do_step := ok_Course_do_step (P := P) (w := w) (base := base) T F_Course_do_step (me := He.meth_ok (c.fact 136 (f := .meth "Course" "do_step") rfl)) (m_Flow_put := m_Flow_put) (m_Flow_fresh := m_Flow_fresh) (m_Course_rests := m_Course_rests) (m_Course_pass_step := m_Course_pass_step)
  obtain ⟨_, F_Course_go_on⟩ := c.def_ 33 (d := d_Course_go_on) rfl
  have m_Course_go_on := ok_Course_go_on (P := P) (w := w) (base := base) T F_Course_go_on (me := He.meth_ok (c.fact 137 (f := .meth "Course" "go_on") rfl)) (m_Course_do_step := m_Course_do_step)
  obtain ⟨_, F_do_tick⟩ := c.def_ 35 (d := d_do_tick) rfl
  have c_do_tick := ok_do_tick (P := P) (w := w) (base := base) T F_do_tick (hm := He.glo_ok X N (c.fact 15 (f := .glo "do_tick") rfl)) (m_Flow_begin := m_Flow_begin) (m_Flow_leave := m_Flow_leave) (m_Course_go_on := m_Course_go_on)
  obtain ⟨_, F_events⟩ := c.def_ 34 (d := d_events) rfl
  have c_events := ok_events (P := P) (w := w) (base := base) T F_events (hm := He.glo_ok X N (c.fact 14 (f := .glo "events") rfl)) (m_Flow_next_tick := m_Flow_next_tick)
  obtain ⟨_, F_Flow_init⟩ := c.def_ 16 (d := d_Flow_init) rfl
  have k_Flow := ok_Flow_init (P := P) (w := w) (base := base) T F_Flow_init (M := He.mkr_ok (c.fact 89 (f := .mkr "Flow") rfl)) 
  obtain ⟨_, F_Course_init⟩ := c.def_ 29 (d := d_Course_init) rfl
  have k_Course := ok_Course_init (P := P) (w := w) (base := base) T F_Course_init (M := He.mkr_ok (c.fact 105 (f := .mkr "Course") rfl)) 
  obtain ⟨_, F_Run_init⟩ := c.def_ 36 (d := d_Run_init) rfl
  have k_Run := ok_Run_init (P := P) (w := w) (base := base) (tP := tP) T F_Run_init (M := He.mkr_ok (c.fact 113 (f := .mkr "Run") rfl)) (hcode := code_run rfl) (TB := TB) (m_Flow_fresh := m_Flow_fresh)
  obtain ⟨_, F_run_of⟩ := c.def_ 37 (d := d_run_of) rfl
  have c_run_of := ok_run_of (P := P) (w := w) (base := base) (tP := tP) T F_run_of (hm := He.glo_ok X N (c.fact 16 (f := .glo "run_of") rfl)) (k_Flow := k_Flow) (c_plain_steps := c_plain_steps) (k_Course := k_Course) (c_do_tick := c_do_tick) (c_events := c_events) (k_Run := k_Run)
  obtain ⟨_, F_all_ends⟩ := c.def_ 45 (d := d_all_ends) rfl
  have c_all_ends := ok_all_ends (P := P) (w := w) (base := base) (tP := tP) T F_all_ends (hm := He.glo_ok X N (c.fact 24 (f := .glo "all_ends") rfl)) (c_check_run := c_check_run) (c_check_size := c_check_size) (c_check_choices := c_check_choices) (c_run_of := c_run_of) (c_all_choices := c_all_choices)
  obtain ⟨_, F_run⟩ := c.def_ 39 (d := d_run) rfl
  have o_run := ok_run (P := P) (w := w) (base := base) (tP := tP) T F_run (c_check_run := c_check_run) (c_check_size := c_check_size) (c_run_of := c_run_of) (c_shortest := c_shortest) (c_check_pauses := c_check_pauses)
  have c_run := k_run F_run (He.glo_ok X N (c.fact 18 (f := .glo "run") rfl)) o_run
  have c_run1 := k_run1 F_run (He.glo_ok X N (c.fact 18 (f := .glo "run") rfl)) o_run
  obtain ⟨_, F_latest⟩ := c.def_ 46 (d := d_latest) rfl
  have o_latest := ok_latest (P := P) (w := w) (base := base) (tP := tP) T F_latest (c_all_ends := c_all_ends)
  have c_latest := k_latest F_latest (He.glo_ok X N (c.fact 25 (f := .glo "latest") rfl)) o_latest
  obtain ⟨_, F_earliest⟩ := c.def_ 47 (d := d_earliest) rfl
  have o_earliest := ok_earliest (P := P) (w := w) (base := base) (tP := tP) T F_earliest (c_all_ends := c_all_ends)
  have c_earliest := k_earliest F_earliest (He.glo_ok X N (c.fact 26 (f := .glo "earliest") rfl)) o_earliest
  obtain ⟨_, F_late_of⟩ := c.def_ 48 (d := d_late_of) rfl
  have c_late_of := ok_late_of (P := P) (w := w) (base := base) (tP := tP) T F_late_of (hm := He.glo_ok X N (c.fact 27 (f := .glo "late_of") rfl)) (c_run_of := c_run_of) (c_all_choices := c_all_choices) (c_is_within := c_is_within)
  obtain ⟨_, F_late_choice⟩ := c.def_ 49 (d := d_late_choice) rfl
  have o_late_choice := ok_late_choice (P := P) (w := w) (base := base) (tP := tP) T F_late_choice (c_check_run := c_check_run) (c_check_size := c_check_size) (c_check_limit := c_check_limit) (c_check_choices := c_check_choices) (c_late_of := c_late_of)
  have c_late_choice := k_late_choice F_late_choice (He.glo_ok X N (c.fact 28 (f := .glo "late_choice") rfl)) o_late_choice
  obtain ⟨_, F_law_mill⟩ := c.def_ 50 (d := d_law_mill) rfl
  have c_law_mill := ok_law_mill (P := P) (w := w) (base := base) T F_law_mill (hm := He.glo_ok X N (c.fact 29 (f := .glo "_law_mill") rfl)) 
  obtain ⟨_, F_law_grain⟩ := c.def_ 51 (d := d_law_grain) rfl
  have c_law_grain := ok_law_grain (P := P) (w := w) (base := base) T F_law_grain (hm := He.glo_ok X N (c.fact 30 (f := .glo "_law_grain") rfl)) 
  obtain ⟨_, F_law_pick⟩ := c.def_ 52 (d := d_law_pick) rfl
  have c_law_pick := ok_law_pick (P := P) (w := w) (base := base) T F_law_pick (hm := He.glo_ok X N (c.fact 31 (f := .glo "_law_pick") rfl)) (c_law_grain := c_law_grain)
  obtain ⟨_, F_law_ways⟩ := c.def_ 53 (d := d_law_ways) rfl
  have c_law_ways := ok_law_ways (P := P) (w := w) (base := base) T F_law_ways (hm := He.glo_ok X N (c.fact 32 (f := .glo "_law_ways") rfl)) (c_law_grain := c_law_grain) (c_law_pick := c_law_pick)
  obtain ⟨_, F_law_told⟩ := c.def_ 54 (d := d_law_told) rfl
  have c_law_told := ok_law_told (P := P) (w := w) (base := base) T F_law_told (hm := He.glo_ok X N (c.fact 33 (f := .glo "_law_told") rfl)) (c_law_grain := c_law_grain) (c_law_pick := c_law_pick) (c_law_ways := c_law_ways)
  obtain ⟨_, F_law_made⟩ := c.def_ 55 (d := d_law_made) rfl
  have c_law_made := ok_law_made (P := P) (w := w) (base := base) T F_law_made (hm := He.glo_ok X N (c.fact 34 (f := .glo "_law_made") rfl)) (k_Setting := k_Setting) (k_Line := k_Line)
  obtain ⟨_, F_law_amount⟩ := c.def_ 56 (d := d_law_amount) rfl
  have c_law_amount := ok_law_amount (P := P) (w := w) (base := base) T F_law_amount (hm := He.glo_ok X N (c.fact 35 (f := .glo "_law_amount") rfl)) (c_law_grain := c_law_grain) (c_law_pick := c_law_pick)
  obtain ⟨_, F_law_plans⟩ := c.def_ 57 (d := d_law_plans) rfl
  have c_law_plans := ok_law_plans (P := P) (w := w) (base := base) T F_law_plans (hm := He.glo_ok X N (c.fact 36 (f := .glo "_law_plans") rfl)) (c_law_grain := c_law_grain) (c_law_amount := c_law_amount)
  obtain ⟨_, F_law_choice⟩ := c.def_ 58 (d := d_law_choice) rfl
  have c_law_choice := ok_law_choice (P := P) (w := w) (base := base) T F_law_choice (hm := He.glo_ok X N (c.fact 37 (f := .glo "_law_choice") rfl)) (c_law_grain := c_law_grain)
  obtain ⟨_, F_law_wide⟩ := c.def_ 59 (d := d_law_wide) rfl
  have c_law_wide := ok_law_wide (P := P) (w := w) (base := base) T F_law_wide (hm := He.glo_ok X N (c.fact 38 (f := .glo "_law_wide") rfl)) (c_law_grain := c_law_grain)
  obtain ⟨_, F_law_inside⟩ := c.def_ 60 (d := d_law_inside) rfl
  have c_law_inside := ok_law_inside (P := P) (w := w) (base := base) T F_law_inside (hm := He.glo_ok X N (c.fact 39 (f := .glo "_law_inside") rfl)) 
  obtain ⟨_, F_law_right⟩ := c.def_ 61 (d := d_law_right) rfl
  have c_law_right := ok_law_right (P := P) (w := w) (base := base) (tP := tP) T F_law_right (hm := He.glo_ok X N (c.fact 40 (f := .glo "_law_right") rfl)) (c_law_told := c_law_told) (c_law_made := c_law_made) (c_law_plans := c_law_plans) (c_law_wide := c_law_wide) (c_law_grain := c_law_grain) (c_law_pick := c_law_pick) (c_law_choice := c_law_choice) (c_law_inside := c_law_inside) (c_latest := c_latest) (c_earliest := c_earliest) (c_late_choice := c_late_choice) (c_run := c_run) (c_run1 := c_run1)
  exact ok_law (P := P) (w := w) (base := base) (tP := tP) T F_law (c_law_mill := c_law_mill) (c_law_right := c_law_right)
end
theorem at_law {l : PySem.W.OpenLaw} {w : World} {K : PySem.W.Frag} {h : Heap} {mg : Str → Option Value} {f : Addr} (X : K.In h) (N : h.Ns mainGlobals mg) (c : He.SaysX fa fn [] tf exB w h K) (hmg : mg ("law" : Str) = some (.ref f)) : LamX.LawAtS l w K C8.CX0 12 63 "_law_script" mg f h := by
  have c1 : He.SaysD fa fn K := c.t.d
  have e := hmg.symm.trans (He.glo_ok X N (c1.fact 41 (f := .glo "law") rfl))
  cases e
  obtain ⟨fd, F⟩ := c1.def_ 62 (d := d_law) rfl
  have b := FunD.bindsA (ps := ["_law_script"]) F fun _ _ _ _ _ _ us hl => match us, hl with | [_], _ => rfl
  have m : (("Run", some "__init__") : He.Defn) ∈ tf := List.mem_singleton.mpr rfl
  have one : ∀ p, p ∈ [He.cT K ("Run", some "__init__")] → p = He.cT K ("Run", some "__init__") := fun p hp => List.mem_singleton.mp hp
  refine ⟨fd, [He.cT K ("Run", some "__init__")], sp_law (gl K) (He.cT K ("Run", some "__init__")).2, fun p hp => ?_, fun p hp => ?_, fun p hp => ?_, fun s u => b s [u] rfl, fun H a ns hl _ hT hS => ?_, fun base hK hN hTB => ?_⟩
  · rw [one p hp]
    exact c.empty _ m
  · rw [one p hp]
    exact c.out _ m
  · rw [one p hp]
    exact PySem.W.codeHd_of_K X (c.hd _ m)
  · exact ⟨a, ns, rfl, hS, hl, fun p hp => by
      rw [List.mem_singleton.mp hp]
      exact LamX.TabS.nil (hT _ (List.mem_singleton.mpr rfl)), fun _ => rfl⟩
  · exact law_of hK hN c1 c.more (hTB _ (List.mem_singleton.mpr rfl)) F
end SH
end
open PySem PySem.W PySem.Calls PyProof.Rows
theorem PySem.Challenge.cw_smallheld_k27_whole_many_choices_holds : PySem.Challenge.rw_smallheld_k27_whole_many_choices.Holds := by
  w_on; o_law
  refine HandSHeadRun.head_any (r := OpenLaw.row PySem.Challenge.rw_smallheld_k27_whole_many_choices) (q := view (OpenLaw.row PySem.Challenge.rw_smallheld_k27_whole_many_choices).prog [77]) (H := SHH.hk) (ob := SHH.ob) (M := 8000) (loose := SHH.loose) (d := HandSHeadRun.topDef (OpenLaw.row PySem.Challenge.rw_smallheld_k27_whole_many_choices).prog 77) (kwd := []) SHH.ob_eq
    (by kernel_rfl) (fun s => by kernel_rfl) SHH.run (by kernel_rfl) (by kernel_rfl) (by kernel_rfl) (by rfl) (by first | assumption | decide +kernel) (by decide +kernel) ⟨rfl, rfl, rfl, rfl, rfl, by decide +kernel⟩ ?hw ?hc
  case hw => w_witness2
  case hc =>
    refine LamX.walk_ofTsE (l := PySem.Challenge.rw_smallheld_k27_whole_many_choices) (n := 63) (k := 12) (x := "_law_script") (CX := fun _ => C8.CX0) rfl (by decide) (by kernel_rfl) ⟨rfl, by decide, by decide⟩ ?F (fun _ _ _ _ _ z => z)
    intro w mg fa h Y G hmg0
    obtain ⟨K, KX, c⟩ := Y
    have hmg : mg ("law" : PySem.Str) = some (.ref fa) := by
      have e : (HandSHeadRun.topDef (OpenLaw.row PySem.Challenge.rw_smallheld_k27_whole_many_choices).prog 77).name = ("law" : PySem.Str) := by kernel_rfl
      rw [← e]
      exact hmg0
    exact ⟨K, KX, SH.at_law KX G c hmg⟩
