import PyProof.Rows.All
import Wide.All
import OpenK.AllK
import Wide.FinOn
import HandS.Base
import HandS.Call
import HandS.List
import HandS.Comp
import HandS.Dict
import HandS.DictComp
import HandS.Iter
import HandS.Text
import HandS.Flow
import HandS.Defaults
import HandS.MakeKw
import HandS.MakeKwOnly
import HandS.Words
import HandS.WordsList
import HandS.WordsDict
import HandS.WordsExc
import HandS.Exc
import HandS.ExcOwn
import HandS.TryOnly
import HandS.Finally
import HandS.IsInst
import HandS.SetKeys
import HandS.SortKw
import HandS.FStr
import HandS.Ends
import HandS.Codes
import HandS.HeadHook1
import HandS.HeadHook2
import HandS.HeadHook3
import HandS.HeadHook4
import HandS.HeadEnd
import HandS.Head0
import HandS.Head1
import HandS.Head2
import PySem.Challenge.RW_knockwell_k11_left_out
import KE.KUnpackStar
import KE.KMinKey
import HandS.SetBool
import HandS.ForExc
import HandS.OwnEq
import PyProof.InstNe
import HandS.Evl
import HandS.CallLocal
import HandS.Zip
import KE.GoesZip
import KE.GoesMore
import KE.GoesEnum
import PyProof.EqLayable
import HandS.EndTab
import PyProof.P3Eq
import HandS.HeadWalk
section
set_option Elab.async false
set_option linter.all false
set_option autoImplicit false
set_option maxRecDepth 100000
set_option maxHeartbeats 4000000
/-! the text by places, what the top leaves -/
namespace KW
open PySem PySem.Spec PyProof.Rows L2 He
def top (i : Nat) : Stmt := PySem.Challenge.pw_knockwell_k11_left_out.main.body.getD i (.Pass ⟨0, 0, 0, 0⟩)
/-- the function object at an address -/
def fdAt (K : PySem.W.Frag) (a : Addr) : FuncData := match K.lookup a with
  | some ⟨_, _, .func fd, _⟩ => fd
  | _ => default
theorem funD_at {K : PySem.W.Frag} {x qual : Str} {params : Arguments} {body : List Stmt} {scope : Scope} {dvs : List V} {kws : List (Str × V)} {f : Addr} (h : ∃ fd, FunD K x qual params body scope dvs kws f fd) : FunD K x qual params body scope dvs kws f (fdAt K f) := by
  obtain ⟨fd, F⟩ := h
  have F' := F
  obtain ⟨oc, od, dV, kV, doc, pm, an, cdv, ct, osl, e, lk, r⟩ := F.ex
  have : fdAt K f = fd := by
    unfold fdAt
    rw [lk]
  rw [this]
  exact F'
abbrev s_Job_init : Stmt := inClass (top 2) 0
abbrev s_Job_whose : Stmt := inClass (top 2) 1
abbrev s_Job_twin : Stmt := inClass (top 2) 2
abbrev s_Line_init : Stmt := inClass (top 3) 0
abbrev s_Line_twin : Stmt := inClass (top 3) 1
abbrev s_Line_waits : Stmt := inClass (top 3) 2
abbrev s_Line_knock : Stmt := inClass (top 3) 3
abbrev s_Line_begin : Stmt := inClass (top 3) 4
abbrev s_Line_answer : Stmt := inClass (top 3) 5
abbrev s_Line_sums : Stmt := inClass (top 3) 6
abbrev s_Engine_init : Stmt := inClass (top 4) 0
abbrev s_Engine_line_of : Stmt := inClass (top 4) 1
abbrev s_Engine_ready_line : Stmt := inClass (top 4) 2
abbrev s_Engine_ready_thread : Stmt := inClass (top 4) 3
abbrev s_Engine_chosen : Stmt := inClass (top 4) 4
abbrev s_Engine_over : Stmt := inClass (top 4) 5
abbrev s_Engine_quick : Stmt := inClass (top 4) 6
abbrev s_Engine_go : Stmt := inClass (top 4) 7
abbrev s_Engine_twin : Stmt := inClass (top 4) 8
abbrev s_rank_of : Stmt := top 5
abbrev s_BadKnocks_init : Stmt := inClass (top 12) 0
abbrev s_is_whole : Stmt := top 18
abbrev s_within : Stmt := top 19
abbrev s_is_name : Stmt := top 20
abbrev s_is_step : Stmt := top 21
abbrev s_are_steps : Stmt := top 22
abbrev s_spoken : Stmt := top 23
abbrev s_line : Stmt := top 31
abbrev s_is_guard : Stmt := top 32
abbrev s_is_line : Stmt := top 33
abbrev s_is_bottom : Stmt := top 34
abbrev s_is_thread : Stmt := top 35
abbrev s_are_ones : Stmt := top 36
abbrev s_are_unlike_ranks : Stmt := top 37
abbrev s_all_there : Stmt := top 38
abbrev s_copied : Stmt := top 39
abbrev s_Plan_init : Stmt := inClass (top 40) 0
abbrev s_Plan_eq : Stmt := inClass (top 40) 1
abbrev s_Plan_parts : Stmt := inClass (top 40) 2
abbrev s_Plan_lines : Stmt := inClass (top 40) 3
abbrev s_Plan_bottoms : Stmt := inClass (top 40) 4
abbrev s_Plan_threads : Stmt := inClass (top 40) 5
abbrev s_Plan_names : Stmt := inClass (top 40) 6
abbrev s_check_knocks : Stmt := top 46
abbrev s_Run_init : Stmt := inClass (top 47) 0
abbrev s_Run_who : Stmt := inClass (top 47) 1
abbrev s_Run_spans : Stmt := inClass (top 47) 2
abbrev s_Run_masks : Stmt := inClass (top 47) 3
abbrev s_Run_sums : Stmt := inClass (top 47) 4
abbrev s_Run_waits : Stmt := inClass (top 47) 5
abbrev s_run : Stmt := top 48
abbrev s_Bench_init : Stmt := inClass (top 50) 0
abbrev s_Bench_check_name : Stmt := inClass (top 50) 1
abbrev s_Bench_knock : Stmt := inClass (top 50) 2
abbrev s_Bench_go : Stmt := inClass (top 50) 3
abbrev s_Bench_until : Stmt := inClass (top 50) 4
abbrev s_Bench_tick : Stmt := inClass (top 50) 5
abbrev s_Bench_log : Stmt := inClass (top 50) 6
abbrev s_Bench_nested : Stmt := inClass (top 50) 7
abbrev s_Bench_so_far : Stmt := inClass (top 50) 8
abbrev s_law_steps : Stmt := top 52
abbrev s_law_told : Stmt := top 53
abbrev s_law_begun : Stmt := top 54
abbrev s_law : Stmt := top 55
abbrev g_Job (K : PySem.W.Frag) : Addr := ga K "Job"
abbrev g_Line (K : PySem.W.Frag) : Addr := ga K "Line"
abbrev g_Engine (K : PySem.W.Frag) : Addr := ga K "Engine"
abbrev g_rank_of (K : PySem.W.Frag) : Addr := ga K "rank_of"
abbrev g_KnockError (K : PySem.W.Frag) : Addr := ga K "KnockError"
abbrev g_BadPlan (K : PySem.W.Frag) : Addr := ga K "BadPlan"
abbrev g_BadTicks (K : PySem.W.Frag) : Addr := ga K "BadTicks"
abbrev g_BadName (K : PySem.W.Frag) : Addr := ga K "BadName"
abbrev g_Full (K : PySem.W.Frag) : Addr := ga K "Full"
abbrev g_BadKnocks (K : PySem.W.Frag) : Addr := ga K "BadKnocks"
abbrev g_is_whole (K : PySem.W.Frag) : Addr := ga K "is_whole"
abbrev g_within (K : PySem.W.Frag) : Addr := ga K "within"
abbrev g_is_name (K : PySem.W.Frag) : Addr := ga K "is_name"
abbrev g_is_step (K : PySem.W.Frag) : Addr := ga K "is_step"
abbrev g_are_steps (K : PySem.W.Frag) : Addr := ga K "are_steps"
abbrev g_spoken (K : PySem.W.Frag) : Addr := ga K "spoken"
abbrev g_line (K : PySem.W.Frag) : Addr := ga K "line"
abbrev g_is_guard (K : PySem.W.Frag) : Addr := ga K "is_guard"
abbrev g_is_line (K : PySem.W.Frag) : Addr := ga K "is_line"
abbrev g_is_bottom (K : PySem.W.Frag) : Addr := ga K "is_bottom"
abbrev g_is_thread (K : PySem.W.Frag) : Addr := ga K "is_thread"
abbrev g_are_ones (K : PySem.W.Frag) : Addr := ga K "are_ones"
abbrev g_are_unlike_ranks (K : PySem.W.Frag) : Addr := ga K "are_unlike_ranks"
abbrev g_all_there (K : PySem.W.Frag) : Addr := ga K "all_there"
abbrev g_copied (K : PySem.W.Frag) : Addr := ga K "copied"
abbrev g_Plan (K : PySem.W.Frag) : Addr := ga K "Plan"
abbrev g_check_knocks (K : PySem.W.Frag) : Addr := ga K "check_knocks"
abbrev g_Run (K : PySem.W.Frag) : Addr := ga K "Run"
abbrev g_run (K : PySem.W.Frag) : Addr := ga K "run"
abbrev g_Bench (K : PySem.W.Frag) : Addr := ga K "Bench"
abbrev g_law_steps (K : PySem.W.Frag) : Addr := ga K "_law_steps"
abbrev g_law_told (K : PySem.W.Frag) : Addr := ga K "_law_told"
abbrev g_law_begun (K : PySem.W.Frag) : Addr := ga K "_law_begun"
abbrev g_law (K : PySem.W.Frag) : Addr := ga K "law"
abbrev f_Job_init (K : PySem.W.Frag) : Addr := ma K (ga K "Job") "__init__"
abbrev f_Job_whose (K : PySem.W.Frag) : Addr := ma K (ga K "Job") "whose"
abbrev f_Job_twin (K : PySem.W.Frag) : Addr := ma K (ga K "Job") "twin"
abbrev f_Line_init (K : PySem.W.Frag) : Addr := ma K (ga K "Line") "__init__"
abbrev f_Line_twin (K : PySem.W.Frag) : Addr := ma K (ga K "Line") "twin"
abbrev f_Line_waits (K : PySem.W.Frag) : Addr := ma K (ga K "Line") "waits"
abbrev f_Line_knock (K : PySem.W.Frag) : Addr := ma K (ga K "Line") "knock"
abbrev f_Line_begin (K : PySem.W.Frag) : Addr := ma K (ga K "Line") "begin"
abbrev f_Line_answer (K : PySem.W.Frag) : Addr := ma K (ga K "Line") "answer"
abbrev f_Line_sums (K : PySem.W.Frag) : Addr := ma K (ga K "Line") "sums"
abbrev f_Engine_init (K : PySem.W.Frag) : Addr := ma K (ga K "Engine") "__init__"
abbrev f_Engine_line_of (K : PySem.W.Frag) : Addr := ma K (ga K "Engine") "line_of"
abbrev f_Engine_ready_line (K : PySem.W.Frag) : Addr := ma K (ga K "Engine") "ready_line"
abbrev f_Engine_ready_thread (K : PySem.W.Frag) : Addr := ma K (ga K "Engine") "ready_thread"
abbrev f_Engine_chosen (K : PySem.W.Frag) : Addr := ma K (ga K "Engine") "chosen"
abbrev f_Engine_over (K : PySem.W.Frag) : Addr := ma K (ga K "Engine") "over"
abbrev f_Engine_quick (K : PySem.W.Frag) : Addr := ma K (ga K "Engine") "quick"
abbrev f_Engine_go (K : PySem.W.Frag) : Addr := ma K (ga K "Engine") "go"
abbrev f_Engine_twin (K : PySem.W.Frag) : Addr := ma K (ga K "Engine") "twin"
abbrev f_rank_of (K : PySem.W.Frag) : Addr := ga K "rank_of"
abbrev f_BadKnocks_init (K : PySem.W.Frag) : Addr := ma K (ga K "BadKnocks") "__init__"
abbrev f_is_whole (K : PySem.W.Frag) : Addr := ga K "is_whole"
abbrev f_within (K : PySem.W.Frag) : Addr := ga K "within"
abbrev f_is_name (K : PySem.W.Frag) : Addr := ga K "is_name"
abbrev f_is_step (K : PySem.W.Frag) : Addr := ga K "is_step"
abbrev f_are_steps (K : PySem.W.Frag) : Addr := ga K "are_steps"
abbrev f_spoken (K : PySem.W.Frag) : Addr := ga K "spoken"
abbrev f_line (K : PySem.W.Frag) : Addr := ga K "line"
abbrev f_is_guard (K : PySem.W.Frag) : Addr := ga K "is_guard"
abbrev f_is_line (K : PySem.W.Frag) : Addr := ga K "is_line"
abbrev f_is_bottom (K : PySem.W.Frag) : Addr := ga K "is_bottom"
abbrev f_is_thread (K : PySem.W.Frag) : Addr := ga K "is_thread"
abbrev f_are_ones (K : PySem.W.Frag) : Addr := ga K "are_ones"
abbrev f_are_unlike_ranks (K : PySem.W.Frag) : Addr := ga K "are_unlike_ranks"
abbrev f_all_there (K : PySem.W.Frag) : Addr := ga K "all_there"
abbrev f_copied (K : PySem.W.Frag) : Addr := ga K "copied"
abbrev f_Plan_init (K : PySem.W.Frag) : Addr := ma K (ga K "Plan") "__init__"
abbrev f_Plan_eq (K : PySem.W.Frag) : Addr := ma K (ga K "Plan") "__eq__"
abbrev f_Plan_parts (K : PySem.W.Frag) : Addr := ma K (ga K "Plan") "parts"
abbrev f_Plan_lines (K : PySem.W.Frag) : Addr := ma K (ga K "Plan") "lines"
abbrev f_Plan_bottoms (K : PySem.W.Frag) : Addr := ma K (ga K "Plan") "bottoms"
abbrev f_Plan_threads (K : PySem.W.Frag) : Addr := ma K (ga K "Plan") "threads"
abbrev f_Plan_names (K : PySem.W.Frag) : Addr := ma K (ga K "Plan") "names"
abbrev f_check_knocks (K : PySem.W.Frag) : Addr := ga K "check_knocks"
abbrev f_Run_init (K : PySem.W.Frag) : Addr := ma K (ga K "Run") "__init__"
abbrev f_Run_who (K : PySem.W.Frag) : Addr := ma K (ga K "Run") "who"
abbrev f_Run_spans (K : PySem.W.Frag) : Addr := ma K (ga K "Run") "spans"
abbrev f_Run_masks (K : PySem.W.Frag) : Addr := ma K (ga K "Run") "masks"
abbrev f_Run_sums (K : PySem.W.Frag) : Addr := ma K (ga K "Run") "sums"
abbrev f_Run_waits (K : PySem.W.Frag) : Addr := ma K (ga K "Run") "waits"
abbrev f_run (K : PySem.W.Frag) : Addr := ga K "run"
abbrev f_Bench_init (K : PySem.W.Frag) : Addr := ma K (ga K "Bench") "__init__"
abbrev f_Bench_check_name (K : PySem.W.Frag) : Addr := ma K (ga K "Bench") "check_name"
abbrev f_Bench_knock (K : PySem.W.Frag) : Addr := ma K (ga K "Bench") "knock"
abbrev f_Bench_go (K : PySem.W.Frag) : Addr := ma K (ga K "Bench") "go"
abbrev f_Bench_until (K : PySem.W.Frag) : Addr := ma K (ga K "Bench") "until"
abbrev f_Bench_tick (K : PySem.W.Frag) : Addr := ma K (ga K "Bench") "tick"
abbrev f_Bench_log (K : PySem.W.Frag) : Addr := ma K (ga K "Bench") "log"
abbrev f_Bench_nested (K : PySem.W.Frag) : Addr := ma K (ga K "Bench") "nested"
abbrev f_Bench_so_far (K : PySem.W.Frag) : Addr := ma K (ga K "Bench") "so_far"
abbrev f_law_steps (K : PySem.W.Frag) : Addr := ga K "_law_steps"
abbrev f_law_told (K : PySem.W.Frag) : Addr := ga K "_law_told"
abbrev f_law_begun (K : PySem.W.Frag) : Addr := ga K "_law_begun"
abbrev f_law (K : PySem.W.Frag) : Addr := ga K "law"
/-- a keyword default that is an object -/
def kwAt (f : Str × Option Str) (x : Str) (K : PySem.W.Frag) : Addr := match K.lookup (fAd K f) with
  | some ⟨_, _, .func fd, _⟩ => (match fd.kwdefaults with
    | .ref D => (match PySem.W.nsIn K D x with
      | some (some (.ref a)) => a
      | _ => 0)
    | _ => 0)
  | _ => 0
def tupA (K : PySem.W.Frag) (a : Addr) (vs : List V) : Bool := match K.lookup a with
  | some ⟨.type c, _, .seq its _, _⟩ => decide (c = "tuple") && (decide (its.size ≤ sizeLine) && relAll vs its.toList)
  | _ => false
theorem tupA_ok {K : PySem.W.Frag} {a : Addr} {vs : List V} (h : tupA K a vs = true) (H : Hp) : SqT K H a vs := by
  unfold tupA at h
  cases q : K.lookup a with
  | none => rw [q] at h; cases h
  | some o =>
    obtain ⟨oc, od, dt, osl⟩ := o
    rw [q] at h
    cases oc with
    | type c =>
      cases dt with
      | seq its n =>
        obtain ⟨h1, h2⟩ := ba (show (decide (c = "tuple") && (decide (its.size ≤ sizeLine) && relAll vs its.toList)) = true from h)
        obtain ⟨h3, h4⟩ := ba h2
        exact .inr ⟨_, its, n, q, congrArg Value.type (of_decide_eq_true h1), rfl, of_decide_eq_true h3, relAll_ok h4⟩
      | _ => cases h
    | _ => cases dt <;> cases h
def insB (K : PySem.W.Frag) (C : Addr) : Bool := eqO (PySem.W.findIn K (.ref C) "__class__") (some (some (.builtin "object.__class__"))) && (eqO (PySem.W.specialIn K (.builtin "object.__class__") "__get__") (some (some (.builtin "getset_descriptor.__get__"))) && (decide (PySem.W.takesIn K (.builtin "object.__class__") = some true) && (decide (PySem.W.mroIn K C (.type "object") = some true) && decide (PySem.W.kitOne K (.ref C) (.ref C) = some true))))
theorem insB_ok {K : PySem.W.Frag} {C : Addr} (c : Cls K C) (h : insB K C = true) : C8.InsC K C := by
  obtain ⟨h1, h⟩ := ba h
  obtain ⟨h2, h⟩ := ba h
  obtain ⟨h3, h⟩ := ba h
  obtain ⟨h4, h5⟩ := ba h
  exact ⟨c, eqO_ok h1, eqO_ok h2, of_decide_eq_true h3, of_decide_eq_true h4, of_decide_eq_true h5⟩
def d_Job_init : DefD := ⟨("Job", some "__init__"), "__init__", "Job.__init__", defArgs s_Job_init, defBody s_Job_init, defScope s_Job_init, [], []⟩
def d_Job_whose : DefD := ⟨("Job", some "whose"), "whose", "Job.whose", defArgs s_Job_whose, defBody s_Job_whose, defScope s_Job_whose, [], []⟩
def d_Job_twin : DefD := ⟨("Job", some "twin"), "twin", "Job.twin", defArgs s_Job_twin, defBody s_Job_twin, defScope s_Job_twin, [], []⟩
def d_Line_init : DefD := ⟨("Line", some "__init__"), "__init__", "Line.__init__", defArgs s_Line_init, defBody s_Line_init, defScope s_Line_init, [], []⟩
def d_Line_twin : DefD := ⟨("Line", some "twin"), "twin", "Line.twin", defArgs s_Line_twin, defBody s_Line_twin, defScope s_Line_twin, [], []⟩
def d_Line_waits : DefD := ⟨("Line", some "waits"), "waits", "Line.waits", defArgs s_Line_waits, defBody s_Line_waits, defScope s_Line_waits, [], []⟩
def d_Line_knock : DefD := ⟨("Line", some "knock"), "knock", "Line.knock", defArgs s_Line_knock, defBody s_Line_knock, defScope s_Line_knock, [], []⟩
def d_Line_begin : DefD := ⟨("Line", some "begin"), "begin", "Line.begin", defArgs s_Line_begin, defBody s_Line_begin, defScope s_Line_begin, [], []⟩
def d_Line_answer : DefD := ⟨("Line", some "answer"), "answer", "Line.answer", defArgs s_Line_answer, defBody s_Line_answer, defScope s_Line_answer, [], []⟩
def d_Line_sums : DefD := ⟨("Line", some "sums"), "sums", "Line.sums", defArgs s_Line_sums, defBody s_Line_sums, defScope s_Line_sums, [], []⟩
def d_Engine_init : DefD := ⟨("Engine", some "__init__"), "__init__", "Engine.__init__", defArgs s_Engine_init, defBody s_Engine_init, defScope s_Engine_init, [], []⟩
def d_Engine_line_of : DefD := ⟨("Engine", some "line_of"), "line_of", "Engine.line_of", defArgs s_Engine_line_of, defBody s_Engine_line_of, defScope s_Engine_line_of, [], []⟩
def d_Engine_ready_line : DefD := ⟨("Engine", some "ready_line"), "ready_line", "Engine.ready_line", defArgs s_Engine_ready_line, defBody s_Engine_ready_line, defScope s_Engine_ready_line, [], []⟩
def d_Engine_ready_thread : DefD := ⟨("Engine", some "ready_thread"), "ready_thread", "Engine.ready_thread", defArgs s_Engine_ready_thread, defBody s_Engine_ready_thread, defScope s_Engine_ready_thread, [], []⟩
def d_Engine_chosen : DefD := ⟨("Engine", some "chosen"), "chosen", "Engine.chosen", defArgs s_Engine_chosen, defBody s_Engine_chosen, defScope s_Engine_chosen, [], []⟩
def d_Engine_over : DefD := ⟨("Engine", some "over"), "over", "Engine.over", defArgs s_Engine_over, defBody s_Engine_over, defScope s_Engine_over, [], []⟩
def d_Engine_quick : DefD := ⟨("Engine", some "quick"), "quick", "Engine.quick", defArgs s_Engine_quick, defBody s_Engine_quick, defScope s_Engine_quick, [], []⟩
def d_Engine_go : DefD := ⟨("Engine", some "go"), "go", "Engine.go", defArgs s_Engine_go, defBody s_Engine_go, defScope s_Engine_go, [], []⟩
def d_Engine_twin : DefD := ⟨("Engine", some "twin"), "twin", "Engine.twin", defArgs s_Engine_twin, defBody s_Engine_twin, defScope s_Engine_twin, [], []⟩
def d_rank_of : DefD := ⟨("rank_of", none), "rank_of", "rank_of", defArgs s_rank_of, defBody s_rank_of, defScope s_rank_of, [], []⟩
def d_BadKnocks_init : DefD := ⟨("BadKnocks", some "__init__"), "__init__", "BadKnocks.__init__", defArgs s_BadKnocks_init, defBody s_BadKnocks_init, defScope s_BadKnocks_init, [], []⟩
def d_is_whole : DefD := ⟨("is_whole", none), "is_whole", "is_whole", defArgs s_is_whole, defBody s_is_whole, defScope s_is_whole, [], []⟩
def d_within : DefD := ⟨("within", none), "within", "within", defArgs s_within, defBody s_within, defScope s_within, [], []⟩
def d_is_name : DefD := ⟨("is_name", none), "is_name", "is_name", defArgs s_is_name, defBody s_is_name, defScope s_is_name, [], []⟩
def d_is_step : DefD := ⟨("is_step", none), "is_step", "is_step", defArgs s_is_step, defBody s_is_step, defScope s_is_step, [], []⟩
def d_are_steps : DefD := ⟨("are_steps", none), "are_steps", "are_steps", defArgs s_are_steps, defBody s_are_steps, defScope s_are_steps, [], []⟩
def d_spoken : DefD := ⟨("spoken", none), "spoken", "spoken", defArgs s_spoken, defBody s_spoken, defScope s_spoken, [], []⟩
def d_line : DefD := ⟨("line", none), "line", "line", defArgs s_line, defBody s_line, defScope s_line, [], [("rank", .int 1), ("up", .bl false), ("guard", .glo "GUARD")]⟩
def d_is_guard : DefD := ⟨("is_guard", none), "is_guard", "is_guard", defArgs s_is_guard, defBody s_is_guard, defScope s_is_guard, [], []⟩
def d_is_line : DefD := ⟨("is_line", none), "is_line", "is_line", defArgs s_is_line, defBody s_is_line, defScope s_is_line, [], []⟩
def d_is_bottom : DefD := ⟨("is_bottom", none), "is_bottom", "is_bottom", defArgs s_is_bottom, defBody s_is_bottom, defScope s_is_bottom, [], []⟩
def d_is_thread : DefD := ⟨("is_thread", none), "is_thread", "is_thread", defArgs s_is_thread, defBody s_is_thread, defScope s_is_thread, [], []⟩
def d_are_ones : DefD := ⟨("are_ones", none), "are_ones", "are_ones", defArgs s_are_ones, defBody s_are_ones, defScope s_are_ones, [], []⟩
def d_are_unlike_ranks : DefD := ⟨("are_unlike_ranks", none), "are_unlike_ranks", "are_unlike_ranks", defArgs s_are_unlike_ranks, defBody s_are_unlike_ranks, defScope s_are_unlike_ranks, [], []⟩
def d_all_there : DefD := ⟨("all_there", none), "all_there", "all_there", defArgs s_all_there, defBody s_all_there, defScope s_all_there, [], []⟩
def d_copied : DefD := ⟨("copied", none), "copied", "copied", defArgs s_copied, defBody s_copied, defScope s_copied, [], []⟩
def d_Plan_init : DefD := ⟨("Plan", some "__init__"), "__init__", "Plan.__init__", defArgs s_Plan_init, defBody s_Plan_init, defScope s_Plan_init, [], [("bottoms", .adr (kwAt ("Plan", some "__init__") "bottoms")), ("threads", .adr (kwAt ("Plan", some "__init__") "threads"))]⟩
def d_Plan_eq : DefD := ⟨("Plan", some "__eq__"), "__eq__", "Plan.__eq__", defArgs s_Plan_eq, defBody s_Plan_eq, defScope s_Plan_eq, [], []⟩
def d_Plan_parts : DefD := ⟨("Plan", some "parts"), "parts", "Plan.parts", defArgs s_Plan_parts, defBody s_Plan_parts, defScope s_Plan_parts, [], []⟩
def d_Plan_lines : DefD := ⟨("Plan", some "lines"), "lines", "Plan.lines", defArgs s_Plan_lines, defBody s_Plan_lines, defScope s_Plan_lines, [], []⟩
def d_Plan_bottoms : DefD := ⟨("Plan", some "bottoms"), "bottoms", "Plan.bottoms", defArgs s_Plan_bottoms, defBody s_Plan_bottoms, defScope s_Plan_bottoms, [], []⟩
def d_Plan_threads : DefD := ⟨("Plan", some "threads"), "threads", "Plan.threads", defArgs s_Plan_threads, defBody s_Plan_threads, defScope s_Plan_threads, [], []⟩
def d_Plan_names : DefD := ⟨("Plan", some "names"), "names", "Plan.names", defArgs s_Plan_names, defBody s_Plan_names, defScope s_Plan_names, [], []⟩
def d_check_knocks : DefD := ⟨("check_knocks", none), "check_knocks", "check_knocks", defArgs s_check_knocks, defBody s_check_knocks, defScope s_check_knocks, [], []⟩
def d_Run_init : DefD := ⟨("Run", some "__init__"), "__init__", "Run.__init__", defArgs s_Run_init, defBody s_Run_init, defScope s_Run_init, [], []⟩
def d_Run_who : DefD := ⟨("Run", some "who"), "who", "Run.who", defArgs s_Run_who, defBody s_Run_who, defScope s_Run_who, [], []⟩
def d_Run_spans : DefD := ⟨("Run", some "spans"), "spans", "Run.spans", defArgs s_Run_spans, defBody s_Run_spans, defScope s_Run_spans, [], []⟩
def d_Run_masks : DefD := ⟨("Run", some "masks"), "masks", "Run.masks", defArgs s_Run_masks, defBody s_Run_masks, defScope s_Run_masks, [], []⟩
def d_Run_sums : DefD := ⟨("Run", some "sums"), "sums", "Run.sums", defArgs s_Run_sums, defBody s_Run_sums, defScope s_Run_sums, [], []⟩
def d_Run_waits : DefD := ⟨("Run", some "waits"), "waits", "Run.waits", defArgs s_Run_waits, defBody s_Run_waits, defScope s_Run_waits, [], []⟩
def d_run : DefD := ⟨("run", none), "run", "run", defArgs s_run, defBody s_run, defScope s_run, [], [("ticks", .int 60)]⟩
def d_Bench_init : DefD := ⟨("Bench", some "__init__"), "__init__", "Bench.__init__", defArgs s_Bench_init, defBody s_Bench_init, defScope s_Bench_init, [], []⟩
def d_Bench_check_name : DefD := ⟨("Bench", some "check_name"), "check_name", "Bench.check_name", defArgs s_Bench_check_name, defBody s_Bench_check_name, defScope s_Bench_check_name, [], []⟩
def d_Bench_knock : DefD := ⟨("Bench", some "knock"), "knock", "Bench.knock", defArgs s_Bench_knock, defBody s_Bench_knock, defScope s_Bench_knock, [], []⟩
def d_Bench_go : DefD := ⟨("Bench", some "go"), "go", "Bench.go", defArgs s_Bench_go, defBody s_Bench_go, defScope s_Bench_go, [], [("ticks", .int 1)]⟩
def d_Bench_until : DefD := ⟨("Bench", some "until"), "until", "Bench.until", defArgs s_Bench_until, defBody s_Bench_until, defScope s_Bench_until, [], [("ticks", .int 60)]⟩
def d_Bench_tick : DefD := ⟨("Bench", some "tick"), "tick", "Bench.tick", defArgs s_Bench_tick, defBody s_Bench_tick, defScope s_Bench_tick, [], []⟩
def d_Bench_log : DefD := ⟨("Bench", some "log"), "log", "Bench.log", defArgs s_Bench_log, defBody s_Bench_log, defScope s_Bench_log, [], []⟩
def d_Bench_nested : DefD := ⟨("Bench", some "nested"), "nested", "Bench.nested", defArgs s_Bench_nested, defBody s_Bench_nested, defScope s_Bench_nested, [], []⟩
def d_Bench_so_far : DefD := ⟨("Bench", some "so_far"), "so_far", "Bench.so_far", defArgs s_Bench_so_far, defBody s_Bench_so_far, defScope s_Bench_so_far, [], []⟩
def d_law_steps : DefD := ⟨("_law_steps", none), "_law_steps", "_law_steps", defArgs s_law_steps, defBody s_law_steps, defScope s_law_steps, [], []⟩
def d_law_told : DefD := ⟨("_law_told", none), "_law_told", "_law_told", defArgs s_law_told, defBody s_law_told, defScope s_law_told, [], []⟩
def d_law_begun : DefD := ⟨("_law_begun", none), "_law_begun", "_law_begun", defArgs s_law_begun, defBody s_law_begun, defScope s_law_begun, [], []⟩
def d_law : DefD := ⟨("law", none), "law", "law", defArgs s_law, defBody s_law, defScope s_law, [], []⟩
def fn : List DefD := [d_Job_init, d_Job_whose, d_Job_twin, d_Line_init, d_Line_twin, d_Line_waits, d_Line_knock, d_Line_begin, d_Line_answer, d_Line_sums, d_Engine_init, d_Engine_line_of, d_Engine_ready_line, d_Engine_ready_thread, d_Engine_chosen, d_Engine_over, d_Engine_quick, d_Engine_go, d_Engine_twin, d_rank_of, d_BadKnocks_init, d_is_whole, d_within, d_is_name, d_is_step, d_are_steps, d_spoken, d_line, d_is_guard, d_is_line, d_is_bottom, d_is_thread, d_are_ones, d_are_unlike_ranks, d_all_there, d_copied, d_Plan_init, d_Plan_eq, d_Plan_parts, d_Plan_lines, d_Plan_bottoms, d_Plan_threads, d_Plan_names, d_check_knocks, d_Run_init, d_Run_who, d_Run_spans, d_Run_masks, d_Run_sums, d_Run_waits, d_run, d_Bench_init, d_Bench_check_name, d_Bench_knock, d_Bench_go, d_Bench_until, d_Bench_tick, d_Bench_log, d_Bench_nested, d_Bench_so_far, d_law_steps, d_law_told, d_law_begun, d_law]
def fa : List Fa := [
  .glo "Job",
  .glo "Line",
  .glo "Engine",
  .glo "rank_of",
  .glo "KnockError",
  .glo "BadPlan",
  .glo "BadTicks",
  .glo "BadName",
  .glo "Full",
  .glo "BadKnocks",
  .glo "is_whole",
  .glo "within",
  .glo "is_name",
  .glo "is_step",
  .glo "are_steps",
  .glo "spoken",
  .glo "line",
  .glo "is_guard",
  .glo "is_line",
  .glo "is_bottom",
  .glo "is_thread",
  .glo "are_ones",
  .glo "are_unlike_ranks",
  .glo "all_there",
  .glo "copied",
  .glo "Plan",
  .glo "check_knocks",
  .glo "Run",
  .glo "run",
  .glo "Bench",
  .glo "_law_steps",
  .glo "_law_told",
  .glo "_law_begun",
  .glo "law",
  .str "LETTERS" "abcdefghijklmnopqrstuvwxyz",
  .int "MOST_STEPS" 12,
  .int "MOST_RUN" 9,
  .glo "SPEAKING",
  .glo "GUARD",
  .int "MOST_LINES" 5,
  .int "MOST_OTHERS" 4,
  .int "MOST_RANK" 99,
  .int "MOST_LET" 9,
  .int "WIDEST" 60,
  .int "TICKS" 60,
  .int "MOST_TICKS" 900,
  .int "MOST_KNOCKS" 400,
  .int "LAST_KNOCK" 500,
  .free "ValueError",
  .free "abs",
  .free "all",
  .free "any",
  .free "bool",
  .free "dict",
  .free "enumerate",
  .free "int",
  .free "isinstance",
  .free "len",
  .free "list",
  .free "max",
  .free "min",
  .free "range",
  .free "str",
  .free "tuple",
  .free "zip",
  .cls "Job",
  .noat "Job" "word",
  .noat "Job" "name",
  .noat "Job" "rank",
  .noat "Job" "steps",
  .noat "Job" "masks_then",
  .noat "Job" "at",
  .noat "Job" "left",
  .meth "Job" "whose",
  .meth "Job" "twin",
  .mkr "Job",
  .cls "Line",
  .noat "Line" "name",
  .noat "Line" "rank",
  .noat "Line" "is_up",
  .noat "Line" "guard",
  .noat "Line" "top",
  .noat "Line" "let_by",
  .noat "Line" "shut_till",
  .noat "Line" "since",
  .noat "Line" "fresh",
  .noat "Line" "counts",
  .noat "Line" "longest",
  .meth "Line" "twin",
  .meth "Line" "waits",
  .meth "Line" "knock",
  .meth "Line" "begin",
  .meth "Line" "answer",
  .meth "Line" "sums",
  .mkr "Line",
  .cls "Engine",
  .noat "Engine" "plan",
  .noat "Engine" "ways",
  .noat "Engine" "tops",
  .noat "Engine" "bottom",
  .noat "Engine" "put_off",
  .noat "Engine" "woken",
  .noat "Engine" "begun",
  .noat "Engine" "depth",
  .noat "Engine" "now",
  .noat "Engine" "row",
  .noat "Engine" "depths",
  .noat "Engine" "last_begun",
  .meth "Engine" "line_of",
  .meth "Engine" "ready_line",
  .meth "Engine" "ready_thread",
  .meth "Engine" "chosen",
  .meth "Engine" "over",
  .meth "Engine" "quick",
  .meth "Engine" "go",
  .meth "Engine" "twin",
  .mkr "Engine",
  .cls "Plan",
  .noat "Plan" "row",
  .noat "Plan" "low",
  .noat "Plan" "late",
  .meth "Plan" "__eq__",
  .meth "Plan" "parts",
  .meth "Plan" "lines",
  .meth "Plan" "bottoms",
  .meth "Plan" "threads",
  .meth "Plan" "names",
  .mkr "Plan",
  .cls "Run",
  .noat "Run" "row",
  .noat "Run" "depths",
  .noat "Run" "table",
  .noat "Run" "longest",
  .meth "Run" "who",
  .meth "Run" "spans",
  .meth "Run" "masks",
  .meth "Run" "sums",
  .meth "Run" "waits",
  .mkr "Run",
  .cls "Bench",
  .noat "Bench" "engine",
  .noat "Bench" "fresh",
  .noat "Bench" "told_so_far",
  .noat "Bench" "rows",
  .meth "Bench" "check_name",
  .meth "Bench" "knock",
  .meth "Bench" "go",
  .meth "Bench" "until",
  .meth "Bench" "tick",
  .meth "Bench" "log",
  .meth "Bench" "nested",
  .meth "Bench" "so_far",
  .mkr "Bench",
  .exc "KnockError",
  .exc "BadPlan",
  .exc "BadTicks",
  .exc "BadName",
  .exc "Full",
  .exm "KnockError" "KnockError" true,
  .exm "BadPlan" "KnockError" true,
  .exm "BadTicks" "KnockError" true,
  .exm "BadName" "KnockError" true,
  .exm "Full" "KnockError" true,
  .exm "BadKnocks" "KnockError" true]
def ex (K : PySem.W.Frag) : Bool := tupA K (ga K "SPEAKING") [V.str "answer", V.str "later", V.str "wake"] && (tupA K (ga K "GUARD") [V.int 3, V.int 10, V.int 20] && (tupA K (kwAt ("Plan", some "__init__") "bottoms" K) [] && (tupA K (kwAt ("Plan", some "__init__") "threads" K) [] && (insB K (ga K "Plan") && ((["NoneType", "bool", "int", "str", "list", "tuple", "dict"] : List String).all (fun t => decide (PySem.W.kitOne K (.type t) (.ref (ga K "Plan")) = some false)) && (eqO (PySem.W.findIn K (.ref (ga K "Plan")) "__ne__") (some (some (.builtin "object.__ne__"))) && (true)))))))
def tf : List Defn := [("_law_begun", none)]
structure TxtH (w : World) (h : Heap) (K : PySem.W.Frag) (mg : Str → Option Value) : Prop where
  X : K.In h
  G : h.Ns mainGlobals mg
  c : SaysX fa fn [] tf ex w h K
def Txt (w : World) (K : PySem.W.Frag) (mg : Str → Option Value) : Prop := ∃ h, TxtH w h K mg
section
variable {w : World} {K : PySem.W.Frag} {mg : Str → Option Value}
theorem gl_Job (T : Txt w K mg) : mg "Job" = some (.ref (g_Job K)) := by
  obtain ⟨h, T⟩ := T
  exact glo_ok T.X T.G (T.c.t.d.fact 0 (f := .glo "Job") rfl)
theorem gl_Line (T : Txt w K mg) : mg "Line" = some (.ref (g_Line K)) := by
  obtain ⟨h, T⟩ := T
  exact glo_ok T.X T.G (T.c.t.d.fact 1 (f := .glo "Line") rfl)
theorem gl_Engine (T : Txt w K mg) : mg "Engine" = some (.ref (g_Engine K)) := by
  obtain ⟨h, T⟩ := T
  exact glo_ok T.X T.G (T.c.t.d.fact 2 (f := .glo "Engine") rfl)
theorem gl_rank_of (T : Txt w K mg) : mg "rank_of" = some (.ref (g_rank_of K)) := by
  obtain ⟨h, T⟩ := T
  exact glo_ok T.X T.G (T.c.t.d.fact 3 (f := .glo "rank_of") rfl)
theorem gl_KnockError (T : Txt w K mg) : mg "KnockError" = some (.ref (g_KnockError K)) := by
  obtain ⟨h, T⟩ := T
  exact glo_ok T.X T.G (T.c.t.d.fact 4 (f := .glo "KnockError") rfl)
theorem gl_BadPlan (T : Txt w K mg) : mg "BadPlan" = some (.ref (g_BadPlan K)) := by
  obtain ⟨h, T⟩ := T
  exact glo_ok T.X T.G (T.c.t.d.fact 5 (f := .glo "BadPlan") rfl)
theorem gl_BadTicks (T : Txt w K mg) : mg "BadTicks" = some (.ref (g_BadTicks K)) := by
  obtain ⟨h, T⟩ := T
  exact glo_ok T.X T.G (T.c.t.d.fact 6 (f := .glo "BadTicks") rfl)
theorem gl_BadName (T : Txt w K mg) : mg "BadName" = some (.ref (g_BadName K)) := by
  obtain ⟨h, T⟩ := T
  exact glo_ok T.X T.G (T.c.t.d.fact 7 (f := .glo "BadName") rfl)
theorem gl_Full (T : Txt w K mg) : mg "Full" = some (.ref (g_Full K)) := by
  obtain ⟨h, T⟩ := T
  exact glo_ok T.X T.G (T.c.t.d.fact 8 (f := .glo "Full") rfl)
theorem gl_BadKnocks (T : Txt w K mg) : mg "BadKnocks" = some (.ref (g_BadKnocks K)) := by
  obtain ⟨h, T⟩ := T
  exact glo_ok T.X T.G (T.c.t.d.fact 9 (f := .glo "BadKnocks") rfl)
theorem gl_is_whole (T : Txt w K mg) : mg "is_whole" = some (.ref (g_is_whole K)) := by
  obtain ⟨h, T⟩ := T
  exact glo_ok T.X T.G (T.c.t.d.fact 10 (f := .glo "is_whole") rfl)
theorem gl_within (T : Txt w K mg) : mg "within" = some (.ref (g_within K)) := by
  obtain ⟨h, T⟩ := T
  exact glo_ok T.X T.G (T.c.t.d.fact 11 (f := .glo "within") rfl)
theorem gl_is_name (T : Txt w K mg) : mg "is_name" = some (.ref (g_is_name K)) := by
  obtain ⟨h, T⟩ := T
  exact glo_ok T.X T.G (T.c.t.d.fact 12 (f := .glo "is_name") rfl)
theorem gl_is_step (T : Txt w K mg) : mg "is_step" = some (.ref (g_is_step K)) := by
  obtain ⟨h, T⟩ := T
  exact glo_ok T.X T.G (T.c.t.d.fact 13 (f := .glo "is_step") rfl)
theorem gl_are_steps (T : Txt w K mg) : mg "are_steps" = some (.ref (g_are_steps K)) := by
  obtain ⟨h, T⟩ := T
  exact glo_ok T.X T.G (T.c.t.d.fact 14 (f := .glo "are_steps") rfl)
theorem gl_spoken (T : Txt w K mg) : mg "spoken" = some (.ref (g_spoken K)) := by
  obtain ⟨h, T⟩ := T
  exact glo_ok T.X T.G (T.c.t.d.fact 15 (f := .glo "spoken") rfl)
theorem gl_line (T : Txt w K mg) : mg "line" = some (.ref (g_line K)) := by
  obtain ⟨h, T⟩ := T
  exact glo_ok T.X T.G (T.c.t.d.fact 16 (f := .glo "line") rfl)
theorem gl_is_guard (T : Txt w K mg) : mg "is_guard" = some (.ref (g_is_guard K)) := by
  obtain ⟨h, T⟩ := T
  exact glo_ok T.X T.G (T.c.t.d.fact 17 (f := .glo "is_guard") rfl)
theorem gl_is_line (T : Txt w K mg) : mg "is_line" = some (.ref (g_is_line K)) := by
  obtain ⟨h, T⟩ := T
  exact glo_ok T.X T.G (T.c.t.d.fact 18 (f := .glo "is_line") rfl)
theorem gl_is_bottom (T : Txt w K mg) : mg "is_bottom" = some (.ref (g_is_bottom K)) := by
  obtain ⟨h, T⟩ := T
  exact glo_ok T.X T.G (T.c.t.d.fact 19 (f := .glo "is_bottom") rfl)
theorem gl_is_thread (T : Txt w K mg) : mg "is_thread" = some (.ref (g_is_thread K)) := by
  obtain ⟨h, T⟩ := T
  exact glo_ok T.X T.G (T.c.t.d.fact 20 (f := .glo "is_thread") rfl)
theorem gl_are_ones (T : Txt w K mg) : mg "are_ones" = some (.ref (g_are_ones K)) := by
  obtain ⟨h, T⟩ := T
  exact glo_ok T.X T.G (T.c.t.d.fact 21 (f := .glo "are_ones") rfl)
theorem gl_are_unlike_ranks (T : Txt w K mg) : mg "are_unlike_ranks" = some (.ref (g_are_unlike_ranks K)) := by
  obtain ⟨h, T⟩ := T
  exact glo_ok T.X T.G (T.c.t.d.fact 22 (f := .glo "are_unlike_ranks") rfl)
theorem gl_all_there (T : Txt w K mg) : mg "all_there" = some (.ref (g_all_there K)) := by
  obtain ⟨h, T⟩ := T
  exact glo_ok T.X T.G (T.c.t.d.fact 23 (f := .glo "all_there") rfl)
theorem gl_copied (T : Txt w K mg) : mg "copied" = some (.ref (g_copied K)) := by
  obtain ⟨h, T⟩ := T
  exact glo_ok T.X T.G (T.c.t.d.fact 24 (f := .glo "copied") rfl)
theorem gl_Plan (T : Txt w K mg) : mg "Plan" = some (.ref (g_Plan K)) := by
  obtain ⟨h, T⟩ := T
  exact glo_ok T.X T.G (T.c.t.d.fact 25 (f := .glo "Plan") rfl)
theorem gl_check_knocks (T : Txt w K mg) : mg "check_knocks" = some (.ref (g_check_knocks K)) := by
  obtain ⟨h, T⟩ := T
  exact glo_ok T.X T.G (T.c.t.d.fact 26 (f := .glo "check_knocks") rfl)
theorem gl_Run (T : Txt w K mg) : mg "Run" = some (.ref (g_Run K)) := by
  obtain ⟨h, T⟩ := T
  exact glo_ok T.X T.G (T.c.t.d.fact 27 (f := .glo "Run") rfl)
theorem gl_run (T : Txt w K mg) : mg "run" = some (.ref (g_run K)) := by
  obtain ⟨h, T⟩ := T
  exact glo_ok T.X T.G (T.c.t.d.fact 28 (f := .glo "run") rfl)
theorem gl_Bench (T : Txt w K mg) : mg "Bench" = some (.ref (g_Bench K)) := by
  obtain ⟨h, T⟩ := T
  exact glo_ok T.X T.G (T.c.t.d.fact 29 (f := .glo "Bench") rfl)
theorem gl_law_steps (T : Txt w K mg) : mg "_law_steps" = some (.ref (g_law_steps K)) := by
  obtain ⟨h, T⟩ := T
  exact glo_ok T.X T.G (T.c.t.d.fact 30 (f := .glo "_law_steps") rfl)
theorem gl_law_told (T : Txt w K mg) : mg "_law_told" = some (.ref (g_law_told K)) := by
  obtain ⟨h, T⟩ := T
  exact glo_ok T.X T.G (T.c.t.d.fact 31 (f := .glo "_law_told") rfl)
theorem gl_law_begun (T : Txt w K mg) : mg "_law_begun" = some (.ref (g_law_begun K)) := by
  obtain ⟨h, T⟩ := T
  exact glo_ok T.X T.G (T.c.t.d.fact 32 (f := .glo "_law_begun") rfl)
theorem gl_law (T : Txt w K mg) : mg "law" = some (.ref (g_law K)) := by
  obtain ⟨h, T⟩ := T
  exact glo_ok T.X T.G (T.c.t.d.fact 33 (f := .glo "law") rfl)
theorem st_LETTERS (T : Txt w K mg) : ∃ t, mg "LETTERS" = some (.str "abcdefghijklmnopqrstuvwxyz" t) := by
  obtain ⟨h, T⟩ := T
  exact str_ok T.X T.G (T.c.t.d.fact 34 (f := .str "LETTERS" "abcdefghijklmnopqrstuvwxyz") rfl)
theorem in_MOST_STEPS (T : Txt w K mg) : ∃ t, mg "MOST_STEPS" = some (.int 12 t) := by
  obtain ⟨h, T⟩ := T
  exact int_ok T.X T.G (T.c.t.d.fact 35 (f := .int "MOST_STEPS" 12) rfl)
theorem in_MOST_RUN (T : Txt w K mg) : ∃ t, mg "MOST_RUN" = some (.int 9 t) := by
  obtain ⟨h, T⟩ := T
  exact int_ok T.X T.G (T.c.t.d.fact 36 (f := .int "MOST_RUN" 9) rfl)
theorem gl_SPEAKING (T : Txt w K mg) : mg "SPEAKING" = some (.ref (ga K "SPEAKING")) := by
  obtain ⟨h, T⟩ := T
  exact glo_ok T.X T.G (T.c.t.d.fact 37 (f := .glo "SPEAKING") rfl)
theorem gl_GUARD (T : Txt w K mg) : mg "GUARD" = some (.ref (ga K "GUARD")) := by
  obtain ⟨h, T⟩ := T
  exact glo_ok T.X T.G (T.c.t.d.fact 38 (f := .glo "GUARD") rfl)
theorem in_MOST_LINES (T : Txt w K mg) : ∃ t, mg "MOST_LINES" = some (.int 5 t) := by
  obtain ⟨h, T⟩ := T
  exact int_ok T.X T.G (T.c.t.d.fact 39 (f := .int "MOST_LINES" 5) rfl)
theorem in_MOST_OTHERS (T : Txt w K mg) : ∃ t, mg "MOST_OTHERS" = some (.int 4 t) := by
  obtain ⟨h, T⟩ := T
  exact int_ok T.X T.G (T.c.t.d.fact 40 (f := .int "MOST_OTHERS" 4) rfl)
theorem in_MOST_RANK (T : Txt w K mg) : ∃ t, mg "MOST_RANK" = some (.int 99 t) := by
  obtain ⟨h, T⟩ := T
  exact int_ok T.X T.G (T.c.t.d.fact 41 (f := .int "MOST_RANK" 99) rfl)
theorem in_MOST_LET (T : Txt w K mg) : ∃ t, mg "MOST_LET" = some (.int 9 t) := by
  obtain ⟨h, T⟩ := T
  exact int_ok T.X T.G (T.c.t.d.fact 42 (f := .int "MOST_LET" 9) rfl)
theorem in_WIDEST (T : Txt w K mg) : ∃ t, mg "WIDEST" = some (.int 60 t) := by
  obtain ⟨h, T⟩ := T
  exact int_ok T.X T.G (T.c.t.d.fact 43 (f := .int "WIDEST" 60) rfl)
theorem in_TICKS (T : Txt w K mg) : ∃ t, mg "TICKS" = some (.int 60 t) := by
  obtain ⟨h, T⟩ := T
  exact int_ok T.X T.G (T.c.t.d.fact 44 (f := .int "TICKS" 60) rfl)
theorem in_MOST_TICKS (T : Txt w K mg) : ∃ t, mg "MOST_TICKS" = some (.int 900 t) := by
  obtain ⟨h, T⟩ := T
  exact int_ok T.X T.G (T.c.t.d.fact 45 (f := .int "MOST_TICKS" 900) rfl)
theorem in_MOST_KNOCKS (T : Txt w K mg) : ∃ t, mg "MOST_KNOCKS" = some (.int 400 t) := by
  obtain ⟨h, T⟩ := T
  exact int_ok T.X T.G (T.c.t.d.fact 46 (f := .int "MOST_KNOCKS" 400) rfl)
theorem in_LAST_KNOCK (T : Txt w K mg) : ∃ t, mg "LAST_KNOCK" = some (.int 500 t) := by
  obtain ⟨h, T⟩ := T
  exact int_ok T.X T.G (T.c.t.d.fact 47 (f := .int "LAST_KNOCK" 500) rfl)
theorem fr_ValueError (T : Txt w K mg) : mg "ValueError" = none := by
  obtain ⟨h, T⟩ := T
  exact free_ok T.X T.G (T.c.t.d.fact 48 (f := .free "ValueError") rfl)
theorem fr_abs (T : Txt w K mg) : mg "abs" = none := by
  obtain ⟨h, T⟩ := T
  exact free_ok T.X T.G (T.c.t.d.fact 49 (f := .free "abs") rfl)
theorem fr_all (T : Txt w K mg) : mg "all" = none := by
  obtain ⟨h, T⟩ := T
  exact free_ok T.X T.G (T.c.t.d.fact 50 (f := .free "all") rfl)
theorem fr_any (T : Txt w K mg) : mg "any" = none := by
  obtain ⟨h, T⟩ := T
  exact free_ok T.X T.G (T.c.t.d.fact 51 (f := .free "any") rfl)
theorem fr_bool (T : Txt w K mg) : mg "bool" = none := by
  obtain ⟨h, T⟩ := T
  exact free_ok T.X T.G (T.c.t.d.fact 52 (f := .free "bool") rfl)
theorem fr_dict (T : Txt w K mg) : mg "dict" = none := by
  obtain ⟨h, T⟩ := T
  exact free_ok T.X T.G (T.c.t.d.fact 53 (f := .free "dict") rfl)
theorem fr_enumerate (T : Txt w K mg) : mg "enumerate" = none := by
  obtain ⟨h, T⟩ := T
  exact free_ok T.X T.G (T.c.t.d.fact 54 (f := .free "enumerate") rfl)
theorem fr_int (T : Txt w K mg) : mg "int" = none := by
  obtain ⟨h, T⟩ := T
  exact free_ok T.X T.G (T.c.t.d.fact 55 (f := .free "int") rfl)
theorem fr_isinstance (T : Txt w K mg) : mg "isinstance" = none := by
  obtain ⟨h, T⟩ := T
  exact free_ok T.X T.G (T.c.t.d.fact 56 (f := .free "isinstance") rfl)
theorem fr_len (T : Txt w K mg) : mg "len" = none := by
  obtain ⟨h, T⟩ := T
  exact free_ok T.X T.G (T.c.t.d.fact 57 (f := .free "len") rfl)
theorem fr_list (T : Txt w K mg) : mg "list" = none := by
  obtain ⟨h, T⟩ := T
  exact free_ok T.X T.G (T.c.t.d.fact 58 (f := .free "list") rfl)
theorem fr_max (T : Txt w K mg) : mg "max" = none := by
  obtain ⟨h, T⟩ := T
  exact free_ok T.X T.G (T.c.t.d.fact 59 (f := .free "max") rfl)
theorem fr_min (T : Txt w K mg) : mg "min" = none := by
  obtain ⟨h, T⟩ := T
  exact free_ok T.X T.G (T.c.t.d.fact 60 (f := .free "min") rfl)
theorem fr_range (T : Txt w K mg) : mg "range" = none := by
  obtain ⟨h, T⟩ := T
  exact free_ok T.X T.G (T.c.t.d.fact 61 (f := .free "range") rfl)
theorem fr_str (T : Txt w K mg) : mg "str" = none := by
  obtain ⟨h, T⟩ := T
  exact free_ok T.X T.G (T.c.t.d.fact 62 (f := .free "str") rfl)
theorem fr_tuple (T : Txt w K mg) : mg "tuple" = none := by
  obtain ⟨h, T⟩ := T
  exact free_ok T.X T.G (T.c.t.d.fact 63 (f := .free "tuple") rfl)
theorem fr_zip (T : Txt w K mg) : mg "zip" = none := by
  obtain ⟨h, T⟩ := T
  exact free_ok T.X T.G (T.c.t.d.fact 64 (f := .free "zip") rfl)
theorem cl_Job (T : Txt w K mg) : Cls K (g_Job K) := by
  obtain ⟨h, T⟩ := T
  exact cls_ok (T.c.t.d.fact 65 (f := .cls "Job") rfl)
theorem na_Job_word (T : Txt w K mg) : NoAttr K (g_Job K) "word" := by
  obtain ⟨h, T⟩ := T
  exact noat_ok (T.c.t.d.fact 66 (f := .noat "Job" "word") rfl)
theorem na_Job_name (T : Txt w K mg) : NoAttr K (g_Job K) "name" := by
  obtain ⟨h, T⟩ := T
  exact noat_ok (T.c.t.d.fact 67 (f := .noat "Job" "name") rfl)
theorem na_Job_rank (T : Txt w K mg) : NoAttr K (g_Job K) "rank" := by
  obtain ⟨h, T⟩ := T
  exact noat_ok (T.c.t.d.fact 68 (f := .noat "Job" "rank") rfl)
theorem na_Job_steps (T : Txt w K mg) : NoAttr K (g_Job K) "steps" := by
  obtain ⟨h, T⟩ := T
  exact noat_ok (T.c.t.d.fact 69 (f := .noat "Job" "steps") rfl)
theorem na_Job_masks_then (T : Txt w K mg) : NoAttr K (g_Job K) "masks_then" := by
  obtain ⟨h, T⟩ := T
  exact noat_ok (T.c.t.d.fact 70 (f := .noat "Job" "masks_then") rfl)
theorem na_Job_at (T : Txt w K mg) : NoAttr K (g_Job K) "at" := by
  obtain ⟨h, T⟩ := T
  exact noat_ok (T.c.t.d.fact 71 (f := .noat "Job" "at") rfl)
theorem na_Job_left (T : Txt w K mg) : NoAttr K (g_Job K) "left" := by
  obtain ⟨h, T⟩ := T
  exact noat_ok (T.c.t.d.fact 72 (f := .noat "Job" "left") rfl)
theorem me_Job_whose (T : Txt w K mg) : Meth K (g_Job K) "whose" (ma K (ga K "Job") "whose") := by
  obtain ⟨h, T⟩ := T
  exact meth_ok (T.c.t.d.fact 73 (f := .meth "Job" "whose") rfl)
theorem me_Job_twin (T : Txt w K mg) : Meth K (g_Job K) "twin" (ma K (ga K "Job") "twin") := by
  obtain ⟨h, T⟩ := T
  exact meth_ok (T.c.t.d.fact 74 (f := .meth "Job" "twin") rfl)
theorem mk_Job (T : Txt w K mg) : Mk K (g_Job K) (f_Job_init K) := by
  obtain ⟨h, T⟩ := T
  exact mkr_ok (T.c.t.d.fact 75 (f := .mkr "Job") rfl)
theorem cl_Line (T : Txt w K mg) : Cls K (g_Line K) := by
  obtain ⟨h, T⟩ := T
  exact cls_ok (T.c.t.d.fact 76 (f := .cls "Line") rfl)
theorem na_Line_name (T : Txt w K mg) : NoAttr K (g_Line K) "name" := by
  obtain ⟨h, T⟩ := T
  exact noat_ok (T.c.t.d.fact 77 (f := .noat "Line" "name") rfl)
theorem na_Line_rank (T : Txt w K mg) : NoAttr K (g_Line K) "rank" := by
  obtain ⟨h, T⟩ := T
  exact noat_ok (T.c.t.d.fact 78 (f := .noat "Line" "rank") rfl)
theorem na_Line_is_up (T : Txt w K mg) : NoAttr K (g_Line K) "is_up" := by
  obtain ⟨h, T⟩ := T
  exact noat_ok (T.c.t.d.fact 79 (f := .noat "Line" "is_up") rfl)
theorem na_Line_guard (T : Txt w K mg) : NoAttr K (g_Line K) "guard" := by
  obtain ⟨h, T⟩ := T
  exact noat_ok (T.c.t.d.fact 80 (f := .noat "Line" "guard") rfl)
theorem na_Line_top (T : Txt w K mg) : NoAttr K (g_Line K) "top" := by
  obtain ⟨h, T⟩ := T
  exact noat_ok (T.c.t.d.fact 81 (f := .noat "Line" "top") rfl)
theorem na_Line_let_by (T : Txt w K mg) : NoAttr K (g_Line K) "let_by" := by
  obtain ⟨h, T⟩ := T
  exact noat_ok (T.c.t.d.fact 82 (f := .noat "Line" "let_by") rfl)
theorem na_Line_shut_till (T : Txt w K mg) : NoAttr K (g_Line K) "shut_till" := by
  obtain ⟨h, T⟩ := T
  exact noat_ok (T.c.t.d.fact 83 (f := .noat "Line" "shut_till") rfl)
theorem na_Line_since (T : Txt w K mg) : NoAttr K (g_Line K) "since" := by
  obtain ⟨h, T⟩ := T
  exact noat_ok (T.c.t.d.fact 84 (f := .noat "Line" "since") rfl)
theorem na_Line_fresh (T : Txt w K mg) : NoAttr K (g_Line K) "fresh" := by
  obtain ⟨h, T⟩ := T
  exact noat_ok (T.c.t.d.fact 85 (f := .noat "Line" "fresh") rfl)
theorem na_Line_counts (T : Txt w K mg) : NoAttr K (g_Line K) "counts" := by
  obtain ⟨h, T⟩ := T
  exact noat_ok (T.c.t.d.fact 86 (f := .noat "Line" "counts") rfl)
theorem na_Line_longest (T : Txt w K mg) : NoAttr K (g_Line K) "longest" := by
  obtain ⟨h, T⟩ := T
  exact noat_ok (T.c.t.d.fact 87 (f := .noat "Line" "longest") rfl)
theorem me_Line_twin (T : Txt w K mg) : Meth K (g_Line K) "twin" (ma K (ga K "Line") "twin") := by
  obtain ⟨h, T⟩ := T
  exact meth_ok (T.c.t.d.fact 88 (f := .meth "Line" "twin") rfl)
theorem me_Line_waits (T : Txt w K mg) : Meth K (g_Line K) "waits" (ma K (ga K "Line") "waits") := by
  obtain ⟨h, T⟩ := T
  exact meth_ok (T.c.t.d.fact 89 (f := .meth "Line" "waits") rfl)
theorem me_Line_knock (T : Txt w K mg) : Meth K (g_Line K) "knock" (ma K (ga K "Line") "knock") := by
  obtain ⟨h, T⟩ := T
  exact meth_ok (T.c.t.d.fact 90 (f := .meth "Line" "knock") rfl)
theorem me_Line_begin (T : Txt w K mg) : Meth K (g_Line K) "begin" (ma K (ga K "Line") "begin") := by
  obtain ⟨h, T⟩ := T
  exact meth_ok (T.c.t.d.fact 91 (f := .meth "Line" "begin") rfl)
theorem me_Line_answer (T : Txt w K mg) : Meth K (g_Line K) "answer" (ma K (ga K "Line") "answer") := by
  obtain ⟨h, T⟩ := T
  exact meth_ok (T.c.t.d.fact 92 (f := .meth "Line" "answer") rfl)
theorem me_Line_sums (T : Txt w K mg) : Meth K (g_Line K) "sums" (ma K (ga K "Line") "sums") := by
  obtain ⟨h, T⟩ := T
  exact meth_ok (T.c.t.d.fact 93 (f := .meth "Line" "sums") rfl)
theorem mk_Line (T : Txt w K mg) : Mk K (g_Line K) (f_Line_init K) := by
  obtain ⟨h, T⟩ := T
  exact mkr_ok (T.c.t.d.fact 94 (f := .mkr "Line") rfl)
theorem cl_Engine (T : Txt w K mg) : Cls K (g_Engine K) := by
  obtain ⟨h, T⟩ := T
  exact cls_ok (T.c.t.d.fact 95 (f := .cls "Engine") rfl)
theorem na_Engine_plan (T : Txt w K mg) : NoAttr K (g_Engine K) "plan" := by
  obtain ⟨h, T⟩ := T
  exact noat_ok (T.c.t.d.fact 96 (f := .noat "Engine" "plan") rfl)
theorem na_Engine_ways (T : Txt w K mg) : NoAttr K (g_Engine K) "ways" := by
  obtain ⟨h, T⟩ := T
  exact noat_ok (T.c.t.d.fact 97 (f := .noat "Engine" "ways") rfl)
theorem na_Engine_tops (T : Txt w K mg) : NoAttr K (g_Engine K) "tops" := by
  obtain ⟨h, T⟩ := T
  exact noat_ok (T.c.t.d.fact 98 (f := .noat "Engine" "tops") rfl)
theorem na_Engine_bottom (T : Txt w K mg) : NoAttr K (g_Engine K) "bottom" := by
  obtain ⟨h, T⟩ := T
  exact noat_ok (T.c.t.d.fact 99 (f := .noat "Engine" "bottom") rfl)
theorem na_Engine_put_off (T : Txt w K mg) : NoAttr K (g_Engine K) "put_off" := by
  obtain ⟨h, T⟩ := T
  exact noat_ok (T.c.t.d.fact 100 (f := .noat "Engine" "put_off") rfl)
theorem na_Engine_woken (T : Txt w K mg) : NoAttr K (g_Engine K) "woken" := by
  obtain ⟨h, T⟩ := T
  exact noat_ok (T.c.t.d.fact 101 (f := .noat "Engine" "woken") rfl)
theorem na_Engine_begun (T : Txt w K mg) : NoAttr K (g_Engine K) "begun" := by
  obtain ⟨h, T⟩ := T
  exact noat_ok (T.c.t.d.fact 102 (f := .noat "Engine" "begun") rfl)
theorem na_Engine_depth (T : Txt w K mg) : NoAttr K (g_Engine K) "depth" := by
  obtain ⟨h, T⟩ := T
  exact noat_ok (T.c.t.d.fact 103 (f := .noat "Engine" "depth") rfl)
theorem na_Engine_now (T : Txt w K mg) : NoAttr K (g_Engine K) "now" := by
  obtain ⟨h, T⟩ := T
  exact noat_ok (T.c.t.d.fact 104 (f := .noat "Engine" "now") rfl)
theorem na_Engine_row (T : Txt w K mg) : NoAttr K (g_Engine K) "row" := by
  obtain ⟨h, T⟩ := T
  exact noat_ok (T.c.t.d.fact 105 (f := .noat "Engine" "row") rfl)
theorem na_Engine_depths (T : Txt w K mg) : NoAttr K (g_Engine K) "depths" := by
  obtain ⟨h, T⟩ := T
  exact noat_ok (T.c.t.d.fact 106 (f := .noat "Engine" "depths") rfl)
theorem na_Engine_last_begun (T : Txt w K mg) : NoAttr K (g_Engine K) "last_begun" := by
  obtain ⟨h, T⟩ := T
  exact noat_ok (T.c.t.d.fact 107 (f := .noat "Engine" "last_begun") rfl)
theorem me_Engine_line_of (T : Txt w K mg) : Meth K (g_Engine K) "line_of" (ma K (ga K "Engine") "line_of") := by
  obtain ⟨h, T⟩ := T
  exact meth_ok (T.c.t.d.fact 108 (f := .meth "Engine" "line_of") rfl)
theorem me_Engine_ready_line (T : Txt w K mg) : Meth K (g_Engine K) "ready_line" (ma K (ga K "Engine") "ready_line") := by
  obtain ⟨h, T⟩ := T
  exact meth_ok (T.c.t.d.fact 109 (f := .meth "Engine" "ready_line") rfl)
theorem me_Engine_ready_thread (T : Txt w K mg) : Meth K (g_Engine K) "ready_thread" (ma K (ga K "Engine") "ready_thread") := by
  obtain ⟨h, T⟩ := T
  exact meth_ok (T.c.t.d.fact 110 (f := .meth "Engine" "ready_thread") rfl)
theorem me_Engine_chosen (T : Txt w K mg) : Meth K (g_Engine K) "chosen" (ma K (ga K "Engine") "chosen") := by
  obtain ⟨h, T⟩ := T
  exact meth_ok (T.c.t.d.fact 111 (f := .meth "Engine" "chosen") rfl)
theorem me_Engine_over (T : Txt w K mg) : Meth K (g_Engine K) "over" (ma K (ga K "Engine") "over") := by
  obtain ⟨h, T⟩ := T
  exact meth_ok (T.c.t.d.fact 112 (f := .meth "Engine" "over") rfl)
theorem me_Engine_quick (T : Txt w K mg) : Meth K (g_Engine K) "quick" (ma K (ga K "Engine") "quick") := by
  obtain ⟨h, T⟩ := T
  exact meth_ok (T.c.t.d.fact 113 (f := .meth "Engine" "quick") rfl)
theorem me_Engine_go (T : Txt w K mg) : Meth K (g_Engine K) "go" (ma K (ga K "Engine") "go") := by
  obtain ⟨h, T⟩ := T
  exact meth_ok (T.c.t.d.fact 114 (f := .meth "Engine" "go") rfl)
theorem me_Engine_twin (T : Txt w K mg) : Meth K (g_Engine K) "twin" (ma K (ga K "Engine") "twin") := by
  obtain ⟨h, T⟩ := T
  exact meth_ok (T.c.t.d.fact 115 (f := .meth "Engine" "twin") rfl)
theorem mk_Engine (T : Txt w K mg) : Mk K (g_Engine K) (f_Engine_init K) := by
  obtain ⟨h, T⟩ := T
  exact mkr_ok (T.c.t.d.fact 116 (f := .mkr "Engine") rfl)
theorem cl_Plan (T : Txt w K mg) : Cls K (g_Plan K) := by
  obtain ⟨h, T⟩ := T
  exact cls_ok (T.c.t.d.fact 117 (f := .cls "Plan") rfl)
theorem na_Plan_row (T : Txt w K mg) : NoAttr K (g_Plan K) "row" := by
  obtain ⟨h, T⟩ := T
  exact noat_ok (T.c.t.d.fact 118 (f := .noat "Plan" "row") rfl)
theorem na_Plan_low (T : Txt w K mg) : NoAttr K (g_Plan K) "low" := by
  obtain ⟨h, T⟩ := T
  exact noat_ok (T.c.t.d.fact 119 (f := .noat "Plan" "low") rfl)
theorem na_Plan_late (T : Txt w K mg) : NoAttr K (g_Plan K) "late" := by
  obtain ⟨h, T⟩ := T
  exact noat_ok (T.c.t.d.fact 120 (f := .noat "Plan" "late") rfl)
theorem me_Plan_eq (T : Txt w K mg) : Meth K (g_Plan K) "__eq__" (ma K (ga K "Plan") "__eq__") := by
  obtain ⟨h, T⟩ := T
  exact meth_ok (T.c.t.d.fact 121 (f := .meth "Plan" "__eq__") rfl)
theorem me_Plan_parts (T : Txt w K mg) : Meth K (g_Plan K) "parts" (ma K (ga K "Plan") "parts") := by
  obtain ⟨h, T⟩ := T
  exact meth_ok (T.c.t.d.fact 122 (f := .meth "Plan" "parts") rfl)
theorem me_Plan_lines (T : Txt w K mg) : Meth K (g_Plan K) "lines" (ma K (ga K "Plan") "lines") := by
  obtain ⟨h, T⟩ := T
  exact meth_ok (T.c.t.d.fact 123 (f := .meth "Plan" "lines") rfl)
theorem me_Plan_bottoms (T : Txt w K mg) : Meth K (g_Plan K) "bottoms" (ma K (ga K "Plan") "bottoms") := by
  obtain ⟨h, T⟩ := T
  exact meth_ok (T.c.t.d.fact 124 (f := .meth "Plan" "bottoms") rfl)
theorem me_Plan_threads (T : Txt w K mg) : Meth K (g_Plan K) "threads" (ma K (ga K "Plan") "threads") := by
  obtain ⟨h, T⟩ := T
  exact meth_ok (T.c.t.d.fact 125 (f := .meth "Plan" "threads") rfl)
theorem me_Plan_names (T : Txt w K mg) : Meth K (g_Plan K) "names" (ma K (ga K "Plan") "names") := by
  obtain ⟨h, T⟩ := T
  exact meth_ok (T.c.t.d.fact 126 (f := .meth "Plan" "names") rfl)
theorem mk_Plan (T : Txt w K mg) : Mk K (g_Plan K) (f_Plan_init K) := by
  obtain ⟨h, T⟩ := T
  exact mkr_ok (T.c.t.d.fact 127 (f := .mkr "Plan") rfl)
theorem cl_Run (T : Txt w K mg) : Cls K (g_Run K) := by
  obtain ⟨h, T⟩ := T
  exact cls_ok (T.c.t.d.fact 128 (f := .cls "Run") rfl)
theorem na_Run_row (T : Txt w K mg) : NoAttr K (g_Run K) "row" := by
  obtain ⟨h, T⟩ := T
  exact noat_ok (T.c.t.d.fact 129 (f := .noat "Run" "row") rfl)
theorem na_Run_depths (T : Txt w K mg) : NoAttr K (g_Run K) "depths" := by
  obtain ⟨h, T⟩ := T
  exact noat_ok (T.c.t.d.fact 130 (f := .noat "Run" "depths") rfl)
theorem na_Run_table (T : Txt w K mg) : NoAttr K (g_Run K) "table" := by
  obtain ⟨h, T⟩ := T
  exact noat_ok (T.c.t.d.fact 131 (f := .noat "Run" "table") rfl)
theorem na_Run_longest (T : Txt w K mg) : NoAttr K (g_Run K) "longest" := by
  obtain ⟨h, T⟩ := T
  exact noat_ok (T.c.t.d.fact 132 (f := .noat "Run" "longest") rfl)
theorem me_Run_who (T : Txt w K mg) : Meth K (g_Run K) "who" (ma K (ga K "Run") "who") := by
  obtain ⟨h, T⟩ := T
  exact meth_ok (T.c.t.d.fact 133 (f := .meth "Run" "who") rfl)
theorem me_Run_spans (T : Txt w K mg) : Meth K (g_Run K) "spans" (ma K (ga K "Run") "spans") := by
  obtain ⟨h, T⟩ := T
  exact meth_ok (T.c.t.d.fact 134 (f := .meth "Run" "spans") rfl)
theorem me_Run_masks (T : Txt w K mg) : Meth K (g_Run K) "masks" (ma K (ga K "Run") "masks") := by
  obtain ⟨h, T⟩ := T
  exact meth_ok (T.c.t.d.fact 135 (f := .meth "Run" "masks") rfl)
theorem me_Run_sums (T : Txt w K mg) : Meth K (g_Run K) "sums" (ma K (ga K "Run") "sums") := by
  obtain ⟨h, T⟩ := T
  exact meth_ok (T.c.t.d.fact 136 (f := .meth "Run" "sums") rfl)
theorem me_Run_waits (T : Txt w K mg) : Meth K (g_Run K) "waits" (ma K (ga K "Run") "waits") := by
  obtain ⟨h, T⟩ := T
  exact meth_ok (T.c.t.d.fact 137 (f := .meth "Run" "waits") rfl)
theorem mk_Run (T : Txt w K mg) : Mk K (g_Run K) (f_Run_init K) := by
  obtain ⟨h, T⟩ := T
  exact mkr_ok (T.c.t.d.fact 138 (f := .mkr "Run") rfl)
theorem cl_Bench (T : Txt w K mg) : Cls K (g_Bench K) := by
  obtain ⟨h, T⟩ := T
  exact cls_ok (T.c.t.d.fact 139 (f := .cls "Bench") rfl)
theorem na_Bench_engine (T : Txt w K mg) : NoAttr K (g_Bench K) "engine" := by
  obtain ⟨h, T⟩ := T
  exact noat_ok (T.c.t.d.fact 140 (f := .noat "Bench" "engine") rfl)
theorem na_Bench_fresh (T : Txt w K mg) : NoAttr K (g_Bench K) "fresh" := by
  obtain ⟨h, T⟩ := T
  exact noat_ok (T.c.t.d.fact 141 (f := .noat "Bench" "fresh") rfl)
theorem na_Bench_told_so_far (T : Txt w K mg) : NoAttr K (g_Bench K) "told_so_far" := by
  obtain ⟨h, T⟩ := T
  exact noat_ok (T.c.t.d.fact 142 (f := .noat "Bench" "told_so_far") rfl)
theorem na_Bench_rows (T : Txt w K mg) : NoAttr K (g_Bench K) "rows" := by
  obtain ⟨h, T⟩ := T
  exact noat_ok (T.c.t.d.fact 143 (f := .noat "Bench" "rows") rfl)
theorem me_Bench_check_name (T : Txt w K mg) : Meth K (g_Bench K) "check_name" (ma K (ga K "Bench") "check_name") := by
  obtain ⟨h, T⟩ := T
  exact meth_ok (T.c.t.d.fact 144 (f := .meth "Bench" "check_name") rfl)
theorem me_Bench_knock (T : Txt w K mg) : Meth K (g_Bench K) "knock" (ma K (ga K "Bench") "knock") := by
  obtain ⟨h, T⟩ := T
  exact meth_ok (T.c.t.d.fact 145 (f := .meth "Bench" "knock") rfl)
theorem me_Bench_go (T : Txt w K mg) : Meth K (g_Bench K) "go" (ma K (ga K "Bench") "go") := by
  obtain ⟨h, T⟩ := T
  exact meth_ok (T.c.t.d.fact 146 (f := .meth "Bench" "go") rfl)
theorem me_Bench_until (T : Txt w K mg) : Meth K (g_Bench K) "until" (ma K (ga K "Bench") "until") := by
  obtain ⟨h, T⟩ := T
  exact meth_ok (T.c.t.d.fact 147 (f := .meth "Bench" "until") rfl)
theorem me_Bench_tick (T : Txt w K mg) : Meth K (g_Bench K) "tick" (ma K (ga K "Bench") "tick") := by
  obtain ⟨h, T⟩ := T
  exact meth_ok (T.c.t.d.fact 148 (f := .meth "Bench" "tick") rfl)
theorem me_Bench_log (T : Txt w K mg) : Meth K (g_Bench K) "log" (ma K (ga K "Bench") "log") := by
  obtain ⟨h, T⟩ := T
  exact meth_ok (T.c.t.d.fact 149 (f := .meth "Bench" "log") rfl)
theorem me_Bench_nested (T : Txt w K mg) : Meth K (g_Bench K) "nested" (ma K (ga K "Bench") "nested") := by
  obtain ⟨h, T⟩ := T
  exact meth_ok (T.c.t.d.fact 150 (f := .meth "Bench" "nested") rfl)
theorem me_Bench_so_far (T : Txt w K mg) : Meth K (g_Bench K) "so_far" (ma K (ga K "Bench") "so_far") := by
  obtain ⟨h, T⟩ := T
  exact meth_ok (T.c.t.d.fact 151 (f := .meth "Bench" "so_far") rfl)
theorem mk_Bench (T : Txt w K mg) : Mk K (g_Bench K) (f_Bench_init K) := by
  obtain ⟨h, T⟩ := T
  exact mkr_ok (T.c.t.d.fact 152 (f := .mkr "Bench") rfl)
theorem ec_KnockError (T : Txt w K mg) : PySem.W.excIn K (g_KnockError K) veBase "ValueError.__new__" = true ∧ PySem.W.keepIn K (.ref (g_KnockError K)) = true ∧ PySem.W.subIn K (.ref (g_KnockError K)) (.type "BaseException") = some true ∧ PySem.W.typeIn K (.ref (g_KnockError K)) = some (.type "type") := by
  obtain ⟨h, T⟩ := T
  exact exc_ok (T.c.t.d.fact 153 (f := .exc "KnockError") rfl)
theorem ec_BadPlan (T : Txt w K mg) : PySem.W.excIn K (g_BadPlan K) veBase "ValueError.__new__" = true ∧ PySem.W.keepIn K (.ref (g_BadPlan K)) = true ∧ PySem.W.subIn K (.ref (g_BadPlan K)) (.type "BaseException") = some true ∧ PySem.W.typeIn K (.ref (g_BadPlan K)) = some (.type "type") := by
  obtain ⟨h, T⟩ := T
  exact exc_ok (T.c.t.d.fact 154 (f := .exc "BadPlan") rfl)
theorem ec_BadTicks (T : Txt w K mg) : PySem.W.excIn K (g_BadTicks K) veBase "ValueError.__new__" = true ∧ PySem.W.keepIn K (.ref (g_BadTicks K)) = true ∧ PySem.W.subIn K (.ref (g_BadTicks K)) (.type "BaseException") = some true ∧ PySem.W.typeIn K (.ref (g_BadTicks K)) = some (.type "type") := by
  obtain ⟨h, T⟩ := T
  exact exc_ok (T.c.t.d.fact 155 (f := .exc "BadTicks") rfl)
theorem ec_BadName (T : Txt w K mg) : PySem.W.excIn K (g_BadName K) veBase "ValueError.__new__" = true ∧ PySem.W.keepIn K (.ref (g_BadName K)) = true ∧ PySem.W.subIn K (.ref (g_BadName K)) (.type "BaseException") = some true ∧ PySem.W.typeIn K (.ref (g_BadName K)) = some (.type "type") := by
  obtain ⟨h, T⟩ := T
  exact exc_ok (T.c.t.d.fact 156 (f := .exc "BadName") rfl)
theorem ec_Full (T : Txt w K mg) : PySem.W.excIn K (g_Full K) veBase "ValueError.__new__" = true ∧ PySem.W.keepIn K (.ref (g_Full K)) = true ∧ PySem.W.subIn K (.ref (g_Full K)) (.type "BaseException") = some true ∧ PySem.W.typeIn K (.ref (g_Full K)) = some (.type "type") := by
  obtain ⟨h, T⟩ := T
  exact exc_ok (T.c.t.d.fact 157 (f := .exc "Full") rfl)
theorem em_KnockError_KnockError (T : Txt w K mg) : PySem.W.exmOne K (.ref (g_KnockError K)) (.ref (g_KnockError K)) = some true := by
  obtain ⟨h, T⟩ := T
  exact exm_ok (T.c.t.d.fact 158 (f := .exm "KnockError" "KnockError" true) rfl)
theorem em_BadPlan_KnockError (T : Txt w K mg) : PySem.W.exmOne K (.ref (g_BadPlan K)) (.ref (g_KnockError K)) = some true := by
  obtain ⟨h, T⟩ := T
  exact exm_ok (T.c.t.d.fact 159 (f := .exm "BadPlan" "KnockError" true) rfl)
theorem em_BadTicks_KnockError (T : Txt w K mg) : PySem.W.exmOne K (.ref (g_BadTicks K)) (.ref (g_KnockError K)) = some true := by
  obtain ⟨h, T⟩ := T
  exact exm_ok (T.c.t.d.fact 160 (f := .exm "BadTicks" "KnockError" true) rfl)
theorem em_BadName_KnockError (T : Txt w K mg) : PySem.W.exmOne K (.ref (g_BadName K)) (.ref (g_KnockError K)) = some true := by
  obtain ⟨h, T⟩ := T
  exact exm_ok (T.c.t.d.fact 161 (f := .exm "BadName" "KnockError" true) rfl)
theorem em_Full_KnockError (T : Txt w K mg) : PySem.W.exmOne K (.ref (g_Full K)) (.ref (g_KnockError K)) = some true := by
  obtain ⟨h, T⟩ := T
  exact exm_ok (T.c.t.d.fact 162 (f := .exm "Full" "KnockError" true) rfl)
theorem em_BadKnocks_KnockError (T : Txt w K mg) : PySem.W.exmOne K (.ref (g_BadKnocks K)) (.ref (g_KnockError K)) = some true := by
  obtain ⟨h, T⟩ := T
  exact exm_ok (T.c.t.d.fact 163 (f := .exm "BadKnocks" "KnockError" true) rfl)
theorem isa_Plan (T : Txt w K mg) : C8.InsC K (g_Plan K) := by
  obtain ⟨h, T⟩ := T
  exact insB_ok (cl_Plan ⟨h, T⟩) ((ba ((ba (ba (ba (ba T.c.more).2).2).2).2)).1)
theorem isn_Plan (T : Txt w K mg) : ∀ t ∈ (["NoneType", "bool", "int", "str", "list", "tuple", "dict"] : List String), PySem.W.kitOne K (.type t) (.ref (g_Plan K)) = some false := by
  obtain ⟨h, T⟩ := T
  exact fun t ht => of_decide_eq_true (List.all_eq_true.mp ((ba ((ba (ba (ba (ba (ba T.c.more).2).2).2).2).2)).1) t ht)
theorem nen_Plan (T : Txt w K mg) : PySem.W.findIn K (.ref (g_Plan K)) "__ne__" = some (some (.builtin "object.__ne__")) := by
  obtain ⟨h, T⟩ := T
  exact eqO_ok ((ba ((ba (ba (ba (ba (ba (ba T.c.more).2).2).2).2).2).2)).1)
theorem tu_SPEAKING (T : Txt w K mg) : ∀ H : Hp, SqT K H (ga K "SPEAKING") [V.str "answer", V.str "later", V.str "wake"] := by
  obtain ⟨h, T⟩ := T
  exact fun H => tupA_ok (ba (T.c.more)).1 H
theorem tu_GUARD (T : Txt w K mg) : ∀ H : Hp, SqT K H (ga K "GUARD") [V.int 3, V.int 10, V.int 20] := by
  obtain ⟨h, T⟩ := T
  exact fun H => tupA_ok (ba ((ba T.c.more).2)).1 H
theorem em0_Plan_init_bottoms (T : Txt w K mg) : ∀ H : Hp, SqT K H (kwAt ("Plan", some "__init__") "bottoms" K) [] := by
  obtain ⟨h, T⟩ := T
  exact fun H => tupA_ok (ba ((ba (ba T.c.more).2).2)).1 H
theorem em0_Plan_init_threads (T : Txt w K mg) : ∀ H : Hp, SqT K H (kwAt ("Plan", some "__init__") "threads" K) [] := by
  obtain ⟨h, T⟩ := T
  exact fun H => tupA_ok (ba ((ba (ba (ba T.c.more).2).2).2)).1 H
theorem df_Job_init (T : Txt w K mg) : FunD K "__init__" "Job.__init__" (defArgs s_Job_init) (defBody s_Job_init) (defScope s_Job_init) [] [] (f_Job_init K) (fdAt K (f_Job_init K)) := by
  obtain ⟨h, T⟩ := T
  exact funD_at (T.c.t.d.def_ 0 (d := d_Job_init) rfl)
theorem bi_Job_init (T : Txt w K mg) : Binds K (fdAt K (f_Job_init K)) ["self", "word", "name", "rank", "steps", "masks"] [] := FunD.bindsN (df_Job_init T) fun _ _ _ _ _ _ us hl => match us, hl with | [_, _, _, _, _, _], _ => rfl
theorem df_Job_whose (T : Txt w K mg) : FunD K "whose" "Job.whose" (defArgs s_Job_whose) (defBody s_Job_whose) (defScope s_Job_whose) [] [] (f_Job_whose K) (fdAt K (f_Job_whose K)) := by
  obtain ⟨h, T⟩ := T
  exact funD_at (T.c.t.d.def_ 1 (d := d_Job_whose) rfl)
theorem bi_Job_whose (T : Txt w K mg) : Binds K (fdAt K (f_Job_whose K)) ["self"] [] := FunD.bindsN (df_Job_whose T) fun _ _ _ _ _ _ us hl => match us, hl with | [_], _ => rfl
theorem df_Job_twin (T : Txt w K mg) : FunD K "twin" "Job.twin" (defArgs s_Job_twin) (defBody s_Job_twin) (defScope s_Job_twin) [] [] (f_Job_twin K) (fdAt K (f_Job_twin K)) := by
  obtain ⟨h, T⟩ := T
  exact funD_at (T.c.t.d.def_ 2 (d := d_Job_twin) rfl)
theorem bi_Job_twin (T : Txt w K mg) : Binds K (fdAt K (f_Job_twin K)) ["self"] [] := FunD.bindsN (df_Job_twin T) fun _ _ _ _ _ _ us hl => match us, hl with | [_], _ => rfl
theorem df_Line_init (T : Txt w K mg) : FunD K "__init__" "Line.__init__" (defArgs s_Line_init) (defBody s_Line_init) (defScope s_Line_init) [] [] (f_Line_init K) (fdAt K (f_Line_init K)) := by
  obtain ⟨h, T⟩ := T
  exact funD_at (T.c.t.d.def_ 3 (d := d_Line_init) rfl)
theorem bi_Line_init (T : Txt w K mg) : Binds K (fdAt K (f_Line_init K)) ["self", "told"] [] := FunD.bindsN (df_Line_init T) fun _ _ _ _ _ _ us hl => match us, hl with | [_, _], _ => rfl
theorem df_Line_twin (T : Txt w K mg) : FunD K "twin" "Line.twin" (defArgs s_Line_twin) (defBody s_Line_twin) (defScope s_Line_twin) [] [] (f_Line_twin K) (fdAt K (f_Line_twin K)) := by
  obtain ⟨h, T⟩ := T
  exact funD_at (T.c.t.d.def_ 4 (d := d_Line_twin) rfl)
theorem bi_Line_twin (T : Txt w K mg) : Binds K (fdAt K (f_Line_twin K)) ["self"] [] := FunD.bindsN (df_Line_twin T) fun _ _ _ _ _ _ us hl => match us, hl with | [_], _ => rfl
theorem df_Line_waits (T : Txt w K mg) : FunD K "waits" "Line.waits" (defArgs s_Line_waits) (defBody s_Line_waits) (defScope s_Line_waits) [] [] (f_Line_waits K) (fdAt K (f_Line_waits K)) := by
  obtain ⟨h, T⟩ := T
  exact funD_at (T.c.t.d.def_ 5 (d := d_Line_waits) rfl)
theorem bi_Line_waits (T : Txt w K mg) : Binds K (fdAt K (f_Line_waits K)) ["self"] [] := FunD.bindsN (df_Line_waits T) fun _ _ _ _ _ _ us hl => match us, hl with | [_], _ => rfl
theorem df_Line_knock (T : Txt w K mg) : FunD K "knock" "Line.knock" (defArgs s_Line_knock) (defBody s_Line_knock) (defScope s_Line_knock) [] [] (f_Line_knock K) (fdAt K (f_Line_knock K)) := by
  obtain ⟨h, T⟩ := T
  exact funD_at (T.c.t.d.def_ 6 (d := d_Line_knock) rfl)
theorem bi_Line_knock (T : Txt w K mg) : Binds K (fdAt K (f_Line_knock K)) ["self", "tick"] [] := FunD.bindsN (df_Line_knock T) fun _ _ _ _ _ _ us hl => match us, hl with | [_, _], _ => rfl
theorem df_Line_begin (T : Txt w K mg) : FunD K "begin" "Line.begin" (defArgs s_Line_begin) (defBody s_Line_begin) (defScope s_Line_begin) [] [] (f_Line_begin K) (fdAt K (f_Line_begin K)) := by
  obtain ⟨h, T⟩ := T
  exact funD_at (T.c.t.d.def_ 7 (d := d_Line_begin) rfl)
theorem bi_Line_begin (T : Txt w K mg) : Binds K (fdAt K (f_Line_begin K)) ["self", "tick"] [] := FunD.bindsN (df_Line_begin T) fun _ _ _ _ _ _ us hl => match us, hl with | [_, _], _ => rfl
theorem df_Line_answer (T : Txt w K mg) : FunD K "answer" "Line.answer" (defArgs s_Line_answer) (defBody s_Line_answer) (defScope s_Line_answer) [] [] (f_Line_answer K) (fdAt K (f_Line_answer K)) := by
  obtain ⟨h, T⟩ := T
  exact funD_at (T.c.t.d.def_ 8 (d := d_Line_answer) rfl)
theorem bi_Line_answer (T : Txt w K mg) : Binds K (fdAt K (f_Line_answer K)) ["self"] [] := FunD.bindsN (df_Line_answer T) fun _ _ _ _ _ _ us hl => match us, hl with | [_], _ => rfl
theorem df_Line_sums (T : Txt w K mg) : FunD K "sums" "Line.sums" (defArgs s_Line_sums) (defBody s_Line_sums) (defScope s_Line_sums) [] [] (f_Line_sums K) (fdAt K (f_Line_sums K)) := by
  obtain ⟨h, T⟩ := T
  exact funD_at (T.c.t.d.def_ 9 (d := d_Line_sums) rfl)
theorem bi_Line_sums (T : Txt w K mg) : Binds K (fdAt K (f_Line_sums K)) ["self"] [] := FunD.bindsN (df_Line_sums T) fun _ _ _ _ _ _ us hl => match us, hl with | [_], _ => rfl
theorem df_Engine_init (T : Txt w K mg) : FunD K "__init__" "Engine.__init__" (defArgs s_Engine_init) (defBody s_Engine_init) (defScope s_Engine_init) [] [] (f_Engine_init K) (fdAt K (f_Engine_init K)) := by
  obtain ⟨h, T⟩ := T
  exact funD_at (T.c.t.d.def_ 10 (d := d_Engine_init) rfl)
theorem bi_Engine_init (T : Txt w K mg) : Binds K (fdAt K (f_Engine_init K)) ["self", "plan"] [] := FunD.bindsN (df_Engine_init T) fun _ _ _ _ _ _ us hl => match us, hl with | [_, _], _ => rfl
theorem df_Engine_line_of (T : Txt w K mg) : FunD K "line_of" "Engine.line_of" (defArgs s_Engine_line_of) (defBody s_Engine_line_of) (defScope s_Engine_line_of) [] [] (f_Engine_line_of K) (fdAt K (f_Engine_line_of K)) := by
  obtain ⟨h, T⟩ := T
  exact funD_at (T.c.t.d.def_ 11 (d := d_Engine_line_of) rfl)
theorem bi_Engine_line_of (T : Txt w K mg) : Binds K (fdAt K (f_Engine_line_of K)) ["self", "name"] [] := FunD.bindsN (df_Engine_line_of T) fun _ _ _ _ _ _ us hl => match us, hl with | [_, _], _ => rfl
theorem df_Engine_ready_line (T : Txt w K mg) : FunD K "ready_line" "Engine.ready_line" (defArgs s_Engine_ready_line) (defBody s_Engine_ready_line) (defScope s_Engine_ready_line) [] [] (f_Engine_ready_line K) (fdAt K (f_Engine_ready_line K)) := by
  obtain ⟨h, T⟩ := T
  exact funD_at (T.c.t.d.def_ 12 (d := d_Engine_ready_line) rfl)
theorem bi_Engine_ready_line (T : Txt w K mg) : Binds K (fdAt K (f_Engine_ready_line K)) ["self"] [] := FunD.bindsN (df_Engine_ready_line T) fun _ _ _ _ _ _ us hl => match us, hl with | [_], _ => rfl
theorem df_Engine_ready_thread (T : Txt w K mg) : FunD K "ready_thread" "Engine.ready_thread" (defArgs s_Engine_ready_thread) (defBody s_Engine_ready_thread) (defScope s_Engine_ready_thread) [] [] (f_Engine_ready_thread K) (fdAt K (f_Engine_ready_thread K)) := by
  obtain ⟨h, T⟩ := T
  exact funD_at (T.c.t.d.def_ 13 (d := d_Engine_ready_thread) rfl)
theorem bi_Engine_ready_thread (T : Txt w K mg) : Binds K (fdAt K (f_Engine_ready_thread K)) ["self"] [] := FunD.bindsN (df_Engine_ready_thread T) fun _ _ _ _ _ _ us hl => match us, hl with | [_], _ => rfl
theorem df_Engine_chosen (T : Txt w K mg) : FunD K "chosen" "Engine.chosen" (defArgs s_Engine_chosen) (defBody s_Engine_chosen) (defScope s_Engine_chosen) [] [] (f_Engine_chosen K) (fdAt K (f_Engine_chosen K)) := by
  obtain ⟨h, T⟩ := T
  exact funD_at (T.c.t.d.def_ 14 (d := d_Engine_chosen) rfl)
theorem bi_Engine_chosen (T : Txt w K mg) : Binds K (fdAt K (f_Engine_chosen K)) ["self"] [] := FunD.bindsN (df_Engine_chosen T) fun _ _ _ _ _ _ us hl => match us, hl with | [_], _ => rfl
theorem df_Engine_over (T : Txt w K mg) : FunD K "over" "Engine.over" (defArgs s_Engine_over) (defBody s_Engine_over) (defScope s_Engine_over) [] [] (f_Engine_over K) (fdAt K (f_Engine_over K)) := by
  obtain ⟨h, T⟩ := T
  exact funD_at (T.c.t.d.def_ 15 (d := d_Engine_over) rfl)
theorem bi_Engine_over (T : Txt w K mg) : Binds K (fdAt K (f_Engine_over K)) ["self", "job"] [] := FunD.bindsN (df_Engine_over T) fun _ _ _ _ _ _ us hl => match us, hl with | [_, _], _ => rfl
theorem df_Engine_quick (T : Txt w K mg) : FunD K "quick" "Engine.quick" (defArgs s_Engine_quick) (defBody s_Engine_quick) (defScope s_Engine_quick) [] [] (f_Engine_quick K) (fdAt K (f_Engine_quick K)) := by
  obtain ⟨h, T⟩ := T
  exact funD_at (T.c.t.d.def_ 16 (d := d_Engine_quick) rfl)
theorem bi_Engine_quick (T : Txt w K mg) : Binds K (fdAt K (f_Engine_quick K)) ["self", "job"] [] := FunD.bindsN (df_Engine_quick T) fun _ _ _ _ _ _ us hl => match us, hl with | [_, _], _ => rfl
theorem df_Engine_go (T : Txt w K mg) : FunD K "go" "Engine.go" (defArgs s_Engine_go) (defBody s_Engine_go) (defScope s_Engine_go) [] [] (f_Engine_go K) (fdAt K (f_Engine_go K)) := by
  obtain ⟨h, T⟩ := T
  exact funD_at (T.c.t.d.def_ 17 (d := d_Engine_go) rfl)
theorem bi_Engine_go (T : Txt w K mg) : Binds K (fdAt K (f_Engine_go K)) ["self", "knocks"] [] := FunD.bindsN (df_Engine_go T) fun _ _ _ _ _ _ us hl => match us, hl with | [_, _], _ => rfl
theorem df_Engine_twin (T : Txt w K mg) : FunD K "twin" "Engine.twin" (defArgs s_Engine_twin) (defBody s_Engine_twin) (defScope s_Engine_twin) [] [] (f_Engine_twin K) (fdAt K (f_Engine_twin K)) := by
  obtain ⟨h, T⟩ := T
  exact funD_at (T.c.t.d.def_ 18 (d := d_Engine_twin) rfl)
theorem bi_Engine_twin (T : Txt w K mg) : Binds K (fdAt K (f_Engine_twin K)) ["self"] [] := FunD.bindsN (df_Engine_twin T) fun _ _ _ _ _ _ us hl => match us, hl with | [_], _ => rfl
theorem df_rank_of (T : Txt w K mg) : FunD K "rank_of" "rank_of" (defArgs s_rank_of) (defBody s_rank_of) (defScope s_rank_of) [] [] (f_rank_of K) (fdAt K (f_rank_of K)) := by
  obtain ⟨h, T⟩ := T
  exact funD_at (T.c.t.d.def_ 19 (d := d_rank_of) rfl)
theorem bi_rank_of (T : Txt w K mg) : Binds K (fdAt K (f_rank_of K)) ["thing"] [] := FunD.bindsN (df_rank_of T) fun _ _ _ _ _ _ us hl => match us, hl with | [_], _ => rfl
theorem df_BadKnocks_init (T : Txt w K mg) : FunD K "__init__" "BadKnocks.__init__" (defArgs s_BadKnocks_init) (defBody s_BadKnocks_init) (defScope s_BadKnocks_init) [] [] (f_BadKnocks_init K) (fdAt K (f_BadKnocks_init K)) := by
  obtain ⟨h, T⟩ := T
  exact funD_at (T.c.t.d.def_ 20 (d := d_BadKnocks_init) rfl)
theorem bi_BadKnocks_init (T : Txt w K mg) : Binds K (fdAt K (f_BadKnocks_init K)) ["self", "at"] [] := FunD.bindsN (df_BadKnocks_init T) fun _ _ _ _ _ _ us hl => match us, hl with | [_, _], _ => rfl
theorem df_is_whole (T : Txt w K mg) : FunD K "is_whole" "is_whole" (defArgs s_is_whole) (defBody s_is_whole) (defScope s_is_whole) [] [] (f_is_whole K) (fdAt K (f_is_whole K)) := by
  obtain ⟨h, T⟩ := T
  exact funD_at (T.c.t.d.def_ 21 (d := d_is_whole) rfl)
theorem bi_is_whole (T : Txt w K mg) : Binds K (fdAt K (f_is_whole K)) ["thing"] [] := FunD.bindsN (df_is_whole T) fun _ _ _ _ _ _ us hl => match us, hl with | [_], _ => rfl
theorem df_within (T : Txt w K mg) : FunD K "within" "within" (defArgs s_within) (defBody s_within) (defScope s_within) [] [] (f_within K) (fdAt K (f_within K)) := by
  obtain ⟨h, T⟩ := T
  exact funD_at (T.c.t.d.def_ 22 (d := d_within) rfl)
theorem bi_within (T : Txt w K mg) : Binds K (fdAt K (f_within K)) ["thing", "low", "high"] [] := FunD.bindsN (df_within T) fun _ _ _ _ _ _ us hl => match us, hl with | [_, _, _], _ => rfl
theorem df_is_name (T : Txt w K mg) : FunD K "is_name" "is_name" (defArgs s_is_name) (defBody s_is_name) (defScope s_is_name) [] [] (f_is_name K) (fdAt K (f_is_name K)) := by
  obtain ⟨h, T⟩ := T
  exact funD_at (T.c.t.d.def_ 23 (d := d_is_name) rfl)
theorem bi_is_name (T : Txt w K mg) : Binds K (fdAt K (f_is_name K)) ["thing"] [] := FunD.bindsN (df_is_name T) fun _ _ _ _ _ _ us hl => match us, hl with | [_], _ => rfl
theorem df_is_step (T : Txt w K mg) : FunD K "is_step" "is_step" (defArgs s_is_step) (defBody s_is_step) (defScope s_is_step) [] [] (f_is_step K) (fdAt K (f_is_step K)) := by
  obtain ⟨h, T⟩ := T
  exact funD_at (T.c.t.d.def_ 24 (d := d_is_step) rfl)
theorem bi_is_step (T : Txt w K mg) : Binds K (fdAt K (f_is_step K)) ["thing"] [] := FunD.bindsN (df_is_step T) fun _ _ _ _ _ _ us hl => match us, hl with | [_], _ => rfl
theorem df_are_steps (T : Txt w K mg) : FunD K "are_steps" "are_steps" (defArgs s_are_steps) (defBody s_are_steps) (defScope s_are_steps) [] [] (f_are_steps K) (fdAt K (f_are_steps K)) := by
  obtain ⟨h, T⟩ := T
  exact funD_at (T.c.t.d.def_ 25 (d := d_are_steps) rfl)
theorem bi_are_steps (T : Txt w K mg) : Binds K (fdAt K (f_are_steps K)) ["thing"] [] := FunD.bindsN (df_are_steps T) fun _ _ _ _ _ _ us hl => match us, hl with | [_], _ => rfl
theorem df_spoken (T : Txt w K mg) : FunD K "spoken" "spoken" (defArgs s_spoken) (defBody s_spoken) (defScope s_spoken) [] [] (f_spoken K) (fdAt K (f_spoken K)) := by
  obtain ⟨h, T⟩ := T
  exact funD_at (T.c.t.d.def_ 26 (d := d_spoken) rfl)
theorem bi_spoken (T : Txt w K mg) : Binds K (fdAt K (f_spoken K)) ["steps", "word"] [] := FunD.bindsN (df_spoken T) fun _ _ _ _ _ _ us hl => match us, hl with | [_, _], _ => rfl
theorem df_line (T : Txt w K mg) : FunD K "line" "line" (defArgs s_line) (defBody s_line) (defScope s_line) [] [("rank", V.int 1), ("up", V.bl false), ("guard", V.ref (ga K "GUARD"))] (f_line K) (fdAt K (f_line K)) := by
  obtain ⟨h, T⟩ := T
  exact funD_at (T.c.t.d.def_ 27 (d := d_line) rfl)
theorem df_is_guard (T : Txt w K mg) : FunD K "is_guard" "is_guard" (defArgs s_is_guard) (defBody s_is_guard) (defScope s_is_guard) [] [] (f_is_guard K) (fdAt K (f_is_guard K)) := by
  obtain ⟨h, T⟩ := T
  exact funD_at (T.c.t.d.def_ 28 (d := d_is_guard) rfl)
theorem bi_is_guard (T : Txt w K mg) : Binds K (fdAt K (f_is_guard K)) ["thing"] [] := FunD.bindsN (df_is_guard T) fun _ _ _ _ _ _ us hl => match us, hl with | [_], _ => rfl
theorem df_is_line (T : Txt w K mg) : FunD K "is_line" "is_line" (defArgs s_is_line) (defBody s_is_line) (defScope s_is_line) [] [] (f_is_line K) (fdAt K (f_is_line K)) := by
  obtain ⟨h, T⟩ := T
  exact funD_at (T.c.t.d.def_ 29 (d := d_is_line) rfl)
theorem bi_is_line (T : Txt w K mg) : Binds K (fdAt K (f_is_line K)) ["thing"] [] := FunD.bindsN (df_is_line T) fun _ _ _ _ _ _ us hl => match us, hl with | [_], _ => rfl
theorem df_is_bottom (T : Txt w K mg) : FunD K "is_bottom" "is_bottom" (defArgs s_is_bottom) (defBody s_is_bottom) (defScope s_is_bottom) [] [] (f_is_bottom K) (fdAt K (f_is_bottom K)) := by
  obtain ⟨h, T⟩ := T
  exact funD_at (T.c.t.d.def_ 30 (d := d_is_bottom) rfl)
theorem bi_is_bottom (T : Txt w K mg) : Binds K (fdAt K (f_is_bottom K)) ["thing"] [] := FunD.bindsN (df_is_bottom T) fun _ _ _ _ _ _ us hl => match us, hl with | [_], _ => rfl
theorem df_is_thread (T : Txt w K mg) : FunD K "is_thread" "is_thread" (defArgs s_is_thread) (defBody s_is_thread) (defScope s_is_thread) [] [] (f_is_thread K) (fdAt K (f_is_thread K)) := by
  obtain ⟨h, T⟩ := T
  exact funD_at (T.c.t.d.def_ 31 (d := d_is_thread) rfl)
theorem bi_is_thread (T : Txt w K mg) : Binds K (fdAt K (f_is_thread K)) ["thing"] [] := FunD.bindsN (df_is_thread T) fun _ _ _ _ _ _ us hl => match us, hl with | [_], _ => rfl
theorem df_are_ones (T : Txt w K mg) : FunD K "are_ones" "are_ones" (defArgs s_are_ones) (defBody s_are_ones) (defScope s_are_ones) [] [] (f_are_ones K) (fdAt K (f_are_ones K)) := by
  obtain ⟨h, T⟩ := T
  exact funD_at (T.c.t.d.def_ 32 (d := d_are_ones) rfl)
theorem bi_are_ones (T : Txt w K mg) : Binds K (fdAt K (f_are_ones K)) ["thing", "low", "high", "look"] [] := FunD.bindsN (df_are_ones T) fun _ _ _ _ _ _ us hl => match us, hl with | [_, _, _, _], _ => rfl
theorem df_are_unlike_ranks (T : Txt w K mg) : FunD K "are_unlike_ranks" "are_unlike_ranks" (defArgs s_are_unlike_ranks) (defBody s_are_unlike_ranks) (defScope s_are_unlike_ranks) [] [] (f_are_unlike_ranks K) (fdAt K (f_are_unlike_ranks K)) := by
  obtain ⟨h, T⟩ := T
  exact funD_at (T.c.t.d.def_ 33 (d := d_are_unlike_ranks) rfl)
theorem bi_are_unlike_ranks (T : Txt w K mg) : Binds K (fdAt K (f_are_unlike_ranks K)) ["things"] [] := FunD.bindsN (df_are_unlike_ranks T) fun _ _ _ _ _ _ us hl => match us, hl with | [_], _ => rfl
theorem df_all_there (T : Txt w K mg) : FunD K "all_there" "all_there" (defArgs s_all_there) (defBody s_all_there) (defScope s_all_there) [] [] (f_all_there K) (fdAt K (f_all_there K)) := by
  obtain ⟨h, T⟩ := T
  exact funD_at (T.c.t.d.def_ 34 (d := d_all_there) rfl)
theorem bi_all_there (T : Txt w K mg) : Binds K (fdAt K (f_all_there K)) ["names", "lines", "bottoms", "threads"] [] := FunD.bindsN (df_all_there T) fun _ _ _ _ _ _ us hl => match us, hl with | [_, _, _, _], _ => rfl
theorem df_copied (T : Txt w K mg) : FunD K "copied" "copied" (defArgs s_copied) (defBody s_copied) (defScope s_copied) [] [] (f_copied K) (fdAt K (f_copied K)) := by
  obtain ⟨h, T⟩ := T
  exact funD_at (T.c.t.d.def_ 35 (d := d_copied) rfl)
theorem bi_copied (T : Txt w K mg) : Binds K (fdAt K (f_copied K)) ["things"] [] := FunD.bindsN (df_copied T) fun _ _ _ _ _ _ us hl => match us, hl with | [_], _ => rfl
theorem df_Plan_init (T : Txt w K mg) : FunD K "__init__" "Plan.__init__" (defArgs s_Plan_init) (defBody s_Plan_init) (defScope s_Plan_init) [] [("bottoms", V.ref (kwAt ("Plan", some "__init__") "bottoms" K)), ("threads", V.ref (kwAt ("Plan", some "__init__") "threads" K))] (f_Plan_init K) (fdAt K (f_Plan_init K)) := by
  obtain ⟨h, T⟩ := T
  exact funD_at (T.c.t.d.def_ 36 (d := d_Plan_init) rfl)
theorem df_Plan_eq (T : Txt w K mg) : FunD K "__eq__" "Plan.__eq__" (defArgs s_Plan_eq) (defBody s_Plan_eq) (defScope s_Plan_eq) [] [] (f_Plan_eq K) (fdAt K (f_Plan_eq K)) := by
  obtain ⟨h, T⟩ := T
  exact funD_at (T.c.t.d.def_ 37 (d := d_Plan_eq) rfl)
theorem bi_Plan_eq (T : Txt w K mg) : Binds K (fdAt K (f_Plan_eq K)) ["self", "other"] [] := FunD.bindsN (df_Plan_eq T) fun _ _ _ _ _ _ us hl => match us, hl with | [_, _], _ => rfl
theorem df_Plan_parts (T : Txt w K mg) : FunD K "parts" "Plan.parts" (defArgs s_Plan_parts) (defBody s_Plan_parts) (defScope s_Plan_parts) [] [] (f_Plan_parts K) (fdAt K (f_Plan_parts K)) := by
  obtain ⟨h, T⟩ := T
  exact funD_at (T.c.t.d.def_ 38 (d := d_Plan_parts) rfl)
theorem bi_Plan_parts (T : Txt w K mg) : Binds K (fdAt K (f_Plan_parts K)) ["self"] [] := FunD.bindsN (df_Plan_parts T) fun _ _ _ _ _ _ us hl => match us, hl with | [_], _ => rfl
theorem df_Plan_lines (T : Txt w K mg) : FunD K "lines" "Plan.lines" (defArgs s_Plan_lines) (defBody s_Plan_lines) (defScope s_Plan_lines) [] [] (f_Plan_lines K) (fdAt K (f_Plan_lines K)) := by
  obtain ⟨h, T⟩ := T
  exact funD_at (T.c.t.d.def_ 39 (d := d_Plan_lines) rfl)
theorem bi_Plan_lines (T : Txt w K mg) : Binds K (fdAt K (f_Plan_lines K)) ["self"] [] := FunD.bindsN (df_Plan_lines T) fun _ _ _ _ _ _ us hl => match us, hl with | [_], _ => rfl
theorem df_Plan_bottoms (T : Txt w K mg) : FunD K "bottoms" "Plan.bottoms" (defArgs s_Plan_bottoms) (defBody s_Plan_bottoms) (defScope s_Plan_bottoms) [] [] (f_Plan_bottoms K) (fdAt K (f_Plan_bottoms K)) := by
  obtain ⟨h, T⟩ := T
  exact funD_at (T.c.t.d.def_ 40 (d := d_Plan_bottoms) rfl)
theorem bi_Plan_bottoms (T : Txt w K mg) : Binds K (fdAt K (f_Plan_bottoms K)) ["self"] [] := FunD.bindsN (df_Plan_bottoms T) fun _ _ _ _ _ _ us hl => match us, hl with | [_], _ => rfl
theorem df_Plan_threads (T : Txt w K mg) : FunD K "threads" "Plan.threads" (defArgs s_Plan_threads) (defBody s_Plan_threads) (defScope s_Plan_threads) [] [] (f_Plan_threads K) (fdAt K (f_Plan_threads K)) := by
  obtain ⟨h, T⟩ := T
  exact funD_at (T.c.t.d.def_ 41 (d := d_Plan_threads) rfl)
theorem bi_Plan_threads (T : Txt w K mg) : Binds K (fdAt K (f_Plan_threads K)) ["self"] [] := FunD.bindsN (df_Plan_threads T) fun _ _ _ _ _ _ us hl => match us, hl with | [_], _ => rfl
theorem df_Plan_names (T : Txt w K mg) : FunD K "names" "Plan.names" (defArgs s_Plan_names) (defBody s_Plan_names) (defScope s_Plan_names) [] [] (f_Plan_names K) (fdAt K (f_Plan_names K)) := by
  obtain ⟨h, T⟩ := T
  exact funD_at (T.c.t.d.def_ 42 (d := d_Plan_names) rfl)
theorem bi_Plan_names (T : Txt w K mg) : Binds K (fdAt K (f_Plan_names K)) ["self"] [] := FunD.bindsN (df_Plan_names T) fun _ _ _ _ _ _ us hl => match us, hl with | [_], _ => rfl
theorem df_check_knocks (T : Txt w K mg) : FunD K "check_knocks" "check_knocks" (defArgs s_check_knocks) (defBody s_check_knocks) (defScope s_check_knocks) [] [] (f_check_knocks K) (fdAt K (f_check_knocks K)) := by
  obtain ⟨h, T⟩ := T
  exact funD_at (T.c.t.d.def_ 43 (d := d_check_knocks) rfl)
theorem bi_check_knocks (T : Txt w K mg) : Binds K (fdAt K (f_check_knocks K)) ["plan", "knocks"] [] := FunD.bindsN (df_check_knocks T) fun _ _ _ _ _ _ us hl => match us, hl with | [_, _], _ => rfl
theorem df_Run_init (T : Txt w K mg) : FunD K "__init__" "Run.__init__" (defArgs s_Run_init) (defBody s_Run_init) (defScope s_Run_init) [] [] (f_Run_init K) (fdAt K (f_Run_init K)) := by
  obtain ⟨h, T⟩ := T
  exact funD_at (T.c.t.d.def_ 44 (d := d_Run_init) rfl)
theorem bi_Run_init (T : Txt w K mg) : Binds K (fdAt K (f_Run_init K)) ["self", "engine"] [] := FunD.bindsN (df_Run_init T) fun _ _ _ _ _ _ us hl => match us, hl with | [_, _], _ => rfl
theorem df_Run_who (T : Txt w K mg) : FunD K "who" "Run.who" (defArgs s_Run_who) (defBody s_Run_who) (defScope s_Run_who) [] [] (f_Run_who K) (fdAt K (f_Run_who K)) := by
  obtain ⟨h, T⟩ := T
  exact funD_at (T.c.t.d.def_ 45 (d := d_Run_who) rfl)
theorem bi_Run_who (T : Txt w K mg) : Binds K (fdAt K (f_Run_who K)) ["self"] [] := FunD.bindsN (df_Run_who T) fun _ _ _ _ _ _ us hl => match us, hl with | [_], _ => rfl
theorem df_Run_spans (T : Txt w K mg) : FunD K "spans" "Run.spans" (defArgs s_Run_spans) (defBody s_Run_spans) (defScope s_Run_spans) [] [] (f_Run_spans K) (fdAt K (f_Run_spans K)) := by
  obtain ⟨h, T⟩ := T
  exact funD_at (T.c.t.d.def_ 46 (d := d_Run_spans) rfl)
theorem bi_Run_spans (T : Txt w K mg) : Binds K (fdAt K (f_Run_spans K)) ["self"] [] := FunD.bindsN (df_Run_spans T) fun _ _ _ _ _ _ us hl => match us, hl with | [_], _ => rfl
theorem df_Run_masks (T : Txt w K mg) : FunD K "masks" "Run.masks" (defArgs s_Run_masks) (defBody s_Run_masks) (defScope s_Run_masks) [] [] (f_Run_masks K) (fdAt K (f_Run_masks K)) := by
  obtain ⟨h, T⟩ := T
  exact funD_at (T.c.t.d.def_ 47 (d := d_Run_masks) rfl)
theorem bi_Run_masks (T : Txt w K mg) : Binds K (fdAt K (f_Run_masks K)) ["self"] [] := FunD.bindsN (df_Run_masks T) fun _ _ _ _ _ _ us hl => match us, hl with | [_], _ => rfl
theorem df_Run_sums (T : Txt w K mg) : FunD K "sums" "Run.sums" (defArgs s_Run_sums) (defBody s_Run_sums) (defScope s_Run_sums) [] [] (f_Run_sums K) (fdAt K (f_Run_sums K)) := by
  obtain ⟨h, T⟩ := T
  exact funD_at (T.c.t.d.def_ 48 (d := d_Run_sums) rfl)
theorem bi_Run_sums (T : Txt w K mg) : Binds K (fdAt K (f_Run_sums K)) ["self"] [] := FunD.bindsN (df_Run_sums T) fun _ _ _ _ _ _ us hl => match us, hl with | [_], _ => rfl
theorem df_Run_waits (T : Txt w K mg) : FunD K "waits" "Run.waits" (defArgs s_Run_waits) (defBody s_Run_waits) (defScope s_Run_waits) [] [] (f_Run_waits K) (fdAt K (f_Run_waits K)) := by
  obtain ⟨h, T⟩ := T
  exact funD_at (T.c.t.d.def_ 49 (d := d_Run_waits) rfl)
theorem bi_Run_waits (T : Txt w K mg) : Binds K (fdAt K (f_Run_waits K)) ["self"] [] := FunD.bindsN (df_Run_waits T) fun _ _ _ _ _ _ us hl => match us, hl with | [_], _ => rfl
theorem df_run (T : Txt w K mg) : FunD K "run" "run" (defArgs s_run) (defBody s_run) (defScope s_run) [] [("ticks", V.int 60)] (f_run K) (fdAt K (f_run K)) := by
  obtain ⟨h, T⟩ := T
  exact funD_at (T.c.t.d.def_ 50 (d := d_run) rfl)
theorem df_Bench_init (T : Txt w K mg) : FunD K "__init__" "Bench.__init__" (defArgs s_Bench_init) (defBody s_Bench_init) (defScope s_Bench_init) [] [] (f_Bench_init K) (fdAt K (f_Bench_init K)) := by
  obtain ⟨h, T⟩ := T
  exact funD_at (T.c.t.d.def_ 51 (d := d_Bench_init) rfl)
theorem bi_Bench_init (T : Txt w K mg) : Binds K (fdAt K (f_Bench_init K)) ["self", "plan"] [] := FunD.bindsN (df_Bench_init T) fun _ _ _ _ _ _ us hl => match us, hl with | [_, _], _ => rfl
theorem df_Bench_check_name (T : Txt w K mg) : FunD K "check_name" "Bench.check_name" (defArgs s_Bench_check_name) (defBody s_Bench_check_name) (defScope s_Bench_check_name) [] [] (f_Bench_check_name K) (fdAt K (f_Bench_check_name K)) := by
  obtain ⟨h, T⟩ := T
  exact funD_at (T.c.t.d.def_ 52 (d := d_Bench_check_name) rfl)
theorem bi_Bench_check_name (T : Txt w K mg) : Binds K (fdAt K (f_Bench_check_name K)) ["self", "name"] [] := FunD.bindsN (df_Bench_check_name T) fun _ _ _ _ _ _ us hl => match us, hl with | [_, _], _ => rfl
theorem df_Bench_knock (T : Txt w K mg) : FunD K "knock" "Bench.knock" (defArgs s_Bench_knock) (defBody s_Bench_knock) (defScope s_Bench_knock) [] [] (f_Bench_knock K) (fdAt K (f_Bench_knock K)) := by
  obtain ⟨h, T⟩ := T
  exact funD_at (T.c.t.d.def_ 53 (d := d_Bench_knock) rfl)
theorem bi_Bench_knock (T : Txt w K mg) : Binds K (fdAt K (f_Bench_knock K)) ["self", "name"] [] := FunD.bindsN (df_Bench_knock T) fun _ _ _ _ _ _ us hl => match us, hl with | [_, _], _ => rfl
theorem df_Bench_go (T : Txt w K mg) : FunD K "go" "Bench.go" (defArgs s_Bench_go) (defBody s_Bench_go) (defScope s_Bench_go) [] [("ticks", V.int 1)] (f_Bench_go K) (fdAt K (f_Bench_go K)) := by
  obtain ⟨h, T⟩ := T
  exact funD_at (T.c.t.d.def_ 54 (d := d_Bench_go) rfl)
theorem df_Bench_until (T : Txt w K mg) : FunD K "until" "Bench.until" (defArgs s_Bench_until) (defBody s_Bench_until) (defScope s_Bench_until) [] [("ticks", V.int 60)] (f_Bench_until K) (fdAt K (f_Bench_until K)) := by
  obtain ⟨h, T⟩ := T
  exact funD_at (T.c.t.d.def_ 55 (d := d_Bench_until) rfl)
theorem df_Bench_tick (T : Txt w K mg) : FunD K "tick" "Bench.tick" (defArgs s_Bench_tick) (defBody s_Bench_tick) (defScope s_Bench_tick) [] [] (f_Bench_tick K) (fdAt K (f_Bench_tick K)) := by
  obtain ⟨h, T⟩ := T
  exact funD_at (T.c.t.d.def_ 56 (d := d_Bench_tick) rfl)
theorem bi_Bench_tick (T : Txt w K mg) : Binds K (fdAt K (f_Bench_tick K)) ["self"] [] := FunD.bindsN (df_Bench_tick T) fun _ _ _ _ _ _ us hl => match us, hl with | [_], _ => rfl
theorem df_Bench_log (T : Txt w K mg) : FunD K "log" "Bench.log" (defArgs s_Bench_log) (defBody s_Bench_log) (defScope s_Bench_log) [] [] (f_Bench_log K) (fdAt K (f_Bench_log K)) := by
  obtain ⟨h, T⟩ := T
  exact funD_at (T.c.t.d.def_ 57 (d := d_Bench_log) rfl)
theorem bi_Bench_log (T : Txt w K mg) : Binds K (fdAt K (f_Bench_log K)) ["self"] [] := FunD.bindsN (df_Bench_log T) fun _ _ _ _ _ _ us hl => match us, hl with | [_], _ => rfl
theorem df_Bench_nested (T : Txt w K mg) : FunD K "nested" "Bench.nested" (defArgs s_Bench_nested) (defBody s_Bench_nested) (defScope s_Bench_nested) [] [] (f_Bench_nested K) (fdAt K (f_Bench_nested K)) := by
  obtain ⟨h, T⟩ := T
  exact funD_at (T.c.t.d.def_ 58 (d := d_Bench_nested) rfl)
theorem bi_Bench_nested (T : Txt w K mg) : Binds K (fdAt K (f_Bench_nested K)) ["self"] [] := FunD.bindsN (df_Bench_nested T) fun _ _ _ _ _ _ us hl => match us, hl with | [_], _ => rfl
theorem df_Bench_so_far (T : Txt w K mg) : FunD K "so_far" "Bench.so_far" (defArgs s_Bench_so_far) (defBody s_Bench_so_far) (defScope s_Bench_so_far) [] [] (f_Bench_so_far K) (fdAt K (f_Bench_so_far K)) := by
  obtain ⟨h, T⟩ := T
  exact funD_at (T.c.t.d.def_ 59 (d := d_Bench_so_far) rfl)
theorem bi_Bench_so_far (T : Txt w K mg) : Binds K (fdAt K (f_Bench_so_far K)) ["self"] [] := FunD.bindsN (df_Bench_so_far T) fun _ _ _ _ _ _ us hl => match us, hl with | [_], _ => rfl
theorem df_law_steps (T : Txt w K mg) : FunD K "_law_steps" "_law_steps" (defArgs s_law_steps) (defBody s_law_steps) (defScope s_law_steps) [] [] (f_law_steps K) (fdAt K (f_law_steps K)) := by
  obtain ⟨h, T⟩ := T
  exact funD_at (T.c.t.d.def_ 60 (d := d_law_steps) rfl)
theorem bi_law_steps (T : Txt w K mg) : Binds K (fdAt K (f_law_steps K)) ["_law_time"] [] := FunD.bindsN (df_law_steps T) fun _ _ _ _ _ _ us hl => match us, hl with | [_], _ => rfl
theorem df_law_told (T : Txt w K mg) : FunD K "_law_told" "_law_told" (defArgs s_law_told) (defBody s_law_told) (defScope s_law_told) [] [] (f_law_told K) (fdAt K (f_law_told K)) := by
  obtain ⟨h, T⟩ := T
  exact funD_at (T.c.t.d.def_ 61 (d := d_law_told) rfl)
theorem bi_law_told (T : Txt w K mg) : Binds K (fdAt K (f_law_told K)) ["_law_ask"] [] := FunD.bindsN (df_law_told T) fun _ _ _ _ _ _ us hl => match us, hl with | [_], _ => rfl
theorem df_law_begun (T : Txt w K mg) : FunD K "_law_begun" "_law_begun" (defArgs s_law_begun) (defBody s_law_begun) (defScope s_law_begun) [] [] (f_law_begun K) (fdAt K (f_law_begun K)) := by
  obtain ⟨h, T⟩ := T
  exact funD_at (T.c.t.d.def_ 62 (d := d_law_begun) rfl)
theorem bi_law_begun (T : Txt w K mg) : Binds K (fdAt K (f_law_begun K)) ["_law_long", "_law_most"] [] := FunD.bindsN (df_law_begun T) fun _ _ _ _ _ _ us hl => match us, hl with | [_, _], _ => rfl
theorem df_law (T : Txt w K mg) : FunD K "law" "law" (defArgs s_law) (defBody s_law) (defScope s_law) [] [] (f_law K) (fdAt K (f_law K)) := by
  obtain ⟨h, T⟩ := T
  exact funD_at (T.c.t.d.def_ 63 (d := d_law) rfl)
theorem bi_law (T : Txt w K mg) : Binds K (fdAt K (f_law K)) ["_law_script"] [] := FunD.bindsN (df_law T) fun _ _ _ _ _ _ us hl => match us, hl with | [_], _ => rfl
end
end KW
end
section
set_option Elab.async false
set_option linter.all false
set_option maxRecDepth 100000
set_option maxHeartbeats 0
namespace KW
open PySem PySem.Spec PyProof.Rows L2 He
abbrev R : PySem.W.OpenRow := PySem.W.OpenLaw.row PySem.Challenge.rw_knockwell_k11_left_out
abbrev hk : PySem.W.Hook := hookX 6 fa fn [] tf ex
def ob (s : PySem.W.SharedT) : AlX := obsX 6 fa fn [] tf ex (HandSHeadRun.getT s)
theorem ob_eq (s : PySem.W.SharedT) : ob s = hk.obs s.abs := obsX_eq (HandSHeadRun.getT_eq s)
def loose : List PySem.Str := (["_wall", "Job", "Line", "Engine", "rank_of", "KnockError", "BadPlan", "BadTicks", "BadName", "Full", "BadKnocks", "LETTERS", "MOST_STEPS", "MOST_RUN", "SPEAKING", "is_whole", "within", "is_name", "is_step", "are_steps", "spoken", "GUARD", "MOST_LINES", "MOST_OTHERS", "MOST_RANK", "MOST_LET", "WIDEST", "line", "is_guard", "is_line"] : List PySem.Str) ++ (["is_bottom", "is_thread", "are_ones", "are_unlike_ranks", "all_there", "copied", "Plan", "TICKS", "MOST_TICKS", "MOST_KNOCKS", "LAST_KNOCK", "check_knocks", "Run", "run", "Bench", "_law_steps", "_law_told", "_law_begun"] : List PySem.Str)
def lawAt : Nat := 55
theorem run (w : World) : HandSHeadRun.RunEq R (PySem.W.view R.prog [55]) hk ob 6000 loose w := by
  intro os
  kernel_rfl
end KW
end
section
set_option Elab.async false
set_option autoImplicit false
set_option linter.all false
set_option maxRecDepth 100000
set_option maxHeartbeats 4000000
/-! Rules over the hand layer that this program wants and that the layer lacks: a field as a target, an item of a list counted on, a starred target, max by a key, methods called by keywords. -/
namespace KR
open PySem PySem.Spec PyProof.Rows L2
section
variable {X : Cx} {o : Expr} {f : Str} {pos : Pos} {ta : TE}
def gFld (K : PySem.W.Frag) (ta : TE) (f : Str) : TG := fun v σ H Q => ta σ H fun x H1 => ∃ a C dx fs, x = .ref a ∧ H1 a = some (.ins C dx fs) ∧ Cls K C ∧ NoAttr K C f ∧ fs.length < 1000 ∧
  Q σ (upd H1 a (.ins C dx (putF f v fs)))
theorem pg_fld (ha : PE X o ta) : PG X (.Attribute o f pos) (gFld X.K ta f) := by
  refine ⟨fun pins s σ H v u Q I r h => ?_⟩
  rw [assign_Attribute]
  refine wpAny_bind (wpAny_holding (thn (ha.run pins s σ H _ I h) fun ov s1 ⟨x, H1, I1, rx, a, C, dx, fs, ex, ea, c, n, l, q⟩ => ?_))
  subst ex
  obtain rfl : ov = Value.ref a := rx
  refine wpAny_bind (wpAny_standAt (wpAny_bind (wpAny_holding (setattr_ok I1 ea c n l r fun s3 I3 => ?_))))
  exact wpAny_release ⟨σ, _, I3, q⟩
/-- xs[i] read by values, for xs[i] op= e -/
def gGetL (K : PySem.W.Frag) : V → V → Hp → VK → Prop := fun x y H Q => ∃ p xs i v, x = .ref p ∧ y = .int i ∧ SqL K H p xs ∧ atI xs i = some v ∧ Q v H
theorem get_list : PGet X (gGetL X.K) := by
  intro pins s σ H x y v u Q I rx ry h
  obtain ⟨p, xs, i, z, rfl, rfl, hq, he, q⟩ := h
  cases rx
  obtain ⟨t, rfl⟩ := ry
  obtain ⟨its, r, pl, hz⟩ := I.list hq
  obtain ⟨j, h1, h2, h3, h4, h5⟩ := atI_get he
  obtain ⟨w, ew, rw'⟩ := r.get h2
  have hl := r.length
  have hn := line63
  have fin : EP X pins σ Q w s := ⟨z, H, I, rw', q⟩
  by_cases h0 : 0 ≤ i
  · have hj : i.toNat = j := by
      rw [seqIndex_of h0 h5] at h1
      exact Option.some.inj h1
    exact wpAny_getItem_list pl.isList h0 (by omega) (by rw [hj]; simpa using ew) fin
  · have hj : (i + (its.toArray.size : Int)).toNat = j := by
      rw [seqIndex_neg (by omega) h4] at h1
      rw [List.size_toArray, ← hl]
      exact Option.some.inj h1
    exact wpAny_getItem_list_neg pl.isList (by omega) (by rw [List.size_toArray] <;> omega) (by omega) (by rw [hj]; simpa using ew) fin
end
section
variable {X : Cx} {pos : Pos} {pins : List (Addr × Obj)} {σ : L2.St} {H : Hp} {s : Shared}
/-- the frame and the ledger of the library's own rules, and the way back -/
theorem bridge (I : Inv X pins σ H s) : ∃ m, Fr X.base X.env.locals s.heap m ∧ News X.base X.env.locals s.heap (allNews X.base s.heap X.env.locals) ∧
    (∀ (h' : Heap) (tk : Nat), Fr X.base X.env.locals h' m → News X.base X.env.locals h' (allNews X.base s.heap X.env.locals) → Inv X pins σ H { s with heap := h', toks := tk }) := by
  obtain ⟨m, F⟩ := I.fr
  refine ⟨m, F, news_all, fun h' tk F' N' => ?_⟩
  have hk : ∀ b o, b ≠ X.env.locals → s.heap.get? b = some o → h'.get? b = some o := fun b o hb e => by
    cases q : X.base.get? b with
    | some u =>
      have e2 := I.bk b u q
      rw [e] at e2
      cases e2
      exact F'.keep b _ q
    | none => exact (N' (b, o) (mem_allNews hb q e)).1
  have eL := F'.ns
  refine I.step (g' := s.gens) (d' := s.drawn) (ch := []) (fun _ z => nomatch z) (fun b o hb _ _ e _ => hk b o hb e) (fun b o hb _ _ e _ => ⟨o.slots, hk b o hb e⟩) (fun _ _ _ _ n => n) (fun b o _ e => ?_) (fun _ _ e => e) (fun _ _ _ e => e)
    (fun b ps e => ⟨#[], by rw [e]; simp⟩) (fun m' hm => ?_) (fun b u e => ?_) I.bare
  · by_cases hb : b = X.env.locals
    · subst hb
      obtain ⟨o', _, _, ho', _⟩ := eL
      exact ⟨o', ho'⟩
    · exact ⟨o, hk b o hb e⟩
  · obtain ⟨o1, es1, ep1, a1, b1, c1, d1⟩ := hm
    obtain ⟨o2, es2, ep2, a2, b2, c2, d2⟩ := F.ns
    rw [a1] at a2
    cases a2
    rw [b1] at b2
    injection b2 with b3 _
    subst b3
    have em : m' = m := funext fun x => (d1 x).symm.trans (d2 x)
    rw [em]
    exact eL
  · refine (I.hok b u e).stay (fun c v hc q => hk c v ?_ q) (fun _ q => q) fun _ _ q => q
    rcases hc with z | z
    · rw [z]
      exact ne_of_none e I.free
    · exact ne_of_none z I.free
theorem ok_some {P : Program} {w : World} {H : Hp} {h : Heap} {a : Addr} : ∀ {o : HO}, ObjOk P w H h a o → ∃ ob, h.get? a = some ob
  | .lst _, ⟨_, _, _, _, e⟩ => ⟨_, e⟩
  | .tup _, ⟨_, _, _, ob, e, _⟩ => ⟨ob, e⟩
  | .dK _, ⟨_, _, _, _, ob, _, _, e, _⟩ => ⟨ob, e⟩
  | .dT _, ⟨_, _, _, _, ob, _, _, e, _⟩ => ⟨ob, e⟩
  | .set _ _, ⟨ob, _, _, _, e, _⟩ => ⟨ob, e⟩
  | .ins _ _ _, ⟨_, _, _, e, _⟩ => ⟨_, e⟩
  | .own _, ⟨ob, e⟩ => ⟨ob, e⟩
  | .xd _, ⟨_, ⟨ob, _, _, e, _⟩, _⟩ => ⟨ob, e⟩
  | .rng _ _, ⟨_, _, _, e⟩ => ⟨_, e⟩
  | .frz ob _, ⟨e, _⟩ => ⟨ob, e⟩
  | .tbl _, e => ⟨_, e⟩
  | .met _ _, e => ⟨_, e⟩
  | .ext _, ⟨_, ⟨ob, e⟩, _⟩ => ⟨ob, e⟩
theorem free_of (I : Inv X pins σ H s) {D : Addr} (hD : s.heap.get? D = none) : H D = none := by
  cases e : H D with
  | none => rfl
  | some o =>
    obtain ⟨ob, q⟩ := ok_some (I.hok D o e)
    rw [hD] at q
    cases q
/-- a new object that stands already is tracked from here on -/
theorem adopt {h' : Heap} {tk : Nat} {D : Addr} {u : HO} (I : Inv X pins σ H s) (I1 : Inv X pins σ H { s with heap := h', toks := tk }) (hD : s.heap.get? D = none) (ok : ObjOk X.prog X.w (upd H D u) h' D u) :
    Inv X pins σ (upd H D u) { s with heap := h', toks := tk } := by
  have hn : H D = none := free_of I hD
  have ne : ∀ b o, H b = some o → b ≠ D := fun b o e => ne_of_none e hn
  have lt : ∀ b o, s.heap.get? b = some o → b ≠ D := fun b o e z => by rw [z, hD] at e; cases e
  have up : ∀ b, b ≠ D → upd H D u b = H b := fun b e => upd_ne e
  refine ⟨I1.ok, I1.os, I1.bare, ⟨I1.base.keep, I1.base.slot, fun b o e n hx => ?_, I1.base.there, fun b xs e => ?_, fun b o x e => ?_, fun b ps e => ?_⟩, I1.loc, I1.cell, ?_, fun x c e => ?_, fun p hp => ?_, fun b o e => ?_, I1.len⟩
  · obtain ⟨o', e'⟩ := I.base.there b o e hx
    rw [up b (lt b o' e')]
    exact I1.base.free b o e n hx
  · have z := I1.base.tups b xs e
    rw [up b (ne b _ z)]; exact z
  · have z := I1.base.frzs b o x e
    rw [up b (ne b _ z)]; exact z
  · obtain ⟨more, z⟩ := I1.base.tbls b ps e
    exact ⟨more, by rw [up b (ne b _ z)]; exact z⟩
  · obtain ⟨_, ⟨ol, _, _, hol, _⟩, _⟩ := I.loc
    rw [up _ (lt _ ol hol)]; exact I1.free
  · obtain ⟨v, oc, ho, _⟩ := I.cell x c e
    rw [up _ (lt c oc ho)]; exact I1.freeC x c e
  · obtain ⟨a1, a2, a3, a4, a5⟩ := I1.pin p hp
    have b1 := (I.pin p hp).1
    exact ⟨a1, by rw [up _ (lt _ _ b1)]; exact a2, a3, a4, a5⟩
  · by_cases hb : b = D
    · subst hb
      rw [upd_same] at e
      cases e
      exact ok
    · rw [up b hb] at e
      exact (I1.hok b o e).stay (fun c v _ q => q) (fun c q => by rw [up c (ne c _ q)]; exact q) fun c xs q => by rw [up c (ne c _ q)]; exact q
/-- a, *b = xs (a list or a tuple): the first item, a new list of the rest -/
def gStar (K : PySem.W.Frag) (t : TGs) : TG := fun v σ H Q => ∃ a x xs, v = .ref a ∧ (SqT K H a (x :: xs) ∨ SqL K H a (x :: xs)) ∧ xs.length < 16384 ∧ ∀ p, H p = none → t [x, .ref p] σ (upd H p (.lst xs)) Q
theorem vals_cons {x : V} {xs : List V} {us : List Value} (h : Vals (x :: xs) us) : ∃ u r, us = u :: r ∧ RelV x u ∧ Vals xs r := by
  cases h with
  | cons a b => exact ⟨_, _, rfl, a, b⟩
theorem pgs_starred {e : Expr} {es : List Expr} {p : Pos} {t : TG} {u : TGs} (h1 : PG X e t) (h2 : PGs X es u)
    (hs : (assignEach (.Starred e p :: es) X.env).map (·.2) = assign e X.env :: (assignEach es X.env).map (·.2) := by rfl) : PGs X (.Starred e p :: es) (gCons t u) := by
  refine ⟨fun pins s σ H vs us Q I r h => ?_⟩
  obtain ⟨v, vr, e1, h⟩ := h
  subst e1
  cases r with
  | cons r rr =>
    rw [hs]
    exact assignInOrder_cons (thn (h1.run pins s σ H _ _ _ I r h) fun _ s1 ⟨σ1, H1, I1, q1⟩ => h2.run pins s1 σ1 H1 _ _ Q I1 rr q1)
theorem pg_star {es : List Expr} {k : Nat} {t : TGs} (hc : X.calm = true) (h : PGs X es t)
    (hn : (assignEach es X.env).length = 2 := by rfl) (hst : (assignEach es X.env).findIdx? (·.1) = some 1 := by rfl) : PG X (.Tuple es k pos) (gStar X.K t) := by
  refine ⟨fun pins s σ H v u Q I r hw => ?_⟩
  obtain ⟨a, x, xs, e1, hq, hl, hw⟩ := hw
  subst e1
  cases r
  obtain ⟨m, F, N, back⟩ := bridge I
  have fin : ∀ (u0 : Value) (r0 : List Value), RelV x u0 → Vals xs r0 → ∀ D h' tk, Fr X.base X.env.locals h' m → News X.base X.env.locals h' ((D, PySem.W.listOf r0.toArray 0) :: allNews X.base s.heap X.env.locals) → s.heap.get? D = none →
      wpAny (model X.prog X.w) X.A (assignInOrder ((assignEach es X.env).map (·.2)) ([u0] ++ [.ref D] ++ [])) (fun _ s' => ∃ σ' H', Inv X pins σ' H' s' ∧ Q σ' H') X.xe { s with heap := h', toks := tk } := by
    intro u0 r0 ru rr D h' tk F' N' hD
    have I1 := back h' tk F' fun p hp => N' p (List.mem_cons_of_mem _ hp)
    have gD : h'.get? D = some (PySem.W.listOf r0.toArray 0) := (N' _ (List.mem_cons_self ..)).1
    have I2 : Inv X pins σ (upd H D (.lst xs)) { s with heap := h', toks := tk } := adopt I I1 hD ⟨by rw [sizeLine_eq]; omega, r0, 0, rr, gD⟩
    exact h.run pins _ σ _ [x, .ref D] _ Q I2 (.cons ru (.cons rfl .nil)) (hw _ (free_of I hD))
  have new : ∀ D : Addr, (∀ p ∈ allNews X.base s.heap X.env.locals, p.1 < D) → D ≠ X.env.locals → X.base.get? D = none → s.heap.get? D = none := fun D h1 h2 h3 => by
    cases e : s.heap.get? D with
    | none => rfl
    | some o => exact absurd (h1 _ (mem_allNews h2 h3 e)) (Nat.lt_irrefl _)
  rcases hq with hq | hq
  · obtain ⟨its, rv, ht, hz⟩ := I.tuple hq
    obtain ⟨u0, r0, rfl, ru, rr⟩ := vals_cons rv
    have lr := rr.length
    refine PySem.W.kun_assignT F N ht (I.ok.hd hc) hn hst (by decide) (by simp) (by simp; omega) (first := [u0]) (mids := r0) (lasts := []) (by simp) (by simp) (by simp) fun D h' tk F' N' l1 => ?_
    exact fin u0 r0 ru rr D h' tk F' N' (new D l1 (N' _ (List.mem_cons_self ..)).2.1 (N' _ (List.mem_cons_self ..)).2.2)
  · obtain ⟨its, rv, ht, hz⟩ := I.list hq
    obtain ⟨u0, r0, rfl, ru, rr⟩ := vals_cons rv
    have lr := rr.length
    refine PySem.W.kun_assignL F N ht.isList (I.ok.hd hc) hn hst (by decide) (by simp) (by simp; omega) (first := [u0]) (mids := r0) (lasts := []) (by simp) (by simp) (by simp) fun D h' tk F' N' l1 => ?_
    exact fin u0 r0 ru rr D h' tk F' N' (new D l1 (N' _ (List.mem_cons_self ..)).2.1 (N' _ (List.mem_cons_self ..)).2.2)
end
section
variable {X : Cx} {pins : List (Addr × Obj)} {σ : L2.St} {H : Hp}
/-- a key's call on one item -/
theorem key_call {s : Shared} {n : Nat} {q : Addr} {fd : FuncData} {pn : Str} {sp : Sp} {v : V} {u : Value} {k : Int} (F : FnOk X.prog X.w X.K X.mg X.base CX0 n q fd [pn] sp) (hr : Room (n + 1) X.A) (hb : Binds X.K fd [pn] [])
    (I : Inv X pins σ H s) (r : RelV v u) (h : sp [v] H (fun z H' => z = .int k ∧ H' = H) (fun _ _ _ => False)) :
    wpAny (model X.prog X.w) X.A.in1 (call (.ref q) [u]) (fun z s' => ∃ t, z = .int k t ∧ Inv X pins σ H s') (fun _ _ => False) s := by
  refine wpAny_call (codeAny_mono (F.run X.A.in1 X.stack s H ⟨[u], []⟩ [u] [v] (fun z H' => z = .int k ∧ H' = H) (fun _ _ _ => False) hr.in1 I.env0.in1 (hb s [u] I.kIn rfl) (.cons r .nil) h) fun z s' hq => ?_)
  cases z with
  | error e => exact (show False from hq).elim
  | ok fl =>
    cases fl with
    | ret w =>
      obtain ⟨v', H', I', rw', rfl, rfl⟩ := I.after hq
      obtain ⟨t, rfl⟩ := rw'
      exact ⟨t, rfl, I'⟩
    | next => exact False.elim hq
    | brk => exact False.elim hq
    | cont => exact False.elim hq
theorem max_loopI {n : Nat} {q l it S : Addr} {fd : FuncData} {pn : Str} {sp : Sp} {xs : List V} (k : Nat → Int) {R : Result → Shared → Prop} (F : FnOk X.prog X.w X.K X.mg X.base CX0 n q fd [pn] sp) (hr : Room (n + 1) X.A) (hb : Binds X.K fd [pn] [])
    (hc : X.A.handled = none) (hs : SqL X.K H l xs) (hSI : S ≠ it) (fI : FpOk X pins H it) (fS : FpOk X pins H S)
    (hk : ∀ (i : Nat) (v : V), xs[i]? = some v → sp [v] H (fun z H' => z = .int (k i) ∧ H' = H) (fun _ _ _ => False))
    (hR : ∀ (i : Nat) (v : V) (u : Value) (s' : Shared), xs[i]? = some v → RelV v u → (∀ j, j < xs.length → k i ≥ k j ∧ (j < i → k i > k j)) → Inv X pins σ H s' → R (.ok (.ret u)) s') :
    ∀ (r j i : Nat) (s : Shared) (vb : V) (ub : Value) (tb : Tok) (c : Nat), xs.length - (j + 1) = r → j + 1 ≤ xs.length → Inv X pins σ H s →
      s.heap.get? S = some (seqObj "list" #[ub, .int (k i) tb] c) → s.heap.IsListIter it l (j + 1) → xs[i]? = some vb → RelV vb ub → i ≤ j → (∀ j', j' ≤ j → k i ≥ k j' ∧ (j' < i → k i > k j')) →
      codeAny (model X.prog X.w) X.A (.builtin "max.loop" ⟨[.ref it, .ref q, .ref S], []⟩) R s := by
  have hname : (toString "max" ++ toString ".loop" : String) = "max.loop" := by decide
  intro r
  induction r with
  | zero =>
    intro j i s vb ub tb c hrj hj I gS hit hvb rvb hij hbest
    have hin : j + 1 = xs.length := by omega
    obtain ⟨its, rv, p, hz⟩ := I.list hs
    have hl := rv.length
    obtain ⟨f0, f1, f2, f3, f4, f5⟩ := fI
    obtain ⟨g0, g1, g2, g3, g4, g5⟩ := fS
    refine codeAny_builtin PySem.F.entry_max_loop ?_
    rw [Around.under_plainId PySem.F.plain_max_loop _]
    show wpAny _ X.A.in1 (seqItems? (.ref S) >>= _) _ _ _
    refine wpAny_bind (wpAny_seqItems gS rfl ?_)
    show wpAny _ X.A.in1 (tryCatch (pyNext (.ref it)) _ >>= _) _ _ _
    refine wpAny_bind (wpAny_tryCatch (wpAny_pyNext_list_end (A := X.A.in1) hc hit p.isList (by simp; omega) fun h' eb => ?_))
    have I1 : Inv X pins σ H { s with heap := h' } := I.turned (t' := s.toks) (fun b o hb e => eb b o hb e) f0 f1 f3 f4 f5
    have hS' := eb S _ hSI gS
    show wpAny _ X.A.in1 (updateSeq S (fun _ => #[]) >>= _) _ _ _
    refine wpAny_bind ?_
    refine wpAny_updateSeq hS' rfl (wpAny_bind (wpAny_letGo (wpAny_pure ?_)))
    have s1 := Heap.SameBut.update h' S (Obj.mapSeq fun _ => (#[] : Array Value))
    exact hR i vb ub _ hvb rvb (fun j' hj' => hbest j' (by omega)) (I1.turned (t' := s.toks) (fun b o hb e => (s1.2 b hb).trans e) g0 g1 g3 g4 g5)
  | succ r ih =>
    intro j i s vb ub tb c hrj hj I gS hit hvb rvb hij hbest
    have hlt : j + 1 < xs.length := by omega
    obtain ⟨its, rv, p, hz⟩ := I.list hs
    obtain ⟨f0, f1, f2, f3, f4, f5⟩ := id fI
    obtain ⟨g0, g1, g2, g3, g4, g5⟩ := id fS
    have hx : xs[j + 1]? = some xs[j + 1] := List.getElem?_eq_getElem hlt
    obtain ⟨u, hu, ru⟩ := rv.get hx
    refine codeAny_builtin PySem.F.entry_max_loop ?_
    rw [Around.under_plainId PySem.F.plain_max_loop _]
    show wpAny _ X.A.in1 (seqItems? (.ref S) >>= _) _ _ _
    refine wpAny_bind (wpAny_seqItems gS rfl ?_)
    show wpAny _ X.A.in1 (tryCatch (pyNext (.ref it)) _ >>= _) _ _ _
    refine wpAny_bind (wpAny_tryCatch (wpAny_pyNext_list_item (A := X.A.in1) hit p.isList (x := u) (by simpa using hu) fun h' st' sb => ?_))
    have I1 : Inv X pins σ H { s with heap := h' } := I.turned (t' := s.toks) (fun b o hb e => (sb.2 b hb).trans e) f0 f1 f3 f4 f5
    have gS1 : h'.get? S = some (seqObj "list" #[ub, .int (k i) tb] c) := (sb.2 S hSI).trans gS
    obtain ⟨oI, gI1, hoc, hod⟩ := id st'
    have I1p := I1.pinned (fp := [it, S]) (fun b hb => by
      rcases List.mem_cons.mp hb with rfl | hb
      · exact fI
      · rw [List.mem_singleton.mp hb]; exact fS) (fun b hb => by
      rcases List.mem_cons.mp hb with rfl | hb
      · exact ⟨oI, gI1, fun v z => by rw [hod] at z; cases z⟩
      · rw [List.mem_singleton.mp hb]; exact ⟨_, gS1, fun v z => by cases z⟩)
    show wpAny _ X.A.in1 (tryCatch (holding [u] (call (.ref q) [u])) _ >>= _) _ _ _
    refine wpAny_bind (wpAny_tryCatch (wpAny_holding (wpAny_mono (key_call F hr hb I1p ru (hk (j + 1) _ hx)) (fun x s2 he => ?_) fun _ _ hF => hF.elim)))
    obtain ⟨t2, rfl, I2p⟩ := he
    have I2 : Inv X pins σ H s2 := I2p.unpinned
    have gS2 : s2.heap.get? S = some (seqObj "list" #[ub, .int (k i) tb] c) := (I2p.pin _ (List.mem_append_right _ (List.mem_append_right _ (mem_pinsAt (b := S) (by simp) gS1)))).1
    have gI2 : s2.heap.get? it = some oI := (I2p.pin _ (List.mem_append_right _ (List.mem_append_right _ (mem_pinsAt (b := it) (by simp) gI1)))).1
    show wpAny _ X.A.in1 (tryCatch (holding [u, .int (k (j + 1)) t2] (richCompare .Gt (.int (k (j + 1)) t2) (.int (k i) tb) >>= _)) _ >>= _) _ _ _
    refine wpAny_bind (wpAny_tryCatch (wpAny_holding (wpAny_bind (CmpOf.ints_gt (prog := X.prog) (w := X.w) (A := X.A.in1) (P := fun i v => ∃ t, v = .int (k i) t) k (fun i v h => h) (j + 1) i _ _ _ _ _ ⟨t2, rfl⟩ ⟨tb, rfl⟩ ?_))))
    refine wpAny_bind (wpAny_holding (wpAny_truthy_bool ?_))
    refine wpAny_bind (wpAny_letGo (wpAny_pure ?_))
    by_cases hb' : k (j + 1) > k i
    · have s1 := Heap.SameBut.update s2.heap S (Obj.mapSeq fun _ => #[u, .int (k (j + 1)) t2])
      obtain ⟨c2, hc2⟩ : ∃ c2, (s2.heap.update S (Obj.mapSeq fun _ => #[u, .int (k (j + 1)) t2])).get? S = some (seqObj "list" #[u, .int (k (j + 1)) t2] c2) := ⟨_, get?_update_seq gS2 fun _ => #[u, .int (k (j + 1)) t2]⟩
      simp only [hb', decide_true, if_true]
      refine wpAny_bind ?_
      refine wpAny_updateSeq gS2 rfl (wpAny_bind (wpAny_letGo ?_))
      rw [hname]
      refine wpAny_pure ⟨plainId_quiet PySem.F.plain_max_loop _, ih (j + 1) (j + 1) _ xs[j + 1] u t2 c2 (by omega) hlt (I2.turned (t' := s2.toks) (fun b o hb e => (s1.2 b hb).trans e) g0 g1 g3 g4 g5) hc2 ⟨oI, (s1.2 it hSI.symm).trans gI2, hoc, hod⟩ hx ru (Nat.le_refl _) fun j' hj' => ?_⟩
      by_cases e : j' = j + 1
      · subst e
        exact ⟨by omega, fun _ => by omega⟩
      · have hb1 := hbest j' (by omega)
        have hb2 := hb1.1
        exact ⟨by omega, fun _ => by omega⟩
    · simp only [hb', decide_false, Bool.false_eq_true, if_false]
      refine wpAny_bind (wpAny_letGo ?_)
      rw [hname]
      refine wpAny_pure ⟨plainId_quiet PySem.F.plain_max_loop _, ih (j + 1) i s2 vb ub tb c (by omega) hlt I2 gS2 ⟨oI, gI2, hoc, hod⟩ hvb rvb (by omega) fun j' hj' => ?_⟩
      by_cases e : j' = j + 1
      · subst e
        exact ⟨by omega, fun _ => by omega⟩
      · exact hbest j' (by omega)
/-- max(xs, key=f): the first of the items whose key is greatest -/
def rMaxKey (K : PySem.W.Frag) (q : Addr) (sp : Sp) : List V → List V → Hp → VK → Prop := fun vs zs H Q => ∃ (a : Addr) (xs : List V) (k : Nat → Int), vs = [.ref a] ∧ zs = [.ref q] ∧ SqL K H a xs ∧ 0 < xs.length ∧
  (∀ (i : Nat) (v : V), xs[i]? = some v → sp [v] H (fun z H' => z = .int (k i) ∧ H' = H) (fun _ _ _ => False)) ∧
  ∀ (i : Nat) (v : V), xs[i]? = some v → (∀ j, j < xs.length → k i ≥ k j ∧ (j < i → k i > k j)) → Q v H
theorem cr_maxKey {n : Nat} {q : Addr} {fd : FuncData} {pn : Str} {sp : Sp} (hcm : X.calm = true) (F : FnOk X.prog X.w X.K X.mg X.base CX0 n q fd [pn] sp) (hr : Room (n + 1) X.A) (hb : Binds X.K fd [pn] []) :
    CallRK X (.builtin "max") [Str.ofString "key"] (rMaxKey X.K q sp) := by
  intro pins s σ H vs zs us ws Q I r rz h
  obtain ⟨a, xs, k, rfl, rfl, hs, hne, hk, hQ⟩ := h
  obtain rfl := Vals.ref1 r
  obtain ⟨w1, rfl, e1⟩ := vals1 rz
  obtain rfl : w1 = Value.ref q := e1
  have hname : (toString "max" ++ toString ".loop" : String) = "max.loop" := by decide
  have hh : X.A.handled = none := I.ok.hd hcm
  obtain ⟨its, rv, p, hz⟩ := I.list hs
  have hll : a < s.heap.objs.size := let ⟨_, _, e, _⟩ := p; Heap.lt_size e
  have hx : xs[0]? = some xs[0] := List.getElem?_eq_getElem hne
  obtain ⟨u, hu, ru⟩ := rv.get hx
  show wpAny _ X.A (call (.builtin "max") [.ref a] [(Str.ofString "key", .ref q)]) _ _ _
  refine kmk_tree PySem.F.kind_max PySem.F.plain_max PySem.F.entry_max (kmk_max_key _ _) ?_
  show wpAny _ X.A.in1 (Builtin.Builtins.bindParams "max" ["key", "default"] 0 ⟨[], [(Str.ofString "key", .ref q)]⟩ >>= _) _ _ s
  refine wpAny_bind (wpAny_of_eq (show Builtin.Builtins.bindParams "max" ["key", "default"] 0 ⟨[], [(Str.ofString "key", .ref q)]⟩ = pure [some (.ref q), none] from rfl) ?_)
  refine wpAny_bind (wpAny_pure ?_)
  refine wpAny_bind (wpAny_pyIter_list p.isList ?_)
  refine wpAny_bind (wpAny_newList ?_ (Nat.zero_le _))
  rw [hname]
  refine wpAny_pure ⟨plainId_quiet PySem.F.plain_max_loop _, ?_⟩
  have hS : (s.heap.push { cls := .type "list_iterator", data := .fields #[.ref a, .int 0 0] }).objs.size = s.heap.objs.size + 1 := size_push' ..
  have hSI : (s.heap.push { cls := .type "list_iterator", data := .fields #[.ref a, .int 0 0] }).objs.size ≠ s.heap.objs.size := by rw [hS]; exact Nat.ne_of_gt (Nat.lt_succ_self _)
  have I0 : Inv X pins σ H { s with heap := (s.heap.push { cls := .type "list_iterator", data := .fields #[.ref a, .int 0 0] }).push (seqObj "list" #[] 0) } :=
    I.kept (t' := s.toks) fun b o e => Heap.get?_push_of_some _ (Heap.get?_push_of_some _ e)
  have fI : FpOk X pins H s.heap.objs.size := I.fpOk (Nat.le_refl _) (I.hok.fresh (Nat.le_refl _))
  have fS : FpOk X pins H (s.heap.push { cls := .type "list_iterator", data := .fields #[.ref a, .int 0 0] }).objs.size := I.fpOk (by rw [hS]; exact Nat.le_succ _) (I.hok.fresh (by rw [hS]; exact Nat.le_succ _))
  have gI : ((s.heap.push { cls := .type "list_iterator", data := .fields #[.ref a, .int 0 0] }).push (seqObj "list" #[] 0)).get? s.heap.objs.size = some { cls := .type "list_iterator", data := .fields #[.ref a, .int 0 0] } :=
    Heap.get?_push_of_some _ (Heap.get?_push_size _ rfl)
  have gS : ((s.heap.push { cls := .type "list_iterator", data := .fields #[.ref a, .int 0 0] }).push (seqObj "list" #[] 0)).get? (s.heap.push { cls := .type "list_iterator", data := .fields #[.ref a, .int 0 0] }).objs.size = some (seqObj "list" #[] 0) := Heap.get?_push_size _ rfl
  generalize (s.heap.push { cls := .type "list_iterator", data := .fields #[.ref a, .int 0 0] }).objs.size = S at *
  generalize s.heap.objs.size = it at *
  obtain ⟨f0, f1, f2, f3, f4, f5⟩ := id fI
  obtain ⟨g0, g1, g2, g3, g4, g5⟩ := id fS
  obtain ⟨its', rv', p', hz'⟩ := I0.list hs
  obtain ⟨u', hu', ru'⟩ := rv'.get hx
  refine codeAny_builtin PySem.F.entry_max_loop ?_
  rw [Around.under_plainId PySem.F.plain_max_loop _]
  show wpAny _ X.A.in1 (seqItems? (.ref _) >>= _) _ _ _
  refine wpAny_bind (wpAny_seqItems gS rfl ?_)
  show wpAny _ X.A.in1 (tryCatch (pyNext (.ref it)) _ >>= _) _ _ _
  refine wpAny_bind (wpAny_tryCatch (wpAny_pyNext_list_item (A := X.A.in1) (i := 0) ⟨_, gI, rfl, rfl⟩ p'.isList (x := u') (by simpa using hu') fun h' st' sb => ?_))
  have I1 := I0.turned (h' := h') (t' := s.toks) (fun b o hb e => (sb.2 b hb).trans e) f0 f1 f3 f4 f5
  have gS1 : h'.get? S = some (seqObj "list" #[] 0) := (sb.2 S hSI).trans gS
  obtain ⟨oI, gI1, hoc, hod⟩ := id st'
  have I1p := I1.pinned (fp := [it, S]) (fun b hb => by
    rcases List.mem_cons.mp hb with rfl | hb
    · exact fI
    · rw [List.mem_singleton.mp hb]; exact fS) (fun b hb => by
    rcases List.mem_cons.mp hb with rfl | hb
    · exact ⟨oI, gI1, fun v z => by rw [hod] at z; cases z⟩
    · rw [List.mem_singleton.mp hb]; exact ⟨_, gS1, fun v z => by cases z⟩)
  show wpAny _ X.A.in1 (tryCatch (holding [u'] (call (.ref q) [u'])) _ >>= _) _ _ _
  refine wpAny_bind (wpAny_tryCatch (wpAny_holding (wpAny_mono (key_call F hr hb I1p ru' (hk 0 _ hx)) (fun x s2 he => ?_) fun _ _ hF => hF.elim)))
  obtain ⟨t2, rfl, I2p⟩ := he
  have I2 : Inv X pins σ H s2 := I2p.unpinned
  have gS2 : s2.heap.get? S = some (seqObj "list" #[] 0) := (I2p.pin _ (List.mem_append_right _ (List.mem_append_right _ (mem_pinsAt (b := S) (by simp) gS1)))).1
  have gI2 : s2.heap.get? it = some oI := (I2p.pin _ (List.mem_append_right _ (List.mem_append_right _ (mem_pinsAt (b := it) (by simp) gI1)))).1
  have s1 := Heap.SameBut.update s2.heap S (Obj.mapSeq fun _ => #[u', .int (k 0) t2])
  obtain ⟨c2, hc2⟩ : ∃ c2, (s2.heap.update S (Obj.mapSeq fun _ => #[u', .int (k 0) t2])).get? S = some (seqObj "list" #[u', .int (k 0) t2] c2) := ⟨_, get?_update_seq gS2 fun _ => #[u', .int (k 0) t2]⟩
  show wpAny _ X.A.in1 (updateSeq S (fun _ => #[u', .int (k 0) t2]) >>= _) _ _ _
  refine wpAny_bind ?_
  refine wpAny_updateSeq gS2 rfl ?_
  rw [hname]
  refine wpAny_pure ⟨plainId_quiet PySem.F.plain_max_loop _, max_loopI k F hr hb hh hs hSI fI fS hk (fun i v u s' h1 h2 h3 I' => ⟨v, H, I', h2, hQ i v h1 h3⟩) _ 0 0 _ xs[0] u' t2 c2 rfl hne (I2.turned (t' := s2.toks) (fun b o hb e => (s1.2 b hb).trans e) g0 g1 g3 g4 g5) hc2 ⟨oI, (s1.2 it hSI.symm).trans gI2, hoc, hod⟩ hx ru' (Nat.le_refl _) fun j' hj' => ?_⟩
  have e : j' = 0 := by omega
  subst e
  exact ⟨by omega, fun h => absurd h (Nat.lt_irrefl _)⟩
end
section
variable {X : Cx}
/-- {elt for target in iter if ..}, elt an int or a text: D the new set -/
def tScK (P : Program) (w : World) (wi : TI) (g : TG) (tt : TT) (te : TE) (vs : List Nat) : TE := fun σ H Q => wi σ H fun J H1 => ∀ D, H1 D = none → ∃ W : Nat → Nat → Hp → Prop, (∃ m, W 0 m (upd H1 D (SetK P w D (fun _ => false) 0))) ∧ ∀ i m H, W i m H →
  (J.stop i H ∧ Q (.ref D) H) ∨ (J.go i H ∧ ∃ Nx : Hp → Prop, (∀ H', Nx H' → ∃ m', m' < m ∧ W (i + 1) m' H') ∧ ∀ x H', J.yld i H x H' → g x (wipe σ vs) H' fun σ2 H2 => wipe σ2 vs = wipe σ vs ∧ tt σ2 H2 fun b H3 =>
    if b = true then te σ2 H3 fun y H4 => rSAddK P w (.ref D) [y] H4 fun _ H5 => Nx H5 else Nx H3)
theorem pe_scK {elt tg iter : Expr} {ifs : List Expr} {scope : Scope} {own : List (PySem.Str × Nat)} {pos : Pos} {wi : TI} {g : TG} {tt : TT} {te : TE} (hc : X.calm = true) (hN : X.N.Nodup) (hi : PI X tg iter wi) (ok : BlkOk X.N X.env.scope scope own)
    (hg : ∀ (s : Shared) (H : Hp) (C : Addr) (cl : List (PySem.Str × Addr)) (fp : List Addr), PG (X.blk s H scope (compEnvC scope cl C X.env) fp) tg g) (ht : ∀ (s : Shared) (H : Hp) (C : Addr) (cl : List (PySem.Str × Addr)) (fp : List Addr), PTs (X.blk s H scope (compEnvC scope cl C X.env) fp) ifs tt)
    (he : ∀ (s : Shared) (H : Hp) (C : Addr) (cl : List (PySem.Str × Addr)) (fp : List Addr), PE (X.blk s H scope (compEnvC scope cl C X.env) fp) elt te) (hs : ∀ x, foldedSetIterable iter X.env x = pure x := by intro _; rfl) :
    PE X (.SetComp elt [⟨tg, iter, ifs, 0⟩] scope pos) (tScK X.prog X.w wi g tt te (own.map (·.2))) := by
  refine ⟨fun pins s σ H Q I h => ?_⟩
  rw [PpSet.eval_SetComp]
  have cells : ∀ y ∈ scope.names, y.2 = .free → ∃ c, X.env.cells.lookup y.1 = some c := fun y hy e => by
    rcases ok.free y hy e with k | k
    · exact I.ok.has _ (.inl k)
    · exact I.ok.has _ (.inr k)
  refine wpAny_comprehension_free (use := none) rfl hs (closure_ok cells) ok.kind (fun y hy e => by rw [ok.uniq y hy, e]) (thn (hi.run pins s σ H _ I h) fun xv s1 hx => thn hx fun itv s2 h2 => ?_)
  obtain ⟨it, fp, tn, J, H2, e, I2, T, st2, f2, q⟩ := h2
  subst e
  refine PpSet.newSet_ok (newEnv_comp ?_)
  have hDn : H2 s2.heap.objs.size = none := I2.hok.fresh (Nat.le_refl _)
  obtain ⟨W, ⟨m0, w0⟩, turn⟩ := q _ hDn
  -- behind the set's making
  obtain ⟨s3, hs3⟩ : ∃ s3 : Shared, s3 = { s2 with heap := s2.heap.push { cls := .type "set", dict := none, data := .set #[] 0 (.fresh 0 0 (!X.w.params.followText "set-order")) } } := ⟨_, rfl⟩
  have h3 : s3.heap = s2.heap.push { cls := .type "set", dict := none, data := .set #[] 0 (.fresh 0 0 (!X.w.params.followText "set-order")) } := by rw [hs3]
  have new : s3.heap.SetOf (mixKind X.prog X.w) s2.heap.objs.size (fun _ => false) 0 := by
    rw [h3]
    exact ⟨_, #[], 0, _, Heap.get?_push_size _ rfl, ⟨rfl, rfl, rfl⟩, rfl, (fun e he => by simp at he), (fun k => by simp), (by decide), (by rfl), rfl⟩
  have I3 : Inv X pins σ (upd H2 s2.heap.objs.size (SetK X.prog X.w s2.heap.objs.size (fun _ => false) 0)) s3 := by
    have z := I2.laid (a := s2.heap.objs.size) (o := SetK X.prog X.w s2.heap.objs.size (fun _ => false) 0) (t' := s2.toks) (h' := s3.heap) (fun b o e => by rw [h3]; exact Heap.get?_push_of_some _ e) (Nat.le_refl _) (setK_new new)
    rw [hs3] at z ⊢
    exact z
  rw [← hs3]
  generalize hH3 : upd H2 s2.heap.objs.size (SetK X.prog X.w s2.heap.objs.size (fun _ => false) 0) = H3 at w0 I3
  have sz : ∀ b ∈ fp, b < s2.heap.objs.size := fun b hb => let ⟨_, e, _⟩ := T.obj _ _ st2 b hb; Heap.lt_size e
  have f3 : ∀ b ∈ fp, FpOk X pins H3 b ∧ b < s3.heap.objs.size := fun b hb => by
    refine ⟨⟨?_, (f2 b hb).2⟩, by rw [h3, Heap.size_push]; exact Nat.lt_succ_of_lt (sz b hb)⟩
    rw [← hH3, upd_ne (Nat.ne_of_lt (sz b hb))]
    exact (f2 b hb).1
  have st3 : tn 0 s3.heap := T.keep _ _ _ st2 fun b _ o e => by rw [h3]; exact Heap.get?_push_of_some _ e
  generalize s2.heap.objs.size = D at *
  have I4 := block_start I3 ok hN f3
  -- the block's own context
  obtain ⟨ce, hce⟩ : ∃ ce, ce = compEnvC scope (cellsFrom (s3.heap.objs.size + 1) scope.names (cloFrom X.env.cells scope.names [])) s3.heap.objs.size X.env := ⟨_, rfl⟩
  have pg := hg s3 H3 s3.heap.objs.size (cellsFrom (s3.heap.objs.size + 1) scope.names (cloFrom X.env.cells scope.names [])) fp
  have pt := ht s3 H3 s3.heap.objs.size (cellsFrom (s3.heap.objs.size + 1) scope.names (cloFrom X.env.cells scope.names [])) fp
  have pe := he s3 H3 s3.heap.objs.size (cellsFrom (s3.heap.objs.size + 1) scope.names (cloFrom X.env.cells scope.names [])) fp
  rw [← hce] at I4 pg pt pe
  have cL : ce.locals = s3.heap.objs.size := by rw [hce]; rfl
  obtain ⟨s4, hs4⟩ : ∃ s4 : Shared, s4 = { s3 with heap := pushCells (s3.heap.push { cls := .type "dict", data := .dict #[] }) scope.names } := ⟨_, rfl⟩
  rw [← hs4] at I4
  have st4 : tn 0 s4.heap := T.keep _ _ _ st3 fun b _ o e => by rw [hs4]; exact pushCells_keeps _ _ _ _ (Heap.get?_push_of_some _ e)
  have stat : ∀ {σ' : L2.St} {H' : Hp} {s' : Shared}, Inv (X.blk s3 H3 scope ce fp) [] σ' H' s' → (∀ b ∈ fp, H' b = none) → ∀ b ∈ fp, FpOk (X.blk s3 H3 scope ce fp) [] H' b := fun I' hn b hb =>
    ⟨hn b hb, (I'.ok.exf b hb).1, I'.ok.exfs b hb, .inl hb, fun x c e => (I'.ok.exf b hb).2 x c e, fun p hp => absurd (show p ∈ ([] : List (Addr × Obj)) ++ [] from hp) (by simp)⟩
  have post : ∀ s' m H', Inv X pins σ H' s' → Q (.ref D) H' → s'.heap.Ns s3.heap.objs.size m → FpOk X pins H' s3.heap.objs.size → compPost (model X.prog X.w) X.A X.xe none (EP X pins σ Q) (.ref D) s3.heap.objs.size (.ok .next) s' := fun s' m H' I' q hn f => by
    obtain ⟨f0, f1, f2, f3, f4, f5⟩ := f
    exact ⟨m, hn, fun h'' sb => ⟨.ref D, H', I'.turned (t' := s'.toks) (fun b o hb e => (sb.2 b hb).trans e) f0 f1 f3 f4 f5, rfl, q⟩⟩
  have loop : codeAny (model X.prog X.w) X.A (.compLoop (.SetComp elt [⟨tg, iter, ifs, 0⟩] scope pos) 0 (.ref it) (.ref D) ce) (compPost (model X.prog X.w) X.A X.xe none (EP X pins σ Q) (.ref D) s3.heap.objs.size) s4 := by
    refine PpSet.compLoopS_any (fun n s' => ∃ i H', Inv (X.blk s3 H3 scope ce fp) [] (wipe σ (own.map (·.2))) H' s' ∧ tn i s'.heap ∧ (∀ b ∈ fp, H' b = none) ∧ W i n H') ?_ m0 ⟨0, H3, I4, st4, fun b hb => (f3 b hb).1.1, w0⟩
    rintro n s5 ⟨i, H5, I5, st5, n5, w5⟩
    rcases turn i n H5 w5 with ⟨stop, qq⟩ | ⟨go, Nx, hNx, step⟩
    · refine thnF (T.done (X.blk s3 H3 scope ce fp) rfl rfl rfl hc i [] s5 _ H5 (fun _ _ => False) I5 (stat I5 n5) st5 stop) fun r s6 ⟨hr, I6⟩ => ?_
      subst hr
      have I7 : Inv X pins σ H5 s6 := I3.call' (ch := fp) I6.os I6.base I6.hok I6.bare fun b hb => ⟨(f3 b hb).1.2.2.2.1, (f3 b hb).1.2.1, (f3 b hb).1.2.2.2.2.1, (f3 b hb).1.2.2.2.2.2⟩
      have nC : H5 s3.heap.objs.size = none := cL ▸ (show H5 ce.locals = none from I6.free)
      obtain ⟨m, hn, _⟩ := I6.loc
      have hn : s6.heap.Ns s3.heap.objs.size m := cL ▸ (show s6.heap.Ns ce.locals m from hn)
      exact post s6 m H5 I7 qq hn (I3.fpOk (Nat.le_refl _) nC)
    · refine thnF (T.item (X.blk s3 H3 scope ce fp) rfl rfl rfl hc i [] s5 _ H5 (fun _ _ => False) I5 (stat I5 n5) st5 go) fun r s6 ⟨u, hr, h6⟩ => ?_
      subst hr
      refine thnF h6 fun _ s7 ⟨x, H7, I7, r7, y7, st7, n7⟩ => ?_
      refine thnF (pg.run _ s7 _ H7 x u _ (I7.pinned (stat I7 n7) (T.obj _ _ st7)) r7 (step x H7 y7)) fun _ s8 ⟨σ8, H8, I8, hw8, q8⟩ => ?_
      refine thnF (pt.run _ s8 σ8 H8 _ I8 q8) fun b s9 ⟨H9, I9, q9⟩ => ?_
      have fin : ∀ {s' : Shared} {H' : Hp}, Inv (X.blk s3 H3 scope ce fp) ([] ++ pinsAt fp s7.heap) σ8 H' s' → Nx H' → ∃ m, m < n ∧ ∃ i H', Inv (X.blk s3 H3 scope ce fp) [] (wipe σ (own.map (·.2))) H' s' ∧ tn i s'.heap ∧ (∀ b ∈ fp, H' b = none) ∧ W i m H' := fun {s' H'} I' nx => by
        obtain ⟨m', hm, w'⟩ := hNx H' nx
        have pin' : ∀ b ∈ fp, ∀ o, s7.heap.get? b = some o → s'.heap.get? b = some o ∧ H' b = none := fun b hb o e =>
          let z := I'.pin (b, o) (List.mem_append_right _ (List.mem_append_right _ (mem_pinsAt hb e)))
          ⟨z.1, z.2.1⟩
        have hl : (wipe σ (own.map (·.2))).length = σ8.length := by rw [← hw8, wipe_length]
        refine ⟨m', hm, i + 1, H', (I'.unpinned (pins := [])).weak hl (fun j v e => (wipe_some (by rw [← hw8] at e; exact e)).1), T.keep _ _ _ st7 fun b hb o e => (pin' b hb o e).1, fun b hb => ?_, w'⟩
        obtain ⟨o, e, _⟩ := T.obj _ _ st7 b hb
        exact (pin' b hb o e).2
      cases b with
      | false =>
        simp only [Bool.false_eq_true, if_false] at q9 ⊢
        exact fin I9 q9
      | true =>
        simp only [if_true] at q9 ⊢
        refine thnF (pe.run _ s9 σ8 H9 _ I9 q9) fun z s10 ⟨yv, H10, I10, r10, q10⟩ => ?_
        exact thn (mt_saddK (X := (X.blk s3 H3 scope ce fp).wish _) _ s10 σ8 H10 (.ref D) [yv] (.ref D) [z] _ (I10.wish _) rfl (.cons r10 .nil) q10) fun _ s11 ⟨_, H11, I11, _, nx⟩ => fin I11.unwish nx
  show codeAny _ _ (.compStart (.SetComp elt [⟨tg, iter, ifs, 0⟩] scope pos) 0 (.ref it) (.ref D) (compEnvC scope (cellsFrom (s3.heap.objs.size + 1) scope.names (cloFrom X.env.cells scope.names [])) s3.heap.objs.size X.env)) (compPost (model X.prog X.w) X.A X.xe none (EP X pins σ Q) (.ref D) s3.heap.objs.size) { s3 with heap := pushCells (s3.heap.push { cls := .type "dict", data := .dict #[] }) scope.names }
  rw [← hce, ← hs4]
  exact PpSet.codeAny_compStart_set loop (T.self X.A 0 _ _ _ st4 loop)
/-- len of such a set -/
theorem call_len_setK : CallR X (.builtin "len") (fun xs H Q => ∃ (a : Addr) (S : Key → Bool) (n : Nat), xs = [.ref a] ∧ H a = some (SetK X.prog X.w a S n) ∧ Q (.int n) H) := by
  intro pins s σ H xs us Q I rxs h
  obtain ⟨a, S, n, rfl, ha, q⟩ := h
  obtain rfl := Vals.ref1 rxs
  have R := setK_get I ha
  obtain ⟨o, es, ep, t, ho, hex, hd, _, _, hlt, hf, hn⟩ := R
  have hb : scanBound < 2 ^ 63 := by decide
  refine call_len_set ho hex hd hf (by omega) ⟨.int n, H, ?_, ⟨_, by rw [hn]⟩, q⟩
  exact I.tok _
end
/-! ### methods and defs called by keywords -/
section
variable {K : PySem.W.Frag} {x qual : Str} {params : Arguments} {body : List Stmt} {scope : Scope} {kws : List (Str × V)} {f : Addr} {fd : FuncData} {ps : List Str}
/-- f(e, .., k = v, ..) of a def whose only defaults are keyword-only ones: n positional values, keywords named ks, ms the ones that lack -/
theorem kbinds0 (F : FunD K x qual params body scope [] kws f fd) (n : Nat) (ks : List Str) (ms : List (Str × V)) (g : {α : Type} → List α → List α → List α → List α) (hk : kws ≠ []) (hms : ∀ q ∈ ms, q ∈ kws)
    (hrel : ∀ {vs mz zs : List V} {us mv ws : List Value}, Vals vs us → Vals mz mv → Vals zs ws → Vals (g vs mz zs) (g us mv ws))
    (h : ∀ (D : Addr) (doc pm : Value) (an : Option Addr) (cdv ct : Value) (us mv ws : List Value), us.length = n → mv.length = ms.length → ws.length = ks.length →
      KwChain D ((ms.map (·.1)).zip mv) (bindArgs (PySem.W.fnOf x qual params body scope .none (.ref D) doc pm an cdv ct) ⟨us, ks.zip ws⟩) (ps.zip (g us mv ws))) :
    ∃ mv : List Value, KBn K fd ps n ks (fun us ws => g us mv ws) (fun vs zs => g vs (ms.map (·.2)) zs) := by
  obtain ⟨oc, od, dV, kV, doc, pm, an, cdv, ct, osl, rfl, lk, hcd, hD, hK⟩ := F.ex
  rcases hD with ⟨_, rfl⟩ | ⟨e, _⟩
  · rcases hK with e | ⟨D, rfl, hq⟩
    · exact absurd e hk
    · obtain ⟨mv, hl, rk, hks⟩ := kwd_vals (ms := ms) fun q hm => hq q (hms q hm)
      exact ⟨mv, ⟨fun s us ws X l1 l2 => BindsTo.of_looks fun M => KwChain.looks X hks (h D doc pm an cdv ct us mv ws l1 hl l2), fun r1 r2 => hrel r1 rk r2⟩⟩
  · exact absurd rfl e
end
section
variable {X : Cx} {CX : CXT} {k n : Nat} {f C : Addr} {fd : FuncData} {ps ks : List Str} {sp : Sp} {E : XK} {m : Str} {pos apos : Pos} {o e : Expr} {es : List Expr} {kws : List Keyword} {to : TE} {t tk : TA} {g : List Value → List Value → List Value} {gV : List V → List V → List V}
/-- o.m(e, .., k = v, ..) -/
def tMethN (C : Addr) (m : Str) (n j : Nat) (sp : Sp) (gV : List V → List V → List V) (E : XK) (to : TE) (t tk : TA) : TE := fun σ H Q => to σ H fun x H1 => ∃ a dx fs, x = .ref a ∧ H1 a = some (.ins C dx fs) ∧ fs.lookup m = none ∧
  t σ H1 fun vs H2 => tk σ H2 fun zs H3 => vs.length = n ∧ zs.length = j ∧ sp (gV (x :: vs) zs) H3 Q E
theorem pe_methN {pl : Sem Bool} (ho : PE X o to) (c : Cls X.K C) (hm : Meth X.K C m f) (F : FnOk X.prog X.w X.K X.mg X.base CX k f fd ps sp) (hr : Room k X.A) (hb : KBn X.K fd ps (n + 1) ks g gV) (hx : Passes CX X E)
    (ha : PA X (e :: es) t) (hkw : PK X kws tk) (hall : (backToKw pos (keywordEach kws X.env)).all (·.1.isSome) = true := by rfl) (hks : (backToKw pos (keywordEach kws X.env)).filterMap (·.1) = ks := by rfl)
    (he : starEach (e :: es) X.env = (false, eval e X.env) :: starEach es X.env := by rfl)
    (hpl : ((backTo pos (starEach (e :: es) X.env)).any (·.1) || (backToKw pos (keywordEach kws X.env)).any (·.1.isNone)) = false := by rfl)
    (ht : eval (.Call (.Attribute o m apos) (e :: es) kws pos) X.env = (do
      let ov ← eval o X.env
      standAt apos.atName
      let (f, first) ← holding [ov] (getMethod ov m pl)
      callWith pos f first (backTo pos (starEach (e :: es) X.env)) (backToKw pos (keywordEach kws X.env))) := by rfl) :
    PE X (.Call (.Attribute o m apos) (e :: es) kws pos) (tMethN C m n ks.length sp gV E to t tk) := by
  refine ⟨fun pins s σ H Q I h => ?_⟩
  refine PySem.W.methodCall_KW (pl := pl) (thn (ho.run pins s σ H _ I h) fun u s1 ⟨x, H1, I1, rx, a, dx, fs, ex, ea, l, q⟩ => ?_) ht
  subst ex
  obtain rfl : u = Value.ref a := rx
  refine getmeth_ok I1 ea c hm l ?_
  refine PySem.W.callWith_KW (first := [.ref a]) (h₀ := X.base) I.ok.mod.kin hm.kp hall (thn (ha.run pos pins s1 σ H1 _ I1 q) fun us s2 ⟨vs, H2, I2, r, q2⟩ => ?_) hpl he
  refine thn (hkw.run pos pins s2 σ H2 _ I2 q2) fun ws s3 ⟨zs, H3, I3, rz, l1, l2, q3⟩ => ⟨I3.kIn, ?_⟩
  rw [hks]
  exact run_fnN (us := .ref a :: us) (vs := .ref a :: vs) F hr hb hx I3 (.cons rfl r) rz (congrArg Nat.succ l1) l2 q3
/-- o.m(k = v, ..) -/
theorem pe_methN0 {pl : Sem Bool} (ho : PE X o to) (c : Cls X.K C) (hm : Meth X.K C m f) (F : FnOk X.prog X.w X.K X.mg X.base CX k f fd ps sp) (hr : Room k X.A) (hb : KBn X.K fd ps 1 ks g gV) (hx : Passes CX X E)
    (hkw : PK X kws tk) (hall : (backToKw pos (keywordEach kws X.env)).all (·.1.isSome) = true := by rfl) (hks : (backToKw pos (keywordEach kws X.env)).filterMap (·.1) = ks := by rfl)
    (hpl : ((backTo pos (starEach [] X.env)).any (·.1) || (backToKw pos (keywordEach kws X.env)).any (·.1.isNone)) = false := by rfl)
    (ht : eval (.Call (.Attribute o m apos) [] kws pos) X.env = (do
      let ov ← eval o X.env
      standAt apos.atName
      let (f, first) ← holding [ov] (getMethod ov m pl)
      callWith pos f first (backTo pos (starEach [] X.env)) (backToKw pos (keywordEach kws X.env))) := by rfl) :
    PE X (.Call (.Attribute o m apos) [] kws pos) (tMethN C m 0 ks.length sp gV E to tNil tk) := by
  refine ⟨fun pins s σ H Q I h => ?_⟩
  refine PySem.W.methodCall_KW (pl := pl) (thn (ho.run pins s σ H _ I h) fun u s1 ⟨x, H1, I1, rx, a, dx, fs, ex, ea, l, q⟩ => ?_) ht
  subst ex
  obtain rfl : u = Value.ref a := rx
  refine getmeth_ok I1 ea c hm l ?_
  refine PySem.W.callWith_KW0 (first := [.ref a]) (h₀ := X.base) I.ok.mod.kin hm.kp hall (thn (hkw.run pos pins s1 σ H1 _ I1 q) fun ws s3 ⟨zs, H3, I3, rz, l1, l2, q3⟩ => ⟨I3.kIn, ?_⟩) hpl
  rw [hks]
  exact run_fnN (us := [.ref a]) (vs := [.ref a]) F hr hb hx I3 (.cons rfl .nil) rz rfl l2 q3
end
/-! ### xs == [], xs != [] for a list of anything -/
section
variable {X : Cx}
def rNil (K : PySem.W.Frag) (neg : Bool) : R2 := fun x y H Q => ∃ p q xs, x = .ref p ∧ y = .ref q ∧ SqL K H p xs ∧ SqL K H q [] ∧ Q (.bl (if neg then !xs.isEmpty else xs.isEmpty)) H
theorem op_neNil (hu : X.A.units < cLine) : OpR X (compareOp .NotEq) (rNil X.K true) := by
  intro pins s σ H x y v u Q I rx ry h
  obtain ⟨p, q, xs, rfl, rfl, hp, hq, k⟩ := h
  cases rx
  cases ry
  obtain ⟨its, r, pl, _⟩ := I.list hp
  obtain ⟨its2, r2, pl2, _⟩ := I.list hq
  cases r2
  show wpAny _ _ (richCompare .NotEq (.ref p) (.ref q)) _ _ _
  cases xs with
  | nil =>
    cases r
    exact SeqAt.RcNeAt.lists (e := fun _ => true) pl.isList pl2.isList rfl hu (fun j h1 _ => absurd h1 (Nat.not_lt_zero j)) _ _ _ _ ⟨.bl false, H, I, rfl, k⟩
  | cons x xs =>
    obtain ⟨u, r0, rfl, _, _⟩ := vals_cons r
    exact SeqAt.RcNeAt.lists_lengths pl.isList pl2.isList (by simp) hu _ _ _ _ ⟨.bl true, H, I, rfl, k⟩
theorem op_eqNil (hu : X.A.units < cLine) : OpR X (compareOp .Eq) (rNil X.K false) := by
  intro pins s σ H x y v u Q I rx ry h
  obtain ⟨p, q, xs, rfl, rfl, hp, hq, k⟩ := h
  cases rx
  cases ry
  obtain ⟨its, r, pl, _⟩ := I.list hp
  obtain ⟨its2, r2, pl2, _⟩ := I.list hq
  cases r2
  show wpAny _ _ (richCompare .Eq (.ref p) (.ref q)) _ _ _
  cases xs with
  | nil =>
    cases r
    exact SeqAt.RcAt.lists (e := fun _ => true) pl.isList pl2.isList rfl hu (fun j h1 _ => absurd h1 (Nat.not_lt_zero j)) _ _ _ _ ⟨.bl true, H, I, rfl, k⟩
  | cons x xs =>
    obtain ⟨u, r0, rfl, _, _⟩ := vals_cons r
    exact SeqAt.RcAt.lists_lengths pl.isList pl2.isList (by simp) hu _ _ _ _ ⟨.bl false, H, I, rfl, k⟩
/-- t == () for a tuple of anything -/
def rNilT (K : PySem.W.Frag) : R2 := fun x y H Q => ∃ p q xs, x = .ref p ∧ y = .ref q ∧ SqT K H p xs ∧ SqT K H q [] ∧ Q (.bl xs.isEmpty) H
theorem op_eqNilT (hu : X.A.units < cLine) : OpR X (compareOp .Eq) (rNilT X.K) := by
  intro pins s σ H x y v u Q I rx ry h
  obtain ⟨p, q, xs, rfl, rfl, hp, hq, k⟩ := h
  cases rx
  cases ry
  obtain ⟨its, r, pl, _⟩ := I.tuple hp
  obtain ⟨its2, r2, pl2, _⟩ := I.tuple hq
  cases r2
  show wpAny _ _ (richCompare .Eq (.ref p) (.ref q)) _ _ _
  have e : ((List.range (min its.toArray.size ([] : List Value).toArray.size)).all (fun _ => true) && its.toArray.size == ([] : List Value).toArray.size) = xs.isEmpty := by
    have l := r.length
    cases xs with
    | nil =>
      cases r
      rfl
    | cons a b =>
      obtain ⟨u, r0, rfl, _, _⟩ := vals_cons r
      simp
  have z := SeqAt.RcAt.tuples (A := X.A) (e := fun _ => true) pl pl2 hu (fun j h1 h2 => absurd h2 (Nat.not_lt_zero j))
  rw [e] at z
  exact z _ _ _ _ ⟨.bl _, H, I, rfl, k⟩
end
/-! ### the same rules, the written part by its own name (for a comprehension's block) -/
section
variable {X : Cx} {K : PySem.W.Frag}
theorem pe_fldK {o : Expr} {f : Str} {pos : Pos} {ta : TE} (hK : X.K = K) (ha : PE X o ta) (hb : attributeBase o f X.env (eval o X.env) = eval o X.env := by rfl) : PE X (.Attribute o f pos) (tFld K ta f) := hK ▸ pe_fld ha hb
theorem ix_listK (hK : X.K = K) : IxR X (rIxL K) := hK ▸ ix_list
theorem ix_tupK (hK : X.K = K) : IxR X (rIxT K) := hK ▸ ix_tup
theorem op_inK (hK : X.K = K) : OpR X (compareOp .In) (rIn K false) := hK ▸ op_in_seq
theorem op_notInK (hK : X.K = K) : OpR X (compareOp .NotIn) (rIn K true) := hK ▸ op_notIn_seq
theorem call_lenK (hK : X.K = K) : CallR X (.builtin "len") (fun xs H Q => ∃ p ys, xs = [.ref p] ∧ (SqL K H p ys ∨ SqT K H p ys) ∧ Q (.int ys.length) H) := hK ▸ call_len_seq
theorem call_isiK1 (hK : X.K = K) : CallR X (.builtin "isinstance") (rIsi K) := hK ▸ call_isi
theorem call_isiTK (hK : X.K = K) : CallR X (.builtin "isinstance") (rIsiT K) := hK ▸ call_isiT
theorem cr_allK (hc : X.calm = true) (hK : X.K = K) : CallR X (.builtin "all") (rAll K) := hK ▸ cr_all hc
theorem cr_anyK (hc : X.calm = true) (hK : X.K = K) : CallR X (.builtin "any") (rAny K) := hK ▸ cr_any hc
theorem cr_sumK (hc : X.calm = true) (hK : X.K = K) : CallR X (.builtin "sum") (rSum K) := hK ▸ cr_sum hc
theorem cr_maxK (hc : X.calm = true) (hK : X.K = K) : CallR X (.builtin "max") (rMax K) := hK ▸ cr_max hc
theorem sl_listK (hK : X.K = K) : SlR X (rSlL K) := hK ▸ sl_list
theorem sl_tupK (hK : X.K = K) : SlR X (rSlT K) := hK ▸ sl_tup
theorem op_catTK (hK : X.K = K) : OpR X (binaryOp .Add) (rCatT K) := hK ▸ op_catT
theorem call_listK (hK : X.K = K) : CallR X (.type "list") (fun xs H Q => ∃ p ys, xs = [.ref p] ∧ (SqL K H p ys ∨ SqT K H p ys) ∧ ∀ l, H l = none → Q (.ref l) (upd H l (.lst ys))) := hK ▸ call_list_of
theorem call_tupleK (hK : X.K = K) : CallR X (.type "tuple") (fun xs H Q => ∃ p ys, xs = [.ref p] ∧ ((SqL K H p ys ∧ ∀ l, H l = none → Q (.ref l) (upd H l (.tup ys))) ∨ (SqT K H p ys ∧ Q (.ref p) H))) := hK ▸ call_tuple_of
theorem op_eqDK (hu : X.A.units + 64 < cLine) (hK : X.K = K) : OpR X (compareOp .Eq) (rEqD K) := hK ▸ op_eqD hu
theorem op_neDK (hu : X.A.units + 64 < cLine) (hK : X.K = K) : OpR X (compareOp .NotEq) (rNeD K) := hK ▸ op_neD hu
theorem op_eqNilK (hu : X.A.units < cLine) (hK : X.K = K) : OpR X (compareOp .Eq) (rNil K false) := hK ▸ op_eqNil hu
theorem op_neNilK (hu : X.A.units < cLine) (hK : X.K = K) : OpR X (compareOp .NotEq) (rNil K true) := hK ▸ op_neNil hu
theorem op_eqNilTK (hu : X.A.units < cLine) (hK : X.K = K) : OpR X (compareOp .Eq) (rNilT K) := hK ▸ op_eqNilT hu
theorem pi_listK {tg l : Expr} {tl : TE} (hK : X.K = K) (h : PE X l tl) : PI X tg l (iList K tl) := hK ▸ pi_list h
theorem pi_tupK {tg l : Expr} {tl : TE} (hK : X.K = K) (h : PE X l tl) : PI X tg l (iTup K tl) := hK ▸ pi_tup h
theorem pg_tupK {es : List Expr} {k : Nat} {t : TGs} {n : Nat} {pos : Pos} (hc : X.calm = true) (hK : X.K = K) (h : PGs X es t)
    (hn : (assignEach es X.env).length = n := by rfl) (hst : (assignEach es X.env).findIdx? (·.1) = none := by rfl) : PG X (.Tuple es k pos) (gTup K n t) := hK ▸ pg_tup hc h hn hst
theorem pg_fldK {o : Expr} {f : Str} {pos : Pos} {ta : TE} (hK : X.K = K) (ha : PE X o ta) : PG X (.Attribute o f pos) (gFld K ta f) := hK ▸ pg_fld ha
theorem pg_starK {es : List Expr} {k : Nat} {t : TGs} {pos : Pos} (hc : X.calm = true) (hK : X.K = K) (h : PGs X es t)
    (hn : (assignEach es X.env).length = 2 := by rfl) (hst : (assignEach es X.env).findIdx? (·.1) = some 1 := by rfl) : PG X (.Tuple es k pos) (gStar K t) := hK ▸ pg_star hc h hn hst
theorem get_listK (hK : X.K = K) : PGet X (gGetL K) := hK ▸ get_list
theorem ps_fldK {o value : Expr} {f : Str} {pos pos' : Pos} {ta tv : TE} (hK : X.K = K) (ha : PE X o ta) (hv : PE X value tv) (hs : swapsWith value (some (.Attribute o f pos')) pos.line X.env = pure false := by rfl) : PS X (.Assign [.Attribute o f pos'] value pos) (sFld K ta tv f) := hK ▸ ps_fld ha hv hs
theorem ps_fldaugK {o value : Expr} {f : Str} {pos tpos : Pos} {ta tv : TE} {op : Operator} {rd : V → V → Hp → VK → Prop} (hK : X.K = K) (ha : PE X o ta) (hv : PE X value tv) (hop : InOp X op rd) : PS X (.AugAssign (.Attribute o f tpos) op value pos) (sFldAug K ta tv rd f) := hK ▸ ps_fldaug ha hv hop
end
theorem hu0 {A : Around} {k : Nat} (hr : Room k A) : A.units < cLine := by
  have := hr.un
  omega
end KR
end
section
set_option Elab.async false
set_option linter.all false
set_option autoImplicit false
set_option maxRecDepth 100000
set_option maxHeartbeats 2000000
/-! try .. finally: bodies that run through, bodies that end by a return; methods called there -/
namespace KW
open PySem PySem.Spec PyProof.Rows L2
/-- a block that ends by a return: R tells what is wished of the value, at the slots as they stand -/
structure PR (X : Cx) (sts : List Stmt) (t : (V → L2.St → Hp → Prop) → L2.St → Hp → Prop) : Prop where
  run : ∀ (pins : List (Addr × Obj)) (s : Shared) (σ : L2.St) (H : Hp) (R : V → L2.St → Hp → Prop), Inv X pins σ H s → t R σ H →
    wpAny (model X.prog X.w) X.A (execs sts X.env) (fun g s' => match g with | .ret u => ∃ v σ' H', Inv X pins σ' H' s' ∧ RelV v u ∧ R v σ' H' | _ => False) X.xe s
section
variable {X : Cx} {st : Stmt} {rest : List Stmt} {t : TS} {u : (V → L2.St → Hp → Prop) → L2.St → Hp → Prop} {e : Expr} {te : TE} {rp : Pos}
theorem pr_cons (h1 : PS X st t) (h2 : PR X rest u) : PR X (st :: rest) (fun R σ H => t { nx := fun σ1 H1 => u R σ1 H1, rt := fun _ _ => False, bk := fun _ _ => False, ct := fun _ _ => False } σ H) := by
  refine ⟨fun pins s σ H R I h => ?_⟩
  refine wpAny_execs_cons (thn (h1.run pins s σ H _ I h) fun f s1 q => ?_)
  cases f with
  | next =>
    obtain ⟨σ', H', I', q⟩ := q
    exact h2.run pins s1 σ' H' R I' q
  | ret v =>
    obtain ⟨_, _, _, _, _, q⟩ := q
    exact False.elim q
  | brk =>
    obtain ⟨_, _, _, q⟩ := q
    exact False.elim q
  | cont =>
    obtain ⟨_, _, _, q⟩ := q
    exact False.elim q
theorem pr_ret (he : PE X e te) : PR X [.Return (some e) rp] (fun R σ H => te σ H fun v H1 => R v σ H1) := by
  refine ⟨fun pins s σ H R I h => ?_⟩
  refine wpAny_execs_cons (wpAny_Return_some (thn (he.run pins s σ H _ I h) fun v s1 z => ?_))
  obtain ⟨x, H1, I1, r1, q1⟩ := z
  exact ⟨x, σ, H1, I1, r1, q1⟩
end
/-- try: body finally: suite, the body run through or raising -/
def tFinN (tb : WX → TS) (tf tfs : TS) (Wout : WX) : TS := fun D σ H => tb (wFin tfs Wout) { nx := fun σ1 H1 => tf D σ1 H1, rt := fun _ _ => False } σ H
/-- .. the body ended by a return -/
def tFinR (tb : WX → (V → L2.St → Hp → Prop) → L2.St → Hp → Prop) (tf tfs : TS) (Wout : WX) : TS := fun D σ H => tb (wFin tfs Wout) (fun v σ1 H1 => tf { D with nx := fun _ H2 => D.rt v H2 } σ1 H1) σ H
section
variable {X : Cx} {body : List Stmt} {f₀ : Stmt} {fs : List Stmt} {pos : Pos} {tf tfs : TS} {Wout : WX}
theorem ps_finN {tb : WX → TS} (hs : X.stack = X.env :: X.outer) (hf : X.env.frame = some X.env.locals) (hex : X.ex = []) (tk : Takes X Wout)
    (hb : ∀ (W : WX) (pn : List (Addr × Obj)) (xe : Value → Shared → Prop), Takes (X.tr pn xe) W → PassesOwn (model X.prog X.w) X.A X.env xe → PSs (X.tr pn xe) body (tb W))
    (hfin : PSs X.nox (f₀ :: fs) tf) (hsu : ∀ (a : Addr) (pn : List (Addr × Obj)), PSs (X.suite a pn) (f₀ :: fs) tfs) : PS X (.Try body [] [] (f₀ :: fs) pos) (tFinN tb tf tfs Wout) := by
  refine ⟨fun pins s σ H D I h => ?_⟩
  have ok := I.ok
  refine wpAny_Try_finally (wpAny_mono ((hb (wFin tfs Wout) (X.pn ++ pins) _ (fun u s' xx => fin_exc hs hf hex ok tk hsu xx) PassesOwn.looking).run [] s σ H { nx := fun σ1 H1 => tf D σ1 H1, rt := fun _ _ => False } (I.toTry _) h) (fun g s1 z => ?_) (fun x s1 hx => hx))
  cases g with
  | ret u =>
    obtain ⟨_, _, _, _, _, q⟩ := z
    exact False.elim q
  | brk =>
    obtain ⟨_, _, _, q⟩ := z
    exact False.elim q
  | cont =>
    obtain ⟨_, _, _, q⟩ := z
    exact False.elim q
  | next =>
    obtain ⟨σ1, H1, J1, q1⟩ := z
    refine wpAny_execs_nil (wpAny_mono (hfin.run pins s1 σ1 H1 D ((J1.ofTry ok).wish _) q1) (fun g2 s2 q2 => ?_) fun _ _ e => False.elim e)
    have q3 : SP X pins D g2 s2 := q2.unwish
    cases g2 <;> exact q3
theorem ps_finR {tb : WX → (V → L2.St → Hp → Prop) → L2.St → Hp → Prop} (hs : X.stack = X.env :: X.outer) (hf : X.env.frame = some X.env.locals) (hex : X.ex = []) (tk : Takes X Wout)
    (hb : ∀ (W : WX) (pn : List (Addr × Obj)) (xe : Value → Shared → Prop), Takes (X.tr pn xe) W → PassesOwn (model X.prog X.w) X.A X.env xe → PR (X.tr pn xe) body (tb W))
    (hfin : PSs X.nox (f₀ :: fs) tf) (hsu : ∀ (a : Addr) (pn : List (Addr × Obj)), PSs (X.suite a pn) (f₀ :: fs) tfs) : PS X (.Try body [] [] (f₀ :: fs) pos) (tFinR tb tf tfs Wout) := by
  refine ⟨fun pins s σ H D I h => ?_⟩
  have ok := I.ok
  refine wpAny_Try_finally (wpAny_mono ((hb (wFin tfs Wout) (X.pn ++ pins) _ (fun u s' xx => fin_exc hs hf hex ok tk hsu xx) PassesOwn.looking).run [] s σ H _ (I.toTry _) h) (fun g s1 z => ?_) (fun x s1 hx => hx))
  cases g with
  | ret u =>
    obtain ⟨v, σ1, H1, J1, r1, q1⟩ := z
    exact fin_ret hfin (J1.ofTry ok) r1 q1
  | brk => exact False.elim z
  | cont => exact False.elim z
  | next => exact False.elim z
end
/-- o.m(e, ..), what it raises being wished for at the slots as they stand -/
def tMethAt (C : Addr) (m : Str) (sp : Sp) (E : L2.St → XK) (ta : TE) (t : TA) : TE := fun σ H Q => ta σ H fun x H1 => ∃ a dx fs, x = .ref a ∧ H1 a = some (.ins C dx fs) ∧ fs.lookup m = none ∧ t σ H1 fun vs H2 => sp (x :: vs) H2 Q (E σ)
theorem pe_methAt {X : Cx} {CX : CXT} {k : Nat} {f C : Addr} {fd : FuncData} {ps : List Str} {sp : Sp} {E : L2.St → XK} {m : Str} {pos apos : Pos} {e o : Expr} {es : List Expr} {ta : TE} {t : TA} {pl : Sem Bool} (he : PE X o ta) (c : Cls X.K C) (hm : Meth X.K C m f)
    (F : FnOk X.prog X.w X.K X.mg X.base CX k f fd ps sp) (hr : Room k X.A) (hb : Binds X.K fd ps []) (hx : ∀ σ, PassesAt CX X σ (E σ)) (ha : PA X (e :: es) t)
    (hst : starEach (e :: es) X.env = (false, eval e X.env) :: starEach es X.env := by rfl) (hpl : (backTo pos (starEach es X.env)).any (·.1) = false := by rfl)
    (ht : eval (.Call (.Attribute o m apos) (e :: es) [] pos) X.env = (do
      let ov ← eval o X.env
      standAt apos.atName
      let (f, first) ← holding [ov] (getMethod ov m pl)
      callWith pos f first (backTo pos (starEach (e :: es) X.env)) (backToKw pos (keywordEach [] X.env))) := by rfl) :
    PE X (.Call (.Attribute o m apos) (e :: es) [] pos) (tMethAt C m sp E ta t) := by
  refine ⟨fun pins s σ H Q I h => PySem.W.methodCall_KW (pl := pl) (thn (he.run pins s σ H _ I h) fun u s1 ⟨x, H1, I1, rx, a, dx, fs, ex, ea, l, q⟩ => ?_) ht⟩
  subst ex
  obtain rfl : u = Value.ref a := rx
  refine getmeth_ok I1 ea c hm l (PySem.W.callWith_K (first := [.ref a]) (h₀ := X.base) I.ok.mod.kin hm.kp (thn (ha.run pos pins s1 σ H1 _ I1 q) fun us s2 ⟨vs, H2, I2, r, q2⟩ => ⟨I2.kIn, ?_⟩) hst hpl)
  exact run_fnS (us := .ref a :: us) (vs := .ref a :: vs) F hr hb (hx σ) I2 (.cons rfl r) q2
theorem pe_bmK {X : Cx} {K : PySem.W.Frag} (hK : X.K = K) {o e : Expr} {es : List Expr} {to : TE} {t : TA} {name : Str} {apos cpos : Pos} {T id : String} {r : V → List V → Hp → VK → Prop}
    (pa : PlainAttrs T) (slot : Slot T name id) (hty : typeOf (.builtin id) = pure (.type "method_descriptor")) (hm : MtR X id r) (ho : PE X o to) (ha : PA X (e :: es) t)
    (hbase : attributeBase o name X.env (eval o X.env) = eval o X.env := by rfl)
    (hfew : ((backTo cpos (starEach (e :: es) X.env)).all (fun x => !x.1) && (backToKw cpos (keywordEach [] X.env)).all (fun x => x.1.isSome)
      && decide ((e :: es).length + ([] : List Keyword).length + (if ([] : List Keyword).isEmpty then 0 else 1) < 30)) = true := by rfl)
    (hline : (apos.endLine == cpos.line) = true := by rfl) (hs : starEach (e :: es) X.env = (false, eval e X.env) :: starEach es X.env := by rfl) (hplain : (backTo cpos (starEach es X.env)).any (·.1) = false := by rfl) :
    PE X (.Call (.Attribute o name apos) (e :: es) [] cpos) (tBM K T r to t) := hK ▸ pe_bm pa slot hty hm ho ha hbase hfew hline hs hplain
end KW
end
section
set_option Elab.async false
set_option linter.all false
set_option autoImplicit false
set_option maxRecDepth 100000
set_option maxHeartbeats 1000000
/-! == and != of two instances by the class's own __eq__ -/
namespace KW
open PySem PySem.Spec PyProof.Rows L2
open Builtin
section
variable {prog : Program} {w : World} {A : Around} {E : Value → Shared → Prop} {s : Shared} {K : PySem.W.Frag} {x y C f : Addr} {ox oy : Obj} {od od' : Option Obj}
theorem check_ne (X : K.In s.heap) (I : PySem.W.InstAt s.heap x ox C od) (hm : PySem.W.makesIn K C = true) {Q : Unit → Shared → Prop} (hq : Q () s) : wpAny (model prog w) A (checkBuiltinCall "object.__ne__" ⟨[.ref x, .ref y], []⟩) Q E s := by
  have M := PySem.W.makes_of (M := model prog w) X hm
  simp only [checkBuiltinCall, F.cmpKind_ne, F.cmpSplit_ne]
  refine wpAny_bind ?_
  unfold isInstance
  refine wpAny_bind (I.type.here (M.top.here ?_))
  have ha := F.cmpArgs_ne (.ref x) (.ref y)
  cases hsig : Manifest.signature? "object.__ne__" with
  | none => exact wpAny_pure hq
  | some sig =>
    simp only [argsOk, hsig] at ha
    have h2 : Bind.checkArgs "object.__ne__" sig ⟨[.ref x, .ref y], []⟩ = pure () := ha
    show wpAny (model prog w) A (Bind.checkArgs "object.__ne__" sig ⟨[.ref x, .ref y], []⟩) Q E _
    rw [h2]
    exact wpAny_pure hq
theorem ne_inner (X : K.In s.heap) (I : PySem.W.InstAt s.heap x ox C od) (hs : PySem.W.findIn K (.ref C) "__eq__" = some (some (.ref f))) (hf : PySem.W.isFn K (.ref f) = true) (hu : A.units < cLine) {Q : Fin → Shared → Prop}
    (hcall : wpAny (model prog w) A (call (.ref f) [.ref x, .ref y]) (fun v s' => ∃ b, v = .bool b ∧ Q (.done (.ret (.bool (!b)))) s') E s) : wpAny (model prog w) A (Builtin.«object.__ne__» ⟨[.ref x, .ref y], []⟩) Q E s := by
  unfold Builtin.«object.__ne__»
  repeat (first
    | with_reducible refine wpAny_cRoomFor hu ?_
    | (refine wpAny_bind (m := callSpecialIfBound? (.ref x) (Str.ofString "__eq__") [.ref y])
        (PySem.W.ifBound_K X I hs hf (wpAny_mono hcall (fun v s' hr => by
          obtain ⟨b, rfl, hq⟩ := hr
          repeat (first | exact hq | exact wpAny_pure hq | exact wpAny_truthy_bool hq | (refine wpAny_bind (m := truthy (.bool _)) (wpAny_truthy_bool ?_)) | wp_step)) fun _ _ e => e)))
    | wp_step)
theorem ifBound_ne {args : List Value} {Q : Option Value → Shared → Prop} (X : K.In s.heap) (I : PySem.W.InstAt s.heap x ox C od) (hn : PySem.W.findIn K (.ref C) "__ne__" = some (some (.builtin "object.__ne__")))
    (h : wpAny (model prog w) A (call (.builtin "object.__ne__") (.ref x :: args)) (fun v => Q (some v)) E s) : wpAny (model prog w) A (callSpecialIfBound? (.ref x) "__ne__" args) Q E s := by
  simp only [callSpecialIfBound?, bindSpecialIfBound?]
  refine wpAny_holding (wpAny_bind (wpAny_bind (wpAny_bind (I.type.here ((PySem.W.looks_findIn X hn).here ?_)))))
  simp only [F.cmp_object.ne.bind]
  refine wpAny_bind (wpAny_askSetting (wpAny_ite ?_))
  have fin : wpAny (model prog w) A (call (.builtin "object.__ne__") ([.ref x] ++ args) >>= fun v => pure (some v)) Q E s := wpAny_bind (wpAny_mono h (fun v s' h' => wpAny_pure h') fun _ _ h' => h')
  split
  · exact wpAny_bind (wpAny_pure (wpAny_pure fin))
  · exact wpAny_tryCatch (wpAny_bind (wpAny_pure (wpAny_pure fin)))
theorem ne_try (X : K.In s.heap) (I : PySem.W.InstAt s.heap x ox C od) (hm : PySem.W.makesIn K C = true) (hn : PySem.W.findIn K (.ref C) "__ne__" = some (some (.builtin "object.__ne__"))) (hs : PySem.W.findIn K (.ref C) "__eq__" = some (some (.ref f))) (hf : PySem.W.isFn K (.ref f) = true)
    (hu : A.units + 1 < cLine) {Q : Option Value → Shared → Prop} (hcall : wpAny (model prog w) A.in1 (call (.ref f) [.ref x, .ref y]) (fun v s' => ∃ b, v = .bool b ∧ Q (some (.bool (!b))) s') E s) : wpAny (model prog w) A (tryCompare (.ref x) "__ne__" (.ref y)) Q E s := by
  simp only [tryCompare]
  refine wpAny_bind (ifBound_ne X I hn (wpAny_call (codeAny_call_builtin F.cmp_object.ne.plain F.cmpEntry_ne (check_ne X I hm (ne_inner (A := A.in1) X I hs hf hu (wpAny_mono hcall (fun v s' hv => ?_) fun _ _ e => e))))))
  obtain ⟨b, rfl, hq⟩ := hv
  first | exact ⟨b, rfl, wpAny_pure hq⟩ | exact ⟨b, rfl, wpAny_pure (wpAny_pure hq)⟩ | exact ⟨b, rfl, hq⟩
theorem ne_cmp (X : K.In s.heap) (I : PySem.W.InstAt s.heap x ox C od) (I2 : PySem.W.InstAt s.heap y oy C od') (hm : PySem.W.makesIn K C = true) (hn : PySem.W.findIn K (.ref C) "__ne__" = some (some (.builtin "object.__ne__"))) (hs : PySem.W.findIn K (.ref C) "__eq__" = some (some (.ref f))) (hf : PySem.W.isFn K (.ref f) = true)
    (hu : A.units + 1 < cLine) {Q : Value → Shared → Prop} (hcall : wpAny (model prog w) A.in1 (call (.ref f) [.ref x, .ref y]) (fun v s' => ∃ b, v = .bool b ∧ Q (.bool (!b)) s') E s) : wpAny (model prog w) A (richCompare .NotEq (.ref x) (.ref y)) Q E s := by
  unfold richCompare
  simp only [oneThing_ref]
  refine wpAny_holding ?_
  refine wpAny_bind (wpAny_cRoomFor (Nat.lt_of_succ_lt hu) ?_)
  rw [cmpInfo_NotEq]
  dsimp only
  refine wpAny_bind (I.type.here (wpAny_bind (I2.type.here ?_)))
  rw [show (Value.ref C != Value.ref C) = false from by simp]
  simp only [Bool.false_eq_true, if_false]
  refine wpAny_bind (wpAny_pure ?_)
  simp only [Bool.false_eq_true, if_false]
  refine wpAny_bind (ne_try X I hm hn hs hf hu (wpAny_mono hcall (fun v s' hv => ?_) fun _ _ e => e))
  obtain ⟨b, rfl, hq⟩ := hv
  first | exact ⟨b, rfl, wpAny_pure hq⟩ | exact ⟨b, rfl, wpAny_pure (wpAny_pure hq)⟩
end
/-- x == y, x != y by the class's own __eq__ that keeps the promise sp -/
def rOwn (C : Addr) (sp : Sp) (neg : Bool) : R2 := fun x y H Q => ∃ a b dx dy fs gs, x = .ref a ∧ y = .ref b ∧ H a = some (.ins C dx fs) ∧ H b = some (.ins C dy gs) ∧ sp [.ref a, .ref b] H (fun v H' => ∃ c, v = .bl c ∧ Q (.bl (if neg = true then !c else c)) H') E0
section
variable {X : Cx} {K : PySem.W.Frag} {n : Nat} {C f : Addr} {fd : FuncData} {ps : List Str} {sp : Sp}
theorem own_call {A : Around} {pins : List (Addr × Obj)} {s : Shared} {σ : L2.St} {H : Hp} {a b : Addr} {Q : VK} (F : FnOk X.prog X.w X.K X.mg X.base CX0 n f fd ps sp) (hb : Binds X.K fd ps []) (hr : Room n A) (hfr : A.frames = X.A.frames) (I : Inv X pins σ H s) (hsp : sp [.ref a, .ref b] H Q E0) :
    wpAny (model X.prog X.w) A (call (.ref f) [.ref a, .ref b]) (EP X pins σ Q) X.xe s := by
  have e0 : Env0 X.prog X.w X.K X.mg X.base A X.stack s H := by
    have e := I.env0
    exact ⟨by rw [hfr]; exact e.frames, e.mod, e.bs, e.bsz, e.funs, e.frf, e.hok, e.bare⟩
  have hl := F.len _ _ _ _ hsp
  have r2 : Vals [V.ref a, V.ref b] [Value.ref a, Value.ref b] := .cons rfl (.cons rfl .nil)
  refine wpAny_call (codeAny_mono (F.run A X.stack s H ⟨[.ref a, .ref b], []⟩ [.ref a, .ref b] [.ref a, .ref b] _ E0 hr e0 (by
    have := hb s [.ref a, .ref b] I.kIn (by simpa using hl)
    simpa using this) r2 hsp) fun r s' hq => ?_)
  cases r with
  | error e => exact False.elim hq
  | ok fl =>
    cases fl with
    | ret w =>
      obtain ⟨z, H', I', rz, ez⟩ := I.after hq
      exact ⟨z, H', I', rz, ez⟩
    | next => exact False.elim hq
    | brk => exact False.elim hq
    | cont => exact False.elim hq
theorem op_ownEq (hK : X.K = K) (F : FnOk X.prog X.w X.K X.mg X.base CX0 n f fd ps sp) (hm : Meth K C "__eq__" f) (hb : Binds X.K fd ps []) (hr : Room n X.A) : OpR X (compareOp .Eq) (rOwn C sp false) := by
  subst hK
  intro pins s σ H x y v u Q I rx ry hq
  obtain ⟨a, b, dx, dy, fs, gs, rfl, rfl, ha, hb', hsp⟩ := hq
  cases rx
  cases ry
  obtain ⟨mA, J, _⟩ := ins_get I.hok ha
  obtain ⟨mB, J', _⟩ := ins_get I.hok hb'
  obtain ⟨od, J, _⟩ := J.look
  obtain ⟨od', J', _⟩ := J'.look
  obtain ⟨m, hF⟩ := I.fr
  show wpAny (model X.prog X.w) X.A (richCompare .Eq (.ref a) (.ref b)) (EP X pins σ Q) X.xe s
  refine PySem.W.cmp_K (op := .Eq) (tb := .ref C) hr.units0 hF I.ok.mod.kin J J'.type (by simp [PySem.W.notFirst]) hm.at_ hm.fn (wpAny_mono (own_call F hb hr rfl I hsp) (fun r s' z => ?_) fun _ _ e => e)
  obtain ⟨c, H', I', rz, c', rfl, q⟩ := z
  cases rz
  exact ⟨.bl c', H', I', rfl, q⟩
theorem op_ownNe (hK : X.K = K) (F : FnOk X.prog X.w X.K X.mg X.base CX0 n f fd ps sp) (hm : Meth K C "__eq__" f) (hmk : PySem.W.makesIn K C = true) (hn : PySem.W.findIn K (.ref C) "__ne__" = some (some (.builtin "object.__ne__"))) (hb : Binds X.K fd ps []) (hr : Room (n + 1) X.A) : OpR X (compareOp .NotEq) (rOwn C sp true) := by
  subst hK
  intro pins s σ H x y v u Q I rx ry hq
  obtain ⟨a, b, dx, dy, fs, gs, rfl, rfl, ha, hb', hsp⟩ := hq
  cases rx
  cases ry
  obtain ⟨mA, J, _⟩ := ins_get I.hok ha
  obtain ⟨mB, J', _⟩ := ins_get I.hok hb'
  obtain ⟨od, J, _⟩ := J.look
  obtain ⟨od', J', _⟩ := J'.look
  show wpAny (model X.prog X.w) X.A (richCompare .NotEq (.ref a) (.ref b)) (EP X pins σ Q) X.xe s
  refine ne_cmp I.kIn J J' hmk hn hm.at_ hm.fn ?_ (wpAny_mono (own_call (A := X.A.in1) F hb hr.in1 rfl I hsp) (fun r s' z => ?_) fun _ _ e => e)
  · have := hr.units
    omega
  · obtain ⟨c, H', I', rz, c', rfl, q⟩ := z
    cases rz
    exact ⟨c', rfl, .bl (!c'), H', I', rfl, q⟩
end
end KW
end
section
set_option Elab.async false
set_option linter.all false
set_option autoImplicit false
set_option maxRecDepth 100000
set_option maxHeartbeats 4000000
/-! what is owned, what stays: lists of objects with their contents; data that nobody changes -/
namespace KW
open PySem PySem.Spec PyProof.Rows L2
/-- the objects of L stand in H, each apart from the others and from G's, and G's stand too -/
structure Own (G H : Hp) (L : List (Addr × HO)) : Prop where
  at_ : ∀ q ∈ L, H q.1 = some q.2
  nd : (L.map (·.1)).Nodup
  out : ∀ q ∈ L, G q.1 = none
  sub : Same G H
section
variable {G H H' : Hp} {L L1 L2 F : List (Addr × HO)} {a b : Addr} {o o' u : HO}
theorem Own.get (h : Own G H L) (m : (a, o) ∈ L) : H a = some o := h.at_ _ m
theorem Own.mid (h : Own G H (L1 ++ (a, o) :: L2)) : H a = some o := h.at_ (a, o) (List.mem_append_right _ (List.mem_cons_self ..))
theorem Own.upd (h : Own G H (L1 ++ (a, o) :: L2)) : Own G (upd H a o') (L1 ++ (a, o') :: L2) := by
  have nd := h.nd
  rw [List.map_append, List.map_cons, List.nodup_append] at nd
  obtain ⟨n1, n2, n3⟩ := nd
  have n4 := (List.nodup_cons.mp n2).1
  have ga : G a = none := h.out (a, o) (List.mem_append_right _ (List.mem_cons_self ..))
  have key : ∀ q, q ∈ L1 ∨ q ∈ L2 → q.1 ≠ a := fun q hq e => by
    rcases hq with hq | hq
    · exact n3 q.1 (List.mem_map_of_mem hq) a (List.mem_cons_self ..) e
    · have z : q.1 ∈ L2.map (·.1) := List.mem_map_of_mem hq
      rw [e] at z
      exact n4 z
  refine ⟨fun q hq => ?_, ?_, fun q hq => ?_, fun c x e => ?_⟩
  · rcases List.mem_append.mp hq with hq | hq
    · rw [upd_ne (key q (.inl hq))]; exact h.at_ q (List.mem_append_left _ hq)
    · rcases List.mem_cons.mp hq with rfl | hq
      · exact upd_same
      · rw [upd_ne (key q (.inr hq))]; exact h.at_ q (List.mem_append_right _ (List.mem_cons_of_mem _ hq))
  · have e : ((L1 ++ (a, o') :: L2).map (·.1)) = ((L1 ++ (a, o) :: L2).map (·.1)) := by simp
    rw [e]; exact h.nd
  · rcases List.mem_append.mp hq with hq | hq
    · exact h.out q (List.mem_append_left _ hq)
    · rcases List.mem_cons.mp hq with rfl | hq
      · exact ga
      · exact h.out q (List.mem_append_right _ (List.mem_cons_of_mem _ hq))
  · rw [upd_ne (ne_of_none e ga)]; exact h.sub c x e
theorem Own.new (h : Own G H L) (n : H a = none) : Own G (_root_.L2.upd H a o) ((a, o) :: L) := by
  have ga : G a = none := h.sub.free n
  refine ⟨fun q hq => ?_, ?_, fun q hq => ?_, fun c x e => ?_⟩
  · rcases List.mem_cons.mp hq with rfl | hq
    · exact upd_same
    · rw [upd_ne (ne_of_none (h.at_ q hq) n)]; exact h.at_ q hq
  · rw [List.map_cons, List.nodup_cons]
    refine ⟨fun m => ?_, h.nd⟩
    obtain ⟨q, hq, e⟩ := List.mem_map.mp m
    have z := h.at_ q hq
    rw [e, n] at z
    cases z
  · rcases List.mem_cons.mp hq with rfl | hq
    · exact ga
    · exact h.out q hq
  · rw [upd_ne (ne_of_none e ga)]; exact h.sub c x e
/-- things made and dropped -/
theorem Own.same (h : Own G H L) (s : Same H H') : Own G H' L := ⟨fun q hq => s _ _ (h.at_ q hq), h.nd, h.out, h.sub.trans s⟩
theorem same_new (n : H a = none) : Same H (_root_.L2.upd H a o) := fun b x e => by rw [upd_ne (ne_of_none e n)]; exact e
theorem Same.new {H0 : Hp} (s : Same H0 H) (n : H a = none) : Same H0 (_root_.L2.upd H a o) := s.trans (same_new n)
/-- a new object that nobody changes -/
theorem Own.keep (h : Own G H L) (n : H a = none) : Own (_root_.L2.upd G a o) (_root_.L2.upd H a o) L := by
  have h' := h.same (same_new (o := o) n)
  refine ⟨h'.at_, h.nd, fun q hq => ?_, fun c x e => ?_⟩
  · rw [upd_ne (ne_of_none (h.at_ q hq) n)]; exact h.out q hq
  · by_cases hc : c = a
    · subst hc; rw [upd_same] at e ⊢; exact e
    · rw [upd_ne hc] at e ⊢; exact h.sub c x e
theorem Own.perm {M : List (Addr × HO)} (h : Own G H L) (p : L.Perm M) : Own G H M :=
  ⟨fun q hq => h.at_ q (p.mem_iff.mpr hq), (p.map _).nodup_iff.mp h.nd, fun q hq => h.out q (p.mem_iff.mpr hq), h.sub⟩
theorem Own.less {M : List (Addr × HO)} (h : Own G H L) (s : M.Sublist L) : Own G H M :=
  ⟨fun q hq => h.at_ q (s.subset hq), h.nd.sublist (s.map _), fun q hq => h.out q (s.subset hq), h.sub⟩
theorem Own.tail {q : Addr × HO} (h : Own G H (q :: L)) : Own G H L := h.less (List.sublist_cons_self q L)
theorem Own.right (h : Own G H (L1 ++ L2)) : Own G H L2 := h.less (List.sublist_append_right L1 L2)
theorem Own.left (h : Own G H (L1 ++ L2)) : Own G H L1 := h.less (List.sublist_append_left L1 L2)
theorem Own.nil (s : Same G H) : Own G H [] := ⟨fun _ h => (nomatch h), List.nodup_nil, fun _ h => (nomatch h), s⟩
theorem Own.weak {G' : Hp} (h : Own G H L) (s : Same G' G) : Own G' H L := ⟨h.at_, h.nd, fun q hq => s.free (h.out q hq), s.trans h.sub⟩
end
/-! ### data -/
section
variable {K : PySem.W.Frag} {H H' : Hp}
theorem Same.tup {a : Addr} {xs : List V} (e : Same H H') (h : SqT K H a xs) : SqT K H' a xs := by
  rcases h with (h | ⟨o, h⟩) | h
  · exact .inl (.inl (e _ _ h))
  · exact .inl (.inr ⟨o, e _ _ h⟩)
  · exact .inr h
mutual
theorem Dp.mono (e : Same H H') : ∀ {v : V} {d : PyData}, Dp K H v d → Dp K H' v d
  | _, _, .non => .non
  | _, _, .bl b => .bl b
  | _, _, .int i => .int i
  | _, _, .str x => .str x
  | _, _, .lst h a => .lst (e.seq h) (DpAll.mono e a)
  | _, _, .tup h a => .tup (Same.tup e h) (DpAll.mono e a)
theorem DpAll.mono (e : Same H H') : ∀ {vs : List V} {ds : List PyData}, DpAll K H vs ds → DpAll K H' vs ds
  | _, _, .nil => .nil
  | _, _, .cons a b => .cons (Dp.mono e a) (DpAll.mono e b)
end
theorem DpAll.length : ∀ {vs : List V} {ds : List PyData}, DpAll K H vs ds → vs.length = ds.length
  | _, _, .nil => rfl
  | _, _, .cons _ b => congrArg Nat.succ (DpAll.length b)
theorem DpAll.get : ∀ {vs : List V} {ds : List PyData} {i : Nat} {v : V}, DpAll K H vs ds → vs[i]? = some v → ∃ d, ds[i]? = some d ∧ Dp K H v d
  | _, _, _, _, .nil, e => by simp at e
  | _, _, 0, _, .cons a _, e => by simp at e; subst e; exact ⟨_, rfl, a⟩
  | _, _, i + 1, _, .cons _ b, e => by
    obtain ⟨d, h1, h2⟩ := DpAll.get (i := i) b (by simpa using e)
    exact ⟨d, by simpa using h1, h2⟩
theorem DpAll.getD : ∀ {vs : List V} {ds : List PyData} {i : Nat} {d : PyData}, DpAll K H vs ds → ds[i]? = some d → ∃ v, vs[i]? = some v ∧ Dp K H v d
  | _, _, _, _, .nil, e => by simp at e
  | _, _, 0, _, .cons a _, e => by simp at e; subst e; exact ⟨_, rfl, a⟩
  | _, _, i + 1, _, .cons _ b, e => by
    obtain ⟨d, h1, h2⟩ := DpAll.getD (i := i) b (by simpa using e)
    exact ⟨d, by simpa using h1, h2⟩
theorem DpAll.append : ∀ {vs ws : List V} {ds es : List PyData}, DpAll K H vs ds → DpAll K H ws es → DpAll K H (vs ++ ws) (ds ++ es)
  | _, _, _, _, .nil, s => s
  | _, _, _, _, .cons a b, s => .cons a (DpAll.append b s)
theorem DpAll.one {v : V} {d : PyData} (h : Dp K H v d) : DpAll K H [v] [d] := .cons h .nil
theorem Dp.lst_inv {v : V} {ds : List PyData} (h : Dp K H v (.list ds)) : ∃ a xs, v = .ref a ∧ SqL K H a xs ∧ DpAll K H xs ds := by cases h with | lst a b => exact ⟨_, _, rfl, a, b⟩
theorem Dp.tup_inv {v : V} {ds : List PyData} (h : Dp K H v (.tuple ds)) : ∃ a xs, v = .ref a ∧ SqT K H a xs ∧ DpAll K H xs ds := by cases h with | tup a b => exact ⟨_, _, rfl, a, b⟩
theorem Dp.int_inv {v : V} {i : Int} (h : Dp K H v (.int i)) : v = .int i := by cases h; rfl
theorem Dp.str_inv {v : V} {x : Str} (h : Dp K H v (.str x)) : v = .str x := by cases h; rfl
theorem Dp.bool_inv {v : V} {b : Bool} (h : Dp K H v (.bool b)) : v = .bl b := by cases h; rfl
theorem DpAll.cons_inv {vs : List V} {d : PyData} {ds : List PyData} (h : DpAll K H vs (d :: ds)) : ∃ v ws, vs = v :: ws ∧ Dp K H v d ∧ DpAll K H ws ds := by cases h with | cons a b => exact ⟨_, _, rfl, a, b⟩
theorem DpAll.nil_inv {vs : List V} (h : DpAll K H vs []) : vs = [] := by cases h; rfl
theorem dpT {v : V} {ds : List PyData} (h : Dp K H v (.tuple ds)) : ∃ a xs, v = .ref a ∧ SqT K H a xs ∧ DpAll K H xs ds := Dp.tup_inv h
theorem dpL {v : V} {ds : List PyData} (h : Dp K H v (.list ds)) : ∃ a xs, v = .ref a ∧ SqL K H a xs ∧ DpAll K H xs ds := Dp.lst_inv h
theorem dpI {v : V} {i : Int} (h : Dp K H v (.int i)) : v = .int i := Dp.int_inv h
theorem dpS {v : V} {x : Str} (h : Dp K H v (.str x)) : v = .str x := Dp.str_inv h
theorem dpB {v : V} {b : Bool} (h : Dp K H v (.bool b)) : v = .bl b := Dp.bool_inv h
theorem dpC {vs : List V} {d : PyData} {ds : List PyData} (h : DpAll K H vs (d :: ds)) : ∃ v ws, vs = v :: ws ∧ Dp K H v d ∧ DpAll K H ws ds := DpAll.cons_inv h
theorem dpN {vs : List V} (h : DpAll K H vs []) : vs = [] := DpAll.nil_inv h
theorem dpLen {vs : List V} {ds : List PyData} (h : DpAll K H vs ds) : vs.length = ds.length := DpAll.length h
theorem dpM (e : Same H H') {v : V} {d : PyData} (h : Dp K H v d) : Dp K H' v d := Dp.mono e h
theorem daM (e : Same H H') {vs : List V} {ds : List PyData} (h : DpAll K H vs ds) : DpAll K H' vs ds := DpAll.mono e h
theorem daG {vs : List V} {ds : List PyData} {i : Nat} {v : V} (h : DpAll K H vs ds) (e : vs[i]? = some v) : ∃ d, ds[i]? = some d ∧ Dp K H v d := DpAll.get h e
theorem sT {a : Addr} {xs : List V} (e : Same H H') (h : SqT K H a xs) : SqT K H' a xs := Same.tup e h
theorem sL {a : Addr} {xs : List V} (e : Same H H') (h : SqL K H a xs) : SqL K H' a xs := L2.Same.seq e h
end
end KW
end
section
set_option Elab.async false
set_option linter.all false
set_option autoImplicit false
set_option maxRecDepth 100000
set_option maxHeartbeats 4000000
/-! words over the layer -/
namespace KW
open PySem PySem.Spec PyProof.Rows L2 He KR
section
variable {K : PySem.W.Frag} {H H' H1 : Hp}
theorem sql_ty {a : Addr} {xs : List V} (h : SqL K H a xs) : TyX K H (.ref a) (.type "list") := by
  rcases h with (h | ⟨o, h⟩) | ⟨o, its, n, h1, h2, h3, h4, h5⟩
  · exact .base (.lst h)
  · exact .base (.frz h)
  · exact .kList h1 h2
theorem sqt_ty {a : Addr} {xs : List V} (h : SqT K H a xs) : TyX K H (.ref a) (.type "tuple") := by
  rcases h with (h | ⟨o, h⟩) | ⟨o, its, n, h1, h2, h3, h4⟩
  · exact .base (.tup h)
  · exact .fTuple h
  · exact .kTuple h1 h2
def tyD : PyData → String
  | .none => "NoneType"
  | .bool _ => "bool"
  | .int _ => "int"
  | .str _ => "str"
  | .list _ => "list"
  | .tuple _ => "tuple"
  | .dict _ => "dict"
theorem dp_ty {v : V} {d : PyData} (h : Dp K H v d) : TyX K H v (.type (tyD d)) := by
  cases h with
  | non => exact .base .non
  | bl b => exact .base (.bl b)
  | int i => exact .base (.int i)
  | str x => exact .base (.str x)
  | lst a _ => exact sql_ty a
  | tup a _ => exact sqt_ty a
theorem inV_strs (x : Str) : ∀ ys : List Str, inV (.str x) (ys.map V.str) = decide (x ∈ ys)
  | [] => by simp [inV]
  | y :: ys => by
    have ih := inV_strs x ys
    have e : eqV (.str y) (.str x) = decide (x = y) := by
      show (y == x) = _
      by_cases h : x = y
      · subst h; simp
      · have h2 : ¬ y = x := fun e => h e.symm
        simp [h, h2]
    have e2 : inV (.str x) ((y :: ys).map V.str) = (eqV (.str y) (.str x) || inV (.str x) (ys.map V.str)) := by
      simp [inV]
    rw [e2, e, ih]
    simp [List.mem_cons]
/-! ### comprehensions: the new list alone is owned -/
section
variable {a : Addr} {xs : List V} {g : TG} {tt : TT} {te : TE} {vs : List Nat} {σ : L2.St} {D : Addr} {Qd : Hp → Prop}
/-- the state ahead of turn i: the list so far stands at D, apart from all that stood (G), Acc tells what it is -/
def PvL (D : Addr) (H1 : Hp) (Acc : Nat → List V → Hp → Prop) (i : Nat) (H : Hp) : Prop := ∃ G acc, Same H1 G ∧ Own G H [(D, .lst acc)] ∧ acc.length ≤ i ∧ Acc i acc G
/-- what is to be shown of an element y at H4 -/
def AddL (D : Addr) (H1 : Hp) (Acc : Nat → List V → Hp → Prop) (i : Nat) (y : V) (H4 : Hp) : Prop := ∃ acc, H4 D = some (.lst acc) ∧ acc.length < sizeLine ∧ PvL D H1 Acc (i + 1) (upd H4 D (.lst (acc ++ [y])))
theorem add_l {Acc : Nat → List V → Hp → Prop} {i : Nat} {y : V} {G H4 : Hp} {acc : List V} (s : Same H1 G) (o : Own G H4 [(D, .lst acc)]) (h1 : acc.length ≤ i) (h2 : i ≤ 100000) (h : Acc (i + 1) (acc ++ [y]) G) :
    ∃ acc, H4 D = some (.lst acc) ∧ acc.length < sizeLine ∧ PvL D H1 Acc (i + 1) (upd H4 D (.lst (acc ++ [y]))) :=
  ⟨acc, o.at_ _ (List.mem_cons_self ..), by rw [sizeLine_eq]; omega, G, acc ++ [y], s, Own.upd (L1 := []) (L2 := []) o, by rw [List.length_append]; exact Nat.succ_le_succ h1, h⟩
theorem skip_l {Acc : Nat → List V → Hp → Prop} {i : Nat} {G H4 : Hp} {acc : List V} (s : Same H1 G) (o : Own G H4 [(D, .lst acc)]) (h1 : acc.length ≤ i) (h : Acc (i + 1) acc G) : PvL D H1 Acc (i + 1) H4 := ⟨G, acc, s, o, Nat.le_succ_of_le h1, h⟩
theorem lc_own (Acc : Nat → List V → Hp → Prop) (n : H1 D = none) (hl : SqL K H1 a xs) (hz : xs.length ≤ 100000) (h0 : Acc 0 [] H1)
    (hs : ∀ i x G H acc, xs[i]? = some x → i ≤ 100000 → Same H1 G → acc.length ≤ i → Acc i acc G → Own G H [(D, .lst acc)] → g x (wipe σ vs) H fun σ2 H2 => wipe σ2 vs = wipe σ vs ∧ tt σ2 H2 fun b H3 =>
      if b = true then te σ2 H3 fun y H4 => ∃ acc, H4 D = some (.lst acc) ∧ acc.length < sizeLine ∧ PvL D H1 Acc (i + 1) (upd H4 D (.lst (acc ++ [y]))) else PvL D H1 Acc (i + 1) H3)
    (hd : ∀ G H acc, Same H1 G → Own G H [(D, .lst acc)] → acc.length ≤ xs.length → Acc xs.length acc G → Qd H) :
    ∃ W : Nat → Nat → Hp → Prop, (∃ m, W 0 m (upd H1 D (.lst []))) ∧ ∀ i m H, W i m H →
      ((Itl K a).stop i H ∧ Qd H) ∨ ((Itl K a).go i H ∧ ∃ Nx : Hp → Prop, (∀ H', Nx H' → ∃ m', m' < m ∧ W (i + 1) m' H') ∧ ∀ x H', (Itl K a).yld i H x H' → g x (wipe σ vs) H' fun σ2 H2 => wipe σ2 vs = wipe σ vs ∧ tt σ2 H2 fun b H3 =>
        if b = true then te σ2 H3 fun y H4 => ∃ acc, H4 D = some (.lst acc) ∧ acc.length < sizeLine ∧ Nx (upd H4 D (.lst (acc ++ [y]))) else Nx H3) := by
  refine lc_list (K := K) (a := a) (xs := xs) (PvL D H1 Acc) ⟨H1, [], Same.refl _, Own.new (Own.nil (Same.refl H1)) n, Nat.le_refl _, h0⟩ (fun i H _ ⟨G, acc, s, o, _⟩ => (s.trans o.sub).seq hl) (fun i x H hx ⟨G, acc, s, o, l, p⟩ => ?_) (fun H ⟨G, acc, s, o, l, p⟩ => hd G H acc s o l p)
  have hi := (List.getElem?_eq_some_iff.mp hx).1
  exact hs i x G H acc hx (by omega) s l p o
theorem lc_ownT (Acc : Nat → List V → Hp → Prop) (n : H1 D = none) (hl : SqT K H1 a xs) (hz : xs.length ≤ 100000) (h0 : Acc 0 [] H1)
    (hs : ∀ i x G H acc, xs[i]? = some x → i ≤ 100000 → Same H1 G → acc.length ≤ i → Acc i acc G → Own G H [(D, .lst acc)] → g x (wipe σ vs) H fun σ2 H2 => wipe σ2 vs = wipe σ vs ∧ tt σ2 H2 fun b H3 =>
      if b = true then te σ2 H3 fun y H4 => ∃ acc, H4 D = some (.lst acc) ∧ acc.length < sizeLine ∧ PvL D H1 Acc (i + 1) (upd H4 D (.lst (acc ++ [y]))) else PvL D H1 Acc (i + 1) H3)
    (hd : ∀ G H acc, Same H1 G → Own G H [(D, .lst acc)] → acc.length ≤ xs.length → Acc xs.length acc G → Qd H) :
    ∃ W : Nat → Nat → Hp → Prop, (∃ m, W 0 m (upd H1 D (.lst []))) ∧ ∀ i m H, W i m H →
      ((Itt K a).stop i H ∧ Qd H) ∨ ((Itt K a).go i H ∧ ∃ Nx : Hp → Prop, (∀ H', Nx H' → ∃ m', m' < m ∧ W (i + 1) m' H') ∧ ∀ x H', (Itt K a).yld i H x H' → g x (wipe σ vs) H' fun σ2 H2 => wipe σ2 vs = wipe σ vs ∧ tt σ2 H2 fun b H3 =>
        if b = true then te σ2 H3 fun y H4 => ∃ acc, H4 D = some (.lst acc) ∧ acc.length < sizeLine ∧ Nx (upd H4 D (.lst (acc ++ [y]))) else Nx H3) := by
  refine lc_tup (K := K) (a := a) (xs := xs) (PvL D H1 Acc) ⟨H1, [], Same.refl _, Own.new (Own.nil (Same.refl H1)) n, Nat.le_refl _, h0⟩ (fun i H _ ⟨G, acc, s, o, _⟩ => Same.tup (s.trans o.sub) hl) (fun i x H hx ⟨G, acc, s, o, l, p⟩ => ?_) (fun H ⟨G, acc, s, o, l, p⟩ => hd G H acc s o l p)
  have hi := (List.getElem?_eq_some_iff.mp hx).1
  exact hs i x G H acc hx (by omega) s l p o
theorem lc_gen (J : It) (n : Nat) (Acc : Nat → List V → Hp → Prop) (nD : H1 D = none) (hz : n ≤ 100000) (h0 : Acc 0 [] H1) (hgo : ∀ i G H acc, i < n → Same H1 G → Own G H [(D, .lst acc)] → J.go i H) (hstop : ∀ G H acc, Same H1 G → Own G H [(D, .lst acc)] → J.stop n H)
    (hs : ∀ i x G H acc H', i < n → J.yld i H x H' → Same H1 G → acc.length ≤ i → Acc i acc G → Own G H [(D, .lst acc)] → g x (wipe σ vs) H' fun σ2 H2 => wipe σ2 vs = wipe σ vs ∧ tt σ2 H2 fun b H3 =>
      if b = true then te σ2 H3 fun y H4 => ∃ acc, H4 D = some (.lst acc) ∧ acc.length < sizeLine ∧ PvL D H1 Acc (i + 1) (upd H4 D (.lst (acc ++ [y]))) else PvL D H1 Acc (i + 1) H3)
    (hd : ∀ G H acc, Same H1 G → Own G H [(D, .lst acc)] → acc.length ≤ n → Acc n acc G → Qd H) :
    ∃ W : Nat → Nat → Hp → Prop, (∃ m, W 0 m (upd H1 D (.lst []))) ∧ ∀ i m H, W i m H →
      (J.stop i H ∧ Qd H) ∨ (J.go i H ∧ ∃ Nx : Hp → Prop, (∀ H', Nx H' → ∃ m', m' < m ∧ W (i + 1) m' H') ∧ ∀ x H', J.yld i H x H' → g x (wipe σ vs) H' fun σ2 H2 => wipe σ2 vs = wipe σ vs ∧ tt σ2 H2 fun b H3 =>
        if b = true then te σ2 H3 fun y H4 => ∃ acc, H4 D = some (.lst acc) ∧ acc.length < sizeLine ∧ Nx (upd H4 D (.lst (acc ++ [y]))) else Nx H3) := by
  refine ⟨fun i m H => m = n - i ∧ i ≤ n ∧ PvL D H1 Acc i H, ⟨n, by simp, Nat.zero_le _, H1, [], Same.refl _, Own.new (Own.nil (Same.refl H1)) nD, Nat.le_refl _, h0⟩, ?_⟩
  rintro i m H ⟨rfl, hi, G, acc, s, o, l, p⟩
  by_cases hlt : i < n
  · exact .inr ⟨hgo i G H acc hlt s o, PvL D H1 Acc (i + 1), fun H' p' => ⟨n - (i + 1), by omega, rfl, hlt, p'⟩, fun x H' y => hs i x G H acc H' hlt y s l p o⟩
  · have e : i = n := by omega
    subst e
    exact .inl ⟨hstop G H acc s o, hd G H acc s o l p⟩
/-- over a text, sign by sign -/
theorem lc_str {z : Str} (Acc : Nat → List V → Hp → Prop) (nD : H1 D = none) (hz : z.cps.size ≤ 100000) (h0 : Acc 0 [] H1)
    (hs : ∀ i c G H acc, z.cps[i]? = some c → i ≤ 100000 → Same H1 G → acc.length ≤ i → Acc i acc G → Own G H [(D, .lst acc)] → g (.str ⟨#[c]⟩) (wipe σ vs) H fun σ2 H2 => wipe σ2 vs = wipe σ vs ∧ tt σ2 H2 fun b H3 =>
      if b = true then te σ2 H3 fun y H4 => ∃ acc, H4 D = some (.lst acc) ∧ acc.length < sizeLine ∧ PvL D H1 Acc (i + 1) (upd H4 D (.lst (acc ++ [y]))) else PvL D H1 Acc (i + 1) H3)
    (hd : ∀ G H acc, Same H1 G → Own G H [(D, .lst acc)] → acc.length ≤ z.cps.size → Acc z.cps.size acc G → Qd H) :
    ∃ W : Nat → Nat → Hp → Prop, (∃ m, W 0 m (upd H1 D (.lst []))) ∧ ∀ i m H, W i m H →
      ((Its z).stop i H ∧ Qd H) ∨ ((Its z).go i H ∧ ∃ Nx : Hp → Prop, (∀ H', Nx H' → ∃ m', m' < m ∧ W (i + 1) m' H') ∧ ∀ x H', (Its z).yld i H x H' → g x (wipe σ vs) H' fun σ2 H2 => wipe σ2 vs = wipe σ vs ∧ tt σ2 H2 fun b H3 =>
        if b = true then te σ2 H3 fun y H4 => ∃ acc, H4 D = some (.lst acc) ∧ acc.length < sizeLine ∧ Nx (upd H4 D (.lst (acc ++ [y]))) else Nx H3) := by
  refine lc_gen (Its z) z.cps.size Acc nD hz h0 (fun i _ _ _ hi _ _ => hi) (fun _ _ _ _ _ => Nat.le_refl _) (fun i x G H acc H' hi y s l p o => ?_) hd
  obtain ⟨rfl, c, hc, rfl⟩ := y
  exact hs i c G H' acc hc (by omega) s l p o
end
end
end KW
end
section
set_option Elab.async false
set_option linter.all false
set_option autoImplicit false
set_option maxRecDepth 100000
set_option maxHeartbeats 4000000
/-! the program as plain functions over plain data -/
namespace KW
open PySem
/-! ### steps.py -/
def isWholeD : PyData → Bool
  | .int _ => true
  | _ => false
def withinD (d : PyData) (lo hi : Int) : Bool := match d with
  | .int i => decide (lo ≤ i) && decide (i ≤ hi)
  | _ => false
def letters : Str := "abcdefghijklmnopqrstuvwxyz"
def isNameS (x : Str) : Bool := (decide ((1 : Int) ≤ (x.length : Int)) && decide ((x.length : Int) ≤ 8)) && x.cps.toList.all fun c => decide (c ∈ letters.cps.toList)
def isNameD : PyData → Bool
  | .str x => isNameS x
  | _ => false
def isStepW (w : Str) (rest : List PyData) : Bool :=
  if w = "mask" ∨ w = "open" then rest.isEmpty else match rest with
    | [r] => if w = "run" then withinD r 1 9 else (decide (w = "answer") || (decide (w = "later") || decide (w = "wake"))) && isNameD r
    | _ => false
def isStepD : PyData → Bool
  | .tuple (.str w :: rest) => isStepW w rest
  | _ => false
def wordD : PyData → Str
  | .tuple (.str w :: _) => w
  | _ => ""
def deepOf (w : Str) : Int := if w = "mask" then 1 else if w = "open" then -1 else 0
def deepOk : List PyData → Int → Bool
  | [], _ => true
  | s :: r, d => if d + deepOf (wordD s) < 0 then false else deepOk r (d + deepOf (wordD s))
def areStepsL (ds : List PyData) : Bool :=
  (decide ((1 : Int) ≤ (ds.length : Int)) && decide ((ds.length : Int) ≤ 12)) && (ds.all isStepD && (deepOk ds 0 && ds.any fun s => decide (wordD s = "run")))
def areStepsD : PyData → Bool
  | .list ds => areStepsL ds
  | _ => false
/-! ### plans.py: the looks -/
def isGuardD : PyData → Bool
  | .tuple [a, b, c] => withinD a 1 9 && (withinD b 1 60 && withinD c 1 60)
  | _ => false
def isBoolD : PyData → Bool
  | .bool _ => true
  | _ => false
def isLineD : PyData → Bool
  | .tuple [n, r, u, g, t] => (isNameD n && withinD r 1 99) && (isBoolD u && (isGuardD g && areStepsD t))
  | _ => false
def isBottomD : PyData → Bool
  | .tuple [n, t] => isNameD n && areStepsD t
  | _ => false
def isThreadD : PyData → Bool
  | .tuple [n, r, t] => (isNameD n && withinD r 1 99) && areStepsD t
  | _ => false
def nameD : PyData → Str := wordD
def rankD : PyData → Int
  | .tuple (_ :: .int r :: _) => r
  | _ => 0
def onesL (ds : List PyData) (lo hi : Int) (p : PyData → Bool) : Bool := ((decide (lo ≤ (ds.length : Int)) && decide ((ds.length : Int) ≤ hi)) && ds.all p) && decide (ds.map nameD).Nodup
def areOnesD (d : PyData) (lo hi : Int) (p : PyData → Bool) : Bool := match d with
  | .list ds => onesL ds lo hi p
  | .tuple ds => onesL ds lo hi p
  | _ => false
def seqD : PyData → List PyData
  | .list ds => ds
  | .tuple ds => ds
  | _ => []
def unlikeD (ds : List PyData) : Bool := decide (ds.map rankD).Nodup
def argD : PyData → Str
  | .tuple [_, .str n] => n
  | _ => ""
def spokenD (ss : List PyData) (w : Str) : List Str := (ss.filter fun s => decide (wordD s = w)).map argD
/-- the steps of a line, a bottom, a thread -/
def stepsD : PyData → List PyData
  | .tuple ds => match ds.getLast? with
    | some (.list ss) => ss
    | _ => []
  | _ => []
def thereD (w : Str) (there : List Str) (every : List PyData) : Bool := every.all fun e => (spokenD (stepsD e) w).all fun n => decide (n ∈ there)
def allThereD (ns : List Str × List Str × List Str) (every : List PyData) : Bool := thereD "answer" ns.1 every && (thereD "later" ns.2.1 every && thereD "wake" ns.2.2 every)
def planOkD (dl db dt : PyData) : Bool :=
  (areOnesD dl 1 5 isLineD && unlikeD (seqD dl)) && ((areOnesD db 0 4 isBottomD && areOnesD dt 0 4 isThreadD) &&
    (unlikeD (seqD dt) && allThereD ((seqD dl).map nameD, (seqD db).map nameD, (seqD dt).map nameD) (seqD dl ++ (seqD db ++ seqD dt))))
end KW
end
section
set_option Elab.async false
set_option linter.all false
set_option autoImplicit false
set_option maxRecDepth 100000
set_option maxHeartbeats 4000000
/-! steps.py: what each def does -/
namespace KW
open PySem PySem.Spec PyProof.Rows L2 He KR
section
variable {P : Program} {w : World} {K : PySem.W.Frag} {mg : Str → Option Value} {base : Heap}
/-- a def that answers a question about one value -/
def spP (K : PySem.W.Frag) (p : PyData → Bool) : Sp := fun vs H Q _ => ∃ v d, vs = [v] ∧ Dp K H v d ∧ ∀ H', Same H H' → Q (.bl (p d)) H'
/-- the answer of isinstance for data -/
def isT (a b : String) : Bool := decide (a = b) || (decide (a = "bool") && decide (b = "int"))
def tyL : List String := ["NoneType", "bool", "int", "str", "list", "tuple", "dict"]
theorem kitB_all : ∀ a ∈ tyL, ∀ b ∈ ["int", "bool", "str", "list", "tuple"], kitB a b = some (isT a b) := by decide +kernel
theorem tyD_mem (d : PyData) : tyD d ∈ tyL := by cases d <;> simp [tyD, tyL]
theorem kit_isT (d : PyData) (b : String) (hb : b ∈ ["int", "bool", "str", "list", "tuple"] := by decide) : PySem.W.kitOne K (.type (tyD d)) (.type b) = some (isT (tyD d) b) := kit_ty (kitB_all _ (tyD_mem d) b hb)
theorem sc_is_whole : FnScope ["thing"] ["thing"] (defScope s_is_whole) := ⟨rfl, rfl, rfl, by decide +kernel, rfl, by decide +kernel, by decide +kernel⟩
theorem ok_is_whole (T : Txt w K mg) : FnOk P w K mg base CX0 1 (f_is_whole K) (fdAt K (f_is_whole K)) ["thing"] (spP K isWholeD) := by
  refine (df_is_whole T).ok sc_is_whole (fun vs H Q E h => ?_) (fun cdv A outer s H vs Q E hr h => ?_)
  · obtain ⟨v, d, rfl, _⟩ := h
    rfl
  · obtain ⟨v, d, rfl, hd, q⟩ := h
    refine ⟨_, PSs.nox ((pss_one (ps_ret (pe_and (pe_callB (call_isiK1 (K := K) rfl) (by rfl) (fr_isinstance T) (by decide +kernel) (pa_cons (pv 0) (pa_cons (pe_bltn (v := .ty "int") (u := .type "int") (by rfl) (fr_int T) (by decide +kernel) rfl) pa_nil))) (pe_one (pe_not (pe_callB (call_isiK1 (K := K) rfl) (by rfl) (fr_isinstance T) (by decide +kernel) (pa_cons (pv 0) (pa_cons (pe_bltn (v := .ty "bool") (u := .type "bool") (by rfl) (fr_bool T) (by decide +kernel) rfl) pa_nil))))))))), ?_⟩
    refine ⟨_, rfl, v, _, _, _, _, rfl, .ty _, dp_ty hd, kit_isT d "int", _, rfl, ?_⟩
    have e : isWholeD d = (isT (tyD d) "int" && !isT (tyD d) "bool") := by cases d <;> rfl
    refine ite2 (fun h1 => ?_) (fun h1 => ?_)
    · refine ⟨_, rfl, v, _, _, _, _, rfl, .ty _, dp_ty hd, kit_isT d "bool", _, rfl, ?_⟩
      have q' := q H (Same.refl H)
      rw [e, h1, Bool.true_and] at q'
      exact q'
    · have q' := q H (Same.refl H)
      have h2 : isT (tyD d) "int" = false := by simpa using h1
      rw [e, h2, Bool.false_and] at q'
      exact q'
theorem sc_within : FnScope ["thing", "low", "high"] ["thing", "low", "high"] (defScope s_within) := ⟨rfl, rfl, rfl, by decide +kernel, rfl, by decide +kernel, by decide +kernel⟩
def spWithin (K : PySem.W.Frag) : Sp := fun vs H Q _ => ∃ v d lo hi, vs = [v, .int lo, .int hi] ∧ Dp K H v d ∧ ∀ H', Same H H' → Q (.bl (withinD d lo hi)) H'
theorem ok_within (T : Txt w K mg) : FnOk P w K mg base CX0 2 (f_within K) (fdAt K (f_within K)) ["thing", "low", "high"] (spWithin K) := by
  refine (df_within T).ok sc_within (fun vs H Q E h => ?_) (fun cdv A outer s H vs Q E hr h => ?_)
  · obtain ⟨v, d, lo, hi, rfl, _⟩ := h
    rfl
  · obtain ⟨v, d, lo, hi, rfl, hd, q⟩ := h
    refine ⟨_, PSs.nox ((pss_one (ps_ret (pe_and (pe_call (ok_is_whole T) (hr.mono (by decide)) rfl (gl_is_whole T) (df_is_whole T).kp (bi_is_whole T) .nil pass0 (pa_cons (pv 0) pa_nil)) (pe_one (pe_chain op_le op_le (pv 1) (pv 0) (pv 2))))))), ?_⟩
    refine ⟨_, rfl, v, d, rfl, hd, fun H1 s1 => ⟨_, rfl, ?_⟩⟩
    refine ite2 (fun h1 => ?_) (fun h1 => ?_)
    · obtain ⟨i, rfl⟩ : ∃ i, d = .int i := by cases d <;> first | exact ⟨_, rfl⟩ | (cases h1)
      cases hd
      refine ⟨_, rfl, _, rfl, _, _, rfl, rfl, _, rfl, ?_⟩
      have q' := q H1 s1
      refine ite2 (fun h2 => ?_) (fun h2 => ?_)
      · refine ⟨_, rfl, _, _, rfl, rfl, ?_⟩
        have e : withinD (.int i) lo hi = decide (i ≤ hi) := by simp only [withinD, h2, Bool.true_and]
        rw [e] at q'
        exact q'
      · have e : withinD (.int i) lo hi = false := by simp only [withinD, Bool.not_eq_true _ ▸ h2, Bool.false_and]
        rw [e] at q'
        exact q'
    · have q' := q H1 s1
      have e : withinD d lo hi = false := by cases d <;> first | rfl | (exact absurd rfl h1)
      rw [e] at q'
      exact q'
theorem sc_is_name : FnScope ["thing", "sign"] ["thing"] (defScope s_is_name) := ⟨rfl, rfl, rfl, by decide +kernel, rfl, by decide +kernel, by decide +kernel⟩
theorem nameLen {x : Str} (h : x.length ≤ 8) : x.length ≤ sizeLine := Nat.le_trans h (by rw [sizeLine_eq]; decide)
theorem isNameD_no {d : PyData} (h : tyD d ≠ "str") : isNameD d = false := by cases d <;> first | rfl | exact absurd rfl h
/-- texts that are asked for being names have at most so many signs here -/
def fitD : PyData → Prop
  | .str x => x.length ≤ 100000
  | _ => True
def spName (K : PySem.W.Frag) : Sp := fun vs H Q _ => ∃ v d, vs = [v] ∧ Dp K H v d ∧ fitD d ∧ ∀ H', Same H H' → Q (.bl (isNameD d)) H'
theorem ok_is_name (T : Txt w K mg) : FnOk P w K mg base CX0 1 (f_is_name K) (fdAt K (f_is_name K)) ["thing"] (spName K) := by
  obtain ⟨tL, h_LETTERS⟩ := st_LETTERS T
  refine (df_is_name T).ok sc_is_name (fun vs H Q E h => ?_) (fun cdv A outer s H vs Q E hr h => ?_)
  · obtain ⟨v, d, rfl, _⟩ := h
    rfl
  · obtain ⟨v, d, rfl, hd, hz, q⟩ := h
    refine ⟨_, PSs.nox ((pss_one (ps_ret (pe_and (pe_callB (call_isiK1 (K := K) rfl) (by rfl) (fr_isinstance T) (by decide +kernel) (pa_cons (pv 0) (pa_cons (pe_bltn (v := .ty "str") (u := .type "str") (by rfl) (fr_str T) (by decide +kernel) rfl) pa_nil))) (pe_and (pe_chain op_le op_le pe_int ((pe_callB call_len_str (by rfl) (fr_len T) PySem.boot_len (pa_cons (pv 0) pa_nil))) pe_int) (pe_one (pe_callB (cr_allK rfl (K := K) rfl) (by rfl) (fr_all T) (by decide +kernel) (pa_cons (pe_lc (own := [("sign", 1)]) (g := gName 1) (tt := tYes) rfl sc_is_name.nd (pi_str (pv 0)) (blkOk_by (N := ["thing", "sign"]) (sc := defScope s_is_name) (by decide +kernel)) (fun _ _ _ _ _ => pg_name (i := 1) sc_is_name.nd rfl (Or.inl rfl)) (fun _ _ _ _ _ => pts_nil) (fun _ _ _ _ _ => (pe_cmpR op_in_sign (pv 1) (pe_glob (v := .str "abcdefghijklmnopqrstuvwxyz") rfl h_LETTERS ⟨_, rfl⟩) (by rfl)))) pa_nil)))))))), ?_⟩
    refine ⟨_, rfl, v, _, _, _, _, rfl, .ty _, dp_ty hd, kit_isT d "str", _, rfl, ?_⟩
    refine ite2 (fun h1 => ?_) (fun h1 => ?_)
    · obtain ⟨x, rfl⟩ : ∃ x, d = .str x := by cases d <;> first | exact ⟨_, rfl⟩ | (cases h1)
      cases hd
      have hz : x.length ≤ 100000 := hz
      refine ⟨_, rfl, x, rfl, by rw [sizeLine_eq]; omega, _, _, rfl, rfl, _, rfl, ?_⟩
      refine ite2 (fun h2 => ?_) (fun h2 => ?_)
      · refine ⟨_, _, rfl, rfl, _, rfl, ?_⟩
        refine ite2 (fun h3 => ?_) (fun h3 => ?_)
        · refine ⟨_, rfl, x, rfl, fun D nD => ?_⟩
          refine lc_str (z := x) (fun i acc G => acc = (x.cps.toList.take i).map fun c => V.bl (decide (c ∈ letters.cps.toList))) nD hz rfl (fun i c G H2 acc hc hi s1 hl ha o => ?_) (fun G H2 acc s1 o hl ha => ?_)
          · refine ⟨rfl, _, rfl, c, letters, rfl, rfl, ?_⟩
            refine add_l s1 o hl hi ?_
            rw [ha, List.take_add_one, List.map_append]
            have e : x.cps.toList[i]? = some c := by rw [Array.getElem?_toList]; exact hc
            rw [e]
            rfl
          · have e1 : acc = (x.cps.toList.map fun c => decide (c ∈ letters.cps.toList)).map V.bl := by
              rw [ha, List.take_of_length_le (by simp), List.map_map]
              rfl
            refine ⟨D, x.cps.toList.map fun c => decide (c ∈ letters.cps.toList), rfl, SqL.of (by rw [← e1]; exact o.at_ _ (List.mem_cons_self ..)), ?_⟩
            have q' := q H2 (s1.trans o.sub)
            have e2 : isNameD (.str x) = (x.cps.toList.map fun c => decide (c ∈ letters.cps.toList)).all id := by
              simp only [isNameD, isNameS, h2, h3, Bool.and_self, Bool.true_and, List.all_map]
              rfl
            rw [e2] at q'
            exact q'
        · have q' := q H (Same.refl H)
          have e : isNameD (.str x) = false := by simp only [isNameD, isNameS, h3, Bool.and_false, Bool.false_and]
          rw [e] at q'
          exact q'
      · have q' := q H (Same.refl H)
        have e : isNameD (.str x) = false := by simp only [isNameD, isNameS, h2, Bool.false_and]
        rw [e] at q'
        exact ⟨_, rfl, iteF q'⟩
    · have q' := q H (Same.refl H)
      have h2 : isT (tyD d) "str" = false := by simpa using h1
      have e : isNameD d = false := by cases d <;> first | rfl | (cases h2)
      rw [e] at q'
      rw [h2] at *
      exact q'
end
end KW
end
section
set_option Elab.async false
set_option linter.all false
set_option autoImplicit false
set_option maxRecDepth 100000
set_option maxHeartbeats 4000000
/-! steps.py: is_step, are_steps -/
namespace KW
open PySem PySem.Spec PyProof.Rows L2 He KR
section
variable {P : Program} {w : World} {K : PySem.W.Frag} {mg : Str → Option Value} {base : Heap}
def fitT : PyData → Prop
  | .tuple ds => ds.length ≤ 10000 ∧ ∀ e ∈ ds, fitD e
  | _ => True
theorem isStepD_tuple {ds : List PyData} : isStepD (.tuple ds) = match ds with
    | .str w :: rest => isStepW w rest
    | _ => false := by
  cases ds with
  | nil => rfl
  | cons d r => cases d <;> rfl
theorem isStepD_no {d : PyData} (h : isT (tyD d) "tuple" = false) : isStepD d = false := by cases d <;> first | rfl | (cases h)
theorem isStepW_len {x : Str} {rest : List PyData} (h : ¬ (x = "mask" ∨ x = "open")) (hl : rest.length ≠ 1) : isStepW x rest = false := by
  unfold isStepW
  rw [if_neg h]
  match rest, hl with
  | [], _ => rfl
  | [_], h => exact absurd rfl h
  | _ :: _ :: _, _ => rfl
theorem isStepW_one {x : Str} {r : PyData} (h : ¬ (x = "mask" ∨ x = "open")) : isStepW x [r] = if x = "run" then withinD r 1 9 else (decide (x = "answer") || (decide (x = "later") || decide (x = "wake"))) && isNameD r := by
  unfold isStepW
  rw [if_neg h]
theorem at0 {v : V} {vs : List V} : atI (v :: vs) 0 = some v := atI_nat (j := 0) rfl
theorem sc_is_step : FnScope ["thing", "word", "rest"] ["thing"] (defScope s_is_step) := ⟨rfl, rfl, rfl, by decide +kernel, rfl, by decide +kernel, by decide +kernel⟩
def spStep (K : PySem.W.Frag) : Sp := fun vs H Q _ => ∃ v d, vs = [v] ∧ Dp K H v d ∧ fitT d ∧ ∀ H', Same H H' → Q (.bl (isStepD d)) H'
theorem ok_is_step (T : Txt w K mg) : FnOk P w K mg base CX0 3 (f_is_step K) (fdAt K (f_is_step K)) ["thing"] (spStep K) := by
  obtain ⟨tR, h_MOST_RUN⟩ := in_MOST_RUN T
  refine (df_is_step T).ok sc_is_step (fun vs H Q E h => ?_) (fun cdv A outer s H vs Q E hr h => ?_)
  · obtain ⟨v, d, rfl, _⟩ := h
    rfl
  · obtain ⟨v, d, rfl, hd, hf, q⟩ := h
    refine ⟨_, PSs.nox ((pss_cons (ps_if (PW.pt (pw_or (pt_not (pt_val (pe_callB (call_isiK1 (K := K) rfl) (by rfl) (fr_isinstance T) (by decide +kernel) (pa_cons (pv 0) (pa_cons (pe_bltn (v := .ty "tuple") (u := .type "tuple") (by rfl) (fr_tuple T) (by decide +kernel) rfl) pa_nil))))) (pw_or (pt_cmpR (op_eqNilTK (hu0 hr) (K := K) rfl) (pv 0) (pe_tup pa_nil) (nomark _)) (pw_or1 (pt_not (pt_val (pe_callB (call_isiK1 (K := K) rfl) (by rfl) (fr_isinstance T) (by decide +kernel) (pa_cons ((pe_ix (ix_tupK (K := K) rfl) (pv 0) pe_int (fun _ _ => rfl))) (pa_cons (pe_bltn (v := .ty "str") (u := .type "str") (by rfl) (fr_str T) (by decide +kernel) rfl) pa_nil))))))))) (pss_one (ps_ret pe_bl)) pss_nil)
      (pss_cons (ps_asg (pv 0) (pg_starK rfl (K := K) rfl (pgs_cons (pg_name (i := 1) sc_is_step.nd rfl (Or.inl rfl)) (pgs_starred (pg_name (i := 2) sc_is_step.nd rfl (Or.inl rfl)) pgs_nil))))
      (pss_cons (ps_if (pt_cmpR (op_inK (K := K) rfl) (pv 1) (pe_tup (pa_cons pe_str (pa_cons pe_str pa_nil))) (by rfl)) (pss_one (ps_ret (pe_cmpR (op_eqNilK (hu0 hr) (K := K) rfl) (pv 2) (pe_lst pa_nil) (nomark _)))) pss_nil)
      (pss_cons (ps_if (pt_cmpR op_ne (pe_callB (call_lenK (K := K) rfl) (by rfl) (fr_len T) PySem.boot_len (pa_cons (pv 2) pa_nil)) pe_int (nomark _)) (pss_one (ps_ret pe_bl)) pss_nil)
      (pss_one (ps_ret (pe_ifExp (pt_cmpR op_eq (pv 1) pe_str (nomark _)) (pe_call (ok_within T) (hr.mono (by decide)) rfl (gl_within T) (df_within T).kp (bi_within T) .nil pass0 (pa_cons (pe_ix (ix_listK (K := K) rfl) (pv 2) pe_int (fun _ _ => rfl)) (pa_cons pe_int (pa_cons (pe_glob (v := .int 9) rfl h_MOST_RUN ⟨_, rfl⟩) pa_nil)))) (pe_and (pe_cmpR (op_inK (K := K) rfl) (pv 1) (pe_glob (v := .ref (ga K "SPEAKING")) rfl (gl_SPEAKING T) rfl) (by rfl)) (pe_one (pe_call (ok_is_name T) (hr.mono (by decide)) rfl (gl_is_name T) (df_is_name T).kp (bi_is_name T) .nil pass0 (pa_cons (pe_ix (ix_listK (K := K) rfl) (pv 2) pe_int (fun _ _ => rfl)) pa_nil)))))))))))), ?_⟩
    refine ⟨_, rfl, v, _, _, _, _, rfl, .ty _, dp_ty hd, kit_isT d "tuple", _, rfl, ?_⟩
    cases ht : isT (tyD d) "tuple" with
    | false =>
      refine iteT (iteT ?_)
      have q' := q H (Same.refl H)
      rw [isStepD_no ht] at q'
      exact q'
    | true =>
      obtain ⟨ds, rfl⟩ : ∃ ds, d = .tuple ds := by cases d <;> first | exact ⟨_, rfl⟩ | (cases ht)
      obtain ⟨hl, hf⟩ := hf
      obtain ⟨a, xs, rfl, hx, ha⟩ := dpT hd
      refine iteF ⟨_, rfl, by rw [sizeLine_eq]; decide, fun p hp => ?_⟩
      have s1 : Same H (upd H p (.tup [])) := same_new hp
      refine ⟨a, p, xs, rfl, rfl, sT s1 hx, SqT.of upd_same, _, rfl, ?_⟩
      cases ds with
      | nil =>
        obtain rfl := dpN ha
        refine iteT (iteT ?_)
        exact q _ s1
      | cons d0 rest =>
        obtain ⟨v0, vs, rfl, h0, hrest⟩ := dpC ha
        refine iteF ⟨_, rfl, a, _, _, v0, rfl, rfl, sT s1 hx, at0, ?_⟩
        have h0' := dpM s1 h0
        refine ⟨_, _, _, _, _, rfl, .ty _, dp_ty h0', kit_isT d0 "str", _, rfl, ?_⟩
        cases hs : isT (tyD d0) "str" with
        | false =>
          refine iteT ?_
          have q' := q _ s1
          have e : isStepD (.tuple (d0 :: rest)) = false := by cases d0 <;> first | rfl | (cases hs)
          rw [e] at q'
          exact q'
        | true =>
          obtain ⟨x, rfl⟩ : ∃ x, d0 = .str x := by cases d0 <;> first | exact ⟨_, rfl⟩ | (cases hs)
          obtain rfl := dpS h0
          refine iteF ?_
          -- word, *rest = thing
          have hlv := dpLen hrest
          refine ⟨_, rfl, a, _, vs, rfl, .inl (sT s1 hx), by have := hl; rw [List.length_cons] at this; omega, fun D nD => ?_⟩
          have s2 : Same (upd H p (.tup [])) (upd (upd H p (.tup [])) D (.lst vs)) := same_new nD
          have s12 := s1.trans s2
          have hD : (upd (upd H p (.tup [])) D (.lst vs)) D = some (.lst vs) := upd_same
          generalize upd (upd H p (.tup [])) D (.lst vs) = H2 at s2 s12 hD ⊢
          have hr2 := daM s12 hrest
          refine ⟨_, _, rfl, _, _, rfl, rfl, ?_⟩
          -- word in ("mask", "open")
          refine ⟨_, rfl, by rw [sizeLine_eq]; decide, fun t nt => ?_⟩
          have s3 : Same H2 (upd H2 t (.tup [.str "mask", .str "open"])) := same_new nt
          refine ⟨t, _, rfl, .inr (SqT.of upd_same), rfl, rfl, _, rfl, ?_⟩
          have hD3 := s3 _ _ hD
          have hr3 := daM s3 hr2
          have s13 := s12.trans s3
          generalize upd H2 t (.tup [.str "mask", .str "open"]) = H3 at s3 hD3 hr3 s13 ⊢
          have ein : inV (.str x) [.str "mask", .str "open"] = decide (x = "mask" ∨ x = "open") := by
            have z := inV_strs x ["mask", "open"]
            simpa using z
          rw [ein]
          have hn3 : H3 D = some (.lst vs) := hD3
          refine ite2 (fun hw => ?_) (fun hw => ?_)
          · -- return rest == []
            have hw : x = "mask" ∨ x = "open" := of_decide_eq_true hw
            refine ⟨_, rfl, by rw [sizeLine_eq]; decide, fun p2 n2 => ?_⟩
            have s4 : Same H3 (upd H3 p2 (.lst [])) := same_new n2
            refine ⟨D, p2, vs, rfl, rfl, SqL.of (s4 _ _ hn3), SqL.of upd_same, ?_⟩
            have q' := q _ (s13.trans s4)
            have e : isStepD (.tuple (.str x :: rest)) = vs.isEmpty := by
              show isStepW x rest = _
              unfold isStepW
              rw [if_pos hw]
              cases vs <;> cases rest <;> first | rfl | (simp at hlv)
            rw [e] at q'
            exact q'
          · have hw : ¬ (x = "mask" ∨ x = "open") := by simpa using hw
            refine ⟨_, rfl, D, vs, rfl, .inl (SqL.of hn3), rfl, _, rfl, ?_⟩
            by_cases hone : vs.length = 1
            · obtain ⟨v1, rfl⟩ : ∃ v1, vs = [v1] := by
                cases vs with
                | nil => simp at hone
                | cons a b => cases b with
                  | nil => exact ⟨a, rfl⟩
                  | cons c d => simp at hone
              obtain ⟨d1, rfl⟩ : ∃ d1, rest = [d1] := by
                cases rest with
                | nil => simp at hlv
                | cons a b => cases b with
                  | nil => exact ⟨a, rfl⟩
                  | cons c d => simp at hlv
              obtain ⟨v1', ws, e1, h1, _⟩ := dpC hr3
              cases e1
              refine iteNS rfl ?_
              refine ⟨_, rfl, rfl, _, rfl, ?_⟩
              refine ite2 (fun hx1 => ?_) (fun hx1 => ?_)
              · have hx1 : x = "run" := by simpa using hx1
                refine ⟨_, rfl, D, _, _, v1, rfl, rfl, SqL.of hn3, at0, v1, d1, _, _, rfl, h1, fun H5 s5 => ?_⟩
                have q' := q _ (s13.trans s5)
                rw [isStepD_tuple] at q'
                simp only [isStepW_one hw, hx1, if_true] at q'
                exact q'
              · have hx1 : ¬ x = "run" := by simpa using hx1
                refine ⟨_, rfl, _, _, rfl, .inr (tu_SPEAKING T H3), rfl, rfl, _, rfl, ?_⟩
                have ein2 : inV (.str x) [V.str "answer", V.str "later", V.str "wake"] = (decide (x = "answer") || (decide (x = "later") || decide (x = "wake"))) := by
                  have z := inV_strs x ["answer", "later", "wake"]
                  simpa using z
                refine ite2 (fun h5 => ?_) (fun h5 => ?_)
                · have h6 : inV (.str x) [V.str "answer", V.str "later", V.str "wake"] = true := h5
                  rw [ein2] at h6
                  refine ⟨_, rfl, D, _, _, v1, rfl, rfl, SqL.of hn3, at0, v1, d1, rfl, h1, hf _ (by simp), fun H5 s5 => ?_⟩
                  have q' := q _ (s13.trans s5)
                  rw [isStepD_tuple] at q'
                  simp only [isStepW_one hw, hx1, if_false] at q'
                  rw [h6, Bool.true_and] at q'
                  exact q'
                · have h6 : inV (.str x) [V.str "answer", V.str "later", V.str "wake"] = false := eq_false_of_ne_true h5
                  rw [ein2] at h6
                  have q' := q _ s13
                  rw [isStepD_tuple] at q'
                  simp only [isStepW_one hw, hx1, if_false] at q'
                  rw [h6, Bool.false_and] at q'
                  exact q'
            · have hlr : rest.length ≠ 1 := by rw [← hlv]; exact hone
              have e9 : decide (V.int (vs.length : Int) = V.int 1) = false := decide_eq_false fun z => by
                injection z with z
                omega
              rw [e9]
              refine iteT ?_
              have q' := q _ s13
              rw [isStepD_tuple] at q'
              simp only [isStepW_len hw hlr] at q'
              exact q'
end
end KW
end
section
set_option Elab.async false
set_option linter.all false
set_option autoImplicit false
set_option maxRecDepth 100000
set_option maxHeartbeats 4000000
/-! what is evaluated while all that stood stays: more words -/
namespace KW
open PySem PySem.Spec PyProof.Rows L2 He KR Evl
section
variable {K : PySem.W.Frag} {σ : L2.St} {H H' : Hp} {ta tb tc te : TE} {t u : TT} {x y z v w' : V} {r r' : R2}
/-- an instance's fields: the class shows them -/
structure Flds (K : PySem.W.Frag) (C : Addr) (fs : List (Str × V)) : Prop where
  cl : Cls K C
  na : ∀ f v, fs.lookup f = some v → NoAttr K C f
theorem ev_fld {a C dx : Addr} {fs : List (Str × V)} {f : Str} (ha : Ev ta σ H (.ref a)) (ho : H a = some (.ins C dx fs)) (hC : Flds K C fs) (hl : fs.lookup f = some v) : Ev (tFld K ta f) σ H v := fun H1 e Q q =>
  ha H1 e _ fun H2 e2 => ⟨a, C, dx, fs, v, rfl, e2 _ _ (e _ _ ho), hC.cl, hC.na f v hl, hl, q H2 e2⟩
theorem ev_chain {k k2 : Bool} (ha : Ev ta σ H x) (hb : Ev tb σ H y) (h1 : RV r x y H (.bl k)) (hc : k = true → Ev tc σ H w') (h2 : k = true → RV r' y w' H (.bl k2)) : Ev (tChain r r' ta tb tc) σ H (.bl (k && k2)) := fun H1 e Q q =>
  ha H1 e _ fun H2 e2 => hb H2 (e.trans e2) _ fun H3 e3 => h1 H3 ((e.trans e2).trans e3) _ fun H4 e4 => ⟨k, rfl, by
    cases k with
    | true => exact hc rfl H4 (((e.trans e2).trans e3).trans e4) _ fun H5 e5 => h2 rfl H5 ((((e.trans e2).trans e3).trans e4).trans e5) Q fun H6 e6 => q H6 ((((e2.trans e3).trans e4).trans e5).trans e6)
    | false => exact q H4 ((e2.trans e3).trans e4)⟩
theorem rv_lt {i j : Int} : RV (rI0 fun i j => .bl (decide (i < j))) (.int i) (.int j) H (.bl (decide (i < j))) := rv_I0
theorem ex_tyx {t : Value} (e : Ex H H') (h : TyX K H x t) : TyX K H' x t := by
  cases h with
  | base b => exact .base (by
      cases b with
      | non => exact .non
      | bl b => exact .bl b
      | int b => exact .int b
      | str b => exact .str b
      | flt b => exact .flt b
      | lst h => exact .lst (e _ _ h)
      | frz h => exact .frz (e _ _ h)
      | tup h => exact .tup (e _ _ h)
      | dK h => exact .dK (e _ _ h)
      | dT h => exact .dT (e _ _ h)
      | ins h c a b d f => exact .ins (e _ _ h) c a b d f)
  | byt b => exact .byt b
  | set h => exact .set (e _ _ h)
  | kList a b => exact .kList a b
  | kTuple a b => exact .kTuple a b
  | kDict a b => exact .kDict a b
  | fTuple h => exact .fTuple (e _ _ h)
  | fDict h => exact .fDict (e _ _ h)
/-- isinstance(x, T) of data -/
theorem ev_isi {d : PyData} {b : String} (ha : Ev ta σ H x) (hd : Dp K H x d) (hb : b ∈ ["int", "bool", "str", "list", "tuple"] := by decide) : Ev (tCB (rIsi K) (tCons ta (tCons (tC (.ty b)) tNil))) σ H (.bl (isT (tyD d) b)) := fun H1 e Q q =>
  ha H1 e _ fun H2 e2 => ⟨x, _, _, _, _, rfl, .ty _, ex_tyx (e.trans e2) (dp_ty hd), kit_isT d b hb, q H2 e2⟩
/-- len of a list, a tuple -/
theorem ev_lenS {p : Addr} {xs : List V} (ha : Ev ta σ H (.ref p)) (h : SqL K H p xs ∨ SqT K H p xs) :
    Ev (tCB (fun xs H Q => ∃ p ys, xs = [.ref p] ∧ (SqL K H p ys ∨ SqT K H p ys) ∧ Q (.int ys.length) H) (tCons ta tNil)) σ H (.int (xs.length : Int)) := fun H1 e Q q =>
  ha H1 e _ fun H2 e2 => ⟨p, xs, rfl, h.imp (ex_l (e.trans e2)) (ex_t (e.trans e2)), q H2 e2⟩
theorem ev_lenN {xs : List V} (ha : EvL ta σ H xs) :
    Ev (tCB (fun xs H Q => ∃ p ys, xs = [.ref p] ∧ (SqL K H p ys ∨ SqT K H p ys) ∧ Q (.int ys.length) H) (tCons ta tNil)) σ H (.int (xs.length : Int)) := fun H1 e Q q =>
  ha H1 e _ fun p H2 _ e2 h2 => ⟨p, xs, rfl, Or.inl (sq_of h2), q H2 e2⟩
theorem ev_all {bs : List Bool} (ha : EvL ta σ H (bs.map V.bl)) : Ev (tCB (rAll K) (tCons ta tNil)) σ H (.bl (bs.all id)) := fun H1 e Q q =>
  ha H1 e _ fun p H2 _ e2 h2 => ⟨p, bs, rfl, sq_of h2, q H2 e2⟩
theorem ev_any {bs : List Bool} (ha : EvL ta σ H (bs.map V.bl)) : Ev (tCB (rAny K) (tCons ta tNil)) σ H (.bl (bs.any id)) := fun H1 e Q q =>
  ha H1 e _ fun p H2 _ e2 h2 => ⟨p, bs, rfl, sq_of h2, q H2 e2⟩
theorem ev_sum {ns : List Int} (ha : EvL ta σ H (ns.map V.int)) : Ev (tCB (rSum K) (tCons ta tNil)) σ H (.int ns.sum) := fun H1 e Q q =>
  ha H1 e _ fun p H2 _ e2 h2 => ⟨p, ns, rfl, sq_of h2, q H2 e2⟩
/-- a call of an own def that changes nothing -/
theorem sv_p {p : PyData → Bool} {d : PyData} (h : Dp K H v d) : SpV (spP K p) [v] H (.bl (p d)) := fun H1 e Q q E => ⟨v, d, rfl, dpM e h, fun H' s => q H' s⟩
theorem sv_within {d : PyData} {lo hi : Int} (h : Dp K H v d) : SpV (spWithin K) [v, .int lo, .int hi] H (.bl (withinD d lo hi)) := fun H1 e Q q E => ⟨v, d, lo, hi, rfl, dpM e h, fun H' s => q H' s⟩
theorem sv_name {d : PyData} (h : Dp K H v d) (f : fitD d) : SpV (spName K) [v] H (.bl (isNameD d)) := fun H1 e Q q E => ⟨v, d, rfl, dpM e h, f, fun H' s => q H' s⟩
theorem sv_step {d : PyData} (h : Dp K H v d) (f : fitT d) : SpV (spStep K) [v] H (.bl (isStepD d)) := fun H1 e Q q E => ⟨v, d, rfl, dpM e h, f, fun H' s => q H' s⟩
theorem ev_if' {a b : V} {k : Bool} (h : EvT t σ H k) (h1 : k = true → Ev ta σ H a) (h2 : k = false → Ev tb σ H b) : Ev (tIf t ta tb) σ H (if k = true then a else b) := ev_if h (fun e => by rw [if_pos e]; exact h1 e) (fun e => by rw [if_neg (by rw [e]; decide)]; exact h2 e)
/-- a comprehension over data: one value an item -/
theorem given_all {n : Nat} {f : Nat → Bool} {v : Nat → V} (h : ∀ i, i < n → f i = true) : given n f v = (List.range n).map v := by
  unfold given
  rw [List.filter_eq_self.mpr fun i hi => h i (List.mem_range.mp hi)]
theorem map_range {α : Type} {xs : List α} {g : Nat → V} {h : α → V} (e : ∀ i x, xs[i]? = some x → g i = h x) : (List.range xs.length).map g = xs.map h := by
  apply List.ext_getElem?
  intro i
  by_cases hi : i < xs.length
  · rw [List.getElem?_map, List.getElem?_map, List.getElem?_range hi]
    have q : xs[i]? = some xs[i] := List.getElem?_eq_getElem hi
    rw [q]
    show some (g i) = some (h xs[i])
    rw [e i _ q]
  · rw [List.getElem?_eq_none (by simp; omega), List.getElem?_eq_none (by simp; omega)]
theorem el_lcD {a : Addr} {xs : List V} {ds : List PyData} {tl : TE} {j : Nat} {vs : List Nat} (f : PyData → V) (h : Ev tl σ H (.ref a)) (hx : SqL K H a xs) (hd : DpAll K H xs ds) (hz : xs.length ≤ 40000) (hw : ∀ x, wipe ((wipe σ vs).set j (some x)) vs = wipe σ vs)
    (he : ∀ x d, d ∈ ds → Dp K H x d → Ev te ((wipe σ vs).set j (some x)) H (f d)) : EvL (tLc (iList K tl) (gName j) tYes te vs) σ H (ds.map f) := by
  have hl := dpLen hd
  have e := el_lcL (K := K) (σ := σ) (H := H) (te := te) (t := tYes) (tl := tl) (j := j) (vs := vs) (fun _ => true) (fun i => f (ds.getD i .none)) h hx hz hw (fun i x H1 e1 hi H2 e2 Q q => q H2 (Ex.refl _)) (fun i x H1 e1 hi _ => by
    obtain ⟨d, h1, h2⟩ := daG hd hi
    have e3 : ds.getD i .none = d := by rw [List.getD_eq_getElem?_getD, h1]; rfl
    rw [e3]
    exact (he x d (List.mem_of_getElem? h1) h2).mono e1)
  rw [given_all (fun _ _ => rfl), hl, map_range (h := f) fun i d hi => by rw [List.getD_eq_getElem?_getD, hi]; rfl] at e
  exact e
/-- over a tuple -/
theorem el_lcT {a : Addr} {xs : List V} {tl : TE} {j : Nat} {vs : List Nat} (f : Nat → Bool) (v : Nat → V) (h : Ev tl σ H (.ref a)) (hx : SqT K H a xs) (hz : xs.length ≤ 40000) (hw : ∀ x, wipe ((wipe σ vs).set j (some x)) vs = wipe σ vs)
    (ht : ∀ (i : Nat) (x : V) H1, Ex H H1 → xs[i]? = some x → EvT t ((wipe σ vs).set j (some x)) H1 (f i)) (he : ∀ (i : Nat) (x : V) H1, Ex H H1 → xs[i]? = some x → f i = true → Ev te ((wipe σ vs).set j (some x)) H1 (v i)) :
    EvL (tLc (iTup K tl) (gName j) t te vs) σ H (given xs.length f v) := fun H0 e Q q => h H0 e _ fun H1 e1 => ⟨a, rfl, ⟨xs, ex_t (e.trans e1) hx⟩, fun Dl hD =>
  lc_tup (xs := xs) (Cw H1 f v Dl) ⟨hD, Ex.new hD, upd_same⟩ (fun i H' _ p => ex_t ((e.trans e1).trans p.2.1) hx) (fun i x H' hi p => ⟨hw x, cw_turn p (by have := (List.getElem?_eq_some_iff.mp hi).1; omega) (ht i x H1 (e.trans e1) hi) (fun hf => he i x H1 (e.trans e1) hi hf)⟩)
    (fun H' p => q Dl H' (fresh_back e1 p.1) (e1.trans p.2.1) p.2.2)⟩
theorem el_lcDT {a : Addr} {xs : List V} {ds : List PyData} {tl : TE} {j : Nat} {vs : List Nat} (f : PyData → V) (h : Ev tl σ H (.ref a)) (hx : SqT K H a xs) (hd : DpAll K H xs ds) (hz : xs.length ≤ 40000) (hw : ∀ x, wipe ((wipe σ vs).set j (some x)) vs = wipe σ vs)
    (he : ∀ x d, d ∈ ds → Dp K H x d → Ev te ((wipe σ vs).set j (some x)) H (f d)) : EvL (tLc (iTup K tl) (gName j) tYes te vs) σ H (ds.map f) := by
  have hl := dpLen hd
  have e := el_lcT (K := K) (σ := σ) (H := H) (te := te) (t := tYes) (tl := tl) (j := j) (vs := vs) (fun _ => true) (fun i => f (ds.getD i .none)) h hx hz hw (fun i x H1 e1 hi H2 e2 Q q => q H2 (Ex.refl _)) (fun i x H1 e1 hi _ => by
    obtain ⟨d, h1, h2⟩ := daG hd hi
    have e3 : ds.getD i .none = d := by rw [List.getD_eq_getElem?_getD, h1]; rfl
    rw [e3]
    exact (he x d (List.mem_of_getElem? h1) h2).mono e1)
  rw [given_all (fun _ _ => rfl), hl, map_range (h := f) fun i d hi => by rw [List.getD_eq_getElem?_getD, hi]; rfl] at e
  exact e
theorem map_bl {ds : List PyData} {p : PyData → Bool} : ds.map (fun d => V.bl (p d)) = (ds.map p).map V.bl := by rw [List.map_map]; rfl
theorem all_map {ds : List PyData} {p : PyData → Bool} : (ds.map p).all id = ds.all p := by rw [List.all_map]; rfl
theorem any_map {ds : List PyData} {p : PyData → Bool} : (ds.map p).any id = ds.any p := by rw [List.any_map]; rfl
end
end KW
end
section
set_option Elab.async false
set_option linter.all false
set_option autoImplicit false
set_option maxRecDepth 100000
set_option maxHeartbeats 4000000
/-! steps.py: are_steps and the rest -/
namespace KW
open PySem PySem.Spec PyProof.Rows L2 He KR Evl
section
variable {P : Program} {w : World} {K : PySem.W.Frag} {mg : Str → Option Value} {base : Heap}
def fitL : PyData → Prop
  | .list ds => ds.length ≤ 10000 ∧ ∀ e ∈ ds, fitT e
  | _ => True
theorem wordD_get {d : PyData} (h : isStepD d = true) : ∃ r, d = .tuple (.str (wordD d) :: r) := by
  cases d with
  | tuple ds => cases ds with
    | nil => cases h
    | cons a r => cases a <;> first | exact ⟨_, rfl⟩ | (cases h)
  | _ => cases h
theorem step_at {H : Hp} {x : V} {d : PyData} (hd : Dp K H x d) (h : isStepD d = true) : ∃ a ws, x = .ref a ∧ SqT K H a (.str (wordD d) :: ws) := by
  obtain ⟨r, e⟩ := wordD_get h
  rw [e] at hd
  obtain ⟨a, xs, rfl, hx, ha⟩ := dpT hd
  obtain ⟨v, ws, rfl, h0, _⟩ := dpC ha
  rw [dpS h0] at hx
  exact ⟨a, ws, rfl, hx⟩
/-- step[0] -/
theorem ev_word {σ : L2.St} {H : Hp} {te : TE} {x : V} {d : PyData} (he : Ev te σ H x) (hd : Dp K H x d) (h : isStepD d = true) : Ev (tOp (rIxT K) te (tC (.int 0))) σ H (.str (wordD d)) := by
  obtain ⟨a, ws, rfl, hx⟩ := step_at hd h
  exact ev_op he ev_c (rv_ixT hx at0)
theorem sc_are_steps : FnScope ["thing", "step", "deep"] ["thing"] (defScope s_are_steps) := ⟨rfl, rfl, rfl, by decide +kernel, rfl, by decide +kernel, by decide +kernel⟩
def spSteps (K : PySem.W.Frag) : Sp := fun vs H Q _ => ∃ v d, vs = [v] ∧ (Dp K H v d ∨ (d = .dict [] ∧ ∃ a, v = .ref a ∧ H a = some (.dK []))) ∧ fitL d ∧ ∀ H', Same H H' → Q (.bl (areStepsD d)) H'
theorem ok_are_steps (T : Txt w K mg) : FnOk P w K mg base CX0 4 (f_are_steps K) (fdAt K (f_are_steps K)) ["thing"] (spSteps K) := by
  obtain ⟨tR, h_MOST_STEPS⟩ := in_MOST_STEPS T
  refine (df_are_steps T).ok sc_are_steps (fun vs H Q E h => ?_) (fun cdv A outer s H vs Q E hr h => ?_)
  · obtain ⟨v, d, rfl, _⟩ := h
    rfl
  · obtain ⟨v, d, rfl, hd, hf, q⟩ := h
    refine ⟨_, PSs.nox ((pss_cons (ps_if (PW.pt (pw_or (pt_not (pt_val (pe_callB (call_isiK1 (K := K) rfl) (by rfl) (fr_isinstance T) (by decide +kernel) (pa_cons (pv 0) (pa_cons (pe_bltn (v := .ty "list") (u := .type "list") (by rfl) (fr_list T) (by decide +kernel) rfl) pa_nil))))) (pw_or (pt_not (pt_chain op_le op_le pe_int (pe_callB (call_lenK (K := K) rfl) (by rfl) (fr_len T) PySem.boot_len (pa_cons (pv 0) pa_nil)) (pe_glob (v := .int 12) rfl h_MOST_STEPS ⟨_, rfl⟩))) (pw_or1 (pt_not (pt_val (pe_callB (cr_allK rfl (K := K) rfl) (by rfl) (fr_all T) (by decide +kernel) (pa_cons (pe_lc (own := [("step", 1)]) (g := gName 1) (tt := tYes) rfl sc_are_steps.nd (pi_listK (K := K) rfl (pv 0)) (blkOk_by (N := ["thing", "step", "deep"]) (sc := defScope s_are_steps) (by decide +kernel)) (fun _ _ _ _ _ => pg_name (i := 1) sc_are_steps.nd rfl (Or.inl rfl)) (fun _ _ _ _ _ => pts_nil) (fun _ _ _ _ _ => (pe_call (ok_is_step T) (hr.mono (by decide)) rfl (gl_is_step T) (df_is_step T).kp (bi_is_step T) .nil pass0 (pa_cons (pv 1) pa_nil)))) pa_nil)))))))) (pss_one (ps_ret pe_bl)) pss_nil)
      (pss_cons (ps_set (i := 2) sc_are_steps.nd rfl (Or.inl rfl) pe_int)
      (pss_cons (ps_for PassesOwn.never rfl (pi_listK (K := K) rfl (pv 0)) (pg_name (i := 1) sc_are_steps.nd rfl (Or.inl rfl)) (pss_cons (ps_aug (i := 2) sc_are_steps.nd rfl (Or.inl rfl) (pe_ifExp (pt_cmpR op_eq ((pe_ix (ix_tupK (K := K) rfl) (pv 1) pe_int (fun _ _ => rfl))) pe_str (nomark _)) pe_int (pe_ifExp (pt_cmpR op_eq ((pe_ix (ix_tupK (K := K) rfl) (pv 1) pe_int (fun _ _ => rfl))) pe_str (nomark _)) (pe_un un_neg pe_int) pe_int)) ip_add)
      (pss_one (ps_if (pt_cmpR op_lt (pv 2) pe_int (nomark _)) (pss_one (ps_ret pe_bl)) pss_nil))))
      (pss_one (ps_ret (pe_callB (cr_anyK rfl (K := K) rfl) (by rfl) (fr_any T) (by decide +kernel) (pa_cons (pe_lc (own := [("step", 1)]) (g := gName 1) (tt := tYes) rfl sc_are_steps.nd (pi_listK (K := K) rfl (pv 0)) (blkOk_by (N := ["thing", "step", "deep"]) (sc := defScope s_are_steps) (by decide +kernel)) (fun _ _ _ _ _ => pg_name (i := 1) sc_are_steps.nd rfl (Or.inl rfl)) (fun _ _ _ _ _ => pts_nil) (fun _ _ _ _ _ => (pe_cmpR op_eq ((pe_ix (ix_tupK (K := K) rfl) (pv 1) pe_int (fun _ _ => rfl))) pe_str (nomark _)))) pa_nil)))))))), ?_⟩
    by_cases hL : isT (tyD d) "list" = true
    · obtain ⟨ds, rfl⟩ : ∃ ds, d = .list ds := by cases d <;> first | exact ⟨_, rfl⟩ | (cases hL)
      have hd : Dp K H v (.list ds) := by
        rcases hd with h | ⟨h, _⟩
        · exact h
        · cases h
      obtain ⟨hl, hf⟩ := hf
      obtain ⟨a, xs, rfl, hx, ha⟩ := dpL hd
      have hlen := dpLen ha
      refine q_when (b := !(true) || (!(decide ((1 : Int) ≤ (xs.length : Int)) && decide ((xs.length : Int) ≤ 12)) || !(ds.all isStepD))) ?_ (fun hb H1 e1 => ?_) (fun hb H1 e1 => ?_)
      · refine et_or (et_not (et_B (ev_is (ev_isi (ev_var rfl) hd) rfl))) fun _ => ?_
        refine et_or (et_not (et_test (ev_chain ev_c (ev_lenS (ev_var rfl) (.inl hx)) rv_I0 (fun _ => ev_c) (fun _ => rv_I0)))) fun _ => ?_
        refine et_not (et_B (ev_is (ev_all (bs := ds.map isStepD) (by
          rw [← map_bl]
          exact el_lcD (fun d => V.bl (isStepD d)) (ev_var rfl) hx ha (by omega) (fun _ => rfl) fun x d hm hd => ev_call (ea_cons (ev_var rfl) ea_nil) (sv_step hd (hf d hm)))) (by rw [all_map])))
      · refine s_ret ev_c fun H2 e2 => ?_
        have q' := q _ (e1.trans e2)
        have e : areStepsD (.list ds) = false := by
          show areStepsL ds = false
          unfold areStepsL
          rw [← hlen]
          cases h1 : (decide ((1 : Int) ≤ (xs.length : Int)) && decide ((xs.length : Int) ≤ 12)) with
          | false => rw [Bool.false_and]
          | true => cases h2 : ds.all isStepD with
            | false => rw [Bool.false_and, Bool.and_false]
            | true => rw [h1, h2] at hb; cases hb
        rw [e] at q'
        exact q'
      · -- deep
        have hb2 : ((decide ((1 : Int) ≤ (xs.length : Int)) && decide ((xs.length : Int) ≤ 12)) && ds.all isStepD) = true := by
          cases h1 : (decide ((1 : Int) ≤ (xs.length : Int)) && decide ((xs.length : Int) ≤ 12)) with
          | false => rw [h1] at hb; cases hb
          | true => cases h2 : ds.all isStepD with
            | false => rw [h1, h2] at hb; cases hb
            | true => rfl
        obtain ⟨_, hall⟩ := ba hb2
        have hst : ∀ d ∈ ds, isStepD d = true := List.all_eq_true.mp hall
        refine q_asg ev_c fun H2 e2 => ?_
        have e12 := e1.trans e2
        refine q_forLn (ev_var rfl) ((e12.trans (Ex.refl _)) |> fun e => ex_l e hx) (fun i σ' H' => ∃ st dp, σ' = [some (.ref a), st, some (.int dp)] ∧ Ex H H' ∧ deepOk ds 0 = deepOk (ds.drop i) dp) (fun H3 e3 => ⟨_, 0, rfl, e12.trans e3, rfl⟩)
          (fun i σ' H' _ ⟨_, _, _, e, _⟩ => ex_l e hx) (fun i x σ' H' hi ⟨st, dp, es, e, hdp⟩ => ?_) (fun σ' H' ⟨st, dp, es, e, hdp⟩ => ?_)
        · subst es
          obtain ⟨d, hdi, hxd⟩ := daG ha hi
          have hm : d ∈ ds := List.mem_of_getElem? hdi
          have hw : Ev (tOp (rIxT K) (tVar 1) (tC (.int 0))) [some (.ref a), some x, some (.int dp)] H' (.str (wordD d)) := ev_word (ev_var rfl) (dpM e hxd) (hst d hm)
          have edr : ds.drop i = d :: ds.drop (i + 1) := by
            obtain ⟨hlt, e⟩ := List.getElem?_eq_some_iff.mp hdi
            rw [List.drop_eq_getElem_cons hlt, e]
          have hdp2 : deepOk ds 0 = if dp + deepOf (wordD d) < 0 then false else deepOk (ds.drop (i + 1)) (dp + deepOf (wordD d)) := by rw [hdp, edr]; rfl
          refine q_aug (b := deepOf (wordD d)) rfl ?_ fun H3 e3 => ?_
          · refine ev_is (ev_if' (et_test (ev_is (ev_op hw ev_c (rv_eq rfl)) rfl)) (fun _ => ev_c) fun _ => ev_if' (et_test (ev_is (ev_op hw ev_c (rv_eq rfl)) rfl)) (fun _ => ev_un ev_c ru_neg) (fun _ => ev_c)) ?_
            unfold deepOf
            generalize wordD d = y
            by_cases h1 : y = "mask"
            · subst h1; rfl
            · by_cases h2 : y = "open"
              · subst h2; rfl
              · have n1 : ¬ V.str y = V.str "mask" := fun e => h1 (V.str.inj e)
                have n2 : ¬ V.str y = V.str "open" := fun e => h2 (V.str.inj e)
                simp [h1, h2, n1, n2]
          · refine s_when (et_test (ev_op (ev_var rfl) ev_c rv_I0)) (fun hb H4 e4 => ?_) fun hb H4 e4 => ?_
            · refine s_ret ev_c fun H5 e5 => ?_
              have q' := q _ (((e.trans e3).trans e4).trans e5)
              have e6 : areStepsD (.list ds) = false := by
                show areStepsL ds = false
                unfold areStepsL
                rw [hdp2, if_pos (of_decide_eq_true hb), Bool.false_and, Bool.and_false, Bool.and_false]
              rw [e6] at q'
              exact q'
            · exact ⟨_, _, rfl, (e.trans e3).trans e4, by rw [hdp2, if_neg (of_decide_eq_false hb)]⟩
        · subst es
          have hdp : deepOk ds 0 = true := by rw [hdp, dpLen ha, List.drop_length]; rfl
          refine s_ret (ev_any (bs := ds.map fun s => decide (wordD s = "run")) (by
            rw [← map_bl]
            refine el_lcD (fun s => V.bl (decide (wordD s = "run"))) (ev_var rfl) (ex_l e hx) (daM e ha) (by omega) (fun _ => rfl) fun x d hm hd => ev_is (ev_op (ev_word (ev_var rfl) hd (hst d hm)) ev_c (rv_eq rfl)) ?_
            by_cases h1 : wordD d = "run"
            · rw [h1]; rfl
            · have n1 : ¬ V.str (wordD d) = V.str "run" := fun e => h1 (V.str.inj e)
              simp [h1, n1])) fun H2 e2 => ?_
          have q' := q _ (e.trans e2)
          have e6 : areStepsD (.list ds) = (ds.map fun s => decide (wordD s = "run")).any id := by
            show areStepsL ds = _
            unfold areStepsL
            rw [any_map, hdp, ← hlen]
            obtain ⟨h1, h2⟩ := ba hb2
            rw [h1, h2]
            simp
          rw [e6] at q'
          exact q'
    · have e0 : areStepsD d = false := by cases d <;> first | rfl | (exact absurd rfl hL)
      have hL : isT (tyD d) "list" = false := by cases z : isT (tyD d) "list" <;> first | rfl | exact absurd z hL
      have hti : Ev (tCB (rIsi K) (tCons (tVar 0) (tCons (tC (.ty "list")) tNil))) [some v, none, none] H (.bl false) := by
        rcases hd with hd | ⟨rfl, a, rfl, hz⟩
        · exact ev_is (ev_isi (ev_var rfl) hd) (by rw [hL])
        · exact fun H1 e Q q => (ev_var rfl : Ev (tVar 0) [some (.ref a), none, none] H (.ref a)) H1 e _ fun H2 e2 => ⟨.ref a, _, _, _, _, rfl, .ty _, .base (.dK ((e.trans e2) _ _ hz)), rfl, q H2 e2⟩
      refine q_when (b := true) (et_is (et_or (et_not (et_B hti)) (b := true) (fun h => by cases h)) rfl) (fun _ H1 e1 => ?_) (fun h => by cases h)
      refine s_ret ev_c fun H2 e2 => ?_
      have q' := q _ (e1.trans e2)
      rw [e0] at q'
      exact q'
end
end KW
end
section
set_option Elab.async false
set_option linter.all false
set_option autoImplicit false
set_option maxRecDepth 100000
set_option maxHeartbeats 4000000
/-! data of bounded size; the promise of a look -/
namespace KW
open PySem PySem.Spec PyProof.Rows L2 He KR Evl
mutual
def Sm : PyData → Prop
  | .str x => x.length ≤ 10000
  | .list ds => ds.length ≤ 10000 ∧ SmA ds
  | .tuple ds => ds.length ≤ 10000 ∧ SmA ds
  | _ => True
def SmA : List PyData → Prop
  | [] => True
  | d :: r => Sm d ∧ SmA r
end
theorem SmA_mem : ∀ {ds : List PyData}, SmA ds → ∀ d ∈ ds, Sm d
  | [], _, _, h => nomatch h
  | d :: r, h, e, he => by
    unfold SmA at h
    rcases List.mem_cons.mp he with rfl | he
    · exact h.1
    · exact SmA_mem h.2 e he
theorem Sm_tup {ds : List PyData} (h : Sm (.tuple ds)) : ds.length ≤ 10000 ∧ SmA ds := by unfold Sm at h; exact h
theorem Sm_list {ds : List PyData} (h : Sm (.list ds)) : ds.length ≤ 10000 ∧ SmA ds := by unfold Sm at h; exact h
theorem Sm_str {x : Str} (h : Sm (.str x)) : x.length ≤ 10000 := by unfold Sm at h; exact h
theorem Sm_fitD {d : PyData} (h : Sm d) : fitD d := by
  cases d with
  | str x => have := Sm_str h; show x.length ≤ 100000; omega
  | _ => trivial
theorem Sm_fitT {d : PyData} (h : Sm d) : fitT d := by
  cases d with
  | tuple ds => obtain ⟨a, b⟩ := Sm_tup h; exact ⟨a, fun e he => Sm_fitD (SmA_mem b e he)⟩
  | _ => trivial
theorem Sm_fitL {d : PyData} (h : Sm d) : fitL d := by
  cases d with
  | list ds => obtain ⟨a, b⟩ := Sm_list h; exact ⟨a, fun e he => Sm_fitT (SmA_mem b e he)⟩
  | _ => trivial
section
variable {P : Program} {w : World} {K : PySem.W.Frag} {mg : Str → Option Value} {base : Heap} {H H' : Hp} {v : V}
/-- a look at a thing -/
def spQ (K : PySem.W.Frag) (p : PyData → Bool) : Sp := fun vs H Q _ => ∃ v d, vs = [v] ∧ Dp K H v d ∧ Sm d ∧ ∀ H', Same H H' → Q (.bl (p d)) H'
theorem sv_q {p : PyData → Bool} {d : PyData} (h : Dp K H v d) (f : Sm d) : SpV (spQ K p) [v] H (.bl (p d)) := fun H1 e Q q E => ⟨v, d, rfl, dpM e h, f, fun H' s => q H' s⟩
/-- if ..: return False -/
theorem ret_no {tt : TT} {tz : TS} {σ : L2.St} {n : L2.St → Hp → Prop} {Q : VK} {b : Bool} (q : ∀ H', Same H H' → Q (.bl b) H') (e : b = false) (ht : EvT tt σ H true) : tSeq (tIfS tt (tRet (tC (.bl false))) tNext) tz { nx := n, rt := Q } σ H := by
  refine q_when ht (fun _ H1 e1 => s_ret ev_c fun H2 e2 => ?_) fun h => by cases h
  have q' := q _ (e1.trans e2)
  rw [e] at q'
  exact q'
theorem not_tup {d : PyData} (h : ¬ ∃ ds, d = .tuple ds) : isT (tyD d) "tuple" = false := by cases d <;> first | rfl | exact absurd ⟨_, rfl⟩ h
theorem int_ne {n : Nat} {k : Nat} (h : ¬ n = k) : decide (V.int (n : Int) = V.int (k : Int)) = false := decide_eq_false fun e => h (by have := V.int.inj e; omega)
theorem isT_bool {d : PyData} : isT (tyD d) "bool" = isBoolD d := by cases d <;> rfl
theorem eu_slT {te : TE} {σ : L2.St} {tl th : TO} {a : Addr} {xs : List V} {lo hi : Option Int} (h : Ev te σ H (.ref a)) (h1 : EvO tl σ H lo) (h2 : EvO th σ H hi) (hs : SqT K H a xs) (hn : ¬ (HT.sIx xs.length 0 lo = 0 ∧ HT.sIx xs.length xs.length hi = xs.length)) : EvU (tSl (rSlT K) te tl th) σ H (cutV xs lo hi) := fun H1 e _ q =>
  h H1 e _ fun H2 e2 => h1 H2 (e.trans e2) _ fun H3 e3 => h2 H3 ((e.trans e2).trans e3) _ fun H4 e4 => ⟨a, xs, rfl, ex_t (((e.trans e2).trans e3).trans e4) hs, hn, fun p hp => q p _ (fresh_back ((e2.trans e3).trans e4) hp) (((e2.trans e3).trans e4).trans (Ex.new hp)) upd_same⟩
/-- a comprehension over a new tuple of data -/
theorem el_lcUT {te : TE} {σ : L2.St} {xs : List V} {ds : List PyData} {tl : TE} {j : Nat} {vs : List Nat} (f : PyData → V) (h : EvU tl σ H xs) (hd : DpAll K H xs ds) (hz : xs.length ≤ 40000) (hw : ∀ x, wipe ((wipe σ vs).set j (some x)) vs = wipe σ vs)
    (he : ∀ H1, Ex H H1 → ∀ x d, d ∈ ds → Dp K H1 x d → Ev te ((wipe σ vs).set j (some x)) H1 (f d)) : EvL (tLc (iTup K tl) (gName j) tYes te vs) σ H (ds.map f) := fun H0 e Q q => h H0 e _ fun a H1 hn e1 hx => by
  have e2 : Ex H H1 := e.trans e1
  refine el_lcDT (K := K) (σ := σ) (H := H1) (te := te) (tl := fun _ H Q => Q (.ref a) H) (a := a) (xs := xs) (ds := ds) f (fun H2 _ Q q => q H2 (Ex.refl _)) (st_of hx) (daM e2 hd) hz hw (fun x d hm hxd => he H1 e2 x d hm hxd) H1 (Ex.refl _) Q fun p H2 hp e3 hx2 => q p H2 (fresh_back e1 hp) (e1.trans e3) hx2
theorem okq_is_name (T : Txt w K mg) : FnOk P w K mg base CX0 1 (f_is_name K) (fdAt K (f_is_name K)) ["thing"] (spQ K isNameD) := (ok_is_name T).imp fun vs H Q E h => by
  obtain ⟨v, d, e, hd, hs, q⟩ := h
  exact ⟨v, d, e, hd, Sm_fitD hs, q⟩
theorem okq_are_steps (T : Txt w K mg) : FnOk P w K mg base CX0 4 (f_are_steps K) (fdAt K (f_are_steps K)) ["thing"] (spQ K areStepsD) := (ok_are_steps T).imp fun vs H Q E h => by
  obtain ⟨v, d, e, hd, hs, q⟩ := h
  exact ⟨v, d, e, .inl hd, Sm_fitL hs, q⟩
end
end KW
end
section
set_option Elab.async false
set_option linter.all false
set_option autoImplicit false
set_option maxRecDepth 100000
set_option maxHeartbeats 1000000
/-! how many unlike keys: len of a set comprehension -/
namespace KW
open PySem PySem.Spec PyProof.Rows L2 He KR Evl
def inK (k : L2.Key) : List L2.Key → Bool
  | [] => false
  | x :: r => decide (k = x) || inK k r
theorem inK_iff {k : L2.Key} : ∀ {l : List L2.Key}, inK k l = true ↔ k ∈ l
  | [] => by simp [inK]
  | x :: r => by simp [inK, inK_iff (l := r)]
theorem inK_app {k x : L2.Key} : ∀ {l : List L2.Key}, inK k (l ++ [x]) = (inK k l || decide (k = x))
  | [] => by simp [inK]
  | y :: r => by
    show (decide (k = y) || inK k (r ++ [x])) = ((decide (k = y) || inK k r) || decide (k = x))
    rw [inK_app (l := r), Bool.or_assoc]
/-- how many unlike ones, seen from the last on -/
def dcr : List L2.Key → Nat
  | [] => 0
  | k :: r => if inK k r = true then dcr r else dcr r + 1
def dc (ks : List L2.Key) : Nat := dcr ks.reverse
theorem dcr_le : ∀ l : List L2.Key, dcr l ≤ l.length
  | [] => Nat.le_refl _
  | k :: r => by
    have := dcr_le r
    unfold dcr
    split <;> simp <;> omega
theorem dcr_eq : ∀ l : List L2.Key, dcr l = l.length ↔ l.Nodup
  | [] => by simp [dcr]
  | k :: r => by
    have h1 := dcr_le r
    have h2 := dcr_eq r
    unfold dcr
    by_cases hk : inK k r = true
    · rw [if_pos hk]
      have := inK_iff.mp hk
      simp [this]
      omega
    · rw [if_neg hk]
      have : ¬ k ∈ r := fun e => hk (inK_iff.mpr e)
      simp [this, h2]
theorem dc_eq (l : List L2.Key) : dc l = l.length ↔ l.Nodup := by
  unfold dc
  have := dcr_eq l.reverse
  rw [List.length_reverse] at this
  exact this.trans ⟨fun h => (List.pairwise_reverse.mp h).imp fun e => Ne.symm e, fun h => List.pairwise_reverse.mpr (h.imp fun e => Ne.symm e)⟩
theorem dc_le (l : List L2.Key) : dc l ≤ l.length := by
  have := dcr_le l.reverse
  rw [List.length_reverse] at this
  exact this
section
variable {P : Program} {w : World} {K : PySem.W.Frag} {σ : L2.St} {H H' : Hp} {te : TE}
theorem sc_core {J : It} {ks : List L2.Key} {j : Nat} {vs : List Nat} {H1 : Hp} {D : Addr} {Q : VK} (hD : H1 D = none) (hz : ks.length ≤ 1000) (hw : ∀ x, wipe ((wipe σ vs).set j (some x)) vs = wipe σ vs)
    (hgo : ∀ i H', i < ks.length → Ex H1 H' → J.go i H') (hstop : ∀ H', Ex H1 H' → J.stop ks.length H') (hst : ∀ i x H' H2, i < ks.length → Ex H1 H' → J.yld i H' x H2 → H2 = H' ∧ ∀ k, ks[i]? = some k → Ev te ((wipe σ vs).set j (some x)) H1 (kV k))
    (hq : ∀ H', Ex H1 H' → H' D = some (SetK P w D (fun k => inK k ks) (dc ks)) → Q (.ref D) H') :
    ∃ W : Nat → Nat → Hp → Prop, (∃ m, W 0 m (upd H1 D (SetK P w D (fun _ => false) 0))) ∧ ∀ i m H, W i m H →
      (J.stop i H ∧ Q (.ref D) H) ∨ (J.go i H ∧ ∃ Nx : Hp → Prop, (∀ H', Nx H' → ∃ m', m' < m ∧ W (i + 1) m' H') ∧ ∀ x H', J.yld i H x H' → gName j x (wipe σ vs) H' fun σ2 H2 => wipe σ2 vs = wipe σ vs ∧ tYes σ2 H2 fun b H3 =>
        if b = true then te σ2 H3 fun y H4 => rSAddK P w (.ref D) [y] H4 fun _ H5 => Nx H5 else Nx H3) := by
  refine ⟨fun i m H => m = ks.length - i ∧ i ≤ ks.length ∧ Ex H1 H ∧ H D = some (SetK P w D (fun k => inK k (ks.take i)) (dc (ks.take i))), ⟨ks.length, by simp, Nat.zero_le _, Ex.new hD, by
    rw [upd_same, List.take_zero]
    rfl⟩, ?_⟩
  rintro i m H ⟨rfl, hi, e, hS⟩
  by_cases hlt : i < ks.length
  · refine .inr ⟨hgo i H hlt e, fun H' => (i + 1) ≤ ks.length ∧ Ex H1 H' ∧ H' D = some (SetK P w D (fun k => inK k (ks.take (i + 1))) (dc (ks.take (i + 1)))), fun H' ⟨h1, h2, h3⟩ => ⟨ks.length - (i + 1), by omega, rfl, h1, h2, h3⟩, fun x H' y => ?_⟩
    obtain ⟨rfl, hk⟩ := hst i x H H' hlt e y
    refine ⟨hw x, ?_⟩
    show te _ H' _
    have hki : ks[i]? = some ks[i] := List.getElem?_eq_getElem hlt
    refine hk _ hki H' e _ fun H4 e4 => ⟨D, ks[i], _, _, rfl, rfl, e4 _ _ hS, ?_, hlt, Ex.mut (e.trans e4) hD, ?_⟩
    · have h1 := dc_le (ks.take i)
      have h2 : (ks.take i).length ≤ i := by rw [List.length_take]; omega
      have : (2000 : Nat) < scanBound := by decide
      omega
    · rw [upd_same]
      have e1 : ks.take (i + 1) = ks.take i ++ [ks[i]] := by rw [List.take_add_one, hki]; rfl
      have e2 : (fun j : L2.Key => inK j (ks.take i) || decide (j = ks[i])) = fun j => inK j (ks.take (i + 1)) := by
        funext j
        rw [e1, inK_app]
      rw [e2]
      have e3 : (if inK ks[i] (ks.take i) = true then dc (ks.take i) else dc (ks.take i) + 1) = dc (ks.take (i + 1)) := by
        rw [e1]
        unfold dc
        rw [List.reverse_append]
        show _ = dcr (ks[i] :: (ks.take i).reverse)
        have e4 : inK ks[i] (ks.take i).reverse = inK ks[i] (ks.take i) := by
          rw [Bool.eq_iff_iff, inK_iff, inK_iff, List.mem_reverse]
        show _ = if inK ks[i] (ks.take i).reverse = true then dcr (ks.take i).reverse else dcr (ks.take i).reverse + 1
        rw [e4]
      rw [e3]
  · have : i = ks.length := by omega
    subst this
    refine .inl ⟨hstop H e, hq H e ?_⟩
    rw [hS, List.take_length]
/-- len({e for x in l}) of a list -/
theorem ev_lenScL {a : Addr} {xs : List V} {ks : List L2.Key} {tl : TE} {j : Nat} {vs : List Nat} (h : Ev tl σ H (.ref a)) (hx : SqL K H a xs) (hl : xs.length = ks.length) (hz : ks.length ≤ 1000) (hw : ∀ x, wipe ((wipe σ vs).set j (some x)) vs = wipe σ vs)
    (he : ∀ (i : Nat) (x : V) (k : L2.Key), xs[i]? = some x → ks[i]? = some k → Ev te ((wipe σ vs).set j (some x)) H (kV k)) :
    Ev (tCB (fun xs H Q => ∃ (a : Addr) (S : L2.Key → Bool) (n : Nat), xs = [.ref a] ∧ H a = some (SetK P w a S n) ∧ Q (.int n) H) (tCons (tScK P w (iList K tl) (gName j) tYes te vs) tNil)) σ H (.int (dc ks : Nat)) := fun H0 e Q q => h H0 e _ fun H1 e1 => ⟨a, rfl, ⟨xs, ex_l (e.trans e1) hx⟩, fun D hD => by
  refine sc_core (P := P) (w := w) (te := te) (J := Itl K a) (ks := ks) (Q := fun x H1 => ∃ (a : Addr) (S : L2.Key → Bool) (n : Nat), [x] = [V.ref a] ∧ H1 a = some (SetK P w a S n) ∧ Q (.int n) H1) hD hz hw (fun i H' hi e2 => ?_) (fun H' e2 => ?_) (fun i x H' H2 hi e2 y => ?_) (fun H' e2 hS => ?_)
  · exact ⟨xs, xs[i]'(by omega), ex_l ((e.trans e1).trans e2) hx, List.getElem?_eq_getElem (by omega)⟩
  · exact ⟨xs, ex_l ((e.trans e1).trans e2) hx, by omega⟩
  · obtain ⟨rfl, y⟩ := y
    exact ⟨rfl, fun k hk => (he i x k (y xs (ex_l ((e.trans e1).trans e2) hx)) hk).mono (e.trans e1)⟩
  · exact ⟨D, _, _, rfl, hS, q H' (e1.trans e2)⟩⟩
theorem ev_lenScT {a : Addr} {xs : List V} {ks : List L2.Key} {tl : TE} {j : Nat} {vs : List Nat} (h : Ev tl σ H (.ref a)) (hx : SqT K H a xs) (hl : xs.length = ks.length) (hz : ks.length ≤ 1000) (hw : ∀ x, wipe ((wipe σ vs).set j (some x)) vs = wipe σ vs)
    (he : ∀ (i : Nat) (x : V) (k : L2.Key), xs[i]? = some x → ks[i]? = some k → Ev te ((wipe σ vs).set j (some x)) H (kV k)) :
    Ev (tCB (fun xs H Q => ∃ (a : Addr) (S : L2.Key → Bool) (n : Nat), xs = [.ref a] ∧ H a = some (SetK P w a S n) ∧ Q (.int n) H) (tCons (tScK P w (iTup K tl) (gName j) tYes te vs) tNil)) σ H (.int (dc ks : Nat)) := fun H0 e Q q => h H0 e _ fun H1 e1 => ⟨a, rfl, ⟨xs, ex_t (e.trans e1) hx⟩, fun D hD => by
  refine sc_core (P := P) (w := w) (te := te) (J := Itt K a) (ks := ks) (Q := fun x H1 => ∃ (a : Addr) (S : L2.Key → Bool) (n : Nat), [x] = [V.ref a] ∧ H1 a = some (SetK P w a S n) ∧ Q (.int n) H1) hD hz hw (fun i H' hi e2 => ?_) (fun H' e2 => ?_) (fun i x H' H2 hi e2 y => ?_) (fun H' e2 hS => ?_)
  · exact ⟨xs, xs[i]'(by omega), ex_t ((e.trans e1).trans e2) hx, List.getElem?_eq_getElem (by omega)⟩
  · exact ⟨xs, ex_t ((e.trans e1).trans e2) hx, by omega⟩
  · obtain ⟨rfl, y⟩ := y
    exact ⟨rfl, fun k hk => (he i x k (y xs (ex_t ((e.trans e1).trans e2) hx)) hk).mono (e.trans e1)⟩
  · exact ⟨D, _, _, rfl, hS, q H' (e1.trans e2)⟩⟩
theorem ev_callL {i : Nat} {f : Addr} {sp : Sp} {dvs vs : List V} {E : XK} {ta : TA} {v : V} (hi : σ[i]? = some (some (.ref f))) (h : EvA ta σ H vs) (hs : SpV sp (vs ++ dvs) H v) : Ev (tCallL i f sp dvs E ta) σ H v := fun H1 e Q q =>
  ⟨hi, h H1 e _ fun H2 e2 => hs H2 (e.trans e2) Q (fun H3 e3 => q H3 (e2.trans e3)) E⟩
theorem dc_nodup {α : Type} [DecidableEq α] {f : α → L2.Key} (hf : ∀ a b, f a = f b → a = b) (l : List α) : decide (V.int (dc (l.map f) : Nat) = V.int (l.length : Nat)) = decide l.Nodup := by
  have h := dc_eq (l.map f)
  rw [List.length_map] at h
  have h2 : (l.map f).Nodup ↔ l.Nodup := by
    show List.Pairwise _ (l.map f) ↔ List.Pairwise _ l
    rw [List.pairwise_map]
    exact ⟨fun z => z.imp fun e x => e (congrArg f x), fun z => z.imp fun e x => e (hf _ _ x)⟩
  rw [h2] at h
  by_cases hn : l.Nodup
  · rw [decide_eq_true hn, h.mpr hn]
    exact decide_eq_true rfl
  · rw [decide_eq_false hn]
    exact decide_eq_false fun e => hn (h.mp (by have := V.int.inj e; omega))
/-- isinstance(x, (list, tuple)) of data -/
theorem ev_isiT {d : PyData} {x : V} {ta : TE} {b c : String} (ha : Ev ta σ H x) (hd : Dp K H x d) (hb : b ∈ ["int", "bool", "str", "list", "tuple"] := by decide) (hc : c ∈ ["int", "bool", "str", "list", "tuple"] := by decide) :
    Ev (tCB (rIsiT K) (tCons ta (tCons (tTup (tCons (tC (.ty b)) (tCons (tC (.ty c)) tNil))) tNil))) σ H (.bl (isT (tyD d) b || isT (tyD d) c)) := fun H1 e Q q =>
  ha H1 e _ fun H2 e2 => ⟨show [V.ty b, V.ty c].length ≤ sizeLine by rw [sizeLine_eq]; show 2 ≤ _; decide, fun p hp => ⟨x, p, _, _, _, _, rfl, upd_same, .cons (.ty _) (.cons (.ty _) .nil), ex_tyx ((e.trans e2).trans (Ex.new hp)) (dp_ty hd), by
    have h1 := kit_isT (K := K) d b hb
    have h2 := kit_isT (K := K) d c hc
    simp only [PySem.W.kitAny, h1, h2]
    cases isT (tyD d) b <;> cases isT (tyD d) c <;> rfl, q _ (e2.trans (Ex.new hp))⟩⟩
end
end KW
end
section
set_option Elab.async false
set_option linter.all false
set_option autoImplicit false
set_option maxRecDepth 100000
set_option maxHeartbeats 1000000
/-! zip of a tuple and a list -/
namespace KW
open PySem PySem.Spec PyProof.Rows L2 He KR Evl
def ItM (K : PySem.W.Frag) (a b : Addr) : It where
  go := fun i H => ∃ (xs ys : List V) (x y : V), (SqT K H a xs ∧ xs[i]? = some x) ∧ SqL K H b ys ∧ ys[i]? = some y
  yld := fun i H v H' => ∃ T x y, v = .ref T ∧ H T = none ∧ H' = upd H T (.tup [x, y]) ∧ (∀ xs, SqT K H a xs → xs[i]? = some x) ∧ ∀ ys, SqL K H b ys → ys[i]? = some y
  stop := fun i H => ∃ xs ys : List V, (SqT K H a xs ∧ SqL K H b ys) ∧ (i = xs.length ∨ i = ys.length) ∧ i ≤ xs.length ∧ i ≤ ys.length
theorem turn_M {P : Program} {w : World} {K : PySem.W.Frag} {elts : List Expr} {kk : Nat} {tpos : Pos} {a b z TI TO i1 i2 : Addr} (S : ZipSep2 z TI TO i1 i2 [i1, a] [i2, b]) :
    Turn P w K (.Tuple elts kk tpos) (ItM K a b) [z, TI, TO, i1, i2] z (fun i h => (IsZip h z TI TO .none ∧ IsTupOf2 h TI (.ref i1) (.ref i2)) ∧ (∃ x y, IsTupOf2 h TO x y) ∧ h.IsTupleIter i1 a i ∧ h.IsListIter i2 b i) := by
  have five : ∀ {c : Addr}, c ∈ [z, TI, TO, i1, i2] → c = z ∨ c = TI ∨ c = TO ∨ c = i1 ∨ c = i2 := fun h => by simpa using h
  have m1 := S.zf1
  have m2 := S.Tf1
  have m3 := S.zf2
  have m4 := S.Tf2
  simp only [List.mem_cons, List.not_mem_nil, or_false, not_or] at m1 m2 m3 m4
  refine ⟨by simp, fun i h st c hc => ?_, fun i h h' st k => ?_, ?_, ?_, fun A i s Q E st h => wpAny_pyIter_zip st.1.1 h⟩
  · obtain ⟨⟨g1, g2⟩, ⟨x, y, g3⟩, ⟨o1, e1, _, d1⟩, ⟨o2, e2, _, d2⟩⟩ := st
    rcases five hc with rfl | rfl | rfl | rfl | rfl
    · exact ⟨_, g1, fun v q => nomatch q⟩
    · exact ⟨_, g2, fun v q => nomatch q⟩
    · exact ⟨_, g3, fun v q => nomatch q⟩
    · exact ⟨o1, e1, fun v q => by rw [d1] at q; cases q⟩
    · exact ⟨o2, e2, fun v q => by rw [d2] at q; cases q⟩
  · obtain ⟨⟨g1, g2⟩, ⟨x, y, g3⟩, g4, g5⟩ := st
    exact ⟨⟨k z (by simp) _ g1, k TI (by simp) _ g2⟩, ⟨x, y, k TO (by simp) _ g3⟩, g4.at fun o q => k i1 (by simp) o q, g5.at fun o q => k i2 (by simp) o q⟩
  · intro X hP hw hK hc i pins s σ H E I hf st hg
    subst hP hw hK
    obtain ⟨⟨g1, g2⟩, ⟨x0, y0, g3⟩, g4, g5⟩ := st
    obtain ⟨xs, ys, x, y, ⟨hqx, hx⟩, hqy, hy⟩ := hg
    obtain ⟨us, rv, p, _⟩ := I.tuple hqx
    obtain ⟨vs, rv2, p2, _⟩ := I.list hqy
    obtain ⟨u, hu, ru⟩ := rv.get hx
    obtain ⟨v, hv, ru2⟩ := rv2.get hy
    have hh : X.A.in1.handled = none := I.ok.hd hc
    have hzl : z < s.heap.objs.size := Heap.lt_size g1
    have n1 : a ≠ i1 := fun q => by
      obtain ⟨o, ho, hoc, _⟩ := g4
      obtain ⟨o', ho', hoc', _⟩ := p
      rw [q, ho] at ho'
      cases ho'
      rw [hoc] at hoc'
      injection hoc' with e
      exact absurd e (by decide)
    have n2 : b ≠ i2 := fun q => by
      obtain ⟨o, ho, hoc, _⟩ := g5
      obtain ⟨o', ho', hoc', _⟩ := p2.isList
      rw [q, ho] at ho'
      cases ho'
      rw [hoc] at hoc'
      injection hoc' with e
      exact absurd e (by decide)
    refine wpAny_pyNext_zipD2_item S (Draws.tuple hh i1 a n1 us.toArray) (Draws.list hh i2 b n2 vs.toArray) g1 g2 g3 ⟨g4, p⟩ ⟨g5, p2.isList⟩ (i := i) (by have := (List.getElem?_eq_some_iff.mp hu).1; simpa using this) (by have := (List.getElem?_eq_some_iff.mp hv).1; simpa using this) fun x1 x2 h' tk y1 y2 z' TO' st1 st2 hT hsz hk => ?_
    have ex1 : x1 = u := by
      have y1 : us.toArray[i]? = some x1 := y1
      rw [List.getElem?_toArray, hu] at y1
      exact (Option.some.inj y1).symm
    have ex2 : x2 = v := by
      have y2 : vs.toArray[i]? = some x2 := y2
      rw [List.getElem?_toArray, hv] at y2
      exact (Option.some.inj y2).symm
    subst ex1 ex2
    refine ⟨_, rfl, wpAny_letOwnedTupleGo_zip (s := { s with heap := h', toks := tk }) z' fun h2 z2 sb => ?_⟩
    have hT2 : h2.get? s.heap.objs.size = some { cls := .type "tuple", data := .seq #[x1, x2] } := (sb.2 _ (Nat.ne_of_gt hzl)).trans hT
    have new : ObjOk X.prog X.w (upd H s.heap.objs.size (.tup [x, y])) h2 s.heap.objs.size (.tup [x, y]) := ⟨show 2 ≤ sizeLine by decide, [x1, x2], .cons ru (.cons ru2 .nil), ⟨_, hT2, rfl, _, rfl⟩⟩
    have keep : ∀ c o, c ∉ [z, TI, TO, i1, i2] → s.heap.get? c = some o → h2.get? c = some o := fun c o hb q => by
      have hb' : ¬ (c = z) ∧ ¬ (c = TO) ∧ ¬ (c = i1) ∧ ¬ (c = i2) := ⟨fun e => hb (by simp [e]), fun e => hb (by simp [e]), fun e => hb (by simp [e]), fun e => hb (by simp [e])⟩
      exact (sb.2 c hb'.1).trans (hk c o hb'.1 hb'.2.1 hb'.2.2.1 hb'.2.2.2 q)
    have I1 : Inv X pins σ (upd H s.heap.objs.size (.tup [x, y])) { s with heap := h2, toks := tk } := I.turnedNew (t' := tk) (ch := [z, TI, TO, i1, i2]) (fun c o hb q => keep c o hb q) hf (Nat.le_refl _) new
    refine ⟨.ref s.heap.objs.size, _, I1, rfl, ⟨_, x, y, rfl, I.hok.fresh (Nat.le_refl _), rfl, fun l hl => by rw [I.tuple_inj hl hqx]; exact hx, fun l hl => by rw [I.list_inj hl hqy]; exact hy⟩, ⟨⟨z2, ?_⟩, ⟨x1, x2, ?_⟩, ?_, ?_⟩, fun c hcm => ?_⟩
    · exact (sb.2 _ S.TIz).trans (hk _ _ S.TIz S.TITO S.TIi1 S.TIi2 g2)
    · exact (sb.2 _ S.TOz).trans TO'
    · exact st1.1.at fun o q => (sb.2 _ (fun e => m1.1 e.symm)).trans q
    · exact st2.1.at fun o q => (sb.2 _ (fun e => m3.1 e.symm)).trans q
    · have hlt : c < s.heap.objs.size := by
        rcases five hcm with rfl | rfl | rfl | rfl | rfl
        · exact hzl
        · exact Heap.lt_size g2
        · exact Heap.lt_size g3
        · obtain ⟨_, e1, _⟩ := g4; exact Heap.lt_size e1
        · obtain ⟨_, e2, _⟩ := g5; exact Heap.lt_size e2
      rw [upd_ne (Nat.ne_of_lt hlt)]
      exact (hf c hcm).1
  · intro X hP hw hK hc i pins s σ H E I hf st hg
    subst hP hw hK
    obtain ⟨⟨g1, g2⟩, ⟨x0, y0, g3⟩, g4, g5⟩ := st
    obtain ⟨xs, ys, ⟨hqx, hqy⟩, hend, hl1, hl2⟩ := hg
    obtain ⟨us, rv, p, _⟩ := I.tuple hqx
    obtain ⟨vs, rv2, p2, _⟩ := I.list hqy
    have l1 := rv.length
    have l2 := rv2.length
    have hh : X.A.in1.handled = none := I.ok.hd hc
    have n1 : a ≠ i1 := fun q => by
      obtain ⟨o, ho, hoc, _⟩ := g4
      obtain ⟨o', ho', hoc', _⟩ := p
      rw [q, ho] at ho'
      cases ho'
      rw [hoc] at hoc'
      injection hoc' with e
      exact absurd e (by decide)
    have n2 : b ≠ i2 := fun q => by
      obtain ⟨o, ho, hoc, _⟩ := g5
      obtain ⟨o', ho', hoc', _⟩ := p2.isList
      rw [q, ho] at ho'
      cases ho'
      rw [hoc] at hoc'
      injection hoc' with e
      exact absurd e (by decide)
    refine wpAny_pyNext_zipD2_end S (Draws.tuple hh i1 a n1 us.toArray) (Draws.list hh i2 b n2 vs.toArray) g1 g2 g3 ⟨g4, p⟩ ⟨g5, p2.isList⟩ (i := i) (by simp; omega) (by simp; omega) (by simp; omega) fun h' tk hk => ⟨rfl, I.turnedL (t' := tk) (ch := [z, TI, TO, i1, i2]) (fun c o hb q => ?_) hf⟩
    exact hk c o (fun e => hb (by simp [e])) (fun e => hb (by simp [e])) (fun e => hb (by simp [e])) (fun e => hb (by simp [e])) q
def iZipM (K : PySem.W.Frag) (ta : TA) : TI := fun σ H R => ta σ H fun vs H1 => ∃ a b xs ys, vs = [.ref a, .ref b] ∧ (SqT K H1 a xs ∧ SqL K H1 b ys) ∧ R (ItM K a b) H1
theorem pi_zipM {X : Cx} {K : PySem.W.Frag} {e e2 : Expr} {ta : TA} {p pos tpos : Pos} {elts : List Expr} {kk : Nat} (hK : X.K = K) (hg : Gl X "zip") (hm : X.mg "zip" = none) (ha : PA X [e, e2] ta)
    (hs : starEach [e, e2] X.env = (false, eval e X.env) :: starEach [e2] X.env := by rfl) (hpl : (backTo pos (starEach [e2] X.env)).any (·.1) = false := by rfl) :
    PI X (.Tuple elts kk tpos) (.Call (.Name "zip" p) [e, e2] [] pos) (iZipM K ta) := by
  subst hK
  refine ⟨fun pins s σ H R I h => Call_ (ld_blt I hg hm PyProof.Rows.boot_zip (PyProof.Rows.callWith_type1 (thn (ha.run pos pins s σ H _ I h) fun us s1 ⟨vs, H1, I1, r1, q1⟩ => ?_) hs hpl))⟩
  obtain ⟨a, b, xs, ys, rfl, ⟨hqx, hqy⟩, q⟩ := q1
  obtain ⟨u1, u2, rfl, ra, rb⟩ := vals2 r1
  obtain rfl : u1 = Value.ref a := ra
  obtain rfl : u2 = Value.ref b := rb
  obtain ⟨us, rv, p1, _⟩ := I1.tuple hqx
  obtain ⟨vs, rv2, p2, _⟩ := I1.list hqy
  have la : a < s1.heap.objs.size := by obtain ⟨o, ho, _⟩ := id p1; exact Heap.lt_size ho
  have lb : b < s1.heap.objs.size := by obtain ⟨o, ho, _⟩ := id p2.isList; exact Heap.lt_size ho
  generalize hN : s1.heap.objs.size = N at la lb
  refine zip_begins2 (begins_tuple a us.toArray) (begins_list b vs.toArray) p1 p2.isList fun h' g1 g2 g3 g4 g5 hsz hk => ?_
  rw [hN] at g1 g2 g3 g4 g5 ⊢
  refine wpAny_pyIter_zip g1 ?_
  have I2 : Inv X pins σ H1 { s1 with heap := h' } := I1.kept (t' := s1.toks) hk
  refine ⟨N + 4, [N + 4, N + 2, N + 3, N, N + 1], _, _, H1, rfl, I2, turn_M (zip_sep2 (fp1 := [a]) (fp2 := [b]) (by simpa using la) (by simpa using lb)), ⟨⟨g1, g2⟩, ⟨_, _, g3⟩, ⟨_, g4, rfl, rfl⟩, ⟨_, g5, rfl, rfl⟩⟩, fun c hcm => ?_, q⟩
  have hle : s1.heap.objs.size ≤ c := by
    rw [hN]
    have e' : c = N + 4 ∨ c = N + 2 ∨ c = N + 3 ∨ c = N ∨ c = N + 1 := by simpa using hcm
    rcases e' with z | z | z | z | z <;> rw [z] <;> first | exact Nat.le_add_right _ _ | exact Nat.le_refl _
  exact I1.fpOk hle (I1.hok.fresh hle)
end KW
end
section
set_option Elab.async false
set_option linter.all false
set_option autoImplicit false
set_option maxRecDepth 100000
set_option maxHeartbeats 1000000
/-! a comprehension of two clauses; filters -/
namespace KW
open PySem PySem.Spec PyProof.Rows L2 He KR Evl
section
variable {K : PySem.W.Frag} {σ : L2.St} {H H' : Hp} {te : TE}
def flatTo (ws : Nat → List V) : Nat → List V
  | 0 => []
  | n + 1 => flatTo ws n ++ ws n
theorem flat_len (ws : Nat → List V) (b : Nat) (h : ∀ i, (ws i).length ≤ b) : ∀ n, (flatTo ws n).length ≤ n * b
  | 0 => by simp [flatTo]
  | n + 1 => by
    have h1 := flat_len ws b h n
    have h2 := h n
    unfold flatTo
    rw [List.length_append, Nat.succ_mul]
    omega
theorem el_lc2 {a : Addr} {xs : List V} {tl tl1 : TE} {j j1 : Nat} {vs vs1 : List Nat} (zs ws : Nat → List V) (h : Ev tl σ H (.ref a)) (hx : SqL K H a xs) (hz : xs.length ≤ 100) (hb : ∀ i, (ws i).length ≤ 100) (hlen : ∀ i, (ws i).length = (zs i).length)
    (hw : ∀ x, wipe ((wipe σ vs).set j (some x)) vs = wipe σ vs) (hw1 : ∀ x y, wipe ((wipe ((wipe σ vs).set j (some x)) vs1).set j1 (some y)) vs1 = wipe ((wipe σ vs).set j (some x)) vs1)
    (hi : ∀ (i : Nat) (x : V), xs[i]? = some x → EvL tl1 ((wipe σ vs).set j (some x)) H (zs i))
    (he : ∀ (i : Nat) (x : V) (k : Nat) (y z : V), xs[i]? = some x → (zs i)[k]? = some y → (ws i)[k]? = some z → Ev te ((wipe ((wipe σ vs).set j (some x)) vs1).set j1 (some y)) H z) :
    EvL (tLc2 (iList K tl) (gName j) tYes (iList K tl1) (gName j1) tYes te vs vs1) σ H (flatTo ws xs.length) := fun H0 e Q q => h H0 e _ fun H1 e1 => ⟨a, rfl, ⟨xs, ex_l (e.trans e1) hx⟩, fun D hD => by
  have eH : Ex H H1 := e.trans e1
  refine ⟨fun i m H' => m = xs.length - i ∧ i ≤ xs.length ∧ Ex H1 H' ∧ H' D = some (.lst (flatTo ws i)), ⟨xs.length, by simp, Nat.zero_le _, Ex.new hD, upd_same⟩, ?_⟩
  rintro i m H2 ⟨rfl, hile, e2, hD2⟩
  by_cases hlt : i < xs.length
  · have hxi : xs[i]? = some xs[i] := List.getElem?_eq_getElem hlt
    refine .inr ⟨⟨xs, _, ex_l (eH.trans e2) hx, hxi⟩, fun H' => Ex H1 H' ∧ H' D = some (.lst (flatTo ws (i + 1))), fun H' ⟨p1, p2⟩ => ⟨xs.length - (i + 1), by omega, rfl, hlt, p1, p2⟩, fun x H' y => ?_⟩
    obtain ⟨rfl, y⟩ := y
    have hxx := y xs (ex_l (eH.trans e2) hx)
    refine ⟨hw x, ?_⟩
    unfold tYes
    simp only [if_true]
    refine hi i x hxx H' (eH.trans e2) _ fun p H4 hp e4 h4 => ⟨p, rfl, ⟨_, sq_of h4⟩, ?_⟩
    have hpD : p ≠ D := fun z => by rw [z, hD2] at hp; cases hp
    refine ⟨fun k n H'' => n = (zs i).length - k ∧ k ≤ (zs i).length ∧ Ex H1 H'' ∧ H'' p = some (.lst (zs i)) ∧ H'' D = some (.lst (flatTo ws i ++ (ws i).take k)), ⟨(zs i).length, by simp, Nat.zero_le _, e2.trans e4, h4, by rw [List.take_zero, List.append_nil]; exact e4 _ _ hD2⟩, ?_⟩
    rintro k n H5 ⟨rfl, hk, e5, hp5, hD5⟩
    by_cases hkl : k < (zs i).length
    · have hzk : (zs i)[k]? = some (zs i)[k] := List.getElem?_eq_getElem hkl
      have hwl : k < (ws i).length := by rw [hlen]; exact hkl
      have hwk : (ws i)[k]? = some (ws i)[k] := List.getElem?_eq_getElem hwl
      refine .inr ⟨⟨_, _, sq_of hp5, hzk⟩, fun H'' => Ex H1 H'' ∧ H'' p = some (.lst (zs i)) ∧ H'' D = some (.lst (flatTo ws i ++ (ws i).take (k + 1))), fun H'' ⟨p1, p2, p3⟩ => ⟨(zs i).length - (k + 1), by omega, rfl, hkl, p1, p2, p3⟩, fun y' H6 y2 => ?_⟩
      obtain ⟨rfl, y2⟩ := y2
      have hyy := y2 _ (sq_of hp5)
      refine ⟨hw1 x y', ?_⟩
      show te _ H6 _
      refine he i x k y' _ hxx hyy hwk H6 (eH.trans e5) _ fun H7 e7 => ⟨_, e7 _ _ hD5, ?_, ?_⟩
      · have h1 := flat_len ws 100 hb i
        have h2 : ((ws i).take k).length ≤ 100 := by rw [List.length_take]; have := hb i; omega
        have h3 : i * 100 ≤ 100 * 100 := Nat.mul_le_mul_right 100 (by omega)
        rw [List.length_append, sizeLine_eq]
        omega
      · refine ⟨Ex.mut (e5.trans e7) hD, by rw [upd_ne hpD]; exact e7 _ _ hp5, ?_⟩
        rw [upd_same, List.take_add_one, hwk, List.append_assoc]
        rfl
    · have : k = (zs i).length := by omega
      subst this
      refine .inl ⟨⟨_, sq_of hp5, Nat.le_refl _⟩, e5, ?_⟩
      rw [hD5, ← hlen, List.take_length]
      rfl
  · have : i = xs.length := by omega
    subst this
    exact .inl ⟨⟨xs, ex_l (eH.trans e2) hx, Nat.le_refl _⟩, q D H2 (fresh_back e1 hD) (e1.trans e2) hD2⟩⟩
theorem flat_range (ws : Nat → List V) : ∀ n, flatTo ws n = (List.range n).flatMap ws
  | 0 => rfl
  | n + 1 => by
    show flatTo ws n ++ ws n = _
    rw [flat_range ws n, List.range_succ, List.flatMap_append]
    simp
theorem list_range {α : Type} (ds : List α) (dflt : α) : (List.range ds.length).map (fun i => ds.getD i dflt) = ds := by
  apply List.ext_getElem?
  intro i
  by_cases hi : i < ds.length
  · rw [List.getElem?_map, List.getElem?_range hi, List.getElem?_eq_getElem hi]
    show some (ds.getD i dflt) = _
    rw [List.getD_eq_getElem?_getD, List.getElem?_eq_getElem hi]
    rfl
  · rw [List.getElem?_eq_none (by simp; omega), List.getElem?_eq_none (by omega)]
theorem flat_data {α : Type} (ds : List α) (dflt : α) (F : α → List V) : flatTo (fun i => F (ds.getD i dflt)) ds.length = ds.flatMap F := by
  rw [flat_range]
  conv => rhs; rw [← list_range ds dflt]
  rw [List.flatMap_map]
/-- two new lists, one behind the other -/
theorem el_cat {ta tb : TE} {xs ys : List V} (ha : EvL ta σ H xs) (hb : EvL tb σ H ys) (hz : xs.length + ys.length ≤ 100000) : EvL (tOp rCat ta tb) σ H (xs ++ ys) := fun H1 e Q q =>
  ha H1 e _ fun p H2 hp e2 h2 => hb H2 (e.trans e2) _ fun r H3 hr e3 h3 => ⟨p, r, xs, ys, rfl, rfl, e3 _ _ h2, h3, sz_of hz, fun u hu => q u _ (fresh_back (e2.trans e3) hu) ((e2.trans e3).trans (Ex.new hu)) upd_same⟩
theorem el_listS {ta : TE} {p : Addr} {xs : List V} (ha : Ev ta σ H (.ref p)) (h : SqL K H p xs ∨ SqT K H p xs) :
    EvL (tCB (fun xs H Q => ∃ p ys, xs = [.ref p] ∧ (SqL K H p ys ∨ SqT K H p ys) ∧ ∀ (l : Addr), H l = none → Q (.ref l) (upd H l (.lst ys))) (tCons ta tNil)) σ H xs := fun H1 e Q q =>
  ha H1 e _ fun H2 e2 => ⟨p, xs, rfl, h.imp (ex_l (e.trans e2)) (ex_t (e.trans e2)), fun l hl => q l _ (fresh_back e2 hl) (e2.trans (Ex.new hl)) upd_same⟩
/-- what a filtered comprehension over data gives -/
theorem given_filter {α : Type} {ds : List α} (dflt : α) (p : α → Bool) (g : α → V) : given ds.length (fun i => p (ds.getD i dflt)) (fun i => g (ds.getD i dflt)) = (ds.filter p).map g := by
  have e : ds = (List.range ds.length).map fun i => ds.getD i dflt := by
    apply List.ext_getElem?
    intro i
    by_cases hi : i < ds.length
    · rw [List.getElem?_map, List.getElem?_range hi, List.getElem?_eq_getElem hi]
      show _ = some (ds.getD i dflt)
      rw [List.getD_eq_getElem?_getD, List.getElem?_eq_getElem hi]
      rfl
    · rw [List.getElem?_eq_none (by omega), List.getElem?_eq_none (by simp; omega)]
  unfold given
  conv => rhs; rw [e]
  rw [List.filter_map, List.map_map]
  rfl
theorem el_lcDf {a : Addr} {xs : List V} {ds : List PyData} {tl : TE} {t : TT} {j : Nat} {vs : List Nat} (p : PyData → Bool) (f : PyData → V) (h : Ev tl σ H (.ref a)) (hx : SqL K H a xs) (hd : DpAll K H xs ds) (hz : xs.length ≤ 40000) (hw : ∀ x, wipe ((wipe σ vs).set j (some x)) vs = wipe σ vs)
    (ht : ∀ x d, d ∈ ds → Dp K H x d → EvT t ((wipe σ vs).set j (some x)) H (p d))
    (he : ∀ x d, d ∈ ds → Dp K H x d → p d = true → Ev te ((wipe σ vs).set j (some x)) H (f d)) : EvL (tLc (iList K tl) (gName j) t te vs) σ H ((ds.filter p).map f) := by
  have hl := dpLen hd
  have key : ∀ {i : Nat} {x : V}, xs[i]? = some x → ∃ d, ds.getD i .none = d ∧ d ∈ ds ∧ Dp K H x d := fun {i x} hi => by
    obtain ⟨d, h1, h2⟩ := daG hd hi
    exact ⟨d, by rw [List.getD_eq_getElem?_getD, h1]; rfl, List.mem_of_getElem? h1, h2⟩
  have e := el_lcL (K := K) (σ := σ) (H := H) (te := te) (t := t) (tl := tl) (j := j) (vs := vs) (fun i => p (ds.getD i .none)) (fun i => f (ds.getD i .none)) h hx hz hw (fun i x H1 e1 hi => by
    obtain ⟨d, e2, h1, h2⟩ := key hi
    rw [e2]
    exact (ht x d h1 h2).mono e1) (fun i x H1 e1 hi hp => by
    obtain ⟨d, e2, h1, h2⟩ := key hi
    rw [e2] at hp ⊢
    exact (he x d h1 h2 hp).mono e1)
  rw [hl, given_filter] at e
  exact e
/-- a loop over zip of a new tuple and a list -/
theorem q_forM {ta tb : TE} {xs ys : List V} {b : Addr} {D : Ends} {tu tz : TS} {n j1 j2 : Nat} (h1 : EvU ta σ H xs) (h2 : Ev tb σ H (.ref b)) (hy : SqL K H b ys) (hl : xs.length = ys.length) (hn : n = 2) (Pv : Hp → Nat → L2.St → Hp → Prop) (h0 : ∀ H1, Ex H H1 → Pv H1 0 σ H1) (hex : ∀ B i σ' H', Pv B i σ' H' → Ex B H')
    (hs : ∀ B i x y σ' H' H2, Ex H B → xs[i]? = some x → ys[i]? = some y → Pv B i σ' H' → Ex H' H2 → tu { D with nx := Pv B (i + 1), ct := Pv B (i + 1), bk := tz D } ((σ'.set j1 (some x)).set j2 (some y)) H2) (hd : ∀ B σ' H', Ex H B → Pv B xs.length σ' H' → tz D σ' H') :
    tSeq (tFor (iZipM K (tCons ta (tCons tb tNil))) (gTup K n (gCons (gName j1) (gCons (gName j2) gNil))) tu) tz D σ H :=
  h1 H (Ex.refl H) _ fun p H1 hp e1 hpx => h2 H1 e1 _ fun H2 e2 => ⟨p, b, xs, ys, rfl, ⟨st_of (e2 _ _ hpx), ex_l (e1.trans e2) hy⟩, by
    have eB := e1.trans e2
    refine ⟨fun i m σ' H' => m = xs.length - i ∧ i ≤ xs.length ∧ Pv H2 i σ' H', ⟨xs.length, by simp, Nat.zero_le _, h0 H2 eB⟩, ?_⟩
    rintro i m σ' H' ⟨rfl, hi, pv⟩
    have ex := hex _ _ _ _ pv
    have sx : SqT K H' p xs := ex_t ex (st_of (e2 _ _ hpx))
    have sy : SqL K H' b ys := ex_l (eB.trans ex) hy
    by_cases hlt : i < xs.length
    · refine .inr ⟨⟨xs, ys, _, _, ⟨sx, List.getElem?_eq_getElem hlt⟩, sy, List.getElem?_eq_getElem (by omega)⟩, Pv H2 (i + 1), fun σ' H' q => ⟨xs.length - (i + 1), by omega, rfl, hlt, q⟩, fun v H3 y => ?_⟩
      obtain ⟨T, x, y, rfl, hT, rfl, g1, g2⟩ := y
      exact ⟨T, [x, y], rfl, st_of upd_same, hn.symm ▸ rfl, _, _, rfl, _, _, rfl, rfl, hs H2 i x y σ' H' _ eB (g1 xs sx) (g2 ys sy) pv (Ex.new hT)⟩
    · have : i = xs.length := by omega
      subst this
      exact .inl ⟨⟨xs, ys, ⟨sx, sy⟩, .inl rfl, Nat.le_refl _, by omega⟩, hd H2 σ' H' eB pv⟩⟩
end
end KW
end
section
set_option Elab.async false
set_option linter.all false
set_option autoImplicit false
set_option maxRecDepth 100000
set_option maxHeartbeats 400000
/-! plans.py: the looks -/
namespace KW
open PySem PySem.Spec PyProof.Rows L2 He KR Evl
local macro_rules
  | `(tactic| walk_at "ev") => `(tactic| repeat' (first
    | exact ev_c | exact ev_var rfl | exact ea_nil | exact rv_I0 | exact ru_neg | exact eo_none
    | exact rv_eq rfl | exact rv_ne rfl
    | exact rv_ixT (by assumption) (by rfl) | exact rv_ixL (by assumption) (by rfl)
    | exact sv_q (by assumption) (by assumption) | exact sv_within (by assumption)
    | exact Or.inr (by assumption) | exact Or.inl (by assumption) | (show (_ : String) ∈ _; decide)
    | with_reducible (first | apply ev_isi | apply ev_lenS | apply ev_if' | apply et_test | apply et_B | apply et_not | apply et_and | apply et_or | apply ev_andV | apply ev_orV | apply ev_notV | apply ea_cons | apply eo_some | apply ev_op | apply ev_un | apply ev_call)
    | assumption
    | (with_reducible intro hh; first | exact absurd (show true = false from hh) (by decide) | exact absurd (show false = true from hh) (by decide) | clear hh)))

section
variable {P : Program} {w : World} {K : PySem.W.Frag} {mg : Str → Option Value} {base : Heap}
theorem sc_is_guard : FnScope ["thing", "one"] ["thing"] (defScope s_is_guard) := ⟨rfl, rfl, rfl, by decide +kernel, rfl, by decide +kernel, by decide +kernel⟩
theorem sc_is_line : FnScope ["thing"] ["thing"] (defScope s_is_line) := ⟨rfl, rfl, rfl, by decide +kernel, rfl, by decide +kernel, by decide +kernel⟩
theorem sc_is_bottom : FnScope ["thing"] ["thing"] (defScope s_is_bottom) := ⟨rfl, rfl, rfl, by decide +kernel, rfl, by decide +kernel, by decide +kernel⟩
theorem sc_is_thread : FnScope ["thing"] ["thing"] (defScope s_is_thread) := ⟨rfl, rfl, rfl, by decide +kernel, rfl, by decide +kernel, by decide +kernel⟩
theorem ok_is_guard (T : Txt w K mg) : FnOk P w K mg base CX0 3 (f_is_guard K) (fdAt K (f_is_guard K)) ["thing"] (spQ K isGuardD) := by
  obtain ⟨_, h_MOST_LET⟩ := in_MOST_LET T
  obtain ⟨_, h_WIDEST⟩ := in_WIDEST T
  refine (df_is_guard T).ok sc_is_guard (fun vs H Q E h => ?_) (fun cdv A outer s H vs Q E hr h => ?_)
  · obtain ⟨v, d, rfl, _⟩ := h
    rfl
  · obtain ⟨v, d, rfl, hd, hf, q⟩ := h
    refine ⟨_, PSs.nox ((pss_cons (ps_if (PW.pt (pw_or (pt_not (pt_val (pe_callB (call_isiK1 (K := K) rfl) (by rfl) (fr_isinstance T) (by decide +kernel) (pa_cons (pv 0) (pa_cons (pe_bltn (v := .ty "tuple") (u := .type "tuple") (by rfl) (fr_tuple T) (by decide +kernel) rfl) pa_nil))))) (pw_or1 (pt_cmpR op_ne (pe_callB (call_lenK (K := K) rfl) (by rfl) (fr_len T) PySem.boot_len (pa_cons (pv 0) pa_nil)) pe_int (nomark _))))) (pss_one (ps_ret pe_bl)) pss_nil)
      (pss_one (ps_ret (pe_and (pe_call (ok_within T) (hr.mono (by decide)) rfl (gl_within T) (df_within T).kp (bi_within T) .nil pass0 (pa_cons (pe_ix (ix_tupK (K := K) rfl) (pv 0) pe_int (fun _ _ => rfl)) (pa_cons pe_int (pa_cons (pe_glob (v := .int 9) rfl h_MOST_LET ⟨_, rfl⟩) pa_nil)))) (pe_one (pe_callB (cr_allK rfl (K := K) rfl) (by rfl) (fr_all T) (by decide +kernel) (pa_cons (pe_lc (own := [("one", 1)]) (g := gName 1) (tt := tYes) rfl sc_is_guard.nd (pi_tupK (K := K) rfl (pe_slice (sl_tupK (K := K) rfl) (pv 0) (po_some pe_int) po_none)) (blkOk_by (N := ["thing", "one"]) (sc := defScope s_is_guard) (by decide +kernel)) (fun _ _ _ _ _ => pg_name (i := 1) sc_is_guard.nd rfl (Or.inl rfl)) (fun _ _ _ _ _ => pts_nil) (fun _ _ _ _ _ => (pe_call (ok_within T) (hr.mono (by decide)) rfl (gl_within T) (df_within T).kp (bi_within T) .nil pass0 (pa_cons (pv 1) (pa_cons pe_int (pa_cons (pe_glob (v := .int 60) rfl h_WIDEST ⟨_, rfl⟩) pa_nil)))))) pa_nil)))))))), ?_⟩
    by_cases hT : ∃ ds, d = .tuple ds
    · obtain ⟨ds, rfl⟩ := hT
      obtain ⟨a, xs, rfl, hx, ha⟩ := dpT hd
      obtain ⟨hl, hf⟩ := Sm_tup hf
      have hlen := dpLen ha
      by_cases h3 : ds.length = 3
      · match ds, h3 with
        | [d0, d1, d2], _ =>
          obtain ⟨v0, _, rfl, h0, ha⟩ := dpC ha
          have ha1 := ha
          obtain ⟨v1, _, rfl, h1, ha⟩ := dpC ha
          obtain ⟨v2, _, rfl, h2, ha⟩ := dpC ha
          obtain rfl := dpN ha
          refine q_when (b := false) (et_is (by walk_at "ev") (by rfl)) (fun h => by cases h) fun _ H1 e1 => ?_
          have h0 := dpM e1 h0
          have hx1 := ex_t e1 hx
          refine s_ret (ev_andV (a := withinD d0 1 9) (b := withinD d1 1 60 && withinD d2 1 60) (by walk_at "ev") fun _ => ev_is (ev_all (bs := [d1, d2].map fun d => withinD d 1 60) (by
            rw [← map_bl]
            exact el_lcUT (xs := [v1, v2]) (fun d => V.bl (withinD d 1 60)) (eu_slT (ev_var rfl) (eo_some ev_c) eo_none (ex_t e1 hx) (fun h => absurd h.1 (by show ¬ ((1 : Nat) = 0); decide))) (daM e1 ha1) (by show 2 ≤ 40000; decide) (fun _ => rfl) fun H1 e1 x d hm hd => by walk_at "ev")) (by simp)) fun H2 e2 => ?_
          exact q _ (e1.trans e2)
      · refine ret_no q ?_ (et_is (b := true) (et_or (a := false) (b := true) (et_is (by walk_at "ev") (by rfl)) fun _ => et_is (by walk_at "ev") (by have := int_ne (n := xs.length) (k := 3) (by omega); exact congrArg not this)) rfl)
        match ds, h3 with
        | [], _ => rfl
        | [_], _ => rfl
        | [_, _], _ => rfl
        | _ :: _ :: _ :: _ :: _, _ => rfl
    · have h0 := not_tup hT
      refine ret_no q ?_ (et_is (b := true) (et_or (b := true) (et_not (et_B (ev_is (ev_isi (ev_var rfl) hd) (by rw [h0])))) fun h => by cases h) rfl)
      cases d <;> first | rfl | exact absurd ⟨_, rfl⟩ hT
theorem ok_is_line (T : Txt w K mg) : FnOk P w K mg base CX0 5 (f_is_line K) (fdAt K (f_is_line K)) ["thing"] (spQ K isLineD) := by
  obtain ⟨_, h_MOST_RANK⟩ := in_MOST_RANK T
  refine (df_is_line T).ok sc_is_line (fun vs H Q E h => ?_) (fun cdv A outer s H vs Q E hr h => ?_)
  · obtain ⟨v, d, rfl, _⟩ := h
    rfl
  · obtain ⟨v, d, rfl, hd, hf, q⟩ := h
    refine ⟨_, PSs.nox ((pss_cons (ps_if (PW.pt (pw_or (pt_not (pt_val (pe_callB (call_isiK1 (K := K) rfl) (by rfl) (fr_isinstance T) (by decide +kernel) (pa_cons (pv 0) (pa_cons (pe_bltn (v := .ty "tuple") (u := .type "tuple") (by rfl) (fr_tuple T) (by decide +kernel) rfl) pa_nil))))) (pw_or (pt_cmpR op_ne (pe_callB (call_lenK (K := K) rfl) (by rfl) (fr_len T) PySem.boot_len (pa_cons (pv 0) pa_nil)) pe_int (nomark _)) (pw_or (pt_not (pt_val (pe_call (okq_is_name T) (hr.mono (by decide)) rfl (gl_is_name T) (df_is_name T).kp (bi_is_name T) .nil pass0 (pa_cons (pe_ix (ix_tupK (K := K) rfl) (pv 0) pe_int (fun _ _ => rfl)) pa_nil)))) (pw_or1 (pt_not (pt_val (pe_call (ok_within T) (hr.mono (by decide)) rfl (gl_within T) (df_within T).kp (bi_within T) .nil pass0 (pa_cons (pe_ix (ix_tupK (K := K) rfl) (pv 0) pe_int (fun _ _ => rfl)) (pa_cons pe_int (pa_cons (pe_glob (v := .int 99) rfl h_MOST_RANK ⟨_, rfl⟩) pa_nil))))))))))) (pss_one (ps_ret pe_bl)) pss_nil)
      (pss_one (ps_ret (pe_and (pe_callB (call_isiK1 (K := K) rfl) (by rfl) (fr_isinstance T) (by decide +kernel) (pa_cons (pe_ix (ix_tupK (K := K) rfl) (pv 0) pe_int (fun _ _ => rfl)) (pa_cons (pe_bltn (v := .ty "bool") (u := .type "bool") (by rfl) (fr_bool T) (by decide +kernel) rfl) pa_nil))) (pe_and (pe_call (ok_is_guard T) (hr.mono (by decide)) rfl (gl_is_guard T) (df_is_guard T).kp (bi_is_guard T) .nil pass0 (pa_cons (pe_ix (ix_tupK (K := K) rfl) (pv 0) pe_int (fun _ _ => rfl)) pa_nil)) (pe_one (pe_call (okq_are_steps T) (hr.mono (by decide)) rfl (gl_are_steps T) (df_are_steps T).kp (bi_are_steps T) .nil pass0 (pa_cons (pe_ix (ix_tupK (K := K) rfl) (pv 0) pe_int (fun _ _ => rfl)) pa_nil))))))))), ?_⟩
    by_cases hT : ∃ ds, d = .tuple ds
    · obtain ⟨ds, rfl⟩ := hT
      obtain ⟨a, xs, rfl, hx, ha⟩ := dpT hd
      obtain ⟨hl, hf⟩ := Sm_tup hf
      have hlen := dpLen ha
      by_cases h3 : ds.length = 5
      · match ds, h3 with
        | [d0, d1, d2, d3, d4], _ =>
          obtain ⟨v0, _, rfl, h0, ha⟩ := dpC ha
          obtain ⟨v1, _, rfl, h1, ha⟩ := dpC ha
          obtain ⟨v2, _, rfl, h2, ha⟩ := dpC ha
          obtain ⟨v3, _, rfl, h3, ha⟩ := dpC ha
          obtain ⟨v4, _, rfl, h4, ha⟩ := dpC ha
          obtain rfl := dpN ha
          have f0 := SmA_mem hf d0 (by simp)
          have f3 := SmA_mem hf d3 (by simp)
          have f4 := SmA_mem hf d4 (by simp)
          cases hb : isNameD d0 && withinD d1 1 99 with
          | false =>
            refine ret_no q (by show ((isNameD d0 && withinD d1 1 99) && _) = false; rw [hb]; rfl) (et_is (b := true) (a := !isNameD d0 || !withinD d1 1 99) (et_is (by walk_at "ev") (by rfl)) (by cases h1 : isNameD d0 <;> cases h2 : withinD d1 1 99 <;> simp_all))
          | true =>
            refine q_when (b := false) (et_is (et_is (b := !isNameD d0 || !withinD d1 1 99) (by walk_at "ev") (by rfl)) (by cases h1 : isNameD d0 <;> cases h2 : withinD d1 1 99 <;> simp_all)) (fun h => by cases h) fun _ H1 e1 => ?_
            have h2 := dpM e1 h2
            have h3 := dpM e1 h3
            have h4 := dpM e1 h4
            have hx1 := ex_t e1 hx
            refine s_ret (by walk_at "ev") fun H2 e2 => ?_
            have q' := q _ (e1.trans e2)
            have e : isLineD (.tuple [d0, d1, d2, d3, d4]) = (isBoolD d2 && (isGuardD d3 && areStepsD d4)) := by
              show ((isNameD d0 && withinD d1 1 99) && _) = _
              rw [hb, Bool.true_and]
            rw [e] at q'
            rw [isT_bool]
            exact q'
      · refine ret_no q ?_ (et_is (b := true) (et_or (a := false) (b := true) (et_is (by walk_at "ev") (by rfl)) fun _ => et_or (a := true) (b := true) (et_is (by walk_at "ev") (by have := int_ne (n := xs.length) (k := 5) (by omega); exact congrArg not this)) (fun h => by cases h)) rfl)
        match ds, h3 with
        | [], _ => rfl
        | [_], _ => rfl
        | [_, _], _ => rfl
        | [_, _, _], _ => rfl
        | [_, _, _, _], _ => rfl
        | _ :: _ :: _ :: _ :: _ :: _ :: _, _ => rfl
    · have h0 := not_tup hT
      refine ret_no q ?_ (et_is (b := true) (et_or (b := true) (et_not (et_B (ev_is (ev_isi (ev_var rfl) hd) (by rw [h0])))) fun h => by cases h) rfl)
      cases d <;> first | rfl | exact absurd ⟨_, rfl⟩ hT
theorem ok_is_bottom (T : Txt w K mg) : FnOk P w K mg base CX0 5 (f_is_bottom K) (fdAt K (f_is_bottom K)) ["thing"] (spQ K isBottomD) := by
  refine (df_is_bottom T).ok sc_is_bottom (fun vs H Q E h => ?_) (fun cdv A outer s H vs Q E hr h => ?_)
  · obtain ⟨v, d, rfl, _⟩ := h
    rfl
  · obtain ⟨v, d, rfl, hd, hf, q⟩ := h
    refine ⟨_, PSs.nox ((pss_one (ps_ret (pe_and (pe_callB (call_isiK1 (K := K) rfl) (by rfl) (fr_isinstance T) (by decide +kernel) (pa_cons (pv 0) (pa_cons (pe_bltn (v := .ty "tuple") (u := .type "tuple") (by rfl) (fr_tuple T) (by decide +kernel) rfl) pa_nil))) (pe_and (pe_cmpR op_eq (pe_callB (call_lenK (K := K) rfl) (by rfl) (fr_len T) PySem.boot_len (pa_cons (pv 0) pa_nil)) pe_int (nomark _)) (pe_and (pe_call (okq_is_name T) (hr.mono (by decide)) rfl (gl_is_name T) (df_is_name T).kp (bi_is_name T) .nil pass0 (pa_cons (pe_ix (ix_tupK (K := K) rfl) (pv 0) pe_int (fun _ _ => rfl)) pa_nil)) (pe_one (pe_call (okq_are_steps T) (hr.mono (by decide)) rfl (gl_are_steps T) (df_are_steps T).kp (bi_are_steps T) .nil pass0 (pa_cons (pe_ix (ix_tupK (K := K) rfl) (pv 0) pe_int (fun _ _ => rfl)) pa_nil))))))))), ?_⟩
    by_cases hT : ∃ ds, d = .tuple ds
    · obtain ⟨ds, rfl⟩ := hT
      obtain ⟨a, xs, rfl, hx, ha⟩ := dpT hd
      obtain ⟨hl, hf⟩ := Sm_tup hf
      have hlen := dpLen ha
      by_cases h3 : ds.length = 2
      · match ds, h3 with
        | [d0, d1], _ =>
          obtain ⟨v0, _, rfl, h0, ha⟩ := dpC ha
          obtain ⟨v1, _, rfl, h1, ha⟩ := dpC ha
          obtain rfl := dpN ha
          have f0 := SmA_mem hf d0 (by simp)
          have f1 := SmA_mem hf d1 (by simp)
          refine s_ret (by walk_at "ev") fun H2 e2 => ?_
          exact q _ e2
      · refine s_ret (v := .bl false) (ev_is (ev_andV (a := true) (b := false) (ev_is (by walk_at "ev") (by rfl)) fun _ => ev_is (ev_andV (a := false) (b := true) (ev_is (by walk_at "ev") (by have := int_ne (n := xs.length) (k := 2) (by omega); exact congrArg V.bl this)) (fun h => by cases h)) (by rfl)) (by rfl)) fun H2 e2 => ?_
        have q' := q _ e2
        have e : isBottomD (.tuple ds) = false := by
          match ds, h3 with
          | [], _ => rfl
          | [_], _ => rfl
          | _ :: _ :: _ :: _, _ => rfl
        rw [e] at q'
        exact q'
    · have h0 := not_tup hT
      refine s_ret (ev_andV (b := false) (by walk_at "ev") fun h => by rw [h0] at h; cases h) fun H2 e2 => ?_
      rw [Bool.and_false]
      have q' := q _ e2
      have e : isBottomD d = false := by cases d <;> first | rfl | exact absurd ⟨_, rfl⟩ hT
      rw [e] at q'
      exact q'
theorem ok_is_thread (T : Txt w K mg) : FnOk P w K mg base CX0 5 (f_is_thread K) (fdAt K (f_is_thread K)) ["thing"] (spQ K isThreadD) := by
  obtain ⟨_, h_MOST_RANK⟩ := in_MOST_RANK T
  refine (df_is_thread T).ok sc_is_thread (fun vs H Q E h => ?_) (fun cdv A outer s H vs Q E hr h => ?_)
  · obtain ⟨v, d, rfl, _⟩ := h
    rfl
  · obtain ⟨v, d, rfl, hd, hf, q⟩ := h
    refine ⟨_, PSs.nox ((pss_cons (ps_if (PW.pt (pw_or (pt_not (pt_val (pe_callB (call_isiK1 (K := K) rfl) (by rfl) (fr_isinstance T) (by decide +kernel) (pa_cons (pv 0) (pa_cons (pe_bltn (v := .ty "tuple") (u := .type "tuple") (by rfl) (fr_tuple T) (by decide +kernel) rfl) pa_nil))))) (pw_or (pt_cmpR op_ne (pe_callB (call_lenK (K := K) rfl) (by rfl) (fr_len T) PySem.boot_len (pa_cons (pv 0) pa_nil)) pe_int (nomark _)) (pw_or1 (pt_not (pt_val (pe_call (okq_is_name T) (hr.mono (by decide)) rfl (gl_is_name T) (df_is_name T).kp (bi_is_name T) .nil pass0 (pa_cons (pe_ix (ix_tupK (K := K) rfl) (pv 0) pe_int (fun _ _ => rfl)) pa_nil)))))))) (pss_one (ps_ret pe_bl)) pss_nil)
      (pss_one (ps_ret (pe_and (pe_call (ok_within T) (hr.mono (by decide)) rfl (gl_within T) (df_within T).kp (bi_within T) .nil pass0 (pa_cons (pe_ix (ix_tupK (K := K) rfl) (pv 0) pe_int (fun _ _ => rfl)) (pa_cons pe_int (pa_cons (pe_glob (v := .int 99) rfl h_MOST_RANK ⟨_, rfl⟩) pa_nil)))) (pe_one (pe_call (okq_are_steps T) (hr.mono (by decide)) rfl (gl_are_steps T) (df_are_steps T).kp (bi_are_steps T) .nil pass0 (pa_cons (pe_ix (ix_tupK (K := K) rfl) (pv 0) pe_int (fun _ _ => rfl)) pa_nil)))))))), ?_⟩
    by_cases hT : ∃ ds, d = .tuple ds
    · obtain ⟨ds, rfl⟩ := hT
      obtain ⟨a, xs, rfl, hx, ha⟩ := dpT hd
      obtain ⟨hl, hf⟩ := Sm_tup hf
      have hlen := dpLen ha
      by_cases h3 : ds.length = 3
      · match ds, h3 with
        | [d0, d1, d2], _ =>
          obtain ⟨v0, _, rfl, h0, ha⟩ := dpC ha
          obtain ⟨v1, _, rfl, h1, ha⟩ := dpC ha
          obtain ⟨v2, _, rfl, h2, ha⟩ := dpC ha
          obtain rfl := dpN ha
          have f0 := SmA_mem hf d0 (by simp)
          have f2 := SmA_mem hf d2 (by simp)
          cases hb : isNameD d0 with
          | false =>
            refine ret_no q (by show ((isNameD d0 && withinD d1 1 99) && _) = false; rw [hb]; rfl) (et_is (b := true) (a := !isNameD d0) (et_is (by walk_at "ev") (by rfl)) (by rw [hb]; rfl))
          | true =>
            refine q_when (b := false) (et_is (et_is (b := !isNameD d0) (by walk_at "ev") (by rfl)) (by rw [hb]; rfl)) (fun h => by cases h) fun _ H1 e1 => ?_
            have h1 := dpM e1 h1
            have h2 := dpM e1 h2
            have hx1 := ex_t e1 hx
            refine s_ret (by walk_at "ev") fun H2 e2 => ?_
            have q' := q _ (e1.trans e2)
            have e : isThreadD (.tuple [d0, d1, d2]) = (withinD d1 1 99 && areStepsD d2) := by
              show ((isNameD d0 && withinD d1 1 99) && _) = _
              rw [hb, Bool.true_and]
            rw [e] at q'
            exact q'
      · refine ret_no q ?_ (et_is (b := true) (et_or (a := false) (b := true) (et_is (by walk_at "ev") (by rfl)) fun _ => et_or (a := true) (b := true) (et_is (by walk_at "ev") (by have := int_ne (n := xs.length) (k := 3) (by omega); exact congrArg not this)) (fun h => by cases h)) rfl)
        match ds, h3 with
        | [], _ => rfl
        | [_], _ => rfl
        | [_, _], _ => rfl
        | _ :: _ :: _ :: _ :: _, _ => rfl
    · have h0 := not_tup hT
      refine ret_no q ?_ (et_is (b := true) (et_or (b := true) (et_not (et_B (ev_is (ev_isi (ev_var rfl) hd) (by rw [h0])))) fun h => by cases h) rfl)
      cases d <;> first | rfl | exact absurd ⟨_, rfl⟩ hT
end
end KW
end
section
set_option Elab.async false
set_option linter.all false
set_option autoImplicit false
set_option maxRecDepth 100000
set_option maxHeartbeats 400000
/-! plans.py: are_ones, are_unlike_ranks -/
namespace KW
open PySem PySem.Spec PyProof.Rows L2 He KR Evl
local macro_rules
  | `(tactic| walk_at "ev") => `(tactic| repeat' (first
    | exact ev_c | exact ev_var rfl | exact ea_nil | exact rv_I0 | exact ru_neg | exact eo_none
    | exact rv_eq rfl | exact rv_ne rfl
    | exact rv_ixT (by assumption) (by rfl) | exact rv_ixL (by assumption) (by rfl)
    | exact sv_q (by assumption) (by assumption) | exact sv_within (by assumption)
    | exact Or.inr (by assumption) | exact Or.inl (by assumption) | (show (_ : String) ∈ _; decide)
    | with_reducible (first | apply ev_isi | apply ev_lenS | apply ev_if' | apply et_test | apply et_B | apply et_not | apply et_and | apply et_or | apply ev_andV | apply ev_orV | apply ev_notV | apply ea_cons | apply eo_some | apply ev_op | apply ev_un | apply ev_call)
    | assumption
    | (with_reducible intro hh; first | exact absurd (show true = false from hh) (by decide) | exact absurd (show false = true from hh) (by decide) | clear hh)))

section
variable {P : Program} {w : World} {K : PySem.W.Frag} {mg : Str → Option Value} {base : Heap}
theorem sc_are_ones : FnScope ["thing", "low", "high", "look", "one"] ["thing", "low", "high", "look"] (defScope s_are_ones) := ⟨rfl, rfl, rfl, by decide +kernel, rfl, by decide +kernel, by decide +kernel⟩
theorem name_first {n : PyData} (h : isNameD n = true) : ∃ x, n = .str x := by cases n <;> first | exact ⟨_, rfl⟩ | (cases h)
theorem line_first {d : PyData} (h : isLineD d = true) : ∃ n r, d = .tuple (.str n :: r) := by
  unfold isLineD at h
  split at h
  · obtain ⟨x, rfl⟩ := name_first (ba (ba h).1).1
    exact ⟨_, _, rfl⟩
  · cases h
theorem bottom_first {d : PyData} (h : isBottomD d = true) : ∃ n r, d = .tuple (.str n :: r) := by
  unfold isBottomD at h
  split at h
  · obtain ⟨x, rfl⟩ := name_first (ba h).1
    exact ⟨_, _, rfl⟩
  · cases h
theorem thread_first {d : PyData} (h : isThreadD d = true) : ∃ n r, d = .tuple (.str n :: r) := by
  unfold isThreadD at h
  split at h
  · obtain ⟨x, rfl⟩ := name_first (ba (ba h).1).1
    exact ⟨_, _, rfl⟩
  · cases h
def spOnes (K : PySem.W.Frag) : Sp := fun vs H Q _ => ∃ v d lo hi q p, vs = [v, .int lo, .int hi, .ref q] ∧ ((q = f_is_line K ∧ p = isLineD) ∨ (q = f_is_bottom K ∧ p = isBottomD) ∨ (q = f_is_thread K ∧ p = isThreadD)) ∧ Dp K H v d ∧ Sm d ∧ hi ≤ 100 ∧ ∀ H', Same H H' → Q (.bl (areOnesD d lo hi p)) H'
theorem ok_are_ones (T : Txt w K mg) : FnOk P w K mg base CX0 6 (f_are_ones K) (fdAt K (f_are_ones K)) ["thing", "low", "high", "look"] (spOnes K) := by
  refine (df_are_ones T).ok sc_are_ones (fun vs H Q E h => ?_) (fun cdv A outer s H vs Q E hr h => ?_)
  · obtain ⟨v, d, _, _, _, _, rfl, _⟩ := h
    rfl
  · obtain ⟨v, d, lo, hi, q, p, rfl, hq, hd, hf, hhi, q0⟩ := h
    obtain ⟨fd, FL, kL, bL, hp⟩ : ∃ fd, FnOk P w K mg base CX0 5 q fd ["thing"] (spQ K p) ∧ PySem.W.keepIn K (.ref q) = true ∧ Binds K fd ["thing"] [] ∧ ∀ d, p d = true → ∃ n r, d = .tuple (.str n :: r) := by
      rcases hq with ⟨rfl, rfl⟩ | ⟨rfl, rfl⟩ | ⟨rfl, rfl⟩
      · exact ⟨_, ok_is_line T, (df_is_line T).kp, bi_is_line T, fun d => line_first⟩
      · exact ⟨_, ok_is_bottom T, (df_is_bottom T).kp, bi_is_bottom T, fun d => bottom_first⟩
      · exact ⟨_, ok_is_thread T, (df_is_thread T).kp, bi_is_thread T, fun d => thread_first⟩
    by_cases hT : ∃ ds, d = .tuple ds
    · refine ⟨_, PSs.nox ((pss_cons (ps_if (PW.pt (pw_or (pt_not (pt_val (pe_callB (call_isiTK (K := K) rfl) (by rfl) (fr_isinstance T) (by decide +kernel) (pa_cons (pv 0) (pa_cons (pe_tup (pa_cons (pe_bltn (v := .ty "list") (u := .type "list") (by rfl) (fr_list T) (by decide +kernel) rfl) (pa_cons (pe_bltn (v := .ty "tuple") (u := .type "tuple") (by rfl) (fr_tuple T) (by decide +kernel) rfl) pa_nil))) pa_nil))))) (pw_or (pt_not (pt_chain op_le op_le (pv 1) (pe_callB (call_lenK (K := K) rfl) (by rfl) (fr_len T) PySem.boot_len (pa_cons (pv 0) pa_nil)) (pv 2))) (pw_or1 (pt_not (pt_val (pe_callB (cr_allK rfl (K := K) rfl) (by rfl) (fr_all T) (by decide +kernel) (pa_cons (pe_lc (own := [("one", 4)]) (g := gName 4) (tt := tYes) rfl sc_are_ones.nd (pi_tupK (K := K) rfl (pv 0)) (blkOk_by (N := ["thing", "low", "high", "look", "one"]) (sc := defScope s_are_ones) (by decide +kernel)) (fun _ _ _ _ _ => pg_name (i := 4) sc_are_ones.nd rfl (Or.inl rfl)) (fun _ _ _ _ _ => pts_nil) (fun _ _ _ _ _ => (pe_callL (i := 3) FL (hr.mono (by decide)) rfl (by first | exact Or.inl rfl | exact Or.inr (Or.inl rfl) | exact Or.inr (Or.inr rfl)) kL bL .nil pass0 (pa_cons (pv 4) pa_nil)))) pa_nil)))))))) (pss_one (ps_ret pe_bl)) pss_nil)
      (pss_one (ps_ret (pe_cmpR op_eq (pe_callB call_len_setK (by rfl) (fr_len T) PySem.boot_len (pa_cons (pe_scK (own := [("one", 4)]) (g := gName 4) (tt := tYes) rfl sc_are_ones.nd (pi_tupK (K := K) rfl (pv 0)) (blkOk_by (N := ["thing", "low", "high", "look", "one"]) (sc := defScope s_are_ones) (by decide +kernel)) (fun _ _ _ _ _ => pg_name (i := 4) sc_are_ones.nd rfl (Or.inl rfl)) (fun _ _ _ _ _ => pts_nil) (fun _ _ _ _ _ => (pe_ix (ix_tupK (K := K) rfl) (pv 4) pe_int (fun _ _ => rfl)))) pa_nil)) (pe_callB (call_lenK (K := K) rfl) (by rfl) (fr_len T) PySem.boot_len (pa_cons (pv 0) pa_nil)) (nomark _)))))), ?_⟩
      obtain ⟨ds, rfl⟩ := hT
      obtain ⟨a, xs, rfl, hx, ha⟩ := dpT hd
      obtain ⟨hl, hf⟩ := Sm_tup hf
      have hlen := dpLen ha
      have e0 : areOnesD (.tuple ds) lo hi p = onesL ds lo hi p := rfl
      rw [e0] at q0
      cases hb : (decide (lo ≤ (ds.length : Int)) && decide ((ds.length : Int) ≤ hi)) && ds.all p with
      | false =>
        refine ret_no q0 (by unfold onesL; rw [hb]; rfl) (et_is (b := true) (et_or (a := false) (b := true) (et_not (a := true) (et_B (ev_is (ev_isiT (ev_var rfl) hd) (by rfl)))) fun _ => et_is (b := true) (et_or (a := !(decide (lo ≤ (xs.length : Int)) && decide ((xs.length : Int) ≤ hi))) (b := !(ds.all p)) (et_not (et_test (ev_chain (ev_var rfl) (ev_lenS (ev_var rfl) (Or.inr hx)) rv_I0 (fun _ => ev_var rfl) (fun _ => rv_I0)))) fun h => ?_) ?_) rfl)
        · have hh : xs.length ≤ 100 := by
            cases h1 : decide (lo ≤ (xs.length : Int)) <;> cases h2 : decide ((xs.length : Int) ≤ hi) <;> simp_all
            omega
          exact et_not (et_B (ev_is (ev_all (bs := ds.map p) (by
            rw [← map_bl]
            exact el_lcDT (fun d => V.bl (p d)) (ev_var rfl) hx ha (by omega) (fun _ => rfl) fun x d hm hd => ev_callL rfl (ea_cons (ev_var rfl) ea_nil) (sv_q hd (SmA_mem hf d hm)))) (by rw [all_map])))
        · rw [hlen]
          cases h1 : (decide (lo ≤ (ds.length : Int)) && decide ((ds.length : Int) ≤ hi)) <;> cases h2 : ds.all p <;> simp_all
      | true =>
        obtain ⟨hb1, hb2⟩ := ba hb
        have hh : xs.length ≤ 100 := by
          obtain ⟨_, h2⟩ := ba hb1
          have := of_decide_eq_true h2
          omega
        have hall : ∀ d ∈ ds, p d = true := List.all_eq_true.mp hb2
        refine q_when (b := false) (et_is (b := false) (et_or (a := false) (b := false) (et_not (a := true) (et_B (ev_is (ev_isiT (ev_var rfl) hd) (by rfl)))) fun _ => et_is (b := false) (et_or (a := false) (b := false) (et_is (et_not (et_test (ev_chain (ev_var rfl) (ev_lenS (ev_var rfl) (Or.inr hx)) rv_I0 (fun _ => ev_var rfl) (fun _ => rv_I0)))) (by rw [hlen, hb1]; rfl)) fun h => ?_) rfl) rfl) (fun h => by cases h) fun _ H1 e1 => ?_
        · exact et_is (et_not (et_B (ev_all (bs := ds.map p) (by
            rw [← map_bl]
            exact el_lcDT (fun d => V.bl (p d)) (ev_var rfl) hx ha (by omega) (fun _ => rfl) fun x d hm hd => ev_callL rfl (ea_cons (ev_var rfl) ea_nil) (sv_q hd (SmA_mem hf d hm)))))) (by rw [all_map, hb2]; rfl)
        · refine s_ret (ev_op (ev_lenScT (ks := (ds.map nameD).map Sum.inr) (ev_var rfl) (ex_t e1 hx) (by simp [hlen]) (by simp; omega) (fun _ => rfl) fun i x k hi hk => ?_) (ev_lenS (ev_var rfl) (Or.inr (ex_t e1 hx))) (rv_eq rfl)) fun H2 e2 => ?_
          · obtain ⟨d, hd1, hd2⟩ := daG ha hi
            have hm : d ∈ ds := List.mem_of_getElem? hd1
            obtain ⟨n, r, rfl⟩ := hp d (hall d hm)
            have ek : k = Sum.inr n := by
              rw [List.getElem?_map, List.getElem?_map, hd1] at hk
              exact (Option.some.inj hk).symm
            subst ek
            obtain ⟨b, ys, rfl, hy, hb⟩ := dpT (dpM e1 hd2)
            obtain ⟨v0, zs, rfl, h0, _⟩ := dpC hb
            rw [dpS h0] at hy
            exact ev_op (ev_var rfl) ev_c (rv_ixT hy at0)
          · have q' := q0 _ (e1.trans e2)
            have e : onesL ds lo hi p = decide (V.int (dc ((ds.map nameD).map Sum.inr) : Nat) = V.int (xs.length : Nat)) := by
              have := dc_nodup (f := (Sum.inr : Str → L2.Key)) (fun a b h => Sum.inr.inj h) (ds.map nameD)
              rw [List.length_map] at this
              unfold onesL
              rw [hb, hlen, this]
              rfl
            rw [e] at q'
            exact q'
    · refine ⟨_, PSs.nox ((pss_cons (ps_if (PW.pt (pw_or (pt_not (pt_val (pe_callB (call_isiTK (K := K) rfl) (by rfl) (fr_isinstance T) (by decide +kernel) (pa_cons (pv 0) (pa_cons (pe_tup (pa_cons (pe_bltn (v := .ty "list") (u := .type "list") (by rfl) (fr_list T) (by decide +kernel) rfl) (pa_cons (pe_bltn (v := .ty "tuple") (u := .type "tuple") (by rfl) (fr_tuple T) (by decide +kernel) rfl) pa_nil))) pa_nil))))) (pw_or (pt_not (pt_chain op_le op_le (pv 1) (pe_callB (call_lenK (K := K) rfl) (by rfl) (fr_len T) PySem.boot_len (pa_cons (pv 0) pa_nil)) (pv 2))) (pw_or1 (pt_not (pt_val (pe_callB (cr_allK rfl (K := K) rfl) (by rfl) (fr_all T) (by decide +kernel) (pa_cons (pe_lc (own := [("one", 4)]) (g := gName 4) (tt := tYes) rfl sc_are_ones.nd (pi_listK (K := K) rfl (pv 0)) (blkOk_by (N := ["thing", "low", "high", "look", "one"]) (sc := defScope s_are_ones) (by decide +kernel)) (fun _ _ _ _ _ => pg_name (i := 4) sc_are_ones.nd rfl (Or.inl rfl)) (fun _ _ _ _ _ => pts_nil) (fun _ _ _ _ _ => (pe_callL (i := 3) FL (hr.mono (by decide)) rfl (by first | exact Or.inl rfl | exact Or.inr (Or.inl rfl) | exact Or.inr (Or.inr rfl)) kL bL .nil pass0 (pa_cons (pv 4) pa_nil)))) pa_nil)))))))) (pss_one (ps_ret pe_bl)) pss_nil)
      (pss_one (ps_ret (pe_cmpR op_eq (pe_callB call_len_setK (by rfl) (fr_len T) PySem.boot_len (pa_cons (pe_scK (own := [("one", 4)]) (g := gName 4) (tt := tYes) rfl sc_are_ones.nd (pi_listK (K := K) rfl (pv 0)) (blkOk_by (N := ["thing", "low", "high", "look", "one"]) (sc := defScope s_are_ones) (by decide +kernel)) (fun _ _ _ _ _ => pg_name (i := 4) sc_are_ones.nd rfl (Or.inl rfl)) (fun _ _ _ _ _ => pts_nil) (fun _ _ _ _ _ => (pe_ix (ix_tupK (K := K) rfl) (pv 4) pe_int (fun _ _ => rfl)))) pa_nil)) (pe_callB (call_lenK (K := K) rfl) (by rfl) (fr_len T) PySem.boot_len (pa_cons (pv 0) pa_nil)) (nomark _)))))), ?_⟩
      by_cases hL : ∃ ds, d = .list ds
      · obtain ⟨ds, rfl⟩ := hL
        obtain ⟨a, xs, rfl, hx, ha⟩ := dpL hd
        obtain ⟨hl, hf⟩ := Sm_list hf
        have hlen := dpLen ha
        have e0 : areOnesD (.list ds) lo hi p = onesL ds lo hi p := rfl
        rw [e0] at q0
        cases hb : (decide (lo ≤ (ds.length : Int)) && decide ((ds.length : Int) ≤ hi)) && ds.all p with
        | false =>
          refine ret_no q0 (by unfold onesL; rw [hb]; rfl) (et_is (b := true) (et_or (a := false) (b := true) (et_not (a := true) (et_B (ev_is (ev_isiT (ev_var rfl) hd) (by rfl)))) fun _ => et_is (b := true) (et_or (a := !(decide (lo ≤ (xs.length : Int)) && decide ((xs.length : Int) ≤ hi))) (b := !(ds.all p)) (et_not (et_test (ev_chain (ev_var rfl) (ev_lenS (ev_var rfl) (Or.inl hx)) rv_I0 (fun _ => ev_var rfl) (fun _ => rv_I0)))) fun h => ?_) ?_) rfl)
          · have hh : xs.length ≤ 100 := by
              cases h1 : decide (lo ≤ (xs.length : Int)) <;> cases h2 : decide ((xs.length : Int) ≤ hi) <;> simp_all
              omega
            exact et_not (et_B (ev_is (ev_all (bs := ds.map p) (by
              rw [← map_bl]
              exact el_lcD (fun d => V.bl (p d)) (ev_var rfl) hx ha (by omega) (fun _ => rfl) fun x d hm hd => ev_callL rfl (ea_cons (ev_var rfl) ea_nil) (sv_q hd (SmA_mem hf d hm)))) (by rw [all_map])))
          · rw [hlen]
            cases h1 : (decide (lo ≤ (ds.length : Int)) && decide ((ds.length : Int) ≤ hi)) <;> cases h2 : ds.all p <;> simp_all
        | true =>
          obtain ⟨hb1, hb2⟩ := ba hb
          have hh : xs.length ≤ 100 := by
            obtain ⟨_, h2⟩ := ba hb1
            have := of_decide_eq_true h2
            omega
          have hall : ∀ d ∈ ds, p d = true := List.all_eq_true.mp hb2
          refine q_when (b := false) (et_is (b := false) (et_or (a := false) (b := false) (et_not (a := true) (et_B (ev_is (ev_isiT (ev_var rfl) hd) (by rfl)))) fun _ => et_is (b := false) (et_or (a := false) (b := false) (et_is (et_not (et_test (ev_chain (ev_var rfl) (ev_lenS (ev_var rfl) (Or.inl hx)) rv_I0 (fun _ => ev_var rfl) (fun _ => rv_I0)))) (by rw [hlen, hb1]; rfl)) fun h => ?_) rfl) rfl) (fun h => by cases h) fun _ H1 e1 => ?_
          · exact et_is (et_not (et_B (ev_all (bs := ds.map p) (by
              rw [← map_bl]
              exact el_lcD (fun d => V.bl (p d)) (ev_var rfl) hx ha (by omega) (fun _ => rfl) fun x d hm hd => ev_callL rfl (ea_cons (ev_var rfl) ea_nil) (sv_q hd (SmA_mem hf d hm)))))) (by rw [all_map, hb2]; rfl)
          · refine s_ret (ev_op (ev_lenScL (ks := (ds.map nameD).map Sum.inr) (ev_var rfl) (ex_l e1 hx) (by simp [hlen]) (by simp; omega) (fun _ => rfl) fun i x k hi hk => ?_) (ev_lenS (ev_var rfl) (Or.inl (ex_l e1 hx))) (rv_eq rfl)) fun H2 e2 => ?_
            · obtain ⟨d, hd1, hd2⟩ := daG ha hi
              have hm : d ∈ ds := List.mem_of_getElem? hd1
              obtain ⟨n, r, rfl⟩ := hp d (hall d hm)
              have ek : k = Sum.inr n := by
                rw [List.getElem?_map, List.getElem?_map, hd1] at hk
                exact (Option.some.inj hk).symm
              subst ek
              obtain ⟨b, ys, rfl, hy, hb⟩ := dpT (dpM e1 hd2)
              obtain ⟨v0, zs, rfl, h0, _⟩ := dpC hb
              rw [dpS h0] at hy
              exact ev_op (ev_var rfl) ev_c (rv_ixT hy at0)
            · have q' := q0 _ (e1.trans e2)
              have e : onesL ds lo hi p = decide (V.int (dc ((ds.map nameD).map Sum.inr) : Nat) = V.int (xs.length : Nat)) := by
                have := dc_nodup (f := (Sum.inr : Str → L2.Key)) (fun a b h => Sum.inr.inj h) (ds.map nameD)
                rw [List.length_map] at this
                unfold onesL
                rw [hb, hlen, this]
                rfl
              rw [e] at q'
              exact q'
      · have h0 : (isT (tyD d) "list" || isT (tyD d) "tuple") = false := by cases d <;> first | rfl | exact absurd ⟨_, rfl⟩ hT | exact absurd ⟨_, rfl⟩ hL
        refine ret_no q0 ?_ (et_is (b := true) (et_or (a := true) (b := true) (et_is (et_not (et_B (ev_isiT (ev_var rfl) hd))) (by rw [h0]; rfl)) fun h => by cases h) rfl)
        cases d <;> first | rfl | exact absurd ⟨_, rfl⟩ hT | exact absurd ⟨_, rfl⟩ hL
end
end KW
end
section
set_option Elab.async false
set_option linter.all false
set_option autoImplicit false
set_option maxRecDepth 100000
set_option maxHeartbeats 400000
/-! are_unlike_ranks, spoken, all_there -/
namespace KW
open PySem PySem.Spec PyProof.Rows L2 He KR Evl
local macro_rules
  | `(tactic| walk_at "ev") => `(tactic| repeat' (first
    | exact ev_c | exact ev_var rfl | exact ea_nil | exact rv_I0 | exact ru_neg | exact eo_none
    | exact rv_eq rfl | exact rv_ne rfl
    | exact rv_ixT (by assumption) (by rfl) | exact rv_ixL (by assumption) (by rfl)
    | exact sv_q (by assumption) (by assumption) | exact sv_within (by assumption)
    | exact Or.inr (by assumption) | exact Or.inl (by assumption) | (show (_ : String) ∈ _; decide)
    | with_reducible (first | apply ev_isi | apply ev_lenS | apply ev_if' | apply et_test | apply et_B | apply et_not | apply et_and | apply et_or | apply ev_andV | apply ev_orV | apply ev_notV | apply ea_cons | apply eo_some | apply ev_op | apply ev_un | apply ev_call)
    | assumption
    | (with_reducible intro hh; first | exact absurd (show true = false from hh) (by decide) | exact absurd (show false = true from hh) (by decide) | clear hh)))

section
variable {P : Program} {w : World} {K : PySem.W.Frag} {mg : Str → Option Value} {base : Heap}
theorem sc_are_unlike_ranks : FnScope ["things", "one"] ["things"] (defScope s_are_unlike_ranks) := ⟨rfl, rfl, rfl, by decide +kernel, rfl, by decide +kernel, by decide +kernel⟩
theorem sc_spoken : FnScope ["steps", "word", "step"] ["steps", "word"] (defScope s_spoken) := ⟨rfl, rfl, rfl, by decide +kernel, rfl, by decide +kernel, by decide +kernel⟩
theorem sc_all_there : FnScope ["names", "lines", "bottoms", "threads", "every", "one", "word", "there", "steps", "name"] ["names", "lines", "bottoms", "threads"] (defScope s_all_there) := ⟨rfl, rfl, rfl, by decide +kernel, rfl, by decide +kernel, by decide +kernel⟩
def spRanks (K : PySem.W.Frag) : Sp := fun vs H Q _ => ∃ v d ds, vs = [v] ∧ (d = .list ds ∨ d = .tuple ds) ∧ Dp K H v d ∧ ds.length ≤ 100 ∧ (∀ e ∈ ds, ∃ n r rest, e = .tuple (n :: .int r :: rest)) ∧ ∀ H', Same H H' → Q (.bl (unlikeD ds)) H'
theorem ranks_elt {H : Hp} {ds : List PyData} {xs : List V} (ha : DpAll K H xs ds) (hp : ∀ e ∈ ds, ∃ n r rest, e = .tuple (n :: .int r :: rest)) {i : Nat} {x : V} {k : L2.Key} {σ : L2.St} (hi : xs[i]? = some x) (hk : ((ds.map rankD).map Sum.inl : List L2.Key)[i]? = some k) (hσ : σ[1]? = some (some x)) :
    Ev (tOp (rIxT K) (tVar 1) (tC (.int 1))) σ H (kV k) := by
  obtain ⟨d, hd1, hd2⟩ := daG ha hi
  obtain ⟨n, r, rest, rfl⟩ := hp d (List.mem_of_getElem? hd1)
  have ek : k = Sum.inl r := by
    rw [List.getElem?_map, List.getElem?_map, hd1] at hk
    exact (Option.some.inj hk).symm
  subst ek
  obtain ⟨b, ys, rfl, hy, hb⟩ := dpT hd2
  obtain ⟨v0, zs, rfl, h0, hb⟩ := dpC hb
  obtain ⟨v1, zs, rfl, h1, _⟩ := dpC hb
  rw [dpI h1] at hy
  exact ev_op (ev_var hσ) ev_c (rv_ixT hy (atI_nat (j := 1) rfl))
theorem ok_are_unlike_ranks (T : Txt w K mg) : FnOk P w K mg base CX0 1 (f_are_unlike_ranks K) (fdAt K (f_are_unlike_ranks K)) ["things"] (spRanks K) := by
  refine (df_are_unlike_ranks T).ok sc_are_unlike_ranks (fun vs H Q E h => ?_) (fun cdv A outer s H vs Q E hr h => ?_)
  · obtain ⟨v, d, _, rfl, _⟩ := h
    rfl
  · obtain ⟨v, d, ds, rfl, hd, hx, hl, hp, q⟩ := h
    have dn := dc_nodup (f := (Sum.inl : Int → L2.Key)) (fun a b h => Sum.inl.inj h) (ds.map rankD)
    rw [List.length_map] at dn
    rcases hd with rfl | rfl
    · refine ⟨_, PSs.nox ((pss_one (ps_ret (pe_cmpR op_eq (pe_callB call_len_setK (by rfl) (fr_len T) PySem.boot_len (pa_cons (pe_scK (own := [("one", 1)]) (g := gName 1) (tt := tYes) rfl sc_are_unlike_ranks.nd (pi_listK (K := K) rfl (pv 0)) (blkOk_by (N := ["things", "one"]) (sc := defScope s_are_unlike_ranks) (by decide +kernel)) (fun _ _ _ _ _ => pg_name (i := 1) sc_are_unlike_ranks.nd rfl (Or.inl rfl)) (fun _ _ _ _ _ => pts_nil) (fun _ _ _ _ _ => (pe_ix (ix_tupK (K := K) rfl) (pv 1) pe_int (fun _ _ => rfl)))) pa_nil)) (pe_callB (call_lenK (K := K) rfl) (by rfl) (fr_len T) PySem.boot_len (pa_cons (pv 0) pa_nil)) (nomark _))))), ?_⟩
      obtain ⟨a, xs, rfl, hx, ha⟩ := dpL hx
      have hlen := dpLen ha
      refine s_ret (ev_op (ev_lenScL (ks := (ds.map rankD).map Sum.inl) (ev_var rfl) hx (by simp [hlen]) (by simp; omega) (fun _ => rfl) fun i x k hi hk => ranks_elt ha hp hi hk rfl) (ev_lenS (ev_var rfl) (.inl hx)) (rv_eq rfl)) fun H2 e2 => ?_
      rw [hlen, dn]
      exact q _ e2
    · refine ⟨_, PSs.nox ((pss_one (ps_ret (pe_cmpR op_eq (pe_callB call_len_setK (by rfl) (fr_len T) PySem.boot_len (pa_cons (pe_scK (own := [("one", 1)]) (g := gName 1) (tt := tYes) rfl sc_are_unlike_ranks.nd (pi_tupK (K := K) rfl (pv 0)) (blkOk_by (N := ["things", "one"]) (sc := defScope s_are_unlike_ranks) (by decide +kernel)) (fun _ _ _ _ _ => pg_name (i := 1) sc_are_unlike_ranks.nd rfl (Or.inl rfl)) (fun _ _ _ _ _ => pts_nil) (fun _ _ _ _ _ => (pe_ix (ix_tupK (K := K) rfl) (pv 1) pe_int (fun _ _ => rfl)))) pa_nil)) (pe_callB (call_lenK (K := K) rfl) (by rfl) (fr_len T) PySem.boot_len (pa_cons (pv 0) pa_nil)) (nomark _))))), ?_⟩
      obtain ⟨a, xs, rfl, hx, ha⟩ := dpT hx
      have hlen := dpLen ha
      refine s_ret (ev_op (ev_lenScT (ks := (ds.map rankD).map Sum.inl) (ev_var rfl) hx (by simp [hlen]) (by simp; omega) (fun _ => rfl) fun i x k hi hk => ranks_elt ha hp hi hk rfl) (ev_lenS (ev_var rfl) (.inr hx)) (rv_eq rfl)) fun H2 e2 => ?_
      rw [hlen, dn]
      exact q _ e2
def speaks (x : Str) : Prop := x = "answer" ∨ x = "later" ∨ x = "wake"
theorem step_speaks {s : PyData} (h : isStepD s = true) (hw : speaks (wordD s)) : ∃ n, s = .tuple [.str (wordD s), .str n] ∧ argD s = n ∧ isNameS n = true := by
  obtain ⟨r, e⟩ := wordD_get h
  generalize wordD s = y at e hw
  subst e
  have hm : ¬ (y = "mask" ∨ y = "open") := by rcases hw with rfl | rfl | rfl <;> decide
  have hrun : ¬ y = "run" := by rcases hw with rfl | rfl | rfl <;> decide
  have h : isStepW y r = true := h
  unfold isStepW at h
  rw [if_neg hm] at h
  match r, h with
  | [d], h =>
    simp only [if_neg hrun] at h
    obtain ⟨_, h⟩ := ba h
    cases d with
    | str n => exact ⟨n, rfl, rfl, h⟩
    | _ => cases h
def spSpoken (K : PySem.W.Frag) : Sp := fun vs H Q _ => ∃ v x ds, vs = [v, .str x] ∧ speaks x ∧ Dp K H v (.list ds) ∧ ds.length ≤ 40000 ∧ (∀ s ∈ ds, isStepD s = true) ∧ ∀ p H', H p = none → Ex H H' → H' p = some (.lst ((spokenD ds x).map V.str)) → Q (.ref p) H'
theorem ok_spoken (T : Txt w K mg) : FnOk P w K mg base CX0 1 (f_spoken K) (fdAt K (f_spoken K)) ["steps", "word"] (spSpoken K) := by
  refine (df_spoken T).ok sc_spoken (fun vs H Q E h => ?_) (fun cdv A outer s H vs Q E hr h => ?_)
  · obtain ⟨v, x, _, rfl, _⟩ := h
    rfl
  · obtain ⟨v, x, ds, rfl, hw, hx, hl, hp, q⟩ := h
    refine ⟨_, PSs.nox ((pss_one (ps_ret (pe_lc (own := [("step", 2)]) (g := gName 2) rfl sc_spoken.nd (pi_listK (K := K) rfl (pv 0)) (blkOk_by (N := ["steps", "word", "step"]) (sc := defScope s_spoken) (by decide +kernel)) (fun _ _ _ _ _ => pg_name (i := 2) sc_spoken.nd rfl (Or.inl rfl)) (fun _ _ _ _ _ => (pts_one (pt_cmpR op_eq (pe_ix (ix_tupK (K := K) rfl) (pv 2) pe_int (fun _ _ => rfl)) (pv 1) (nomark _)))) (fun _ _ _ _ _ => (pe_ix (ix_tupK (K := K) rfl) (pv 2) pe_int (fun _ _ => rfl))))))), ?_⟩
    obtain ⟨a, xs, rfl, hx, ha⟩ := dpL hx
    have hlen := dpLen ha
    refine s_retL (el_lcDf (fun s => decide (wordD s = x)) (fun s => V.str (argD s)) (ev_var rfl) hx ha (by omega) (fun _ => rfl) (fun y d hm hd => et_test (ev_is (ev_op (ev_word (ev_var rfl) hd (hp d hm)) (ev_var rfl) (rv_eq rfl)) ?_)) fun y d hm hd hpd => ?_) fun p H1 hn e1 h1 => q p H1 hn e1 ?_
    · by_cases e : wordD d = x
      · rw [e]; simp
      · have : ¬ V.str (wordD d) = V.str x := fun z => e (V.str.inj z)
        simp [e, this]
    · have e := of_decide_eq_true hpd
      obtain ⟨n, h1, h2, _⟩ := step_speaks (hp d hm) (by rw [e]; exact hw)
      rw [h1] at hd
      obtain ⟨b, ys, rfl, hy, hb⟩ := dpT hd
      obtain ⟨v0, zs, rfl, h0, hb⟩ := dpC hb
      obtain ⟨v1, zs, rfl, h3, _⟩ := dpC hb
      rw [dpS h3] at hy
      rw [h2]
      exact ev_op (ev_var rfl) ev_c (rv_ixT hy (atI_nat (j := 1) rfl))
    · rw [h1]
      unfold spokenD
      rw [List.map_map]
      rfl
/-- the forms of lines, bottoms, threads -/
def OneD (e : PyData) : Prop := ∃ hs ss, e = .tuple (hs ++ [.list ss]) ∧ (∀ s ∈ ss, isStepD s = true) ∧ ss.length ≤ 100
theorem one_steps {hs ss : List PyData} : stepsD (.tuple (hs ++ [.list ss])) = ss := by
  unfold stepsD
  simp
/-- what stands last in each -/
theorem lasts {H : Hp} : ∀ {xs : List V} {ds : List PyData}, DpAll K H xs ds → (∀ e ∈ ds, OneD e) → ∃ ws : List V, DpAll K H ws (ds.map fun e => .list (stepsD e)) ∧ ∀ (i : Nat) (x w : V), xs[i]? = some x → ws[i]? = some w → ∃ a ys, x = .ref a ∧ SqT K H a ys ∧ atI ys (-1) = some w
  | _, _, .nil, _ => ⟨[], .nil, fun i x w h => by simp at h⟩
  | _, _, .cons (d := d) h hr, hp => by
    obtain ⟨ws, h1, h2⟩ := lasts hr fun e he => hp e (List.mem_cons_of_mem _ he)
    obtain ⟨hs, ss, rfl, _⟩ := hp d (List.mem_cons_self ..)
    obtain ⟨a, ys, rfl, hy, hd⟩ := dpT h
    obtain ⟨us, v, rfl, hv⟩ : ∃ us v, ys = us ++ [v] ∧ Dp K H v (.list ss) := by
      have hl := dpLen hd
      rw [List.length_append] at hl
      have hne : ys ≠ [] := fun e => by rw [e] at hl; simp at hl
      refine ⟨ys.dropLast, ys.getLast hne, (List.dropLast_concat_getLast hne).symm, ?_⟩
      obtain ⟨d, hd1, hd2⟩ := daG hd (i := ys.length - 1) (v := ys.getLast hne) (by rw [List.getLast_eq_getElem, List.getElem?_eq_getElem])
      have : (hs ++ [PyData.list ss])[ys.length - 1]? = some (.list ss) := by
        have e : ys.length - 1 = hs.length := by rw [hl]; simp
        rw [e]
        simp
      rw [this] at hd1
      cases hd1
      exact hd2
    refine ⟨v :: ws, .cons (by show Dp K H v (.list (stepsD (.tuple (hs ++ [.list ss])))); rw [one_steps]; exact hv) h1, fun i x w hx hw => ?_⟩
    cases i with
    | zero =>
      simp at hx hw
      subst hx hw
      refine ⟨a, _, rfl, hy, ?_⟩
      have e : ixN (us ++ [v]).length (-1) = some us.length := by
        unfold ixN
        rw [if_neg (by decide), if_pos (by simp; omega)]
        simp
        omega
      unfold atI
      rw [e]
      simp
    | succ i => exact h2 i x w (by simpa using hx) (by simpa using hw)
def spThere (K : PySem.W.Frag) : Sp := fun vs H Q _ => ∃ pn n1 n2 n3 N1 N2 N3 l b t dl db dt D1 D2 D3, vs = [.ref pn, l, b, t] ∧ (SqL K H pn [.ref n1, .ref n2, .ref n3] ∧ SqL K H n1 ((N1 : List Str).map V.str) ∧ SqL K H n2 ((N2 : List Str).map V.str) ∧ SqL K H n3 ((N3 : List Str).map V.str)) ∧
  ((dl = .list D1 ∨ dl = .tuple D1) ∧ (db = .list D2 ∨ db = .tuple D2) ∧ (dt = .list D3 ∨ dt = .tuple D3)) ∧ (Dp K H l dl ∧ Dp K H b db ∧ Dp K H t dt) ∧ (D1.length ≤ 10 ∧ D2.length ≤ 10 ∧ D3.length ≤ 10) ∧
  (∀ e ∈ D1 ++ (D2 ++ D3), OneD e) ∧ ∀ H', Same H H' → Q (.bl (allThereD (N1, N2, N3) (D1 ++ (D2 ++ D3)))) H'
theorem sq_data {H : Hp} {v : V} {d : PyData} {L : List PyData} (h : d = .list L ∨ d = .tuple L) (hd : Dp K H v d) : ∃ a xs, v = .ref a ∧ (SqL K H a xs ∨ SqT K H a xs) ∧ DpAll K H xs L := by
  rcases h with rfl | rfl
  · obtain ⟨a, xs, e, h1, h2⟩ := dpL hd
    exact ⟨a, xs, e, .inl h1, h2⟩
  · obtain ⟨a, xs, e, h1, h2⟩ := dpT hd
    exact ⟨a, xs, e, .inr h1, h2⟩
theorem da_app {H : Hp} {vs ws : List V} {ds es : List PyData} (h1 : DpAll K H vs ds) (h2 : DpAll K H ws es) : DpAll K H (vs ++ ws) (ds ++ es) := DpAll.append h1 h2
theorem spoken_ok {ss : List PyData} (h : ss.length ≤ 100) (x : Str) : (spokenD ss x).length ≤ 100 := by
  unfold spokenD
  rw [List.length_map]
  exact Nat.le_trans (List.length_filter_le ..) h
theorem steps_len {e : PyData} (h : OneD e) : (stepsD e).length ≤ 100 ∧ ∀ s ∈ stepsD e, isStepD s = true := by
  obtain ⟨hs, ss, rfl, h1, h2⟩ := h
  rw [one_steps]
  exact ⟨h2, h1⟩
theorem all_flat {every : List PyData} {x : Str} {there : List Str} : (every.flatMap fun e => ((spokenD (stepsD e) x).map fun n => decide (n ∈ there))).all id = thereD x there every := by
  unfold thereD
  induction every with
  | nil => rfl
  | cons e r ih =>
    rw [List.flatMap_cons, List.all_append, ih, List.all_cons, List.all_map]
    rfl
/-- the test of a turn -/
theorem there_test {H : Hp} {σ : L2.St} {pe : Addr} {ws : List V} {every : List PyData} {x : Str} {pt : Addr} {there : List Str} {a b c d s5 s8 s9 : Option V} (hσ : σ = [a, b, c, d, some (.ref pe), s5, some (.str x), some (.ref pt), s8, s9]) (hw : speaks x) (he : SqL K H pe ws) (hd : DpAll K H ws (every.map fun e => .list (stepsD e))) (ho : ∀ e ∈ every, OneD e) (hz : every.length ≤ 100) (ht : SqL K H pt (there.map V.str)) :
    EvT (tNot (tB (tCB (rAll K) (tCons (tLc2 (iList K (tVar 4)) (gName 8) tYes (iList K (tCall (spSpoken K) [] E0 (tCons (tVar 8) (tCons (tVar 6) tNil)))) (gName 9) tYes (tOp (rIn K false) (tVar 9) (tVar 7)) [8, 9] [9]) tNil)))) σ H (!thereD x there every) := by
  subst hσ
  have hl := dpLen hd
  rw [List.length_map] at hl
  refine et_not (et_B (ev_is (ev_all (bs := every.flatMap fun e => ((spokenD (stepsD e) x).map fun n => decide (n ∈ there))) ?_) (by rw [all_flat])))
  have key : ∀ {i : Nat} {y : V}, ws[i]? = some y → ∃ e, every.getD i .none = e ∧ e ∈ every ∧ Dp K H y (.list (stepsD e)) := fun {i y} hi => by
    obtain ⟨d, h1, h2⟩ := daG hd hi
    rw [List.getElem?_map] at h1
    cases hq : every[i]? with
    | none => rw [hq] at h1; cases h1
    | some e =>
      rw [hq] at h1
      cases h1
      exact ⟨e, by rw [List.getD_eq_getElem?_getD, hq]; rfl, List.mem_of_getElem? hq, h2⟩
  have small : ∀ i, (spokenD (stepsD (every.getD i .none)) x).length ≤ 100 := fun i => by
    rw [List.getD_eq_getElem?_getD]
    cases hq : every[i]? with
    | none => exact spoken_ok (by show (stepsD .none).length ≤ 100; decide) x
    | some e => exact spoken_ok (steps_len (ho e (List.mem_of_getElem? hq))).1 x
  have z := el_lc2 (K := K) (H := H) (σ := [a, b, c, d, some (.ref pe), s5, some (.str x), some (.ref pt), s8, s9]) (te := tOp (rIn K false) (tVar 9) (tVar 7)) (tl := tVar 4) (tl1 := tCall (spSpoken K) [] E0 (tCons (tVar 8) (tCons (tVar 6) tNil))) (j := 8) (j1 := 9) (vs := [8, 9]) (vs1 := [9])
    (fun i => (spokenD (stepsD (every.getD i .none)) x).map V.str) (fun i => (spokenD (stepsD (every.getD i .none)) x).map fun n => V.bl (decide (n ∈ there))) (ev_var rfl) he (by omega) (fun i => by rw [List.length_map]; exact small i) (fun i => by rw [List.length_map, List.length_map]) (fun _ => rfl) (fun _ _ => rfl)
    (fun i y hi => by
      obtain ⟨e, e1, e2, e3⟩ := key hi
      rw [e1]
      have s1 := steps_len (ho e e2)
      exact el_call (ea_cons (ev_var rfl) (ea_cons (ev_var rfl) ea_nil)) fun H1 ex Q q E => ⟨y, x, stepsD e, rfl, hw, dpM ex e3, by omega, s1.2, fun p H' hp e4 h4 => q p H' hp e4 h4⟩)
    (fun i y k n z hi hn hz => by
      rw [List.getElem?_map] at hn hz
      cases hq : (spokenD (stepsD (every.getD i .none)) x)[k]? with
      | none => rw [hq] at hn; cases hn
      | some u =>
        rw [hq] at hn hz
        cases hn
        cases hz
        refine ev_is (ev_op (ev_var rfl) (ev_var rfl) (rv_isL ht rfl (by rw [List.all_map]; exact List.all_eq_true.mpr fun _ _ => rfl))) ?_
        rw [inV_strs])
  rw [hl, flat_data every PyData.none fun e => (spokenD (stepsD e) x).map fun n => V.bl (decide (n ∈ there))] at z
  have e : (every.flatMap fun e => (spokenD (stepsD e) x).map fun n => decide (n ∈ there)).map V.bl = every.flatMap fun e => (spokenD (stepsD e) x).map fun n => V.bl (decide (n ∈ there)) := by
    rw [List.map_flatMap]
    simp only [List.map_map]
    rfl
  rw [e]
  exact z
theorem ok_all_there (T : Txt w K mg) : FnOk P w K mg base CX0 3 (f_all_there K) (fdAt K (f_all_there K)) ["names", "lines", "bottoms", "threads"] (spThere K) := by
  refine (df_all_there T).ok sc_all_there (fun vs H Q E h => ?_) (fun cdv A outer s H vs Q E hr h => ?_)
  · obtain ⟨pn, n1, n2, n3, N1, N2, N3, l, b, t, dl, db, dt, D1, D2, D3, rfl, _⟩ := h
    rfl
  · obtain ⟨pn, n1, n2, n3, N1, N2, N3, l, b, t, dl, db, dt, D1, D2, D3, rfl, ⟨hn, h1, h2, h3⟩, ⟨fl, fb, ft⟩, ⟨hl, hb, ht⟩, ⟨z1, z2, z3⟩, ho, q⟩ := h
    refine ⟨_, PSs.nox ((pss_cons (ps_setLc (i := 4) (own := [("one", 5)]) (g := gName 5) (tt := tYes) rfl sc_all_there.nd rfl rfl (sw_true rfl rfl rfl (by decide +kernel)) (pi_listK (K := K) rfl ((pe_op op_cat ((pe_op op_cat (pe_callTy (call_listK (K := K) rfl) (by rfl) (fr_list T) (by decide +kernel) (pa_cons (pv 1) pa_nil)) (pe_callTy (call_listK (K := K) rfl) (by rfl) (fr_list T) (by decide +kernel) (pa_cons (pv 2) pa_nil)))) (pe_callTy (call_listK (K := K) rfl) (by rfl) (fr_list T) (by decide +kernel) (pa_cons (pv 3) pa_nil))))) (blkOk_by (N := ["names", "lines", "bottoms", "threads", "every", "one", "word", "there", "steps", "name"]) (sc := defScope s_all_there) (by decide +kernel)) (fun _ _ _ _ _ => pg_name (i := 5) sc_all_there.nd rfl (Or.inl rfl)) (fun _ _ _ _ _ => pts_nil) (fun _ _ _ _ _ => (pe_ix (ix_tupK (K := K) rfl) (pv 5) (pe_un un_neg pe_int) (fun _ _ => rfl))))
      (pss_cons (ps_for PassesOwn.never rfl (pi_zipM (K := K) rfl (by rfl) (fr_zip T) (pa_cons (pe_tup (pa_cons pe_str (pa_cons pe_str (pa_cons pe_str pa_nil)))) (pa_cons (pv 0) pa_nil))) (pg_tupK rfl (K := K) rfl (pgs_cons (pg_name (i := 6) sc_all_there.nd rfl (Or.inr rfl)) (pgs_cons (pg_name (i := 7) sc_all_there.nd rfl (Or.inr rfl)) pgs_nil))) (pss_one (ps_if (pt_not (pt_val (pe_callB (cr_allK rfl (K := K) rfl) (by rfl) (fr_all T) (by decide +kernel) (pa_cons (pe_lc2 (own := [("steps", 8), ("name", 9)]) (g := gName 8) (tt := tYes) (g1 := gName 9) (tt1 := tYes) (vs1 := [9]) rfl sc_all_there.nd (pi_listK (K := K) rfl (pv 4)) (blkOk_by (N := ["names", "lines", "bottoms", "threads", "every", "one", "word", "there", "steps", "name"]) (sc := defScope s_all_there) (by decide +kernel)) (by decide) (fun _ _ _ _ _ => (pg_name (i := 8) sc_all_there.nd rfl (Or.inl rfl))) (fun _ _ _ _ _ => pts_nil) (fun _ _ _ _ _ => (pi_listK (K := K) rfl (pe_call (ok_spoken T) (hr.mono (by decide)) rfl (gl_spoken T) (df_spoken T).kp (bi_spoken T) .nil pass0 (pa_cons (pv 8) (pa_cons (pv 6) pa_nil))))) (fun _ _ _ _ _ => (pg_name (i := 9) sc_all_there.nd rfl (Or.inl rfl))) (fun _ _ _ _ _ => pts_nil) (fun _ _ _ _ _ => (pe_cmpR (op_inK (K := K) rfl) (pv 9) (pv 7) (by rfl)))) pa_nil)))) (pss_one (ps_ret pe_bl)) pss_nil)))
      (pss_one (ps_ret pe_bl))))), ?_⟩
    obtain ⟨al, xl, rfl, sl, hl⟩ := sq_data fl hl
    obtain ⟨ab, xb, rfl, sb, hb⟩ := sq_data fb hb
    obtain ⟨at_, xt, rfl, st, ht⟩ := sq_data ft ht
    have y1 := dpLen hl
    have y2 := dpLen hb
    have y3 := dpLen ht
    have hall := da_app (da_app hl hb) ht
    have eL : D1 ++ D2 ++ D3 = D1 ++ (D2 ++ D3) := List.append_assoc ..
    rw [eL] at hall
    generalize hEv : D1 ++ (D2 ++ D3) = every at hall ho q
    have hzE : every.length ≤ 30 := by rw [← hEv, List.length_append, List.length_append]; omega
    obtain ⟨ws, hws, hat⟩ := lasts hall ho
    have y4 := dpLen hws
    have y5 := dpLen hall
    rw [List.length_map] at y4
    refine q_asgL (xs := ws) ?_ fun pe H1 hpe e1 he => ?_
    · have z := el_lcNL (K := K) (σ := L2.start ["names", "lines", "bottoms", "threads", "every", "one", "word", "there", "steps", "name"] [.ref pn, .ref al, .ref ab, .ref at_]) (H := H) (te := tOp (rIxT K) (tVar 5) (tUn (rU fun i => V.int (-i)) (tC (V.int 1)))) (t := tYes) (j := 5) (vs := [5]) (fun _ => true) (fun i => ws.getD i .non)
        (el_cat (el_cat (el_listS (ev_var (i := 1) rfl) sl) (el_listS (ev_var (i := 2) rfl) sb) (by omega)) (el_listS (ev_var (i := 3) rfl) st) (by simp; omega)) (by simp; omega) (fun _ => rfl) (fun i x H1 e1 hi H2 e2 Q q => q H2 (Ex.refl _)) (fun i x H1 e1 hi _ => by
          have hlt : i < ws.length := by
            have := (List.getElem?_eq_some_iff.mp hi).1
            omega
          have hw : ws[i]? = some ws[i] := List.getElem?_eq_getElem hlt
          obtain ⟨a, ys, rfl, hy, hlast⟩ := hat i x _ hi hw
          rw [List.getD_eq_getElem?_getD, hw]
          exact ev_op (ev_var rfl) (ev_un ev_c ru_neg) (rv_ixT (ex_t e1 hy) hlast))
      rw [given_all (fun _ _ => rfl)] at z
      have e : (List.range (xl ++ xb ++ xt).length).map (fun i => ws.getD i .non) = ws := by
        rw [y5, ← y4]
        exact list_range ws .non
      rw [e] at z
      exact z
    · have hws := daM e1 hws
      let wd : Nat → Str := fun i => if i = 0 then "answer" else if i = 1 then "later" else "wake"
      let th : Nat → List Str := fun i => if i = 0 then N1 else if i = 1 then N2 else N3
      let ad : Nat → Addr := fun i => if i = 0 then n1 else if i = 1 then n2 else n3
      have hth : ∀ i, i < 3 → SqL K H (ad i) ((th i).map V.str) := fun i hi => by
        match i, hi with
        | 0, _ => exact h1
        | 1, _ => exact h2
        | 2, _ => exact h3
      have hsp : ∀ i, i < 3 → speaks (wd i) := fun i hi => by
        match i, hi with
        | 0, _ => exact .inl rfl
        | 1, _ => exact .inr (.inl rfl)
        | 2, _ => exact .inr (.inr rfl)
      have e0 : allThereD (N1, N2, N3) every = (thereD (wd 0) (th 0) every && (thereD (wd 1) (th 1) every && thereD (wd 2) (th 2) every)) := rfl
      rw [e0] at q
      refine q_forM (n := 2) (xs := [.str "answer", .str "later", .str "wake"]) (ys := [.ref n1, .ref n2, .ref n3]) (eu_tup (ea_cons ev_c (ea_cons ev_c (ea_cons ev_c ea_nil))) (by show (3 : Nat) ≤ 100000; decide)) (ev_var rfl) (ex_l e1 hn) rfl rfl
        (fun B i σ' H' => Ex B H' ∧ (∀ k, k < i → thereD (wd k) (th k) every = true) ∧ ∃ s5 s6 s7 s8 s9, σ' = [some (.ref pn), some (.ref al), some (.ref ab), some (.ref at_), some (.ref pe), s5, s6, s7, s8, s9]) (fun H2 e2 => ⟨Ex.refl _, fun k hk => absurd hk (Nat.not_lt_zero k), _, _, _, _, _, rfl⟩) (fun B i σ' H' h => h.1) (fun B i x y σ' H' H2 eB hx hy pv e2 => ?_) (fun B σ' H' eB pv => ?_)
      · obtain ⟨eb, hk, s5, s6, s7, s8, s9, rfl⟩ := pv
        have hi : i < 3 := (List.getElem?_eq_some_iff.mp hx).1
        have ex : x = .str (wd i) := by
          match i, hi, hx with
          | 0, _, h => cases h; rfl
          | 1, _, h => cases h; rfl
          | 2, _, h => cases h; rfl
        have ey : y = .ref (ad i) := by
          match i, hi, hy with
          | 0, _, h => cases h; rfl
          | 1, _, h => cases h; rfl
          | 2, _, h => cases h; rfl
        subst ex ey
        have eA : Ex H H2 := (e1.trans eB).trans (eb.trans e2)
        have eA1 : Ex H1 H2 := eB.trans (eb.trans e2)
        refine s_when (b := !thereD (wd i) (th i) every) (there_test rfl (hsp i hi) (sq_of (eA1 _ _ he)) (daM eA1 hws) ho (by omega) (ex_l eA (hth i hi))) (fun hb H3 e3 => ?_) fun hb H3 e3 => ?_
        · refine s_ret ev_c fun H4 e4 => ?_
          have q' := q _ ((eA.trans e3).trans e4)
          have hb : thereD (wd i) (th i) every = false := by cases h : thereD (wd i) (th i) every <;> simp_all
          have e : (thereD (wd 0) (th 0) every && (thereD (wd 1) (th 1) every && thereD (wd 2) (th 2) every)) = false := by
            match i, hi, hb with
            | 0, _, h => rw [h]; rfl
            | 1, _, h => rw [h]; simp
            | 2, _, h => rw [h]; simp
          rw [e] at q'
          exact q'
        · refine ⟨eb.trans (e2.trans e3), fun k hk2 => ?_, _, _, _, _, _, rfl⟩
          by_cases h : k = i
          · subst h
            cases h : thereD (wd k) (th k) every <;> simp_all
          · exact hk k (by omega)
      · obtain ⟨eb, hk, s5, s6, s7, s8, s9, rfl⟩ := pv
        refine s_ret ev_c fun H4 e4 => ?_
        have q' := q _ ((e1.trans eB).trans (eb.trans e4))
        rw [hk 0 (by decide), hk 1 (by decide), hk 2 (by decide)] at q'
        exact q'
end
end KW
end
section
set_option Elab.async false
set_option linter.all false
set_option autoImplicit false
set_option maxRecDepth 100000
set_option maxHeartbeats 1000000
/-! lists of lines, bottoms, threads: told, and handed in -/
namespace KW
open PySem PySem.Spec PyProof.Rows L2 He KR Evl
/-- the steps' list of each is an object of its own (cs), all else is in G -/
inductive Tl (K : PySem.W.Frag) (G : Hp) : List V → List PyData → List (Addr × HO) → Prop
  | nil : Tl K G [] [] []
  | cons {a l : Addr} {hs ss : List V} {hds sds : List PyData} {xs : List V} {ds : List PyData} {cs : List (Addr × HO)} : SqT K G a (hs ++ [.ref l]) → DpAll K G hs hds → DpAll K G ss sds → Tl K G xs ds cs →
      Tl K G (.ref a :: xs) (.tuple (hds ++ [.list sds]) :: ds) ((l, .lst ss) :: cs)
/-- the same, the lists as they stand in H -/
inductive InA (K : PySem.W.Frag) (G H : Hp) : List V → List PyData → Prop
  | nil : InA K G H [] []
  | cons {a l : Addr} {hs ss : List V} {hds sds : List PyData} {xs : List V} {ds : List PyData} : SqT K G a (hs ++ [.ref l]) → DpAll K G hs hds → SqL K H l ss → DpAll K G ss sds → InA K G H xs ds →
      InA K G H (.ref a :: xs) (.tuple (hds ++ [.list sds]) :: ds)
section
variable {K : PySem.W.Frag} {G G' H H' : Hp} {xs ys : List V} {ds es : List PyData} {cs ct L : List (Addr × HO)}
theorem tl_mono (e : Same G G') (h : Tl K G xs ds cs) : Tl K G' xs ds cs := by
  induction h with
  | nil => exact .nil
  | cons a b c _ ih => exact .cons (sT e a) (daM e b) (daM e c) ih
theorem tl_app (h : Tl K G xs ds cs) (k : Tl K G ys es ct) : Tl K G (xs ++ ys) (ds ++ es) (cs ++ ct) := by
  induction h with
  | nil => exact k
  | cons a b c _ ih => exact .cons a b c ih
theorem in_mono (e : Same G G') (e2 : Same H H') (h : InA K G H xs ds) : InA K G' H' xs ds := by
  induction h with
  | nil => exact .nil
  | cons a b c d _ ih => exact .cons (sT e a) (daM e b) (sL e2 c) (daM e d) ih
theorem in_len (h : InA K G H xs ds) : xs.length = ds.length := by
  induction h with
  | nil => rfl
  | cons a b c d _ ih => exact congrArg Nat.succ ih
theorem in_tl (o : Own G H (cs ++ L)) (h : Tl K G xs ds cs) : InA K G H xs ds := by
  induction h with
  | nil => exact .nil
  | cons a b c _ ih => exact .cons a b (sq_of (o.at_ _ (List.mem_cons_self ..))) c (ih o.tail)
theorem in_da (s : Same G H) (h : InA K G H xs ds) : DpAll K H xs ds := by
  induction h with
  | nil => exact .nil
  | cons a b c d _ ih => exact .cons (.tup (sT s a) (da_app (daM s b) (.cons (.lst c (daM s d)) .nil))) ih
/-- all of it stands in G -/
theorem in_of (s : Same G H) : ∀ {xs : List V} {ds : List PyData}, DpAll K G xs ds → (∀ e ∈ ds, OneD e) → InA K G H xs ds
  | _, _, .nil, _ => .nil
  | _, _, .cons (d := d) h hr, hp => by
    obtain ⟨hs, ss, rfl, _⟩ := hp d (List.mem_cons_self ..)
    obtain ⟨a, ys, rfl, hy, hd⟩ := dpT h
    obtain ⟨us, v, rfl, hu, hv⟩ := da_snoc hd
    obtain ⟨l, zs, rfl, hz, hzs⟩ := dpL hv
    exact .cons hy hu (sL s hz) hzs (in_of s hr fun e he => hp e (List.mem_cons_of_mem _ he))
where
  da_snoc : ∀ {hs : List PyData} {d : PyData} {ys : List V}, DpAll K G ys (hs ++ [d]) → ∃ us v, ys = us ++ [v] ∧ DpAll K G us hs ∧ Dp K G v d
  | [], d, _, h => by
    obtain ⟨v, ws, rfl, hv, hn⟩ := dpC h
    obtain rfl := dpN hn
    exact ⟨[], v, rfl, .nil, hv⟩
  | h0 :: hs, d, _, h => by
    obtain ⟨v, ws, rfl, hv, hn⟩ := dpC h
    obtain ⟨us, u, rfl, hu, hd⟩ := da_snoc hn
    exact ⟨v :: us, u, rfl, .cons hv hu, hd⟩
theorem in_get {i : Nat} {x : V} {d : PyData} (h : InA K G H xs ds) (hx : xs[i]? = some x) (hd : ds[i]? = some d) : ∃ a l hs ss hds sds, x = .ref a ∧ d = .tuple (hds ++ [.list sds]) ∧ SqT K G a (hs ++ [.ref l]) ∧ DpAll K G hs hds ∧ SqL K H l ss ∧ DpAll K G ss sds := by
  induction h generalizing i with
  | nil => simp at hx
  | cons a b c e _ ih => cases i with
    | zero =>
      simp at hx hd
      subst hx hd
      exact ⟨_, _, _, _, _, _, rfl, rfl, a, b, c, e⟩
    | succ i => exact ih (by simpa using hx) (by simpa using hd)
theorem own_add {a : Addr} {o : HO} (h : Own G H L) (s : Same H H') (n : H a = none) (e : H' a = some o) : Own G H' ((a, o) :: L) := by
  refine ⟨fun q hq => ?_, ?_, fun q hq => ?_, h.sub.trans s⟩
  · rcases List.mem_cons.mp hq with rfl | hq
    · exact e
    · exact s _ _ (h.at_ q hq)
  · rw [List.map_cons, List.nodup_cons]
    refine ⟨fun m => ?_, h.nd⟩
    obtain ⟨q, hq, z⟩ := List.mem_map.mp m
    have k := h.at_ q hq
    rw [z, n] at k
    cases k
  · rcases List.mem_cons.mp hq with rfl | hq
    · exact h.sub.free n
    · exact h.out q hq
/-! ### owned things become things that nobody changes -/
theorem Own.hold {a : Addr} {o : HO} (h : Own G H ((a, o) :: L)) : Own (_root_.L2.upd G a o) H L := by
  have nd := h.nd
  rw [List.map_cons, List.nodup_cons] at nd
  have ha := h.at_ _ (List.mem_cons_self ..)
  refine ⟨fun q hq => h.at_ q (List.mem_cons_of_mem _ hq), nd.2, fun q hq => ?_, fun b u e => ?_⟩
  · have : q.1 ≠ a := fun z => nd.1 (List.mem_map.mpr ⟨q, hq, z⟩)
    rw [upd_ne this]
    exact h.out q (List.mem_cons_of_mem _ hq)
  · by_cases hb : b = a
    · subst hb
      rw [upd_same] at e
      cases e
      exact ha
    · rw [upd_ne hb] at e
      exact h.sub b u e
theorem Own.held {a : Addr} {o : HO} (h : Own G H ((a, o) :: L)) : Same G (_root_.L2.upd G a o) := same_new (h.out _ (List.mem_cons_self ..))
theorem own_keep {a : Addr} {o : HO} (h : Own G H L) (s : Same H H') (n : H a = none) (e : H' a = some o) : Own (_root_.L2.upd G a o) H' L ∧ Same G (_root_.L2.upd G a o) := ⟨Own.hold (own_add h s n e), Own.held (own_add h s n e)⟩
theorem own_holds : ∀ {cs : List (Addr × HO)} {G : Hp}, Own G H (cs ++ L) → ∃ G', Same G G' ∧ Own G' H L ∧ ∀ q ∈ cs, G' q.1 = some q.2
  | [], G, h => ⟨G, Same.refl _, h, fun _ z => nomatch z⟩
  | (a, o) :: cs, G, h => by
    obtain ⟨G', s, o', k⟩ := own_holds (cs := cs) (Own.hold (L := cs ++ L) h)
    refine ⟨G', (Own.held (L := cs ++ L) h).trans s, o', fun q hq => ?_⟩
    rcases List.mem_cons.mp hq with rfl | hq
    · exact s _ _ upd_same
    · exact k q hq
theorem tl_da (h : Tl K G xs ds cs) (k : ∀ q ∈ cs, G q.1 = some q.2) : DpAll K G xs ds := by
  induction h with
  | nil => exact .nil
  | cons a b c _ ih => exact .cons (.tup a (da_app b (.cons (.lst (sq_of (k _ (List.mem_cons_self ..))) c) .nil))) (ih fun q hq => k q (List.mem_cons_of_mem _ hq))
end
end KW
end
section
set_option Elab.async false
set_option linter.all false
set_option autoImplicit false
set_option maxRecDepth 100000
set_option maxHeartbeats 1000000
/-! walks over a list or a tuple -/
namespace KW
open PySem PySem.Spec PyProof.Rows L2 He KR Evl
def iSeq (K : PySem.W.Frag) (tl : TE) : TI := fun σ H R => tl σ H fun x H1 => ∃ a xs, x = .ref a ∧ ((SqL K H1 a xs ∧ R (Itl K a) H1) ∨ (SqT K H1 a xs ∧ R (Itt K a) H1))
theorem pi_seq {X : Cx} {K : PySem.W.Frag} {tg l : Expr} {tl : TE} (hK : X.K = K) (hl : PE X l tl) : PI X tg l (iSeq K tl) := by
  subst hK
  refine ⟨fun pins s σ H R I h => thn (hl.run pins s σ H _ I h) fun v s1 ⟨x, H1, I1, r1, q1⟩ => ?_⟩
  obtain ⟨a, xs, rfl, q1⟩ := q1
  obtain rfl : v = Value.ref a := r1
  have fp : ∀ b ∈ [s1.heap.objs.size], FpOk X pins H1 b := fun b hb => by
    rw [List.mem_singleton.mp hb]
    exact I1.fpOk (Nat.le_refl _) (I1.hok.fresh (Nat.le_refl _))
  have kept : ∀ (o : Obj), Inv X pins σ H1 { s1 with heap := s1.heap.push o } := fun o => I1.kept (t' := s1.toks) fun b o e => Heap.get?_push_of_some _ e
  rcases q1 with ⟨hq, q⟩ | ⟨hq, q⟩
  · obtain ⟨_, _, p, _⟩ := I1.list hq
    exact wpAny_pyIter_list p.isList ⟨s1.heap.objs.size, [s1.heap.objs.size], _, _, H1, rfl, kept _, turn_list a _, ⟨_, Heap.get?_push_size _ rfl, rfl, rfl⟩, fp, q⟩
  · obtain ⟨us, _, p, _⟩ := I1.tuple hq
    exact wpAny_pyIter_tuple (items := us.toArray) p ⟨s1.heap.objs.size, [s1.heap.objs.size], _, _, H1, rfl, kept _, turn_tuple a _, ⟨_, Heap.get?_push_size _ rfl, rfl, rfl⟩, fp, q⟩
section
variable {K : PySem.W.Frag} {σ : L2.St} {H H' : Hp} {te tl : TE} {a : Addr} {xs : List V} {ds : List PyData} {j : Nat} {vs : List Nat}
theorem el_lcS (f : PyData → V) (h : Ev tl σ H (.ref a)) (hx : SqL K H a xs ∨ SqT K H a xs) (hd : DpAll K H xs ds) (hz : xs.length ≤ 40000) (hw : ∀ x, wipe ((wipe σ vs).set j (some x)) vs = wipe σ vs)
    (he : ∀ H1, Ex H H1 → ∀ x d, d ∈ ds → Dp K H1 x d → Ev te ((wipe σ vs).set j (some x)) H1 (f d)) : EvL (tLc (iSeq K tl) (gName j) tYes te vs) σ H (ds.map f) := fun H0 e Q q => h H0 e _ fun H1 e1 => by
  have e2 := e.trans e1
  rcases hx with hx | hx
  · obtain ⟨b, hb, _, k⟩ := el_lcD (K := K) (te := te) (tl := fun _ H Q => Q (.ref a) H) f (fun H2 _ Q q => q H2 (Ex.refl _)) (ex_l e2 hx) (daM e2 hd) hz hw (fun x d hm hd => he H1 e2 x d hm hd) H1 (Ex.refl _) Q fun p H2 hp e3 h3 => q p H2 (fresh_back e1 hp) (e1.trans e3) h3
    cases hb
    exact ⟨a, xs, rfl, .inl ⟨ex_l e2 hx, k⟩⟩
  · obtain ⟨b, hb, _, k⟩ := el_lcDT (K := K) (te := te) (tl := fun _ H Q => Q (.ref a) H) f (fun H2 _ Q q => q H2 (Ex.refl _)) (ex_t e2 hx) (daM e2 hd) hz hw (fun x d hm hd => he H1 e2 x d hm hd) H1 (Ex.refl _) Q fun p H2 hp e3 h3 => q p H2 (fresh_back e1 hp) (e1.trans e3) h3
    cases hb
    exact ⟨a, xs, rfl, .inr ⟨ex_t e2 hx, k⟩⟩
end
end KW
end
section
set_option Elab.async false
set_option linter.all false
set_option autoImplicit false
set_option maxRecDepth 100000
set_option maxHeartbeats 400000
/-! plans.py: copied -/
namespace KW
open PySem PySem.Spec PyProof.Rows L2 He KR Evl
local macro_rules
  | `(tactic| walk_at "ev") => `(tactic| repeat' (first
    | exact ev_c | exact ev_var rfl | exact ea_nil | exact rv_I0 | exact ru_neg | exact eo_none
    | exact rv_eq rfl | exact rv_ne rfl
    | exact rv_ixT (by assumption) (by rfl) | exact rv_ixL (by assumption) (by rfl)
    | exact sv_q (by assumption) (by assumption) | exact sv_within (by assumption)
    | exact Or.inr (by assumption) | exact Or.inl (by assumption) | (show (_ : String) ∈ _; decide)
    | with_reducible (first | apply ev_isi | apply ev_lenS | apply ev_if' | apply et_test | apply et_B | apply et_not | apply et_and | apply et_or | apply ev_andV | apply ev_orV | apply ev_notV | apply ea_cons | apply eo_some | apply ev_op | apply ev_un | apply ev_call)
    | assumption
    | (with_reducible intro hh; first | exact absurd (show true = false from hh) (by decide) | exact absurd (show false = true from hh) (by decide) | clear hh)))

section
variable {P : Program} {w : World} {K : PySem.W.Frag} {mg : Str → Option Value} {base : Heap}
theorem sc_copied : FnScope ["things", "one"] ["things"] (defScope s_copied) := ⟨rfl, rfl, rfl, by decide +kernel, rfl, by decide +kernel, by decide +kernel⟩
/-- what may be copied -/
def CopyD (e : PyData) : Prop := ∃ hds sds, e = .tuple (hds ++ [.list sds]) ∧ hds ≠ [] ∧ hds.length ≤ 100 ∧ sds.length ≤ 1000
def spCopied (K : PySem.W.Frag) : Sp := fun vs H Q _ => ∃ v a xs ds G L, vs = [v] ∧ v = .ref a ∧ (SqL K H a xs ∨ SqT K H a xs) ∧ Own G H L ∧ InA K G H xs ds ∧ ds.length ≤ 100 ∧ (∀ e ∈ ds, CopyD e) ∧
  ∀ p G' H' ys cs, Same G G' → Same H H' → H p = none → Own G' H' ((p, .lst ys) :: (cs ++ L)) → Tl K G' ys ds cs → Q (.ref p) H'
theorem tup1 {te : TE} {σ : L2.St} {H : Hp} {xs : List V} {Q : VK} (h : EvL te σ H xs) (q : ∀ l H1, H l = none → Ex H H1 → H1 l = some (.lst xs) → ∀ p, H1 p = none → Q (.ref p) (upd H1 p (.tup [.ref l]))) : tTup (tCons te tNil) σ H Q :=
  h H (Ex.refl _) _ fun l H1 n e g => ⟨by show 1 ≤ sizeLine; rw [sizeLine_eq]; decide, fun p hp => q l H1 n e g p hp⟩
theorem copied_elt {te : TE} {σ : L2.St} {G H4 : Hp} {L : List (Addr × HO)} {a l : Addr} {hs ss : List V} {Qy : VK} (hte : te = tOp (rCatT K) (tSl (rSlT K) (tVar 1) tNoPart (tPart (tUn (rU fun i => V.int (-i)) (tC (V.int 1)))))
        (tTup (tCons (tCB (fun xs H Q => ∃ p ys, xs = [V.ref p] ∧ (SqL K H p ys ∨ SqT K H p ys) ∧ ∀ (l : Addr), H l = none → Q (V.ref l) (upd H l (HO.lst ys))) (tCons (tOp (rIxT K) (tVar 1) (tUn (rU fun i => V.int (-i)) (tC (V.int 1)))) tNil)) tNil)))
    (hσ : σ[1]? = some (some (.ref a))) (o : Own G H4 L) (h1 : SqT K G a (hs ++ [.ref l])) (h2 : SqL K H4 l ss) (hne : hs ≠ []) (hlen : hs.length ≤ 100)
    (q : ∀ p l' G' H', Same G G' → Same H4 H' → Own G' H' ((l', .lst ss) :: L) → SqT K G' p (hs ++ [.ref l']) → Qy (.ref p) H') : te σ H4 Qy := by
  subst hte
  have hx := sT o.sub h1
  have hcut : cutV (hs ++ [V.ref l]) none (some (-1)) = hs := by
    unfold cutV HT.sIx
    simp
    have : (-1 + ((hs.length : Int) + 1)).toNat = hs.length := by omega
    rw [this]
    simp
  refine (eu_slT (ev_var hσ) eo_none (eo_some (ev_un ev_c ru_neg)) hx ?_) H4 (Ex.refl _) _ fun p1 H5 n1 e1 g1 => ?_
  · intro z
    have z2 := z.2
    unfold HT.sIx at z2
    simp at z2
    omega
  · rw [hcut] at g1
    have e0 : ixN (hs ++ [V.ref l]).length (-1) = some hs.length := by
      unfold ixN
      rw [if_neg (by decide), if_pos (by simp; omega)]
      simp
      omega
    have e00 : atI (hs ++ [V.ref l]) (-1) = some (.ref l) := by
      unfold atI
      rw [e0]
      simp
    refine tup1 (el_listS (ev_op (ev_var hσ) (ev_un ev_c ru_neg) (rv_ixT (ex_t e1 hx) e00)) (.inl (ex_l e1 h2))) fun l' H6 n2 e2 g2 p2 n3 => ?_
    have e3 : Ex H6 (upd H6 p2 (.tup [.ref l'])) := Ex.new n3
    refine ⟨p1, p2, hs, [.ref l'], rfl, rfl, st_of (e3 _ _ (e2 _ _ g1)), st_of upd_same, hne, by rw [sizeLine_eq]; simp; omega, ⟨fun z => (nomatch z), fun _ p3 n4 => ?_⟩⟩
    have o5 := o.same e1
    have o6 := (own_add o5 e2 n2 g2).same e3
    have k := own_keep o6 (Ex.new n4) n4 (upd_same (o := .tup (hs ++ [.ref l'])))
    exact q p3 l' _ _ k.2 (((e1.trans e2).trans e3).trans (Ex.new n4)) k.1 (st_of upd_same)
theorem ok_copied (T : Txt w K mg) : FnOk P w K mg base CX0 1 (f_copied K) (fdAt K (f_copied K)) ["things"] (spCopied K) := by
  refine (df_copied T).ok sc_copied (fun vs H Q E h => ?_) (fun cdv A outer s H vs Q E hr h => ?_)
  · obtain ⟨v, a, xs, ds, G, L, rfl, _⟩ := h
    rfl
  · obtain ⟨v, a, xs, ds, G, L, rfl, rfl, hsq, o, hin, hlen, hcp, q⟩ := h
    have hl := in_len hin
    -- the state ahead of turn i
    let Pv : Addr → Nat → Hp → Prop := fun D i H1 => ∃ G' acc cs, Same G G' ∧ Same H H1 ∧ Own G' H1 ((D, .lst acc) :: (cs ++ L)) ∧ Tl K G' acc (ds.take i) cs ∧ acc.length ≤ i
    have p0 : ∀ D, H D = none → Pv D 0 (upd H D (.lst [])) := fun D n => ⟨G, [], [], Same.refl _, Ex.new n, Own.new o n, .nil, Nat.le_refl _⟩
    have turn : ∀ D, H D = none → ∀ (te : TE) (i : Nat) (x : V) (H1 : Hp) (σ : L2.St), te = tOp (rCatT K) (tSl (rSlT K) (tVar 1) tNoPart (tPart (tUn (rU fun i => V.int (-i)) (tC (V.int 1)))))
        (tTup (tCons (tCB (fun xs H Q => ∃ p ys, xs = [V.ref p] ∧ (SqL K H p ys ∨ SqT K H p ys) ∧ ∀ (l : Addr), H l = none → Q (V.ref l) (upd H l (HO.lst ys))) (tCons (tOp (rIxT K) (tVar 1) (tUn (rU fun i => V.int (-i)) (tC (V.int 1)))) tNil)) tNil)) → xs[i]? = some x → σ[1]? = some (some x) → Pv D i H1 →
        te σ H1 fun y H4 => ∃ acc, H4 D = some (.lst acc) ∧ acc.length < sizeLine ∧ Pv D (i + 1) (upd H4 D (.lst (acc ++ [y]))) := fun D hD te i x H1 σ hte hx hσ ⟨G', acc, cs, s1, s2, o1, t1, z1⟩ => by
      have hi : i < ds.length := by rw [← hl]; exact (List.getElem?_eq_some_iff.mp hx).1
      have hd : ds[i]? = some ds[i] := List.getElem?_eq_getElem hi
      obtain ⟨a0, l, hs, ss, hds, sds, rfl, ed, g1, g2, g3, g4⟩ := in_get hin hx hd
      have cp := hcp ds[i] (List.mem_of_getElem? hd)
      obtain ⟨hds', sds', ed', c1, c2, c3⟩ := cp
      have e1 : hds' = hds ∧ sds' = sds := by
        have z := ed'.symm.trans ed
        injection z with z
        have := List.append_inj' z rfl
        refine ⟨this.1, ?_⟩
        have z2 := this.2
        injection z2 with z2 _
        injection z2
      obtain ⟨rfl, rfl⟩ := e1
      have l1 := dpLen g2
      refine copied_elt hte hσ o1 (sT s1 g1) (sL s2 g3) (fun z => c1 (List.length_eq_zero_iff.mp (by rw [← l1, z]; rfl))) (by omega) fun p l' G2 H2 s3 s4 o2 g5 => ?_
      have o3 : Own G2 H2 ([(l', .lst ss)] ++ (D, .lst acc) :: (cs ++ L)) := o2
      refine ⟨acc, o3.mid, by rw [sizeLine_eq]; omega, G2, acc ++ [.ref p], cs ++ [(l', .lst ss)], s1.trans s3, Ex.mut (s2.trans s4) hD, ?_, ?_, by rw [List.length_append]; exact Nat.succ_le_succ z1⟩
      · have o4 := o3.upd (o' := .lst (acc ++ [.ref p]))
        refine o4.perm ?_
        show ((l', HO.lst ss) :: (D, HO.lst (acc ++ [V.ref p])) :: (cs ++ L)).Perm ((D, HO.lst (acc ++ [V.ref p])) :: ((cs ++ [(l', HO.lst ss)]) ++ L))
        refine (List.Perm.swap _ _ _).trans (List.Perm.cons _ ?_)
        rw [List.append_assoc]
        exact (List.perm_middle (l₁ := cs)).symm
      · rw [List.take_add_one, hd, ed]
        exact tl_app (tl_mono s3 t1) (.cons g5 (daM (s1.trans s3) g2) (daM (s1.trans s3) g4) .nil)
    have done : ∀ D H1, H D = none → Pv D xs.length H1 → Q (.ref D) H1 := fun D H1 n ⟨G', acc, cs, s1, s2, o1, t1, _⟩ => by
      rw [hl, List.take_length] at t1
      exact q D G' H1 acc cs s1 s2 n o1 t1
    rcases hsq with hx | hx
    · refine ⟨_, PSs.nox ((pss_one (ps_ret (pe_lc (own := [("one", 1)]) (g := gName 1) (tt := tYes) rfl sc_copied.nd (pi_listK (K := K) rfl (pv 0)) (blkOk_by (N := ["things", "one"]) (sc := defScope s_copied) (by decide +kernel)) (fun _ _ _ _ _ => pg_name (i := 1) sc_copied.nd rfl (Or.inl rfl)) (fun _ _ _ _ _ => pts_nil) (fun _ _ _ _ _ => ((pe_op (op_catTK (K := K) rfl) (pe_slice (sl_tupK (K := K) rfl) (pv 1) po_none (po_some (pe_un un_neg pe_int))) (pe_tup (pa_cons (pe_callTy (call_listK (K := K) rfl) (by rfl) (fr_list T) (by decide +kernel) (pa_cons (pe_ix (ix_tupK (K := K) rfl) (pv 1) (pe_un un_neg pe_int) (fun _ _ => rfl)) pa_nil)) pa_nil))))))))), ?_⟩
      exact ⟨.ref a, rfl, a, rfl, ⟨xs, hx⟩, fun D hD => lc_list (xs := xs) (Pv D) (p0 D hD) (fun i H1 _ p => by obtain ⟨_, _, _, _, s2, _⟩ := p; exact sL s2 hx) (fun i x H1 hi p => ⟨rfl, turn D hD _ i x H1 _ rfl hi rfl p⟩) (fun H1 p => done D H1 hD p)⟩
    · refine ⟨_, PSs.nox ((pss_one (ps_ret (pe_lc (own := [("one", 1)]) (g := gName 1) (tt := tYes) rfl sc_copied.nd (pi_tupK (K := K) rfl (pv 0)) (blkOk_by (N := ["things", "one"]) (sc := defScope s_copied) (by decide +kernel)) (fun _ _ _ _ _ => pg_name (i := 1) sc_copied.nd rfl (Or.inl rfl)) (fun _ _ _ _ _ => pts_nil) (fun _ _ _ _ _ => ((pe_op (op_catTK (K := K) rfl) (pe_slice (sl_tupK (K := K) rfl) (pv 1) po_none (po_some (pe_un un_neg pe_int))) (pe_tup (pa_cons (pe_callTy (call_listK (K := K) rfl) (by rfl) (fr_list T) (by decide +kernel) (pa_cons (pe_ix (ix_tupK (K := K) rfl) (pv 1) (pe_un un_neg pe_int) (fun _ _ => rfl)) pa_nil)) pa_nil))))))))), ?_⟩
      exact ⟨.ref a, rfl, a, rfl, ⟨xs, hx⟩, fun D hD => lc_tup (xs := xs) (Pv D) (p0 D hD) (fun i H1 _ p => by obtain ⟨_, _, _, _, s2, _⟩ := p; exact sT s2 hx) (fun i x H1 hi p => ⟨rfl, turn D hD _ i x H1 _ rfl hi rfl p⟩) (fun H1 p => done D H1 hD p)⟩
end
end KW
end
section
set_option Elab.async false
set_option linter.all false
set_option autoImplicit false
set_option maxRecDepth 100000
set_option maxHeartbeats 400000
/-! what the looks tell -/
namespace KW
open PySem
theorem band {a b : Bool} (h : (a && b) = true) : a = true ∧ b = true := by cases a <;> cases b <;> first | exact ⟨rfl, rfl⟩ | cases h
theorem name_inv {n : PyData} (h : isNameD n = true) : ∃ x, n = .str x ∧ isNameS x = true := by cases n <;> first | exact ⟨_, rfl, h⟩ | (cases h)
theorem bool_inv {n : PyData} (h : isBoolD n = true) : ∃ x, n = .bool x := by cases n <;> first | exact ⟨_, rfl⟩ | (cases h)
theorem within_inv {d : PyData} {lo hi : Int} (h : withinD d lo hi = true) : ∃ i, d = .int i ∧ lo ≤ i ∧ i ≤ hi := by
  cases d with
  | int i => obtain ⟨a, b⟩ := band (show (decide (lo ≤ i) && decide (i ≤ hi)) = true from h); exact ⟨i, rfl, of_decide_eq_true a, of_decide_eq_true b⟩
  | _ => cases h
theorem steps_inv {d : PyData} (h : areStepsD d = true) : ∃ ss, d = .list ss ∧ (∀ s ∈ ss, isStepD s = true) ∧ 1 ≤ ss.length ∧ ss.length ≤ 12 ∧ areStepsL ss = true := by
  cases d with
  | list ss =>
    have h : areStepsL ss = true := h
    have h0 := h
    unfold areStepsL at h
    obtain ⟨h1, h2⟩ := band h
    obtain ⟨h3, h4⟩ := band h1
    have := of_decide_eq_true h3
    have := of_decide_eq_true h4
    exact ⟨ss, rfl, List.all_eq_true.mp (band h2).1, by omega, by omega, h0⟩
  | _ => cases h
theorem guard_inv {d : PyData} (h : isGuardD d = true) : ∃ a b c : Int, d = .tuple [.int a, .int b, .int c] ∧ 1 ≤ a ∧ a ≤ 9 ∧ 1 ≤ b ∧ b ≤ 60 ∧ 1 ≤ c ∧ c ≤ 60 := by
  cases d with
  | tuple ds => match ds, h with
    | [x, y, z], h =>
      obtain ⟨h1, h2⟩ := band (show (withinD x 1 9 && (withinD y 1 60 && withinD z 1 60)) = true from h)
      obtain ⟨h2, h3⟩ := band h2
      obtain ⟨a, rfl, a1, a2⟩ := within_inv h1
      obtain ⟨b, rfl, b1, b2⟩ := within_inv h2
      obtain ⟨c, rfl, c1, c2⟩ := within_inv h3
      exact ⟨a, b, c, rfl, a1, a2, b1, b2, c1, c2⟩
    | [], h => cases h
    | [_], h => cases h
    | [_, _], h => cases h
    | _ :: _ :: _ :: _ :: _, h => cases h
  | _ => cases h
theorem line_inv {d : PyData} (h : isLineD d = true) : ∃ n r u a b c ss, d = .tuple [.str n, .int r, .bool u, .tuple [.int a, .int b, .int c], .list ss] ∧ isNameS n = true ∧ (1 ≤ r ∧ r ≤ 99) ∧ (1 ≤ a ∧ a ≤ 9 ∧ 1 ≤ b ∧ b ≤ 60 ∧ 1 ≤ c ∧ c ≤ 60) ∧ areStepsL ss = true := by
  cases d with
  | tuple ds => match ds, h with
    | [n, r, u, g, t], h =>
      obtain ⟨h1, h2⟩ := band (show ((isNameD n && withinD r 1 99) && (isBoolD u && (isGuardD g && areStepsD t))) = true from h)
      obtain ⟨h1, h3⟩ := band h1
      obtain ⟨h2, h4⟩ := band h2
      obtain ⟨h4, h5⟩ := band h4
      obtain ⟨n, rfl, hn⟩ := name_inv h1
      obtain ⟨r, rfl, r1, r2⟩ := within_inv h3
      obtain ⟨u, rfl⟩ := bool_inv h2
      obtain ⟨a, b, c, rfl, hg⟩ := guard_inv h4
      obtain ⟨ss, rfl, _, _, _, hs⟩ := steps_inv h5
      exact ⟨n, r, u, a, b, c, ss, rfl, hn, ⟨r1, r2⟩, hg, hs⟩
    | [], h => cases h
    | [_], h => cases h
    | [_, _], h => cases h
    | [_, _, _], h => cases h
    | [_, _, _, _], h => cases h
    | _ :: _ :: _ :: _ :: _ :: _ :: _, h => cases h
  | _ => cases h
theorem bottom_inv {d : PyData} (h : isBottomD d = true) : ∃ n ss, d = .tuple [.str n, .list ss] ∧ isNameS n = true ∧ areStepsL ss = true := by
  cases d with
  | tuple ds => match ds, h with
    | [n, t], h =>
      obtain ⟨h1, h5⟩ := band (show (isNameD n && areStepsD t) = true from h)
      obtain ⟨n, rfl, hn⟩ := name_inv h1
      obtain ⟨ss, rfl, _, _, _, hs⟩ := steps_inv h5
      exact ⟨n, ss, rfl, hn, hs⟩
    | [], h => cases h
    | [_], h => cases h
    | _ :: _ :: _ :: _, h => cases h
  | _ => cases h
theorem thread_inv {d : PyData} (h : isThreadD d = true) : ∃ n r ss, d = .tuple [.str n, .int r, .list ss] ∧ isNameS n = true ∧ (1 ≤ r ∧ r ≤ 99) ∧ areStepsL ss = true := by
  cases d with
  | tuple ds => match ds, h with
    | [n, r, t], h =>
      obtain ⟨h1, h5⟩ := band (show ((isNameD n && withinD r 1 99) && areStepsD t) = true from h)
      obtain ⟨h1, h3⟩ := band h1
      obtain ⟨n, rfl, hn⟩ := name_inv h1
      obtain ⟨r, rfl, r1, r2⟩ := within_inv h3
      obtain ⟨ss, rfl, _, _, _, hs⟩ := steps_inv h5
      exact ⟨n, r, ss, rfl, hn, ⟨r1, r2⟩, hs⟩
    | [], h => cases h
    | [_], h => cases h
    | [_, _], h => cases h
    | _ :: _ :: _ :: _ :: _, h => cases h
  | _ => cases h
theorem stepsL_inv {ss : List PyData} (h : areStepsL ss = true) : (∀ s ∈ ss, isStepD s = true) ∧ 1 ≤ ss.length ∧ ss.length ≤ 12 := by
  obtain ⟨_, e, a, b, c, _⟩ := steps_inv (d := .list ss) h
  cases e
  exact ⟨a, b, c⟩
theorem ones_inv {d : PyData} {lo hi : Int} {p : PyData → Bool} (h : areOnesD d lo hi p = true) : ∃ ds, (d = .list ds ∨ d = .tuple ds) ∧ seqD d = ds ∧ lo ≤ (ds.length : Int) ∧ (ds.length : Int) ≤ hi ∧ (∀ e ∈ ds, p e = true) ∧ (ds.map nameD).Nodup := by
  have key : ∀ ds, onesL ds lo hi p = true → lo ≤ (ds.length : Int) ∧ (ds.length : Int) ≤ hi ∧ (∀ e ∈ ds, p e = true) ∧ (ds.map nameD).Nodup := fun ds h => by
    obtain ⟨h1, h0⟩ := band h
    obtain ⟨h1, h2⟩ := band h1
    obtain ⟨h3, h4⟩ := band h1
    exact ⟨of_decide_eq_true h3, of_decide_eq_true h4, List.all_eq_true.mp h2, of_decide_eq_true h0⟩
  cases d with
  | list ds => exact ⟨ds, .inl rfl, rfl, key ds h⟩
  | tuple ds => exact ⟨ds, .inr rfl, rfl, key ds h⟩
  | _ => cases h
end KW
end
section
set_option Elab.async false
set_option linter.all false
set_option autoImplicit false
set_option maxRecDepth 100000
set_option maxHeartbeats 400000
/-! plans.py: Plan -/
namespace KW
open PySem PySem.Spec PyProof.Rows L2 He KR Evl
local macro_rules
  | `(tactic| walk_at "ev") => `(tactic| repeat' (first
    | exact ev_c | exact ev_var rfl | exact ea_nil | exact rv_I0 | exact ru_neg | exact eo_none
    | exact rv_eq rfl | exact rv_ne rfl
    | exact rv_ixT (by assumption) (by rfl) | exact rv_ixL (by assumption) (by rfl)
    | exact sv_q (by assumption) (by assumption) | exact sv_within (by assumption)
    | exact Or.inr (by assumption) | exact Or.inl (by assumption) | (show (_ : String) ∈ _; decide)
    | with_reducible (first | apply ev_isi | apply ev_lenS | apply ev_if' | apply et_test | apply et_B | apply et_not | apply et_and | apply et_or | apply ev_andV | apply ev_orV | apply ev_notV | apply ea_cons | apply eo_some | apply ev_op | apply ev_un | apply ev_call)
    | assumption
    | (with_reducible intro hh; first | exact absurd (show true = false from hh) (by decide) | exact absurd (show false = true from hh) (by decide) | clear hh)))

section
variable {P : Program} {w : World} {K : PySem.W.Frag} {mg : Str → Option Value} {base : Heap}
theorem sc_Plan_init : FnScope ["self", "lines", "bottoms", "threads", "names", "one", "some"] ["self", "lines", "bottoms", "threads"] (defScope s_Plan_init) := ⟨rfl, rfl, rfl, by decide +kernel, rfl, by decide +kernel, by decide +kernel⟩
/-- a plan that nobody changes -/
def PlanAt (K : PySem.W.Frag) (G : Hp) (p : Addr) (R B T : List PyData) : Prop := ∃ dx r1 r2 r3 x1 x2 x3, G p = some (.ins (g_Plan K) dx [("row", .ref r1), ("low", .ref r2), ("late", .ref r3)]) ∧
  (G r1 = some (.lst x1) ∧ DpAll K G x1 R) ∧ (G r2 = some (.lst x2) ∧ DpAll K G x2 B) ∧ G r3 = some (.lst x3) ∧ DpAll K G x3 T
def InS (K : PySem.W.Frag) (G H : Hp) (v : V) (ds : List PyData) : Prop := ∃ a xs, v = .ref a ∧ (SqL K H a xs ∨ SqT K H a xs) ∧ InA K G H xs ds
def spPlan (K : PySem.W.Frag) : Sp := fun vs H Q E => ∃ self dx l b t dl db dt, vs = [.ref self, l, b, t] ∧ H self = some (.ins (g_Plan K) dx []) ∧ (Dp K H l dl ∧ Dp K H b db ∧ Dp K H t dt) ∧ (Sm dl ∧ Sm db ∧ Sm dt) ∧
  (planOkD dl db dt = false → ∀ H', Ex H H' → E (.ref (g_BadPlan K)) none H') ∧
  (planOkD dl db dt = true → ∃ G L, Own G H ((self, .ins (g_Plan K) dx []) :: L) ∧ (InS K G H l (seqD dl) ∧ InS K G H b (seqD db) ∧ InS K G H t (seqD dt)) ∧
    ∀ G' H', Same G G' → Own G' H' L → (∀ c o, c ≠ self → H c = some o → H' c = some o) → PlanAt K G' self (seqD dl) (seqD db) (seqD dt) → Q .non H')
section
variable {H : Hp} {v : V} {d : PyData} {lo hi : Int}
theorem sv_lines (h : Dp K H v d) (f : Sm d) (hh : hi ≤ 100) : SpV (spOnes K) [v, .int lo, .int hi, .ref (g_is_line K)] H (.bl (areOnesD d lo hi isLineD)) := fun H1 e Q q E => ⟨v, d, lo, hi, _, _, rfl, .inl ⟨rfl, rfl⟩, dpM e h, f, hh, fun H' s => q H' s⟩
theorem sv_bottoms (h : Dp K H v d) (f : Sm d) (hh : hi ≤ 100) : SpV (spOnes K) [v, .int lo, .int hi, .ref (g_is_bottom K)] H (.bl (areOnesD d lo hi isBottomD)) := fun H1 e Q q E => ⟨v, d, lo, hi, _, _, rfl, .inr (.inl ⟨rfl, rfl⟩), dpM e h, f, hh, fun H' s => q H' s⟩
theorem sv_threads (h : Dp K H v d) (f : Sm d) (hh : hi ≤ 100) : SpV (spOnes K) [v, .int lo, .int hi, .ref (g_is_thread K)] H (.bl (areOnesD d lo hi isThreadD)) := fun H1 e Q q E => ⟨v, d, lo, hi, _, _, rfl, .inr (.inr ⟨rfl, rfl⟩), dpM e h, f, hh, fun H' s => q H' s⟩
theorem sv_ranks {ds : List PyData} (hd : d = .list ds ∨ d = .tuple ds) (h : Dp K H v d) (hl : ds.length ≤ 100) (hp : ∀ e ∈ ds, ∃ n r rest, e = .tuple (n :: .int r :: rest)) : SpV (spRanks K) [v] H (.bl (unlikeD ds)) := fun H1 e Q q E => ⟨v, d, ds, rfl, hd, dpM e h, hl, hp, fun H' s => q H' s⟩
end
theorem one_line {e : PyData} (h : isLineD e = true) : (∃ n r rest, e = .tuple (n :: .int r :: rest)) ∧ OneD e ∧ CopyD e ∧ ∃ n r, e = .tuple (.str n :: r) := by
  obtain ⟨n, r, u, a, b, c, ss, rfl, hn, hr, hg, hs⟩ := line_inv h
  obtain ⟨s1, s2, s3⟩ := stepsL_inv hs
  exact ⟨⟨_, _, _, rfl⟩, ⟨[.str n, .int r, .bool u, .tuple [.int a, .int b, .int c]], ss, rfl, s1, by omega⟩, ⟨[.str n, .int r, .bool u, .tuple [.int a, .int b, .int c]], ss, rfl, by simp, by simp, by omega⟩, _, _, rfl⟩
theorem one_bottom {e : PyData} (h : isBottomD e = true) : OneD e ∧ CopyD e ∧ ∃ n r, e = .tuple (.str n :: r) := by
  obtain ⟨n, ss, rfl, hn, hs⟩ := bottom_inv h
  obtain ⟨s1, s2, s3⟩ := stepsL_inv hs
  exact ⟨⟨[.str n], ss, rfl, s1, by omega⟩, ⟨[.str n], ss, rfl, by simp, by simp, by omega⟩, _, _, rfl⟩
theorem one_thread {e : PyData} (h : isThreadD e = true) : (∃ n r rest, e = .tuple (n :: .int r :: rest)) ∧ OneD e ∧ CopyD e ∧ ∃ n r, e = .tuple (.str n :: r) := by
  obtain ⟨n, r, ss, rfl, hn, hr, hs⟩ := thread_inv h
  obtain ⟨s1, s2, s3⟩ := stepsL_inv hs
  exact ⟨⟨_, _, _, rfl⟩, ⟨[.str n, .int r], ss, rfl, s1, by omega⟩, ⟨[.str n, .int r], ss, rfl, by simp, by simp, by omega⟩, _, _, rfl⟩
theorem sq_da {H : Hp} {v : V} {d : PyData} {L : List PyData} (h : d = .list L ∨ d = .tuple L) (hd : Dp K H v d) : ∃ a xs, v = .ref a ∧ (SqL K H a xs ∨ SqT K H a xs) ∧ DpAll K H xs L := by
  rcases h with rfl | rfl
  · obtain ⟨a, xs, e, h1, h2⟩ := dpL hd
    exact ⟨a, xs, e, .inl h1, h2⟩
  · obtain ⟨a, xs, e, h1, h2⟩ := dpT hd
    exact ⟨a, xs, e, .inr h1, h2⟩
theorem da_strs {H : Hp} : ∀ {xs : List V} {ns : List Str}, DpAll K H xs (ns.map PyData.str) → xs = ns.map V.str
  | _, [], h => dpN h
  | _, n :: ns, h => by
    obtain ⟨v, ws, rfl, hv, hw⟩ := dpC h
    rw [dpS hv, da_strs hw]
    rfl
theorem strs_da {H : Hp} : ∀ {ns : List Str}, DpAll K H (ns.map V.str) (ns.map PyData.str)
  | [] => .nil
  | n :: ns => .cons (.str n) strs_da
theorem tLc_U {tl te : TE} {tt : TT} {g : TG} {vs : List Nat} {xs : List V} {σ : L2.St} {H : Hp} {Q : VK} (h : EvU tl σ H xs) (k : ∀ p H1, H p = none → Ex H H1 → H1 p = some (.tup xs) → tLc (iTup K (fun _ H Q => Q (.ref p) H)) g tt te vs σ H1 Q) : tLc (iTup K tl) g tt te vs σ H Q := h H (Ex.refl _) _ fun p H1 n e hp => k p H1 n e hp
theorem q_asgR {te : TE} {i : Nat} {tz : TS} {D : Ends} {σ : L2.St} {H : Hp} (h : te σ H fun v H1 => tz D (σ.set i (some v)) H1) : tSeq (tAsg te (gName i)) tz D σ H := h
/-- the names of three lots: a list of three new lists -/
theorem names_ev {σ : L2.St} {H : Hp} {l b t : V} {dl db dt : PyData} {A B C : List PyData} (hσ : ∃ s a4 a5 a6, σ = [s, some l, some b, some t, a4, a5, a6]) (h1 : Dp K H l dl) (h2 : Dp K H b db) (h3 : Dp K H t dt) (g1 : dl = .list A ∨ dl = .tuple A) (g2 : db = .list B ∨ db = .tuple B) (g3 : dt = .list C ∨ dt = .tuple C)
    (hz : A.length ≤ 100 ∧ B.length ≤ 100 ∧ C.length ≤ 100) (hp : ∀ e ∈ A ++ (B ++ C), ∃ n r, e = .tuple (.str n :: r)) {Q : VK}
    (q : ∀ D H', Ex H H' → Dp K H' (.ref D) (.list [.list ((A.map nameD).map .str), .list ((B.map nameD).map .str), .list ((C.map nameD).map .str)]) → Q (.ref D) H') :
    tLc (iTup K (tTup (tCons (tVar 1) (tCons (tVar 2) (tCons (tVar 3) tNil))))) (gName 6) tYes (tLc (iSeq K (tVar 6)) (gName 5) tYes (tOp (rIxT K) (tVar 5) (tC (V.int 0))) [5]) [6] σ H Q := by
  obtain ⟨s, a4, a5, a6, rfl⟩ := hσ
  have hU : EvU (tTup (tCons (tVar 1) (tCons (tVar 2) (tCons (tVar 3) tNil)))) [s, some l, some b, some t, a4, a5, a6] H [l, b, t] := eu_tup (ea_cons (ev_var rfl) (ea_cons (ev_var rfl) (ea_cons (ev_var rfl) ea_nil))) (by show (3 : Nat) ≤ 100000; decide)
  refine tLc_U hU fun p H1 np e1 hp1 => ?_
  refine ⟨p, rfl, ⟨_, st_of hp1⟩, fun D hD => ?_⟩
  let dat : List PyData := [.list ((A.map nameD).map .str), .list ((B.map nameD).map .str), .list ((C.map nameD).map .str)]
  refine lc_ownT (K := K) (a := p) (xs := [l, b, t]) (g := gName 6) (tt := tYes) (te := tLc (iSeq K (tVar 6)) (gName 5) tYes (tOp (rIxT K) (tVar 5) (tC (V.int 0))) [5]) (vs := [6]) (σ := [s, some l, some b, some t, a4, a5, a6])
    (fun i acc G => DpAll K G acc (dat.take i)) hD (st_of hp1) (by show (3 : Nat) ≤ 100000; decide) .nil (fun i x G H2 acc hx hi s1 hl hacc o => ⟨rfl, ?_⟩) (fun G H2 acc s1 o hl hacc => ?_)
  · have key : ∀ {x : V} {d : PyData} {L : List PyData}, Dp K H x d → (d = .list L ∨ d = .tuple L) → L.length ≤ 100 → (∀ e ∈ L, ∃ n r, e = .tuple (.str n :: r)) → (dat[i]? = some (.list ((L.map nameD).map .str))) → i < 3 →
        tLc (iSeq K (tVar 6)) (gName 5) tYes (tOp (rIxT K) (tVar 5) (tC (V.int 0))) [5] [s, some l, some b, some t, a4, a5, some x] H2 fun y H4 => ∃ acc, H4 D = some (.lst acc) ∧ acc.length < sizeLine ∧ PvL D H1 (fun i acc G => DpAll K G acc (dat.take i)) (i + 1) (upd H4 D (.lst (acc ++ [y]))) := fun {x d L} hx g hz hp hd hi3 => by
      have eH : Ex H H2 := e1.trans (s1.trans o.sub)
      obtain ⟨a, xs, rfl, hs, ha⟩ := sq_da g hx
      have hlen := dpLen ha
      refine el_lcS (K := K) (fun d => V.str (nameD d)) (ev_var rfl) (hs.imp (ex_l eH) (ex_t eH)) (daM eH ha) (by omega) (fun _ => rfl) (fun H3 e3 y d hm hd => ?_) H2 (Ex.refl _) _ fun r H3 nr e3 hr => ?_
      · obtain ⟨n, rest, rfl⟩ := hp d hm
        obtain ⟨b, ys, rfl, hy, hb⟩ := dpT hd
        obtain ⟨v0, zs, rfl, h0, _⟩ := dpC hb
        rw [dpS h0] at hy
        exact ev_op (ev_var rfl) ev_c (rv_ixT hy at0)
      · have k := own_keep o e3 nr hr
        refine add_l (s1.trans k.2) k.1 hl hi ?_
        show DpAll K _ (acc ++ [.ref r]) (dat.take (i + 1))
        rw [List.take_add_one, hd]
        refine da_app (daM k.2 hacc) (.cons (.lst (sq_of upd_same) ?_) .nil)
        have e : L.map (fun d => V.str (nameD d)) = (L.map nameD).map V.str := by rw [List.map_map]; rfl
        rw [e]
        exact strs_da
    match i, hx with
    | 0, hx => cases hx; exact key h1 g1 hz.1 (fun e he => hp e (by simp [he])) rfl (by decide)
    | 1, hx => cases hx; exact key h2 g2 hz.2.1 (fun e he => hp e (by simp [he])) rfl (by decide)
    | 2, hx => cases hx; exact key h3 g3 hz.2.2 (fun e he => hp e (by simp [he])) rfl (by decide)
  · refine q D H2 (e1.trans (s1.trans o.sub)) (.lst (sq_of (o.at_ _ (List.mem_cons_self ..))) (daM o.sub hacc))
/-- a heap without one object -/
def Ho (H : Hp) (a : Addr) : Hp := fun b => if b = a then none else H b
theorem ho_of {H H1 : Hp} {a b : Addr} {o : HO} (w : Same (Ho H a) H1) (e : Ho H a b = some o) : Ho H1 a b = some o := by
  have z := w b o e
  unfold Ho at e ⊢
  by_cases h : b = a
  · rw [if_pos h] at e; cases e
  · rw [if_neg h]; exact z
theorem rd_ho {H : Hp} {a l : Addr} {C dx : Addr} {fs : List (Str × V)} {u : HO} (h : H a = some (.ins C dx fs)) (hu : ∀ C dx fs, u ≠ .ins C dx fs) (r : Rd H l u) : Rd (Ho H a) l u := by
  have ne : l ≠ a := fun e => by
    subst e
    rcases r with r | ⟨o, r⟩
    · rw [h] at r; exact hu _ _ _ (Option.some.inj r).symm
    · rw [h] at r; cases r
  have e : Ho H a l = H l := by unfold Ho; rw [if_neg ne]
  unfold Rd at r ⊢
  rw [e]
  exact r
theorem sql_ho {H : Hp} {a l : Addr} {C dx : Addr} {fs : List (Str × V)} {xs : List V} (h : H a = some (.ins C dx fs)) (r : SqL K H l xs) : SqL K (Ho H a) l xs := r.imp (rd_ho h fun _ _ _ z => nomatch z) id
theorem sqt_ho {H : Hp} {a l : Addr} {C dx : Addr} {fs : List (Str × V)} {xs : List V} (h : H a = some (.ins C dx fs)) (r : SqT K H l xs) : SqT K (Ho H a) l xs := r.imp (rd_ho h fun _ _ _ z => nomatch z) id
theorem in_ho {G H : Hp} {a : Addr} {C dx : Addr} {fs : List (Str × V)} {xs : List V} {ds : List PyData} (h : H a = some (.ins C dx fs)) (k : InA K G H xs ds) : InA K G (Ho H a) xs ds := by
  induction k with
  | nil => exact .nil
  | cons p q r s _ ih => exact .cons p q (sql_ho h r) s ih
theorem ins_ho {G H : Hp} {a : Addr} {C dx : Addr} {fs : List (Str × V)} {v : V} {ds : List PyData} (h : H a = some (.ins C dx fs)) (k : InS K G H v ds) : InS K G (Ho H a) v ds := by
  obtain ⟨b, xs, e, s, i⟩ := k
  exact ⟨b, xs, e, s.imp (sql_ho h) (sqt_ho h), in_ho h i⟩
theorem ins_mono {G G' H H' : Hp} {v : V} {ds : List PyData} (e : Same G G') (e2 : Same H H') (k : InS K G H v ds) : InS K G' H' v ds := by
  obtain ⟨b, xs, e3, s, i⟩ := k
  exact ⟨b, xs, e3, s.imp (sL e2) (sT e2), in_mono e e2 i⟩
/-- self.f = copied(x) -/
theorem copy_fld {σ : L2.St} {i : Nat} {v : V} {G H : Hp} {L : List (Addr × HO)} {self C dx : Addr} {f : Str} {fs : List (Str × V)} {ds : List PyData} {D : Ends} (na : NoAttr K C f) (h0 : σ[0]? = some (some (.ref self))) (hi : σ[i]? = some (some v)) (o : Own G H ((self, .ins C dx fs) :: L)) (hs : InS K G H v ds) (cl : Cls K C) (hf : fs.length < 1000)
    (hlen : ds.length ≤ 100) (hcp : ∀ e ∈ ds, CopyD e) (q : ∀ p ys G' H', Same G G' → Same (Ho H self) H' → Own G' H' ((self, .ins C dx (putF f (.ref p) fs)) :: L) → G' p = some (.lst ys) → DpAll K G' ys ds → D.nx σ H') :
    sFld K (tVar 0) (tCall (spCopied K) [] E0 (tCons (tVar i) tNil)) f D σ H := by
  obtain ⟨a, xs, rfl, s, k⟩ := hs
  refine ⟨.ref a, hi, .ref a, a, xs, ds, G, (self, .ins C dx fs) :: L, rfl, rfl, s, o, k, hlen, hcp, fun p G1 H1 ys cs s1 s2 np o1 t1 => ?_⟩
  obtain ⟨G2, s3, o2, hc⟩ := own_holds (cs := (p, .lst ys) :: cs) (L := (self, .ins C dx fs) :: L) o1
  have o3 : Own G2 H1 ([] ++ (self, .ins C dx fs) :: L) := o2
  refine ⟨.ref self, h0, self, C, dx, fs, rfl, o3.mid, cl, na, hf, ?_⟩
  refine q p ys G2 _ (s1.trans s3) (fun b u e => ?_) o3.upd (hc _ (List.mem_cons_self ..)) (tl_da (tl_mono s3 t1) fun q hq => hc q (List.mem_cons_of_mem _ hq))
  unfold Ho at e
  by_cases h : b = self
  · rw [if_pos h] at e; cases e
  · rw [if_neg h] at e
    rw [upd_ne h]
    exact s2 _ _ e
theorem ok_Plan_init (T : Txt w K mg) : FnOk P w K mg base (L2.CX P w) 8 (f_Plan_init K) (fdAt K (f_Plan_init K)) ["self", "lines", "bottoms", "threads"] (spPlan K) := by
  refine (df_Plan_init T).ok sc_Plan_init (fun vs H Q E h => ?_) (fun cdv A outer s H vs Q E hr h => ?_)
  · obtain ⟨self, dx, l, b, t, dl, db, dt, rfl, _⟩ := h
    rfl
  · obtain ⟨self, dx, l, b, t, dl, db, dt, rfl, hself, ⟨hl, hb, ht⟩, ⟨ml, mb, mt⟩, qE, qQ⟩ := h
    obtain ⟨_, h_MOST_LINES⟩ := in_MOST_LINES T
    obtain ⟨_, h_MOST_OTHERS⟩ := in_MOST_OTHERS T
    refine ⟨_, (pss_cons (ps_if (PW.pt (pw_or (pt_not (pt_val (pe_call (ok_are_ones T) (hr.mono (by decide)) rfl (gl_are_ones T) (df_are_ones T).kp (bi_are_ones T) .nil pass0 (pa_cons (pv 1) (pa_cons pe_int (pa_cons (pe_glob (v := .int 5) rfl h_MOST_LINES ⟨_, rfl⟩) (pa_cons (pe_glob (v := .ref (g_is_line K)) rfl (gl_is_line T) rfl) pa_nil))))))) (pw_or1 (pt_not (pt_val (pe_call (ok_are_unlike_ranks T) (hr.mono (by decide)) rfl (gl_are_unlike_ranks T) (df_are_unlike_ranks T).kp (bi_are_unlike_ranks T) .nil pass0 (pa_cons (pv 1) pa_nil))))))) (pss_one (ps_raise rfl (takes_of rfl rfl rfl rfl) (pmk_own PySem.F.excBase_ValueError (ec_BadPlan T).1 (gl_BadPlan T) (ec_BadPlan T).2.1 (raises_own (ec_BadPlan T).2.2.1 (ec_BadPlan T).2.2.2) rfl))) pss_nil)
      (pss_cons (ps_if (PW.pt (pw_or (pt_not (pt_val (pe_call (ok_are_ones T) (hr.mono (by decide)) rfl (gl_are_ones T) (df_are_ones T).kp (bi_are_ones T) .nil pass0 (pa_cons (pv 2) (pa_cons pe_int (pa_cons (pe_glob (v := .int 4) rfl h_MOST_OTHERS ⟨_, rfl⟩) (pa_cons (pe_glob (v := .ref (g_is_bottom K)) rfl (gl_is_bottom T) rfl) pa_nil))))))) (pw_or1 (pt_not (pt_val (pe_call (ok_are_ones T) (hr.mono (by decide)) rfl (gl_are_ones T) (df_are_ones T).kp (bi_are_ones T) .nil pass0 (pa_cons (pv 3) (pa_cons pe_int (pa_cons (pe_glob (v := .int 4) rfl h_MOST_OTHERS ⟨_, rfl⟩) (pa_cons (pe_glob (v := .ref (g_is_thread K)) rfl (gl_is_thread T) rfl) pa_nil)))))))))) (pss_one (ps_raise rfl (takes_of rfl rfl rfl rfl) (pmk_own PySem.F.excBase_ValueError (ec_BadPlan T).1 (gl_BadPlan T) (ec_BadPlan T).2.1 (raises_own (ec_BadPlan T).2.2.1 (ec_BadPlan T).2.2.2) rfl))) pss_nil)
      (pss_cons (ps_setLc (i := 4) (own := [("some", 6)]) (g := gName 6) (tt := tYes) rfl sc_Plan_init.nd rfl rfl (sw_true rfl rfl rfl (by decide +kernel)) (pi_tupK (K := K) rfl (pe_tup (pa_cons (pv 1) (pa_cons (pv 2) (pa_cons (pv 3) pa_nil))))) (blkOk_by (N := ["self", "lines", "bottoms", "threads", "names", "one", "some"]) (sc := defScope s_Plan_init) (by decide +kernel)) (fun _ _ _ _ _ => pg_name (i := 6) sc_Plan_init.nd rfl (Or.inl rfl)) (fun _ _ _ _ _ => pts_nil) (fun _ _ _ _ _ => (pe_lc (own := [("one", 5)]) (g := gName 5) (tt := tYes) rfl sc_Plan_init.nd (pi_seq (K := K) rfl (pv 6)) (blkOk_by (N := ["self", "lines", "bottoms", "threads", "names", "one", "some"]) (sc := { kind := .function, names := [(".0", .local), ("some", .local)], isGenerator := false, isCoroutine := false }) (by decide +kernel)) (fun _ _ _ _ _ => pg_name (i := 5) sc_Plan_init.nd rfl (Or.inl rfl)) (fun _ _ _ _ _ => pts_nil) (fun _ _ _ _ _ => (pe_ix (ix_tupK (K := K) rfl) (pv 5) pe_int (fun _ _ => rfl))))))
      (pss_cons (ps_if (PW.pt (pw_or (pt_not (pt_val (pe_call (ok_are_unlike_ranks T) (hr.mono (by decide)) rfl (gl_are_unlike_ranks T) (df_are_unlike_ranks T).kp (bi_are_unlike_ranks T) .nil pass0 (pa_cons (pv 3) pa_nil)))) (pw_or1 (pt_not (pt_val (pe_call (ok_all_there T) (hr.mono (by decide)) rfl (gl_all_there T) (df_all_there T).kp (bi_all_there T) .nil pass0 (pa_cons (pv 4) (pa_cons (pv 1) (pa_cons (pv 2) (pa_cons (pv 3) pa_nil)))))))))) (pss_one (ps_raise rfl (takes_of rfl rfl rfl rfl) (pmk_own PySem.F.excBase_ValueError (ec_BadPlan T).1 (gl_BadPlan T) (ec_BadPlan T).2.1 (raises_own (ec_BadPlan T).2.2.1 (ec_BadPlan T).2.2.2) rfl))) pss_nil)
      (pss_cons (ps_fldK (K := K) rfl (pv 0) (pe_call (ok_copied T) (hr.mono (by decide)) rfl (gl_copied T) (df_copied T).kp (bi_copied T) .nil pass0 (pa_cons (pv 1) pa_nil)))
      (pss_cons (ps_fldK (K := K) rfl (pv 0) (pe_call (ok_copied T) (hr.mono (by decide)) rfl (gl_copied T) (df_copied T).kp (bi_copied T) .nil pass0 (pa_cons (pv 2) pa_nil)))
      (pss_one (ps_fldK (K := K) rfl (pv 0) (pe_call (ok_copied T) (hr.mono (by decide)) rfl (gl_copied T) (df_copied T).kp (bi_copied T) .nil pass0 (pa_cons (pv 3) pa_nil)))))))))), ?_⟩
    have rk : ∀ {H1 : Hp}, Ex H H1 → areOnesD dl 1 5 isLineD = true → SpV (spRanks K) [l] H1 (.bl (unlikeD (seqD dl))) := fun {H1} e h => by
      obtain ⟨ds, g, e1, z1, z2, hp, _⟩ := ones_inv h
      rw [e1]
      exact sv_ranks g (dpM e hl) (by omega) fun e he => (one_line (hp e he)).1
    refine q_when (b := !areOnesD dl 1 5 isLineD || !unlikeD (seqD dl)) (et_or (et_not (et_B (ev_call (ea_cons (ev_var rfl) (ea_cons ev_c (ea_cons ev_c (ea_cons ev_c ea_nil)))) (sv_lines hl ml (by decide))))) fun h1 => et_not (et_B (ev_call (ea_cons (ev_var rfl) ea_nil) (rk (Ex.refl _) (by cases h : areOnesD dl 1 5 isLineD <;> simp_all))))) (fun hc H1 e1 => ?_) fun hc H1 e1 => ?_
    · refine qE ?_ H1 e1
      unfold planOkD
      cases h1 : areOnesD dl 1 5 isLineD <;> cases h2 : unlikeD (seqD dl) <;> simp_all
    have c1 : areOnesD dl 1 5 isLineD = true := by cases h : areOnesD dl 1 5 isLineD <;> simp_all
    have c2 : unlikeD (seqD dl) = true := by cases h : unlikeD (seqD dl) <;> simp_all
    refine q_when (b := !areOnesD db 0 4 isBottomD || !areOnesD dt 0 4 isThreadD) (et_or (et_not (et_B (ev_call (ea_cons (ev_var rfl) (ea_cons ev_c (ea_cons ev_c (ea_cons ev_c ea_nil)))) (sv_bottoms (dpM e1 hb) mb (by decide))))) fun h1 => et_not (et_B (ev_call (ea_cons (ev_var rfl) (ea_cons ev_c (ea_cons ev_c (ea_cons ev_c ea_nil)))) (sv_threads (dpM e1 ht) mt (by decide))))) (fun hc H2 e2 => ?_) fun hc H2 e2 => ?_
    · refine qE ?_ H2 (e1.trans e2)
      unfold planOkD
      cases h1 : areOnesD db 0 4 isBottomD <;> cases h2 : areOnesD dt 0 4 isThreadD <;> simp_all
    have c3 : areOnesD db 0 4 isBottomD = true := by cases h : areOnesD db 0 4 isBottomD <;> simp_all
    have c4 : areOnesD dt 0 4 isThreadD = true := by cases h : areOnesD dt 0 4 isThreadD <;> simp_all
    obtain ⟨A, gA, eA, _, zA, pA, _⟩ := ones_inv c1
    obtain ⟨B, gB, eB, _, zB, pB, _⟩ := ones_inv c3
    obtain ⟨C, gC, eC, _, zC, pC, _⟩ := ones_inv c4
    rw [eA, eB, eC] at qQ
    have e12 := e1.trans e2
    have hone : ∀ e ∈ A ++ (B ++ C), OneD e ∧ CopyD e ∧ ∃ n r, e = .tuple (.str n :: r) := fun e he => by
      rcases List.mem_append.mp he with he | he
      · exact (one_line (pA e he)).2
      · rcases List.mem_append.mp he with he | he
        · exact one_bottom (pB e he)
        · exact (one_thread (pC e he)).2
    refine q_asgR (names_ev ⟨_, _, _, _, rfl⟩ (dpM e12 hl) (dpM e12 hb) (dpM e12 ht) gA gB gC ⟨by omega, by omega, by omega⟩ (fun e he => (hone e he).2.2) fun D H3 e3 hN => ?_)
    have e13 := e12.trans e3
    obtain ⟨pn, xs, hpn, hN, hN3⟩ := dpL hN
    cases hpn
    obtain ⟨v1, _, rfl, hv1, hN3⟩ := dpC hN3
    obtain ⟨v2, _, rfl, hv2, hN3⟩ := dpC hN3
    obtain ⟨v3, _, rfl, hv3, hN3⟩ := dpC hN3
    obtain rfl := dpN hN3
    obtain ⟨n1, y1, rfl, k1, j1⟩ := dpL hv1
    obtain ⟨n2, y2, rfl, k2, j2⟩ := dpL hv2
    obtain ⟨n3, y3, rfl, k3, j3⟩ := dpL hv3
    obtain rfl := da_strs j1
    obtain rfl := da_strs j2
    obtain rfl := da_strs j3
    refine q_when (b := !unlikeD C || !allThereD (A.map nameD, B.map nameD, C.map nameD) (A ++ (B ++ C))) (et_or (et_not (et_B (ev_call (ea_cons (ev_var rfl) ea_nil) (sv_ranks gC (dpM e13 ht) (by omega) fun e he => (one_thread (pC e he)).1)))) fun h1 => et_not (et_B (ev_call (ea_cons (ev_var rfl) (ea_cons (ev_var rfl) (ea_cons (ev_var rfl) (ea_cons (ev_var rfl) ea_nil)))) fun H4 e4 Q q E => ?_))) (fun hc H4 e4 => ?_) fun hc H4 e4 => ?_
    · have e14 := e13.trans e4
      exact ⟨D, n1, n2, n3, _, _, _, l, b, t, dl, db, dt, A, B, C, rfl, ⟨ex_l e4 hN, ex_l e4 k1, ex_l e4 k2, ex_l e4 k3⟩, ⟨gA, gB, gC⟩, ⟨dpM e14 hl, dpM e14 hb, dpM e14 ht⟩, ⟨by omega, by omega, by omega⟩, fun e he => (hone e he).1, fun H' s => q H' s⟩
    · refine qE ?_ H4 (e13.trans e4)
      unfold planOkD
      rw [eA, eB, eC]
      cases h1 : unlikeD C <;> cases h2 : allThereD (A.map nameD, B.map nameD, C.map nameD) (A ++ (B ++ C)) <;> simp_all
    have c5 : planOkD dl db dt = true := by
      unfold planOkD
      rw [eA] at c2
      rw [eA, eB, eC, c1, c2, c3, c4]
      cases h1 : unlikeD C <;> cases h2 : allThereD (A.map nameD, B.map nameD, C.map nameD) (A ++ (B ++ C)) <;> simp_all
    have e14 := e13.trans e4
    obtain ⟨G, L, o, ⟨⟨al, xl, rfl, sl, il⟩, ⟨ab, xb, rfl, sb, ib⟩, ⟨at_, xt, rfl, st, it⟩⟩, q⟩ := qQ c5
    have o4 := o.same e14
    have hs4 : H4 self = some (.ins (g_Plan K) dx []) := o4.get (List.mem_cons_self ..)
    have i1 := ins_ho hs4 ⟨al, xl, rfl, sl.imp (ex_l e14) (ex_t e14), in_mono (Same.refl _) e14 il⟩
    have i2 := ins_ho hs4 ⟨ab, xb, rfl, sb.imp (ex_l e14) (ex_t e14), in_mono (Same.refl _) e14 ib⟩
    have i3 := ins_ho hs4 ⟨at_, xt, rfl, st.imp (ex_l e14) (ex_t e14), in_mono (Same.refl _) e14 it⟩
    have w0 : Same (Ho H4 self) H4 := fun b o e => by
      unfold Ho at e
      split at e
      · cases e
      · exact e
    refine copy_fld (i := 1) (na := na_Plan_row T) rfl rfl o4 (ins_mono (Same.refl _) w0 i1) (cl_Plan T) (by show (0 : Nat) < 1000; decide) (by omega) (fun e he => (hone e (by simp [he])).2.1) fun r1 y1 G1 H5 s1 w1 o5 k1 d1 => ?_
    have w1 : Same (Ho H4 self) H5 := fun b o e => w1 b o (ho_of w0 e)
    refine copy_fld (i := 2) (na := na_Plan_low T) rfl rfl o5 (ins_mono s1 w1 i2) (cl_Plan T) (by show (1 : Nat) < 1000; decide) (by omega) (fun e he => (hone e (by simp [he])).2.1) fun r2 y2 G2 H6 s2 w2 o6 k2 d2 => ?_
    have w2 : Same (Ho H4 self) H6 := fun b o e => w2 b o (ho_of w1 e)
    refine copy_fld (i := 3) (na := na_Plan_late T) rfl rfl o6 (ins_mono (s1.trans s2) w2 i3) (cl_Plan T) (by show (2 : Nat) < 1000; decide) (by omega) (fun e he => (hone e (by simp [he])).2.1) fun r3 y3 G3 H7 s3 w3 o7 k3 d3 => ?_
    have w3 : Same (Ho H4 self) H7 := fun b o e => w3 b o (ho_of w2 e)
    have hold := Own.hold o7
    have held := Own.held o7
    refine q _ H7 ((s1.trans s2).trans (s3.trans held)) hold (fun c u hc e => w3 c u ?_) ⟨dx, r1, r2, r3, y1, y2, y3, upd_same, ⟨held _ _ (s3 _ _ (s2 _ _ k1)), daM (s2.trans (s3.trans held)) d1⟩, ⟨held _ _ (s3 _ _ k2), daM (s3.trans held) d2⟩, held _ _ k3, daM held d3⟩
    unfold Ho
    rw [if_neg hc]
    exact e14 _ _ e
end
end KW
end
section
set_option Elab.async false
set_option linter.all false
set_option autoImplicit false
set_option maxRecDepth 100000
set_option maxHeartbeats 400000
/-! the engine as such -/
namespace KW
open PySem
/-- a line as such -/
structure LineM where
  name : Str
  rank : Int
  up : Bool
  most : Int
  wide : Int
  rest : Int
  ss : List PyData
  let_by : List Int
  shut : Int
  since : Option Int
  fresh : Bool
  c0 : Int
  c1 : Int
  c2 : Int
  c3 : Int
  longest : Int
def LineM.knock (l : LineM) (t : Int) : LineM :=
  if t < l.shut then { l with c2 := l.c2 + 1 }
  else if l.most ≤ ((l.let_by.filter fun one => decide (t - l.wide < one)).length : Int) then { l with shut := t + l.rest, c2 := l.c2 + 1 }
  else if l.since.isSome then { l with let_by := l.let_by ++ [t], c1 := l.c1 + 1 }
  else { l with let_by := l.let_by ++ [t], c0 := l.c0 + 1, since := some t, fresh := true }
def LineM.begin (l : LineM) (t : Int) : LineM :=
  let l := { l with c3 := l.c3 + 1 }
  let l := if l.fresh then { l with longest := (if t - l.since.getD 0 > l.longest then t - l.since.getD 0 else l.longest), fresh := false } else l
  if l.up then l else { l with since := none }
def LineM.answer (l : LineM) : LineM := if l.up then { l with since := none, fresh := false } else l
structure JobM where
  word : Str
  name : Str
  rank : Int
  ss : List PyData
  masks : Int
  pos : Nat
  left : Nat
/-- changes the first that passes -/
def upFirst {α : Type} (p : α → Bool) (f : α → α) : List α → List α
  | [] => []
  | x :: r => if p x = true then f x :: r else x :: upFirst p f r
/-- the first of the greatest -/
def bestBy {α : Type} (k : α → Int) : List α → Option α
  | [] => none
  | x :: r => match bestBy k r with
    | none => some x
    | some y => if k x ≥ k y then some x else some y
def ticksD : PyData → Int
  | .tuple [_, .int n] => n
  | _ => 0
/-- a line's parts -/
def lineM : PyData → LineM
  | .tuple [.str n, .int r, .bool u, .tuple [.int a, .int b, .int c], .list ss] => { name := n, rank := r, up := u, most := a, wide := b, rest := c, ss := ss, let_by := [], shut := 0, since := none, fresh := false, c0 := 0, c1 := 0, c2 := 0, c3 := 0, longest := 0 }
  | _ => { name := "", rank := 0, up := false, most := 0, wide := 0, rest := 0, ss := [], let_by := [], shut := 0, since := none, fresh := false, c0 := 0, c1 := 0, c2 := 0, c3 := 0, longest := 0 }
structure EngM where
  R : List PyData
  B : List PyData
  T : List PyData
  ways : List LineM
  tops : List JobM
  bottom : Option JobM
  put : List Str
  woken : List (Str × Int)
  begun : List JobM
  depth : Int
  now : Int
  row : List (Option (Str × Str))
  depths : List Int
  last : List Str
inductive Cur
  | top
  | bottom
  | thread (n : Str)
  deriving DecidableEq
def newEng (R B T : List PyData) : EngM := { R := R, B := B, T := T, ways := R.map lineM, tops := [], bottom := none, put := [], woken := T.map fun t => (nameD t, 0), begun := [], depth := 0, now := 0, row := [], depths := [], last := [] }
def hasN (n : Str) (l : LineM) : Bool := decide (l.name = n)
def jobN (n : Str) (j : JobM) : Bool := decide (j.name = n)
namespace EngM
def low (e : EngM) : Int := match e.tops.getLast? with
  | some j => j.rank
  | none => 0
def ready (e : EngM) : List LineM := e.ways.filter fun l => l.since.isSome && (!decide (l.name ∈ e.tops.map (·.name)) && decide (e.low < l.rank))
def readyLine (e : EngM) : Option LineM := if 0 < e.depth then none else bestBy (·.rank) e.ready
def newJob (w n : Str) (r : Int) (ss : List PyData) (m : Int) : JobM := { word := w, name := n, rank := r, ss := ss, masks := m, pos := 0, left := 0 }
def wokenOf (e : EngM) (n : Str) : Int := ((e.woken.find? fun p => decide (p.1 = n)).map (·.2)).getD 0
def freshT (e : EngM) : List PyData := e.T.filter fun t => !decide (nameD t ∈ e.begun.map (·.name)) && decide (0 < e.wokenOf (nameD t))
def pickT : Option JobM → List PyData → Option JobM
  | b, [] => b
  | b, t :: r => pickT (if (match b with | none => true | some j => decide (j.rank < rankD t)) = true then some (newJob "thread" (nameD t) (rankD t) (stepsD t) 0) else b) r
def addW (e : EngM) (n : Str) (d : Int) : EngM := { e with woken := e.woken.map fun p => if p.1 = n then (p.1, e.wokenOf n + d) else p }
def readyThread (e : EngM) : EngM × Option Cur :=
  if 0 < e.depth then (e, (bestBy (·.rank) e.begun).map fun j => .thread j.name)
  else match pickT (bestBy (·.rank) e.begun) e.freshT with
    | none => (e, none)
    | some j => if j.name ∈ e.begun.map (·.name) then (e, some (.thread j.name)) else ({ e.addW j.name (-1) with begun := e.begun ++ [j] }, some (.thread j.name))
def startBottom (e : EngM) : EngM := if e.bottom.isNone && decide (e.depth = 0) then (match e.put with
    | [] => e
    | n :: r => { e with put := r, bottom := some (newJob "bottom" n 0 (((e.B.find? fun b => decide (nameD b = n)).map stepsD).getD []) 0) })
  else e
def chosen (e : EngM) : EngM × Option Cur := match e.readyLine with
  | some l => ({ e with ways := upFirst (hasN l.name) (fun m => m.begin e.now) e.ways, last := e.last ++ [l.name], tops := e.tops ++ [newJob "top" l.name l.rank l.ss e.depth] }, some .top)
  | none => if e.tops.isEmpty then (let e1 := e.startBottom; if e1.bottom.isSome then (e1, some .bottom) else e1.readyThread) else (e, some .top)
def jobAt (e : EngM) : Cur → Option JobM
  | .top => e.tops.getLast?
  | .bottom => e.bottom
  | .thread n => e.begun.find? (jobN n)
/-- the running job changed -/
def setJob (e : EngM) (c : Cur) (f : JobM → JobM) : EngM := match c with
  | .top => { e with tops := e.tops.dropLast ++ (e.tops.getLast?.map f).toList }
  | .bottom => { e with bottom := e.bottom.map f }
  | .thread n => { e with begun := upFirst (jobN n) f e.begun }
def over (e : EngM) (c : Cur) : EngM := match e.jobAt c with
  | none => e
  | some j => if j.pos < j.ss.length then e else match c with
    | .top => { e with depth := j.masks, tops := e.tops.dropLast }
    | .bottom => { e with depth := j.masks, bottom := none }
    | .thread n => { e with depth := j.masks, begun := e.begun.filter fun o => !jobN n o }
def stepNow (e : EngM) (c : Cur) : PyData := match e.jobAt c with
  | none => .none
  | some j => j.ss.getD j.pos .none
def doStep (e : EngM) (s : PyData) : EngM :=
  if wordD s = "mask" then { e with depth := e.depth + 1 }
  else if wordD s = "open" then { e with depth := e.depth + -1 }
  else if wordD s = "answer" then { e with ways := upFirst (hasN (argD s)) LineM.answer e.ways }
  else if wordD s = "wake" then e.addW (argD s) 1
  else if argD s ∈ e.put then e else { e with put := e.put ++ [argD s] }
def quick (e : EngM) (c : Cur) : EngM := (((e.setJob c fun j => { j with pos := j.pos + 1 }).doStep (e.stepNow c))).over c
def isQuick (e : EngM) (c : Cur) : Bool := !decide (wordD (e.stepNow c) = "run")
def settle : Nat → EngM × Option Cur → EngM × Option Cur
  | 0, p => p
  | n + 1, (e, none) => (e, none)
  | n + 1, (e, some c) => if e.isQuick c = true then settle n (e.quick c).chosen else (e, some c)
def knocked (e : EngM) (ns : List Str) : EngM := ns.foldl (fun e n => { e with ways := upFirst (hasN n) (fun l => l.knock e.now) e.ways }) e
def whose (e : EngM) : Option Cur → Option (Str × Str)
  | none => none
  | some c => (e.jobAt c).map fun j => (j.word, j.name)
def stepLeft (e : EngM) (c : Cur) : EngM :=
  let e1 := e.setJob c fun j => { j with left := (if 0 < j.left then j.left else (ticksD (e.stepNow c)).toNat) - 1 }
  match e1.jobAt c with
  | none => e1
  | some j => if j.left = 0 then (e1.setJob c fun j => { j with pos := j.pos + 1 }).over c else e1
def fuel : Nat := 1000
def finish (p : EngM × Option Cur) : EngM :=
  let e2 := { p.1 with row := p.1.row ++ [p.1.whose p.2], depths := p.1.depths ++ [p.1.depth], now := p.1.now + 1 }
  match p.2 with
  | none => e2
  | some c => e2.stepLeft c
def go (e : EngM) (ns : List Str) : EngM := finish (settle fuel ({ e with last := [] }.knocked ns).chosen)
end EngM
end KW
end
section
set_option Elab.async false
set_option linter.all false
set_option autoImplicit false
set_option maxRecDepth 100000
set_option maxHeartbeats 1000000
/-! the engine's objects; statements over owned objects -/
namespace KW
open PySem PySem.Spec PyProof.Rows L2 He KR Evl
def optI : Option Int → V
  | none => .non
  | some i => .int i
/-- its object with its lists -/
structure LineG where
  a : Addr
  dx : Addr
  lb : Addr
  ct : Addr
  guard : V
  top : V
  m : LineM
def LineG.fs (l : LineG) : List (Str × V) := [("name", .str l.m.name), ("rank", .int l.m.rank), ("is_up", .bl l.m.up), ("guard", l.guard), ("top", l.top), ("let_by", .ref l.lb), ("shut_till", .int l.m.shut), ("since", optI l.m.since), ("fresh", .bl l.m.fresh), ("counts", .ref l.ct), ("longest", .int l.m.longest)]
def LineG.obs (K : PySem.W.Frag) (l : LineG) : List (Addr × HO) := [(l.a, .ins (g_Line K) l.dx l.fs), (l.lb, .lst (l.m.let_by.map V.int)), (l.ct, .lst [.int l.m.c0, .int l.m.c1, .int l.m.c2, .int l.m.c3])]
/-- what of it nobody changes -/
structure LineK (K : PySem.W.Frag) (G : Hp) (l : LineG) : Prop where
  guard : ∃ g, l.guard = .ref g ∧ SqT K G g [.int l.m.most, .int l.m.wide, .int l.m.rest]
  top : ∃ t xs, l.top = .ref t ∧ SqL K G t xs ∧ DpAll K G xs l.m.ss
structure JobG where
  a : Addr
  dx : Addr
  steps : V
  m : JobM
def JobG.fs (j : JobG) : List (Str × V) := [("word", .str j.m.word), ("name", .str j.m.name), ("rank", .int j.m.rank), ("steps", j.steps), ("masks_then", .int j.m.masks), ("at", .int j.m.pos), ("left", .int j.m.left)]
def JobG.ob (K : PySem.W.Frag) (j : JobG) : Addr × HO := (j.a, .ins (g_Job K) j.dx j.fs)
def StepsK (K : PySem.W.Frag) (G : Hp) (v : V) (ss : List PyData) : Prop := ∃ t xs, v = .ref t ∧ SqL K G t xs ∧ DpAll K G xs ss
section
variable {K : PySem.W.Frag} {G G' H H' : Hp} {L : List (Addr × HO)} {σ : L2.St} {ta te ti : TE} {D : Ends} {tz : TS} {a C dx : Addr} {f : Str} {fs : List (Str × V)} {v : V} {n m : Nat}
theorem StepsK.mono {ss : List PyData} (e : Same G G') (h : StepsK K G v ss) : StepsK K G' v ss := by
  obtain ⟨t, xs, e1, h1, h2⟩ := h
  exact ⟨t, xs, e1, sL e h1, daM e h2⟩
theorem LineK.mono {l : LineG} (e : Same G G') (h : LineK K G l) : LineK K G' l := by
  obtain ⟨⟨g, e1, h1⟩, h2⟩ := h
  exact ⟨⟨g, e1, sT e h1⟩, StepsK.mono e h2⟩
theorem oi {q : Addr × HO} (n : Nat) (o : Own G H L) (h : L[n]? = some q) : H q.1 = some q.2 := o.at_ q (List.mem_of_getElem? h)
theorem oi2 {ob : HO} (n : Nat) (o : Own G H L) (h : L[n]? = some (a, ob)) : H a = some ob := o.at_ (a, ob) (List.mem_of_getElem? h)
theorem own_set {o' : HO} {ob : HO} (o : Own G H L) (h : L[n]? = some (a, ob)) : Own G (upd H a o') (L.set n (a, o')) := by
  have hn := (List.getElem?_eq_some_iff.mp h).1
  have e1 : L = L.take n ++ (a, ob) :: L.drop (n + 1) := by
    have z : L[n] = (a, ob) := (List.getElem?_eq_some_iff.mp h).2
    rw [← z, List.getElem_cons_drop_succ_eq_drop, List.take_append_drop]
  have e2 : L.set n (a, o') = L.take n ++ (a, o') :: L.drop (n + 1) := by
    rw [List.set_eq_take_append_cons_drop, if_pos hn]
  rw [e1] at o
  rw [e2]
  exact o.upd
theorem own_ex (o : Own G H L) (e : Ex H H') : Own G H' L := o.same e
theorem ev_fl (ha : Ev ta σ H (.ref a)) (ho : H a = some (.ins C dx fs)) (hC : Cls K C) (hn : NoAttr K C f) (hl : fs.lookup f = some v) : Ev (tFld K ta f) σ H v := fun H1 e Q q =>
  ha H1 e _ fun H2 e2 => ⟨a, C, dx, fs, v, rfl, e2 _ _ (e _ _ ho), hC, hn, hl, q H2 e2⟩
/-- a, b, .. = x, a tuple -/
theorem q_unp {g : Addr} {xs : List V} {k : Nat} {t : TGs} (h : Ev te σ H (.ref g)) (hx : SqT K H g xs) (hn : xs.length = k) (q : ∀ H1, Ex H H1 → t xs σ H1 fun σ' H' => tz D σ' H') : tSeq (tAsg te (gTup K k t)) tz D σ H := h H (Ex.refl _) _ fun H1 e1 => ⟨g, xs, rfl, ex_t e1 hx, hn, q H1 e1⟩
/-- o.f = e -/
theorem s_fld (o : Own G H L) (n : Nat) (h : L[n]? = some (a, .ins C dx fs)) (he : Ev te σ H v) (ha : Ev ta σ H (.ref a)) (hC : Cls K C) (hn : NoAttr K C f) (hl : fs.length < 1000) (k : ∀ H1, Own G H1 (L.set n (a, .ins C dx (putF f v fs))) → D.nx σ H1) : sFld K ta te f D σ H :=
  he H (Ex.refl _) _ fun H1 e1 => ha H1 e1 _ fun H2 e2 => ⟨a, C, dx, fs, rfl, (e1.trans e2) _ _ (oi n o h), hC, hn, hl, k _ (own_set (o.same (e1.trans e2)) h)⟩
theorem q_fld (o : Own G H L) (n : Nat) (h : L[n]? = some (a, .ins C dx fs)) (he : Ev te σ H v) (ha : Ev ta σ H (.ref a)) (hC : Cls K C) (hn : NoAttr K C f) (hl : fs.length < 1000) (k : ∀ H1, Own G H1 (L.set n (a, .ins C dx (putF f v fs))) → tz D σ H1) : tSeq (sFld K ta te f) tz D σ H := s_fld (D := { D with nx := tz D }) o n h he ha hC hn hl k
/-- o.f = [..]: a new list, owned -/
theorem q_fldL {xs : List V} (o : Own G H L) (n : Nat) (h : L[n]? = some (a, .ins C dx fs)) (he : EvL te σ H xs) (ha : Ev ta σ H (.ref a)) (hC : Cls K C) (hn : NoAttr K C f) (hl : fs.length < 1000) (k : ∀ p H1, Own G H1 ((p, .lst xs) :: L.set n (a, .ins C dx (putF f (.ref p) fs))) → tz D σ H1) : tSeq (sFld K ta te f) tz D σ H :=
  he H (Ex.refl _) _ fun p H1 np e1 hp => ha H1 e1 _ fun H2 e2 => ⟨a, C, dx, fs, rfl, (e1.trans e2) _ _ (oi n o h), hC, hn, hl, k p _ (own_set (n := n + 1) ((own_add o e1 np hp).same e2) h)⟩
/-- o.f += e -/
theorem s_faug {x y : Int} (o : Own G H L) (n : Nat) (h : L[n]? = some (a, .ins C dx fs)) (ha : Ev ta σ H (.ref a)) (hC : Cls K C) (hn : NoAttr K C f) (hf : fs.lookup f = some (.int x)) (he : Ev te σ H (.int y)) (hl : fs.length < 1000) (k : ∀ H1, Own G H1 (L.set n (a, .ins C dx (putF f (.int (x + y)) fs))) → D.nx σ H1) : sFldAug K ta te rAdd f D σ H :=
  ha H (Ex.refl _) _ fun H1 e1 => ⟨a, C, dx, fs, _, rfl, e1 _ _ (oi n o h), hC, hn, hf, he H1 e1 _ fun H2 e2 => ⟨x, y, rfl, rfl, dx, fs, (e1.trans e2) _ _ (oi n o h), hl, k _ (own_set (o.same (e1.trans e2)) h)⟩⟩
theorem q_faug {x y : Int} (o : Own G H L) (n : Nat) (h : L[n]? = some (a, .ins C dx fs)) (ha : Ev ta σ H (.ref a)) (hC : Cls K C) (hn : NoAttr K C f) (hf : fs.lookup f = some (.int x)) (he : Ev te σ H (.int y)) (hl : fs.length < 1000) (k : ∀ H1, Own G H1 (L.set n (a, .ins C dx (putF f (.int (x + y)) fs))) → tz D σ H1) : tSeq (sFldAug K ta te rAdd f) tz D σ H := s_faug (D := { D with nx := tz D }) o n h ha hC hn hf he hl k
/-- d[k] += e, d a dict of ours -/
theorem s_daug {p : Addr} {kvs : List (L2.Key × V)} {q : L2.Key} {x y : Int} (o : Own G H L) (n : Nat) (h : L[n]? = some (p, .dK kvs)) (ha : Ev ta σ H (.ref p)) (hi : Ev ti σ H (kV q)) (hv : valV kvs q = some (.int x)) (he : Ev te σ H (.int y)) (hl : kvs.length ≤ 1000) (k : ∀ H1, Own G H1 (L.set n (p, .dK (putK kvs q (.int (x + y))))) → D.nx σ H1) : sDAug ta ti te rAdd D σ H :=
  ha H (Ex.refl _) _ fun H1 e1 => hi H1 e1 _ fun H2 e2 => ⟨p, .int x, rfl, by rw [← hv]; exact DGet.k ((e1.trans e2) _ _ (oi n o h)), he H2 (e1.trans e2) _ fun H3 e3 => ⟨x, y, rfl, rfl, _, DPut.k (((e1.trans e2).trans e3) _ _ (oi n o h)) (by rw [sizeLine_eq]; omega), k _ (own_set (o.same ((e1.trans e2).trans e3)) h)⟩⟩
theorem q_dsub {p : Addr} {kvs : List (L2.Key × V)} {q : L2.Key} {x y : Int} (o : Own G H L) (n : Nat) (h : L[n]? = some (p, .dK kvs)) (ha : Ev ta σ H (.ref p)) (hi : Ev ti σ H (kV q)) (hv : valV kvs q = some (.int x)) (he : Ev te σ H (.int y)) (hl : kvs.length ≤ 1000) (k : ∀ H1, Own G H1 (L.set n (p, .dK (putK kvs q (.int (x - y))))) → tz D σ H1) : tSeq (sDAug ta ti te rSub) tz D σ H :=
  ha H (Ex.refl _) _ fun H1 e1 => hi H1 e1 _ fun H2 e2 => ⟨p, .int x, rfl, by rw [← hv]; exact DGet.k ((e1.trans e2) _ _ (oi n o h)), he H2 (e1.trans e2) _ fun H3 e3 => ⟨x, y, rfl, rfl, _, DPut.k (((e1.trans e2).trans e3) _ _ (oi n o h)) (by rw [sizeLine_eq]; omega), k _ (own_set (o.same ((e1.trans e2).trans e3)) h)⟩⟩
/-- xs[i] += 1, xs a field's list -/
theorem s_cnt {p : Addr} {xs : List V} {i : Nat} {x : Int} (o : Own G H L) (m : Nat) (h : L[m]? = some (p, .lst xs)) (ha : Ev ta σ H (.ref p)) (hi : xs[i]? = some (.int x)) (k : ∀ H1, Own G H1 (L.set m (p, .lst (xs.set i (.int (x + 1))))) → D.nx σ H1) :
    tAugS ta (tC (.int (i : Int))) (tC (.int 1)) (gGetL K) (ipI fun i j => i + j) rSetL D σ H :=
  ha H (Ex.refl _) _ fun H1 e1 => ⟨p, xs, i, _, rfl, rfl, sq_of (e1 _ _ (oi m o h)), atI_nat hi, x, 1, rfl, rfl, p, xs, i, i, rfl, rfl, e1 _ _ (oi m o h), ixN_nat (List.getElem?_eq_some_iff.mp hi).1, k _ (own_set (o.same e1) h)⟩
theorem q_cnt {p : Addr} {xs : List V} {i : Nat} {x : Int} (o : Own G H L) (m : Nat) (h : L[m]? = some (p, .lst xs)) (ha : Ev ta σ H (.ref p)) (hi : xs[i]? = some (.int x)) (k : ∀ H1, Own G H1 (L.set m (p, .lst (xs.set i (.int (x + 1))))) → tz D σ H1) :
    tSeq (tAugS ta (tC (.int (i : Int))) (tC (.int 1)) (gGetL K) (ipI fun i j => i + j) rSetL) tz D σ H := s_cnt (D := { D with nx := tz D }) o m h ha hi k
/-- xs.pop() -/
theorem s_pop {p : Addr} {xs : List V} {x : V} (o : Own G H L) (n : Nat) (h : L[n]? = some (p, .lst (xs ++ [x]))) (ha : Ev ta σ H (.ref p)) (k : ∀ H1, Own G H1 (L.set n (p, .lst xs)) → D.nx σ H1) : tDrop (tBM0 K "list" rPop ta) D σ H :=
  ha H (Ex.refl _) _ fun H1 e1 => ⟨.inl ⟨rfl, _, sq_of (e1 _ _ (oi2 n o h))⟩, p, xs ++ [x], x, rfl, rfl, e1 _ _ (oi2 n o h), by simp, by
    have z := own_set (o' := .lst xs) (o.same e1) h
    rw [List.dropLast_concat]
    exact k _ z⟩
theorem s_fldL {xs : List V} (o : Own G H L) (n : Nat) (h : L[n]? = some (a, .ins C dx fs)) (he : EvL te σ H xs) (ha : Ev ta σ H (.ref a)) (hC : Cls K C) (hn : NoAttr K C f) (hl : fs.length < 1000) (k : ∀ p H1, Own G H1 ((p, .lst xs) :: L.set n (a, .ins C dx (putF f (.ref p) fs))) → D.nx σ H1) : sFld K ta te f D σ H :=
  he H (Ex.refl _) _ fun p H1 np e1 hp => ha H1 e1 _ fun H2 e2 => ⟨a, C, dx, fs, rfl, (e1.trans e2) _ _ (oi n o h), hC, hn, hl, k p _ (own_set (n := n + 1) ((own_add o e1 np hp).same e2) h)⟩
/-- xs.append(e), xs a list of ours -/
theorem s_appO {p : Addr} {xs : List V} (o : Own G H L) (m : Nat) (h : L[m]? = some (p, .lst xs)) (ha : Ev ta σ H (.ref p)) (he : Ev te σ H v) (hz : xs.length < 100000) (k : ∀ H1, Own G H1 (L.set m (p, .lst (xs ++ [v]))) → D.nx σ H1) :
    tDrop (tBM K "list" rAppend ta (tCons te tNil)) D σ H := s_app (oi2 m o h) ha he hz fun H1 e1 => k _ (own_set (o.same e1) h)
theorem q_appO {p : Addr} {xs : List V} (o : Own G H L) (m : Nat) (h : L[m]? = some (p, .lst xs)) (ha : Ev ta σ H (.ref p)) (he : Ev te σ H v) (hz : xs.length < 100000) (k : ∀ H1, Own G H1 (L.set m (p, .lst (xs ++ [v]))) → tz D σ H1) :
    tSeq (tDrop (tBM K "list" rAppend ta (tCons te tNil))) tz D σ H := q_app (oi m o h) ha he hz fun H1 e1 => k _ (own_set (o.same e1) h)
end
end KW
end
section
set_option Elab.async false
set_option linter.all false
set_option autoImplicit false
set_option maxRecDepth 100000
set_option maxHeartbeats 400000
/-! engine.py: Line -/
namespace KW
open PySem PySem.Spec PyProof.Rows L2 He KR Evl
local macro_rules
  | `(tactic| walk_at "na") => `(tactic| with_reducible (first | exact cl_Line (by assumption) | exact cl_Job (by assumption) | exact cl_Engine (by assumption) | exact cl_Plan (by assumption) | exact cl_Run (by assumption) | exact cl_Bench (by assumption) | exact na_Line_name (by assumption) | exact na_Line_rank (by assumption) | exact na_Line_is_up (by assumption) | exact na_Line_guard (by assumption) | exact na_Line_top (by assumption) | exact na_Line_let_by (by assumption) | exact na_Line_shut_till (by assumption) | exact na_Line_since (by assumption) | exact na_Line_fresh (by assumption) | exact na_Line_counts (by assumption) | exact na_Line_longest (by assumption) | exact na_Job_word (by assumption) | exact na_Job_name (by assumption) | exact na_Job_rank (by assumption) | exact na_Job_steps (by assumption) | exact na_Job_masks_then (by assumption) | exact na_Job_at (by assumption) | exact na_Job_left (by assumption) | exact na_Engine_plan (by assumption) | exact na_Engine_ways (by assumption) | exact na_Engine_tops (by assumption) | exact na_Engine_bottom (by assumption) | exact na_Engine_put_off (by assumption) | exact na_Engine_woken (by assumption) | exact na_Engine_begun (by assumption) | exact na_Engine_depth (by assumption) | exact na_Engine_now (by assumption) | exact na_Engine_row (by assumption) | exact na_Engine_depths (by assumption) | exact na_Engine_last_begun (by assumption) | exact na_Plan_row (by assumption) | exact na_Plan_low (by assumption) | exact na_Plan_late (by assumption) | exact na_Run_row (by assumption) | exact na_Run_depths (by assumption) | exact na_Run_table (by assumption) | exact na_Run_longest (by assumption) | exact na_Bench_engine (by assumption) | exact na_Bench_fresh (by assumption) | exact na_Bench_told_so_far (by assumption) | exact na_Bench_rows (by assumption)))
local macro_rules
  | `(tactic| walk_at "oi") => `(tactic| first | assumption | exact oi2 0 (by assumption) rfl | exact oi2 1 (by assumption) rfl | exact oi2 2 (by assumption) rfl | exact oi2 3 (by assumption) rfl | exact oi2 4 (by assumption) rfl | exact oi2 5 (by assumption) rfl | exact oi2 6 (by assumption) rfl | exact oi2 7 (by assumption) rfl | exact oi2 8 (by assumption) rfl)
local macro_rules
  | `(tactic| walk_at "ev") => `(tactic| repeat' (first
    | exact ev_c | exact ev_var rfl | exact ea_nil | exact rv_I0 | exact ru_neg | exact eo_none
    | exact rv_eq rfl | exact rv_ne rfl
    | exact rv_ixT (by assumption) (by rfl) | exact rv_ixL (by assumption) (by rfl)
    | exact sv_q (by assumption) (by assumption) | exact sv_within (by assumption)
    | exact Or.inr (by assumption) | exact Or.inl (by assumption) | (show (_ : String) ∈ _; decide)
    | with_reducible (first | apply ev_isi | apply ev_lenS | apply ev_if' | apply et_test | apply et_B | apply et_not | apply et_and | apply et_or | apply ev_andV | apply ev_orV | apply ev_notV | apply ea_cons | apply eo_some | apply ev_fl | apply ev_op | apply ev_un | apply ev_call)
    | walk_at "na" | walk_at "oi" | (show List.lookup _ _ = _; rfl)
    | assumption
    | (with_reducible intro hh; first | exact absurd (show true = false from hh) (by decide) | exact absurd (show false = true from hh) (by decide) | clear hh)))

section
variable {P : Program} {w : World} {K : PySem.W.Frag} {mg : Str → Option Value} {base : Heap}
theorem sc_Line_waits : FnScope ["self"] ["self"] (defScope s_Line_waits) := ⟨rfl, rfl, rfl, by decide +kernel, rfl, by decide +kernel, by decide +kernel⟩
theorem sc_Line_knock : FnScope ["self", "tick", "most", "wide", "rest", "one"] ["self", "tick"] (defScope s_Line_knock) := ⟨rfl, rfl, rfl, by decide +kernel, rfl, by decide +kernel, by decide +kernel⟩
theorem sc_Line_begin : FnScope ["self", "tick"] ["self", "tick"] (defScope s_Line_begin) := ⟨rfl, rfl, rfl, by decide +kernel, rfl, by decide +kernel, by decide +kernel⟩
theorem sc_Line_answer : FnScope ["self"] ["self"] (defScope s_Line_answer) := ⟨rfl, rfl, rfl, by decide +kernel, rfl, by decide +kernel, by decide +kernel⟩
theorem sc_Line_sums : FnScope ["self"] ["self"] (defScope s_Line_sums) := ⟨rfl, rfl, rfl, by decide +kernel, rfl, by decide +kernel, by decide +kernel⟩
theorem ev_notN {te : TE} {σ : L2.St} {H : Hp} {v : V} (h : Ev te σ H v) : Ev (tNotN te) σ H (.bl (!decide (v = .non))) := fun H1 e Q q => h H1 e _ fun H2 e2 => q H2 e2
theorem opt_non (s : Option Int) : (!decide (optI s = V.non)) = s.isSome := by cases s <;> rfl
/-- a look at a line -/
def spWaits (K : PySem.W.Frag) : Sp := fun vs H Q _ => ∃ l : LineG, vs = [.ref l.a] ∧ H l.a = some (.ins (g_Line K) l.dx l.fs) ∧ ∀ H', Ex H H' → Q (.bl l.m.since.isSome) H'
theorem ok_Line_waits (T : Txt w K mg) : FnOk P w K mg base CX0 1 (f_Line_waits K) (fdAt K (f_Line_waits K)) ["self"] (spWaits K) := by
  refine (df_Line_waits T).ok sc_Line_waits (fun vs H Q E h => ?_) (fun cdv A outer s H vs Q E hr h => ?_)
  · obtain ⟨l, rfl, _⟩ := h
    rfl
  · obtain ⟨l, rfl, hl, q⟩ := h
    refine ⟨_, PSs.nox ((pss_one (ps_ret (pe_cmp (pc_notN (pe_fldK (K := K) rfl (pv 0) rfl)) rfl)))), ?_⟩
    refine s_ret (ev_notN (by walk_at "ev")) fun H1 e1 => ?_
    rw [opt_non]
    exact q H1 e1
def spLine (K : PySem.W.Frag) (args : List V) (f : LineM → LineM) : Sp := fun vs H Q _ => ∃ (G : Hp) (l : LineG) (F : List (Addr × HO)), vs = .ref l.a :: args ∧ Own G H (l.obs K ++ F) ∧ LineK K G l ∧ l.m.let_by.length ≤ 5000 ∧ (l.m.fresh = true → l.m.since.isSome = true) ∧ ∀ H', Own G H' (({ l with m := f l.m } : LineG).obs K ++ F) → Q .non H'
theorem ok_Line_answer (T : Txt w K mg) : FnOk P w K mg base CX0 1 (f_Line_answer K) (fdAt K (f_Line_answer K)) ["self"] (spLine K [] LineM.answer) := by
  refine (df_Line_answer T).ok sc_Line_answer (fun vs H Q E h => ?_) (fun cdv A outer s H vs Q E hr h => ?_)
  · obtain ⟨G, l, F, rfl, _⟩ := h
    rfl
  · obtain ⟨G, l, F, rfl, o, _, _, _, q⟩ := h
    refine ⟨_, PSs.nox ((pss_one (ps_if (pt_val (pe_fldK (K := K) rfl (pv 0) rfl)) (pss_cons (ps_fldK (K := K) rfl (pv 0) pe_non)
      (pss_one (ps_fldK (K := K) rfl (pv 0) pe_bl))) pss_nil))), ?_⟩
    refine s_when (b := l.m.up) (et_B (by walk_at "ev")) (fun hb H1 e1 => ?_) fun hb H1 e1 => ?_
    · have o1 := o.same e1
      refine q_fld o1 0 rfl (v := .non) ev_c (ev_var rfl) (cl_Line T) (na_Line_since T) (by show (11 : Nat) < 1000; decide) fun H2 o2 => ?_
      refine s_fld o2 0 rfl (v := .bl false) ev_c (ev_var rfl) (cl_Line T) (na_Line_fresh T) (by show (11 : Nat) < 1000; decide) fun H3 o3 => ?_
      refine q H3 ?_
      unfold LineM.answer
      rw [if_pos hb]
      exact o3
    · refine q H1 ?_
      unfold LineM.answer
      rw [if_neg (by rw [hb]; decide)]
      exact o.same e1
theorem el_lcI {te tl : TE} {t : TT} {σ : L2.St} {H : Hp} {a : Addr} {ns : List Int} {j : Nat} {vs : List Nat} (p : Int → Bool) (h : Ev tl σ H (.ref a)) (hx : SqL K H a (ns.map V.int)) (hz : ns.length ≤ 40000) (hw : ∀ x, wipe ((wipe σ vs).set j (some x)) vs = wipe σ vs)
    (ht : ∀ n, EvT t ((wipe σ vs).set j (some (.int n))) H (p n)) (he : ∀ n, Ev te ((wipe σ vs).set j (some (.int n))) H (.int n)) : EvL (tLc (iList K tl) (gName j) t te vs) σ H ((ns.filter p).map V.int) := by
  have key : ∀ {i : Nat} {x : V}, (ns.map V.int)[i]? = some x → x = .int (ns.getD i 0) := fun {i x} hi => by
    rw [List.getElem?_map] at hi
    rw [List.getD_eq_getElem?_getD]
    cases hq : ns[i]? with
    | none => rw [hq] at hi; cases hi
    | some n => rw [hq] at hi; cases hi; rfl
  have e := el_lcL (K := K) (σ := σ) (H := H) (te := te) (t := t) (tl := tl) (j := j) (vs := vs) (fun i => p (ns.getD i 0)) (fun i => V.int (ns.getD i 0)) h hx (by simp; omega) hw (fun i x H1 e1 hi => by
    obtain rfl := key hi
    exact (ht _).mono e1) (fun i x H1 e1 hi hp => by
    obtain rfl := key hi
    exact (he _).mono e1)
  rw [List.length_map, given_filter 0 p] at e
  exact e
def spLineT (K : PySem.W.Frag) (f : LineM → Int → LineM) : Sp := fun vs H Q _ => ∃ (t : Int) (G : Hp) (l : LineG) (F : List (Addr × HO)), vs = [.ref l.a, .int t] ∧ Own G H (l.obs K ++ F) ∧ LineK K G l ∧ l.m.let_by.length ≤ 5000 ∧ (l.m.fresh = true → l.m.since.isSome = true) ∧ ∀ H', Own G H' (({ l with m := f l.m t } : LineG).obs K ++ F) → Q .non H'
theorem ok_Line_knock (T : Txt w K mg) : FnOk P w K mg base CX0 2 (f_Line_knock K) (fdAt K (f_Line_knock K)) ["self", "tick"] (spLineT K LineM.knock) := by
  refine (df_Line_knock T).ok sc_Line_knock (fun vs H Q E h => ?_) (fun cdv A outer s H vs Q E hr h => ?_)
  · obtain ⟨t, G, l, F, rfl, _⟩ := h
    rfl
  · obtain ⟨t, G, l, F, rfl, o, ⟨⟨g, eg, hg⟩, _⟩, hl, _, q⟩ := h
    refine ⟨_, PSs.nox ((pss_cons (ps_asg (pe_fldK (K := K) rfl (pv 0) rfl) (pg_tupK rfl (K := K) rfl (pgs_cons (pg_name (i := 2) sc_Line_knock.nd rfl (Or.inl rfl)) (pgs_cons (pg_name (i := 3) sc_Line_knock.nd rfl (Or.inr rfl)) (pgs_cons (pg_name (i := 4) sc_Line_knock.nd rfl (Or.inl rfl)) pgs_nil)))))
      (pss_one (ps_if (pt_cmpR op_lt (pv 1) (pe_fldK (K := K) rfl (pv 0) rfl) (nomark _)) (pss_one (ps_augS (pe_fldK (K := K) rfl (pv 0) rfl) pe_int (get_listK (K := K) rfl) pe_int ip_add set_list)) (pss_one (ps_if (pt_cmpR op_ge (pe_callB (call_lenK (K := K) rfl) (by rfl) (fr_len T) PySem.boot_len (pa_cons (pe_lc (own := [("one", 5)]) (g := gName 5) rfl sc_Line_knock.nd (pi_listK (K := K) rfl (pe_fldK (K := K) rfl (pv 0) rfl)) (blkOk_by (N := ["self", "tick", "most", "wide", "rest", "one"]) (sc := defScope s_Line_knock) (by decide +kernel)) (fun _ _ _ _ _ => pg_name (i := 5) sc_Line_knock.nd rfl (Or.inl rfl)) (fun _ _ _ _ _ => (pts_one (pt_cmpR op_gt (pv 5) (pe_op op_sub (pv 1) (pv 3)) (nomark _)))) (fun _ _ _ _ _ => (pv 5))) pa_nil)) (pv 2) (nomark _)) (pss_cons (ps_fldK (K := K) rfl (pv 0) (pe_op op_add (pv 1) (pv 4)))
      (pss_one (ps_augS (pe_fldK (K := K) rfl (pv 0) rfl) pe_int (get_listK (K := K) rfl) pe_int ip_add set_list))) (pss_cons (ps_expr (pe_bm PySem.F.plainAttrs_list PySem.F.slot_list_append PySem.F.type_list_append mt_append (pe_fldK (K := K) rfl (pv 0) rfl) (pa_cons (pv 1) pa_nil)))
      (pss_one (ps_if (pt_val (pe_meth0 (pv 0) (cl_Line T) (me_Line_waits T) (ok_Line_waits T) (hr.mono (by decide)) (bi_Line_waits T) .nil pass0)) (pss_one (ps_augS (pe_fldK (K := K) rfl (pv 0) rfl) pe_int (get_listK (K := K) rfl) pe_int ip_add set_list)) (pss_cons (ps_augS (pe_fldK (K := K) rfl (pv 0) rfl) pe_int (get_listK (K := K) rfl) pe_int ip_add set_list)
      (pss_cons (ps_fldK (K := K) rfl (pv 0) (pv 1))
      (pss_one (ps_fldK (K := K) rfl (pv 0) pe_bl))))))))))))), ?_⟩
    have hgl : List.lookup (Str.ofString "guard") l.fs = some (V.ref g) := by rw [← eg]; rfl
    refine q_unp (g := g) (xs := [.int l.m.most, .int l.m.wide, .int l.m.rest]) (ev_fl (ev_var rfl) (oi2 0 o rfl) (cl_Line T) (na_Line_guard T) hgl) (sT o.sub hg) rfl fun H1 e1 => ⟨_, _, rfl, _, _, rfl, _, _, rfl, rfl, ?_⟩
    have o1 := o.same e1
    refine s_if (b := decide (t < l.m.shut)) (et_test (by walk_at "ev")) (fun hb H2 e2 => ?_) fun hb H2 e2 => ?_
    · have o2 := o1.same e2
      refine s_cnt o2 2 rfl (i := 2) (by walk_at "ev") rfl fun H3 o3 => q H3 ?_
      show Own G H3 (({ l with m := l.m.knock t } : LineG).obs K ++ F)
      unfold LineM.knock
      rw [if_pos (of_decide_eq_true hb)]
      exact o3
    · have o2 := o1.same e2
      have hb := of_decide_eq_false hb
      refine s_if (b := decide (l.m.most ≤ ((l.m.let_by.filter fun one => decide (t - l.m.wide < one)).length : Int))) (et_test (ev_op (ev_is (ev_lenN (el_lcI (fun one => decide (t - l.m.wide < one)) (by walk_at "ev") (sq_of (oi2 1 o2 rfl)) (by omega) (fun _ => rfl) (fun n => et_test (by walk_at "ev")) fun n => by walk_at "ev")) (by rw [List.length_map])) (by walk_at "ev") rv_I0)) (fun hc H3 e3 => ?_) fun hc H3 e3 => ?_
      · have o3 := o2.same e3
        refine q_fld o3 0 rfl (v := .int (t + l.m.rest)) (by walk_at "ev") (ev_var rfl) (cl_Line T) (na_Line_shut_till T) (by show (11 : Nat) < 1000; decide) fun H4 o4 => ?_
        refine s_cnt o4 2 rfl (i := 2) (by walk_at "ev") rfl fun H5 o5 => q H5 ?_
        show Own G H5 (({ l with m := l.m.knock t } : LineG).obs K ++ F)
        unfold LineM.knock
        rw [if_neg hb, if_pos (of_decide_eq_true hc)]
        exact o5
      · have o3 := o2.same e3
        have hc := of_decide_eq_false hc
        refine q_appO o3 1 rfl (by walk_at "ev") (v := .int t) (ev_var rfl) (by simp; omega) fun H4 o4 => ?_
        have o4 : Own G H4 ((({ l with m := { l.m with let_by := l.m.let_by ++ [t] } } : LineG).obs K) ++ F) := by
          have z : (l.m.let_by ++ [t]).map V.int = l.m.let_by.map V.int ++ [.int t] := by rw [List.map_append]; rfl
          unfold LineG.obs
          rw [z]
          exact o4
        refine s_if (b := l.m.since.isSome) (et_B fun H5 e5 Q q => ⟨.ref l.a, rfl, l.a, l.dx, _, rfl, e5 _ _ (oi2 0 o4 rfl), rfl, { l with m := { l.m with let_by := l.m.let_by ++ [t] } }, rfl, e5 _ _ (oi2 0 o4 rfl), q⟩) (fun hd H5 e5 => ?_) fun hd H5 e5 => ?_
        · have o5 := o4.same e5
          refine s_cnt o5 2 rfl (i := 1) (by walk_at "ev") rfl fun H6 o6 => q H6 ?_
          show Own G H6 (({ l with m := l.m.knock t } : LineG).obs K ++ F)
          unfold LineM.knock
          rw [if_neg hb, if_neg hc, if_pos hd]
          exact o6
        · have o5 := o4.same e5
          refine q_cnt o5 2 rfl (i := 0) (by walk_at "ev") rfl fun H6 o6 => ?_
          refine q_fld o6 0 rfl (v := .int t) (ev_var rfl) (ev_var rfl) (cl_Line T) (na_Line_since T) (by show (11 : Nat) < 1000; decide) fun H7 o7 => ?_
          refine s_fld o7 0 rfl (v := .bl true) ev_c (ev_var rfl) (cl_Line T) (na_Line_fresh T) (by show (11 : Nat) < 1000; decide) fun H8 o8 => q H8 ?_
          show Own G H8 (({ l with m := l.m.knock t } : LineG).obs K ++ F)
          unfold LineM.knock
          rw [if_neg hb, if_neg hc, if_neg (by rw [hd]; decide)]
          exact o8
theorem ok_Line_begin (T : Txt w K mg) : FnOk P w K mg base CX0 1 (f_Line_begin K) (fdAt K (f_Line_begin K)) ["self", "tick"] (spLineT K LineM.begin) := by
  refine (df_Line_begin T).ok sc_Line_begin (fun vs H Q E h => ?_) (fun cdv A outer s H vs Q E hr h => ?_)
  · obtain ⟨t, G, l, F, rfl, _⟩ := h
    rfl
  · obtain ⟨t, G, l, F, rfl, o, _, hl, hfs, q⟩ := h
    refine ⟨_, PSs.nox ((pss_cons (ps_augS (pe_fldK (K := K) rfl (pv 0) rfl) pe_int (get_listK (K := K) rfl) pe_int ip_add set_list)
      (pss_cons (ps_if (pt_val (pe_fldK (K := K) rfl (pv 0) rfl)) (pss_cons (ps_fldK (K := K) rfl (pv 0) (pe_callB (call_max2 rfl) (by rfl) (fr_max T) (by decide +kernel) (pa_cons (pe_fldK (K := K) rfl (pv 0) rfl) (pa_cons (pe_op op_sub (pv 1) (pe_fldK (K := K) rfl (pv 0) rfl)) pa_nil))))
      (pss_one (ps_fldK (K := K) rfl (pv 0) pe_bl))) pss_nil)
      (pss_one (ps_if (pt_not (pt_val (pe_fldK (K := K) rfl (pv 0) rfl))) (pss_one (ps_fldK (K := K) rfl (pv 0) pe_non)) pss_nil))))), ?_⟩
    refine q_cnt o 2 rfl (i := 3) (by walk_at "ev") rfl fun H1 o1 => ?_
    have o1 : Own G H1 ((({ l with m := { l.m with c3 := l.m.c3 + 1 } } : LineG).obs K) ++ F) := o1
    have tail : ∀ {X : LineM} {H2 : Hp}, Own G H2 (({ l with m := X } : LineG).obs K ++ F) → l.m.begin t = (if X.up then X else { X with since := none }) → tIfS (tNot (tB (tFld K (tVar 0) "is_up"))) (sFld K (tVar 0) (tC V.non) "since") tNext { nx := fun x H' => Q V.non H', rt := Q } (L2.start ["self", "tick"] [V.ref l.a, V.int t]) H2 := fun {X H2} o2 eb => by
      refine s_if (b := !X.up) (et_not (et_B (by walk_at "ev"))) (fun hb H3 e3 => ?_) fun hb H3 e3 => ?_
      · refine s_fld (o2.same e3) 0 rfl (v := .non) ev_c (ev_var rfl) (cl_Line T) (na_Line_since T) (by show (11 : Nat) < 1000; decide) fun H4 o4 => q H4 ?_
        have hu : X.up = false := by cases h : X.up <;> simp_all
        rw [eb, if_neg (by rw [hu]; decide)]
        exact o4
      · refine q H3 ?_
        have hu : X.up = true := by cases h : X.up <;> simp_all
        rw [eb, if_pos hu]
        exact o2.same e3
    refine q_when (b := l.m.fresh) (et_B (by walk_at "ev")) (fun hb H2 e2 => ?_) fun hb H2 e2 => ?_
    · have o2 := o1.same e2
      obtain ⟨si, hsi⟩ : ∃ i, l.m.since = some i := Option.isSome_iff_exists.mp (hfs hb)
      have hlk : List.lookup (Str.ofString "since") (({ l with m := { l.m with c3 := l.m.c3 + 1 } } : LineG).fs) = some (V.int si) := by
        show some (optI l.m.since) = _
        rw [hsi]
        rfl
      have hm : Ev (tCB rMax2 (tCons (tFld K (tVar 0) (Str.ofString "longest")) (tCons (tOp (rI0 fun i j => V.int (i - j)) (tVar 1) (tFld K (tVar 0) (Str.ofString "since"))) tNil))) (L2.start ["self", "tick"] [V.ref l.a, V.int t]) H2 (.int (if t - si > l.m.longest then t - si else l.m.longest)) := by
        refine ev_max2 ?_ (ev_op (ev_var rfl) (ev_fl (ev_var rfl) (oi2 0 o2 rfl) (cl_Line T) (na_Line_since T) hlk) rv_I0)
        walk_at "ev"
      refine q_fld o2 0 rfl hm (ev_var rfl) (cl_Line T) (na_Line_longest T) (by show (11 : Nat) < 1000; decide) fun H3 o3 => ?_
      refine s_fld o3 0 rfl (v := .bl false) ev_c (ev_var rfl) (cl_Line T) (na_Line_fresh T) (by show (11 : Nat) < 1000; decide) fun H4 o4 => ?_
      refine tail (X := { l.m with c3 := l.m.c3 + 1, longest := (if t - si > l.m.longest then t - si else l.m.longest), fresh := false }) o4 ?_
      unfold LineM.begin
      simp [hb, hsi]
    · refine tail (X := { l.m with c3 := l.m.c3 + 1 }) (o1.same e2) ?_
      unfold LineM.begin
      simp [hb]
end
end KW
end
section
set_option Elab.async false
set_option linter.all false
set_option autoImplicit false
set_option maxRecDepth 100000
set_option maxHeartbeats 400000
/-! engine.py: Line, Job made; sums, whose, rank_of -/
namespace KW
open PySem PySem.Spec PyProof.Rows L2 He KR Evl
local macro_rules
  | `(tactic| walk_at "na") => `(tactic| with_reducible (first | exact cl_Line (by assumption) | exact cl_Job (by assumption) | exact cl_Engine (by assumption) | exact cl_Plan (by assumption) | exact cl_Run (by assumption) | exact cl_Bench (by assumption) | exact na_Line_name (by assumption) | exact na_Line_rank (by assumption) | exact na_Line_is_up (by assumption) | exact na_Line_guard (by assumption) | exact na_Line_top (by assumption) | exact na_Line_let_by (by assumption) | exact na_Line_shut_till (by assumption) | exact na_Line_since (by assumption) | exact na_Line_fresh (by assumption) | exact na_Line_counts (by assumption) | exact na_Line_longest (by assumption) | exact na_Job_word (by assumption) | exact na_Job_name (by assumption) | exact na_Job_rank (by assumption) | exact na_Job_steps (by assumption) | exact na_Job_masks_then (by assumption) | exact na_Job_at (by assumption) | exact na_Job_left (by assumption) | exact na_Engine_plan (by assumption) | exact na_Engine_ways (by assumption) | exact na_Engine_tops (by assumption) | exact na_Engine_bottom (by assumption) | exact na_Engine_put_off (by assumption) | exact na_Engine_woken (by assumption) | exact na_Engine_begun (by assumption) | exact na_Engine_depth (by assumption) | exact na_Engine_now (by assumption) | exact na_Engine_row (by assumption) | exact na_Engine_depths (by assumption) | exact na_Engine_last_begun (by assumption) | exact na_Plan_row (by assumption) | exact na_Plan_low (by assumption) | exact na_Plan_late (by assumption) | exact na_Run_row (by assumption) | exact na_Run_depths (by assumption) | exact na_Run_table (by assumption) | exact na_Run_longest (by assumption) | exact na_Bench_engine (by assumption) | exact na_Bench_fresh (by assumption) | exact na_Bench_told_so_far (by assumption) | exact na_Bench_rows (by assumption)))
local macro_rules
  | `(tactic| walk_at "oi") => `(tactic| first | assumption | exact oi2 0 (by assumption) rfl | exact oi2 1 (by assumption) rfl | exact oi2 2 (by assumption) rfl | exact oi2 3 (by assumption) rfl | exact oi2 4 (by assumption) rfl | exact oi2 5 (by assumption) rfl | exact oi2 6 (by assumption) rfl | exact oi2 7 (by assumption) rfl | exact oi2 8 (by assumption) rfl)
local macro_rules
  | `(tactic| walk_at "ev") => `(tactic| repeat' (first
    | exact ev_c | exact ev_var rfl | exact ea_nil | exact rv_I0 | exact ru_neg | exact eo_none
    | exact rv_eq rfl | exact rv_ne rfl
    | exact rv_ixT (by assumption) (by rfl) | exact rv_ixL (by assumption) (by rfl)
    | exact sv_q (by assumption) (by assumption) | exact sv_within (by assumption)
    | exact Or.inr (by assumption) | exact Or.inl (by assumption) | (show (_ : String) ∈ _; decide)
    | with_reducible (first | apply ev_isi | apply ev_lenS | apply ev_if' | apply et_test | apply et_B | apply et_not | apply et_and | apply et_or | apply ev_andV | apply ev_orV | apply ev_notV | apply ea_cons | apply eo_some | apply ev_fl | apply ev_op | apply ev_un | apply ev_call)
    | walk_at "na" | walk_at "oi" | (show List.lookup _ _ = _; rfl)
    | assumption
    | (with_reducible intro hh; first | exact absurd (show true = false from hh) (by decide) | exact absurd (show false = true from hh) (by decide) | clear hh)))

section
variable {P : Program} {w : World} {K : PySem.W.Frag} {mg : Str → Option Value} {base : Heap}
theorem sc_rank_of : FnScope ["thing"] ["thing"] (defScope s_rank_of) := ⟨rfl, rfl, rfl, by decide +kernel, rfl, by decide +kernel, by decide +kernel⟩
theorem sc_Job_init : FnScope ["self", "word", "name", "rank", "steps", "masks"] ["self", "word", "name", "rank", "steps", "masks"] (defScope s_Job_init) := ⟨rfl, rfl, rfl, by decide +kernel, rfl, by decide +kernel, by decide +kernel⟩
theorem sc_Job_whose : FnScope ["self"] ["self"] (defScope s_Job_whose) := ⟨rfl, rfl, rfl, by decide +kernel, rfl, by decide +kernel, by decide +kernel⟩
theorem sc_Line_init : FnScope ["self", "told", "name", "rank", "up", "guard", "top"] ["self", "told"] (defScope s_Line_init) := ⟨rfl, rfl, rfl, by decide +kernel, rfl, by decide +kernel, by decide +kernel⟩
def spRank (K : PySem.W.Frag) : Sp := fun vs H Q _ => ∃ a C dx fs r, vs = [.ref a] ∧ H a = some (.ins C dx fs) ∧ (C = g_Line K ∨ C = g_Job K) ∧ fs.lookup (Str.ofString "rank") = some (.int r) ∧ Q (.int r) H
theorem ok_rank_of (T : Txt w K mg) : FnOk P w K mg base CX0 1 (f_rank_of K) (fdAt K (f_rank_of K)) ["thing"] (spRank K) := by
  refine (df_rank_of T).ok sc_rank_of (fun vs H Q E h => ?_) (fun cdv A outer s H vs Q E hr h => ?_)
  · obtain ⟨a, C, dx, fs, r, rfl, _⟩ := h
    rfl
  · obtain ⟨a, C, dx, fs, r, rfl, ha, hC, hl, q⟩ := h
    refine ⟨_, PSs.nox ((pss_one (ps_ret (pe_fldK (K := K) rfl (pv 0) rfl)))), ?_⟩
    rcases hC with rfl | rfl
    · exact ⟨_, rfl, a, _, dx, fs, _, rfl, ha, cl_Line T, na_Line_rank T, hl, q⟩
    · exact ⟨_, rfl, a, _, dx, fs, _, rfl, ha, cl_Job T, na_Job_rank T, hl, q⟩
def spSums (K : PySem.W.Frag) : Sp := fun vs H Q _ => ∃ (G : Hp) (l : LineG) (F : List (Addr × HO)), vs = [.ref l.a] ∧ Own G H (l.obs K ++ F) ∧ ∀ p H', H p = none → Ex H H' → H' p = some (.tup [.int l.m.c0, .int l.m.c1, .int l.m.c2, .int l.m.c3, .int (if l.m.since.isSome = true then 1 else 0)]) → Q (.ref p) H'
theorem ok_Line_sums (T : Txt w K mg) : FnOk P w K mg base CX0 2 (f_Line_sums K) (fdAt K (f_Line_sums K)) ["self"] (spSums K) := by
  refine (df_Line_sums T).ok sc_Line_sums (fun vs H Q E h => ?_) (fun cdv A outer s H vs Q E hr h => ?_)
  · obtain ⟨G, l, F, rfl, _⟩ := h
    rfl
  · obtain ⟨G, l, F, rfl, o, q⟩ := h
    refine ⟨_, PSs.nox ((pss_one (ps_ret ((pe_op (op_catTK (K := K) rfl) (pe_callTy (call_tupleK (K := K) rfl) (by rfl) (fr_tuple T) (by decide +kernel) (pa_cons (pe_fldK (K := K) rfl (pv 0) rfl) pa_nil)) (pe_tup (pa_cons (pe_callTy call_int1 (by rfl) (fr_int T) (by decide +kernel) (pa_cons (pe_meth0 (pv 0) (cl_Line T) (me_Line_waits T) (ok_Line_waits T) (hr.mono (by decide)) (bi_Line_waits T) .nil pass0) pa_nil)) pa_nil))))))), ?_⟩
    have hct : Ev (tFld K (tVar 0) (Str.ofString "counts")) (L2.start ["self"] [V.ref l.a]) H (.ref l.ct) := by walk_at "ev"
    refine hct H (Ex.refl _) _ fun H1 e1 => ⟨l.ct, _, rfl, .inl ⟨sq_of (e1 _ _ (oi2 2 o rfl)), fun p1 n1 => ?_⟩⟩
    have e2 := Ex.new (o := HO.tup [V.int l.m.c0, .int l.m.c1, .int l.m.c2, .int l.m.c3]) n1
    have e12 := e1.trans e2
    refine ⟨.ref l.a, rfl, l.a, l.dx, _, rfl, e12 _ _ (oi2 0 o rfl), rfl, l, rfl, e12 _ _ (oi2 0 o rfl), fun H3 e3 => .inr ⟨_, rfl, ?_⟩⟩
    refine ⟨by show 1 ≤ sizeLine; rw [sizeLine_eq]; decide, fun p2 n2 => ?_⟩
    have e4 := Ex.new (o := HO.tup [V.int (if l.m.since.isSome = true then 1 else 0)]) n2
    refine ⟨p1, p2, _, _, rfl, rfl, st_of (e4 _ _ (e3 _ _ upd_same)), st_of upd_same, by simp, by rw [sizeLine_eq]; simp, ⟨fun z => (nomatch z), fun _ p3 n3 => ?_⟩⟩
    refine q p3 _ ?_ (e12.trans (e3.trans (e4.trans (Ex.new n3)))) upd_same
    exact fresh_back (e12.trans (e3.trans e4)) n3
def spWhose (K : PySem.W.Frag) : Sp := fun vs H Q _ => ∃ j : JobG, vs = [.ref j.a] ∧ H j.a = some (.ins (g_Job K) j.dx j.fs) ∧ ∀ p H', H p = none → Ex H H' → H' p = some (.tup [.str j.m.word, .str j.m.name]) → Q (.ref p) H'
theorem ok_Job_whose (T : Txt w K mg) : FnOk P w K mg base CX0 1 (f_Job_whose K) (fdAt K (f_Job_whose K)) ["self"] (spWhose K) := by
  refine (df_Job_whose T).ok sc_Job_whose (fun vs H Q E h => ?_) (fun cdv A outer s H vs Q E hr h => ?_)
  · obtain ⟨l, rfl, _⟩ := h
    rfl
  · obtain ⟨l, rfl, hl, q⟩ := h
    refine ⟨_, PSs.nox ((pss_one (ps_ret (pe_tup (pa_cons (pe_fldK (K := K) rfl (pv 0) rfl) (pa_cons (pe_fldK (K := K) rfl (pv 0) rfl) pa_nil)))))), ?_⟩
    exact s_retU (eu_tup (vs := [.str l.m.word, .str l.m.name]) (by walk_at "ev") (by show (2 : Nat) ≤ 100000; decide)) fun p H1 np e1 hp => q p H1 np e1 hp
def spJob (K : PySem.W.Frag) : Sp := fun vs H Q _ => ∃ (G : Hp) (F : List (Addr × HO)) (a dx : Addr) (word name : Str) (rank masks : Int) (steps : V) (ss : List PyData), vs = [.ref a, .str word, .str name, .int rank, steps, .int masks] ∧ Own G H ((a, .ins (g_Job K) dx []) :: F) ∧
  ∀ H', Own G H' ((({ a := a, dx := dx, steps := steps, m := { word := word, name := name, rank := rank, ss := ss, masks := masks, pos := 0, left := 0 } } : JobG).ob K) :: F) → Q .non H'
theorem ok_Job_init (T : Txt w K mg) : FnOk P w K mg base CX0 1 (f_Job_init K) (fdAt K (f_Job_init K)) ["self", "word", "name", "rank", "steps", "masks"] (spJob K) := by
  refine (df_Job_init T).ok sc_Job_init (fun vs H Q E h => ?_) (fun cdv A outer s H vs Q E hr h => ?_)
  · obtain ⟨G, F, a, dx, word, name, rank, masks, steps, ss, rfl, _⟩ := h
    rfl
  · obtain ⟨G, F, a, dx, word, name, rank, masks, steps, ss, rfl, o, q⟩ := h
    refine ⟨_, PSs.nox ((pss_cons (ps_fldK (K := K) rfl (pv 0) (pv 1))
      (pss_cons (ps_fldK (K := K) rfl (pv 0) (pv 2))
      (pss_cons (ps_fldK (K := K) rfl (pv 0) (pv 3))
      (pss_cons (ps_fldK (K := K) rfl (pv 0) (pv 4))
      (pss_cons (ps_fldK (K := K) rfl (pv 0) (pv 5))
      (pss_one (ps_asg2 pe_int (pg_fldK (K := K) rfl (pv 0)) (pg_fldK (K := K) rfl (pv 0)))))))))), ?_⟩
    refine q_fld o 0 rfl (ev_var rfl) (ev_var rfl) (cl_Job T) (na_Job_word T) (by show (0 : Nat) < 1000; decide) fun H1 o1 => ?_
    refine q_fld o1 0 rfl (ev_var rfl) (ev_var rfl) (cl_Job T) (na_Job_name T) (by show (1 : Nat) < 1000; decide) fun H2 o2 => ?_
    refine q_fld o2 0 rfl (ev_var rfl) (ev_var rfl) (cl_Job T) (na_Job_rank T) (by show (2 : Nat) < 1000; decide) fun H3 o3 => ?_
    refine q_fld o3 0 rfl (ev_var rfl) (ev_var rfl) (cl_Job T) (na_Job_steps T) (by show (3 : Nat) < 1000; decide) fun H4 o4 => ?_
    refine q_fld o4 0 rfl (ev_var rfl) (ev_var rfl) (cl_Job T) (na_Job_masks_then T) (by show (4 : Nat) < 1000; decide) fun H5 o5 => ?_
    refine ⟨.ref a, rfl, a, _, dx, _, rfl, oi2 0 o5 rfl, cl_Job T, na_Job_at T, by show (5 : Nat) < 1000; decide, ?_⟩
    have o6 := own_set (o' := .ins (g_Job K) dx (putF (Str.ofString "at") (.int 0) [("word", .str word), ("name", .str name), ("rank", .int rank), ("steps", steps), ("masks_then", .int masks)])) o5 (n := 0) rfl
    refine ⟨.ref a, rfl, a, _, dx, _, rfl, oi2 0 o6 rfl, cl_Job T, na_Job_left T, by show (6 : Nat) < 1000; decide, ?_⟩
    exact q _ (own_set o6 (n := 0) rfl)
theorem perm3 {α : Type} (c b a : α) (F : List α) : (c :: b :: a :: F).Perm (a :: b :: c :: F) := ((List.Perm.swap a b F).cons c).trans ((List.Perm.swap a c (b :: F)).trans ((List.Perm.swap b c F).cons a))
def spLineNew (K : PySem.W.Frag) : Sp := fun vs H Q _ => ∃ (G : Hp) (F : List (Addr × HO)) (l : LineG) (t : Addr), vs = [.ref l.a, .ref t] ∧ Own G H ((l.a, .ins (g_Line K) l.dx []) :: F) ∧ SqT K H t [.str l.m.name, .int l.m.rank, .bl l.m.up, l.guard, l.top] ∧
  (l.m.let_by = [] ∧ l.m.shut = 0 ∧ l.m.since = none ∧ l.m.fresh = false ∧ (l.m.c0 = 0 ∧ l.m.c1 = 0 ∧ l.m.c2 = 0 ∧ l.m.c3 = 0) ∧ l.m.longest = 0) ∧
  ∀ lb ct H', Own G H' (({ l with lb := lb, ct := ct } : LineG).obs K ++ F) → Q .non H'
theorem ok_Line_init (T : Txt w K mg) : FnOk P w K mg base CX0 1 (f_Line_init K) (fdAt K (f_Line_init K)) ["self", "told"] (spLineNew K) := by
  refine (df_Line_init T).ok sc_Line_init (fun vs H Q E h => ?_) (fun cdv A outer s H vs Q E hr h => ?_)
  · obtain ⟨G, F, l, t, rfl, _⟩ := h
    rfl
  · obtain ⟨G, F, l, t, rfl, o, ht, ⟨z1, z2, z3, z4, ⟨z5, z6, z7, z8⟩, z9⟩, q⟩ := h
    refine ⟨_, PSs.nox ((pss_cons (ps_asg (pv 1) (pg_tupK rfl (K := K) rfl (pgs_cons (pg_name (i := 2) sc_Line_init.nd rfl (Or.inl rfl)) (pgs_cons (pg_name (i := 3) sc_Line_init.nd rfl (Or.inl rfl)) (pgs_cons (pg_name (i := 4) sc_Line_init.nd rfl (Or.inl rfl)) (pgs_cons (pg_name (i := 5) sc_Line_init.nd rfl (Or.inl rfl)) (pgs_cons (pg_name (i := 6) sc_Line_init.nd rfl (Or.inl rfl)) pgs_nil)))))))
      (pss_cons (ps_fldK (K := K) rfl (pv 0) (pv 2))
      (pss_cons (ps_fldK (K := K) rfl (pv 0) (pv 3))
      (pss_cons (ps_fldK (K := K) rfl (pv 0) (pv 4))
      (pss_cons (ps_fldK (K := K) rfl (pv 0) (pv 5))
      (pss_cons (ps_fldK (K := K) rfl (pv 0) (pv 6))
      (pss_cons (ps_fldK (K := K) rfl (pv 0) (pe_lst pa_nil))
      (pss_cons (ps_fldK (K := K) rfl (pv 0) pe_int)
      (pss_cons (ps_fldK (K := K) rfl (pv 0) pe_non)
      (pss_cons (ps_fldK (K := K) rfl (pv 0) pe_bl)
      (pss_cons (ps_fldK (K := K) rfl (pv 0) (pe_lst (pa_cons pe_int (pa_cons pe_int (pa_cons pe_int (pa_cons pe_int pa_nil))))))
      (pss_one (ps_fldK (K := K) rfl (pv 0) pe_int)))))))))))))), ?_⟩
    refine q_unp (ev_var rfl) ht rfl fun H0 e0 => ⟨_, _, rfl, _, _, rfl, _, _, rfl, _, _, rfl, _, _, rfl, rfl, ?_⟩
    have o := o.same e0
    refine q_fld o 0 rfl (ev_var rfl) (ev_var rfl) (cl_Line T) (na_Line_name T) (by show (0 : Nat) < 1000; decide) fun H1 o1 => ?_
    refine q_fld o1 0 rfl (ev_var rfl) (ev_var rfl) (cl_Line T) (na_Line_rank T) (by show (1 : Nat) < 1000; decide) fun H2 o2 => ?_
    refine q_fld o2 0 rfl (ev_var rfl) (ev_var rfl) (cl_Line T) (na_Line_is_up T) (by show (2 : Nat) < 1000; decide) fun H3 o3 => ?_
    refine q_fld o3 0 rfl (ev_var rfl) (ev_var rfl) (cl_Line T) (na_Line_guard T) (by show (3 : Nat) < 1000; decide) fun H4 o4 => ?_
    refine q_fld o4 0 rfl (ev_var rfl) (ev_var rfl) (cl_Line T) (na_Line_top T) (by show (4 : Nat) < 1000; decide) fun H5 o5 => ?_
    refine q_fldL (xs := []) o5 0 rfl (el_lst ea_nil (by decide)) (ev_var rfl) (cl_Line T) (na_Line_let_by T) (by show (5 : Nat) < 1000; decide) fun lb H6 o6 => ?_
    refine q_fld o6 1 rfl ev_c (ev_var rfl) (cl_Line T) (na_Line_shut_till T) (by show (6 : Nat) < 1000; decide) fun H7 o7 => ?_
    refine q_fld o7 1 rfl ev_c (ev_var rfl) (cl_Line T) (na_Line_since T) (by show (7 : Nat) < 1000; decide) fun H8 o8 => ?_
    refine q_fld o8 1 rfl ev_c (ev_var rfl) (cl_Line T) (na_Line_fresh T) (by show (8 : Nat) < 1000; decide) fun H9 o9 => ?_
    refine q_fldL (xs := [.int 0, .int 0, .int 0, .int 0]) o9 1 rfl (el_lst (ea_cons ev_c (ea_cons ev_c (ea_cons ev_c (ea_cons ev_c ea_nil)))) (by show (4 : Nat) ≤ 100000; decide)) (ev_var rfl) (cl_Line T) (na_Line_counts T) (by show (9 : Nat) < 1000; decide) fun ct HA oA => ?_
    refine s_fld oA 2 rfl ev_c (ev_var rfl) (cl_Line T) (na_Line_longest T) (by show (10 : Nat) < 1000; decide) fun HB oB => ?_
    refine q lb ct HB ?_
    unfold LineG.obs LineG.fs
    dsimp only
    rw [z1, z2, z3, z4, z5, z6, z7, z8, z9]
    exact oB.perm (perm3 _ _ _ _)
end
end KW
end
section
set_option Elab.async false
set_option linter.all false
set_option autoImplicit false
set_option maxRecDepth 100000
set_option maxHeartbeats 1000000
/-! the engine's object with all its objects; walks over lists of objects -/
namespace KW
open PySem PySem.Spec PyProof.Rows L2 He KR Evl
structure EngG where
  a : Addr
  dx : Addr
  plan : Addr
  aW : Addr
  aT : Addr
  aP : Addr
  aK : Addr
  aB : Addr
  aR : Addr
  aD : Addr
  aL : Addr
  R : List PyData
  B : List PyData
  T : List PyData
  ways : List LineG
  tops : List JobG
  bottom : Option JobG
  put : List Str
  woken : List (Str × Int)
  begun : List JobG
  depth : Int
  now : Int
  row : List V
  rowD : List (Option (Str × Str))
  depths : List Int
  last : List Str
def EngG.m (e : EngG) : EngM := { R := e.R, B := e.B, T := e.T, ways := e.ways.map (·.m), tops := e.tops.map (·.m), bottom := e.bottom.map (·.m), put := e.put, woken := e.woken, begun := e.begun.map (·.m), depth := e.depth, now := e.now, row := e.rowD, depths := e.depths, last := e.last }
def optJ : Option JobG → V
  | none => .non
  | some j => .ref j.a
def refL (l : LineG) : V := .ref l.a
def refJ (j : JobG) : V := .ref j.a
def EngG.fs (e : EngG) : List (Str × V) := [("plan", .ref e.plan), ("ways", .ref e.aW), ("tops", .ref e.aT), ("bottom", optJ e.bottom), ("put_off", .ref e.aP), ("woken", .ref e.aK), ("begun", .ref e.aB), ("depth", .int e.depth), ("now", .int e.now), ("row", .ref e.aR), ("depths", .ref e.aD), ("last_begun", .ref e.aL)]
def EngG.head (K : PySem.W.Frag) (e : EngG) : List (Addr × HO) := [(e.a, .ins (g_Engine K) e.dx e.fs), (e.aW, .lst (e.ways.map refL)), (e.aT, .lst (e.tops.map refJ)), (e.aP, .lst (e.put.map V.str)), (e.aK, .dK (e.woken.map fun p => (Sum.inr p.1, V.int p.2))), (e.aB, .lst (e.begun.map refJ)), (e.aR, .lst e.row), (e.aD, .lst (e.depths.map V.int)), (e.aL, .lst (e.last.map V.str))]
def EngG.obs (K : PySem.W.Frag) (e : EngG) : List (Addr × HO) := e.head K ++ (e.ways.flatMap (LineG.obs K) ++ (e.tops.map (JobG.ob K) ++ (e.bottom.toList.map (JobG.ob K) ++ e.begun.map (JobG.ob K))))
def tlO (K : PySem.W.Frag) (w : List LineG) (t : List JobG) (b : Option JobG) (g : List JobG) : List (Addr × HO) := w.flatMap (LineG.obs K) ++ (t.map (JobG.ob K) ++ (b.toList.map (JobG.ob K) ++ g.map (JobG.ob K)))
def EngG.h5 (K : PySem.W.Frag) (e : EngG) : List (Addr × HO) := [(e.a, .ins (g_Engine K) e.dx e.fs), (e.aW, .lst (e.ways.map refL)), (e.aT, .lst (e.tops.map refJ)), (e.aP, .lst (e.put.map V.str)), (e.aK, .dK (e.woken.map fun p => (Sum.inr p.1, V.int p.2)))]
def EngG.h3 (e : EngG) : List (Addr × HO) := [(e.aR, .lst e.row), (e.aD, .lst (e.depths.map V.int)), (e.aL, .lst (e.last.map V.str))]
theorem tl_sub {K : PySem.W.Frag} {w : List LineG} {t t' g g' : List JobG} {b b' : Option JobG} (h1 : t'.Sublist t) (h2 : b'.toList.Sublist b.toList) (h3 : g'.Sublist g) : (tlO K w t' b' g').Sublist (tlO K w t b g) :=
  (List.Sublist.refl _).append ((h1.map _).append ((h2.map _).append (h3.map _)))
inductive RowK (K : PySem.W.Frag) (G : Hp) : List V → List (Option (Str × Str)) → Prop
  | nil : RowK K G [] []
  | non {vs : List V} {ds : List (Option (Str × Str))} : RowK K G vs ds → RowK K G (.non :: vs) (none :: ds)
  | job {p : Addr} {x y : Str} {vs : List V} {ds : List (Option (Str × Str))} : SqT K G p [.str x, .str y] → RowK K G vs ds → RowK K G (.ref p :: vs) (some (x, y) :: ds)
structure EngK (K : PySem.W.Frag) (G : Hp) (e : EngG) : Prop where
  plan : PlanAt K G e.plan e.R e.B e.T
  ways : ∀ l ∈ e.ways, LineK K G l
  tops : ∀ j ∈ e.tops, StepsK K G j.steps j.m.ss
  bottom : ∀ j, e.bottom = some j → StepsK K G j.steps j.m.ss
  begun : ∀ j ∈ e.begun, StepsK K G j.steps j.m.ss
  row : RowK K G e.row e.rowD
section
variable {K : PySem.W.Frag} {G G' H H' : Hp} {F L : List (Addr × HO)} {σ : L2.St} {ta te tl : TE} {t : TT}
theorem RowK.mono {vs : List V} {ds : List (Option (Str × Str))} (e : Same G G') (h : RowK K G vs ds) : RowK K G' vs ds := by
  induction h with
  | nil => exact .nil
  | non _ ih => exact .non ih
  | job a _ ih => exact .job (sT e a) ih
theorem plan_mono {p : Addr} {R B T : List PyData} (e : Same G G') (h : PlanAt K G p R B T) : PlanAt K G' p R B T := by
  obtain ⟨dx, r1, r2, r3, x1, x2, x3, h0, ⟨h1, d1⟩, ⟨h2, d2⟩, h3, d3⟩ := h
  exact ⟨dx, r1, r2, r3, x1, x2, x3, e _ _ h0, ⟨e _ _ h1, daM e d1⟩, ⟨e _ _ h2, daM e d2⟩, e _ _ h3, daM e d3⟩
theorem EngK.mono {g : EngG} (e : Same G G') (h : EngK K G g) : EngK K G' g := ⟨plan_mono e h.plan, fun l hl => (h.ways l hl).mono e, fun j hj => (h.tops j hj).mono e, fun j hj => (h.bottom j hj).mono e, fun j hj => (h.begun j hj).mono e, h.row.mono e⟩
/-- all that an engine's objects say -/
theorem eng_way {e : EngG} {l : LineG} (o : Own G H (e.obs K ++ F)) (hl : l ∈ e.ways) : H l.a = some (.ins (g_Line K) l.dx l.fs) :=
  o.at_ (l.a, _) (List.mem_append_left _ (List.mem_append_right _ (List.mem_append_left _ (List.mem_flatMap.mpr ⟨l, hl, List.mem_cons_self ..⟩))))
theorem eng_top {e : EngG} {j : JobG} (o : Own G H (e.obs K ++ F)) (hj : j ∈ e.tops) : H j.a = some (.ins (g_Job K) j.dx j.fs) :=
  o.at_ (j.a, _) (List.mem_append_left _ (List.mem_append_right _ (List.mem_append_right _ (List.mem_append_left _ (List.mem_map.mpr ⟨j, hj, rfl⟩)))))
theorem eng_bot {e : EngG} {j : JobG} (o : Own G H (e.obs K ++ F)) (hj : e.bottom = some j) : H j.a = some (.ins (g_Job K) j.dx j.fs) :=
  o.at_ (j.a, _) (List.mem_append_left _ (List.mem_append_right _ (List.mem_append_right _ (List.mem_append_right _ (List.mem_append_left _ (List.mem_map.mpr ⟨j, by rw [hj]; simp, rfl⟩))))))
theorem eng_thr {e : EngG} {j : JobG} (o : Own G H (e.obs K ++ F)) (hj : j ∈ e.begun) : H j.a = some (.ins (g_Job K) j.dx j.fs) :=
  o.at_ (j.a, _) (List.mem_append_left _ (List.mem_append_right _ (List.mem_append_right _ (List.mem_append_right _ (List.mem_append_right _ (List.mem_map.mpr ⟨j, hj, rfl⟩))))))
theorem range_some {α : Type} (as : List α) : (List.range as.length).map (fun i => as[i]?) = as.map some := by
  apply List.ext_getElem?
  intro i
  by_cases hi : i < as.length
  · rw [List.getElem?_map, List.getElem?_range hi, List.getElem?_map]
    show some (as[i]?) = (as[i]?).map some
    rw [List.getElem?_eq_getElem hi]
    rfl
  · rw [List.getElem?_eq_none (by simp; omega), List.getElem?_eq_none (by simp; omega)]
theorem given_some {α : Type} (as : List α) (p : α → Bool) (g : α → V) : given as.length (fun i => ((as[i]?).map p).getD false) (fun i => ((as[i]?).map g).getD .non) = (as.filter p).map g := by
  have e : given as.length (fun i => ((as[i]?).map p).getD false) (fun i => ((as[i]?).map g).getD .non) = ((((List.range as.length).map fun i => as[i]?).filter fun o => (o.map p).getD false).map fun o => (o.map g).getD V.non) := by
    unfold given
    rw [List.filter_map, List.map_map]
    rfl
  rw [e, range_some, List.filter_map, List.map_map]
  rfl
/-- a comprehension over a list of objects (or of anything) -/
theorem el_lcO {α : Type} (as : List α) (rf : α → V) (p : α → Bool) (g : α → V) {a : Addr} {j : Nat} {vs : List Nat} (h : Ev tl σ H (.ref a)) (hx : SqL K H a (as.map rf)) (hz : as.length ≤ 40000) (hw : ∀ x, wipe ((wipe σ vs).set j (some x)) vs = wipe σ vs)
    (ht : ∀ x ∈ as, EvT t ((wipe σ vs).set j (some (rf x))) H (p x)) (he : ∀ x ∈ as, p x = true → Ev te ((wipe σ vs).set j (some (rf x))) H (g x)) : EvL (tLc (iList K tl) (gName j) t te vs) σ H ((as.filter p).map g) := by
  have key : ∀ {i : Nat} {y : V}, (as.map rf)[i]? = some y → ∃ x, as[i]? = some x ∧ x ∈ as ∧ y = rf x := fun {i y} hi => by
    rw [List.getElem?_map] at hi
    cases hq : as[i]? with
    | none => rw [hq] at hi; cases hi
    | some x => rw [hq] at hi; cases hi; exact ⟨x, rfl, List.mem_of_getElem? hq, rfl⟩
  have e := el_lcL (K := K) (σ := σ) (H := H) (te := te) (t := t) (tl := tl) (j := j) (vs := vs) (fun i => ((as[i]?).map p).getD false) (fun i => ((as[i]?).map g).getD .non) h hx (by simpa using hz) hw (fun i y H1 e1 hi => by
    obtain ⟨x, h1, h2, rfl⟩ := key hi
    rw [h1]
    exact (ht x h2).mono e1) (fun i y H1 e1 hi hp => by
    obtain ⟨x, h1, h2, rfl⟩ := key hi
    rw [h1] at hp ⊢
    exact (he x h2 hp).mono e1)
  rw [List.length_map, given_some] at e
  exact e
theorem el_lcOy {α : Type} (as : List α) (rf : α → V) (g : α → V) {a : Addr} {j : Nat} {vs : List Nat} (h : Ev tl σ H (.ref a)) (hx : SqL K H a (as.map rf)) (hz : as.length ≤ 40000) (hw : ∀ x, wipe ((wipe σ vs).set j (some x)) vs = wipe σ vs)
    (he : ∀ x ∈ as, Ev te ((wipe σ vs).set j (some (rf x))) H (g x)) : EvL (tLc (iList K tl) (gName j) tYes te vs) σ H (as.map g) := by
  have z := el_lcO (K := K) (te := te) (t := tYes) as rf (fun _ => true) g h hx hz hw (fun x _ H2 e2 Q q => q H2 (Ex.refl _)) fun x hx _ => he x hx
  have e : as.filter (fun _ => true) = as := List.filter_eq_self.mpr fun _ _ => rfl
  rw [e] at z
  exact z
/-- the i-th is the first of the greatest -/
theorem best_at {α : Type} (k : α → Int) : ∀ (as : List α) (i : Nat) (x : α), as[i]? = some x → (∀ (j : Nat) (y : α), as[j]? = some y → k x ≥ k y ∧ (j < i → k x > k y)) → bestBy k as = some x
  | [], _, _, h, _ => by simp at h
  | a :: r, 0, x, h, hall => by
    have : a = x := by simpa using h
    subst this
    unfold bestBy
    cases hb : bestBy k r with
    | none => rfl
    | some y =>
      have hy : k a ≥ k y := by
        obtain ⟨j, hj⟩ := best_mem k r y hb
        exact (hall (j + 1) y (by simpa using hj)).1
      simp only [if_pos hy]
  | a :: r, i + 1, x, h, hall => by
    have ih := best_at k r i x (by simpa using h) fun j y hj => by
      have z := hall (j + 1) y (by simpa using hj)
      exact ⟨z.1, fun hlt => z.2 (by omega)⟩
    unfold bestBy
    rw [ih]
    have z := (hall 0 a (by simp)).2 (by omega)
    simp only
    rw [if_neg (by omega)]
where
  best_mem : ∀ {α : Type} (k : α → Int) (r : List α) (y : α), bestBy k r = some y → ∃ j : Nat, r[j]? = some y
  | _, k, [], y, h => by cases h
  | _, k, a :: r, y, h => by
    unfold bestBy at h
    cases hb : bestBy k r with
    | none => rw [hb] at h; cases h; exact ⟨0, rfl⟩
    | some z =>
      rw [hb] at h
      simp only at h
      by_cases hc : k a ≥ k z
      · rw [if_pos hc] at h; cases h; exact ⟨0, rfl⟩
      · rw [if_neg hc] at h
        cases h
        obtain ⟨j, hj⟩ := best_mem k r _ hb
        exact ⟨j + 1, by simpa using hj⟩
theorem best_map {α β : Type} (f : α → β) (k : β → Int) : ∀ as : List α, bestBy k (as.map f) = (bestBy (fun a => k (f a)) as).map f
  | [] => rfl
  | a :: r => by
    show (match bestBy k (r.map f) with | none => some (f a) | some y => if k (f a) ≥ k y then some (f a) else some y) = (match bestBy (fun a => k (f a)) r with | none => some a | some y => if k (f a) ≥ k (f y) then some a else some y).map f
    rw [best_map f k r]
    cases bestBy (fun a => k (f a)) r with
    | none => rfl
    | some y =>
      simp only [Option.map]
      split <;> rfl
end
end KW
end
section
set_option Elab.async false
set_option linter.all false
set_option autoImplicit false
set_option maxRecDepth 100000
set_option maxHeartbeats 400000
/-! engine.py: terms -/
namespace KW
open PySem PySem.Spec PyProof.Rows L2 He KR Evl
local macro_rules
  | `(tactic| walk_at "na") => `(tactic| with_reducible (first | exact cl_Line (by assumption) | exact cl_Job (by assumption) | exact cl_Engine (by assumption) | exact cl_Plan (by assumption) | exact cl_Run (by assumption) | exact cl_Bench (by assumption) | exact na_Line_name (by assumption) | exact na_Line_rank (by assumption) | exact na_Line_is_up (by assumption) | exact na_Line_guard (by assumption) | exact na_Line_top (by assumption) | exact na_Line_let_by (by assumption) | exact na_Line_shut_till (by assumption) | exact na_Line_since (by assumption) | exact na_Line_fresh (by assumption) | exact na_Line_counts (by assumption) | exact na_Line_longest (by assumption) | exact na_Job_word (by assumption) | exact na_Job_name (by assumption) | exact na_Job_rank (by assumption) | exact na_Job_steps (by assumption) | exact na_Job_masks_then (by assumption) | exact na_Job_at (by assumption) | exact na_Job_left (by assumption) | exact na_Engine_plan (by assumption) | exact na_Engine_ways (by assumption) | exact na_Engine_tops (by assumption) | exact na_Engine_bottom (by assumption) | exact na_Engine_put_off (by assumption) | exact na_Engine_woken (by assumption) | exact na_Engine_begun (by assumption) | exact na_Engine_depth (by assumption) | exact na_Engine_now (by assumption) | exact na_Engine_row (by assumption) | exact na_Engine_depths (by assumption) | exact na_Engine_last_begun (by assumption) | exact na_Plan_row (by assumption) | exact na_Plan_low (by assumption) | exact na_Plan_late (by assumption) | exact na_Run_row (by assumption) | exact na_Run_depths (by assumption) | exact na_Run_table (by assumption) | exact na_Run_longest (by assumption) | exact na_Bench_engine (by assumption) | exact na_Bench_fresh (by assumption) | exact na_Bench_told_so_far (by assumption) | exact na_Bench_rows (by assumption)))
local macro_rules
  | `(tactic| walk_at "oi") => `(tactic| first | assumption | exact oi2 0 (by assumption) rfl | exact oi2 1 (by assumption) rfl | exact oi2 2 (by assumption) rfl | exact oi2 3 (by assumption) rfl | exact oi2 4 (by assumption) rfl | exact oi2 5 (by assumption) rfl | exact oi2 6 (by assumption) rfl | exact oi2 7 (by assumption) rfl | exact oi2 8 (by assumption) rfl)
local macro_rules
  | `(tactic| walk_at "ev") => `(tactic| repeat' (first
    | exact ev_c | exact ev_var rfl | exact ea_nil | exact rv_I0 | exact ru_neg | exact eo_none
    | exact rv_eq rfl | exact rv_ne rfl
    | exact rv_ixT (by assumption) (by rfl) | exact rv_ixL (by assumption) (by rfl)
    | exact sv_q (by assumption) (by assumption) | exact sv_within (by assumption)
    | exact Or.inr (by assumption) | exact Or.inl (by assumption) | (show (_ : String) ∈ _; decide)
    | with_reducible (first | apply ev_isi | apply ev_lenS | apply ev_if' | apply et_test | apply et_B | apply et_not | apply et_and | apply et_or | apply ev_andV | apply ev_orV | apply ev_notV | apply ea_cons | apply eo_some | apply ev_fl | apply ev_op | apply ev_un | apply ev_call)
    | walk_at "na" | walk_at "oi" | (show List.lookup _ _ = _; rfl)
    | assumption
    | (with_reducible intro hh; first | exact absurd (show true = false from hh) (by decide) | exact absurd (show false = true from hh) (by decide) | clear hh)))

section
variable {P : Program} {w : World} {K : PySem.W.Frag} {mg : Str → Option Value} {base : Heap}
theorem sc_Engine_line_of : FnScope ["self", "name", "one"] ["self", "name"] (defScope s_Engine_line_of) := ⟨rfl, rfl, rfl, by decide +kernel, rfl, by decide +kernel, by decide +kernel⟩
theorem sc_Engine_ready_line : FnScope ["self", "low", "names", "job", "ready", "one"] ["self"] (defScope s_Engine_ready_line) := ⟨rfl, rfl, rfl, by decide +kernel, rfl, by decide +kernel, by decide +kernel⟩
/-- the fields of an engine -/
def spLineOf (K : PySem.W.Frag) : Sp := fun vs H Q _ => ∃ (G : Hp) (e : EngG) (F : List (Addr × HO)) (n : Str) (l : LineG), vs = [.ref e.a, .str n] ∧ Own G H (e.obs K ++ F) ∧ e.ways.length ≤ 100 ∧ e.ways.find? (fun l => hasN n l.m) = some l ∧ ∀ H', Ex H H' → Q (.ref l.a) H'
theorem filter_find {α : Type} (p : α → Bool) : ∀ {as : List α} {x : α}, as.find? p = some x → ∃ r, as.filter p = x :: r
  | [], _, h => by cases h
  | a :: r, x, h => by
    by_cases hp : p a = true
    · rw [List.find?_cons_of_pos hp] at h
      cases h
      exact ⟨_, List.filter_cons_of_pos hp⟩
    · rw [List.find?_cons_of_neg hp] at h
      rw [List.filter_cons_of_neg hp]
      exact filter_find p h
theorem str_dec (x y : Str) : decide (V.str x = V.str y) = decide (x = y) := by
  by_cases h : x = y
  · rw [h]; simp
  · have : ¬ V.str x = V.str y := fun z => h (V.str.inj z)
    simp [h, this]
theorem ok_Engine_line_of (T : Txt w K mg) : FnOk P w K mg base CX0 1 (f_Engine_line_of K) (fdAt K (f_Engine_line_of K)) ["self", "name"] (spLineOf K) := by
  refine (df_Engine_line_of T).ok sc_Engine_line_of (fun vs H Q E h => ?_) (fun cdv A outer s H vs Q E hr h => ?_)
  · obtain ⟨G, e, F, n, l, rfl, _⟩ := h
    rfl
  · obtain ⟨G, e, F, n, l, rfl, o, hz, hf, q⟩ := h
    refine ⟨_, PSs.nox ((pss_one (ps_ret (pe_ix (ix_listK (K := K) rfl) (pe_lc (own := [("one", 2)]) (g := gName 2) rfl sc_Engine_line_of.nd (pi_listK (K := K) rfl (pe_fldK (K := K) rfl (pv 0) rfl)) (blkOk_by (N := ["self", "name", "one"]) (sc := defScope s_Engine_line_of) (by decide +kernel)) (fun _ _ _ _ _ => pg_name (i := 2) sc_Engine_line_of.nd rfl (Or.inl rfl)) (fun _ _ _ _ _ => (pts_one (pt_cmpR op_eq (pe_fldK (K := K) rfl (pv 2) rfl) (pv 1) (nomark _)))) (fun _ _ _ _ _ => (pv 2))) pe_int (fun _ _ => rfl))))), ?_⟩
    obtain ⟨r, hr'⟩ := filter_find _ hf
    refine s_ret (ev_opL1 (xs := ((e.ways.filter fun l => hasN n l.m).map refL)) (el_lcO e.ways refL (fun l => hasN n l.m) refL (by walk_at "ev") (sq_of (oi2 1 o rfl)) (by omega) (fun _ => rfl) (fun x hx => ?_) fun x hx _ => ev_var rfl) (fun _ _ => ev_c) fun p H1 hp e1 => rv_ixL (v := .ref l.a) (sq_of hp) (by rw [hr']; exact at0)) fun H1 e1 => q H1 e1
    have hx := eng_way o hx
    refine et_is (et_test (by walk_at "ev")) ?_
    exact str_dec _ _
def optL : Option LineG → V
  | none => .non
  | some l => .ref l.a
def spReady (K : PySem.W.Frag) : Sp := fun vs H Q _ => ∃ (G : Hp) (e : EngG) (F : List (Addr × HO)), vs = [.ref e.a] ∧ Own G H (e.obs K ++ F) ∧ e.ways.length ≤ 100 ∧ e.tops.length ≤ 100 ∧
  ∀ (r : Option LineG) H', (∀ l, r = some l → l ∈ e.ways) → r.map (·.m) = e.m.readyLine → Ex H H' → Q (optL r) H'
theorem getLast_map {α β : Type} (f : α → β) (as : List α) : (as.map f).getLast? = as.getLast?.map f := by
  induction as with
  | nil => rfl
  | cons a r ih => cases r with
    | nil => rfl
    | cons b s => simpa using ih
theorem at_last {α : Type} {as : List α} {x : α} (h : as.getLast? = some x) : atI as (-1) = some x := by
  have hne : as ≠ [] := fun e => by rw [e] at h; cases h
  have hl : 0 < as.length := List.length_pos_iff.mpr hne
  have e : ixN as.length (-1) = some (as.length - 1) := by
    unfold ixN
    rw [if_neg (by decide), if_pos (by omega)]
    congr 1
    omega
  unfold atI
  rw [e]
  show as[as.length - 1]? = some x
  rw [← List.getLast?_eq_getElem?]
  exact h
theorem ok_Engine_ready_line (T : Txt w K mg) : FnOk P w K mg base CX0 3 (f_Engine_ready_line K) (fdAt K (f_Engine_ready_line K)) ["self"] (spReady K) := by
  refine (df_Engine_ready_line T).ok sc_Engine_ready_line (fun vs H Q E h => ?_) (fun cdv A outer s H vs Q E hr h => ?_)
  · obtain ⟨G, e, F, rfl, _⟩ := h
    rfl
  · obtain ⟨G, e, F, rfl, o, hz, hzt, q⟩ := h
    have hu := hu0 hr
    refine ⟨_, PSs.nox ((pss_cons (ps_if (pt_cmpR op_gt (pe_fldK (K := K) rfl (pv 0) rfl) pe_int (nomark _)) (pss_one (ps_ret pe_non)) pss_nil)
      (pss_cons (ps_set (i := 1) sc_Engine_ready_line.nd rfl (Or.inr rfl) (pe_ifExp (pt_cmpR (op_neNilK (hu0 hr) (K := K) rfl) (pe_fldK (K := K) rfl (pv 0) rfl) (pe_lst pa_nil) (nomark _)) (pe_fldK (K := K) rfl (pe_ix (ix_listK (K := K) rfl) (pe_fldK (K := K) rfl (pv 0) rfl) (pe_un un_neg pe_int) (fun _ _ => rfl)) rfl) pe_int))
      (pss_cons (ps_set (i := 2) sc_Engine_ready_line.nd rfl (Or.inr rfl) (pe_lc (own := [("job", 3)]) (g := gName 3) (tt := tYes) rfl sc_Engine_ready_line.nd (pi_listK (K := K) rfl (pe_fldK (K := K) rfl (pv 0) rfl)) (blkOk_by (N := ["self", "low", "names", "job", "ready", "one"]) (sc := defScope s_Engine_ready_line) (by decide +kernel)) (fun _ _ _ _ _ => pg_name (i := 3) sc_Engine_ready_line.nd rfl (Or.inl rfl)) (fun _ _ _ _ _ => pts_nil) (fun _ _ _ _ _ => (pe_fldK (K := K) rfl (pv 3) rfl))))
      (pss_cons (ps_setLc (i := 4) (own := [("one", 5)]) (g := gName 5) rfl sc_Engine_ready_line.nd rfl rfl (sw_true rfl rfl rfl (by decide +kernel)) (pi_listK (K := K) rfl (pe_fldK (K := K) rfl (pv 0) rfl)) (blkOk_by (N := ["self", "low", "names", "job", "ready", "one"]) (sc := defScope s_Engine_ready_line) (by decide +kernel)) (fun _ _ _ _ _ => pg_name (i := 5) sc_Engine_ready_line.nd rfl (Or.inl rfl)) (fun _ _ _ _ _ => (pts_one (PW.pt (pw_and (pt_val (pe_meth0 (pv 5) (cl_Line T) (me_Line_waits T) (ok_Line_waits T) (hr.mono (by decide)) (bi_Line_waits T) .nil pass0)) (pw_and (pt_cmpR (op_notInK (K := K) rfl) (pe_fldK (K := K) rfl (pv 5) rfl) (pv 2) (by rfl)) (pw_and1 (pt_cmpR op_gt (pe_fldK (K := K) rfl (pv 5) rfl) (pv 1) (nomark _)))))))) (fun _ _ _ _ _ => (pv 5)))
      (pss_one (ps_ret (pe_ifExp (pt_cmpR (op_neNilK (hu0 hr) (K := K) rfl) (pv 4) (pe_lst pa_nil) (nomark _)) (pe_callBK (cr_maxKey rfl (ok_rank_of T) (hr.mono (by decide)) (bi_rank_of T)) (by rfl) (fr_max T) (by decide +kernel) (pa_cons (pv 4) pa_nil) (pk_cons (pe_glob (v := .ref (g_rank_of K)) rfl (gl_rank_of T) rfl) pk_nil)) pe_non)))))))), ?_⟩
    refine q_when (b := decide (0 < e.depth)) (et_test (by walk_at "ev")) (fun hb H1 e1 => ?_) fun hb H1 e1 => ?_
    · refine s_ret ev_c fun H2 e2 => q none H2 (fun _ z => nomatch z) ?_ (e1.trans e2)
      show none = e.m.readyLine
      unfold EngM.readyLine
      rw [if_pos (show 0 < e.m.depth from of_decide_eq_true hb)]
    · have o1 := o.same e1
      have ent : e.m.low = (match e.tops.getLast? with | some j => j.m.rank | none => 0) := by
        unfold EngM.low
        show (match (e.tops.map (·.m)).getLast? with | some j => j.rank | none => 0) = _
        rw [getLast_map]
        cases e.tops.getLast? <;> rfl
      have lowV : Ev (tIf (tTest (tOp (rNil K true) (tFld K (tVar 0) (Str.ofString "tops")) (tLst tNil))) (tFld K (tOp (rIxL K) (tFld K (tVar 0) (Str.ofString "tops")) (tUn (rU fun i => V.int (-i)) (tC (V.int 1)))) (Str.ofString "rank")) (tC (V.int 0))) (L2.start ["self", "low", "names", "job", "ready", "one"] [V.ref e.a]) H1 (.int e.m.low) := by
        have hT := sq_of (K := K) (oi2 2 o1 rfl : H1 e.aT = some (.lst (e.tops.map refJ)))
        have hTe : Ev (tFld K (tVar 0) (Str.ofString "tops")) (L2.start ["self", "low", "names", "job", "ready", "one"] [V.ref e.a]) H1 (.ref e.aT) := by walk_at "ev"
        rw [ent]
        refine ev_if (b := !(e.tops.map refJ).isEmpty) (et_test (ev_opL (xs := []) hTe (el_lst ea_nil (by decide)) fun p H2 hp e2 => fun H3 e3 Q q => ⟨e.aT, p, e.tops.map refJ, rfl, rfl, ex_l (e2.trans e3) hT, ex_l e3 (sq_of hp), q H3 (Ex.refl _)⟩)) (fun hne => ?_) fun hne => ?_
        · cases hl : e.tops.getLast? with
          | none =>
            have : e.tops = [] := List.getLast?_eq_none_iff.mp hl
            rw [this] at hne
            cases hne
          | some j =>
            have hm : j ∈ e.tops := List.mem_of_getLast? hl
            refine ev_fl (ev_op hTe (ev_un ev_c ru_neg) (rv_ixL hT (at_last (x := V.ref j.a) ?_))) (eng_top o1 hm) (cl_Job T) (na_Job_rank T) rfl
            rw [getLast_map, hl]
            rfl
        · have : e.tops = [] := by cases h : e.tops with | nil => rfl | cons a r => rw [h] at hne; cases hne
          rw [this]
          exact ev_c
      refine q_asg lowV fun H2 e2 => ?_
      have o2 := o1.same e2
      refine q_asgL (xs := (e.tops.map fun j => V.str j.m.name)) (el_lcOy e.tops refJ (fun j => V.str j.m.name) (by walk_at "ev") (sq_of (oi2 2 o2 rfl)) (by omega) (fun _ => rfl) fun j hj => by
        have hj := eng_top o2 hj
        walk_at "ev") fun pn H3 hpn e3 h3 => ?_
      have o3 := o2.same e3
      have hsq := sq_of (K := K) h3
      have hnames : (e.tops.map fun j => V.str j.m.name) = (e.tops.map fun j => j.m.name).map V.str := by rw [List.map_map]; rfl
      refine q_asgL (xs := ((e.ways.filter fun l => l.m.since.isSome && (!decide (l.m.name ∈ e.tops.map fun j => j.m.name) && decide (e.m.low < l.m.rank))).map refL)) (el_lcO e.ways refL _ refL (by walk_at "ev") (sq_of (oi2 1 o3 rfl)) (by omega) (fun _ => rfl) (fun l hl => ?_) fun _ _ _ => ev_var rfl) fun pr H4 hpr e4 h4 => ?_
      · have hw := eng_way o3 hl
        refine et_and (et_B fun H5 e5 Q q => ⟨.ref l.a, rfl, l.a, l.dx, l.fs, rfl, e5 _ _ hw, rfl, l, rfl, e5 _ _ hw, q⟩) fun _ => et_and (et_is (et_test (ev_op (by walk_at "ev") (ev_var rfl) (rv_niL hsq rfl (by rw [hnames, List.all_map]; exact List.all_eq_true.mpr fun _ _ => rfl)))) (by rw [hnames, inV_strs])) fun _ => et_test (by walk_at "ev")
      · have o4 := o3.same e4
        have er : e.m.readyLine = bestBy (·.rank) ((e.ways.filter fun l => l.m.since.isSome && (!decide (l.m.name ∈ e.tops.map fun j => j.m.name) && decide (e.m.low < l.m.rank))).map (·.m)) := by
          unfold EngM.readyLine
          rw [if_neg (show ¬ 0 < e.m.depth from of_decide_eq_false hb)]
          congr 1
          show (e.ways.map (·.m)).filter _ = _
          rw [List.filter_map]
          congr 1
          apply List.filter_congr
          intro l _
          show (l.m.since.isSome && (!decide (l.m.name ∈ (e.tops.map (·.m)).map (·.name)) && decide (e.m.low < l.m.rank))) = _
          rw [List.map_map]
          rfl
        generalize hrd : (e.ways.filter fun l => l.m.since.isSome && (!decide (l.m.name ∈ e.tops.map fun j => j.m.name) && decide (e.m.low < l.m.rank))) = rd at h4 er
        have hsub : ∀ l ∈ rd, l ∈ e.ways := fun l hl => by rw [← hrd] at hl; exact (List.mem_filter.mp hl).1
        have e04 := e1.trans (e2.trans (e3.trans e4))
        have tst : EvT (tTest (tOp (rNil K true) (tVar 4) (tLst tNil))) [some (V.ref e.a), some (V.int e.m.low), some (V.ref pn), none, some (V.ref pr), none] H4 (!(rd.map refL).isEmpty) := et_test (ev_opL (xs := []) (ev_var rfl) (el_lst ea_nil (by decide)) fun p H2 hp e2 => fun H3 e3 Q q => ⟨pr, p, _, rfl, rfl, ex_l (e2.trans e3) (sq_of h4), ex_l e3 (sq_of hp), q H3 (Ex.refl _)⟩)
        refine tst H4 (Ex.refl _) _ fun H5 e5 => ?_
        cases rd with
        | nil =>
          refine q none H5 (fun _ z => nomatch z) ?_ (e04.trans e5)
          rw [er]
          rfl
        | cons l0 r0 =>
          refine ⟨.ref pr, rfl, pr, (l0 :: r0).map refL, fun i => (((l0 :: r0)[i]?).map fun l => l.m.rank).getD 0, rfl, rfl, ex_l e5 (sq_of h4), by simp, fun i v hi => ?_, fun i v hi hmax => ?_⟩
          · rw [List.getElem?_map] at hi
            cases hq : (l0 :: r0)[i]? with
            | none => rw [hq] at hi; cases hi
            | some l =>
              rw [hq] at hi
              cases hi
              exact ⟨l.a, _, l.dx, l.fs, l.m.rank, rfl, e5 _ _ (eng_way o4 (hsub l (List.mem_of_getElem? hq))), .inl rfl, rfl, by simp only [hq]; rfl, rfl⟩
          · rw [List.getElem?_map] at hi
            cases hq : (l0 :: r0)[i]? with
            | none => rw [hq] at hi; cases hi
            | some l =>
              rw [hq] at hi
              cases hi
              refine q (some l) H5 (fun l' z => by cases z; exact hsub l (List.mem_of_getElem? hq)) ?_ (e04.trans e5)
              rw [er, best_map]
              show some l.m = _
              rw [best_at (fun a : LineG => a.m.rank) (l0 :: r0) i l hq fun j y hj => ?_]
              · rfl
              · have hlt : j < ((l0 :: r0).map refL).length := by rw [List.length_map]; exact (List.getElem?_eq_some_iff.mp hj).1
                have z := hmax j hlt
                simp only [hq, hj, Option.map, Option.getD] at z
                exact z
end
end KW
end
section
set_option Elab.async false
set_option linter.all false
set_option autoImplicit false
/-! lists: the first that passes -/
namespace KW
open PySem
theorem find_map {α β : Type} (f : α → β) (p : β → Bool) : ∀ as : List α, (as.map f).find? p = (as.find? fun a => p (f a)).map f
  | [] => rfl
  | a :: r => by
    by_cases h : p (f a) = true
    · rw [List.map_cons, List.find?_cons_of_pos h, List.find?_cons_of_pos (p := fun a => p (f a)) h]; rfl
    · rw [List.map_cons, List.find?_cons_of_neg h, List.find?_cons_of_neg (p := fun a => p (f a)) h]; exact find_map f p r
theorem last_map {α β : Type} (f : α → β) (as : List α) : (as.map f).getLast? = as.getLast?.map f := by
  induction as with
  | nil => rfl
  | cons a r ih => cases r with
    | nil => rfl
    | cons b s => simpa using ih
theorem find_split {α : Type} {p : α → Bool} : ∀ {as : List α} {x : α}, as.find? p = some x → ∃ l r, as = l ++ x :: r ∧ p x = true ∧ ∀ y ∈ l, p y = false
  | [], _, h => by cases h
  | a :: s, x, h => by
    by_cases hp : p a = true
    · rw [List.find?_cons_of_pos hp] at h
      cases h
      exact ⟨[], s, rfl, hp, fun _ z => nomatch z⟩
    · rw [List.find?_cons_of_neg hp] at h
      obtain ⟨l, r, e, h1, h2⟩ := find_split h
      refine ⟨a :: l, r, by rw [e]; rfl, h1, fun y hy => ?_⟩
      rcases List.mem_cons.mp hy with rfl | hy
      · exact Bool.eq_false_iff.mpr hp
      · exact h2 y hy
theorem upFirst_at {α : Type} {p : α → Bool} {f : α → α} : ∀ {l : List α} {x : α} {r : List α}, (∀ y ∈ l, p y = false) → p x = true → upFirst p f (l ++ x :: r) = l ++ f x :: r
  | [], x, r, _, h => by show (if p x = true then _ else _) = _; rw [if_pos h]; rfl
  | a :: l, x, r, hn, h => by
    show (if p a = true then _ else a :: upFirst p f (l ++ x :: r)) = a :: (l ++ f x :: r)
    rw [if_neg (by rw [hn a (List.mem_cons_self ..)]; decide), upFirst_at (fun y hy => hn y (List.mem_cons_of_mem _ hy)) h]
theorem find_at {α : Type} {p : α → Bool} : ∀ {l : List α} {x : α} {r : List α}, (∀ y ∈ l, p y = false) → p x = true → (l ++ x :: r).find? p = some x
  | [], x, r, _, h => List.find?_cons_of_pos h
  | a :: l, x, r, hn, h => by
    show (a :: (l ++ x :: r)).find? p = some x
    rw [List.find?_cons_of_neg (by rw [hn a (List.mem_cons_self ..)]; decide)]
    exact find_at (fun y hy => hn y (List.mem_cons_of_mem _ hy)) h
end KW
end
section
set_option Elab.async false
set_option linter.all false
set_option autoImplicit false
set_option maxRecDepth 100000
set_option maxHeartbeats 1000000
/-! one line, one job of an engine in the eye -/
namespace KW
open PySem PySem.Spec PyProof.Rows L2 He KR Evl
def EngG.jobAt (e : EngG) : Cur → Option JobG
  | .top => e.tops.getLast?
  | .bottom => e.bottom
  | .thread n => e.begun.find? fun j => jobN n j.m
theorem jobAt_m (e : EngG) (c : Cur) : e.m.jobAt c = (e.jobAt c).map (·.m) := by
  cases c with
  | top => exact last_map _ _
  | bottom => rfl
  | thread n => exact find_map _ _ _
section
variable {K : PySem.W.Frag} {G G' H H' : Hp} {F L : List (Addr × HO)}
theorem perm_mid {α : Type} (a b : List α) (x : List α) (c : List α) : (a ++ (b ++ (x ++ c))).Perm (x ++ (a ++ (b ++ c))) := by
  have h1 : (a ++ (b ++ (x ++ c))) = (a ++ b) ++ (x ++ c) := by simp
  have h2 : (x ++ (a ++ (b ++ c))) = x ++ ((a ++ b) ++ c) := by simp
  rw [h1, h2]
  generalize a ++ b = d
  rw [← List.append_assoc, ← List.append_assoc]
  exact (List.perm_append_comm).append_right c
/-- a line in the eye -/
theorem way_focus (K : PySem.W.Frag) {e : EngG} {wa wb : List LineG} {l : LineG} (h : e.ways = wa ++ l :: wb) : ∃ rest, ∀ X : LineM, (({ e with ways := wa ++ { l with m := X } :: wb } : EngG).obs K).Perm (({ l with m := X } : LineG).obs K ++ rest) := by
  refine ⟨e.head K ++ (wa.flatMap (LineG.obs K) ++ (wb.flatMap (LineG.obs K) ++ (e.tops.map (JobG.ob K) ++ (e.bottom.toList.map (JobG.ob K) ++ e.begun.map (JobG.ob K))))), fun X => ?_⟩
  have hh : ({ e with ways := wa ++ { l with m := X } :: wb } : EngG).head K = e.head K := by
    unfold EngG.head EngG.fs
    dsimp only
    rw [h]
    simp [refL]
  unfold EngG.obs
  rw [hh]
  dsimp only
  rw [List.flatMap_append, List.flatMap_cons, List.append_assoc, List.append_assoc]
  exact perm_mid _ _ _ _
theorem way_K {e : EngG} {wa wb : List LineG} {l : LineG} (h : e.ways = wa ++ l :: wb) (k : EngK K G e) {X : LineM} (hs : X.ss = l.m.ss) (hg : X.most = l.m.most ∧ X.wide = l.m.wide ∧ X.rest = l.m.rest) : EngK K G { e with ways := wa ++ { l with m := X } :: wb } := by
  refine ⟨k.plan, fun l' hl => ?_, k.tops, k.bottom, k.begun, k.row⟩
  have hw := k.ways
  rw [h] at hw
  rcases List.mem_append.mp hl with hl | hl
  · exact hw l' (List.mem_append_left _ hl)
  · rcases List.mem_cons.mp hl with rfl | hl
    · obtain ⟨⟨g, e1, h1⟩, t, xs, e2, h2, h3⟩ := hw l (List.mem_append_right _ (List.mem_cons_self ..))
      exact ⟨⟨g, e1, by show SqT K G g [.int X.most, .int X.wide, .int X.rest]; rw [hg.1, hg.2.1, hg.2.2]; exact h1⟩, t, xs, e2, h2, by show DpAll K G xs X.ss; rw [hs]; exact h3⟩
    · exact hw l' (List.mem_append_right _ (List.mem_cons_of_mem _ hl))
/-- the running job in the eye -/
structure Focus (K : PySem.W.Frag) (e : EngG) (c : Cur) (j : JobG) (w : JobM → EngG) (rest : List (Addr × HO)) : Prop where
  self : w j.m = e
  perm : ∀ X, ((w X).obs K).Perm (({ j with m := X } : JobG).ob K :: rest)
  m : ∀ X, (w X).m = e.m.setJob c fun _ => X
  at_ : ∀ X, X.name = j.m.name → (w X).jobAt c = some { j with m := X }
  keep : ∀ X, ∃ t b g, w X = { e with tops := t, bottom := b, begun := g }
  K : ∀ X G, X.ss = j.m.ss → EngK K G e → EngK K G (w X)
theorem focus (K : PySem.W.Frag) {e : EngG} {c : Cur} {j : JobG} (h : e.jobAt c = some j) : ∃ w rest, Focus K e c j w rest := by
  cases c with
  | top =>
    have h : e.tops.getLast? = some j := h
    obtain ⟨ta, ht⟩ : ∃ ta, e.tops = ta ++ [j] := List.getLast?_eq_some_iff.mp h
    refine ⟨fun X => { e with tops := ta ++ [{ j with m := X }] }, e.head K ++ ((e.ways.flatMap (LineG.obs K) ++ ta.map (JobG.ob K)) ++ (e.bottom.toList.map (JobG.ob K) ++ e.begun.map (JobG.ob K))), ?_, fun X => ?_, fun X => ?_, fun X _ => ?_, fun X => ⟨_, _, _, rfl⟩, fun X G hs k => ?_⟩
    · show { e with tops := ta ++ [j] } = e
      rw [← ht]
    · have hh : ({ e with tops := ta ++ [{ j with m := X }] } : EngG).head K = e.head K := by
        unfold EngG.head EngG.fs
        dsimp only
        rw [ht]
        simp [refJ]
      unfold EngG.obs
      rw [hh]
      dsimp only
      rw [List.map_append, List.append_assoc]
      have z := perm_mid (e.head K) (e.ways.flatMap (LineG.obs K) ++ ta.map (JobG.ob K)) [({ j with m := X } : JobG).ob K] (e.bottom.toList.map (JobG.ob K) ++ e.begun.map (JobG.ob K))
      rw [List.append_assoc (e.ways.flatMap (LineG.obs K))] at z
      rw [List.append_assoc] at z ⊢
      exact z
    · show EngG.m { e with tops := ta ++ [{ j with m := X }] } = { e.m with tops := e.m.tops.dropLast ++ (e.m.tops.getLast?.map fun _ => X).toList }
      unfold EngG.m
      dsimp only
      rw [ht]
      simp
    · show (ta ++ [({ j with m := X } : JobG)]).getLast? = _
      simp
    · refine ⟨k.plan, k.ways, fun j' hj => ?_, k.bottom, k.begun, k.row⟩
      have hw := k.tops
      rw [ht] at hw
      rcases List.mem_append.mp hj with hj | hj
      · exact hw j' (List.mem_append_left _ hj)
      · rw [List.mem_singleton.mp hj]
        have z := hw j (List.mem_append_right _ (List.mem_singleton.mpr rfl))
        show StepsK K G j.steps X.ss
        rw [hs]
        exact z
  | bottom =>
    have h : e.bottom = some j := h
    refine ⟨fun X => { e with bottom := some { j with m := X } }, e.head K ++ ((e.ways.flatMap (LineG.obs K) ++ e.tops.map (JobG.ob K)) ++ e.begun.map (JobG.ob K)), ?_, fun X => ?_, fun X => ?_, fun X _ => rfl, fun X => ⟨_, _, _, rfl⟩, fun X G hs k => ?_⟩
    · show { e with bottom := some j } = e
      rw [← h]
    · have hh : ({ e with bottom := some { j with m := X } } : EngG).head K = e.head K := by
        unfold EngG.head EngG.fs
        dsimp only
        rw [h]
        rfl
      unfold EngG.obs
      rw [hh]
      have z := perm_mid (e.head K) (e.ways.flatMap (LineG.obs K) ++ e.tops.map (JobG.ob K)) [({ j with m := X } : JobG).ob K] (e.begun.map (JobG.ob K))
      rw [List.append_assoc (e.ways.flatMap (LineG.obs K))] at z
      exact z
    · show EngG.m { e with bottom := some { j with m := X } } = { e.m with bottom := e.m.bottom.map fun _ => X }
      unfold EngG.m
      dsimp only
      rw [h]
      rfl
    · refine ⟨k.plan, k.ways, k.tops, fun j' hj => ?_, k.begun, k.row⟩
      cases hj
      show StepsK K G j.steps X.ss
      rw [hs]
      exact k.bottom j h
  | thread n =>
    have h : e.begun.find? (fun j => jobN n j.m) = some j := h
    obtain ⟨ba, bb, hb, hp, hn⟩ := find_split h
    refine ⟨fun X => { e with begun := ba ++ { j with m := X } :: bb }, e.head K ++ ((e.ways.flatMap (LineG.obs K) ++ (e.tops.map (JobG.ob K) ++ (e.bottom.toList.map (JobG.ob K) ++ ba.map (JobG.ob K)))) ++ bb.map (JobG.ob K)), ?_, fun X => ?_, fun X => ?_, fun X hX => ?_, fun X => ⟨_, _, _, rfl⟩, fun X G hs k => ?_⟩
    · show { e with begun := ba ++ j :: bb } = e
      rw [← hb]
    · have hh : ({ e with begun := ba ++ { j with m := X } :: bb } : EngG).head K = e.head K := by
        unfold EngG.head EngG.fs
        dsimp only
        rw [hb]
        simp [refJ]
      unfold EngG.obs
      rw [hh]
      dsimp only
      rw [List.map_append, List.map_cons]
      have z := perm_mid (e.head K) (e.ways.flatMap (LineG.obs K) ++ (e.tops.map (JobG.ob K) ++ (e.bottom.toList.map (JobG.ob K) ++ ba.map (JobG.ob K)))) [({ j with m := X } : JobG).ob K] (bb.map (JobG.ob K))
      simp only [List.append_assoc, List.singleton_append, List.cons_append, List.nil_append] at z ⊢
      exact z
    · show EngG.m { e with begun := ba ++ { j with m := X } :: bb } = { e.m with begun := upFirst (jobN n) (fun _ => X) e.m.begun }
      unfold EngG.m
      dsimp only
      rw [hb, List.map_append, List.map_append, List.map_cons, List.map_cons, upFirst_at (fun y hy => ?_) hp]
      obtain ⟨y', hy', rfl⟩ := List.mem_map.mp hy
      exact hn y' hy'
    · show (ba ++ ({ j with m := X } : JobG) :: bb).find? (fun j => jobN n j.m) = _
      refine find_at hn ?_
      show decide (X.name = n) = true
      rw [hX]
      exact hp
    · refine ⟨k.plan, k.ways, k.tops, k.bottom, fun j' hj => ?_, k.row⟩
      have hw := k.begun
      rw [hb] at hw
      rcases List.mem_append.mp hj with hj | hj
      · exact hw j' (List.mem_append_left _ hj)
      · rcases List.mem_cons.mp hj with rfl | hj
        · have z := hw j (List.mem_append_right _ (List.mem_cons_self ..))
          show StepsK K G j.steps X.ss
          rw [hs]
          exact z
        · exact hw j' (List.mem_append_right _ (List.mem_cons_of_mem _ hj))
end
end KW
end
section
set_option Elab.async false
set_option linter.all false
set_option autoImplicit false
set_option maxRecDepth 100000
set_option maxHeartbeats 400000
/-! engine.py: over, quick -/
namespace KW
open PySem PySem.Spec PyProof.Rows L2 He KR Evl
local macro_rules
  | `(tactic| walk_at "na") => `(tactic| with_reducible (first | exact cl_Line (by assumption) | exact cl_Job (by assumption) | exact cl_Engine (by assumption) | exact cl_Plan (by assumption) | exact cl_Run (by assumption) | exact cl_Bench (by assumption) | exact na_Line_name (by assumption) | exact na_Line_rank (by assumption) | exact na_Line_is_up (by assumption) | exact na_Line_guard (by assumption) | exact na_Line_top (by assumption) | exact na_Line_let_by (by assumption) | exact na_Line_shut_till (by assumption) | exact na_Line_since (by assumption) | exact na_Line_fresh (by assumption) | exact na_Line_counts (by assumption) | exact na_Line_longest (by assumption) | exact na_Job_word (by assumption) | exact na_Job_name (by assumption) | exact na_Job_rank (by assumption) | exact na_Job_steps (by assumption) | exact na_Job_masks_then (by assumption) | exact na_Job_at (by assumption) | exact na_Job_left (by assumption) | exact na_Engine_plan (by assumption) | exact na_Engine_ways (by assumption) | exact na_Engine_tops (by assumption) | exact na_Engine_bottom (by assumption) | exact na_Engine_put_off (by assumption) | exact na_Engine_woken (by assumption) | exact na_Engine_begun (by assumption) | exact na_Engine_depth (by assumption) | exact na_Engine_now (by assumption) | exact na_Engine_row (by assumption) | exact na_Engine_depths (by assumption) | exact na_Engine_last_begun (by assumption) | exact na_Plan_row (by assumption) | exact na_Plan_low (by assumption) | exact na_Plan_late (by assumption) | exact na_Run_row (by assumption) | exact na_Run_depths (by assumption) | exact na_Run_table (by assumption) | exact na_Run_longest (by assumption) | exact na_Bench_engine (by assumption) | exact na_Bench_fresh (by assumption) | exact na_Bench_told_so_far (by assumption) | exact na_Bench_rows (by assumption)))
local macro_rules
  | `(tactic| walk_at "oi") => `(tactic| first | assumption | exact oi2 0 (by assumption) rfl | exact oi2 1 (by assumption) rfl | exact oi2 2 (by assumption) rfl | exact oi2 3 (by assumption) rfl | exact oi2 4 (by assumption) rfl | exact oi2 5 (by assumption) rfl | exact oi2 6 (by assumption) rfl | exact oi2 7 (by assumption) rfl | exact oi2 8 (by assumption) rfl)
local macro_rules
  | `(tactic| walk_at "ev") => `(tactic| repeat' (first
    | exact ev_c | exact ev_var rfl | exact ea_nil | exact rv_I0 | exact ru_neg | exact eo_none
    | exact rv_eq rfl | exact rv_ne rfl
    | exact rv_ixT (by assumption) (by rfl) | exact rv_ixL (by assumption) (by rfl)
    | exact sv_q (by assumption) (by assumption) | exact sv_within (by assumption)
    | exact Or.inr (by assumption) | exact Or.inl (by assumption) | (show (_ : String) ∈ _; decide)
    | with_reducible (first | apply ev_isi | apply ev_lenS | apply ev_if' | apply et_test | apply et_B | apply et_not | apply et_and | apply et_or | apply ev_andV | apply ev_orV | apply ev_notV | apply ea_cons | apply eo_some | apply ev_fl | apply ev_op | apply ev_un | apply ev_call)
    | walk_at "na" | walk_at "oi" | (show List.lookup _ _ = _; rfl)
    | assumption
    | (with_reducible intro hh; first | exact absurd (show true = false from hh) (by decide) | exact absurd (show false = true from hh) (by decide) | clear hh)))

section
variable {P : Program} {w : World} {K : PySem.W.Frag} {mg : Str → Option Value} {base : Heap}
theorem sc_Engine_over : FnScope ["self", "job", "other"] ["self", "job"] (defScope s_Engine_over) := ⟨rfl, rfl, rfl, by decide +kernel, rfl, by decide +kernel, by decide +kernel⟩
theorem sc_Engine_quick : FnScope ["self", "job", "word", "rest"] ["self", "job"] (defScope s_Engine_quick) := ⟨rfl, rfl, rfl, by decide +kernel, rfl, by decide +kernel, by decide +kernel⟩
def spAny (n : Nat) : Sp := fun vs H Q _ => vs.length = n
def roleW : Cur → Str
  | .top => "top"
  | .bottom => "bottom"
  | .thread _ => "thread"
def spOver (K : PySem.W.Frag) : Sp := fun vs H Q _ => ∃ (G : Hp) (e : EngG) (F : List (Addr × HO)) (c : Cur) (j : JobG), vs = [.ref e.a, .ref j.a] ∧ Own G H (e.obs K ++ F) ∧ EngK K G e ∧ e.jobAt c = some j ∧ j.m.word = roleW c ∧ e.begun.length ≤ 100 ∧
  ∀ (e' : EngG) H', e'.m = e.m.over c → e'.a = e.a → EngK K G e' → Own G H' (e'.obs K ++ F) → Q .non H'
theorem job_get {G H : Hp} {e : EngG} {F : List (Addr × HO)} {c : Cur} {j : JobG} (o : Own G H (e.obs K ++ F)) (h : e.jobAt c = some j) : H j.a = some (.ins (g_Job K) j.dx j.fs) := by
  cases c with
  | top => exact eng_top o (List.mem_of_getLast? h)
  | bottom => exact eng_bot o h
  | thread n => exact eng_thr o (List.mem_of_find?_eq_some h)
theorem job_K {G : Hp} {e : EngG} {c : Cur} {j : JobG} (k : EngK K G e) (h : e.jobAt c = some j) : StepsK K G j.steps j.m.ss := by
  cases c with
  | top => exact k.tops j (List.mem_of_getLast? h)
  | bottom => exact k.bottom j h
  | thread n => exact k.begun j (List.mem_of_find?_eq_some h)
theorem ok_Engine_over (T : Txt w K mg) : FnOk P w K mg base CX0 1 (f_Engine_over K) (fdAt K (f_Engine_over K)) ["self", "job"] (spOver K) := by
  refine (df_Engine_over T).ok sc_Engine_over (fun vs H Q E h => ?_) (fun cdv A outer s H vs Q E hr h => ?_)
  · obtain ⟨G, e, F, c, j, rfl, _⟩ := h
    rfl
  · obtain ⟨G, e, F, c, j, rfl, o, k, hc, hw, hbz, q⟩ := h
    refine ⟨_, PSs.nox ((pss_cons (ps_if (pt_cmpR op_lt (pe_fldK (K := K) rfl (pv 1) rfl) (pe_callB (call_lenK (K := K) rfl) (by rfl) (fr_len T) PySem.boot_len (pa_cons (pe_fldK (K := K) rfl (pv 1) rfl) pa_nil)) (nomark _)) (pss_one ps_retN) pss_nil)
      (pss_cons (ps_fldK (K := K) rfl (pv 0) (pe_fldK (K := K) rfl (pv 1) rfl))
      (pss_one (ps_if (pt_cmpR op_eq (pe_fldK (K := K) rfl (pv 1) rfl) pe_str (nomark _)) (pss_one (ps_expr (pe_bm0 PySem.F.plainAttrs_list PySem.F.slot_list_pop PySem.F.type_list_pop mt_pop (pe_fldK (K := K) rfl (pv 0) rfl)))) (pss_one (ps_if (pt_cmpR op_eq (pe_fldK (K := K) rfl (pv 1) rfl) pe_str (nomark _)) (pss_one (ps_fldK (K := K) rfl (pv 0) pe_non)) (pss_one (ps_fldK (K := K) rfl (pv 0) (pe_lc (own := [("other", 2)]) (g := gName 2) rfl sc_Engine_over.nd (pi_listK (K := K) rfl (pe_fldK (K := K) rfl (pv 0) rfl)) (blkOk_by (N := ["self", "job", "other"]) (sc := defScope s_Engine_over) (by decide +kernel)) (fun _ _ _ _ _ => pg_name (i := 2) sc_Engine_over.nd rfl (Or.inl rfl)) (fun _ _ _ _ _ => (pts_one (pt_cmpR op_ne (pe_fldK (K := K) rfl (pv 2) rfl) (pe_fldK (K := K) rfl (pv 1) rfl) (nomark _)))) (fun _ _ _ _ _ => (pv 2)))))))))))), ?_⟩
    have hj := job_get o hc
    obtain ⟨t, xs, est, hx, hxs⟩ := job_K k hc
    have hlen := dpLen hxs
    have em : e.m.jobAt c = some j.m := by rw [jobAt_m, hc]; rfl
    have hst : List.lookup (Str.ofString "steps") j.fs = some (V.ref t) := by rw [← est]; rfl
    refine q_when (b := decide ((j.m.pos : Int) < (j.m.ss.length : Int))) (et_test (ev_is (ev_op (by walk_at "ev") (ev_lenS (ev_fl (ev_var rfl) hj (cl_Job T) (na_Job_steps T) hst) (.inl (sL o.sub hx))) rv_I0) (by rw [hlen]))) (fun hb H1 e1 => ?_) fun hb H1 e1 => ?_
    · refine q e H1 ?_ rfl k (o.same e1)
      unfold EngM.over
      rw [em]
      simp only
      rw [if_pos (by have := of_decide_eq_true hb; omega)]
    · have hov : ¬ j.m.pos < j.m.ss.length := by have := of_decide_eq_false hb; omega
      have o1 := o.same e1
      have hj1 := job_get o1 hc
      refine q_fld o1 0 rfl (v := .int j.m.masks) (by walk_at "ev") (ev_var rfl) (cl_Engine T) (na_Engine_depth T) (by show (12 : Nat) < 1000; decide) fun H2 o2 => ?_
      have o2 : Own G H2 (({ e with depth := j.m.masks } : EngG).obs K ++ F) := o2
      have hj2 := job_get (e := { e with depth := j.m.masks }) o2 (c := c) (by cases c <;> exact hc)
      cases c with
      | top =>
        have hw : j.m.word = "top" := hw
        refine s_if (b := true) (et_test (ev_is (ev_op (by walk_at "ev") ev_c (rv_eq rfl)) (by rw [hw]; rfl))) (fun _ H3 e3 => ?_) fun h => by cases h
        have o3 := o2.same e3
        obtain ⟨ta, ht⟩ : ∃ ta, e.tops = ta ++ [j] := List.getLast?_eq_some_iff.mp hc
        refine s_pop (xs := ta.map refJ) (x := .ref j.a) o3 2 (by show some (e.aT, HO.lst (e.tops.map refJ)) = _; rw [ht, List.map_append]; rfl) (by walk_at "ev") fun H4 o4 => ?_
        have o4 : Own G H4 ((EngG.head K { e with depth := j.m.masks, tops := ta } ++ tlO K e.ways e.tops e.bottom e.begun) ++ F) := o4
        have o5 : Own G _ (({ e with depth := j.m.masks, tops := ta } : EngG).obs K ++ F) := o4.less (((List.Sublist.refl _).append (tl_sub (by rw [ht]; exact List.sublist_append_left _ _) (List.Sublist.refl _) (List.Sublist.refl _))).append (List.Sublist.refl _))
        refine q { e with depth := j.m.masks, tops := ta } H4 ?_ rfl ⟨k.plan, k.ways, fun x hx => k.tops x (by rw [ht]; exact List.mem_append_left _ hx), k.bottom, k.begun, k.row⟩ o5
        unfold EngM.over
        rw [em]
        simp only
        rw [if_neg hov]
        unfold EngG.m
        dsimp only
        rw [ht]
        simp
      | bottom =>
        have hw : j.m.word = "bottom" := hw
        have hc : e.bottom = some j := hc
        refine s_if (b := false) (et_test (ev_is (ev_op (by walk_at "ev") ev_c (rv_eq rfl)) (by rw [hw]; rfl))) (fun h => by cases h) fun _ H3 e3 => ?_
        have o3 := o2.same e3
        have hj3 := job_get (e := { e with depth := j.m.masks }) o3 (c := .bottom) hc
        refine s_if (b := true) (et_test (ev_is (ev_op (by walk_at "ev") ev_c (rv_eq rfl)) (by rw [hw]; rfl))) (fun _ H4 e4 => ?_) fun h => by cases h
        refine s_fld (o3.same e4) 0 rfl (v := .non) ev_c (ev_var rfl) (cl_Engine T) (na_Engine_bottom T) (by show (12 : Nat) < 1000; decide) fun H5 o5 => ?_
        have o5 : Own G H5 ((EngG.head K { e with depth := j.m.masks, bottom := none } ++ tlO K e.ways e.tops e.bottom e.begun) ++ F) := o5
        have o6 : Own G H5 (({ e with depth := j.m.masks, bottom := none } : EngG).obs K ++ F) := o5.less (((List.Sublist.refl _).append (tl_sub (b' := none) (List.Sublist.refl _) (by exact List.nil_sublist _) (List.Sublist.refl _))).append (List.Sublist.refl _))
        refine q { e with depth := j.m.masks, bottom := none } H5 ?_ rfl ⟨k.plan, k.ways, k.tops, fun _ z => (nomatch z), k.begun, k.row⟩ o6
        unfold EngM.over
        rw [em]
        simp only
        rw [if_neg hov]
        rfl
      | thread n =>
        have hw : j.m.word = "thread" := hw
        have hc : e.begun.find? (fun j => jobN n j.m) = some j := hc
        have hn : j.m.name = n := by
          have z := List.find?_some hc
          exact of_decide_eq_true z
        refine s_if (b := false) (et_test (ev_is (ev_op (by walk_at "ev") ev_c (rv_eq rfl)) (by rw [hw]; rfl))) (fun h => by cases h) fun _ H3 e3 => ?_
        have o3 := o2.same e3
        have hj3 := job_get (e := { e with depth := j.m.masks }) o3 (c := .thread n) hc
        refine s_if (b := false) (et_test (ev_is (ev_op (by walk_at "ev") ev_c (rv_eq rfl)) (by rw [hw]; rfl))) (fun h => by cases h) fun _ H4 e4 => ?_
        have o4 := o3.same e4
        have hj4 := job_get (e := { e with depth := j.m.masks }) o4 (c := .thread n) hc
        refine s_fldL (xs := ((e.begun.filter fun o => !jobN n o.m).map refJ)) o4 0 rfl (el_lcO e.begun refJ (fun o => !jobN n o.m) refJ (by walk_at "ev") (sq_of (oi2 5 o4 rfl)) (by omega) (fun _ => rfl) (fun x hx => ?_) fun _ _ _ => ev_var rfl) (ev_var rfl) (cl_Engine T) (na_Engine_begun T) (by show (12 : Nat) < 1000; decide) fun p H5 o5 => ?_
        · have hx := eng_thr (e := { e with depth := j.m.masks }) o4 hx
          refine et_is (et_test (ev_op (by walk_at "ev") (by walk_at "ev") (rv_ne rfl))) ?_
          rw [str_dec, hn]
          rfl
        · have o5 : Own G H5 ((p, .lst ((e.begun.filter fun o => !jobN n o.m).map refJ)) :: (EngG.h5 K { e with depth := j.m.masks, aB := p, begun := e.begun.filter fun o => !jobN n o.m } ++ ((e.aB, .lst (e.begun.map refJ)) :: (e.h3 ++ (tlO K e.ways e.tops e.bottom e.begun ++ F))))) := o5
          have o6 := o5.less (M := (p, .lst ((e.begun.filter fun o => !jobN n o.m).map refJ)) :: (EngG.h5 K { e with depth := j.m.masks, aB := p, begun := e.begun.filter fun o => !jobN n o.m } ++ (e.h3 ++ (tlO K e.ways e.tops e.bottom (e.begun.filter fun o => !jobN n o.m) ++ F)))) (((List.Sublist.refl _).append (List.Sublist.cons _ ((List.Sublist.refl _).append ((tl_sub (List.Sublist.refl _) (List.Sublist.refl _) List.filter_sublist).append (List.Sublist.refl _))))).cons₂ _)
          have o6 : Own G H5 (({ e with depth := j.m.masks, aB := p, begun := e.begun.filter fun o => !jobN n o.m } : EngG).obs K ++ F) := o6.perm List.perm_middle.symm
          refine q { e with depth := j.m.masks, aB := p, begun := e.begun.filter fun o => !jobN n o.m } H5 ?_ rfl ⟨k.plan, k.ways, k.tops, k.bottom, fun x hx => k.begun x (List.mem_filter.mp hx).1, k.row⟩ o6
          unfold EngM.over
          rw [em]
          simp only
          rw [if_neg hov]
          unfold EngG.m
          dsimp only
          rw [List.filter_map]
          rfl
theorem setJob_at {e : EngM} {c : Cur} {j : JobM} (h : e.jobAt c = some j) (f : JobM → JobM) : e.setJob c f = e.setJob c fun _ => f j := by
  cases c with
  | top =>
    have h : e.tops.getLast? = some j := h
    show { e with tops := e.tops.dropLast ++ (e.tops.getLast?.map f).toList } = { e with tops := e.tops.dropLast ++ (e.tops.getLast?.map fun _ => f j).toList }
    rw [h]
    rfl
  | bottom =>
    have h : e.bottom = some j := h
    show { e with bottom := e.bottom.map f } = { e with bottom := e.bottom.map fun _ => f j }
    rw [h]
    rfl
  | thread n =>
    have h : e.begun.find? (jobN n) = some j := h
    obtain ⟨l, r, el, hp, hn⟩ := find_split h
    show { e with begun := upFirst (jobN n) f e.begun } = { e with begun := upFirst (jobN n) (fun _ => f j) e.begun }
    rw [el, upFirst_at hn hp, upFirst_at hn hp]
theorem step_cases {s : PyData} (h : isStepD s = true) (hr : ¬ wordD s = "run") : (wordD s = "mask" ∨ wordD s = "open") ∧ s = .tuple [.str (wordD s)] ∨ speaks (wordD s) ∧ ∃ n, s = .tuple [.str (wordD s), .str n] ∧ argD s = n := by
  obtain ⟨r, e⟩ := wordD_get h
  by_cases hm : wordD s = "mask" ∨ wordD s = "open"
  · refine .inl ⟨hm, ?_⟩
    have h2 : isStepW (wordD s) r = true := by rw [e] at h; exact h
    unfold isStepW at h2
    rw [if_pos hm] at h2
    cases r with
    | nil => exact e
    | cons a b => cases h2
  · have h2 : isStepW (wordD s) r = true := by rw [e] at h; exact h
    unfold isStepW at h2
    rw [if_neg hm] at h2
    match r, h2 with
    | [d], h2 =>
      simp only [if_neg hr] at h2
      obtain ⟨h3, _⟩ := ba h2
      have hs : speaks (wordD s) := by
        unfold speaks
        simpa using h3
      obtain ⟨n, h1, h2, _⟩ := step_speaks h hs
      exact .inr ⟨hs, n, h1, h2⟩
def QuickOk (e : EngG) (s : PyData) : Prop := (isStepD s = true ∧ ¬ wordD s = "run") ∧ (wordD s = "answer" → ∃ l, e.ways.find? (fun l => hasN (argD s) l.m) = some l) ∧ (wordD s = "wake" → ∃ v, e.woken.find? (fun p => decide (p.1 = argD s)) = some v) ∧
  (e.begun.length ≤ 100 ∧ e.ways.length ≤ 100 ∧ e.put.length ≤ 1000 ∧ e.woken.length ≤ 100) ∧ ∀ l ∈ e.ways, l.m.let_by.length ≤ 5000 ∧ (l.m.fresh = true → l.m.since.isSome = true)
def spQuick (K : PySem.W.Frag) : Sp := fun vs H Q _ => ∃ (G : Hp) (e : EngG) (F : List (Addr × HO)) (c : Cur) (j : JobG) (s : PyData), vs = [.ref e.a, .ref j.a] ∧ Own G H (e.obs K ++ F) ∧ EngK K G e ∧ e.jobAt c = some j ∧ j.m.word = roleW c ∧ j.m.ss[j.m.pos]? = some s ∧ QuickOk e s ∧
  ∀ (e' : EngG) H', e'.m = e.m.quick c → e'.a = e.a → EngK K G e' → Own G H' (e'.obs K ++ F) → Q .non H'
theorem q_star {te : TE} {σ : L2.St} {H : Hp} {a : Addr} {x : V} {xs : List V} {t : TGs} {tz : TS} {D : Ends} (h : Ev te σ H (.ref a)) (hx : SqT K H a (x :: xs)) (hl : xs.length < 1000) (k : ∀ p H1, Ex H H1 → H1 p = none → t [x, .ref p] σ (upd H1 p (.lst xs)) fun σ' H' => tz D σ' H') : tSeq (tAsg te (gStar K t)) tz D σ H :=
  h H (Ex.refl _) _ fun H1 e1 => ⟨a, x, xs, rfl, .inl (ex_t e1 hx), by omega, fun p n => k p H1 e1 n⟩
theorem ok_Engine_quick (T : Txt w K mg) : FnOk P w K mg base CX0 3 (f_Engine_quick K) (fdAt K (f_Engine_quick K)) ["self", "job"] (spQuick K) := by
  refine (df_Engine_quick T).ok sc_Engine_quick (fun vs H Q E h => ?_) (fun cdv A outer s H vs Q E hr h => ?_)
  · obtain ⟨G, e, F, c, j, s, rfl, _⟩ := h
    rfl
  · obtain ⟨G, e, F, c, j, s, rfl, o, k, hc, hw, hs, ⟨⟨hs1, hs2⟩, hans, hwake, ⟨z1, z2, z3, z4⟩, hls⟩, q⟩ := h
    have hu := hr.units
    have hu : _ + 1 < _ := Nat.lt_of_le_of_lt (Nat.add_le_add_left (by decide) _) hu
    refine ⟨_, PSs.nox ((pss_cons (ps_asg (pe_ix (ix_listK (K := K) rfl) (pe_fldK (K := K) rfl (pv 1) rfl) (pe_fldK (K := K) rfl (pv 1) rfl) (fun _ _ => rfl)) (pg_starK rfl (K := K) rfl (pgs_cons (pg_name (i := 2) sc_Engine_quick.nd rfl (Or.inl rfl)) (pgs_starred (pg_name (i := 3) sc_Engine_quick.nd rfl (Or.inl rfl)) pgs_nil))))
      (pss_cons (ps_fldaugK (K := K) rfl (pv 1) pe_int in_add)
      (pss_cons (ps_if (pt_cmpR (op_inK (K := K) rfl) (pv 2) (pe_tup (pa_cons pe_str (pa_cons pe_str pa_nil))) (by rfl)) (pss_one (ps_fldaugK (K := K) rfl (pv 0) (pe_ifExp (pt_cmpR op_eq (pv 2) pe_str (nomark _)) pe_int (pe_un un_neg pe_int)) in_add)) (pss_one (ps_if (pt_cmpR op_eq (pv 2) pe_str (nomark _)) (pss_one (ps_expr (pe_meth0 (pe_meth (pv 0) (cl_Engine T) (me_Engine_line_of T) (ok_Engine_line_of T) (hr.mono (by decide)) (bi_Engine_line_of T) .nil pass0 (pa_cons (pe_ix (ix_listK (K := K) rfl) (pv 3) pe_int (fun _ _ => rfl)) pa_nil)) (cl_Line T) (me_Line_answer T) (ok_Line_answer T) (hr.mono (by decide)) (bi_Line_answer T) .nil pass0))) (pss_one (ps_if (pt_cmpR op_eq (pv 2) pe_str (nomark _)) (pss_one (ps_daug hu (pe_fldK (K := K) rfl (pv 0) rfl) (pe_ix (ix_listK (K := K) rfl) (pv 3) pe_int (fun _ _ => rfl)) pe_int in_add (fun _ _ _ => rfl))) (pss_one (ps_if (pt_cmpR (op_notInK (K := K) rfl) (pe_ix (ix_listK (K := K) rfl) (pv 3) pe_int (fun _ _ => rfl)) (pe_fldK (K := K) rfl (pv 0) rfl) (by rfl)) (pss_one (ps_expr (pe_bm PySem.F.plainAttrs_list PySem.F.slot_list_append PySem.F.type_list_append mt_append (pe_fldK (K := K) rfl (pv 0) rfl) (pa_cons (pe_ix (ix_listK (K := K) rfl) (pv 3) pe_int (fun _ _ => rfl)) pa_nil)))) pss_nil)))))))
      (pss_one (ps_expr (pe_meth (pv 0) (cl_Engine T) (me_Engine_over T) (ok_Engine_over T) (hr.mono (by decide)) (bi_Engine_over T) .nil pass0 (pa_cons (pv 1) pa_nil)))))))), ?_⟩
    have hj := job_get o hc
    obtain ⟨t, xs, est, hx, hxs⟩ := job_K k hc
    have em : e.m.jobAt c = some j.m := by rw [jobAt_m, hc]; rfl
    have hst : List.lookup (Str.ofString "steps") j.fs = some (V.ref t) := by rw [← est]; rfl
    obtain ⟨x, hxi, hxd⟩ := DpAll.getD hxs hs
    -- word, *rest
    obtain ⟨a, ws, rfl, hsq, hws⟩ : ∃ a ws, x = .ref a ∧ SqT K G a (.str (wordD s) :: ws) ∧ ((wordD s = "mask" ∨ wordD s = "open") ∧ ws = [] ∨ speaks (wordD s) ∧ ws = [.str (argD s)]) := by
      rcases step_cases hs1 hs2 with ⟨h1, h2⟩ | ⟨h1, n, h2, h3⟩
      · rw [h2] at hxd
        obtain ⟨a, ys, rfl, hy, hd⟩ := dpT hxd
        obtain ⟨v, _, rfl, hv, hd⟩ := dpC hd
        obtain rfl := dpN hd
        rw [dpS hv] at hy
        exact ⟨a, [], rfl, hy, .inl ⟨h1, rfl⟩⟩
      · rw [h2] at hxd
        obtain ⟨a, ys, rfl, hy, hd⟩ := dpT hxd
        obtain ⟨v, _, rfl, hv, hd⟩ := dpC hd
        obtain ⟨v2, _, rfl, hv2, hd⟩ := dpC hd
        obtain rfl := dpN hd
        rw [dpS hv, dpS hv2] at hy
        exact ⟨a, [.str n], rfl, hy, .inr ⟨h1, by rw [h3]⟩⟩
    have hwl : ws.length < 1000 := by rcases hws with ⟨_, rfl⟩ | ⟨_, rfl⟩ <;> simp
    refine q_star (a := a) (x := .str (wordD s)) (xs := ws) (ev_op (ev_fl (ev_var rfl) hj (cl_Job T) (na_Job_steps T) hst) (by walk_at "ev") (rv_ixL (sL o.sub hx) (atI_nat hxi))) (sT o.sub hsq) hwl fun p H1 e1 np => ⟨_, _, rfl, _, _, rfl, rfl, ?_⟩
    obtain ⟨o1, sG⟩ := own_keep (o.same e1) (Ex.new np) np (upd_same (o := .lst ws))
    generalize upd H1 p (.lst ws) = H2 at o1
    generalize hG1 : upd G p (.lst ws) = G1 at o1 sG
    have hp1 : G1 p = some (.lst ws) := by rw [← hG1]; exact upd_same
    -- job.at += 1
    obtain ⟨wj, rest, f⟩ := focus K hc
    have o2 : Own G1 H2 (j.ob K :: (rest ++ F)) := o1.perm (by
      have z := (f.perm j.m).append_right F
      rw [f.self] at z
      exact z)
    refine q_faug o2 0 rfl (ev_var rfl) (cl_Job T) (na_Job_at T) (x := (j.m.pos : Int)) rfl ev_c (by show (7 : Nat) < 1000; decide) fun H3 o3 => ?_
    let X : JobM := { j.m with pos := j.m.pos + 1 }
    have o3 : Own G1 H3 ((wj X).obs K ++ F) := Own.perm (L := ({ j with m := X } : JobG).ob K :: (rest ++ F)) o3 ((f.perm X).append_right F).symm
    have f1 := f.at_ X rfl
    have f2 := f.K X G rfl k
    have f3 : (wj X).m = e.m.setJob c fun j => { j with pos := j.pos + 1 } := (f.m X).trans (setJob_at em fun j => { j with pos := j.pos + 1 }).symm
    obtain ⟨tt, bb, gg, ew⟩ := f.keep X
    have hgl : gg.length ≤ 100 := by
      have z : (wj X).begun.length = e.begun.length := by
        have y := congrArg (fun m : EngM => m.begun.length) (f.m X)
        have y1 : (wj X).m.begun.length = (wj X).begun.length := List.length_map ..
        have y2 : (e.m.setJob c fun _ => X).begun.length = e.begun.length := by
          cases c with
          | top => exact List.length_map ..
          | bottom => exact List.length_map ..
          | thread n =>
            have h' : e.m.begun.find? (jobN n) = some j.m := em
            obtain ⟨l, r, el, hp, hn⟩ := find_split h'
            show (upFirst (jobN n) (fun _ => X) e.m.begun).length = _
            have y3 : e.m.begun.length = e.begun.length := List.length_map ..
            rw [← y3, el, upFirst_at hn hp]
            simp
        rw [← y1]
        exact y.trans y2
      rw [ew] at z
      exact z ▸ z1
    rw [ew] at o3 f1 f2 f3
    have hP : ∀ {H4 : Hp} {L : List (Addr × HO)}, Own G1 H4 L → SqL K H4 p ws := fun o => sq_of (o.sub _ _ hp1)
    have estep : e.m.stepNow c = s := by
      unfold EngM.stepNow
      rw [em]
      show j.m.ss.getD j.m.pos .none = s
      rw [List.getD_eq_getElem?_getD, hs]
      rfl
    -- self.over(job)
    have fin : ∀ (e2 : EngG) (H4 : Hp), e2.m = ({ e with tops := tt, bottom := bb, begun := gg } : EngG).m.doStep s → e2.jobAt c = some { j with m := X } → e2.a = e.a → e2.begun.length ≤ 100 → EngK K G e2 → Own G1 H4 (e2.obs K ++ F) →
        tDrop (tMeth (g_Engine K) "over" (spOver K) [] E0 (tVar 0) (tCons (tVar 1) tNil)) { nx := fun x H' => Q V.non H', rt := Q } [some (.ref e.a), some (.ref j.a), some (.str (wordD s)), some (.ref p)] H4 := fun e2 H4 m1 m2 m3 m4 m5 m6 => by
      have o6 := m6.weak sG
      refine ⟨.ref e.a, rfl, e.a, e2.dx, e2.fs, rfl, by rw [← m3]; exact oi2 0 o6 rfl, rfl, .ref j.a, rfl, G, e2, F, c, { j with m := X }, by rw [m3]; rfl, o6, m5, m2, hw, m4, fun e3 H5 n1 n2 n3 n4 => q e3 H5 ?_ (n2.trans m3) n3 n4⟩
      rw [n1, m1, f3]
      unfold EngM.quick
      rw [estep]
    have inS : inV (.str (wordD s)) [.str "mask", .str "open"] = decide (wordD s = "mask" ∨ wordD s = "open") := by
      have z := inV_strs (wordD s) ["mask", "open"]
      simpa using z
    refine q_if (b := decide (wordD s = "mask" ∨ wordD s = "open")) (et_test (ev_is (ev_inU (xs := [.str "mask", .str "open"]) (ev_var rfl) (eu_tup (ea_cons ev_c (ea_cons ev_c ea_nil)) (by show (2 : Nat) ≤ 100000; decide)) rfl rfl) (by rw [inS]))) (fun hb H4 e4 => ?_) fun hb H4 e4 => ?_
    · have hb := of_decide_eq_true hb
      have o4 := o3.same e4
      refine s_faug o4 0 rfl (ev_var rfl) (cl_Engine T) (na_Engine_depth T) rfl (y := if wordD s = "mask" then 1 else -1) (ev_is (ev_if' (et_test (ev_op (ev_var rfl) ev_c (rv_eq rfl))) (fun _ => ev_c) fun _ => ev_un ev_c ru_neg) (by rw [str_dec]; by_cases h : wordD s = "mask" <;> simp [h])) (by show (12 : Nat) < 1000; decide) fun H5 o5 => ?_
      refine fin { e with tops := tt, bottom := bb, begun := gg, depth := e.depth + (if wordD s = "mask" then 1 else -1) } H5 ?_ (by cases c <;> exact f1) rfl hgl ⟨f2.plan, f2.ways, f2.tops, f2.bottom, f2.begun, f2.row⟩ o5
      unfold EngM.doStep
      rcases hb with h | h
      · rw [h]; rfl
      · rw [h]; rfl
    · have hb := of_decide_eq_false hb
      have hm1 : ¬ wordD s = "mask" := fun h => hb (.inl h)
      have hm2 : ¬ wordD s = "open" := fun h => hb (.inr h)
      obtain ⟨hsp, rfl⟩ : speaks (wordD s) ∧ ws = [.str (argD s)] := hws.resolve_left fun h => hb h.1
      have o4 := o3.same e4
      have restE : ∀ {H5 : Hp} {L : List (Addr × HO)}, Own G1 H5 L → Ev (tOp (rIxL K) (tVar 3) (tC (V.int 0))) [some (.ref e.a), some (.ref j.a), some (.str (wordD s)), some (.ref p)] H5 (.str (argD s)) := fun o => ev_op (ev_var rfl) ev_c (rv_ixL (hP o) at0)
      refine s_if (b := decide (wordD s = "answer")) (et_test (ev_is (ev_op (ev_var rfl) ev_c (rv_eq rfl)) (by rw [str_dec]))) (fun hb H5 e5 => ?_) fun hb H5 e5 => ?_
      · have hb := of_decide_eq_true hb
        have o5 := o4.same e5
        obtain ⟨l, hl⟩ := hans hb
        obtain ⟨wa, wb, ewl, hp, hn⟩ := find_split hl
        have hlm : l ∈ e.ways := by rw [ewl]; simp
        refine ⟨.ref e.a, rfl, e.a, e.dx, _, rfl, oi2 0 o5 rfl, rfl, ?_⟩
        refine (ea_cons (restE o5) ea_nil) H5 (Ex.refl _) _ fun H6 e6 => ?_
        have o6 := o5.same e6
        refine ⟨G1, { e with tops := tt, bottom := bb, begun := gg }, F, argD s, l, rfl, o6, z2, hl, fun H7 e7 => ?_⟩
        have o7 := o6.same e7
        obtain ⟨rst, pf⟩ := way_focus K (e := { e with tops := tt, bottom := bb, begun := gg }) ewl
        have o8 : Own G1 H7 (l.obs K ++ (rst ++ F)) := by
          have z := (pf l.m).append_right F
          have y : ({ e with tops := tt, bottom := bb, begun := gg, ways := wa ++ { l with m := l.m } :: wb } : EngG) = { e with tops := tt, bottom := bb, begun := gg } := by
            show ({ e with tops := tt, bottom := bb, begun := gg, ways := wa ++ l :: wb } : EngG) = _
            rw [← ewl]
          rw [y] at z
          rw [← List.append_assoc]
          exact o7.perm z
        refine ⟨l.a, l.dx, l.fs, rfl, oi2 0 o8 rfl, rfl, ?_⟩
        obtain ⟨lk1, lk2⟩ := hls l hlm
        refine ⟨G1, l, rst ++ F, rfl, o8, (f2.ways l hlm).mono sG, lk1, lk2, fun H8 o9 => ?_⟩
        have o10 : Own G1 H8 (({ e with tops := tt, bottom := bb, begun := gg, ways := wa ++ { l with m := l.m.answer } :: wb } : EngG).obs K ++ F) := by
          have z := (pf l.m.answer).append_right F
          rw [List.append_assoc] at z
          exact o9.perm z.symm
        refine fin { e with tops := tt, bottom := bb, begun := gg, ways := wa ++ { l with m := l.m.answer } :: wb } H8 ?_ (by cases c <;> exact f1) rfl hgl (way_K (e := { e with tops := tt, bottom := bb, begun := gg }) ewl f2 ?_ ?_) o10
        · unfold EngM.doStep
          rw [hb]
          show EngG.m _ = { EngG.m { e with tops := tt, bottom := bb, begun := gg } with ways := upFirst (hasN (argD s)) LineM.answer (e.ways.map (·.m)) }
          rw [ewl, List.map_append, List.map_cons, upFirst_at (fun y hy => ?_) hp]
          · unfold EngG.m
            dsimp only
            rw [List.map_append, List.map_cons]
          · obtain ⟨y', hy', rfl⟩ := List.mem_map.mp hy
            exact hn y' hy'
        · unfold LineM.answer; split <;> rfl
        · unfold LineM.answer; split <;> exact ⟨rfl, rfl, rfl⟩
      · have hb := of_decide_eq_false hb
        have o5 := o4.same e5
        refine s_if (b := decide (wordD s = "wake")) (et_test (ev_is (ev_op (ev_var rfl) ev_c (rv_eq rfl)) (by rw [str_dec]))) (fun hb2 H6 e6 => ?_) fun hb2 H6 e6 => ?_
        · have hb2 := of_decide_eq_true hb2
          have o6 := o5.same e6
          obtain ⟨v, hv⟩ := hwake hb2
          have hval : valV (e.woken.map fun p => ((Sum.inr p.1 : L2.Key), V.int p.2)) (Sum.inr (argD s)) = some (.int (e.m.wokenOf (argD s))) := by
            unfold valV EngM.wokenOf
            rw [find_map]
            have z : (fun a : Str × Int => decide ((Sum.inr a.1 : L2.Key) = Sum.inr (argD s))) = fun p => decide (p.1 = argD s) := by
              funext p
              by_cases h : p.1 = argD s
              · rw [h]; simp
              · have : ¬ (Sum.inr p.1 : L2.Key) = Sum.inr (argD s) := fun e => h (Sum.inr.inj e)
                simp [h, this]
            show ((e.woken.find? fun a => decide ((Sum.inr a.1 : L2.Key) = Sum.inr (argD s))).map fun p => ((Sum.inr p.1 : L2.Key), V.int p.2)).map (·.2) = some (.int (((e.woken.find? fun p => decide (p.1 = argD s)).map (·.2)).getD 0))
            rw [z, hv]
            rfl
          refine s_daug o6 4 rfl (q := Sum.inr (argD s)) (by walk_at "ev") (restE o6) hval ev_c (by rw [List.length_map]; exact Nat.le_trans z4 (by decide)) fun H7 o7 => ?_
          refine fin { e with tops := tt, bottom := bb, begun := gg, woken := e.woken.map fun p => if p.1 = argD s then (p.1, e.m.wokenOf (argD s) + 1) else p } H7 ?_ (by cases c <;> exact f1) rfl hgl ⟨f2.plan, f2.ways, f2.tops, f2.bottom, f2.begun, f2.row⟩ ?_
          · unfold EngM.doStep
            rw [hb2]
            rfl
          · have z : putK (e.woken.map fun p => ((Sum.inr p.1 : L2.Key), V.int p.2)) (Sum.inr (argD s)) (.int (e.m.wokenOf (argD s) + 1)) = (e.woken.map fun p => if p.1 = argD s then (p.1, e.m.wokenOf (argD s) + 1) else p).map fun p => ((Sum.inr p.1 : L2.Key), V.int p.2) := by
              unfold putK
              have hany : ((e.woken.map fun p => ((Sum.inr p.1 : L2.Key), V.int p.2)).any fun kv => decide (kv.1 = Sum.inr (argD s))) = true := by
                rw [List.any_map]
                refine List.any_eq_true.mpr ⟨v, List.mem_of_find?_eq_some hv, ?_⟩
                have := of_decide_eq_true (List.find?_some (p := fun p : Str × Int => decide (p.1 = argD s)) hv)
                show decide ((Sum.inr v.1 : L2.Key) = Sum.inr (argD s)) = true
                rw [this]
                simp
              rw [if_pos hany, List.map_map, List.map_map]
              refine List.map_congr_left fun p _ => ?_
              show (if (Sum.inr p.1 : L2.Key) = Sum.inr (argD s) then ((Sum.inr p.1 : L2.Key), V.int (e.m.wokenOf (argD s) + 1)) else (Sum.inr p.1, V.int p.2)) = ((Sum.inr (if p.1 = argD s then (p.1, e.m.wokenOf (argD s) + 1) else p).1 : L2.Key), V.int (if p.1 = argD s then (p.1, e.m.wokenOf (argD s) + 1) else p).2)
              by_cases h : p.1 = argD s
              · rw [if_pos (congrArg Sum.inr h), if_pos h]
              · rw [if_neg (fun e => h (Sum.inr.inj e)), if_neg h]
            have o7 := o7
            rw [z] at o7
            exact o7
        · have hb2 := of_decide_eq_false hb2
          have o6 := o5.same e6
          have hdo : ∀ m : EngM, m.doStep s = if argD s ∈ m.put then m else { m with put := m.put ++ [argD s] } := fun m => by
            unfold EngM.doStep
            rw [if_neg hm1, if_neg hm2, if_neg hb, if_neg hb2]
          refine s_when (b := !decide (argD s ∈ e.put)) (et_is (et_test (ev_op (restE o6) (by walk_at "ev") (rv_niL (sq_of (oi2 3 o6 rfl)) rfl (by rw [List.all_map]; exact List.all_eq_true.mpr fun _ _ => rfl)))) (by rw [inV_strs])) (fun hb3 H7 e7 => ?_) fun hb3 H7 e7 => ?_
          · have o7 := o6.same e7
            have hb3 : ¬ argD s ∈ e.put := by simpa using hb3
            refine s_appO o7 3 rfl (by walk_at "ev") (restE o7) (by rw [List.length_map]; exact Nat.lt_of_le_of_lt z3 (by decide)) fun H8 o8 => ?_
            refine fin { e with tops := tt, bottom := bb, begun := gg, put := e.put ++ [argD s] } H8 ?_ (by cases c <;> exact f1) rfl hgl ⟨f2.plan, f2.ways, f2.tops, f2.bottom, f2.begun, f2.row⟩ ?_
            · rw [hdo]
              exact (if_neg hb3).symm
            · have z : (e.put ++ [argD s]).map V.str = e.put.map V.str ++ [.str (argD s)] := by rw [List.map_append]; rfl
              unfold EngG.obs EngG.head EngG.fs
              dsimp only
              rw [z]
              exact o8
          · have hb3 : argD s ∈ e.put := by simpa using hb3
            refine fin { e with tops := tt, bottom := bb, begun := gg } H7 ?_ f1 rfl hgl f2 (o6.same e7)
            rw [hdo]
            exact (if_pos hb3).symm
end
end KW
end
section
set_option Elab.async false
set_option linter.all false
set_option autoImplicit false
set_option maxRecDepth 100000
set_option maxHeartbeats 400000
/-! engine.py: ready_thread, chosen -/
namespace KW
open PySem PySem.Spec PyProof.Rows L2 He KR Evl
local macro_rules
  | `(tactic| walk_at "na") => `(tactic| with_reducible (first | exact cl_Line (by assumption) | exact cl_Job (by assumption) | exact cl_Engine (by assumption) | exact cl_Plan (by assumption) | exact cl_Run (by assumption) | exact cl_Bench (by assumption) | exact na_Line_name (by assumption) | exact na_Line_rank (by assumption) | exact na_Line_is_up (by assumption) | exact na_Line_guard (by assumption) | exact na_Line_top (by assumption) | exact na_Line_let_by (by assumption) | exact na_Line_shut_till (by assumption) | exact na_Line_since (by assumption) | exact na_Line_fresh (by assumption) | exact na_Line_counts (by assumption) | exact na_Line_longest (by assumption) | exact na_Job_word (by assumption) | exact na_Job_name (by assumption) | exact na_Job_rank (by assumption) | exact na_Job_steps (by assumption) | exact na_Job_masks_then (by assumption) | exact na_Job_at (by assumption) | exact na_Job_left (by assumption) | exact na_Engine_plan (by assumption) | exact na_Engine_ways (by assumption) | exact na_Engine_tops (by assumption) | exact na_Engine_bottom (by assumption) | exact na_Engine_put_off (by assumption) | exact na_Engine_woken (by assumption) | exact na_Engine_begun (by assumption) | exact na_Engine_depth (by assumption) | exact na_Engine_now (by assumption) | exact na_Engine_row (by assumption) | exact na_Engine_depths (by assumption) | exact na_Engine_last_begun (by assumption) | exact na_Plan_row (by assumption) | exact na_Plan_low (by assumption) | exact na_Plan_late (by assumption) | exact na_Run_row (by assumption) | exact na_Run_depths (by assumption) | exact na_Run_table (by assumption) | exact na_Run_longest (by assumption) | exact na_Bench_engine (by assumption) | exact na_Bench_fresh (by assumption) | exact na_Bench_told_so_far (by assumption) | exact na_Bench_rows (by assumption)))
local macro_rules
  | `(tactic| walk_at "oi") => `(tactic| first | assumption | exact oi2 0 (by assumption) rfl | exact oi2 1 (by assumption) rfl | exact oi2 2 (by assumption) rfl | exact oi2 3 (by assumption) rfl | exact oi2 4 (by assumption) rfl | exact oi2 5 (by assumption) rfl | exact oi2 6 (by assumption) rfl | exact oi2 7 (by assumption) rfl | exact oi2 8 (by assumption) rfl)
local macro_rules
  | `(tactic| walk_at "ev") => `(tactic| repeat' (first
    | exact ev_c | exact ev_var rfl | exact ea_nil | exact rv_I0 | exact ru_neg | exact eo_none
    | exact rv_eq rfl | exact rv_ne rfl
    | exact rv_ixT (by assumption) (by rfl) | exact rv_ixL (by assumption) (by rfl)
    | exact sv_q (by assumption) (by assumption) | exact sv_within (by assumption)
    | exact Or.inr (by assumption) | exact Or.inl (by assumption) | (show (_ : String) ∈ _; decide)
    | with_reducible (first | apply ev_isi | apply ev_lenS | apply ev_if' | apply et_test | apply et_B | apply et_not | apply et_and | apply et_or | apply ev_andV | apply ev_orV | apply ev_notV | apply ea_cons | apply eo_some | apply ev_fl | apply ev_op | apply ev_un | apply ev_call)
    | walk_at "na" | walk_at "oi" | (show List.lookup _ _ = _; rfl)
    | assumption
    | (with_reducible intro hh; first | exact absurd (show true = false from hh) (by decide) | exact absurd (show false = true from hh) (by decide) | clear hh)))

section
variable {P : Program} {w : World} {K : PySem.W.Frag} {mg : Str → Option Value} {base : Heap}
theorem sc_Engine_ready_thread : FnScope ["self", "begun", "job", "fresh", "told", "best", "name", "rank", "steps"] ["self"] (defScope s_Engine_ready_thread) := ⟨rfl, rfl, rfl, by decide +kernel, rfl, by decide +kernel, by decide +kernel⟩
theorem sc_Engine_chosen : FnScope ["self", "line", "name", "steps", "told"] ["self"] (defScope s_Engine_chosen) := ⟨rfl, rfl, rfl, by decide +kernel, rfl, by decide +kernel, by decide +kernel⟩
/-- max(xs, key=rank_of), xs a list of objects -/
theorem max_objs {α : Type} (as : List α) (rf : α → V) (kx : α → Int) {tl : TE} {σ : L2.St} {H : Hp} {p : Addr} {Q : VK} (h : Ev tl σ H (.ref p)) (hx : SqL K H p (as.map rf)) (hne : as ≠ []) (hk : ∀ x ∈ as, ∃ a C dx fs, rf x = .ref a ∧ H a = some (.ins C dx fs) ∧ (C = g_Line K ∨ C = g_Job K) ∧ fs.lookup (Str.ofString "rank") = some (.int (kx x)))
    (q : ∀ x H1, Ex H H1 → x ∈ as → bestBy kx as = some x → Q (rf x) H1) : tCKw (rMaxKey K (f_rank_of K) (spRank K)) (tCons tl tNil) (tCons (tC (.ref (g_rank_of K))) tNil) σ H Q := h H (Ex.refl _) _ fun H1 e1 => by
  have hpos : 0 < as.length := List.length_pos_iff.mpr hne
  refine ⟨p, as.map rf, fun i => ((as[i]?).map kx).getD 0, rfl, rfl, ex_l e1 hx, by rw [List.length_map]; exact hpos, fun i v hi => ?_, fun i v hi hmax => ?_⟩
  · rw [List.getElem?_map] at hi
    cases hq : as[i]? with
    | none => rw [hq] at hi; cases hi
    | some x =>
      rw [hq] at hi
      cases hi
      obtain ⟨a, C, dx, fs, e2, h2, h3, h4⟩ := hk x (List.mem_of_getElem? hq)
      exact ⟨a, C, dx, fs, kx x, by rw [e2], e1 _ _ h2, h3, h4, by simp only [hq]; rfl, rfl⟩
  · rw [List.getElem?_map] at hi
    cases hq : as[i]? with
    | none => rw [hq] at hi; cases hi
    | some x =>
      rw [hq] at hi
      cases hi
      refine q x H1 e1 (List.mem_of_getElem? hq) (best_at kx as i x hq fun j y hj => ?_)
      have hlt : j < (as.map rf).length := by rw [List.length_map]; exact (List.getElem?_eq_some_iff.mp hj).1
      have z := hmax j hlt
      simp only [hq, hj, Option.map, Option.getD] at z
      exact z
theorem find_nodup {j : JobG} : ∀ {l : List JobG}, j ∈ l → (l.map (·.m.name)).Nodup → l.find? (fun x => jobN j.m.name x.m) = some j
  | [], h, _ => nomatch h
  | a :: r, h, nd => by
    rw [List.map_cons, List.nodup_cons] at nd
    rcases List.mem_cons.mp h with rfl | h
    · exact List.find?_cons_of_pos (decide_eq_true rfl)
    · have hne : ¬ jobN j.m.name a.m = true := fun e => nd.1 (by
        have : a.m.name = j.m.name := of_decide_eq_true e
        rw [this]
        exact List.mem_map.mpr ⟨j, h, rfl⟩)
      rw [List.find?_cons_of_neg (p := fun x : JobG => jobN j.m.name x.m) hne]
      exact find_nodup h nd.2
/-- what runs: its value -/
def CurV (e : EngG) : Option Cur → V → Prop
  | none, r => r = .non
  | some c, r => ∃ j, e.jobAt c = some j ∧ r = .ref j.a ∧ j.m.word = roleW c
def ThrOk (e : EngG) : Prop := (0 < e.depth → e.begun ≠ []) ∧ (∀ t ∈ e.T, isThreadD t = true ∧ ∃ v, e.woken.find? (fun p => decide (p.1 = nameD t)) = some v) ∧ (e.begun.map (·.m.name)).Nodup ∧ (∀ j ∈ e.begun, j.m.word = "thread") ∧ (e.begun.length ≤ 100 ∧ e.T.length ≤ 100 ∧ e.woken.length ≤ 100)
theorem ev_max {α : Type} (as : List α) (rf : α → V) (kx : α → Int) {tl : TE} {σ : L2.St} {H : Hp} {p : Addr} {x : α} (h : Ev tl σ H (.ref p)) (hx : SqL K H p (as.map rf)) (hb : bestBy kx as = some x) (hk : ∀ x ∈ as, ∃ a C dx fs, rf x = .ref a ∧ H a = some (.ins C dx fs) ∧ (C = g_Line K ∨ C = g_Job K) ∧ fs.lookup (Str.ofString "rank") = some (.int (kx x))) :
    Ev (tCKw (rMaxKey K (f_rank_of K) (spRank K)) (tCons tl tNil) (tCons (tC (.ref (g_rank_of K))) tNil)) σ H (rf x) := fun H1 e1 Q q =>
  max_objs as rf kx (h.mono e1) (ex_l e1 hx) (fun z => by rw [z] at hb; cases hb) (fun y hy => by
    obtain ⟨a, C, dx, fs, h1, h2, h3, h4⟩ := hk y hy
    exact ⟨a, C, dx, fs, h1, e1 _ _ h2, h3, h4⟩) fun y H2 e2 _ hb' => by
    rw [hb] at hb'
    cases hb'
    exact q H2 e2
theorem zip_da {G : Hp} : ∀ {xs : List V} {ds : List PyData}, DpAll K G xs ds → (∀ q ∈ xs.zip ds, Dp K G q.1 q.2) ∧ (xs.zip ds).map (·.1) = xs ∧ (xs.zip ds).map (·.2) = ds
  | _, _, .nil => ⟨fun _ h => (nomatch h), rfl, rfl⟩
  | _, _, .cons a b => by
    obtain ⟨h1, h2, h3⟩ := zip_da b
    refine ⟨fun q hq => ?_, ?_, ?_⟩
    · rcases List.mem_cons.mp hq with rfl | hq
      · exact a
      · exact h1 q hq
    · rw [List.zip_cons_cons, List.map_cons, h2]
    · rw [List.zip_cons_cons, List.map_cons, h3]
theorem woken_val {e : EngG} {n : Str} {v : Str × Int} (hv : e.woken.find? (fun p => decide (p.1 = n)) = some v) : valV (e.woken.map fun p => ((Sum.inr p.1 : L2.Key), V.int p.2)) (Sum.inr n) = some (.int (e.m.wokenOf n)) := by
  unfold valV EngM.wokenOf
  rw [find_map]
  have z : (fun a : Str × Int => decide ((Sum.inr a.1 : L2.Key) = Sum.inr n)) = fun p => decide (p.1 = n) := by
    funext p
    by_cases h : p.1 = n
    · rw [h]; simp
    · have : ¬ (Sum.inr p.1 : L2.Key) = Sum.inr n := fun e => h (Sum.inr.inj e)
      simp [h, this]
  show ((e.woken.find? fun a => decide ((Sum.inr a.1 : L2.Key) = Sum.inr n)).map fun p => ((Sum.inr p.1 : L2.Key), V.int p.2)).map (·.2) = some (.int (((e.woken.find? fun p => decide (p.1 = n)).map (·.2)).getD 0))
  rw [z, hv]
  rfl
theorem woken_put {e : EngG} {n : Str} {v : Str × Int} (hv : e.woken.find? (fun p => decide (p.1 = n)) = some v) (x : Int) : putK (e.woken.map fun p => ((Sum.inr p.1 : L2.Key), V.int p.2)) (Sum.inr n) (.int x) = (e.woken.map fun p => if p.1 = n then (p.1, x) else p).map fun p => ((Sum.inr p.1 : L2.Key), V.int p.2) := by
  unfold putK
  have hany : ((e.woken.map fun p => ((Sum.inr p.1 : L2.Key), V.int p.2)).any fun kv => decide (kv.1 = Sum.inr n)) = true := by
    rw [List.any_map]
    refine List.any_eq_true.mpr ⟨v, List.mem_of_find?_eq_some hv, ?_⟩
    have := of_decide_eq_true (List.find?_some (p := fun p : Str × Int => decide (p.1 = n)) hv)
    show decide ((Sum.inr v.1 : L2.Key) = Sum.inr n) = true
    rw [this]
    simp
  rw [if_pos hany, List.map_map, List.map_map]
  refine List.map_congr_left fun p _ => ?_
  show (if (Sum.inr p.1 : L2.Key) = Sum.inr n then ((Sum.inr p.1 : L2.Key), V.int x) else (Sum.inr p.1, V.int p.2)) = ((Sum.inr (if p.1 = n then (p.1, x) else p).1 : L2.Key), V.int (if p.1 = n then (p.1, x) else p).2)
  by_cases h : p.1 = n
  · rw [if_pos (congrArg Sum.inr h), if_pos h]
  · rw [if_neg (fun e => h (Sum.inr.inj e)), if_neg h]
theorem ev_dget {td ty : TE} {σ : L2.St} {H : Hp} {a : Addr} {kvs : List (L2.Key × V)} {kk : L2.Key} {v : V} (h1 : Ev td σ H (.ref a)) (h2 : Ev ty σ H (kV kk)) (hH : H a = some (.dK kvs)) (hv : valV kvs kk = some v) : Ev (tDGet td ty) σ H v := fun H1 e Q q =>
  h1 H1 e _ fun H2 e2 => h2 H2 (e.trans e2) _ fun H3 e3 => ⟨a, v, rfl, by rw [← hv]; exact DGet.k (((e.trans e2).trans e3) _ _ hH), q H3 (e2.trans e3)⟩
theorem pickT_snoc (b : Option JobM) (l : List PyData) (t : PyData) : EngM.pickT b (l ++ [t]) = EngM.pickT (EngM.pickT b l) [t] := by
  induction l generalizing b with
  | nil => rfl
  | cons a r ih => exact ih _
theorem best_in {α : Type} {k : α → Int} {r : List α} {y : α} (h : bestBy k r = some y) : y ∈ r := by
  obtain ⟨j, hj⟩ := best_at.best_mem k r y h
  exact List.mem_of_getElem? hj
theorem s_make {C : Addr} {sp : Sp} {E : XK} {ta : TA} {i : Nat} {D : Ends} {σ : L2.St} {H : Hp} {vs : List V} (ha : EvA ta σ H vs) (kk : ∀ H1 x dx, Ex H H1 → H1 x = none → H1 dx = none → dx ≠ x → sp (.ref x :: (vs ++ [])) (upd (upd H1 dx (.own x)) x (.ins C dx [])) (fun v H2 => v = .non ∧ D.nx (σ.set i (some (.ref x))) H2) E) : tAsg (tMake C sp [] E ta) (gName i) D σ H :=
  ha H (Ex.refl _) _ fun H1 e1 => fun x dx n1 n2 n3 => kk H1 x dx e1 n1 n2 n3
def spReadyT (K : PySem.W.Frag) : Sp := fun vs H Q _ => ∃ (G : Hp) (e : EngG) (F : List (Addr × HO)), vs = [.ref e.a] ∧ Own G H (e.obs K ++ F) ∧ EngK K G e ∧ ThrOk e ∧
  ∀ G' (e' : EngG) (c : Option Cur) (r : V) H', Same G G' → (e'.m, c) = e.m.readyThread → CurV e' c r → e'.a = e.a → EngK K G' e' → Own G' H' (e'.obs K ++ F) → Q r H'
theorem ok_Engine_ready_thread (T : Txt w K mg) : FnOk P w K mg base CX0 3 (f_Engine_ready_thread K) (fdAt K (f_Engine_ready_thread K)) ["self"] (spReadyT K) := by
  refine (df_Engine_ready_thread T).ok sc_Engine_ready_thread (fun vs H Q E h => ?_) (fun cdv A outer s H vs Q E hr h => ?_)
  · obtain ⟨G, e, F, rfl, _⟩ := h
    rfl
  · obtain ⟨G, e, F, rfl, o, k, ⟨hd, hT, hnd, hwd, zb, zT, zw⟩, q⟩ := h
    have hu := hr.units
    have hu : _ + 1 < _ := Nat.lt_of_le_of_lt (Nat.add_le_add_left (by decide) _) hu
    refine ⟨_, PSs.nox ((pss_cons (ps_if (pt_cmpR op_gt (pe_fldK (K := K) rfl (pv 0) rfl) pe_int (nomark _)) (pss_one (ps_ret (pe_callBK (cr_maxKey rfl (ok_rank_of T) (hr.mono (by decide)) (bi_rank_of T)) (by rfl) (fr_max T) (by decide +kernel) (pa_cons (pe_fldK (K := K) rfl (pv 0) rfl) pa_nil) (pk_cons (pe_glob (v := .ref (g_rank_of K)) rfl (gl_rank_of T) rfl) pk_nil)))) pss_nil)
      (pss_cons (ps_set (i := 1) sc_Engine_ready_thread.nd rfl (Or.inr rfl) (pe_lc (own := [("job", 2)]) (g := gName 2) (tt := tYes) rfl sc_Engine_ready_thread.nd (pi_listK (K := K) rfl (pe_fldK (K := K) rfl (pv 0) rfl)) (blkOk_by (N := ["self", "begun", "job", "fresh", "told", "best", "name", "rank", "steps"]) (sc := defScope s_Engine_ready_thread) (by decide +kernel)) (fun _ _ _ _ _ => pg_name (i := 2) sc_Engine_ready_thread.nd rfl (Or.inl rfl)) (fun _ _ _ _ _ => pts_nil) (fun _ _ _ _ _ => (pe_fldK (K := K) rfl (pv 2) rfl))))
      (pss_cons (ps_setLc (i := 3) (own := [("told", 4)]) (g := gName 4) rfl sc_Engine_ready_thread.nd rfl rfl (sw_true rfl rfl rfl (by decide +kernel)) (pi_listK (K := K) rfl (pe_fldK (K := K) rfl (pe_fldK (K := K) rfl (pv 0) rfl) rfl)) (blkOk_by (N := ["self", "begun", "job", "fresh", "told", "best", "name", "rank", "steps"]) (sc := defScope s_Engine_ready_thread) (by decide +kernel)) (fun _ _ _ _ _ => pg_name (i := 4) sc_Engine_ready_thread.nd rfl (Or.inl rfl)) (fun _ _ _ _ _ => (pts_one (PW.pt (pw_and (pt_cmpR (op_notInK (K := K) rfl) (pe_ix (ix_tupK (K := K) rfl) (pv 4) pe_int (fun _ _ => rfl)) (pv 1) (by rfl)) (pw_and1 (pt_cmpR op_gt (pe_dget hu (pe_fldK (K := K) rfl (pv 0) rfl) (pe_ix (ix_tupK (K := K) rfl) (pv 4) pe_int (fun _ _ => rfl)) (fun _ _ => rfl)) pe_int (nomark _))))))) (fun _ _ _ _ _ => (pv 4)))
      (pss_cons (ps_set (i := 5) sc_Engine_ready_thread.nd rfl (Or.inl rfl) (pe_ifExp (pt_cmpR (op_neNilK (hu0 hr) (K := K) rfl) (pe_fldK (K := K) rfl (pv 0) rfl) (pe_lst pa_nil) (nomark _)) (pe_callBK (cr_maxKey rfl (ok_rank_of T) (hr.mono (by decide)) (bi_rank_of T)) (by rfl) (fr_max T) (by decide +kernel) (pa_cons (pe_fldK (K := K) rfl (pv 0) rfl) pa_nil) (pk_cons (pe_glob (v := .ref (g_rank_of K)) rfl (gl_rank_of T) rfl) pk_nil)) pe_non))
      (pss_cons (ps_for PassesOwn.never rfl (pi_listK (K := K) rfl (pv 3)) (pg_tupK rfl (K := K) rfl (pgs_cons (pg_name (i := 6) sc_Engine_ready_thread.nd rfl (Or.inl rfl)) (pgs_cons (pg_name (i := 7) sc_Engine_ready_thread.nd rfl (Or.inl rfl)) (pgs_cons (pg_name (i := 8) sc_Engine_ready_thread.nd rfl (Or.inl rfl)) pgs_nil)))) (pss_one (ps_if (PW.pt (pw_or (pt_cmp (pc_isN (pv 5)) rfl) (pw_or1 (pt_cmpR op_gt (pv 7) (pe_fldK (K := K) rfl (pv 5) rfl) (nomark _))))) (pss_one (ps_set (i := 5) sc_Engine_ready_thread.nd rfl (Or.inl rfl) (pe_make (mk_Job T) (ok_Job_init T) (hr.mono (by decide)) rfl (gl_Job T) (bi_Job_init T) .nil pass0 (pa_cons pe_str (pa_cons (pv 6) (pa_cons (pv 7) (pa_cons (pv 8) (pa_cons pe_int pa_nil)))))))) pss_nil)))
      (pss_cons (ps_if (PW.pt (pw_and (pt_cmp (pc_notN (pv 5)) rfl) (pw_and1 (pt_cmpR (op_notInK (K := K) rfl) (pe_fldK (K := K) rfl (pv 5) rfl) (pv 1) (by rfl))))) (pss_cons (ps_daug hu (pe_fldK (K := K) rfl (pv 0) rfl) (pe_fldK (K := K) rfl (pv 5) rfl) pe_int in_sub (fun _ _ _ => rfl))
      (pss_one (ps_expr (pe_bm PySem.F.plainAttrs_list PySem.F.slot_list_append PySem.F.type_list_append mt_append (pe_fldK (K := K) rfl (pv 0) rfl) (pa_cons (pv 5) pa_nil))))) pss_nil)
      (pss_one (ps_ret (pv 5)))))))))), ?_⟩
    have hrk : ∀ {H1 : Hp}, Own G H1 (e.obs K ++ F) → ∀ x ∈ e.begun, ∃ a C dx fs, refJ x = .ref a ∧ H1 a = some (.ins C dx fs) ∧ (C = g_Line K ∨ C = g_Job K) ∧ fs.lookup (Str.ofString "rank") = some (.int x.m.rank) := fun o x hx => ⟨x.a, _, x.dx, x.fs, rfl, eng_thr o hx, .inr rfl, rfl⟩
    have ebest : bestBy (·.rank) e.m.begun = (bestBy (fun j : JobG => j.m.rank) e.begun).map (·.m) := best_map _ _ _
    refine q_when (b := decide (0 < e.depth)) (et_test (by walk_at "ev")) (fun hb H1 e1 => ?_) fun hb H1 e1 => ?_
    · have o1 := o.same e1
      have hb := of_decide_eq_true hb
      refine max_objs e.begun refJ (fun j => j.m.rank) (by walk_at "ev") (sq_of (oi2 5 o1 rfl)) (hd hb) (hrk o1) fun j H2 e2 hj hbst => ?_
      refine q G e (some (.thread j.m.name)) _ H2 (Same.refl _) ?_ ⟨j, find_nodup hj hnd, rfl, hwd j hj⟩ rfl k (o1.same e2)
      unfold EngM.readyThread
      rw [if_pos (show 0 < e.m.depth from hb), ebest, hbst]
      rfl
    · have hb := of_decide_eq_false hb
      have o1 := o.same e1
      refine q_asgL (xs := (e.begun.map fun j => V.str j.m.name)) (el_lcOy e.begun refJ (fun j => V.str j.m.name) (by walk_at "ev") (sq_of (oi2 5 o1 rfl)) (by omega) (fun _ => rfl) fun j hj => by
        have hj := eng_thr o1 hj
        walk_at "ev") fun pb H2 npb e2 hpb => ?_
      have o2 := o1.same e2
      have hnames : (e.begun.map fun j => V.str j.m.name) = (e.begun.map fun j => j.m.name).map V.str := by rw [List.map_map]; rfl
      obtain ⟨pdx, r1, r2, r3, y1, y2, y3, hp0, _, _, hp3, hd3⟩ := k.plan
      obtain ⟨zq, zf, zs⟩ := zip_da hd3
      have hz3 : (y3.zip e.T).length = e.T.length := by rw [← zs]; simp
      let pr : V × PyData → Bool := fun q => !decide (nameD q.2 ∈ e.begun.map fun j => j.m.name) && decide (0 < e.m.wokenOf (nameD q.2))
      refine q_asgL (xs := ((y3.zip e.T).filter pr).map (·.1)) (el_lcO (y3.zip e.T) (·.1) pr (·.1) (ev_fl (ev_fl (ev_var rfl) (oi2 0 o2 rfl) (cl_Engine T) (na_Engine_plan T) rfl) (o2.sub _ _ hp0) (cl_Plan T) (na_Plan_late T) rfl) (by rw [zf]; exact sq_of (o2.sub _ _ hp3)) (by omega) (fun _ => rfl) (fun x hx => ?_) fun _ _ _ => ev_var rfl) fun pf H3 npf e3 hpf => ?_
      · have hm : x.2 ∈ e.T := by rw [← zs]; exact List.mem_map.mpr ⟨x, hx, rfl⟩
        obtain ⟨hth, v, hv⟩ := hT _ hm
        have hxd := zq x hx
        obtain ⟨n, r, ss, et, _, _, _⟩ := thread_inv hth
        have hn : nameD x.2 = n := by rw [et]; rfl
        rw [et] at hxd
        obtain ⟨a, zs', ea, hy, hdd⟩ := dpT hxd
        obtain ⟨v0, _, rfl, h0, _⟩ := dpC hdd
        rw [dpS h0] at hy
        rw [ea]
        have told0 : Ev (tOp (rIxT K) (tVar 4) (tC (V.int 0))) [some (V.ref e.a), some (V.ref pb), none, none, some (V.ref a), none, none, none, none] H2 (.str n) := ev_op (ev_var rfl) ev_c (rv_ixT (sT o2.sub hy) at0)
        show EvT _ _ _ (!decide (nameD x.2 ∈ e.begun.map fun j => j.m.name) && decide (0 < e.m.wokenOf (nameD x.2)))
        rw [hn] at hv ⊢
        refine et_and (et_is (et_test (ev_op told0 (ev_var rfl) (rv_niL (sq_of hpb) rfl (by rw [hnames, List.all_map]; exact List.all_eq_true.mpr fun _ _ => rfl)))) (by rw [hnames, inV_strs])) fun _ => et_test (ev_op (ev_dget (kk := Sum.inr n) (by walk_at "ev") told0 (oi2 4 o2 rfl) (woken_val hv)) ev_c rv_I0)
      · have o3 := o2.same e3
        generalize hfr : (y3.zip e.T).filter pr = fr at hpf
        have hfrm : ∀ q ∈ fr, Dp K G q.1 q.2 ∧ isThreadD q.2 = true ∧ (∃ v, e.woken.find? (fun p => decide (p.1 = nameD q.2)) = some v) ∧ nameD q.2 ∉ e.begun.map fun j => j.m.name := fun q hq => by
          rw [← hfr] at hq
          obtain ⟨h1, h2⟩ := List.mem_filter.mp hq
          have hm : q.2 ∈ e.T := by rw [← zs]; exact List.mem_map.mpr ⟨q, h1, rfl⟩
          obtain ⟨h3, _⟩ := ba h2
          exact ⟨zq q h1, (hT _ hm).1, (hT _ hm).2, by simpa using h3⟩
        have hfrT : e.m.freshT = fr.map (·.2) := by
          rw [← hfr]
          show e.T.filter _ = _
          conv => lhs; rw [← zs]
          rw [List.filter_map]
          congr 1
          apply List.filter_congr
          intro q _
          show (!decide (nameD q.2 ∈ (e.begun.map (·.m)).map (·.name)) && decide (0 < e.m.wokenOf (nameD q.2))) = pr q
          rw [List.map_map]
          rfl
        have hbestV : Ev (tIf (tTest (tOp (rNil K true) (tFld K (tVar 0) (Str.ofString "begun")) (tLst tNil))) (tCKw (rMaxKey K (f_rank_of K) (spRank K)) (tCons (tFld K (tVar 0) (Str.ofString "begun")) tNil) (tCons (tC (V.ref (g_rank_of K))) tNil)) (tC V.non)) [some (V.ref e.a), some (V.ref pb), none, some (V.ref pf), none, none, none, none, none] H3 (optJ (bestBy (fun j : JobG => j.m.rank) e.begun)) := by
          have hB := sq_of (K := K) (oi2 5 o3 rfl : H3 e.aB = some (.lst (e.begun.map refJ)))
          have hBe : Ev (tFld K (tVar 0) (Str.ofString "begun")) [some (V.ref e.a), some (V.ref pb), none, some (V.ref pf), none, none, none, none, none] H3 (.ref e.aB) := by walk_at "ev"
          refine ev_if (b := !(e.begun.map refJ).isEmpty) (et_test (ev_opL (xs := []) hBe (el_lst ea_nil (by decide)) fun p H4 hp e4 => fun H5 e5 Q q => ⟨e.aB, p, e.begun.map refJ, rfl, rfl, ex_l (e4.trans e5) hB, ex_l e5 (sq_of hp), q H5 (Ex.refl _)⟩)) (fun hne => ?_) fun hne => ?_
          · cases hbb : bestBy (fun j : JobG => j.m.rank) e.begun with
            | none =>
              exfalso
              cases hbg : e.begun with
              | nil => rw [hbg] at hne; cases hne
              | cons a r =>
                rw [hbg] at hbb
                unfold bestBy at hbb
                split at hbb
                · cases hbb
                · split at hbb <;> cases hbb
            | some j => exact ev_max e.begun refJ (fun j => j.m.rank) hBe hB hbb (hrk o3)
          · have : e.begun = [] := by cases h : e.begun with | nil => rfl | cons a r => rw [h] at hne; cases hne
            rw [this]
            exact ev_c
        refine q_asg hbestV fun H4 e4 => ?_
        have k2 := own_keep o1 e2 npb hpb
        have k3 := own_keep k2.1 e3 npf hpf
        have o4 := k3.1.same e4
        have sG : Same G _ := k2.2.trans k3.2
        have gpb := k3.2 _ _ (upd_same (H := G) (a := pb) (o := HO.lst (e.begun.map fun j => V.str j.m.name)))
        have gpf : _ = some (HO.lst (fr.map (·.1))) := upd_same (H := _root_.L2.upd G pb (.lst (e.begun.map fun j => V.str j.m.name))) (a := pf) (o := HO.lst (fr.map (·.1)))
        generalize _root_.L2.upd (_root_.L2.upd G pb (.lst (e.begun.map fun j => V.str j.m.name))) pf (.lst (fr.map (·.1))) = G3 at o4 sG gpb gpf
        let b0 := bestBy (fun j : JobG => j.m.rank) e.begun
        let NwOk : Option JobG → List JobG → Prop := fun b nw => (nw = [] ∧ b = b0) ∨ ∃ j, nw = [j] ∧ b = some j ∧ j.m.word = "thread" ∧ StepsK K G j.steps j.m.ss ∧ j.m.name ∉ (e.begun.map fun j => j.m.name) ∧ ∃ v, e.woken.find? (fun p => decide (p.1 = j.m.name)) = some v
        have jobIn : ∀ {b : Option JobG} {nw : List JobG} {H5 : Hp} {j : JobG}, NwOk b nw → Own G3 H5 (nw.map (JobG.ob K) ++ (e.obs K ++ F)) → b = some j → H5 j.a = some (.ins (g_Job K) j.dx j.fs) := fun {b nw H5 j} hn o5 hb => by
          rcases hn with ⟨rfl, rfl⟩ | ⟨j', rfl, rfl, _⟩
          · exact eng_thr (o5 : Own G3 H5 (e.obs K ++ F)) (best_in hb)
          · cases hb
            exact o5.get (List.mem_cons_self ..)
        refine q_forL (xs := fr.map (·.1)) (ev_var rfl) (sq_of (o4.sub _ _ gpf)) (fun i σ' H' => ∃ (b : Option JobG) (nw : List JobG) (s6 s7 s8 : Option V), σ' = [some (V.ref e.a), some (V.ref pb), none, some (V.ref pf), none, some (optJ b), s6, s7, s8] ∧ NwOk b nw ∧ Own G3 H' (nw.map (JobG.ob K) ++ (e.obs K ++ F)) ∧ b.map (·.m) = EngM.pickT (b0.map (·.m)) ((fr.map (·.2)).take i))
          (fun H5 e5 => ⟨b0, [], none, none, none, rfl, .inl ⟨rfl, rfl⟩, o4.same e5, rfl⟩) (fun i σ' H' _ ⟨_, _, _, _, _, _, _, o5, _⟩ => sq_of (o5.sub _ _ gpf)) (fun i x σ' H' hi ⟨b, nw, s6, s7, s8, es, hn, o5, hp⟩ => ?_) (fun σ' H' ⟨b, nw, s6, s7, s8, es, hn, o5, hp⟩ => ?_)
        · subst es
          rw [List.getElem?_map] at hi
          cases hq : fr[i]? with
          | none => rw [hq] at hi; cases hi
          | some q0 =>
            rw [hq] at hi
            cases hi
            obtain ⟨hxd, hth, hv, hni⟩ := hfrm q0 (List.mem_of_getElem? hq)
            obtain ⟨n, r, ss, et, _, _, _⟩ := thread_inv hth
            have en : nameD q0.2 = n := by rw [et]; rfl
            have er : rankD q0.2 = r := by rw [et]; rfl
            have ess : stepsD q0.2 = ss := by rw [et]; rfl
            have etk : (fr.map (·.2)).take (i + 1) = (fr.map (·.2)).take i ++ [q0.2] := by rw [List.take_add_one, List.getElem?_map, hq]; rfl
            rw [et] at hxd
            obtain ⟨a, zs', ea, hy, hdd⟩ := dpT hxd
            obtain ⟨v0, _, rfl, h0, hdd⟩ := dpC hdd
            obtain ⟨v1, _, rfl, h1, hdd⟩ := dpC hdd
            obtain ⟨v2, _, rfl, h2, hdd⟩ := dpC hdd
            obtain rfl := dpN hdd
            obtain ⟨l, ls, rfl, hl1, hl2⟩ := dpL h2
            rw [dpS h0, dpI h1] at hy
            refine ⟨a, _, ea, sT (sG.trans o5.sub) hy, rfl, _, _, rfl, _, _, rfl, _, _, rfl, rfl, ?_⟩
            have tst : EvT (tOr (tB (tIsN (tVar 5))) (tTest (tOp (rI0 fun i j => V.bl (decide (j < i))) (tVar 7) (tFld K (tVar 5) (Str.ofString "rank"))))) [some (V.ref e.a), some (V.ref pb), none, some (V.ref pf), none, some (optJ b), some (.str n), some (.int r), some (.ref l)] H' (match b with | none => true | some j => decide (j.m.rank < r)) := by
              cases b with
              | none => exact et_is (b := true) (et_or (a := true) (b := true) (et_B fun H1 _ Q q => ⟨_, rfl, q H1 (Ex.refl _)⟩) fun h => by cases h) rfl
              | some j =>
                have hj := jobIn hn o5 rfl
                exact et_is (b := decide (j.m.rank < r)) (et_or (a := false) (b := decide (j.m.rank < r)) (et_B fun H1 _ Q q => ⟨_, rfl, q H1 (Ex.refl _)⟩) fun _ => et_test (ev_op (ev_var rfl) (ev_fl (ev_var rfl) hj (cl_Job T) (na_Job_rank T) rfl) rv_I0)) rfl
            refine s_when tst (fun hb1 H5 e5 => ?_) fun hb1 H5 e5 => ?_
            · have o6 := (o5.same e5).right
              refine s_make (ea_cons ev_c (ea_cons (ev_var rfl) (ea_cons (ev_var rfl) (ea_cons (ev_var rfl) (ea_cons ev_c ea_nil))))) fun H6 x dx e6 nx ndx hne => ?_
              refine ⟨G3, e.obs K ++ F, x, dx, "thread", n, r, 0, .ref l, ss, rfl, Own.new ((o6.same e6).same (Ex.new ndx)) (by rw [upd_ne (Ne.symm hne)]; exact nx), fun H7 o7 => ⟨rfl, ?_⟩⟩
              refine ⟨some { a := x, dx := dx, steps := .ref l, m := EngM.newJob "thread" n r ss 0 }, [_], _, _, _, rfl, .inr ⟨_, rfl, rfl, rfl, ⟨l, ls, rfl, hl1, hl2⟩, by rw [← en]; exact hni, by rw [← en]; exact hv⟩, o7, ?_⟩
              rw [etk, pickT_snoc, ← hp]
              show some (EngM.newJob "thread" n r ss 0) = (if (match b.map (·.m) with | none => true | some j => decide (j.rank < rankD q0.2)) = true then some (EngM.newJob "thread" (nameD q0.2) (rankD q0.2) (stepsD q0.2) 0) else b.map (·.m))
              rw [en, er, ess]
              cases b with
              | none => rfl
              | some j => exact (if_pos hb1).symm
            · refine ⟨b, nw, _, _, _, rfl, hn, o5.same e5, ?_⟩
              rw [etk, pickT_snoc, ← hp]
              show b.map (·.m) = (if (match b.map (·.m) with | none => true | some j => decide (j.rank < rankD q0.2)) = true then some (EngM.newJob "thread" (nameD q0.2) (rankD q0.2) (stepsD q0.2) 0) else b.map (·.m))
              rw [er]
              cases b with
              | none => cases hb1
              | some j => exact (if_neg (by show ¬ decide (j.m.rank < r) = true; rw [show decide (j.m.rank < r) = false from hb1]; decide)).symm
        · subst es
          rw [List.length_map, List.take_of_length_le (by rw [List.length_map]; exact Nat.le_refl _)] at hp
          have hpick : EngM.pickT (bestBy (·.rank) e.m.begun) e.m.freshT = b.map (·.m) := by rw [ebest, hfrT, hp]
          have ert : e.m.readyThread = match b.map (·.m) with
              | none => (e.m, none)
              | some j => if j.name ∈ e.m.begun.map (·.name) then (e.m, some (.thread j.name)) else ({ e.m.addW j.name (-1) with begun := e.m.begun ++ [j] }, some (.thread j.name)) := by
            unfold EngM.readyThread
            rw [if_neg (show ¬ 0 < e.m.depth from hb), hpick]
            all_goals (cases b <;> rfl)
          have embn : e.m.begun.map (·.name) = e.begun.map fun j => j.m.name := by
            show (e.begun.map (·.m)).map (·.name) = _
            rw [List.map_map]
            rfl
          rw [embn] at ert
          have nn : ∀ {v : V} {H5 : Hp} {s6 s7 s8 : Option V}, Ev (tNotN (tVar 5)) [some (V.ref e.a), some (V.ref pb), none, some (V.ref pf), none, some v, s6, s7, s8] H5 (.bl (!decide (v = .non))) := fun {v H5 s6 s7 s8} => ev_notN (ev_var rfl)
          rcases hn with ⟨rfl, rfl⟩ | ⟨j, rfl, rfl, hjw, hjs, hjn, v, hv⟩
          · have o5 : Own G3 H' (e.obs K ++ F) := o5
            cases hbb : b0 with
            | none =>
              rw [hbb] at ert
              refine q_when (b := false) (et_and (a := false) (b := true) (et_B nn) fun h => by cases h) (fun h => by cases h) fun _ H5 e5 => ?_
              exact s_ret (ev_var rfl) fun H6 e6 => q G e none .non H6 (Same.refl _) ert.symm rfl rfl k (((o5.same e5).same e6).weak sG)
            | some j =>
              rw [hbb] at ert
              have hjm : j ∈ e.begun := best_in hbb
              have hin : j.m.name ∈ e.begun.map fun j => j.m.name := List.mem_map.mpr ⟨j, hjm, rfl⟩
              have hj := eng_thr o5 hjm
              refine q_when (b := false) (et_is (b := false) (et_and (a := true) (b := !decide (j.m.name ∈ e.begun.map fun j => j.m.name)) (et_B nn) fun _ => et_is (et_test (ev_op (ev_fl (ev_var rfl) hj (cl_Job T) (na_Job_name T) rfl) (ev_var rfl) (rv_niL (sq_of (o5.sub _ _ gpb)) rfl (by rw [hnames, List.all_map]; exact List.all_eq_true.mpr fun _ _ => rfl)))) (by rw [hnames, inV_strs])) (by simp [hin])) (fun h => by cases h) fun _ H5 e5 => ?_
              refine s_ret (ev_var rfl) fun H6 e6 => q G e (some (.thread j.m.name)) (.ref j.a) H6 (Same.refl _) ?_ ⟨j, find_nodup hjm hnd, rfl, hwd j hjm⟩ rfl k (((o5.same e5).same e6).weak sG)
              rw [ert]
              exact (if_pos hin).symm
          · have o5 : Own G3 H' (j.ob K :: (e.obs K ++ F)) := o5
            have hj : H' j.a = some (.ins (g_Job K) j.dx j.fs) := o5.get (List.mem_cons_self ..)
            refine q_when (b := true) (et_is (b := true) (et_and (a := true) (b := !decide (j.m.name ∈ e.begun.map fun j => j.m.name)) (et_B nn) fun _ => et_is (et_test (ev_op (ev_fl (ev_var rfl) hj (cl_Job T) (na_Job_name T) rfl) (ev_var rfl) (rv_niL (sq_of (o5.sub _ _ gpb)) rfl (by rw [hnames, List.all_map]; exact List.all_eq_true.mpr fun _ _ => rfl)))) (by rw [hnames, inV_strs])) (by simp [hjn])) (fun _ H5 e5 => ?_) fun h => by cases h
            have o6 := o5.same e5
            have hj6 : H5 j.a = some (.ins (g_Job K) j.dx j.fs) := o6.get (List.mem_cons_self ..)
            refine q_dsub o6 5 rfl (q := Sum.inr j.m.name) (by walk_at "ev") (ev_fl (ev_var rfl) hj6 (cl_Job T) (na_Job_name T) rfl) (woken_val hv) ev_c (by rw [List.length_map]; omega) fun H6 o7 => ?_
            rw [woken_put hv] at o7
            refine s_appO o7 6 rfl (v := .ref j.a) (by walk_at "ev") (ev_var rfl) (by rw [List.length_map]; omega) fun H7 o8 => ?_
            let e' : EngG := { e with woken := e.woken.map fun p => if p.1 = j.m.name then (p.1, e.m.wokenOf j.m.name - 1) else p, begun := e.begun ++ [j] }
            have o9 : Own G3 H7 (j.ob K :: ((EngG.head K e' ++ tlO K e.ways e.tops e.bottom e.begun) ++ F)) := by
              have z : e'.begun.map refJ = e.begun.map refJ ++ [.ref j.a] := by
                show (e.begun ++ [j]).map refJ = _
                rw [List.map_append]
                rfl
              unfold EngG.head
              rw [z]
              exact o8
            have o10 : Own G H7 (e'.obs K ++ F) := by
              have z : e'.obs K ++ F = (EngG.head K e' ++ tlO K e.ways e.tops e.bottom e.begun) ++ (j.ob K :: F) := by
                show (EngG.head K e' ++ (e.ways.flatMap (LineG.obs K) ++ (e.tops.map (JobG.ob K) ++ (e.bottom.toList.map (JobG.ob K) ++ (e.begun ++ [j]).map (JobG.ob K))))) ++ F = _
                unfold tlO
                simp [List.append_assoc]
              rw [z]
              exact (o9.perm List.perm_middle.symm).weak sG
            have hnd' : (e'.begun.map (·.m.name)).Nodup := by
              show ((e.begun ++ [j]).map (·.m.name)).Nodup
              rw [List.map_append, List.nodup_append]
              refine ⟨hnd, by simp, fun a ha b hb => ?_⟩
              rw [List.mem_singleton.mp hb]
              exact fun q2 => hjn (show j.m.name ∈ _ from (show a = j.m.name from q2) ▸ ha)
            refine s_ret (ev_var rfl) fun H8 e8 => q G e' (some (.thread j.m.name)) (.ref j.a) H8 (Same.refl _) ?_ ⟨j, find_nodup (List.mem_append_right _ (List.mem_singleton.mpr rfl)) hnd', rfl, hjw⟩ rfl ⟨k.plan, k.ways, k.tops, k.bottom, fun x hx => ?_, k.row⟩ (o10.same e8)
            · rw [ert]
              refine Eq.trans ?_ (if_neg hjn).symm
              show (EngG.m e', _) = _
              unfold EngG.m
              dsimp only [e']
              rw [List.map_append]
              rfl
            · rcases List.mem_append.mp hx with hx | hx
              · exact k.begun x hx
              · rw [List.mem_singleton.mp hx]
                exact hjs
end
end KW
end
section

set_option Elab.async false
set_option linter.all false
set_option autoImplicit false
set_option maxRecDepth 100000
set_option maxHeartbeats 400000
/-! what holds of an engine between its steps -/
namespace KW
open PySem
def deepN (ss : List PyData) (n : Nat) : Int := ((ss.take n).map fun s => deepOf (wordD s)).sum
def JobM.deep (j : JobM) : Int := deepN j.ss j.pos
def SpkOk (n1 n2 n3 : List Str) (ss : List PyData) : Prop := ∀ s ∈ ss, (wordD s = "answer" → argD s ∈ n1) ∧ (wordD s = "later" → argD s ∈ n2) ∧ (wordD s = "wake" → argD s ∈ n3)
structure StOk (m : EngM) (ss : List PyData) : Prop where
  st : areStepsL ss = true
  sp : SpkOk (m.R.map nameD) (m.B.map nameD) (m.T.map nameD) ss
structure JobOk (m : EngM) (w : Str) (j : JobM) : Prop where
  word : j.word = w
  st : StOk m j.ss
  pos : j.pos < j.ss.length
  masks : j.masks = 0
structure Inv0 (m : EngM) : Prop where
  plan : planOkD (.list m.R) (.list m.B) (.list m.T) = true
  wn : m.ways.map (·.name) = m.R.map nameD
  ws : ∀ l ∈ m.ways, StOk m l.ss ∧ (l.fresh = true → l.since.isSome = true)
  tops : ∀ j ∈ m.tops, JobOk m "top" j
  tn : (m.tops.map (·.name)).Nodup ∧ ∀ j ∈ m.tops, j.name ∈ m.R.map nameD
  bottom : ∀ j, m.bottom = some j → JobOk m "bottom" j
  begun : ∀ j ∈ m.begun, JobOk m "thread" j
  bn : (m.begun.map (·.name)).Nodup ∧ ∀ j ∈ m.begun, j.name ∈ m.T.map nameD
  wk : m.woken.map (·.1) = m.T.map nameD
  put : m.put.Nodup ∧ ∀ n ∈ m.put, n ∈ m.B.map nameD
def Deep0 (l : List JobM) : Prop := ∀ j ∈ l, j.deep = 0
def bestJ (m : EngM) : Option JobM := bestBy (·.rank) m.begun
def DInv (m : EngM) : Prop := match m.tops.getLast? with
  | some j => m.depth = j.deep ∧ Deep0 m.tops.dropLast ∧ Deep0 m.bottom.toList ∧ Deep0 m.begun
  | none => match m.bottom with
    | some j => m.depth = j.deep ∧ Deep0 m.begun
    | none => (∀ j ∈ m.begun, j.deep ≠ 0 → bestJ m = some j) ∧ m.depth = match bestJ m with
      | some j => j.deep
      | none => 0
def curC (m : EngM) : Option Cur := if m.tops.isEmpty then (if m.bottom.isSome then some .bottom else (bestJ m).map fun j => .thread j.name) else some .top
structure Inv (m : EngM) : Prop where
  i : Inv0 m
  d : DInv m
theorem deepOk_nn : ∀ {ss : List PyData} {d : Int}, deepOk ss d = true → 0 ≤ d → ∀ n, 0 ≤ d + deepN ss n
  | [], d, _, hd, n => by simp [deepN]; exact hd
  | s :: r, d, h, hd, n => by
    unfold deepOk at h
    split at h
    · cases h
    · cases n with
      | zero => simp [deepN]; exact hd
      | succ n =>
        have z := deepOk_nn h (by omega) n
        unfold deepN at z ⊢
        simp only [List.take_succ_cons, List.map_cons, List.sum_cons]
        omega
theorem steps_parts {ss : List PyData} (h : areStepsL ss = true) : (1 ≤ ss.length ∧ ss.length ≤ 12) ∧ (∀ s ∈ ss, isStepD s = true) ∧ deepOk ss 0 = true ∧ (ss.any fun s => decide (wordD s = "run")) = true := by
  obtain ⟨h1, h2, h3⟩ := stepsL_inv h
  unfold areStepsL at h
  obtain ⟨_, h⟩ := band h
  obtain ⟨_, h⟩ := band h
  obtain ⟨h4, h5⟩ := band h
  exact ⟨⟨h2, h3⟩, h1, h4, h5⟩
theorem deepN_nn {ss : List PyData} (h : areStepsL ss = true) (n : Nat) : 0 ≤ deepN ss n := by
  have := deepOk_nn (steps_parts h).2.2.1 (Int.le_refl 0) n
  omega
theorem deepN_zero (ss : List PyData) : deepN ss 0 = 0 := by simp [deepN]
theorem deepN_succ {ss : List PyData} {n : Nat} {s : PyData} (h : ss[n]? = some s) : deepN ss (n + 1) = deepN ss n + deepOf (wordD s) := by
  unfold deepN
  rw [List.take_add_one, h]
  simp
/-! ### the best -/
theorem best_some {α : Type} {k : α → Int} {l : List α} (h : l ≠ []) : ∃ x, bestBy k l = some x := by
  cases l with
  | nil => exact absurd rfl h
  | cons a r =>
    unfold bestBy
    split
    · exact ⟨_, rfl⟩
    · split <;> exact ⟨_, rfl⟩
theorem best_none {α : Type} {k : α → Int} {l : List α} (h : bestBy k l = none) : l = [] := by
  cases l with
  | nil => rfl
  | cons a r =>
    obtain ⟨x, hx⟩ := best_some (k := k) (l := a :: r) (by simp)
    rw [hx] at h
    cases h
theorem best_max {α : Type} {k : α → Int} : ∀ {l : List α} {b : α}, bestBy k l = some b → b ∈ l ∧ ∀ x ∈ l, k x ≤ k b
  | [], b, h => by cases h
  | a :: r, b, h => by
    unfold bestBy at h
    cases hr : bestBy k r with
    | none =>
      rw [hr] at h
      obtain rfl := best_none hr
      cases h
      exact ⟨by simp, fun x hx => by rw [List.mem_singleton.mp hx]; exact Int.le_refl _⟩
    | some y =>
      rw [hr] at h
      obtain ⟨m, hm⟩ := best_max hr
      simp only at h
      split at h
      · cases h
        rename_i hc
        refine ⟨by simp, fun x hx => ?_⟩
        rcases List.mem_cons.mp hx with rfl | hx
        · exact Int.le_refl _
        · exact Int.le_trans (hm x hx) hc
      · cases h
        rename_i hc
        refine ⟨List.mem_cons_of_mem _ m, fun x hx => ?_⟩
        rcases List.mem_cons.mp hx with rfl | hx
        · omega
        · exact hm x hx
theorem best_snoc {α : Type} {k : α → Int} {j : α} : ∀ {l : List α}, (∀ x ∈ l, k x < k j) → bestBy k (l ++ [j]) = some j
  | [], _ => rfl
  | a :: r, h => by
    show (match bestBy k (r ++ [j]) with | none => some a | some y => if k a ≥ k y then some a else some y) = some j
    rw [best_snoc fun x hx => h x (List.mem_cons_of_mem _ hx)]
    simp only
    rw [if_neg (by have := h a (by simp); omega)]
theorem pickT_or : ∀ {l : List PyData} {b : Option JobM}, (EngM.pickT b l = b) ∨ ∃ t ∈ l, EngM.pickT b l = some (EngM.newJob "thread" (nameD t) (rankD t) (stepsD t) 0) ∧ ∀ j, b = some j → j.rank < rankD t
  | [], b => .inl rfl
  | t :: r, b => by
    have hit : EngM.pickT b (t :: r) = EngM.pickT (some (EngM.newJob "thread" (nameD t) (rankD t) (stepsD t) 0)) r → (∀ j, b = some j → j.rank < rankD t) → ((EngM.pickT b (t :: r) = b) ∨ ∃ t' ∈ t :: r, EngM.pickT b (t :: r) = some (EngM.newJob "thread" (nameD t') (rankD t') (stepsD t') 0) ∧ ∀ j, b = some j → j.rank < rankD t') := fun hu hb => by
      rw [hu]
      rcases pickT_or (l := r) (b := some (EngM.newJob "thread" (nameD t) (rankD t) (stepsD t) 0)) with h | ⟨t', ht', h1, h2⟩
      · exact .inr ⟨t, by simp, h, hb⟩
      · refine .inr ⟨t', List.mem_cons_of_mem _ ht', h1, fun j hj => ?_⟩
        have z : rankD t < rankD t' := h2 _ rfl
        have := hb j hj
        omega
    cases b with
    | none => exact hit rfl fun j h => by cases h
    | some j =>
      by_cases hc : j.rank < rankD t
      · refine hit ?_ fun j' h => by cases h; exact hc
        show EngM.pickT (if decide (j.rank < rankD t) = true then _ else _) r = _
        rw [if_pos (decide_eq_true hc)]
      · have hu : EngM.pickT (some j) (t :: r) = EngM.pickT (some j) r := by
          show EngM.pickT (if decide (j.rank < rankD t) = true then _ else _) r = _
          rw [if_neg (by simpa using hc)]
        rw [hu]
        rcases pickT_or (l := r) (b := some j) with h | ⟨t', ht', h1, h2⟩
        · exact .inl h
        · exact .inr ⟨t', List.mem_cons_of_mem _ ht', h1, h2⟩
theorem pickT_none {l : List PyData} {b : Option JobM} (h : EngM.pickT b l = none) : b = none := by
  rcases pickT_or (l := l) (b := b) with z | ⟨t, _, z, _⟩
  · rw [← z]; exact h
  · rw [h] at z; cases z
/-! ### changing the first -/
theorem upFirst_map {α β : Type} {p : α → Bool} {f : α → α} {g : α → β} (h : ∀ x, g (f x) = g x) : ∀ l : List α, (upFirst p f l).map g = l.map g
  | [] => rfl
  | a :: r => by
    unfold upFirst
    split
    · simp [h]
    · simp [upFirst_map h r]
theorem upFirst_all {α : Type} {p : α → Bool} {f : α → α} {P : α → Prop} (hf : ∀ x, P x → P (f x)) : ∀ {l : List α}, (∀ x ∈ l, P x) → ∀ x ∈ upFirst p f l, P x
  | [], _, x, h => by cases h
  | a :: r, h, x, hx => by
    unfold upFirst at hx
    split at hx
    · rcases List.mem_cons.mp hx with rfl | hx
      · exact hf _ (h a (by simp))
      · exact h x (List.mem_cons_of_mem _ hx)
    · rcases List.mem_cons.mp hx with rfl | hx
      · exact h _ (by simp)
      · exact upFirst_all hf (fun y hy => h y (List.mem_cons_of_mem _ hy)) x hx
theorem nodup_sub {α : Type} [DecidableEq α] : ∀ {l r : List α}, l.Nodup → (∀ x ∈ l, x ∈ r) → l.length ≤ r.length
  | [], r, _, _ => Nat.zero_le _
  | a :: l, r, hn, hs => by
    rw [List.nodup_cons] at hn
    have ha : a ∈ r := hs a (by simp)
    have z := nodup_sub (l := l) (r := r.erase a) hn.2 fun x hx => by
      have hne : x ≠ a := fun e => hn.1 (e ▸ hx)
      exact (List.mem_erase_of_ne hne).mpr (hs x (List.mem_cons_of_mem _ hx))
    rw [List.length_erase_of_mem ha] at z
    have : 0 < r.length := List.length_pos_iff.mpr fun e => by rw [e] at ha; cases ha
    simp
    omega
/-! ### the plan's parts -/
structure PlanP (R B T : List PyData) : Prop where
  oR : ∀ d ∈ R, isLineD d = true
  oB : ∀ d ∈ B, isBottomD d = true
  oT : ∀ d ∈ T, isThreadD d = true
  nR : (R.map nameD).Nodup
  nB : (B.map nameD).Nodup
  nT : (T.map nameD).Nodup
  lR : 1 ≤ R.length ∧ R.length ≤ 5
  lB : B.length ≤ 4
  lT : T.length ≤ 4
  rR : (R.map rankD).Nodup
  rT : (T.map rankD).Nodup
  sp : ∀ d ∈ R ++ (B ++ T), SpkOk (R.map nameD) (B.map nameD) (T.map nameD) (stepsD d)
theorem there_of {w : Str} {ns : List Str} {every : List PyData} (h : thereD w ns every = true) {d s : PyData} (hd : d ∈ every) (hs : s ∈ stepsD d) (hw : wordD s = w) : argD s ∈ ns := by
  unfold thereD at h
  have h1 := List.all_eq_true.mp h d hd
  have h2 := List.all_eq_true.mp h1 (argD s) (List.mem_map.mpr ⟨s, List.mem_filter.mpr ⟨hs, by simp [hw]⟩, rfl⟩)
  simpa using h2
theorem plan_parts {R B T : List PyData} (h : planOkD (.list R) (.list B) (.list T) = true) : PlanP R B T := by
  unfold planOkD at h
  obtain ⟨h1, h2⟩ := band h
  obtain ⟨h3, h4⟩ := band h1
  obtain ⟨h5, h6⟩ := band h2
  obtain ⟨h7, h8⟩ := band h5
  obtain ⟨h9, h0⟩ := band h6
  have key : ∀ {ds : List PyData} {lo hi : Int} {p : PyData → Bool}, areOnesD (.list ds) lo hi p = true → lo ≤ (ds.length : Int) ∧ (ds.length : Int) ≤ hi ∧ (∀ e ∈ ds, p e = true) ∧ (ds.map nameD).Nodup := fun h => by
    obtain ⟨ds', hd, _, a, b, c, d⟩ := ones_inv h
    rcases hd with hd | hd
    · cases hd; exact ⟨a, b, c, d⟩
    · cases hd
  obtain ⟨a1, a2, a3, a4⟩ := key h3
  obtain ⟨b1, b2, b3, b4⟩ := key h7
  obtain ⟨c1, c2, c3, c4⟩ := key h8
  have h0 : allThereD (R.map nameD, B.map nameD, T.map nameD) (R ++ (B ++ T)) = true := h0
  unfold allThereD at h0
  obtain ⟨t1, h0⟩ := band h0
  obtain ⟨t2, t3⟩ := band h0
  exact ⟨a3, b3, c3, a4, b4, c4, ⟨by omega, by omega⟩, by omega, by omega, of_decide_eq_true h4, of_decide_eq_true h9, fun d hd s hs => ⟨there_of t1 hd hs, there_of t2 hd hs, there_of t3 hd hs⟩⟩
theorem PlanP.stR {R B T : List PyData} (p : PlanP R B T) {d : PyData} (h : d ∈ R) : areStepsL (stepsD d) = true ∧ SpkOk (R.map nameD) (B.map nameD) (T.map nameD) (stepsD d) := by
  refine ⟨?_, p.sp d (by simp [h])⟩
  obtain ⟨n, r, u, a, b, c, ss, rfl, _, _, _, hs⟩ := line_inv (p.oR d h)
  exact hs
theorem PlanP.stB {R B T : List PyData} (p : PlanP R B T) {d : PyData} (h : d ∈ B) : areStepsL (stepsD d) = true ∧ SpkOk (R.map nameD) (B.map nameD) (T.map nameD) (stepsD d) := by
  refine ⟨?_, p.sp d (by simp [h])⟩
  obtain ⟨n, ss, rfl, _, hs⟩ := bottom_inv (p.oB d h)
  exact hs
theorem PlanP.stT {R B T : List PyData} (p : PlanP R B T) {d : PyData} (h : d ∈ T) : areStepsL (stepsD d) = true ∧ SpkOk (R.map nameD) (B.map nameD) (T.map nameD) (stepsD d) := by
  refine ⟨?_, p.sp d (by simp [h])⟩
  obtain ⟨n, r, ss, rfl, _, _, hs⟩ := thread_inv (p.oT d h)
  exact hs
end KW
end
section
set_option Elab.async false
set_option linter.all false
set_option autoImplicit false
set_option maxRecDepth 100000
set_option maxHeartbeats 400000
/-! what is chosen keeps what holds -/
namespace KW
open PySem
namespace EngM
def costJ (j : JobM) : Int := if ((j.ss.drop j.pos).any fun s => decide (wordD s = "run")) = true then ((j.ss.drop j.pos).takeWhile fun s => !decide (wordD s = "run")).length else 15 + ((j.ss.length : Int) - j.pos)
def jobs (m : EngM) : List JobM := m.tops ++ (m.bottom.toList ++ m.begun)
def mu (m : EngM) : Int := 14 * ((m.R.length : Int) + 1 + m.T.length) + ((m.jobs).map fun j => costJ j - 14).sum
end EngM
open EngM
theorem sum_app (a b : List Int) : (a ++ b).sum = a.sum + b.sum := by simp
theorem cost_nn (j : JobM) (h : j.pos ≤ j.ss.length) : 0 ≤ costJ j := by
  unfold costJ
  split
  · omega
  · omega
theorem cost_le {j : JobM} (h : j.pos < j.ss.length) (h2 : j.ss.length ≤ 12) : costJ j ≤ 27 := by
  unfold costJ
  split
  · have := (List.takeWhile_sublist (fun s => !decide (wordD s = "run")) (l := j.ss.drop j.pos)).length_le
    rw [List.length_drop] at this
    omega
  · omega
theorem tw_lt {α : Type} {p : α → Bool} : ∀ {l : List α}, (l.any fun x => !p x) = true → (l.takeWhile p).length < l.length
  | [], h => by cases h
  | a :: r, h => by
    by_cases hp : p a = true
    · rw [List.takeWhile_cons_of_pos hp]
      have : (r.any fun x => !p x) = true := by simpa [hp] using h
      have := tw_lt this
      simp
      exact this
    · rw [List.takeWhile_cons_of_neg hp]
      simp
theorem cost_new {w n : Str} {r m : Int} {ss : List PyData} (h : areStepsL ss = true) : costJ (newJob w n r ss m) ≤ 13 := by
  obtain ⟨⟨h1, h2⟩, _, _, h4⟩ := steps_parts h
  unfold costJ newJob
  simp only [List.drop_zero]
  rw [if_pos h4]
  have z := tw_lt (p := fun s => !decide (wordD s = "run")) (l := ss) (by simpa using h4)
  omega
theorem sum_lb {l : List JobM} (h : ∀ j ∈ l, j.pos ≤ j.ss.length) : -(14 * (l.length : Int)) ≤ (l.map fun j => costJ j - 14).sum := by
  induction l with
  | nil => simp
  | cons a r ih =>
    have z := ih fun j hj => h j (List.mem_cons_of_mem _ hj)
    have y := cost_nn a (h a (by simp))
    simp only [List.map_cons, List.sum_cons, List.length_cons]
    omega
theorem sum_ub {l : List JobM} (h : ∀ j ∈ l, costJ j ≤ 27) : (l.map fun j => costJ j - 14).sum ≤ 13 * (l.length : Int) := by
  induction l with
  | nil => simp
  | cons a r ih =>
    have z := ih fun j hj => h j (List.mem_cons_of_mem _ hj)
    have y := h a (by simp)
    simp only [List.map_cons, List.sum_cons, List.length_cons]
    omega
section
variable {m : EngM}
theorem inv_counts (i : Inv0 m) : m.tops.length ≤ 5 ∧ m.tops.length ≤ m.R.length ∧ m.begun.length ≤ 4 ∧ m.begun.length ≤ m.T.length ∧ m.put.length ≤ 4 ∧ m.ways.length = m.R.length ∧ m.R.length ≤ 5 ∧ m.woken.length = m.T.length ∧ m.T.length ≤ 4 ∧ m.B.length ≤ 4 := by
  have p := plan_parts i.plan
  have h1 := nodup_sub i.tn.1 (r := m.R.map nameD) fun x hx => by
    obtain ⟨j, hj, rfl⟩ := List.mem_map.mp hx
    exact i.tn.2 j hj
  have h2 := nodup_sub i.bn.1 (r := m.T.map nameD) fun x hx => by
    obtain ⟨j, hj, rfl⟩ := List.mem_map.mp hx
    exact i.bn.2 j hj
  have h3 := nodup_sub i.put.1 (r := m.B.map nameD) i.put.2
  have h4 := congrArg List.length i.wn
  have h5 := congrArg List.length i.wk
  have := p.lR
  have := p.lB
  have := p.lT
  simp only [List.length_map] at h1 h2 h3 h4 h5
  refine ⟨by omega, by omega, by omega, by omega, by omega, by omega, by omega, by omega, by omega, by omega⟩
theorem job_ok {m : EngM} (i : Inv0 m) {j : JobM} (h : j ∈ m.jobs) : ∃ w, JobOk m w j := by
  unfold jobs at h
  rcases List.mem_append.mp h with h | h
  · exact ⟨_, i.tops j h⟩
  · rcases List.mem_append.mp h with h | h
    · exact ⟨_, i.bottom j (by simpa using h)⟩
    · exact ⟨_, i.begun j h⟩
theorem mu_bounds (i : Inv0 m) : 0 ≤ m.mu ∧ m.mu ≤ 300 := by
  obtain ⟨_, h1, _, h2, _, _, h3, _, h4, _⟩ := inv_counts i
  have hb : m.bottom.toList.length ≤ 1 := by cases m.bottom <;> simp
  have hl : m.jobs.length = m.tops.length + (m.bottom.toList.length + m.begun.length) := by unfold jobs; simp
  have lb := sum_lb (l := m.jobs) fun j hj => by
    obtain ⟨w, k⟩ := job_ok i hj
    have := k.pos
    omega
  have ub := sum_ub (l := m.jobs) fun j hj => by
    obtain ⟨w, k⟩ := job_ok i hj
    exact cost_le k.pos (steps_parts k.st.st).1.2
  unfold mu
  omega
theorem JobOk.to {m m' : EngM} {w : Str} {j : JobM} (h : JobOk m w j) (hR : m'.R = m.R) (hB : m'.B = m.B) (hT : m'.T = m.T) : JobOk m' w j := ⟨h.word, ⟨h.st.st, by rw [hR, hB, hT]; exact h.st.sp⟩, h.pos, h.masks⟩
theorem StOk.to {m m' : EngM} {ss : List PyData} (h : StOk m ss) (hR : m'.R = m.R) (hB : m'.B = m.B) (hT : m'.T = m.T) : StOk m' ss := ⟨h.st, by rw [hR, hB, hT]; exact h.sp⟩
theorem jobok_new {w n : Str} {r : Int} {ss : List PyData} (h : StOk m ss) : JobOk m w (newJob w n r ss 0) := ⟨rfl, h, by have := (steps_parts h.st).1.1; exact this, rfl⟩
theorem deep_new {w n : Str} {r k : Int} {ss : List PyData} : (newJob w n r ss k).deep = 0 := deepN_zero ss
/-- nothing is masked -/
def All0 (m : EngM) : Prop := Deep0 m.tops ∧ Deep0 m.bottom.toList ∧ Deep0 m.begun
theorem d_of_all0 (h : m.depth = 0) (a : All0 m) : DInv m := by
  obtain ⟨a1, a2, a3⟩ := a
  unfold DInv
  cases ht : m.tops.getLast? with
  | some j => exact ⟨h.trans (a1 j (List.mem_of_getLast? ht)).symm, fun x hx => a1 x (List.dropLast_subset _ hx), a2, a3⟩
  | none =>
    simp only
    cases hb : m.bottom with
    | some j => exact ⟨h.trans (a2 j (by rw [hb]; simp)).symm, a3⟩
    | none =>
      refine ⟨fun j hj hne => absurd (a3 j hj) hne, ?_⟩
      unfold bestJ
      cases hx : bestBy (fun j : JobM => j.rank) m.begun with
      | none => exact h
      | some j => exact h.trans (a3 j (best_max hx).1).symm
theorem all0_of_d (h : m.depth = 0) (d : DInv m) : All0 m := by
  unfold DInv at d
  cases ht : m.tops.getLast? with
  | some j =>
    rw [ht] at d
    obtain ⟨d1, d2, d3, d4⟩ := d
    refine ⟨fun x hx => ?_, d3, d4⟩
    obtain ⟨l, hl⟩ := List.getLast?_eq_some_iff.mp ht
    rw [hl] at hx d2
    rcases List.mem_append.mp hx with hx | hx
    · exact d2 x (by rw [List.dropLast_concat]; exact hx)
    · rw [List.mem_singleton.mp hx, ← d1]
      exact h
  | none =>
    rw [ht] at d
    have hte : m.tops = [] := List.getLast?_eq_none_iff.mp ht
    simp only at d
    cases hb : m.bottom with
    | some j =>
      rw [hb] at d
      refine ⟨fun x hx => by rw [hte] at hx; exact (nomatch hx), fun x hx => ?_, d.2⟩
      rw [hb] at hx
      have : x = j := by simpa using hx
      rw [this, ← d.1]
      exact h
    | none =>
      rw [hb] at d
      refine ⟨fun x hx => by rw [hte] at hx; exact (nomatch hx), fun x hx => by rw [hb] at hx; exact (nomatch hx), fun x hx => ?_⟩
      by_cases hne : x.deep = 0
      · exact hne
      · have z := d.1 x hx hne
        have y := d.2
        rw [z] at y
        rw [← show m.depth = x.deep from y]
        exact h
theorem depth_nn (i : Inv m) : 0 ≤ m.depth := by
  have d := i.d
  unfold DInv at d
  cases ht : m.tops.getLast? with
  | some j =>
    rw [ht] at d
    rw [d.1]
    exact deepN_nn (i.i.tops j (List.mem_of_getLast? ht)).st.st _
  | none =>
    rw [ht] at d
    simp only at d
    cases hb : m.bottom with
    | some j =>
      rw [hb] at d
      rw [d.1]
      exact deepN_nn (i.i.bottom j hb).st.st _
    | none =>
      rw [hb] at d
      rw [d.2]
      cases hx : bestJ m with
      | none => exact Int.le_refl _
      | some j => exact deepN_nn (i.i.begun j (best_max hx).1).st.st _
theorem ready_mem {l : LineM} (h : m.readyLine = some l) : m.depth ≤ 0 ∧ l ∈ m.ways ∧ l.since.isSome = true ∧ l.name ∉ m.tops.map (·.name) ∧ m.low < l.rank := by
  unfold readyLine at h
  split at h
  · cases h
  · rename_i hd
    have z := (best_max h).1
    unfold ready at z
    obtain ⟨z1, z2⟩ := List.mem_filter.mp z
    obtain ⟨z2, z3⟩ := band z2
    obtain ⟨z3, z4⟩ := band z3
    exact ⟨by omega, z1, z2, by simpa using z3, of_decide_eq_true z4⟩
structure ChoR (m : EngM) (r : EngM × Option Cur) : Prop where
  inv : Inv r.1
  cur : r.2 = curC r.1
  mu : r.1.mu ≤ m.mu
  last : r.1.last.length ≤ m.last.length + 1
  same : r.1.R = m.R ∧ r.1.B = m.B ∧ r.1.T = m.T ∧ r.1.now = m.now ∧ r.1.row = m.row ∧ r.1.depths = m.depths
  lb : ∀ k, (∀ l ∈ m.ways, l.let_by.length ≤ k) → ∀ l ∈ r.1.ways, l.let_by.length ≤ k
theorem begin_name (l : LineM) (t : Int) : (l.begin t).name = l.name ∧ (l.begin t).ss = l.ss ∧ (l.begin t).let_by = l.let_by := by
  unfold LineM.begin
  dsimp only
  repeat' split
  all_goals exact ⟨rfl, rfl, rfl⟩
theorem begin_fresh (l : LineM) (t : Int) : ((l.begin t).fresh = true → (l.begin t).since.isSome = true) := by
  unfold LineM.begin
  dsimp only
  repeat' split
  all_goals simp_all
theorem ready_T_best {j : JobM} (h : bestJ m = some j) : j ∈ m.begun := (best_max h).1
theorem cho_thread (i : Inv m) (ht : m.tops = []) (hb : m.bottom = none) : ChoR m m.readyThread := by
  have p := plan_parts i.i.plan
  have cc : ∀ {m' : EngM}, m'.tops = [] → m'.bottom = none → curC m' = (bestJ m').map fun j => .thread j.name := fun h1 h2 => by
    unfold curC
    rw [h1, h2]
    rfl
  have base : ∀ {c : Option Cur}, c = curC m → ChoR m (m, c) := fun h => ⟨i, h, Int.le_refl _, Nat.le_succ _, ⟨rfl, rfl, rfl, rfl, rfl, rfl⟩, fun k h => h⟩
  unfold readyThread
  split
  · exact base (cc ht hb).symm
  · rename_i hd
    have h0 : m.depth = 0 := by have := depth_nn i; omega
    have a0 := all0_of_d h0 i.d
    rcases pickT_or (l := m.freshT) (b := bestBy (·.rank) m.begun) with hp | ⟨t, htm, hp, hlt⟩
    · rw [hp]
      cases hbj : bestBy (fun j : JobM => j.rank) m.begun with
      | none =>
        simp only
        refine base ?_
        rw [cc ht hb]
        show none = (bestBy _ m.begun).map _
        rw [hbj]
        rfl
      | some j =>
        simp only
        have hin : j.name ∈ m.begun.map (·.name) := List.mem_map.mpr ⟨j, (best_max hbj).1, rfl⟩
        rw [if_pos hin]
        refine base ?_
        rw [cc ht hb]
        show _ = (bestBy _ m.begun).map _
        rw [hbj]
        rfl
    · rw [hp]
      simp only
      have htm' := htm
      unfold freshT at htm'
      obtain ⟨t1, t2⟩ := List.mem_filter.mp htm'
      obtain ⟨t2, t3⟩ := band t2
      have hnn : nameD t ∉ m.begun.map (·.name) := by simpa using t2
      rw [if_neg (show ¬ (newJob "thread" (nameD t) (rankD t) (stepsD t) 0).name ∈ m.begun.map (·.name) from hnn)]
      have hall : ∀ x ∈ m.begun, x.rank < rankD t := fun x hx => by
        obtain ⟨b, hbb⟩ := best_some (k := fun j : JobM => j.rank) (l := m.begun) (fun e => by rw [e] at hx; cases hx)
        have := (best_max hbb).2 x hx
        have := hlt b hbb
        omega
      have hst : StOk m (stepsD t) := by
        obtain ⟨s1, s2⟩ := p.stT t1
        exact ⟨s1, s2⟩
      have hwk : ((m.addW (nameD t) (-1)).woken.map (·.1)) = m.woken.map (·.1) := by
        unfold addW
        dsimp only
        rw [List.map_map]
        apply List.map_congr_left
        intro x _
        show (if x.1 = nameD t then _ else x).1 = x.1
        split <;> rfl
      let J := newJob "thread" (nameD t) (rankD t) (stepsD t) 0
      have hJ : JobOk m "thread" J := jobok_new hst
      refine ⟨⟨⟨i.i.plan, i.i.wn, fun l hl => ⟨(i.i.ws l hl).1.to rfl rfl rfl, (i.i.ws l hl).2⟩, fun j hj => (i.i.tops j hj).to rfl rfl rfl, i.i.tn, fun j hj => (i.i.bottom j hj).to rfl rfl rfl, fun j hj => ?_, ⟨?_, fun j hj => ?_⟩, hwk.trans i.i.wk, i.i.put⟩, ?_⟩, ?_, ?_, Nat.le_succ _, ⟨rfl, rfl, rfl, rfl, rfl, rfl⟩, fun k h => h⟩
      · rcases List.mem_append.mp hj with hj | hj
        · exact (i.i.begun j hj).to rfl rfl rfl
        · rw [List.mem_singleton.mp hj]
          exact hJ.to rfl rfl rfl
      · show ((m.begun ++ [J]).map (·.name)).Nodup
        rw [List.map_append, List.nodup_append]
        refine ⟨i.i.bn.1, by simp, fun a ha b hb => ?_⟩
        rw [List.mem_singleton.mp hb]
        exact fun e => hnn (by have e : a = nameD t := e; rw [← e]; exact ha)
      · rcases List.mem_append.mp hj with hj | hj
        · exact i.i.bn.2 j hj
        · rw [List.mem_singleton.mp hj]
          exact List.mem_map.mpr ⟨t, t1, rfl⟩
      · refine d_of_all0 h0 ⟨a0.1, a0.2.1, fun j hj => ?_⟩
        rcases List.mem_append.mp hj with hj | hj
        · exact a0.2.2 j hj
        · rw [List.mem_singleton.mp hj]
          exact deep_new
      · refine Eq.trans ?_ (Eq.symm (cc ht hb))
        show some (Cur.thread (nameD t)) = (bestBy (fun j : JobM => j.rank) (m.begun ++ [J])).map _
        rw [best_snoc (k := fun j : JobM => j.rank) (j := J) hall]
        rfl
      · show 14 * _ + ((m.tops ++ (m.bottom.toList ++ (m.begun ++ [J]))).map fun j => costJ j - 14).sum ≤ 14 * _ + ((m.tops ++ (m.bottom.toList ++ m.begun)).map fun j => costJ j - 14).sum
        rw [← List.append_assoc m.bottom.toList, ← List.append_assoc m.tops, List.map_append, sum_app]
        have := cost_new (w := "thread") (n := nameD t) (r := rankD t) (m := 0) hst.st
        show 14 * ((m.R.length : Int) + 1 + m.T.length) + (_ + (costJ J - 14 + 0)) ≤ _
        show _ ≤ 14 * ((m.R.length : Int) + 1 + m.T.length) + _
        have : costJ J ≤ 13 := this
        omega
theorem sb_of (i : Inv m) (hte : m.tops = []) : ∀ e1, e1 = m.startBottom → Inv e1 ∧ e1.mu ≤ m.mu ∧ e1.tops = [] ∧ e1.last = m.last ∧ (e1.R = m.R ∧ e1.B = m.B ∧ e1.T = m.T ∧ e1.now = m.now ∧ e1.row = m.row ∧ e1.depths = m.depths) ∧ e1.ways = m.ways := fun e1 he => by
  have p := plan_parts i.i.plan
  unfold startBottom at he
  split at he
  · rename_i hc
    obtain ⟨c1, c2⟩ := band hc
    have h0 : m.depth = 0 := of_decide_eq_true c2
    have a0 := all0_of_d h0 i.d
    have hbn : m.bottom = none := by cases h : m.bottom with | none => rfl | some j => rw [h] at c1; cases c1
    cases hp : m.put with
    | nil =>
      rw [hp] at he
      subst he
      exact ⟨i, Int.le_refl _, hte, rfl, ⟨rfl, rfl, rfl, rfl, rfl, rfl⟩, rfl⟩
    | cons n r =>
      rw [hp] at he
      have hnB : n ∈ m.B.map nameD := i.i.put.2 n (by rw [hp]; simp)
      obtain ⟨b, hb, hbn'⟩ := List.mem_map.mp hnB
      obtain ⟨b', hf⟩ : ∃ b', m.B.find? (fun b => decide (nameD b = n)) = some b' := by
        cases h : m.B.find? (fun b => decide (nameD b = n)) with
        | some x => exact ⟨x, rfl⟩
        | none => exact absurd hbn' (by simpa using List.find?_eq_none.mp h b hb)
      have hbm : b' ∈ m.B := List.mem_of_find?_eq_some hf
      have he : e1 = { m with put := r, bottom := some (newJob "bottom" n 0 (((m.B.find? fun b => decide (nameD b = n)).map stepsD).getD []) 0) } := he
      rw [hf] at he
      have he : e1 = { m with put := r, bottom := some (newJob "bottom" n 0 (stepsD b') 0) } := he
      subst he
      have hst : StOk m (stepsD b') := by
        obtain ⟨s1, s2⟩ := p.stB hbm
        exact ⟨s1, s2⟩
      let J := newJob "bottom" n 0 (stepsD b') 0
      have hJ : JobOk m "bottom" J := jobok_new hst
      have hput := i.i.put
      rw [hp] at hput
      refine ⟨⟨⟨i.i.plan, i.i.wn, fun l hl => ⟨(i.i.ws l hl).1.to rfl rfl rfl, (i.i.ws l hl).2⟩, fun j hj => (i.i.tops j hj).to rfl rfl rfl, i.i.tn, fun j hj => ?_, fun j hj => (i.i.begun j hj).to rfl rfl rfl, i.i.bn, i.i.wk, ⟨(List.nodup_cons.mp hput.1).2, fun x hx => hput.2 x (List.mem_cons_of_mem _ hx)⟩⟩, d_of_all0 h0 ⟨a0.1, fun j hj => ?_, a0.2.2⟩⟩, ?_, hte, rfl, ⟨rfl, rfl, rfl, rfl, rfl, rfl⟩, rfl⟩
      · cases hj
        exact hJ.to rfl rfl rfl
      · have : j = J := by simpa using hj
        rw [this]
        exact deep_new
      · show 14 * ((m.R.length : Int) + 1 + m.T.length) + ((m.tops ++ ([J] ++ m.begun)).map fun j => costJ j - 14).sum ≤ 14 * ((m.R.length : Int) + 1 + m.T.length) + ((m.tops ++ (m.bottom.toList ++ m.begun)).map fun j => costJ j - 14).sum
        rw [hbn]
        simp only [List.map_append, sum_app]
        have : costJ J ≤ 13 := cost_new hst.st
        have e : ([J].map fun j => costJ j - 14).sum = costJ J - 14 := by simp
        rw [e]
        simp
        omega
  · subst he
    exact ⟨i, Int.le_refl _, hte, rfl, ⟨rfl, rfl, rfl, rfl, rfl, rfl⟩, rfl⟩

theorem cho (i : Inv m) : ChoR m m.chosen := by
  have p := plan_parts i.i.plan
  unfold chosen
  cases hr : m.readyLine with
  | some l =>
    obtain ⟨hd, hl, hs, hn, hlow⟩ := ready_mem hr
    have h0 : m.depth = 0 := by have := depth_nn i; omega
    have a0 := all0_of_d h0 i.d
    have hst := (i.i.ws l hl).1
    simp only
    rw [h0]
    let J := newJob "top" l.name l.rank l.ss 0
    have hJ : JobOk m "top" J := jobok_new hst
    have hw : ∀ x ∈ upFirst (hasN l.name) (fun y => y.begin m.now) m.ways, StOk m x.ss ∧ (x.fresh = true → x.since.isSome = true) := upFirst_all (P := fun x : LineM => StOk m x.ss ∧ (x.fresh = true → x.since.isSome = true)) (fun x hx => ⟨by rw [(begin_name x _).2.1]; exact hx.1, begin_fresh x _⟩) i.i.ws
    refine ⟨⟨⟨i.i.plan, (upFirst_map (fun x => (begin_name x _).1) _).trans i.i.wn, fun x hx => ⟨(hw x hx).1.to rfl rfl rfl, (hw x hx).2⟩, fun j hj => ?_, ⟨?_, fun j hj => ?_⟩, fun j hj => (i.i.bottom j hj).to rfl rfl rfl, fun j hj => (i.i.begun j hj).to rfl rfl rfl, i.i.bn, i.i.wk, i.i.put⟩, ?_⟩, ?_, ?_, by simp, ⟨rfl, rfl, rfl, rfl, rfl, rfl⟩, fun k h => upFirst_all (P := fun x : LineM => x.let_by.length ≤ k) (fun x hx => by rw [(begin_name x _).2.2]; exact hx) h⟩
    · rcases List.mem_append.mp hj with hj | hj
      · exact (i.i.tops j hj).to rfl rfl rfl
      · rw [List.mem_singleton.mp hj]
        exact hJ.to rfl rfl rfl
    · show ((m.tops ++ [J]).map (·.name)).Nodup
      rw [List.map_append, List.nodup_append]
      refine ⟨i.i.tn.1, by simp, fun a ha b hb => ?_⟩
      rw [List.mem_singleton.mp hb]
      exact fun e => hn (by have e : a = l.name := e; rw [← e]; exact ha)
    · rcases List.mem_append.mp hj with hj | hj
      · exact i.i.tn.2 j hj
      · rw [List.mem_singleton.mp hj]
        show l.name ∈ m.R.map nameD
        rw [← i.i.wn]
        exact List.mem_map.mpr ⟨l, hl, rfl⟩
    · refine d_of_all0 rfl ⟨fun j hj => ?_, a0.2.1, a0.2.2⟩
      rcases List.mem_append.mp hj with hj | hj
      · exact a0.1 j hj
      · rw [List.mem_singleton.mp hj]
        exact deep_new
    · show some Cur.top = if (m.tops ++ [J]).isEmpty then _ else some Cur.top
      rw [if_neg (by simp)]
    · show 14 * ((m.R.length : Int) + 1 + m.T.length) + (((m.tops ++ [J]) ++ (m.bottom.toList ++ m.begun)).map fun j => costJ j - 14).sum ≤ 14 * ((m.R.length : Int) + 1 + m.T.length) + ((m.tops ++ (m.bottom.toList ++ m.begun)).map fun j => costJ j - 14).sum
      simp only [List.map_append, sum_app]
      have : costJ J ≤ 13 := cost_new hst.st
      have e : ([J].map fun j => costJ j - 14).sum = costJ J - 14 := by simp
      rw [e]
      omega
  | none =>
    simp only
    by_cases ht : m.tops.isEmpty = true
    · rw [if_pos ht]
      have hte : m.tops = [] := List.isEmpty_iff.mp ht
      obtain ⟨k1, k2, k3, k4, k5, k6⟩ := sb_of i hte _ rfl
      generalize m.startBottom = e1 at k1 k2 k3 k4 k5 k6
      show ChoR m (if e1.bottom.isSome = true then (e1, some .bottom) else e1.readyThread)
      by_cases hb : e1.bottom.isSome = true
      · rw [if_pos hb]
        refine ⟨k1, ?_, k2, by rw [k4]; exact Nat.le_succ _, k5, fun k h => by rw [k6]; exact h⟩
        unfold curC
        rw [k3, if_pos (by rfl), if_pos hb]
      · rw [if_neg hb]
        have hbn : e1.bottom = none := by cases h : e1.bottom with | none => rfl | some j => rw [h] at hb; exact absurd rfl hb
        have z := cho_thread k1 k3 hbn
        refine ⟨z.inv, z.cur, Int.le_trans z.mu k2, by rw [← k4]; exact z.last, ?_, fun k h => z.lb k (by rw [k6]; exact h)⟩
        obtain ⟨y1, y2, y3, y4, y5, y6⟩ := z.same
        obtain ⟨x1, x2, x3, x4, x5, x6⟩ := k5
        exact ⟨y1.trans x1, y2.trans x2, y3.trans x3, y4.trans x4, y5.trans x5, y6.trans x6⟩
    · rw [if_neg ht]
      refine ⟨i, ?_, Int.le_refl _, Nat.le_succ _, ⟨rfl, rfl, rfl, rfl, rfl, rfl⟩, fun k h => h⟩
      unfold curC
      rw [if_neg ht]
end
end KW
end
section
set_option Elab.async false
set_option linter.all false
set_option autoImplicit false
set_option maxRecDepth 100000
set_option maxHeartbeats 400000
/-! the running job in the eye, in plain; a quick step, knocks, a tick -/
namespace KW
open PySem EngM
def roleC : Cur → Str
  | .top => "top"
  | .bottom => "bottom"
  | .thread _ => "thread"
def OthC (m : EngM) : Cur → Prop
  | .top => Deep0 m.tops.dropLast ∧ Deep0 m.bottom.toList ∧ Deep0 m.begun
  | .bottom => Deep0 m.begun
  | .thread n => ∀ j ∈ m.begun, j.name ≠ n → j.deep = 0
structure PF (m : EngM) (c : Cur) (j : JobM) (w : Option JobM → EngM) : Prop where
  self : w (some j) = m
  ok : JobOk m (roleC c) j
  at_ : ∀ x, x.name = j.name → (w (some x)).jobAt c = some x
  set : ∀ x f, x.name = j.name → (w (some x)).setJob c f = w (some (f x))
  ov : ∀ x, x.name = j.name → (w (some x)).over c = if x.pos < x.ss.length then w (some x) else { w none with depth := x.masks }
  inv : ∀ X, (∀ x, X = some x → JobOk m (roleC c) x ∧ x.name = j.name) → Inv0 (w X)
  d1 : ∀ x, x.name = j.name → x.rank = j.rank → x.deep = (w (some x)).depth → DInv (w (some x))
  d0 : DInv { w none with depth := 0 }
  sum : ∃ r : (JobM → Int) → Int, ∀ X g, ((w X).jobs.map g).sum = r g + (X.toList.map g).sum
  keep : ∀ X, (w X).R = m.R ∧ (w X).B = m.B ∧ (w X).T = m.T ∧ (w X).ways = m.ways ∧ (w X).now = m.now ∧ (w X).row = m.row ∧ (w X).depths = m.depths ∧ (w X).last = m.last ∧ (w X).depth = m.depth
theorem best_repl {α : Type} {k : α → Int} {x y : α} {r : List α} (hk : k y = k x) : ∀ {l : List α}, x ∉ l → bestBy k (l ++ x :: r) = some x → bestBy k (l ++ y :: r) = some y
  | [], _, h => by
    show (match bestBy k r with | none => some y | some z => if k y ≥ k z then some y else some z) = some y
    have h : (match bestBy k r with | none => some x | some z => if k x ≥ k z then some x else some z) = some x := h
    cases hr : bestBy k r with
    | none => rfl
    | some z =>
      rw [hr] at h
      simp only at h ⊢
      by_cases hc : k x ≥ k z
      · rw [if_pos (by omega)]
      · rw [if_neg hc] at h
        cases h
        exact absurd (Int.le_refl _) hc
  | a :: l, hn, h => by
    show (match bestBy k (l ++ y :: r) with | none => some a | some z => if k a ≥ k z then some a else some z) = some y
    have h : (match bestBy k (l ++ x :: r) with | none => some a | some z => if k a ≥ k z then some a else some z) = some x := h
    obtain ⟨b, hb⟩ := best_some (k := k) (l := l ++ x :: r) (by simp)
    rw [hb] at h
    simp only at h
    by_cases hc : k a ≥ k b
    · rw [if_pos hc] at h
      cases h
      exact absurd (List.mem_cons_self ..) hn
    · rw [if_neg hc] at h
      cases h
      rw [best_repl hk (fun h => hn (List.mem_cons_of_mem _ h)) hb]
      simp only
      rw [if_neg (by omega)]
theorem pf_of {m : EngM} {c : Cur} (i : Inv0 m) (h : curC m = some c) (o : OthC m c) : ∃ j w, PF m c j w := by
  unfold curC at h
  by_cases ht : m.tops.isEmpty = true
  · rw [if_pos ht] at h
    have hte : m.tops = [] := List.isEmpty_iff.mp ht
    by_cases hb : m.bottom.isSome = true
    · rw [if_pos hb] at h
      cases h
      obtain ⟨j, hj⟩ := Option.isSome_iff_exists.mp hb
      have ok := i.bottom j hj
      refine ⟨j, fun X => { m with bottom := X }, ⟨by rw [← hj], ok, fun x _ => rfl, fun x f _ => rfl, fun x _ => rfl, fun X hX => ⟨i.plan, i.wn, fun l hl => ⟨(i.ws l hl).1.to rfl rfl rfl, (i.ws l hl).2⟩, fun j hj => (i.tops j hj).to rfl rfl rfl, i.tn, fun x hx => (hX x hx).1.to rfl rfl rfl, fun j hj => (i.begun j hj).to rfl rfl rfl, i.bn, i.wk, i.put⟩, fun x _ _ hd => ?_, ?_, ⟨fun g => (m.begun.map g).sum, fun X g => ?_⟩, fun X => ⟨rfl, rfl, rfl, rfl, rfl, rfl, rfl, rfl, rfl⟩⟩⟩
      · unfold DInv
        dsimp only
        rw [hte]
        exact ⟨hd.symm, o⟩
      · exact d_of_all0 rfl ⟨fun x hx => by rw [show ({ m with bottom := none, depth := 0 } : EngM).tops = m.tops from rfl, hte] at hx; exact (nomatch hx), fun x hx => (nomatch hx), o⟩
      · unfold jobs
        dsimp only
        rw [hte, List.nil_append, List.map_append, sum_app, Int.add_comm]
    · rw [if_neg hb] at h
      have hbn : m.bottom = none := by cases h : m.bottom with | none => rfl | some j => rw [h] at hb; exact absurd rfl hb
      obtain ⟨j, hj, hc⟩ := Option.map_eq_some_iff.mp h
      subst hc
      have hjm := (best_max hj).1
      obtain ⟨l, r, e⟩ := List.append_of_mem hjm
      have ok := i.begun j hjm
      have nd := i.bn.1
      rw [e, List.map_append, List.map_cons, List.nodup_append] at nd
      obtain ⟨n1, n2, n3⟩ := nd
      have nl : ∀ y ∈ l, y.name ≠ j.name := fun y hy => n3 _ (List.mem_map_of_mem hy) _ (List.mem_cons_self ..)
      have nr : ∀ y ∈ r, y.name ≠ j.name := fun y hy e => (List.nodup_cons.mp n2).1 (e ▸ List.mem_map_of_mem hy)
      have o : ∀ y ∈ m.begun, y.name ≠ j.name → y.deep = 0 := o
      have ol : ∀ y ∈ l, y.deep = 0 := fun y hy => o y (by rw [e]; simp [hy]) (nl y hy)
      have or : ∀ y ∈ r, y.deep = 0 := fun y hy => o y (by rw [e]; simp [hy]) (nr y hy)
      have jl : ∀ y ∈ l, jobN j.name y = false := fun y hy => decide_eq_false (nl y hy)
      have jr : ∀ y ∈ r, jobN j.name y = false := fun y hy => decide_eq_false (nr y hy)
      have hbj : bestBy (fun j : JobM => j.rank) (l ++ j :: r) = some j := by rw [← e]; exact hj
      refine ⟨j, fun X => { m with begun := l ++ (X.toList ++ r) }, ⟨by show { m with begun := l ++ j :: r } = m; rw [← e], ok, fun x hx => ?_, fun x f hx => ?_, fun x hx => ?_, fun X hX => ⟨i.plan, i.wn, fun l hl => ⟨(i.ws l hl).1.to rfl rfl rfl, (i.ws l hl).2⟩, fun j hj => (i.tops j hj).to rfl rfl rfl, i.tn, fun x hx => (i.bottom x hx).to rfl rfl rfl, fun x hx => ?_, ?_, i.wk, i.put⟩, fun x hx hr hd => ?_, ?_, ⟨fun g => (l.map g).sum + (r.map g).sum, fun X g => ?_⟩, fun X => ⟨rfl, rfl, rfl, rfl, rfl, rfl, rfl, rfl, rfl⟩⟩⟩
      · show (l ++ x :: r).find? (jobN j.name) = some x
        exact find_at jl (decide_eq_true hx)
      · show { m with begun := upFirst (jobN j.name) f (l ++ x :: r) } = { m with begun := l ++ f x :: r }
        rw [upFirst_at jl (decide_eq_true hx)]
      · have hat : ({ m with begun := l ++ ((some x).toList ++ r) } : EngM).jobAt (.thread j.name) = some x := find_at jl (decide_eq_true hx)
        unfold over
        rw [hat]
        simp only
        split
        · rfl
        · show ({ m with begun := (l ++ x :: r).filter fun o => !jobN j.name o, depth := x.masks } : EngM) = { m with begun := l ++ ([] ++ r), depth := x.masks }
          rw [List.filter_append, List.filter_cons_of_neg (by rw [show jobN j.name x = true from decide_eq_true hx]; decide), List.filter_eq_self.mpr fun y hy => by rw [jl y hy]; rfl, List.filter_eq_self.mpr fun y hy => by rw [jr y hy]; rfl]
          rfl
      · rcases List.mem_append.mp hx with hx | hx
        · exact (i.begun x (by rw [e]; simp [hx])).to rfl rfl rfl
        · rcases List.mem_append.mp hx with hx | hx
          · exact (hX x (by simpa using hx)).1.to rfl rfl rfl
          · exact (i.begun x (by rw [e]; simp [hx])).to rfl rfl rfl
      · have n2' := List.nodup_cons.mp n2
        refine ⟨?_, fun x hx => ?_⟩
        · show ((l ++ (X.toList ++ r)).map (·.name)).Nodup
          cases X with
          | none =>
            rw [List.map_append, List.nodup_append]
            exact ⟨n1, n2'.2, fun a ha b hb => n3 a ha b (List.mem_cons_of_mem _ hb)⟩
          | some x =>
            have hn := (hX x rfl).2
            show ((l ++ x :: r).map (·.name)).Nodup
            rw [List.map_append, List.map_cons, hn, List.nodup_append]
            exact ⟨n1, n2, n3⟩
        · show x.name ∈ m.T.map nameD
          rcases List.mem_append.mp hx with hx | hx
          · exact i.bn.2 x (by rw [e]; simp [hx])
          · rcases List.mem_append.mp hx with hx | hx
            · rw [(hX x (by simpa using hx)).2]
              exact i.bn.2 j hjm
            · exact i.bn.2 x (by rw [e]; simp [hx])
      · unfold DInv
        dsimp only
        rw [hte, hbn]
        have hb' : bestBy (fun j : JobM => j.rank) (l ++ x :: r) = some x := best_repl (k := fun j : JobM => j.rank) hr (fun hm => nl j hm rfl) hbj
        refine ⟨fun y hy hne => ?_, ?_⟩
        · have hy : y ∈ l ++ x :: r := hy
          rcases List.mem_append.mp hy with hy | hy
          · exact absurd (ol y hy) hne
          · rcases List.mem_cons.mp hy with rfl | hy
            · exact hb'
            · exact absurd (or y hy) hne
        · show m.depth = match bestBy (fun j : JobM => j.rank) (l ++ x :: r) with | some j => j.deep | none => 0
          rw [hb']
          exact hd.symm
      · refine d_of_all0 rfl ⟨fun x hx => by rw [show ({ m with begun := l ++ ((none : Option JobM).toList ++ r), depth := 0 } : EngM).tops = m.tops from rfl, hte] at hx; exact (nomatch hx), fun x hx => by rw [show ({ m with begun := l ++ ((none : Option JobM).toList ++ r), depth := 0 } : EngM).bottom = m.bottom from rfl, hbn] at hx; exact (nomatch hx), fun x hx => ?_⟩
        rcases List.mem_append.mp hx with hx | hx
        · exact ol x hx
        · rcases List.mem_append.mp hx with hx | hx
          · cases hx
          · exact or x hx
      · unfold jobs
        dsimp only
        rw [hte, hbn]
        simp only [List.nil_append, Option.toList, List.map_append, sum_app]
        omega
  · rw [if_neg ht] at h
    cases h
    have hne : m.tops ≠ [] := fun e => ht (by rw [e]; rfl)
    obtain ⟨l, j, e⟩ : ∃ l j, m.tops = l ++ [j] := ⟨_, _, (List.dropLast_concat_getLast hne).symm⟩
    have ok := i.tops j (by rw [e]; simp)
    obtain ⟨o1, o2, o3⟩ := o
    rw [e, List.dropLast_concat] at o1
    have nd := i.tn.1
    rw [e, List.map_append, List.nodup_append] at nd
    refine ⟨j, fun X => { m with tops := l ++ X.toList }, ⟨by show { m with tops := l ++ [j] } = m; rw [← e], ok, fun x hx => ?_, fun x f hx => ?_, fun x hx => ?_, fun X hX => ⟨i.plan, i.wn, fun l hl => ⟨(i.ws l hl).1.to rfl rfl rfl, (i.ws l hl).2⟩, fun x hx => ?_, ?_, fun x hx => (i.bottom x hx).to rfl rfl rfl, fun x hx => (i.begun x hx).to rfl rfl rfl, i.bn, i.wk, i.put⟩, fun x hx hr hd => ?_, ?_, ⟨fun g => (l.map g).sum + ((m.bottom.toList ++ m.begun).map g).sum, fun X g => ?_⟩, fun X => ⟨rfl, rfl, rfl, rfl, rfl, rfl, rfl, rfl, rfl⟩⟩⟩
    · show (l ++ [x]).getLast? = some x
      simp
    · show { m with tops := (l ++ [x]).dropLast ++ ((l ++ [x]).getLast?.map f).toList } = { m with tops := l ++ [f x] }
      simp
    · have hat : ({ m with tops := l ++ (some x).toList } : EngM).jobAt .top = some x := by show (l ++ [x]).getLast? = some x; simp
      unfold over
      rw [hat]
      simp only
      split
      · rfl
      · show ({ m with tops := (l ++ [x]).dropLast, depth := x.masks } : EngM) = { m with tops := l ++ [], depth := x.masks }
        simp
    · rcases List.mem_append.mp hx with hx | hx
      · exact (i.tops x (by rw [e]; simp [hx])).to rfl rfl rfl
      · exact (hX x (by simpa using hx)).1.to rfl rfl rfl
    · refine ⟨?_, fun x hx => ?_⟩
      · show ((l ++ X.toList).map (·.name)).Nodup
        cases X with
        | none => simpa using nd.1
        | some x =>
          have hn := (hX x rfl).2
          show ((l ++ [x]).map (·.name)).Nodup
          rw [List.map_append, List.nodup_append]
          refine ⟨nd.1, by simp, fun a ha b hb => nd.2.2 a ha b ?_⟩
          simpa [hn] using hb
      · show x.name ∈ m.R.map nameD
        rcases List.mem_append.mp hx with hx | hx
        · exact i.tn.2 x (by rw [e]; simp [hx])
        · rw [(hX x (by simpa using hx)).2]
          exact i.tn.2 j (by rw [e]; simp)
    · unfold DInv
      have hg : ({ m with tops := l ++ (some x).toList } : EngM).tops.getLast? = some x := by show (l ++ [x]).getLast? = some x; simp
      rw [hg]
      exact ⟨hd.symm, by show Deep0 (l ++ [x]).dropLast; rw [List.dropLast_concat]; exact o1, o2, o3⟩
    · refine d_of_all0 rfl ⟨?_, o2, o3⟩
      show Deep0 (l ++ [])
      rw [List.append_nil]
      exact o1
    · unfold jobs
      dsimp only
      simp only [List.map_append, sum_app]
      omega
theorem oth_of {m : EngM} {c : Cur} (i : Inv m) (h : curC m = some c) : OthC m c ∧ ∀ j, m.jobAt c = some j → m.depth = j.deep := by
  have d := i.d
  unfold DInv at d
  unfold curC at h
  by_cases ht : m.tops.isEmpty = true
  · rw [if_pos ht] at h
    have hte : m.tops = [] := List.isEmpty_iff.mp ht
    rw [hte] at d
    simp only [List.getLast?_nil] at d
    by_cases hb : m.bottom.isSome = true
    · rw [if_pos hb] at h
      cases h
      obtain ⟨j, hj⟩ := Option.isSome_iff_exists.mp hb
      rw [hj] at d
      exact ⟨d.2, fun j' hj' => by have hj' : m.bottom = some j' := hj'; rw [hj] at hj'; cases hj'; exact d.1⟩
    · rw [if_neg hb] at h
      have hbn : m.bottom = none := by cases h : m.bottom with | none => rfl | some j => rw [h] at hb; exact absurd rfl hb
      rw [hbn] at d
      obtain ⟨j, hj, hc⟩ := Option.map_eq_some_iff.mp h
      subst hc
      simp only [hj] at d
      refine ⟨fun x hx hn => ?_, fun j' hj' => ?_⟩
      · by_cases hz : x.deep = 0
        · exact hz
        · have := Option.some.inj (d.1 x hx hz)
          rw [this] at hn
          exact absurd rfl hn
      · have hj' : m.begun.find? (jobN j.name) = some j' := hj'
        have h1 := List.mem_of_find?_eq_some hj'
        have h2 : j'.name = j.name := of_decide_eq_true (List.find?_some (p := jobN j.name) hj')
        have hjm := (best_max hj).1
        have : j' = j := by
          obtain ⟨l, r, e⟩ := List.append_of_mem hjm
          have nd := i.i.bn.1
          rw [e, List.map_append, List.map_cons, List.nodup_append] at nd
          obtain ⟨n1, n2, n3⟩ := nd
          rw [e] at h1
          rcases List.mem_append.mp h1 with h1 | h1
          · exact absurd h2 (n3 _ (List.mem_map_of_mem h1) _ (List.mem_cons_self ..))
          · rcases List.mem_cons.mp h1 with h1 | h1
            · exact h1
            · exact absurd (h2 ▸ List.mem_map_of_mem h1) (List.nodup_cons.mp n2).1
        rw [this]
        exact d.2
  · rw [if_neg ht] at h
    cases h
    have hne : m.tops ≠ [] := fun e => ht (by rw [e]; rfl)
    cases hl : m.tops.getLast? with
    | none => exact absurd (List.getLast?_eq_none_iff.mp hl) hne
    | some j =>
      rw [hl] at d
      refine ⟨d.2, fun j' hj' => ?_⟩
      have hj' : m.tops.getLast? = some j' := hj'
      rw [hl] at hj'
      cases hj'
      exact d.1
theorem OthC.to {m m' : EngM} {c : Cur} (o : OthC m c) (h1 : m'.tops = m.tops) (h2 : m'.bottom = m.bottom) (h3 : m'.begun = m.begun) : OthC m' c := by
  cases c with
  | top => exact ⟨by rw [h1]; exact o.1, by rw [h2]; exact o.2.1, by rw [h3]; exact o.2.2⟩
  | bottom => show Deep0 m'.begun; rw [h3]; exact o
  | thread n => intro j hj; rw [h3] at hj; exact o j hj
theorem curC_to {m m' : EngM} (h1 : m'.tops = m.tops) (h2 : m'.bottom = m.bottom) (h3 : m'.begun = m.begun) : curC m' = curC m := by
  unfold curC bestJ
  rw [h1, h2, h3]
/-! ### a job goes on -/
structure Goes (j x : JobM) : Prop where
  name : x.name = j.name
  word : x.word = j.word
  rank : x.rank = j.rank
  ss : x.ss = j.ss
  masks : x.masks = j.masks
theorem adv {m : EngM} {c : Cur} {j x : JobM} {w : Option JobM → EngM} (f : PF m c j w) (g : Goes j x) (hd : m.depth = x.deep) : Inv ((w (some x)).over c) ∧ (((w (some x)).over c).mu = m.mu - (costJ j - 14) + (if x.pos < x.ss.length then costJ x - 14 else 0)) ∧
    (((w (some x)).over c).R = m.R ∧ ((w (some x)).over c).B = m.B ∧ ((w (some x)).over c).T = m.T ∧ ((w (some x)).over c).ways = m.ways ∧ ((w (some x)).over c).now = m.now ∧ ((w (some x)).over c).row = m.row ∧ ((w (some x)).over c).depths = m.depths ∧ ((w (some x)).over c).last = m.last) := by
  rw [f.ov x g.name]
  obtain ⟨r, hs⟩ := f.sum
  have mum : m.mu = 14 * ((m.R.length : Int) + 1 + m.T.length) + (r (fun j => costJ j - 14) + (costJ j - 14)) := by
    unfold mu
    have z := hs (some j) (fun j => costJ j - 14)
    rw [f.self] at z
    rw [z]
    simp
  have muw : ∀ X, (w X).mu = 14 * ((m.R.length : Int) + 1 + m.T.length) + (r (fun j => costJ j - 14) + (X.toList.map fun j => costJ j - 14).sum) := fun X => by
    unfold mu
    rw [hs X, (f.keep X).1, (f.keep X).2.2.1]
  have ok := f.ok
  split
  · rename_i hp
    refine ⟨⟨f.inv (some x) fun y hy => ?_, f.d1 x g.name g.rank ?_⟩, ?_, ?_⟩
    · cases hy
      exact ⟨⟨g.word.trans ok.word, by rw [g.ss]; exact ok.st, hp, g.masks.trans ok.masks⟩, g.name⟩
    · rw [(f.keep _).2.2.2.2.2.2.2.2]
      exact hd.symm
    · rw [muw, mum]
      have z : ((some x : Option JobM).toList.map fun j => costJ j - 14).sum = costJ x - 14 := by simp
      rw [z]
      omega
    · obtain ⟨k1, k2, k3, k4, k5, k6, k7, k8, _⟩ := f.keep (some x)
      exact ⟨k1, k2, k3, k4, k5, k6, k7, k8⟩
  · rename_i hp
    have hm : x.masks = 0 := g.masks.trans ok.masks
    rw [hm]
    have iv := f.inv none fun y hy => by cases hy
    refine ⟨⟨⟨iv.plan, iv.wn, fun l hl => ⟨(iv.ws l hl).1.to rfl rfl rfl, (iv.ws l hl).2⟩, fun j hj => (iv.tops j hj).to rfl rfl rfl, iv.tn, fun j hj => (iv.bottom j hj).to rfl rfl rfl, fun j hj => (iv.begun j hj).to rfl rfl rfl, iv.bn, iv.wk, iv.put⟩, f.d0⟩, ?_, ?_⟩
    · show (w none).mu = _
      rw [muw, mum]
      have z : ((none : Option JobM).toList.map fun j => costJ j - 14).sum = 0 := rfl
      rw [z]
      omega
    · obtain ⟨k1, k2, k3, k4, k5, k6, k7, k8, _⟩ := f.keep none
      exact ⟨k1, k2, k3, k4, k5, k6, k7, k8⟩
theorem cost_step {j : JobM} {s : PyData} (h : j.ss[j.pos]? = some s) (hs : wordD s ≠ "run") : (j.pos + 1 < j.ss.length → costJ { j with pos := j.pos + 1 } = costJ j - 1) ∧ (¬ j.pos + 1 < j.ss.length → 16 ≤ costJ j) := by
  obtain ⟨hl, hg⟩ := List.getElem?_eq_some_iff.mp h
  have hd : j.ss.drop j.pos = s :: j.ss.drop (j.pos + 1) := by rw [← hg, List.getElem_cons_drop]
  unfold costJ
  dsimp only
  rw [hd]
  simp only [List.any_cons, decide_eq_false hs, Bool.false_or, List.takeWhile_cons, Bool.not_false, if_true]
  refine ⟨fun hp => ?_, fun hp => ?_⟩
  · split
    · simp only [List.length_cons]
      omega
    · omega
  · have : j.ss.drop (j.pos + 1) = [] := List.drop_eq_nil_of_le (by omega)
    rw [this]
    simp
    omega
/-! ### a step's deed -/
theorem do_keep (m : EngM) (s : PyData) : (m.doStep s).tops = m.tops ∧ (m.doStep s).bottom = m.bottom ∧ (m.doStep s).begun = m.begun ∧ (m.doStep s).R = m.R ∧ (m.doStep s).B = m.B ∧ (m.doStep s).T = m.T ∧ (m.doStep s).now = m.now ∧ (m.doStep s).row = m.row ∧ (m.doStep s).depths = m.depths ∧ (m.doStep s).last = m.last ∧ (m.doStep s).depth = m.depth + deepOf (wordD s) := by
  unfold doStep
  by_cases h1 : wordD s = "mask"
  · rw [if_pos h1, h1]
    exact ⟨rfl, rfl, rfl, rfl, rfl, rfl, rfl, rfl, rfl, rfl, rfl⟩
  · rw [if_neg h1]
    by_cases h2 : wordD s = "open"
    · rw [if_pos h2, h2]
      exact ⟨rfl, rfl, rfl, rfl, rfl, rfl, rfl, rfl, rfl, rfl, rfl⟩
    · rw [if_neg h2]
      have h0 : deepOf (wordD s) = 0 := by unfold deepOf; rw [if_neg h1, if_neg h2]
      rw [h0, Int.add_zero]
      split
      · exact ⟨rfl, rfl, rfl, rfl, rfl, rfl, rfl, rfl, rfl, rfl, rfl⟩
      · split
        · exact ⟨rfl, rfl, rfl, rfl, rfl, rfl, rfl, rfl, rfl, rfl, rfl⟩
        · split <;> exact ⟨rfl, rfl, rfl, rfl, rfl, rfl, rfl, rfl, rfl, rfl, rfl⟩
theorem do_set (m : EngM) (c : Cur) (f : JobM → JobM) (s : PyData) : (m.setJob c f).doStep s = (m.doStep s).setJob c f := by
  have hput : (m.setJob c f).put = m.put := by cases c <;> rfl
  unfold doStep
  rw [hput]
  by_cases h1 : wordD s = "mask"
  · rw [if_pos h1, if_pos h1]
    cases c <;> rfl
  · rw [if_neg h1, if_neg h1]
    by_cases h2 : wordD s = "open"
    · rw [if_pos h2, if_pos h2]
      cases c <;> rfl
    · rw [if_neg h2, if_neg h2]
      by_cases h3 : wordD s = "answer"
      · rw [if_pos h3, if_pos h3]
        cases c <;> rfl
      · rw [if_neg h3, if_neg h3]
        by_cases h4 : wordD s = "wake"
        · rw [if_pos h4, if_pos h4]
          cases c <;> rfl
        · rw [if_neg h4, if_neg h4]
          by_cases h5 : argD s ∈ m.put
          · rw [if_pos h5, if_pos h5]
          · rw [if_neg h5, if_neg h5]
            cases c <;> rfl
theorem step_word {s : PyData} (h : isStepD s = true) : wordD s = "mask" ∨ wordD s = "open" ∨ wordD s = "run" ∨ wordD s = "answer" ∨ wordD s = "later" ∨ wordD s = "wake" := by
  cases s with
  | tuple ds => match ds, h with
    | .str w :: rest, h =>
      have h : isStepW w rest = true := h
      show w = "mask" ∨ w = "open" ∨ w = "run" ∨ w = "answer" ∨ w = "later" ∨ w = "wake"
      unfold isStepW at h
      split at h
      · rename_i hc; rcases hc with hc | hc
        · exact .inl hc
        · exact .inr (.inl hc)
      · split at h
        · split at h
          · rename_i hc; exact .inr (.inr (.inl hc))
          · obtain ⟨h1, _⟩ := band h
            simp at h1
            rcases h1 with h1 | h1 | h1
            · exact .inr (.inr (.inr (.inl h1)))
            · exact .inr (.inr (.inr (.inr (.inl h1))))
            · exact .inr (.inr (.inr (.inr (.inr h1))))
        · cases h
  | _ => cases h
theorem answer_keep (l : LineM) : l.answer.name = l.name ∧ l.answer.ss = l.ss ∧ l.answer.let_by = l.let_by ∧ ((l.fresh = true → l.since.isSome = true) → l.answer.fresh = true → l.answer.since.isSome = true) := by
  unfold LineM.answer
  split
  · exact ⟨rfl, rfl, rfl, fun _ h => by cases h⟩
  · exact ⟨rfl, rfl, rfl, fun h => h⟩
theorem do_inv {m : EngM} (i : Inv0 m) {s : PyData} (hs : isStepD s = true) (hr : wordD s ≠ "run") (hsp : (wordD s = "answer" → argD s ∈ m.R.map nameD) ∧ (wordD s = "later" → argD s ∈ m.B.map nameD) ∧ (wordD s = "wake" → argD s ∈ m.T.map nameD)) : Inv0 (m.doStep s) ∧ ∀ k, (∀ l ∈ m.ways, l.let_by.length ≤ k) → ∀ l ∈ (m.doStep s).ways, l.let_by.length ≤ k := by
  have same : ∀ {m' : EngM}, m'.R = m.R → m'.B = m.B → m'.T = m.T → m'.tops = m.tops → m'.bottom = m.bottom → m'.begun = m.begun → m'.ways = m.ways → m'.woken.map (·.1) = m.woken.map (·.1) → (m'.put.Nodup ∧ ∀ n ∈ m'.put, n ∈ m.B.map nameD) → Inv0 m' := fun {m'} h1 h2 h3 h4 h5 h6 h7 h8 h9 =>
    ⟨by rw [h1, h2, h3]; exact i.plan, by rw [h7, h1]; exact i.wn, fun l hl => by rw [h7] at hl; exact ⟨(i.ws l hl).1.to h1 h2 h3, (i.ws l hl).2⟩, fun j hj => by rw [h4] at hj; exact (i.tops j hj).to h1 h2 h3, by rw [h4, h1]; exact i.tn, fun j hj => by rw [h5] at hj; exact (i.bottom j hj).to h1 h2 h3, fun j hj => by rw [h6] at hj; exact (i.begun j hj).to h1 h2 h3, by rw [h6, h3]; exact i.bn, by rw [h8, h3]; exact i.wk, by rw [h2]; exact h9⟩
  unfold doStep
  split
  · exact ⟨same rfl rfl rfl rfl rfl rfl rfl rfl i.put, fun k h => h⟩
  · rename_i h1
    split
    · exact ⟨same rfl rfl rfl rfl rfl rfl rfl rfl i.put, fun k h => h⟩
    · rename_i h2
      split
      · have hw : ∀ x ∈ upFirst (hasN (argD s)) LineM.answer m.ways, StOk m x.ss ∧ (x.fresh = true → x.since.isSome = true) := upFirst_all (P := fun x : LineM => StOk m x.ss ∧ (x.fresh = true → x.since.isSome = true)) (fun x hx => ⟨by rw [(answer_keep x).2.1]; exact hx.1, (answer_keep x).2.2.2 hx.2⟩) i.ws
        refine ⟨⟨i.plan, (upFirst_map (fun x => (answer_keep x).1) _).trans i.wn, fun x hx => ⟨(hw x hx).1.to rfl rfl rfl, (hw x hx).2⟩, fun j hj => (i.tops j hj).to rfl rfl rfl, i.tn, fun j hj => (i.bottom j hj).to rfl rfl rfl, fun j hj => (i.begun j hj).to rfl rfl rfl, i.bn, i.wk, i.put⟩, fun k h => upFirst_all (P := fun x : LineM => x.let_by.length ≤ k) (fun x hx => by rw [(answer_keep x).2.2.1]; exact hx) h⟩
      · rename_i h3
        split
        · refine ⟨same rfl rfl rfl rfl rfl rfl rfl ?_ i.put, fun k h => h⟩
          unfold addW
          dsimp only
          rw [List.map_map]
          apply List.map_congr_left
          intro x _
          show (if x.1 = argD s then _ else x).1 = x.1
          split <;> rfl
        · rename_i h4
          have hl : wordD s = "later" := by
            rcases step_word hs with h | h | h | h | h | h
            · exact absurd h h1
            · exact absurd h h2
            · exact absurd h hr
            · exact absurd h h3
            · exact h
            · exact absurd h h4
          split
          · exact ⟨i, fun k h => h⟩
          · rename_i h5
            refine ⟨same rfl rfl rfl rfl rfl rfl rfl rfl ⟨?_, fun n hn => ?_⟩, fun k h => h⟩
            · show (m.put ++ [argD s]).Nodup
              rw [List.nodup_append]
              refine ⟨i.put.1, by simp, fun a ha b hb => ?_⟩
              rw [List.mem_singleton.mp hb]
              exact fun e => h5 (e ▸ ha)
            · rcases List.mem_append.mp hn with hn | hn
              · exact i.put.2 n hn
              · rw [List.mem_singleton.mp hn]
                exact hsp.2.1 hl
structure QuR (m r : EngM) : Prop where
  inv : Inv r
  mu : r.mu + 1 ≤ m.mu
  same : r.R = m.R ∧ r.B = m.B ∧ r.T = m.T ∧ r.now = m.now ∧ r.row = m.row ∧ r.depths = m.depths ∧ r.last = m.last
  lb : ∀ k, (∀ l ∈ m.ways, l.let_by.length ≤ k) → ∀ l ∈ r.ways, l.let_by.length ≤ k
/-- what is known of the step that comes -/
structure Now (m : EngM) (c : Cur) (j : JobM) (s : PyData) : Prop where
  job : m.jobAt c = some j
  ok : JobOk m (roleC c) j
  step : j.ss[j.pos]? = some s
  now : m.stepNow c = s
  good : isStepD s = true
  sp : (wordD s = "answer" → argD s ∈ m.R.map nameD) ∧ (wordD s = "later" → argD s ∈ m.B.map nameD) ∧ (wordD s = "wake" → argD s ∈ m.T.map nameD)
theorem now_of {m : EngM} {c : Cur} (i : Inv m) (h : curC m = some c) : ∃ j s, Now m c j s := by
  obtain ⟨o, _⟩ := oth_of i h
  obtain ⟨j, w, f⟩ := pf_of i.i h o
  have hat := f.at_ j rfl
  rw [f.self] at hat
  have hpl := f.ok.pos
  have hs : j.ss[j.pos]? = some j.ss[j.pos] := List.getElem?_eq_getElem hpl
  refine ⟨j, _, hat, f.ok, hs, ?_, (steps_parts f.ok.st.st).2.1 _ (List.getElem_mem _), f.ok.st.sp _ (List.getElem_mem _)⟩
  unfold stepNow
  rw [hat]
  show j.ss.getD j.pos .none = _
  rw [List.getD_eq_getElem?_getD, hs]
  rfl
theorem qui {m : EngM} {c : Cur} (i : Inv m) (h : curC m = some c) (hq : m.isQuick c = true) : QuR m (m.quick c) := by
  obtain ⟨j, s, n⟩ := now_of i h
  obtain ⟨o, hd⟩ := oth_of i h
  have hr : wordD s ≠ "run" := by
    unfold isQuick at hq
    rw [n.now] at hq
    simpa using hq
  have hk := do_keep m s
  obtain ⟨k1, k2, k3, k4, k5, k6, k7, k8, k9, k10, k11⟩ := hk
  obtain ⟨iv, lb⟩ := do_inv i.i n.good hr n.sp
  have hc : curC (m.doStep s) = some c := (curC_to k1 k2 k3).trans h
  obtain ⟨j', w, f⟩ := pf_of iv hc (o.to k1 k2 k3)
  have hj : j' = j := by
    have a := f.at_ j' rfl
    rw [f.self] at a
    have b : (m.doStep s).jobAt c = m.jobAt c := by cases c <;> (unfold jobAt; simp only [k1, k2, k3])
    rw [b, n.job] at a
    exact (Option.some.inj a).symm
  subst hj
  have e : m.quick c = (w (some { j' with pos := j'.pos + 1 })).over c := by
    unfold quick
    rw [do_set, n.now]
    have z := f.set j' (fun j => { j with pos := j.pos + 1 }) rfl
    rw [f.self] at z
    rw [z]
  have dp : (m.doStep s).depth = ({ j' with pos := j'.pos + 1 } : JobM).deep := by
    rw [k11, hd j' n.job]
    exact (deepN_succ n.step).symm
  obtain ⟨a1, a2, b1, b2, b3, b4, b5, b6, b7, b8⟩ := adv f (x := { j' with pos := j'.pos + 1 }) ⟨rfl, rfl, rfl, rfl, rfl⟩ dp
  have mus : (m.doStep s).mu = m.mu := by
    unfold mu jobs
    rw [k1, k2, k3, k4, k6]
  obtain ⟨c1, c2⟩ := cost_step n.step hr
  rw [e]
  refine ⟨a1, ?_, ⟨b1.trans k4, b2.trans k5, b3.trans k6, b5.trans k7, b6.trans k8, b7.trans k9, b8.trans k10⟩, fun k hk => by rw [b4]; exact lb k hk⟩
  rw [a2, mus]
  by_cases hp : j'.pos + 1 < j'.ss.length
  · have := c1 hp
    rw [if_pos (show ({ j' with pos := j'.pos + 1 } : JobM).pos < ({ j' with pos := j'.pos + 1 } : JobM).ss.length from hp)]
    omega
  · have := c2 hp
    rw [if_neg (show ¬ ({ j' with pos := j'.pos + 1 } : JobM).pos < ({ j' with pos := j'.pos + 1 } : JobM).ss.length from hp)]
    omega
end KW
end
section
set_option Elab.async false
set_option linter.all false
set_option autoImplicit false
set_option maxRecDepth 100000
set_option maxHeartbeats 400000
/-! a tick keeps what holds; an engine made anew -/
namespace KW
open PySem EngM
theorem settle_quick {n : Nat} {m : EngM} {c : Cur} (h : m.isQuick c = true) : settle (n + 1) (m, some c) = settle n (m.quick c).chosen := by
  show (if m.isQuick c = true then EngM.settle n (m.quick c).chosen else (m, some c)) = _
  rw [if_pos h]
theorem settle_end {n : Nat} {m : EngM} {c : Option Cur} (h : ∀ x, c = some x → m.isQuick x = false) : settle n (m, c) = (m, c) := by
  cases n with
  | zero => rfl
  | succ n => cases c with
    | none => rfl
    | some x =>
      show (if m.isQuick x = true then EngM.settle n (m.quick x).chosen else (m, some x)) = _
      rw [if_neg (by rw [h x rfl]; decide)]
/-- the least of a settling: from chosen on -/
structure Set_ (m : EngM) (r : EngM × Option Cur) : Prop where
  inv : Inv r.1
  cur : r.2 = curC r.1
  stop : ∀ c, r.2 = some c → r.1.isQuick c = false
  last : (r.1.last.length : Int) + r.1.mu ≤ m.last.length + m.mu
  same : r.1.R = m.R ∧ r.1.B = m.B ∧ r.1.T = m.T ∧ r.1.now = m.now ∧ r.1.row = m.row ∧ r.1.depths = m.depths
  lb : ∀ k, (∀ l ∈ m.ways, l.let_by.length ≤ k) → ∀ l ∈ r.1.ways, l.let_by.length ≤ k
theorem set_of : ∀ (n : Nat) {m : EngM} {c : Option Cur}, Inv m → c = curC m → m.mu < n → Set_ m (settle n (m, c))
  | 0, m, c, i, _, h => by have := (mu_bounds i.i).1; omega
  | n + 1, m, none, i, hc, _ => ⟨i, hc, fun c h => (nomatch h), Int.le_refl _, ⟨rfl, rfl, rfl, rfl, rfl, rfl⟩, fun k h => h⟩
  | n + 1, m, some c, i, hc, h => by
    cases hq : m.isQuick c with
    | false =>
      rw [settle_end fun x hx => by cases hx; exact hq]
      exact ⟨i, hc, fun x hx => by cases hx; exact hq, Int.le_refl _, ⟨rfl, rfl, rfl, rfl, rfl, rfl⟩, fun k h => h⟩
    | true =>
      rw [settle_quick hq]
      have q := qui i hc.symm hq
      have k := cho q.inv
      have := q.mu
      have := k.mu
      have z := set_of n (m := (m.quick c).chosen.1) (c := (m.quick c).chosen.2) k.inv k.cur (by omega)
      obtain ⟨a1, a2, a3, a4, a5, a6, a7⟩ := q.same
      obtain ⟨b1, b2, b3, b4, b5, b6⟩ := k.same
      obtain ⟨c1, c2, c3, c4, c5, c6⟩ := z.same
      refine ⟨z.inv, z.cur, z.stop, ?_, ⟨c1.trans (b1.trans a1), c2.trans (b2.trans a2), c3.trans (b3.trans a3), c4.trans (b4.trans a4), c5.trans (b5.trans a5), c6.trans (b6.trans a6)⟩, fun k' h' => z.lb k' (k.lb k' (q.lb k' h'))⟩
      have h1 := z.last
      have h2 := k.last
      rw [a7] at h2
      have h3 := q.mu
      have h4 := k.mu
      show ((settle n ((m.quick c).chosen.1, (m.quick c).chosen.2)).1.last.length : Int) + (settle n ((m.quick c).chosen.1, (m.quick c).chosen.2)).1.mu ≤ _
      omega
theorem knock_keep (l : LineM) (t : Int) : (l.knock t).name = l.name ∧ (l.knock t).ss = l.ss ∧ (l.knock t).let_by.length ≤ l.let_by.length + 1 ∧ ((l.fresh = true → l.since.isSome = true) → (l.knock t).fresh = true → (l.knock t).since.isSome = true) := by
  unfold LineM.knock
  split
  · exact ⟨rfl, rfl, Nat.le_succ _, fun h => h⟩
  · split
    · exact ⟨rfl, rfl, Nat.le_succ _, fun h => h⟩
    · split
      · exact ⟨rfl, rfl, by simp, fun h => h⟩
      · exact ⟨rfl, rfl, by simp, fun _ _ => rfl⟩
def knock1 (m : EngM) (n : Str) : EngM := { m with ways := upFirst (hasN n) (fun l => l.knock m.now) m.ways }
theorem inv_ways {m : EngM} (i : Inv m) {w : List LineM} (h1 : w.map (·.name) = m.ways.map (·.name)) (h2 : ∀ l ∈ w, StOk m l.ss ∧ (l.fresh = true → l.since.isSome = true)) : Inv { m with ways := w } :=
  ⟨⟨i.i.plan, h1.trans i.i.wn, fun l hl => ⟨(h2 l hl).1.to rfl rfl rfl, (h2 l hl).2⟩, fun j hj => (i.i.tops j hj).to rfl rfl rfl, i.i.tn, fun j hj => (i.i.bottom j hj).to rfl rfl rfl, fun j hj => (i.i.begun j hj).to rfl rfl rfl, i.i.bn, i.i.wk, i.i.put⟩, i.d⟩
theorem inv_knock1 {m : EngM} (i : Inv m) (n : Str) : Inv (knock1 m n) :=
  inv_ways i (upFirst_map (fun x => (knock_keep x _).1) _) (upFirst_all (P := fun x : LineM => StOk m x.ss ∧ (x.fresh = true → x.since.isSome = true)) (fun x hx => ⟨by rw [(knock_keep x _).2.1]; exact hx.1, (knock_keep x _).2.2.2 hx.2⟩) i.i.ws)
theorem knocked_cons (m : EngM) (n : Str) (ns : List Str) : m.knocked (n :: ns) = (knock1 m n).knocked ns := rfl
theorem knocked_snoc (m : EngM) (n : Str) (ns : List Str) : m.knocked (ns ++ [n]) = knock1 (m.knocked ns) n := by
  unfold knocked
  rw [List.foldl_append]
  rfl
structure KnR (m r : EngM) (k : Nat) : Prop where
  inv : Inv r
  keep : ∃ w, r = { m with ways := w }
  mu : r.mu = m.mu
  lb : ∀ b, (∀ l ∈ m.ways, l.let_by.length ≤ b) → ∀ l ∈ r.ways, l.let_by.length ≤ b + k
theorem knr : ∀ (ns : List Str) {m : EngM}, Inv m → KnR m (m.knocked ns) ns.length
  | [], m, i => ⟨i, ⟨m.ways, rfl⟩, rfl, fun b h => h⟩
  | n :: ns, m, i => by
    rw [knocked_cons]
    have z := knr ns (inv_knock1 i n)
    obtain ⟨w, hw⟩ := z.keep
    refine ⟨z.inv, ⟨w, hw⟩, z.mu, fun b h l hl => ?_⟩
    have y := z.lb (b + 1) (fun l hl => ?_) l hl
    · simp only [List.length_cons]; omega
    · have y : ∀ l ∈ upFirst (hasN n) (fun l => l.knock m.now) m.ways, l.let_by.length ≤ b + 1 := by
        intro l hl
        have key : ∀ {ls : List LineM}, (∀ l ∈ ls, l.let_by.length ≤ b) → ∀ l ∈ upFirst (hasN n) (fun l => l.knock m.now) ls, l.let_by.length ≤ b + 1 := by
          intro ls
          induction ls with
          | nil => intro _ l hl; cases hl
          | cons a r ih =>
            intro h l hl
            unfold upFirst at hl
            split at hl
            · rcases List.mem_cons.mp hl with rfl | hl
              · have := (knock_keep a m.now).2.2.1
                have := h a (by simp)
                omega
              · have := h l (List.mem_cons_of_mem _ hl)
                omega
            · rcases List.mem_cons.mp hl with rfl | hl
              · have := h l (by simp)
                omega
              · exact ih (fun x hx => h x (List.mem_cons_of_mem _ hx)) l hl
        exact key h l hl
      exact y l hl
theorem inv_out {m : EngM} (i : Inv m) {m' : EngM} (h1 : m'.R = m.R) (h2 : m'.B = m.B) (h3 : m'.T = m.T) (h4 : m'.tops = m.tops) (h5 : m'.bottom = m.bottom) (h6 : m'.begun = m.begun) (h7 : m'.ways = m.ways) (h8 : m'.woken = m.woken) (h9 : m'.put = m.put) (h0 : m'.depth = m.depth) : Inv m' := by
  refine ⟨⟨by rw [h1, h2, h3]; exact i.i.plan, by rw [h7, h1]; exact i.i.wn, fun l hl => by rw [h7] at hl; exact ⟨(i.i.ws l hl).1.to h1 h2 h3, (i.i.ws l hl).2⟩, fun j hj => by rw [h4] at hj; exact (i.i.tops j hj).to h1 h2 h3, by rw [h4, h1]; exact i.i.tn, fun j hj => by rw [h5] at hj; exact (i.i.bottom j hj).to h1 h2 h3, fun j hj => by rw [h6] at hj; exact (i.i.begun j hj).to h1 h2 h3, by rw [h6, h3]; exact i.i.bn, by rw [h8, h3]; exact i.i.wk, by rw [h2, h9]; exact i.i.put⟩, ?_⟩
  have d := i.d
  unfold DInv bestJ at d ⊢
  rw [h4, h5, h6, h0]
  exact d
theorem run_ticks {s : PyData} (h : isStepD s = true) (hr : wordD s = "run") : ∃ n : Int, s = .tuple [.str "run", .int n] ∧ 1 ≤ n ∧ n ≤ 9 := by
  cases s with
  | tuple ds => match ds, h with
    | .str w :: rest, h =>
      have hr : w = "run" := hr
      subst hr
      have h : isStepW "run" rest = true := h
      unfold isStepW at h
      rw [if_neg (by decide)] at h
      match rest, h with
      | [r], h =>
        simp only [if_true] at h
        obtain ⟨i, rfl, h1, h2⟩ := within_inv h
        exact ⟨i, rfl, h1, h2⟩
  | _ => cases h
structure StepR (m r : EngM) : Prop where
  inv : Inv r
  same : r.R = m.R ∧ r.B = m.B ∧ r.T = m.T ∧ r.ways = m.ways ∧ r.now = m.now ∧ r.row = m.row ∧ r.depths = m.depths ∧ r.last = m.last
theorem stl {m : EngM} {c : Cur} (i : Inv m) (h : curC m = some c) (hq : m.isQuick c = false) : StepR m (m.stepLeft c) := by
  obtain ⟨j, s, n⟩ := now_of i h
  obtain ⟨o, hd⟩ := oth_of i h
  have hr : wordD s = "run" := by
    unfold isQuick at hq
    rw [n.now] at hq
    simpa using hq
  obtain ⟨j', w, f⟩ := pf_of i.i h o
  have hj : j' = j := by
    have a := f.at_ j' rfl
    rw [f.self, n.job] at a
    exact (Option.some.inj a).symm
  subst hj
  let k : Nat := (if 0 < j'.left then j'.left else (ticksD (m.stepNow c)).toNat) - 1
  let x : JobM := { j' with left := k }
  have e1 : (m.setJob c fun j => { j with left := (if 0 < j.left then j.left else (ticksD (m.stepNow c)).toNat) - 1 }) = w (some x) := by
    have z := f.set j' (fun j => { j with left := (if 0 < j.left then j.left else (ticksD (m.stepNow c)).toNat) - 1 }) rfl
    rw [f.self] at z
    exact z
  have hpos := f.ok.pos
  have dj := hd j' n.job
  unfold stepLeft
  dsimp only
  rw [e1, f.at_ x rfl]
  dsimp only
  split
  · rw [f.set x _ rfl]
    let y : JobM := { x with pos := x.pos + 1 }
    have dp : m.depth = y.deep := by
      rw [dj]
      have z := deepN_succ n.step
      rw [hr] at z
      show deepN j'.ss j'.pos = deepN j'.ss (j'.pos + 1)
      rw [z]
      show _ = deepN j'.ss j'.pos + 0
      omega
    obtain ⟨a1, _, b⟩ := adv f (x := y) ⟨rfl, rfl, rfl, rfl, rfl⟩ dp
    exact ⟨a1, b⟩
  · obtain ⟨a1, _, b⟩ := adv f (x := x) ⟨rfl, rfl, rfl, rfl, rfl⟩ dj
    have z := f.ov x rfl
    rw [if_pos (show x.pos < x.ss.length from hpos)] at z
    rw [z] at a1 b
    exact ⟨a1, b⟩
structure FinR (m r : EngM) (c : Option Cur) : Prop where
  inv : Inv r
  same : r.R = m.R ∧ r.B = m.B ∧ r.T = m.T ∧ r.ways = m.ways ∧ r.last = m.last
  out : r.now = m.now + 1 ∧ r.row = m.row ++ [m.whose c] ∧ r.depths = m.depths ++ [m.depth]
theorem fin_of {m : EngM} {c : Option Cur} (i : Inv m) (h : c = curC m) (hq : ∀ x, c = some x → m.isQuick x = false) : FinR m (finish (m, c)) c := by
  have i2 : Inv { m with row := m.row ++ [m.whose c], depths := m.depths ++ [m.depth], now := m.now + 1 } := inv_out i rfl rfl rfl rfl rfl rfl rfl rfl rfl rfl
  cases c with
  | none => exact ⟨i2, ⟨rfl, rfl, rfl, rfl, rfl⟩, rfl, rfl, rfl⟩
  | some x =>
    have hx := hq x rfl
    have z := stl (c := x) i2 ((curC_to rfl rfl rfl).trans h.symm) (by
      have e : ({ m with row := m.row ++ [m.whose (some x)], depths := m.depths ++ [m.depth], now := m.now + 1 } : EngM).isQuick x = m.isQuick x := by cases x <;> rfl
      rw [e]
      exact hx)
    obtain ⟨a1, a2, a3, a4, a5, a6, a7, a8⟩ := z.same
    exact ⟨z.inv, ⟨a1, a2, a3, a4, a8⟩, a5, a6, a7⟩
structure GoR (m r : EngM) (k : Nat) : Prop where
  inv : Inv r
  same : r.R = m.R ∧ r.B = m.B ∧ r.T = m.T
  now : r.now = m.now + 1
  row : r.row.length = m.row.length + 1
  depths : r.depths.length = m.depths.length + 1
  lb : ∀ b, (∀ l ∈ m.ways, l.let_by.length ≤ b) → ∀ l ∈ r.ways, l.let_by.length ≤ b + k
  last : r.last.length ≤ 1000
theorem go_gen {m : EngM} (i : Inv m) (hl : m.last = []) : GoR m (finish (settle fuel m.chosen)) 0 := by
  have k := cho i
  generalize m.chosen = p at k
  obtain ⟨m1, c1⟩ := p
  have mb := (mu_bounds k.inv.i).2
  have st := set_of fuel k.inv k.cur (by show m1.mu < (1000 : Int); have mb : m1.mu ≤ 300 := mb; omega)
  generalize settle fuel (m1, c1) = q at st
  obtain ⟨m2, c2⟩ := q
  have fi := fin_of st.inv st.cur st.stop
  have mu0 : 0 ≤ m2.mu := (mu_bounds st.inv.i).1
  have mb : m1.mu ≤ 300 := mb
  have sl : (m2.last.length : Int) + m2.mu ≤ m1.last.length + m1.mu := st.last
  have kl : m1.last.length ≤ m.last.length + 1 := k.last
  have ki := k.same
  have kb := k.lb
  have si := st.same
  have sb := st.lb
  obtain ⟨a1, a2, a3, a4, a5⟩ := fi.same
  obtain ⟨o1, o2, o3⟩ := fi.out
  obtain ⟨b1, b2, b3, b4, b5, b6⟩ := si
  obtain ⟨c1, c2, c3, c4, c5, c6⟩ := ki
  rw [hl] at kl
  have kl : m1.last.length ≤ 1 := kl
  refine ⟨fi.inv, ⟨a1.trans (b1.trans c1), a2.trans (b2.trans c2), a3.trans (b3.trans c3)⟩, ?_, ?_, ?_, fun b h l hl => ?_, ?_⟩
  · rw [o1]; show m2.now + 1 = m.now + 1; rw [show m2.now = m1.now from b4, show m1.now = m.now from c4]
  · rw [o2]; show (m2.row ++ [_]).length = _; rw [show m2.row = m1.row from b5, show m1.row = m.row from c5]; simp
  · rw [o3]; show (m2.depths ++ [_]).length = _; rw [show m2.depths = m1.depths from b6, show m1.depths = m.depths from c6]; simp
  · rw [a4] at hl
    exact sb _ (kb _ h) l hl
  · rw [a5]
    show m2.last.length ≤ 1000
    omega
theorem go_of {m : EngM} (i : Inv m) (ns : List Str) : GoR m (m.go ns) ns.length := by
  have i0 : Inv { m with last := [] } := inv_out i rfl rfl rfl rfl rfl rfl rfl rfl rfl rfl
  have kn := knr ns i0
  have e : m.go ns = finish (settle fuel ((({ m with last := [] } : EngM).knocked ns).chosen)) := rfl
  rw [e]
  generalize ({ m with last := [] } : EngM).knocked ns = m0 at kn
  obtain ⟨w, hw⟩ := kn.keep
  have ki := kn.inv
  have kb := kn.lb
  subst hw
  have z := go_gen ki rfl
  exact ⟨z.inv, z.same, z.now, z.row, z.depths, fun b h l hl => z.lb _ (kb b h) l hl, z.last⟩
/-- an engine made anew -/
theorem inv_new {R B T : List PyData} (h : planOkD (.list R) (.list B) (.list T) = true) : Inv (newEng R B T) := by
  have p := plan_parts h
  refine ⟨⟨h, ?_, fun l hl => ?_, fun j hj => (nomatch hj), ⟨List.nodup_nil, fun j hj => (nomatch hj)⟩, fun j hj => (nomatch hj), fun j hj => (nomatch hj), ⟨List.nodup_nil, fun j hj => (nomatch hj)⟩, ?_, ⟨List.nodup_nil, fun j hj => (nomatch hj)⟩⟩, ⟨fun j hj => (nomatch hj), rfl⟩⟩
  · show (R.map lineM).map (·.name) = R.map nameD
    rw [List.map_map]
    refine List.map_congr_left fun d hd => ?_
    obtain ⟨n, r, u, a, b, c, ss, rfl, _⟩ := line_inv (p.oR d hd)
    rfl
  · obtain ⟨d, hd, rfl⟩ := List.mem_map.mp (show l ∈ R.map lineM from hl)
    obtain ⟨s1, s2⟩ := p.stR hd
    obtain ⟨n, r, u, a, b, c, ss, rfl, _⟩ := line_inv (p.oR d hd)
    exact ⟨⟨s1, s2⟩, fun h => by cases h⟩
  · show (T.map fun t => (nameD t, (0 : Int))).map (·.1) = T.map nameD
    rw [List.map_map]
    rfl
end KW
end
section
set_option Elab.async false
set_option linter.all false
set_option autoImplicit false
set_option maxRecDepth 100000
set_option maxHeartbeats 1000000
/-! engine.py: chosen -/
namespace KW
open PySem PySem.Spec PyProof.Rows L2 He KR Evl
local macro_rules
  | `(tactic| walk_at "na") => `(tactic| with_reducible (first | exact cl_Line (by assumption) | exact cl_Job (by assumption) | exact cl_Engine (by assumption) | exact cl_Plan (by assumption) | exact cl_Run (by assumption) | exact cl_Bench (by assumption) | exact na_Line_name (by assumption) | exact na_Line_rank (by assumption) | exact na_Line_is_up (by assumption) | exact na_Line_guard (by assumption) | exact na_Line_top (by assumption) | exact na_Line_let_by (by assumption) | exact na_Line_shut_till (by assumption) | exact na_Line_since (by assumption) | exact na_Line_fresh (by assumption) | exact na_Line_counts (by assumption) | exact na_Line_longest (by assumption) | exact na_Job_word (by assumption) | exact na_Job_name (by assumption) | exact na_Job_rank (by assumption) | exact na_Job_steps (by assumption) | exact na_Job_masks_then (by assumption) | exact na_Job_at (by assumption) | exact na_Job_left (by assumption) | exact na_Engine_plan (by assumption) | exact na_Engine_ways (by assumption) | exact na_Engine_tops (by assumption) | exact na_Engine_bottom (by assumption) | exact na_Engine_put_off (by assumption) | exact na_Engine_woken (by assumption) | exact na_Engine_begun (by assumption) | exact na_Engine_depth (by assumption) | exact na_Engine_now (by assumption) | exact na_Engine_row (by assumption) | exact na_Engine_depths (by assumption) | exact na_Engine_last_begun (by assumption) | exact na_Plan_row (by assumption) | exact na_Plan_low (by assumption) | exact na_Plan_late (by assumption) | exact na_Run_row (by assumption) | exact na_Run_depths (by assumption) | exact na_Run_table (by assumption) | exact na_Run_longest (by assumption) | exact na_Bench_engine (by assumption) | exact na_Bench_fresh (by assumption) | exact na_Bench_told_so_far (by assumption) | exact na_Bench_rows (by assumption)))
local macro_rules
  | `(tactic| walk_at "oi") => `(tactic| first | assumption | exact oi2 0 (by assumption) rfl | exact oi2 1 (by assumption) rfl | exact oi2 2 (by assumption) rfl | exact oi2 3 (by assumption) rfl | exact oi2 4 (by assumption) rfl | exact oi2 5 (by assumption) rfl | exact oi2 6 (by assumption) rfl | exact oi2 7 (by assumption) rfl | exact oi2 8 (by assumption) rfl)
local macro_rules
  | `(tactic| walk_at "ev") => `(tactic| repeat' (first
    | exact ev_c | exact ev_var rfl | exact ea_nil | exact rv_I0 | exact ru_neg | exact eo_none
    | exact rv_eq rfl | exact rv_ne rfl
    | exact rv_ixT (by assumption) (by rfl) | exact rv_ixL (by assumption) (by rfl)
    | exact sv_q (by assumption) (by assumption) | exact sv_within (by assumption)
    | exact Or.inr (by assumption) | exact Or.inl (by assumption) | (show (_ : String) ∈ _; decide)
    | with_reducible (first | apply ev_isi | apply ev_lenS | apply ev_if' | apply et_test | apply et_B | apply et_not | apply et_and | apply et_or | apply ev_andV | apply ev_orV | apply ev_notV | apply ea_cons | apply eo_some | apply ev_fl | apply ev_op | apply ev_un | apply ev_call)
    | walk_at "na" | walk_at "oi" | (show List.lookup _ _ = _; rfl)
    | assumption
    | (with_reducible intro hh; first | exact absurd (show true = false from hh) (by decide) | exact absurd (show false = true from hh) (by decide) | clear hh)))

section
variable {P : Program} {w : World} {K : PySem.W.Frag} {mg : Str → Option Value} {base : Heap}
theorem em_begun (e : EngG) : e.m.begun.map (·.name) = e.begun.map (·.m.name) := by
  show (e.begun.map (·.m)).map (·.name) = _
  rw [List.map_map]
  rfl
theorem em_ways (e : EngG) : e.m.ways.map (·.name) = e.ways.map (·.m.name) := by
  show (e.ways.map (·.m)).map (·.name) = _
  rw [List.map_map]
  rfl
theorem find_some {α : Type} {p : α → Bool} {l : List α} {x : α} (h : x ∈ l) (hp : p x = true) : ∃ y, l.find? p = some y := by
  cases hf : l.find? p with
  | some y => exact ⟨y, rfl⟩
  | none => exact absurd hp (List.find?_eq_none.mp hf x h)
theorem thr_ok {e : EngG} (i : Inv e.m) (ht : e.tops = []) (hb : e.bottom = none) : ThrOk e := by
  have p := plan_parts i.i.plan
  have c := inv_counts i.i
  refine ⟨fun hd => ?_, fun t htm => ⟨p.oT t htm, ?_⟩, by rw [← em_begun]; exact i.i.bn.1, fun j hj => (i.i.begun j.m (List.mem_map.mpr ⟨j, hj, rfl⟩)).word, ?_, ?_, ?_⟩
  · intro hbe
    have d := i.d
    unfold DInv at d
    have h1 : e.m.tops = [] := by show e.tops.map (·.m) = []; rw [ht]; rfl
    have h2 : e.m.bottom = none := by show e.bottom.map (·.m) = none; rw [hb]; rfl
    have h3 : e.m.begun = [] := by show e.begun.map (·.m) = []; rw [hbe]; rfl
    rw [h1, h2] at d
    have d2 := d.2
    unfold bestJ at d2
    rw [h3] at d2
    have d2 : e.depth = 0 := d2
    omega
  · have hm : nameD t ∈ e.woken.map (·.1) := by
      have z := i.i.wk
      have z : e.woken.map (·.1) = e.T.map nameD := z
      rw [z]
      exact List.mem_map.mpr ⟨t, htm, rfl⟩
    obtain ⟨q, hq, hn⟩ := List.mem_map.mp hm
    exact find_some hq (decide_eq_true hn)
  · have z : e.m.begun.length = e.begun.length := List.length_map ..
    omega
  · have z : e.m.T.length = e.T.length := rfl
    omega
  · have z : e.m.woken.length = e.woken.length := rfl
    omega
theorem s_appMake {C : Addr} {sp : Sp} {E : XK} {ta : TE} {tA : TA} {p : Addr} {xs vs : List V} {σ : L2.St} {H : Hp} {D : Ends} (ha : Ev ta σ H (.ref p)) (hl : H p = some (.lst xs)) (hA : EvA tA σ H vs)
    (k : ∀ H1 x dx, Ex H H1 → H1 x = none → H1 dx = none → dx ≠ x → sp (.ref x :: (vs ++ [])) (upd (upd H1 dx (.own x)) x (.ins C dx [])) (fun v H2 => v = .non ∧ rAppend (.ref p) [.ref x] H2 fun _ H1 => D.nx σ H1) E) : tDrop (tBM K "list" rAppend ta (tCons (tMake C sp [] E tA) tNil)) D σ H :=
  ha H (Ex.refl _) _ fun H1 e1 => ⟨.inl ⟨rfl, _, sq_of (e1 _ _ hl)⟩, hA H1 e1 _ fun H2 e2 x dx n1 n2 n3 => k H2 x dx (e1.trans e2) n1 n2 n3⟩
theorem perm_add {α : Type} (A B : List α) (x : α) : (x :: (A ++ B)).Perm (A ++ x :: B) := List.perm_middle.symm
def ChoOk (e : EngG) : Prop := Inv e.m ∧ e.last.length ≤ 2000 ∧ ∀ l ∈ e.ways, l.m.let_by.length ≤ 5000
def spChosen (K : PySem.W.Frag) : Sp := fun vs H Q _ => ∃ (G : Hp) (e : EngG) (F : List (Addr × HO)), vs = [.ref e.a] ∧ Own G H (e.obs K ++ F) ∧ EngK K G e ∧ ChoOk e ∧
  ∀ G' (e' : EngG) (c : Option Cur) (r : V) H', Same G G' → (e'.m, c) = e.m.chosen → CurV e' c r → e'.a = e.a → EngK K G' e' → Own G' H' (e'.obs K ++ F) → Q r H'
theorem s_fldMake {C : Addr} {sp : Sp} {E : XK} {ta : TE} {tA : TA} {f : Str} {vs : List V} {σ : L2.St} {H : Hp} {D : Ends} (hA : EvA tA σ H vs)
    (k : ∀ H1 x dx, Ex H H1 → H1 x = none → H1 dx = none → dx ≠ x → sp (.ref x :: (vs ++ [])) (upd (upd H1 dx (.own x)) x (.ins C dx [])) (fun v H2 => v = .non ∧ sFld K ta (fun σ H Q => Q (.ref x) H) f D σ H2) E) : sFld K ta (tMake C sp [] E tA) f D σ H :=
  hA H (Ex.refl _) _ fun H1 e1 x dx n1 n2 n3 => k H1 x dx e1 n1 n2 n3
theorem q_popAt0 {p : Addr} {x : V} {xs : List V} {ta : TE} {i : Nat} {σ : L2.St} {G H : Hp} {L : List (Addr × HO)} {D : Ends} {tz : TS} (o : Own G H L) (n : Nat) (h : L[n]? = some (p, .lst (x :: xs))) (ha : Ev ta σ H (.ref p)) (k : ∀ H1, Own G H1 (L.set n (p, .lst xs)) → tz D (σ.set i (some x)) H1) :
    tSeq (tAsg (tBM K "list" rPopAt ta (tCons (tC (.int 0)) tNil)) (gName i)) tz D σ H :=
  ha H (Ex.refl _) _ fun H1 e1 => ⟨.inl ⟨rfl, _, sq_of (e1 _ _ (oi2 n o h))⟩, p, x :: xs, 0, 0, x, rfl, rfl, e1 _ _ (oi2 n o h), by decide, by decide, by simp [seqIndex?], rfl, k _ (own_set (o.same e1) h)⟩
theorem ev_isN {te : TE} {σ : L2.St} {H : Hp} {v : V} (h : Ev te σ H v) : Ev (tIsN te) σ H (.bl (decide (v = .non))) := fun H1 e Q q => h H1 e _ fun H2 e2 => q H2 e2
theorem s_retF {t : TT} {ta tb : TE} {D : Ends} {σ : L2.St} {H : Hp} (h : EvT t σ H false) (k : ∀ H1, Ex H H1 → tb σ H1 D.rt) : tRet (tIf t ta tb) D σ H := h H (Ex.refl _) _ fun H1 e1 => by
  rw [if_neg (by decide)]
  exact k H1 e1
theorem begin_keep (l : LineM) (t : Int) : (l.begin t).most = l.most ∧ (l.begin t).wide = l.wide ∧ (l.begin t).rest = l.rest ∧ (l.begin t).rank = l.rank := by
  unfold LineM.begin
  dsimp only
  repeat' split
  all_goals exact ⟨rfl, rfl, rfl, rfl⟩
/-- what goes on where no top is begun -/
theorem cho_tail (T : Txt w K mg) {G H : Hp} {e : EngG} {F : List (Addr × HO)} {Q : VK} (o : Own G H (e.obs K ++ F)) (k : EngK K G e) (hinv : Inv e.m) (q : ∀ G' (e' : EngG) (c : Option Cur) (r : V) H', Same G G' → (e'.m, c) = e.m.chosen → CurV e' c r → e'.a = e.a → EngK K G' e' → Own G' H' (e'.obs K ++ F) → Q r H') : ∀ (G2 : Hp) (e2 : EngG) (H2 : Hp) (s1 s2 s3 s4 : Option V), Same G G2 → Own G2 H2 (e2.obs K ++ F) → EngK K G2 e2 → e2.a = e.a → Inv e2.m → e2.tops = [] → (e.m.chosen = if e2.m.bottom.isSome then (e2.m, some .bottom) else e2.m.readyThread) →
    tRet (tIf (tB (tNotN (tFld K (tVar 0) (Str.ofString "bottom")))) (tFld K (tVar 0) (Str.ofString "bottom")) (tMeth (g_Engine K) "ready_thread" (spReadyT K) [] E0 (tVar 0) tNil)) { nx := fun x H' => Q V.non H', rt := Q } [some (V.ref e.a), s1, s2, s3, s4] H2 := fun G2 e2 H2 s1 s2 s3 s4 hs o2 k2 ha hi2 ht2 he => by
  rw [← ha]
  have hbe : Ev (tFld K (tVar 0) (Str.ofString "bottom")) [some (V.ref e2.a), s1, s2, s3, s4] H2 (optJ e2.bottom) := by walk_at "ev"
  cases hbt : e2.bottom with
  | some j =>
    rw [hbt] at hbe
    have z : e2.m.bottom.isSome = true := by show (e2.bottom.map (·.m)).isSome = true; rw [hbt]; rfl
    rw [if_pos z] at he
    have hjw : j.m.word = "bottom" := (hi2.i.bottom j.m (by show e2.bottom.map (·.m) = _; rw [hbt]; rfl)).word
    refine s_ret (ev_if (b := true) (et_is (et_B (ev_notN hbe)) (by rfl)) (fun _ => hbe) fun h => by cases h) fun H3 e3 => q G2 e2 (some .bottom) _ H3 hs he.symm ⟨j, hbt, rfl, hjw⟩ ha k2 (o2.same e3)
  | none =>
    rw [hbt] at hbe
    have z : ¬ e2.m.bottom.isSome = true := by show ¬ (e2.bottom.map (·.m)).isSome = true; rw [hbt]; decide
    rw [if_neg z] at he
    have tst : EvT (tB (tNotN (tFld K (tVar 0) (Str.ofString "bottom")))) [some (V.ref e2.a), s1, s2, s3, s4] H2 false := et_is (et_B (ev_notN hbe)) (by rfl)
    refine s_retF tst fun H3 e3 => ?_
    have o3 := o2.same e3
    refine ⟨.ref e2.a, rfl, e2.a, e2.dx, e2.fs, rfl, oi2 0 o3 rfl, rfl, G2, e2, F, rfl, o3, k2, thr_ok hi2 ht2 hbt, fun G3 e4 c r H4 hs3 hm hcv ha4 k4 o4 => ?_⟩
    exact q G3 e4 c r H4 (hs.trans hs3) (hm.trans he.symm) hcv (ha4.trans ha) k4 o4
theorem cho_top (T : Txt w K mg) {G H : Hp} {e : EngG} {F : List (Addr × HO)} {Q : VK} (o : Own G H (e.obs K ++ F)) (k : EngK K G e) (q : ∀ G' (e' : EngG) (c : Option Cur) (r : V) H', Same G G' → (e'.m, c) = e.m.chosen → CurV e' c r → e'.a = e.a → EngK K G' e' → Own G' H' (e'.obs K ++ F) → Q r H') : ∀ (e2 : EngG) (H2 : Hp) (s1 s2 s3 s4 : Option V) (j : JobG), Own G H2 (e2.obs K ++ F) → EngK K G e2 → e2.a = e.a → e2.tops.getLast? = some j → j.m.word = "top" → (e2.m, some Cur.top) = e.m.chosen → ∀ tz,
    tSeq (tIfS (tTest (tOp (rNil K true) (tFld K (tVar 0) (Str.ofString "tops")) (tLst tNil))) (tRet (tOp (rIxL K) (tFld K (tVar 0) (Str.ofString "tops")) (tUn (rU fun i => V.int (-i)) (tC (V.int 1))))) tNext) tz { nx := fun x H' => Q V.non H', rt := Q } [some (V.ref e.a), s1, s2, s3, s4] H2 := fun e2 H2 s1 s2 s3 s4 j o2 k2 ha htl hjw he tz => by
  rw [← ha]
  have hTe : Ev (tFld K (tVar 0) (Str.ofString "tops")) [some (V.ref e2.a), s1, s2, s3, s4] H2 (.ref e2.aT) := by walk_at "ev"
  have hTl := sq_of (K := K) (oi2 2 o2 rfl : H2 e2.aT = some (.lst (e2.tops.map refJ)))
  have tst : EvT (tTest (tOp (rNil K true) (tFld K (tVar 0) (Str.ofString "tops")) (tLst tNil))) [some (V.ref e2.a), s1, s2, s3, s4] H2 (!(e2.tops.map refJ).isEmpty) := et_test (ev_opL (xs := []) hTe (el_lst ea_nil (by decide)) fun p H4 hp e4 => fun H5 e5 Q q => ⟨e2.aT, p, e2.tops.map refJ, rfl, rfl, ex_l (e4.trans e5) hTl, ex_l e5 (sq_of hp), q H5 (Ex.refl _)⟩)
  have hjm : j ∈ e2.tops := List.mem_of_getLast? htl
  have hne : e2.tops ≠ [] := fun z => by rw [z] at hjm; cases hjm
  refine q_when (b := true) (et_is tst (by cases h : e2.tops with | nil => exact absurd h hne | cons a r => rfl)) (fun _ H3 e3 => ?_) fun h => by cases h
  have o3 := o2.same e3
  exact s_ret (ev_op (hTe.mono e3) (ev_un ev_c ru_neg) (rv_ixL (ex_l e3 hTl) (at_last (x := V.ref j.a) (by rw [getLast_map, htl]; rfl)))) fun H4 e4 => q G e2 (some .top) _ H4 (Same.refl _) he ⟨j, htl, rfl, hjw⟩ ha k2 (o3.same e4)
theorem ok_Engine_chosen (T : Txt w K mg) : FnOk P w K mg base CX0 5 (f_Engine_chosen K) (fdAt K (f_Engine_chosen K)) ["self"] (spChosen K) := by
  refine (df_Engine_chosen T).ok sc_Engine_chosen (fun vs H Q E h => ?_) (fun cdv A outer s H vs Q E hr h => ?_)
  · obtain ⟨G, e, F, rfl, _⟩ := h
    rfl
  · obtain ⟨G, e, F, rfl, o, k, ⟨hinv, zl, hlb⟩, q⟩ := h
    have hu := hr.units
    have hu : _ + 1 < _ := Nat.lt_of_le_of_lt (Nat.add_le_add_left (by decide) _) hu
    have pl := plan_parts hinv.i.plan
    have cn := inv_counts hinv.i
    have zw : e.ways.length ≤ 100 := by have z : e.m.ways.length = e.ways.length := List.length_map ..; omega
    have zt : e.tops.length ≤ 100 := by have z : e.m.tops.length = e.tops.length := List.length_map ..; omega
    have zp : e.put.length ≤ 100 := by have z : e.m.put.length = e.put.length := rfl; omega
    have zB : e.B.length ≤ 100 := by have z : e.m.B.length = e.B.length := rfl; omega
    have hwl : ∀ l ∈ e.ways, l.m.let_by.length ≤ 5000 ∧ (l.m.fresh = true → l.m.since.isSome = true) := fun l hl => ⟨hlb l hl, (hinv.i.ws l.m (List.mem_map.mpr ⟨l, hl, rfl⟩)).2⟩
    have htw : ∀ j ∈ e.tops, j.m.word = "top" := fun j hj => (hinv.i.tops j.m (List.mem_map.mpr ⟨j, hj, rfl⟩)).word
    refine ⟨_, PSs.nox ((pss_cons (ps_set (i := 1) sc_Engine_chosen.nd rfl (Or.inl rfl) (pe_meth0 (pv 0) (cl_Engine T) (me_Engine_ready_line T) (ok_Engine_ready_line T) (hr.mono (by decide)) (bi_Engine_ready_line T) .nil pass0))
      (pss_cons (ps_if (pt_cmp (pc_notN (pv 1)) rfl) (pss_cons (ps_expr (pe_meth (pv 1) (cl_Line T) (me_Line_begin T) (ok_Line_begin T) (hr.mono (by decide)) (bi_Line_begin T) .nil pass0 (pa_cons (pe_fldK (K := K) rfl (pv 0) rfl) pa_nil)))
      (pss_cons (ps_expr (pe_bm PySem.F.plainAttrs_list PySem.F.slot_list_append PySem.F.type_list_append mt_append (pe_fldK (K := K) rfl (pv 0) rfl) (pa_cons (pe_fldK (K := K) rfl (pv 1) rfl) pa_nil)))
      (pss_one (ps_expr (pe_bm PySem.F.plainAttrs_list PySem.F.slot_list_append PySem.F.type_list_append mt_append (pe_fldK (K := K) rfl (pv 0) rfl) (pa_cons (pe_make (mk_Job T) (ok_Job_init T) (hr.mono (by decide)) rfl (gl_Job T) (bi_Job_init T) .nil pass0 (pa_cons pe_str (pa_cons (pe_fldK (K := K) rfl (pv 1) rfl) (pa_cons (pe_fldK (K := K) rfl (pv 1) rfl) (pa_cons (pe_fldK (K := K) rfl (pv 1) rfl) (pa_cons (pe_fldK (K := K) rfl (pv 0) rfl) pa_nil)))))) pa_nil)))))) pss_nil)
      (pss_cons (ps_if (pt_cmpR (op_neNilK (hu0 hr) (K := K) rfl) (pe_fldK (K := K) rfl (pv 0) rfl) (pe_lst pa_nil) (nomark _)) (pss_one (ps_ret (pe_ix (ix_listK (K := K) rfl) (pe_fldK (K := K) rfl (pv 0) rfl) (pe_un un_neg pe_int) (fun _ _ => rfl)))) pss_nil)
      (pss_cons (ps_if (PW.pt (pw_and (pt_cmp (pc_isN (pe_fldK (K := K) rfl (pv 0) rfl)) rfl) (pw_and (pt_cmpR op_eq (pe_fldK (K := K) rfl (pv 0) rfl) pe_int (nomark _)) (pw_and1 (pt_cmpR (op_neNilK (hu0 hr) (K := K) rfl) (pe_fldK (K := K) rfl (pv 0) rfl) (pe_lst pa_nil) (nomark _)))))) (pss_cons (ps_set (i := 2) sc_Engine_chosen.nd rfl (Or.inr rfl) (pe_bm PySem.F.plainAttrs_list PySem.F.slot_list_pop PySem.F.type_list_pop mt_popAt (pe_fldK (K := K) rfl (pv 0) rfl) (pa_cons pe_int pa_nil)))
      (pss_cons (ps_set (i := 3) sc_Engine_chosen.nd rfl (Or.inl rfl) (pe_ix (ix_listK (K := K) rfl) (pe_lc (own := [("told", 4)]) (g := gName 4) rfl sc_Engine_chosen.nd (pi_listK (K := K) rfl (pe_fldK (K := K) rfl (pe_fldK (K := K) rfl (pv 0) rfl) rfl)) (blkOk_by (N := ["self", "line", "name", "steps", "told"]) (sc := defScope s_Engine_chosen) (by decide +kernel)) (fun _ _ _ _ _ => pg_name (i := 4) sc_Engine_chosen.nd rfl (Or.inl rfl)) (fun _ _ _ _ _ => (pts_one (pt_cmpR op_eq (pe_ix (ix_tupK (K := K) rfl) (pv 4) pe_int (fun _ _ => rfl)) (pv 2) (nomark _)))) (fun _ _ _ _ _ => (pe_ix (ix_tupK (K := K) rfl) (pv 4) pe_int (fun _ _ => rfl)))) pe_int (fun _ _ => rfl)))
      (pss_one (ps_fldK (K := K) rfl (pv 0) (pe_make (mk_Job T) (ok_Job_init T) (hr.mono (by decide)) rfl (gl_Job T) (bi_Job_init T) .nil pass0 (pa_cons pe_str (pa_cons (pv 2) (pa_cons pe_int (pa_cons (pv 3) (pa_cons pe_int pa_nil)))))))))) pss_nil)
      (pss_one (ps_ret (pe_ifExp (pt_cmp (pc_notN (pe_fldK (K := K) rfl (pv 0) rfl)) rfl) (pe_fldK (K := K) rfl (pv 0) rfl) (pe_meth0 (pv 0) (cl_Engine T) (me_Engine_ready_thread T) (ok_Engine_ready_thread T) (hr.mono (by decide)) (bi_Engine_ready_thread T) .nil pass0))))))))), ?_⟩
    refine q_asgR ⟨.ref e.a, rfl, e.a, e.dx, e.fs, rfl, oi2 0 o rfl, rfl, G, e, F, rfl, o, zw, zt, fun r H1 hrm hrl e1 => ?_⟩
    have o1 := o.same e1
    have tail := cho_tail T o k hinv q
    have topEnd := cho_top T o k q
    cases r with
    | some l =>
      have hlm := hrm l rfl
      have hrl : e.m.readyLine = some l.m := hrl.symm
      refine q_when (b := true) (et_is (et_B (ev_notN (ev_var rfl))) (by rfl)) (fun _ H2 e2 => ?_) fun h => by cases h
      have o2 := o1.same e2
      have hnow : Ev (tFld K (tVar 0) (Str.ofString "now")) [some (V.ref e.a), some (V.ref l.a), none, none, none] H2 (.int e.now) := by walk_at "ev"
      obtain ⟨wa, wb, ewl⟩ := List.append_of_mem hlm
      obtain ⟨rst, pf⟩ := way_focus K (e := e) ewl
      have o3 : Own G H2 (l.obs K ++ (rst ++ F)) := by
        have z := (pf l.m).append_right F
        have y : ({ e with ways := wa ++ { l with m := l.m } :: wb } : EngG) = e := by
          show ({ e with ways := wa ++ l :: wb } : EngG) = _
          rw [← ewl]
        rw [y] at z
        rw [← List.append_assoc]
        exact o2.perm z
      refine ⟨.ref l.a, rfl, l.a, l.dx, l.fs, rfl, oi2 0 o3 rfl, rfl, ?_⟩
      refine (ea_cons hnow ea_nil) H2 (Ex.refl _) _ fun H3 e3 => ?_
      obtain ⟨lk1, lk2⟩ := hwl l hlm
      refine ⟨e.now, G, l, rst ++ F, rfl, o3.same e3, k.ways l hlm, lk1, lk2, fun H4 o4 => ?_⟩
      let X : LineM := l.m.begin e.now
      let e1' : EngG := { e with ways := wa ++ { l with m := X } :: wb }
      have bn := begin_name l.m e.now
      have o5 : Own G H4 (e1'.obs K ++ F) := by
        have z := (pf X).append_right F
        rw [List.append_assoc] at z
        exact o4.perm z.symm
      have k5 : EngK K G e1' := way_K ewl k bn.2.1 ⟨(begin_keep l.m e.now).1, (begin_keep l.m e.now).2.1, (begin_keep l.m e.now).2.2.1⟩
      let l' : LineG := { l with m := X }
      have hl' : l' ∈ e1'.ways := by show l' ∈ wa ++ l' :: wb; simp
      have lnm : List.lookup (Str.ofString "name") l'.fs = some (V.str l.m.name) := by
        show some (V.str (l.m.begin e.now).name) = _
        rw [bn.1]
      have lrk : List.lookup (Str.ofString "rank") l'.fs = some (V.int l.m.rank) := by
        show some (V.int (l.m.begin e.now).rank) = _
        have : (l.m.begin e.now).rank = l.m.rank := (begin_keep l.m e.now).2.2.2
        rw [this]
      refine q_appO (v := .str l.m.name) o5 8 rfl (ev_fl (ev_var rfl) (oi2 0 o5 rfl) (cl_Engine T) (na_Engine_last_begun T) rfl) (ev_fl (ev_var rfl) (eng_way (l := l') o5 hl') (cl_Line T) (na_Line_name T) lnm) (by rw [List.length_map]; show e.last.length < 100000; omega) fun H5 o6 => ?_
      let e2' : EngG := { e1' with last := e.last ++ [l.m.name] }
      have o7 : Own G H5 (e2'.obs K ++ F) := by
        have z : (e.last ++ [l.m.name]).map V.str = e.last.map V.str ++ [.str l.m.name] := by rw [List.map_append]; rfl
        unfold EngG.obs EngG.head
        show Own G H5 (_ ++ F)
        dsimp only [e2']
        rw [z]
        exact o6
      have k7 : EngK K G e2' := ⟨k5.plan, k5.ways, k5.tops, k5.bottom, k5.begun, k5.row⟩
      have hl7 := eng_way o7 (l := l') hl'
      refine s_appMake (p := e.aT) (xs := e.tops.map refJ) (vs := [.str "top", .str l.m.name, .int l.m.rank, l.top, .int e.depth]) (ev_fl (ev_var rfl) (oi2 0 o7 rfl) (cl_Engine T) (na_Engine_tops T) rfl) (oi2 2 o7 rfl) (ea_cons ev_c (ea_cons (ev_fl (ev_var rfl) hl7 (cl_Line T) (na_Line_name T) lnm) (ea_cons (ev_fl (ev_var rfl) hl7 (cl_Line T) (na_Line_rank T) lrk) (ea_cons (ev_fl (ev_var rfl) hl7 (cl_Line T) (na_Line_top T) rfl) (ea_cons (ev_fl (ev_var rfl) (oi2 0 o7 rfl) (cl_Engine T) (na_Engine_depth T) rfl) ea_nil))))) fun H6 x dx e6 nx ndx hne => ?_
      refine ⟨G, e2'.obs K ++ F, x, dx, "top", l.m.name, l.m.rank, e.depth, l.top, l.m.ss, rfl, Own.new ((o7.same e6).same (Ex.new ndx)) (by rw [upd_ne (Ne.symm hne)]; exact nx), fun H7 o8 => ⟨rfl, ?_⟩⟩
      let J : JobG := { a := x, dx := dx, steps := l.top, m := EngM.newJob "top" l.m.name l.m.rank l.m.ss e.depth }
      have o8 : Own G H7 (J.ob K :: (e2'.obs K ++ F)) := o8
      refine ⟨e.aT, e.tops.map refJ, .ref x, rfl, rfl, oi2 3 o8 rfl, by rw [List.length_map, sizeLine_eq]; omega, ?_⟩
      have o9 := own_set (o' := .lst (e.tops.map refJ ++ [.ref x])) o8 (n := 3) rfl
      let e3' : EngG := { e2' with tops := e.tops ++ [J] }
      have o10 : Own G (upd H7 e.aT (.lst (e.tops.map refJ ++ [.ref x]))) (e3'.obs K ++ F) := by
        have z : e3'.tops.map refJ = e.tops.map refJ ++ [.ref x] := by
          show (e.tops ++ [J]).map refJ = _
          rw [List.map_append]
          rfl
        have z9 : Own G (upd H7 e.aT (.lst (e.tops.map refJ ++ [.ref x]))) (J.ob K :: ((EngG.head K e3' ++ tlO K e3'.ways e.tops e.bottom e.begun) ++ F)) := by
          unfold EngG.head
          rw [z]
          exact o9
        have y : e3'.obs K ++ F = (EngG.head K e3' ++ (e3'.ways.flatMap (LineG.obs K) ++ e.tops.map (JobG.ob K))) ++ (J.ob K :: ((e.bottom.toList.map (JobG.ob K) ++ e.begun.map (JobG.ob K)) ++ F)) := by
          show (EngG.head K e3' ++ (e3'.ways.flatMap (LineG.obs K) ++ ((e.tops ++ [J]).map (JobG.ob K) ++ (e.bottom.toList.map (JobG.ob K) ++ e.begun.map (JobG.ob K))))) ++ F = _
          simp [List.append_assoc]
        have y2 : (EngG.head K e3' ++ tlO K e3'.ways e.tops e.bottom e.begun) ++ F = (EngG.head K e3' ++ (e3'.ways.flatMap (LineG.obs K) ++ e.tops.map (JobG.ob K))) ++ ((e.bottom.toList.map (JobG.ob K) ++ e.begun.map (JobG.ob K)) ++ F) := by
          unfold tlO
          simp [List.append_assoc]
        rw [y]
        rw [y2] at z9
        exact z9.perm (perm_add _ _ _)
      refine topEnd e3' _ _ _ _ _ J o10 ⟨k7.plan, k7.ways, fun j hj => ?_, k7.bottom, k7.begun, k7.row⟩ rfl (by show (e.tops ++ [J]).getLast? = _; simp) rfl ?_ _
      · rcases List.mem_append.mp hj with hj | hj
        · exact k7.tops j hj
        · rw [List.mem_singleton.mp hj]
          exact (k.ways l hlm).top
      · unfold EngM.chosen
        rw [hrl]
        show (EngG.m e3', some Cur.top) = _
        unfold EngG.m
        dsimp only [e3', e2', e1']
        have hup : upFirst (hasN l.m.name) (fun m => m.begin e.now) (e.ways.map (·.m)) = (wa ++ { l with m := X } :: wb).map (·.m) := by
          rw [ewl, List.map_append, List.map_append, List.map_cons, List.map_cons, upFirst_at (p := hasN l.m.name) (fun y hy => ?_) (decide_eq_true rfl)]
          obtain ⟨y', hy', rfl⟩ := List.mem_map.mp hy
          have nd : (e.ways.map (·.m.name)).Nodup := by
            rw [← em_ways, hinv.i.wn]
            exact pl.nR
          rw [ewl, List.map_append, List.map_cons, List.nodup_append] at nd
          exact decide_eq_false (nd.2.2 _ (List.mem_map.mpr ⟨y', hy', rfl⟩) _ (List.mem_cons_self ..))
        rw [hup, List.map_append (l₁ := e.tops)]
        rfl
    | none =>
      have hrl : e.m.readyLine = none := hrl.symm
      refine q_when (b := false) (et_is (et_B (ev_notN (ev_var rfl))) (by rfl)) (fun h => by cases h) fun _ H2 e2 => ?_
      have o2 := o1.same e2
      cases htl : e.tops.getLast? with
      | some j =>
        have hjm : j ∈ e.tops := List.mem_of_getLast? htl
        refine topEnd e H2 _ _ _ _ j o2 k rfl htl (htw j hjm) ?_ _
        unfold EngM.chosen
        rw [hrl]
        have z : ¬ e.m.tops.isEmpty = true := by
          show ¬ (e.tops.map (·.m)).isEmpty = true
          cases h : e.tops with
          | nil => rw [h] at hjm; cases hjm
          | cons a r => exact fun z => by cases z
        simp only
        rw [if_neg z]
      | none =>
        have hte : e.tops = [] := List.getLast?_eq_none_iff.mp htl
        have hTe : Ev (tFld K (tVar 0) (Str.ofString "tops")) [some (V.ref e.a), some V.non, none, none, none] H2 (.ref e.aT) := by walk_at "ev"
        have hTl := sq_of (K := K) (oi2 2 o2 rfl : H2 e.aT = some (.lst (e.tops.map refJ)))
        have tst : EvT (tTest (tOp (rNil K true) (tFld K (tVar 0) (Str.ofString "tops")) (tLst tNil))) [some (V.ref e.a), some V.non, none, none, none] H2 (!(e.tops.map refJ).isEmpty) := et_test (ev_opL (xs := []) hTe (el_lst ea_nil (by decide)) fun p H4 hp e4 => fun H5 e5 Q q => ⟨e.aT, p, e.tops.map refJ, rfl, rfl, ex_l (e4.trans e5) hTl, ex_l e5 (sq_of hp), q H5 (Ex.refl _)⟩)
        refine q_when (b := false) (et_is tst (by rw [hte]; rfl)) (fun h => by cases h) fun _ H3 e3 => ?_
        have o3 := o2.same e3
        have hmt : e.m.tops = [] := by show e.tops.map (·.m) = []; rw [hte]; rfl
        have hch : e.m.chosen = if e.m.startBottom.bottom.isSome then (e.m.startBottom, some .bottom) else e.m.startBottom.readyThread := by
          unfold EngM.chosen
          rw [hrl]
          have z : e.m.tops.isEmpty = true := by rw [hmt]; rfl
          simp only
          rw [if_pos z]
        have sb := sb_of hinv hmt _ rfl
        have hPe : Ev (tFld K (tVar 0) (Str.ofString "put_off")) [some (V.ref e.a), some V.non, none, none, none] H3 (.ref e.aP) := by walk_at "ev"
        have hPl := sq_of (K := K) (oi2 3 o3 rfl : H3 e.aP = some (.lst (e.put.map V.str)))
        have hbe : Ev (tFld K (tVar 0) (Str.ofString "bottom")) [some (V.ref e.a), some V.non, none, none, none] H3 (optJ e.bottom) := by walk_at "ev"
        have hde : Ev (tFld K (tVar 0) (Str.ofString "depth")) [some (V.ref e.a), some V.non, none, none, none] H3 (.int e.depth) := by walk_at "ev"
        have tst2 : EvT (tTest (tOp (rNil K true) (tFld K (tVar 0) (Str.ofString "put_off")) (tLst tNil))) [some (V.ref e.a), some V.non, none, none, none] H3 (!(e.put.map V.str).isEmpty) := et_test (ev_opL (xs := []) hPe (el_lst ea_nil (by decide)) fun p H4 hp e4 => fun H5 e5 Q q => ⟨e.aP, p, e.put.map V.str, rfl, rfl, ex_l (e4.trans e5) hPl, ex_l e5 (sq_of hp), q H5 (Ex.refl _)⟩)
        have isn : EvT (tB (tIsN (tFld K (tVar 0) (Str.ofString "bottom")))) [some (V.ref e.a), some V.non, none, none, none] H3 e.bottom.isNone := et_is (et_B (ev_isN hbe)) (by cases e.bottom <;> rfl)
        have dz : EvT (tTest (tOp rEq (tFld K (tVar 0) (Str.ofString "depth")) (tC (V.int 0)))) [some (V.ref e.a), some V.non, none, none, none] H3 (decide (e.depth = 0)) := et_is (et_test (ev_op hde ev_c (rv_eq rfl))) (by by_cases h : e.depth = 0 <;> simp [h])
        refine q_when (et_and isn fun _ => et_and dz fun _ => tst2) (fun hb H4 e4 => ?_) fun hb H4 e4 => ?_
        · obtain ⟨b1, hb⟩ := ba hb
          obtain ⟨b2, b3⟩ := ba hb
          have hbn : e.bottom = none := by cases h : e.bottom with | none => rfl | some j => rw [h] at b1; cases b1
          have hd0 : e.depth = 0 := of_decide_eq_true b2
          obtain ⟨n, r, hpt⟩ : ∃ n r, e.put = n :: r := by
            cases h : e.put with
            | nil => rw [h] at b3; cases b3
            | cons n r => exact ⟨n, r, rfl⟩
          have o4 := o3.same e4
          refine q_popAt0 (x := .str n) (xs := r.map V.str) o4 3 (by show some (e.aP, HO.lst (e.put.map V.str)) = _; rw [hpt]; rfl) (hPe.mono e4) fun H5 o5 => ?_
          let e5 : EngG := { e with put := r }
          have o5 : Own G H5 (e5.obs K ++ F) := o5
          have k5 : EngK K G e5 := ⟨k.plan, k.ways, k.tops, k.bottom, k.begun, k.row⟩
          obtain ⟨pdx, r1, r2, r3, y1, y2, y3, hp0, _, ⟨hp2, hd2⟩, _, _⟩ := k.plan
          obtain ⟨zq, zf, zs⟩ := zip_da hd2
          have hz2 : (y2.zip e.B).length = e.B.length := by
            conv => rhs; rw [← zs]
            rw [List.length_map]
          have hbot : ∀ q ∈ y2.zip e.B, ∃ v, ∃ a, q.1 = V.ref a ∧ SqT K G a [.str (nameD q.2), v] ∧ StepsK K G v (stepsD q.2) := fun q hq => by
            have hm : q.2 ∈ e.B := by
              have : q.2 ∈ (y2.zip e.B).map (·.2) := List.mem_map.mpr ⟨q, hq, rfl⟩
              rw [zs] at this
              exact this
            obtain ⟨nm, ss, eq, _, _⟩ := bottom_inv (pl.oB q.2 hm)
            have hd := zq q hq
            rw [eq] at hd ⊢
            obtain ⟨a, ys, ea, hy, hdd⟩ := dpT hd
            obtain ⟨v0, _, rfl, h0, hdd⟩ := dpC hdd
            obtain ⟨v1, _, rfl, h1, hdd⟩ := dpC hdd
            obtain rfl := dpN hdd
            rw [dpS h0] at hy
            obtain ⟨l, xs, rfl, hl, hx⟩ := dpL h1
            exact ⟨_, a, ea, hy, l, xs, rfl, hl, hx⟩
          classical
          let g : V × PyData → V := fun q => if h : ∃ v, ∃ a, q.1 = V.ref a ∧ SqT K G a [.str (nameD q.2), v] ∧ StepsK K G v (stepsD q.2) then h.choose else .non
          have hg : ∀ q ∈ y2.zip e.B, ∃ a, q.1 = V.ref a ∧ SqT K G a [.str (nameD q.2), g q] ∧ StepsK K G (g q) (stepsD q.2) := fun q hq => by
            have h := hbot q hq
            have z := h.choose_spec
            have e0 : g q = h.choose := dif_pos h
            rw [e0]
            exact z
          have hfB : ∃ b, e.B.find? (fun b => decide (nameD b = n)) = some b := by
            have hm : n ∈ e.B.map nameD := hinv.i.put.2 n (by show n ∈ e.put; rw [hpt]; simp)
            obtain ⟨b, hb, hn⟩ := List.mem_map.mp hm
            exact find_some hb (decide_eq_true hn)
          obtain ⟨b, hfB⟩ := hfB
          obtain ⟨q0, hq0, hq0b⟩ : ∃ q0, (y2.zip e.B).find? (fun q => decide (nameD q.2 = n)) = some q0 ∧ q0.2 = b := by
            have z := find_map (fun q : V × PyData => q.2) (fun b => decide (nameD b = n)) (y2.zip e.B)
            rw [zs, hfB] at z
            cases hq : (y2.zip e.B).find? (fun q => decide (nameD q.2 = n)) with
            | none => rw [hq] at z; cases z
            | some q0 => rw [hq] at z; cases z; exact ⟨q0, rfl, rfl⟩
          obtain ⟨rr, hrr⟩ := filter_find _ hq0
          have hq0m := List.mem_of_find?_eq_some hq0
          obtain ⟨_, _, _, hq0s⟩ := hg q0 hq0m
          refine q_asg (v := g q0) (ev_opL1 (xs := (((y2.zip e.B).filter fun q => decide (nameD q.2 = n)).map g)) (el_lcO (y2.zip e.B) (·.1) (fun q => decide (nameD q.2 = n)) g (ev_fl (ev_fl (ev_var rfl) (oi2 0 o5 rfl) (cl_Engine T) (na_Engine_plan T) rfl) (o5.sub _ _ hp0) (cl_Plan T) (na_Plan_low T) rfl) (by rw [zf]; exact sq_of (o5.sub _ _ hp2)) (by omega) (fun _ => rfl) (fun x hx => ?_) fun x hx _ => ?_) (fun _ _ => ev_c) fun p H6 hp e6 => rv_ixL (v := g q0) (sq_of hp) (by rw [hrr]; exact at0)) fun H6 e6 => ?_
          · obtain ⟨a, ea, hy, _⟩ := hg x hx
            rw [ea]
            exact et_is (et_test (ev_op (ev_op (ev_var rfl) ev_c (rv_ixT (sT o5.sub hy) at0)) (ev_var rfl) (rv_eq rfl))) (str_dec _ _)
          · obtain ⟨a, ea, hy, _⟩ := hg x hx
            rw [ea]
            exact ev_op (ev_var rfl) ev_c (rv_ixT (sT o5.sub hy) (atI_nat (j := 1) rfl))
          · have o6 := o5.same e6
            refine s_fldMake (vs := [.str "bottom", .str n, .int 0, g q0, .int 0]) (ea_cons ev_c (ea_cons (ev_var rfl) (ea_cons ev_c (ea_cons (ev_var rfl) (ea_cons ev_c ea_nil))))) fun H7 x dx e7 nx ndx hne => ?_
            refine ⟨G, e5.obs K ++ F, x, dx, "bottom", n, 0, 0, g q0, stepsD b, rfl, Own.new ((o6.same e7).same (Ex.new ndx)) (by rw [upd_ne (Ne.symm hne)]; exact nx), fun H8 o8 => ⟨rfl, ?_⟩⟩
            let J : JobG := { a := x, dx := dx, steps := g q0, m := EngM.newJob "bottom" n 0 (stepsD b) 0 }
            have o8 : Own G H8 (J.ob K :: (e5.obs K ++ F)) := o8
            refine s_fld (v := .ref x) o8 1 rfl (fun H1 e Q q => q H1 (Ex.refl _)) (ev_var rfl) (cl_Engine T) (na_Engine_bottom T) (by show (12 : Nat) < 1000; decide) fun H9 o9 => ?_
            let e6' : EngG := { e5 with bottom := some J }
            have o9 : Own G H9 (J.ob K :: ((EngG.head K e6' ++ tlO K e.ways e.tops none e.begun) ++ F)) := by
              rw [← hbn]
              exact o9
            have o10 : Own G H9 (e6'.obs K ++ F) := by
              have y : e6'.obs K ++ F = (EngG.head K e6' ++ (e.ways.flatMap (LineG.obs K) ++ e.tops.map (JobG.ob K))) ++ (J.ob K :: (e.begun.map (JobG.ob K) ++ F)) := by
                show (EngG.head K e6' ++ (e.ways.flatMap (LineG.obs K) ++ (e.tops.map (JobG.ob K) ++ ([J.ob K] ++ e.begun.map (JobG.ob K))))) ++ F = _
                simp [List.append_assoc]
              have y2 : (EngG.head K e6' ++ tlO K e.ways e.tops none e.begun) ++ F = (EngG.head K e6' ++ (e.ways.flatMap (LineG.obs K) ++ e.tops.map (JobG.ob K))) ++ (e.begun.map (JobG.ob K) ++ F) := by
                unfold tlO
                simp [List.append_assoc]
              rw [y]
              rw [y2] at o9
              exact o9.perm (perm_add _ _ _)
            have hm : e.m.startBottom = e6'.m := by
              unfold EngM.startBottom
              have c0 : (e.m.bottom.isNone && decide (e.m.depth = 0)) = true := by
                show ((e.bottom.map (·.m)).isNone && decide (e.depth = 0)) = true
                rw [hbn, hd0]
                rfl
              rw [if_pos c0]
              have hp' : e.m.put = n :: r := hpt
              rw [hp']
              show ({ e.m with put := r, bottom := some (EngM.newJob "bottom" n 0 (((e.B.find? fun b => decide (nameD b = n)).map stepsD).getD []) 0) } : EngM) = e6'.m
              rw [hfB]
              rfl
            rw [hm] at hch sb
            refine tail G e6' H9 _ _ _ _ (Same.refl _) o10 ⟨k5.plan, k5.ways, k5.tops, fun j hj => ?_, k5.begun, k5.row⟩ rfl sb.1 hte hch
            cases hj
            show StepsK K G (g q0) (stepsD b)
            rw [← hq0b]
            exact hq0s
        · have hm : e.m.startBottom = e.m := by
            unfold EngM.startBottom
            by_cases c0 : (e.m.bottom.isNone && decide (e.m.depth = 0)) = true
            · rw [if_pos c0]
              obtain ⟨c1, c2⟩ := band c0
              have hbn : e.bottom = none := by
                have c1 : (e.bottom.map (·.m)).isNone = true := c1
                cases h : e.bottom with
                | none => rfl
                | some j => rw [h] at c1; cases c1
              have hd0 : e.depth = 0 := of_decide_eq_true c2
              have hpt : e.put = [] := by
                rw [hbn, hd0] at hb
                cases h : e.put with
                | nil => rfl
                | cons a b => rw [h] at hb; cases hb
              have hp' : e.m.put = [] := hpt
              rw [hp']
            · rw [if_neg c0]
          rw [hm] at hch
          exact tail G e H4 _ _ _ _ (Same.refl _) (o3.same e4) k rfl hinv hte hch
end
end KW
end
section
set_option Elab.async false
set_option linter.all false
set_option autoImplicit false
set_option maxRecDepth 100000
set_option maxHeartbeats 1000000
/-! engine.py: go -/
namespace KW
open PySem PySem.Spec PyProof.Rows L2 He KR Evl
local macro_rules
  | `(tactic| walk_at "na") => `(tactic| with_reducible (first | exact cl_Line (by assumption) | exact cl_Job (by assumption) | exact cl_Engine (by assumption) | exact cl_Plan (by assumption) | exact cl_Run (by assumption) | exact cl_Bench (by assumption) | exact na_Line_name (by assumption) | exact na_Line_rank (by assumption) | exact na_Line_is_up (by assumption) | exact na_Line_guard (by assumption) | exact na_Line_top (by assumption) | exact na_Line_let_by (by assumption) | exact na_Line_shut_till (by assumption) | exact na_Line_since (by assumption) | exact na_Line_fresh (by assumption) | exact na_Line_counts (by assumption) | exact na_Line_longest (by assumption) | exact na_Job_word (by assumption) | exact na_Job_name (by assumption) | exact na_Job_rank (by assumption) | exact na_Job_steps (by assumption) | exact na_Job_masks_then (by assumption) | exact na_Job_at (by assumption) | exact na_Job_left (by assumption) | exact na_Engine_plan (by assumption) | exact na_Engine_ways (by assumption) | exact na_Engine_tops (by assumption) | exact na_Engine_bottom (by assumption) | exact na_Engine_put_off (by assumption) | exact na_Engine_woken (by assumption) | exact na_Engine_begun (by assumption) | exact na_Engine_depth (by assumption) | exact na_Engine_now (by assumption) | exact na_Engine_row (by assumption) | exact na_Engine_depths (by assumption) | exact na_Engine_last_begun (by assumption) | exact na_Plan_row (by assumption) | exact na_Plan_low (by assumption) | exact na_Plan_late (by assumption) | exact na_Run_row (by assumption) | exact na_Run_depths (by assumption) | exact na_Run_table (by assumption) | exact na_Run_longest (by assumption) | exact na_Bench_engine (by assumption) | exact na_Bench_fresh (by assumption) | exact na_Bench_told_so_far (by assumption) | exact na_Bench_rows (by assumption)))
local macro_rules
  | `(tactic| walk_at "oi") => `(tactic| first | assumption | exact oi2 0 (by assumption) rfl | exact oi2 1 (by assumption) rfl | exact oi2 2 (by assumption) rfl | exact oi2 3 (by assumption) rfl | exact oi2 4 (by assumption) rfl | exact oi2 5 (by assumption) rfl | exact oi2 6 (by assumption) rfl | exact oi2 7 (by assumption) rfl | exact oi2 8 (by assumption) rfl)
local macro_rules
  | `(tactic| walk_at "ev") => `(tactic| repeat' (first
    | exact ev_c | exact ev_var rfl | exact ea_nil | exact rv_I0 | exact ru_neg | exact eo_none
    | exact rv_eq rfl | exact rv_ne rfl
    | exact rv_ixT (by assumption) (by rfl) | exact rv_ixL (by assumption) (by rfl)
    | exact sv_q (by assumption) (by assumption) | exact sv_within (by assumption)
    | exact Or.inr (by assumption) | exact Or.inl (by assumption) | (show (_ : String) ∈ _; decide)
    | with_reducible (first | apply ev_isi | apply ev_lenS | apply ev_if' | apply et_test | apply et_B | apply et_not | apply et_and | apply et_or | apply ev_andV | apply ev_orV | apply ev_notV | apply ea_cons | apply eo_some | apply ev_fl | apply ev_op | apply ev_un | apply ev_call)
    | walk_at "na" | walk_at "oi" | (show List.lookup _ _ = _; rfl)
    | assumption
    | (with_reducible intro hh; first | exact absurd (show true = false from hh) (by decide) | exact absurd (show false = true from hh) (by decide) | clear hh)))

section
variable {P : Program} {w : World} {K : PySem.W.Frag} {mg : Str → Option Value} {base : Heap}
theorem sc_Engine_go : FnScope ["self", "knocks", "name", "job", "whose"] ["self", "knocks"] (defScope s_Engine_go) := ⟨rfl, rfl, rfl, by decide +kernel, rfl, by decide +kernel, by decide +kernel⟩
theorem RowK.len {G : Hp} {vs : List V} {ds : List (Option (Str × Str))} (h : RowK K G vs ds) : vs.length = ds.length := by
  induction h with
  | nil => rfl
  | non _ ih => exact congrArg Nat.succ ih
  | job _ _ ih => exact congrArg Nat.succ ih
theorem RowK.app {G : Hp} {vs ws : List V} {ds es : List (Option (Str × Str))} (h : RowK K G vs ds) (h2 : RowK K G ws es) : RowK K G (vs ++ ws) (ds ++ es) := by
  induction h with
  | nil => exact h2
  | non _ ih => exact .non ih
  | job a _ ih => exact .job a ih
theorem set_twice {m : EngM} {c : Cur} {j X : JobM} (h : m.jobAt c = some j) (hX : X.name = j.name) (g : JobM → JobM) : (m.setJob c fun _ => X).setJob c g = m.setJob c fun _ => g X := by
  cases c with
  | top =>
    have h : m.tops.getLast? = some j := h
    obtain ⟨l, hl⟩ := List.getLast?_eq_some_iff.mp h
    unfold EngM.setJob
    dsimp only
    rw [hl]
    simp
  | bottom =>
    have h : m.bottom = some j := h
    unfold EngM.setJob
    dsimp only
    rw [h]
    rfl
  | thread n =>
    have h : m.begun.find? (jobN n) = some j := h
    obtain ⟨l, r, el, hp, hn⟩ := find_split h
    have hx : jobN n X = true := by
      have : j.name = n := of_decide_eq_true hp
      exact decide_eq_true (hX.trans this)
    unfold EngM.setJob
    dsimp only
    rw [el, upFirst_at hn hp, upFirst_at hn hx, upFirst_at hn hp]
theorem q_asgIf {t : TT} {ta tb : TE} {i : Nat} {tz : TS} {D : Ends} {σ : L2.St} {H : Hp} {b : Bool} (h : EvT t σ H b) (h1 : b = true → ∀ H1, Ex H H1 → ta σ H1 fun v H2 => tz D (σ.set i (some v)) H2) (h2 : b = false → ∀ H1, Ex H H1 → tb σ H1 fun v H2 => tz D (σ.set i (some v)) H2) : tSeq (tAsg (tIf t ta tb) (gName i)) tz D σ H :=
  h H (Ex.refl _) _ fun H1 e1 => by
    cases b with
    | true => rw [if_pos rfl]; exact h1 rfl H1 e1
    | false => rw [if_neg (by decide)]; exact h2 rfl H1 e1
theorem now_eng {e : EngG} {c : Cur} (i : Inv e.m) (h : curC e.m = some c) : ∃ j s, e.jobAt c = some j ∧ Now e.m c j.m s ∧ j.m.word = roleW c := by
  obtain ⟨j, s, n⟩ := now_of i h
  have z := jobAt_m e c
  rw [n.job] at z
  cases hj : e.jobAt c with
  | none => rw [hj] at z; cases z
  | some j' =>
    rw [hj] at z
    cases z
    refine ⟨j', s, rfl, n, ?_⟩
    rw [n.ok.word]
    cases c <;> rfl
theorem quick_ok {e : EngG} {c : Cur} {j : JobG} {s : PyData} (i : Inv e.m) (n : Now e.m c j.m s) (hr : ¬ wordD s = "run") (hlb : ∀ l ∈ e.ways, l.m.let_by.length ≤ 5000) : QuickOk e s := by
  have cn := inv_counts i.i
  refine ⟨⟨n.good, hr⟩, fun ha => ?_, fun hw => ?_, ⟨?_, ?_, ?_, ?_⟩, fun l hl => ⟨hlb l hl, (i.i.ws l.m (List.mem_map.mpr ⟨l, hl, rfl⟩)).2⟩⟩
  · have hm : argD s ∈ e.ways.map (·.m.name) := by
      rw [← em_ways, i.i.wn]
      exact n.sp.1 ha
    obtain ⟨l, hl, hn⟩ := List.mem_map.mp hm
    exact find_some hl (decide_eq_true hn)
  · have hm : argD s ∈ e.woken.map (·.1) := by
      have z : e.woken.map (·.1) = e.T.map nameD := i.i.wk
      rw [z]
      exact n.sp.2.2 hw
    obtain ⟨q, hq, hn⟩ := List.mem_map.mp hm
    exact find_some hq (decide_eq_true hn)
  · have z : e.m.begun.length = e.begun.length := List.length_map ..; omega
  · have z : e.m.ways.length = e.ways.length := List.length_map ..; omega
  · have z : e.m.put.length = e.put.length := rfl; omega
  · have z : e.m.woken.length = e.woken.length := rfl; omega
/-- the first word of the step that comes -/
theorem word_now {G H : Hp} {e : EngG} {F : List (Addr × HO)} {c : Cur} {j : JobG} {s : PyData} {σ : L2.St} {i : Nat} (T : Txt w K mg) (o : Own G H (e.obs K ++ F)) (k : EngK K G e) (hc : e.jobAt c = some j) (n : Now e.m c j.m s) (hi : σ[i]? = some (some (.ref j.a))) :
    ∃ a r, Ev (tOp (rIxL K) (tFld K (tVar i) (Str.ofString "steps")) (tFld K (tVar i) (Str.ofString "at"))) σ H (.ref a) ∧ SqT K H a (.str (wordD s) :: r) ∧ ∀ m : Int, s = .tuple [.str (wordD s), .int m] → r = [.int m] := by
  have hj := job_get o hc
  obtain ⟨t, xs, est, hx, hxs⟩ := job_K k hc
  have hst : List.lookup (Str.ofString "steps") j.fs = some (V.ref t) := by rw [← est]; rfl
  obtain ⟨x, hxi, hxd⟩ := DpAll.getD hxs n.step
  obtain ⟨r, hr⟩ := wordD_get n.good
  have hxd' := hxd
  rw [hr] at hxd
  obtain ⟨a, ys, rfl, hy, hd⟩ := dpT hxd
  obtain ⟨v, zs, rfl, hv, hd⟩ := dpC hd
  rw [dpS hv] at hy
  refine ⟨a, zs, ev_op (ev_fl (ev_var hi) hj (cl_Job T) (na_Job_steps T) hst) (ev_fl (ev_var hi) hj (cl_Job T) (na_Job_at T) rfl) (rv_ixL (sL o.sub hx) (atI_nat hxi)), sT o.sub hy, fun m hm => ?_⟩
  rw [hm] at hr
  have hr : PyData.tuple [.str (wordD s), .int m] = .tuple (.str (wordD (.tuple [.str (wordD s), .int m])) :: r) := hr
  injection hr with hr
  injection hr with _ hr
  rw [← hr] at hd
  obtain ⟨v1, z1, rfl, hv1, hd⟩ := dpC hd
  obtain rfl := dpN hd
  rw [dpI hv1]
def spGo (K : PySem.W.Frag) : Sp := fun vs H Q _ => ∃ (G : Hp) (e : EngG) (F : List (Addr × HO)) (kn : Addr) (ns : List Str), vs = [.ref e.a, .ref kn] ∧ Own G H (e.obs K ++ F) ∧ EngK K G e ∧ SqL K G kn (ns.map V.str) ∧ Inv e.m ∧ (e.row.length ≤ 5000 ∧ e.depths.length ≤ 5000 ∧ ns.length ≤ 1000 ∧ ∀ l ∈ e.ways, l.m.let_by.length + ns.length ≤ 4000) ∧ (∀ n ∈ ns, n ∈ e.R.map nameD) ∧
  ∀ G' (e' : EngG) (r : V) (wh : Option (Str × Str)) H', Same G G' → e'.m = e.m.go ns → e'.a = e.a → e'.rowD = e.rowD ++ [wh] → RowK K G' [r] [wh] → EngK K G' e' → Own G' H' (e'.obs K ++ F) → Q r H'
theorem own_last {G H : Hp} {e : EngG} {F : List (Addr × HO)} {p : Addr} (o : Own G H ((p, .lst []) :: ((e.obs K ++ F).set 0 (e.a, .ins (g_Engine K) e.dx (putF (Str.ofString "last_begun") (.ref p) e.fs))))) : Own G H (({ e with aL := p, last := [] } : EngG).obs K ++ F) := by
  let h8 : List (Addr × HO) := (EngG.head K { e with aL := p, last := [] }).take 8
  have o1 : Own G H ((p, .lst []) :: (h8 ++ ((e.aL, .lst (e.last.map V.str)) :: (tlO K e.ways e.tops e.bottom e.begun ++ F)))) := o
  have o2 := o1.less (M := (p, .lst []) :: (h8 ++ (tlO K e.ways e.tops e.bottom e.begun ++ F))) (((List.Sublist.refl h8).append (List.Sublist.cons _ (List.Sublist.refl _))).cons₂ _)
  exact o2.perm List.perm_middle.symm
end
end KW
end
section
set_option Elab.async false
set_option linter.all false
set_option autoImplicit false
set_option maxRecDepth 100000
set_option maxHeartbeats 1000000
/-! engine.py: go, walked -/
namespace KW
open PySem PySem.Spec PyProof.Rows L2 He KR Evl
local macro_rules
  | `(tactic| walk_at "na") => `(tactic| with_reducible (first | exact cl_Line (by assumption) | exact cl_Job (by assumption) | exact cl_Engine (by assumption) | exact cl_Plan (by assumption) | exact cl_Run (by assumption) | exact cl_Bench (by assumption) | exact na_Line_name (by assumption) | exact na_Line_rank (by assumption) | exact na_Line_is_up (by assumption) | exact na_Line_guard (by assumption) | exact na_Line_top (by assumption) | exact na_Line_let_by (by assumption) | exact na_Line_shut_till (by assumption) | exact na_Line_since (by assumption) | exact na_Line_fresh (by assumption) | exact na_Line_counts (by assumption) | exact na_Line_longest (by assumption) | exact na_Job_word (by assumption) | exact na_Job_name (by assumption) | exact na_Job_rank (by assumption) | exact na_Job_steps (by assumption) | exact na_Job_masks_then (by assumption) | exact na_Job_at (by assumption) | exact na_Job_left (by assumption) | exact na_Engine_plan (by assumption) | exact na_Engine_ways (by assumption) | exact na_Engine_tops (by assumption) | exact na_Engine_bottom (by assumption) | exact na_Engine_put_off (by assumption) | exact na_Engine_woken (by assumption) | exact na_Engine_begun (by assumption) | exact na_Engine_depth (by assumption) | exact na_Engine_now (by assumption) | exact na_Engine_row (by assumption) | exact na_Engine_depths (by assumption) | exact na_Engine_last_begun (by assumption) | exact na_Plan_row (by assumption) | exact na_Plan_low (by assumption) | exact na_Plan_late (by assumption) | exact na_Run_row (by assumption) | exact na_Run_depths (by assumption) | exact na_Run_table (by assumption) | exact na_Run_longest (by assumption) | exact na_Bench_engine (by assumption) | exact na_Bench_fresh (by assumption) | exact na_Bench_told_so_far (by assumption) | exact na_Bench_rows (by assumption)))
local macro_rules
  | `(tactic| walk_at "oi") => `(tactic| first | assumption | exact oi2 0 (by assumption) rfl | exact oi2 1 (by assumption) rfl | exact oi2 2 (by assumption) rfl | exact oi2 3 (by assumption) rfl | exact oi2 4 (by assumption) rfl | exact oi2 5 (by assumption) rfl | exact oi2 6 (by assumption) rfl | exact oi2 7 (by assumption) rfl | exact oi2 8 (by assumption) rfl)
local macro_rules
  | `(tactic| walk_at "ev") => `(tactic| repeat' (first
    | exact ev_c | exact ev_var rfl | exact ea_nil | exact rv_I0 | exact ru_neg | exact eo_none
    | exact rv_eq rfl | exact rv_ne rfl
    | exact rv_ixT (by assumption) (by rfl) | exact rv_ixL (by assumption) (by rfl)
    | exact sv_q (by assumption) (by assumption) | exact sv_within (by assumption)
    | exact Or.inr (by assumption) | exact Or.inl (by assumption) | (show (_ : String) ∈ _; decide)
    | with_reducible (first | apply ev_isi | apply ev_lenS | apply ev_if' | apply et_test | apply et_B | apply et_not | apply et_and | apply et_or | apply ev_andV | apply ev_orV | apply ev_notV | apply ea_cons | apply eo_some | apply ev_fl | apply ev_op | apply ev_un | apply ev_call)
    | walk_at "na" | walk_at "oi" | (show List.lookup _ _ = _; rfl)
    | assumption
    | (with_reducible intro hh; first | exact absurd (show true = false from hh) (by decide) | exact absurd (show false = true from hh) (by decide) | clear hh)))

section
variable {P : Program} {w : World} {K : PySem.W.Frag} {mg : Str → Option Value} {base : Heap}
theorem set_jobAt {m : EngM} {c : Cur} {j X : JobM} (h : m.jobAt c = some j) (hX : X.name = j.name) : (m.setJob c fun _ => X).jobAt c = some X := by
  cases c with
  | top =>
    have h : m.tops.getLast? = some j := h
    obtain ⟨l, hl⟩ := List.getLast?_eq_some_iff.mp h
    unfold EngM.setJob EngM.jobAt
    dsimp only
    rw [hl]
    simp
  | bottom =>
    have h : m.bottom = some j := h
    unfold EngM.setJob EngM.jobAt
    dsimp only
    rw [h]
    rfl
  | thread n =>
    have h : m.begun.find? (jobN n) = some j := h
    obtain ⟨l, r, el, hp, hn⟩ := find_split h
    have hx : jobN n X = true := by
      have : j.name = n := of_decide_eq_true hp
      exact decide_eq_true (hX.trans this)
    unfold EngM.setJob EngM.jobAt
    dsimp only
    rw [el, upFirst_at hn hp]
    exact find_at hn hx
theorem step_left {m : EngM} {c : Cur} {j : JobM} {s : PyData} (h : m.jobAt c = some j) (hs : m.stepNow c = s) (X1 X2 : JobM) (h1 : X1 = { j with left := (if 0 < j.left then j.left else (ticksD s).toNat) - 1 }) (h2 : X2 = { X1 with pos := X1.pos + 1 }) :
    m.stepLeft c = if X1.left = 0 then (m.setJob c fun _ => X2).over c else m.setJob c fun _ => X1 := by
  unfold EngM.stepLeft
  dsimp only
  have e1 : (m.setJob c fun j => { j with left := (if 0 < j.left then j.left else (ticksD (m.stepNow c)).toNat) - 1 }) = m.setJob c fun _ => X1 := by
    rw [setJob_at h, hs, h1]
  have hn : X1.name = j.name := by rw [h1]
  rw [e1, set_jobAt h hn]
  dsimp only
  split
  · rw [set_twice h hn, h2]
  · rfl
theorem q_asgM {te : TE} {i : Nat} {tz : TS} {D : Ends} {σ : L2.St} {H : Hp} (M : V → Hp → Prop) (h : ∀ Q : VK, (∀ v H1, M v H1 → Q v H1) → te σ H Q) (k : ∀ v H1, M v H1 → tz D (σ.set i (some v)) H1) : tSeq (tAsg te (gName i)) tz D σ H := h _ k
theorem tif_of {t : TT} {ta tb : TE} {σ : L2.St} {H : Hp} {b : Bool} {Q : VK} (h : EvT t σ H b) (h1 : b = true → ∀ H1, Ex H H1 → ta σ H1 Q) (h2 : b = false → ∀ H1, Ex H H1 → tb σ H1 Q) : tIf t ta tb σ H Q := h H (Ex.refl _) _ fun H1 e1 => by
  cases b with
  | true => rw [if_pos rfl]; exact h1 rfl H1 e1
  | false => rw [if_neg (by decide)]; exact h2 rfl H1 e1
def isQ (m : EngM) : Option Cur → Bool
  | none => false
  | some c => m.isQuick c
/-- the state in the while loop -/
structure GoW (K : PySem.W.Frag) (F : List (Addr × HO)) (G : Hp) (e0 : EngG) (fin : EngM × Option Cur) (n : Nat) (H : Hp) (G' : Hp) (e : EngG) (c : Option Cur) (r : V) : Prop where
  g : Same G G'
  o : Own G' H (e.obs K ++ F)
  k : EngK K G' e
  a : e.a = e0.a
  i : Inv e.m
  hc : c = curC e.m
  hr : CurV e c r
  hn : e.m.mu < n ∧ n ≤ 1000
  s : EngM.settle n (e.m, c) = fin
  l : (e.last.length : Int) + e.m.mu ≤ 400
  q : e.R = e0.R ∧ e.now = e0.now ∧ e.rowD = e0.rowD ∧ e.depths = e0.depths
  b : ∀ l ∈ e.ways, l.m.let_by.length ≤ 4000
theorem setJob_len (m : EngM) (c : Cur) (f : JobM → JobM) : (m.setJob c f).begun.length = m.begun.length := by
  cases c with
  | top => rfl
  | bottom => rfl
  | thread n =>
    show (upFirst (jobN n) f m.begun).length = m.begun.length
    have z := congrArg List.length (upFirst_map (p := jobN n) (f := f) (g := fun _ => ()) (fun _ => rfl) m.begun)
    simpa using z
theorem go_row {F : List (Addr × HO)} {G G4 H : Hp} {e e4 e9 : EngG} {fin : EngM × Option Cur} {n : Nat} {c : Option Cur} {r : V} {ns : List Str} (w4 : GoW K F G e fin n H G4 e4 c r) (hfin : fin = (e4.m, c)) (hgo : e.m.go ns = EngM.finish (e4.m, c)) (hm : e9.m = e.m.go ns) (hst : ∀ x, c = some x → e4.m.isQuick x = false) : e9.rowD = e4.rowD ++ [e4.m.whose c] := by
  have z := (fin_of w4.i w4.hc hst).out.2.1
  rw [← hgo, ← hm] at z
  exact z
theorem ok_Engine_go (T : Txt w K mg) : FnOk P w K mg base CX0 6 (f_Engine_go K) (fdAt K (f_Engine_go K)) ["self", "knocks"] (spGo K) := by
  refine (df_Engine_go T).ok sc_Engine_go (fun vs H Q E h => ?_) (fun cdv A outer s H vs Q E hr h => ?_)
  · obtain ⟨G, e, F, kn, ns, rfl, _⟩ := h
    rfl
  · obtain ⟨G, e, F, kn, ns, rfl, o, k, hkn, hinv, ⟨zr, zd, zn, hlb⟩, hns, q⟩ := h
    have hu := hr.units
    have hu : _ + 1 < _ := Nat.lt_of_le_of_lt (Nat.add_le_add_left (by decide) _) hu
    have pl := plan_parts hinv.i.plan
    refine ⟨_, PSs.nox ((pss_cons (ps_fldK (K := K) rfl (pv 0) (pe_lst pa_nil))
      (pss_cons (ps_for PassesOwn.never rfl (pi_listK (K := K) rfl (pv 1)) (pg_name (i := 2) sc_Engine_go.nd rfl (Or.inl rfl)) (pss_one (ps_expr (pe_meth (pe_meth (pv 0) (cl_Engine T) (me_Engine_line_of T) (ok_Engine_line_of T) (hr.mono (by decide)) (bi_Engine_line_of T) .nil pass0 (pa_cons (pv 2) pa_nil)) (cl_Line T) (me_Line_knock T) (ok_Line_knock T) (hr.mono (by decide)) (bi_Line_knock T) .nil pass0 (pa_cons (pe_fldK (K := K) rfl (pv 0) rfl) pa_nil)))))
      (pss_cons (ps_set (i := 3) sc_Engine_go.nd rfl (Or.inl rfl) (pe_meth0 (pv 0) (cl_Engine T) (me_Engine_chosen T) (ok_Engine_chosen T) (hr.mono (by decide)) (bi_Engine_chosen T) .nil pass0))
      (pss_cons (ps_while PassesOwn.never (PW.pt (pw_and (pt_cmp (pc_notN (pv 3)) rfl) (pw_and1 (pt_cmpR op_ne (pe_ix (ix_tupK (K := K) rfl) (pe_ix (ix_listK (K := K) rfl) (pe_fldK (K := K) rfl (pv 3) rfl) (pe_fldK (K := K) rfl (pv 3) rfl) (fun _ _ => rfl)) pe_int (fun _ _ => rfl)) pe_str (nomark _))))) (pss_cons (ps_expr (pe_meth (pv 0) (cl_Engine T) (me_Engine_quick T) (ok_Engine_quick T) (hr.mono (by decide)) (bi_Engine_quick T) .nil pass0 (pa_cons (pv 3) pa_nil)))
      (pss_one (ps_set (i := 3) sc_Engine_go.nd rfl (Or.inl rfl) (pe_meth0 (pv 0) (cl_Engine T) (me_Engine_chosen T) (ok_Engine_chosen T) (hr.mono (by decide)) (bi_Engine_chosen T) .nil pass0)))))
      (pss_cons (ps_set (i := 4) sc_Engine_go.nd rfl (Or.inl rfl) (pe_ifExp (pt_cmp (pc_notN (pv 3)) rfl) (pe_meth0 (pv 3) (cl_Job T) (me_Job_whose T) (ok_Job_whose T) (hr.mono (by decide)) (bi_Job_whose T) .nil pass0) pe_non))
      (pss_cons (ps_expr (pe_bm PySem.F.plainAttrs_list PySem.F.slot_list_append PySem.F.type_list_append mt_append (pe_fldK (K := K) rfl (pv 0) rfl) (pa_cons (pv 4) pa_nil)))
      (pss_cons (ps_expr (pe_bm PySem.F.plainAttrs_list PySem.F.slot_list_append PySem.F.type_list_append mt_append (pe_fldK (K := K) rfl (pv 0) rfl) (pa_cons (pe_fldK (K := K) rfl (pv 0) rfl) pa_nil)))
      (pss_cons (ps_fldaugK (K := K) rfl (pv 0) pe_int in_add)
      (pss_cons (ps_if (pt_cmp (pc_notN (pv 3)) rfl) (pss_cons (ps_fldK (K := K) rfl (pv 3) (pe_op op_sub (pe_ifExp (pt_cmpR op_gt (pe_fldK (K := K) rfl (pv 3) rfl) pe_int (nomark _)) (pe_fldK (K := K) rfl (pv 3) rfl) (pe_ix (ix_tupK (K := K) rfl) (pe_ix (ix_listK (K := K) rfl) (pe_fldK (K := K) rfl (pv 3) rfl) (pe_fldK (K := K) rfl (pv 3) rfl) (fun _ _ => rfl)) pe_int (fun _ _ => rfl))) pe_int))
      (pss_one (ps_if (pt_cmpR op_eq (pe_fldK (K := K) rfl (pv 3) rfl) pe_int (nomark _)) (pss_cons (ps_fldaugK (K := K) rfl (pv 3) pe_int in_add)
      (pss_one (ps_expr (pe_meth (pv 0) (cl_Engine T) (me_Engine_over T) (ok_Engine_over T) (hr.mono (by decide)) (bi_Engine_over T) .nil pass0 (pa_cons (pv 3) pa_nil))))) pss_nil))) pss_nil)
      (pss_one (ps_ret (pv 4))))))))))))), ?_⟩
    refine q_fldL (xs := []) o 0 rfl (el_lst ea_nil (by decide)) (ev_var rfl) (cl_Engine T) (na_Engine_last_begun T) (by show (12 : Nat) < 1000; decide) fun p H1 o1 => ?_
    have o1 := own_last o1
    let e1 : EngG := { e with aL := p, last := [] }
    have o1 : Own G H1 (e1.obs K ++ F) := o1
    have k1 : EngK K G e1 := ⟨k.plan, k.ways, k.tops, k.bottom, k.begun, k.row⟩
    have i1 : Inv e1.m := inv_out hinv rfl rfl rfl rfl rfl rfl rfl rfl rfl rfl
    -- the knocks
    refine q_forLn (K := K) (a := kn) (xs := ns.map V.str) (ev_var rfl) (sL o1.sub hkn)
      (fun i σ' H' => ∃ (eG : EngG) (s2 : Option V), Own G H' (eG.obs K ++ F) ∧ EngK K G eG ∧ eG.a = e.a ∧ eG.m = e1.m.knocked (ns.take i) ∧ σ' = [some (.ref e.a), some (.ref kn), s2, none, none])
      (fun H2 e2 => ⟨e1, none, o1.same e2, k1, rfl, rfl, rfl⟩) (fun i σ' H' _ h => by obtain ⟨_, _, o2, _⟩ := h; exact sL o2.sub hkn) (fun i x σ' H' hx h => ?_) (fun σ' H' h => ?_)
    · obtain ⟨eG, s2, o2, k2, ha2, hm2, rfl⟩ := h
      obtain ⟨n, hn, rfl⟩ : ∃ n, ns[i]? = some n ∧ x = .str n := by
        rw [List.getElem?_map] at hx
        cases h : ns[i]? with
        | none => rw [h] at hx; cases hx
        | some n => rw [h] at hx; cases hx; exact ⟨n, rfl, rfl⟩
      have hil := (List.getElem?_eq_some_iff.mp hn).1
      have kn2 := knr (ns.take i) i1
      rw [← hm2] at kn2
      obtain ⟨ww, hww⟩ := kn2.keep
      have hRn : eG.m.ways.map (·.name) = e.R.map nameD := by
        rw [kn2.inv.i.wn, hww]
        rfl
      have hnow : eG.now = e.now := by
        have z : eG.m.now = e1.m.now := by rw [hww]
        exact z
      have hmem : n ∈ eG.ways.map (·.m.name) := by
        rw [← em_ways, hRn]
        exact hns n (List.mem_of_getElem? hn)
      obtain ⟨l0, hl0, hln⟩ := List.mem_map.mp hmem
      obtain ⟨l, hl⟩ := find_some (p := fun l : LineG => hasN n l.m) hl0 (decide_eq_true hln)
      obtain ⟨wa, wb, ewl, hp, hnn⟩ := find_split hl
      have hlm : l ∈ eG.ways := by rw [ewl]; simp
      have cn := inv_counts kn2.inv.i
      have zw : eG.ways.length ≤ 100 := by have z : eG.m.ways.length = eG.ways.length := List.length_map ..; omega
      rw [← ha2]
      refine ⟨.ref eG.a, rfl, eG.a, eG.dx, eG.fs, rfl, oi2 0 o2 rfl, rfl, ?_⟩
      refine ⟨.str n, rfl, G, eG, F, n, l, rfl, o2, zw, hl, fun H3 e3 => ?_⟩
      have o3 := o2.same e3
      have hnw : Ev (tFld K (tVar 0) (Str.ofString "now")) [some (V.ref eG.a), some (V.ref kn), some (V.str n), none, none] H3 (.int eG.now) := ev_fl (ev_var rfl) (oi2 0 o3 rfl) (cl_Engine T) (na_Engine_now T) rfl
      obtain ⟨rst, pf⟩ := way_focus K (e := eG) ewl
      have o4 : Own G H3 (l.obs K ++ (rst ++ F)) := by
        have z := (pf l.m).append_right F
        have y : ({ eG with ways := wa ++ { l with m := l.m } :: wb } : EngG) = eG := by
          show ({ eG with ways := wa ++ l :: wb } : EngG) = _
          rw [← ewl]
        rw [y] at z
        rw [← List.append_assoc]
        exact o3.perm z
      refine ⟨l.a, l.dx, l.fs, rfl, oi2 0 o4 rfl, rfl, ?_⟩
      refine (ea_cons hnw ea_nil) H3 (Ex.refl _) _ fun H4 e4 => ?_
      have hll : l.m.let_by.length ≤ 4000 := by
        have z := kn2.lb (4000 - ns.length) (fun l hl => ?_) l.m (List.mem_map.mpr ⟨l, hlm, rfl⟩)
        · rw [List.length_take] at z
          omega
        · obtain ⟨l', hl', rfl⟩ := List.mem_map.mp (show l ∈ e.ways.map (·.m) from hl)
          have := hlb l' hl'
          omega
      refine ⟨eG.now, G, l, rst ++ F, rfl, o4.same e4, k2.ways l hlm, by omega, (kn2.inv.i.ws l.m (List.mem_map.mpr ⟨l, hlm, rfl⟩)).2, fun H5 o5 => ?_⟩
      have kk := knock_keep l.m eG.now
      refine ⟨{ eG with ways := wa ++ { l with m := l.m.knock eG.now } :: wb }, some (.str n), ?_, way_K ewl k2 kk.2.1 ?_, rfl, ?_, rfl⟩
      · have z := (pf (l.m.knock eG.now)).append_right F
        rw [List.append_assoc] at z
        exact o5.perm z.symm
      · unfold LineM.knock
        repeat' split
        all_goals exact ⟨rfl, rfl, rfl⟩
      · rw [List.take_add_one, hn]
        show _ = e1.m.knocked (ns.take i ++ [n])
        rw [knocked_snoc, ← hm2]
        unfold knock1
        show _ = { eG.m with ways := upFirst (hasN n) (fun l : LineM => l.knock eG.now) (eG.ways.map fun l : LineG => l.m) }
        rw [ewl, List.map_append, List.map_cons, upFirst_at (p := hasN n) (fun y hy => ?_) hp]
        · unfold EngG.m
          dsimp only
          rw [List.map_append, List.map_cons]
        · obtain ⟨y', hy', rfl⟩ := List.mem_map.mp hy
          exact hnn y' hy'
    · obtain ⟨eG, s2, o2, k2, ha2, hm2, rfl⟩ := h
      rw [List.length_map, List.take_length] at hm2
      have kn2 := knr ns i1
      rw [← hm2] at kn2
      obtain ⟨ww, hww⟩ := kn2.keep
      have hb2 : ∀ l ∈ eG.m.ways, l.let_by.length ≤ 4000 := fun l hl => by
        have z := kn2.lb (4000 - ns.length) (fun l hl => ?_) l hl
        · have : ns.length ≤ 1000 := zn
          omega
        · obtain ⟨l', hl', rfl⟩ := List.mem_map.mp (show l ∈ e.ways.map (·.m) from hl)
          have := hlb l' hl'
          omega
      have hl0 : eG.last = [] := by
        have z : eG.m.last = e1.m.last := by rw [hww]
        exact z
      rw [← ha2]
      refine q_asgR ⟨.ref eG.a, rfl, eG.a, eG.dx, eG.fs, rfl, oi2 0 o2 rfl, rfl, G, eG, F, rfl, o2, k2, ⟨kn2.inv, by rw [hl0]; exact Nat.zero_le _, fun l hl => Nat.le_trans (hb2 l.m (List.mem_map.mpr ⟨l, hl, rfl⟩)) (by decide)⟩, fun G3 e3 c r H3 s3 hm3 hc3 ha3 k3 o3 => ?_⟩
      have ch := cho kn2.inv
      rw [← hm3] at ch
      have mb := (mu_bounds ch.inv.i).2
      let fin := EngM.settle EngM.fuel (e3.m, c)
      have hfin : e.m.go ns = EngM.finish fin := by
        show EngM.finish (EngM.settle EngM.fuel ((e1.m.knocked ns).chosen)) = _
        rw [← hm2, ← hm3]
      have w0 : GoW K F G e fin 1000 H3 G3 e3 c r := by
        refine ⟨s3, o3, k3, ha3.trans ha2, ch.inv, ch.cur, hc3, ⟨?_, Nat.le_refl _⟩, rfl, ?_, ?_, fun l hl => ch.lb 4000 hb2 l.m (List.mem_map.mpr ⟨l, hl, rfl⟩)⟩
        · have mb : e3.m.mu ≤ 300 := mb
          show e3.m.mu < (1000 : Int)
          omega
        · have z := ch.last
          have z : e3.last.length ≤ eG.last.length + 1 := z
          rw [hl0] at z
          have z : e3.last.length ≤ 1 := z
          have mb : e3.m.mu ≤ 300 := mb
          omega
        · obtain ⟨b1, b2, b3, b4, b5, b6⟩ := ch.same
          have y1 : eG.m.R = e.R := by rw [hww]; rfl
          have y4 : eG.m.now = e.now := by rw [hww]; rfl
          have y5 : eG.m.row = e.rowD := by rw [hww]; rfl
          have y6 : eG.m.depths = e.depths := by rw [hww]; rfl
          exact ⟨b1.trans y1, b4.trans y4, b5.trans y5, b6.trans y6⟩
      refine q_while (fun n σ' H' => ∃ G' eG' c' r', GoW K F G e fin n H' G' eG' c' r' ∧ σ' = [some (.ref e.a), some (.ref kn), s2, some r', none]) 1000 ⟨G3, e3, c, r, w0, by rw [ha2]; rfl⟩ fun n σ' H' hw => ?_
      obtain ⟨G4, e4, c4, r4, w4, rfl⟩ := hw
      have o4 := w4.o
      have hn0 : 0 < n := by
        have := (mu_bounds w4.i.i).1
        have := w4.hn.1
        omega
      have hj4 : ∀ c, c4 = some c → ∃ j s, e4.jobAt c = some j ∧ Now e4.m c j.m s ∧ j.m.word = roleW c ∧ r4 = .ref j.a := fun c hc => by
        obtain ⟨j, s, hj, nw, hjw⟩ := now_eng w4.i (w4.hc.symm.trans hc)
        have z := w4.hr
        rw [hc] at z
        obtain ⟨j', hj', hrv, _⟩ := z
        rw [hj] at hj'
        cases hj'
        exact ⟨j, s, hj, nw, hjw, hrv⟩
      refine ⟨isQ e4.m c4, ?_, fun hb H5 e5 => ?_, fun hb H5 e5 => ?_⟩
      · cases c4 with
        | none =>
          have hr4 : r4 = .non := w4.hr
          rw [hr4]
          exact et_is (b := false) (et_and (a := false) (b := true) (et_is (et_B (ev_notN (ev_var rfl))) rfl) fun h => by cases h) rfl
        | some c =>
          obtain ⟨j, s, hj, nw, hjw, rfl⟩ := hj4 c rfl
          obtain ⟨a, rr, h1, h2, _⟩ := word_now T o4 w4.k hj nw (σ := [some (.ref e.a), some (.ref kn), s2, some (.ref j.a), none]) (i := 3) rfl
          refine et_is (et_and (a := true) (b := e4.m.isQuick c) (et_is (et_B (ev_notN (ev_var rfl))) rfl) fun _ => et_is (et_test (ev_op (ev_op h1 ev_c (rv_ixT h2 at0)) ev_c (rv_ne rfl))) ?_) (by rw [Bool.true_and]; rfl)
          unfold EngM.isQuick
          rw [nw.now, str_dec]
      · obtain ⟨c, rfl⟩ : ∃ c, c4 = some c := by
          cases c4 with
          | none => cases hb
          | some c => exact ⟨c, rfl⟩
        have hb : e4.m.isQuick c = true := hb
        obtain ⟨j, s, hj, nw, hjw, rfl⟩ := hj4 c rfl
        have o5 := o4.same e5
        have hrun : ¬ wordD s = "run" := by
          unfold EngM.isQuick at hb
          rw [nw.now] at hb
          simpa using hb
        obtain ⟨n', rfl⟩ : ∃ n', n = n' + 1 := ⟨n - 1, by omega⟩
        refine ⟨fun σ2 H2 => ∃ G' eG' c' r', GoW K F G e fin n' H2 G' eG' c' r' ∧ σ2 = [some (.ref e.a), some (.ref kn), s2, some r', none], fun σ2 H2 h => ⟨n', Nat.lt_succ_self _, h⟩, ?_⟩
        refine ⟨.ref e.a, rfl, e.a, e4.dx, e4.fs, rfl, by rw [← w4.a]; exact oi2 0 o5 rfl, rfl, .ref j.a, rfl, G4, e4, F, c, j, s, by rw [w4.a]; rfl, o5, w4.k, hj, hjw, nw.step, quick_ok w4.i nw hrun (fun l hl => Nat.le_trans (w4.b l hl) (by decide)), fun e6 H6 hm6 ha6 k6 o6 => ?_⟩
        have qr := qui w4.i w4.hc.symm hb
        rw [← hm6] at qr
        have b6 : ∀ l ∈ e6.m.ways, l.let_by.length ≤ 4000 := qr.lb 4000 fun l hl => by
          obtain ⟨l', hl', rfl⟩ := List.mem_map.mp (show l ∈ e4.ways.map (·.m) from hl)
          exact w4.b l' hl'
        have hl6 : e6.last = e4.last := qr.same.2.2.2.2.2.2
        have hnn := w4.hn.1
        have hq1 := qr.mu
        have hll := w4.l
        have hm0 := (mu_bounds w4.i.i).1
        refine ⟨.ref e.a, rfl, e.a, e6.dx, e6.fs, rfl, by rw [← w4.a, ← ha6]; exact oi2 0 o6 rfl, rfl, G4, e6, F, by rw [ha6, w4.a]; rfl, o6, k6, ⟨qr.inv, by rw [hl6]; omega, fun l hl => Nat.le_trans (b6 l.m (List.mem_map.mpr ⟨l, hl, rfl⟩)) (by decide)⟩, fun G7 e7 c7 r7 H7 s7 hm7 hc7 ha7 k7 o7 => ?_⟩
        have ch7 := cho qr.inv
        rw [← hm7] at ch7
        have hq2 : e7.m.mu ≤ e6.m.mu := ch7.mu
        have hq3 : e7.last.length ≤ e6.last.length + 1 := ch7.last
        rw [hl6] at hq3
        refine ⟨G7, e7, c7, r7, ⟨w4.g.trans s7, o7, k7, ha7.trans (ha6.trans w4.a), ch7.inv, ch7.cur, hc7, ⟨by omega, by have := w4.hn.2; omega⟩, ?_, by omega, ?_, fun l hl => ch7.lb 4000 b6 l.m (List.mem_map.mpr ⟨l, hl, rfl⟩)⟩, rfl⟩
        · have z := w4.s
          rw [settle_quick hb, ← hm6, ← hm7] at z
          exact z
        · obtain ⟨b1, b2, b3, b4, b5, b6⟩ := ch7.same
          obtain ⟨a1, a2, a3, a4, a5, a6, _⟩ := qr.same
          obtain ⟨q1, q2, q3, q4⟩ := w4.q
          exact ⟨(b1.trans a1).trans q1, (b4.trans a4).trans q2, (b5.trans a5).trans q3, (b6.trans a6).trans q4⟩
      · have hst : ∀ x, c4 = some x → e4.m.isQuick x = false := fun x hx => by
          rw [hx] at hb
          exact hb
        have hfin4 : fin = (e4.m, c4) := by rw [← w4.s, settle_end hst]
        have hgo : e.m.go ns = EngM.finish (e4.m, c4) := by rw [hfin, hfin4]
        have o5 := o4.same e5
        have hae := w4.a
        have hns4 : ∀ {H6 : Hp} {s4 : Option V}, EvT (tB (tNotN (tVar 3))) [some (.ref e.a), some (.ref kn), s2, some r4, s4] H6 c4.isSome := fun {H6 s4} => et_is (et_B (ev_notN (ev_var rfl))) (by
          cases c4 with
          | none =>
            have hr4 : r4 = .non := w4.hr
            rw [hr4]
            rfl
          | some c =>
            obtain ⟨j, s, _, _, _, rfl⟩ := hj4 c rfl
            rfl)
        refine q_asgM (fun v H6 => ∃ G6 wh, Same G4 G6 ∧ Own G6 H6 (e4.obs K ++ F) ∧ RowK K G6 [v] [wh] ∧ wh = e4.m.whose c4) (fun Q1 k1 => ?_) (fun v H6 hM => ?_)
        · refine tif_of hns4 (fun hb6 H6 e6 => ?_) (fun hb6 H6 e6 => ?_)
          · obtain ⟨c, rfl⟩ := Option.isSome_iff_exists.mp hb6
            obtain ⟨j, s, hj, nw, hjw, rfl⟩ := hj4 c rfl
            have o6 := o5.same e6
            have hjo := job_get o6 hj
            refine ⟨.ref j.a, rfl, j.a, j.dx, j.fs, rfl, hjo, rfl, j, rfl, hjo, fun p7 H7 np e7 hp7 => ?_⟩
            obtain ⟨o7, s7⟩ := own_keep o6 e7 np hp7
            refine k1 _ _ ⟨_, some (j.m.word, j.m.name), s7, o7, .job (st_of upd_same) .nil, ?_⟩
            show _ = (e4.m.jobAt c).map fun j => (j.word, j.name)
            rw [nw.job]
            rfl
          · obtain rfl : c4 = none := by cases c4 with | none => rfl | some c => cases hb6
            exact k1 _ _ ⟨G4, none, Same.refl _, o5.same e6, .non .nil, rfl⟩
        · obtain ⟨G6, wh, s6, o6, hrow, hwh⟩ := hM
          have k6 := w4.k.mono s6
          have hrl : e4.row.length ≤ 5000 := by
            have z1 := w4.k.row.len
            have z2 := k.row.len
            have z3 := w4.q.2.2.1
            rw [z1, z3, ← z2]
            exact zr
          refine q_appO (v := v) o6 6 rfl (ev_fl (ev_var (v := V.ref e4.a) (by rw [hae]; rfl)) (oi2 0 o6 rfl) (cl_Engine T) (na_Engine_row T) rfl) (ev_var rfl) (by omega) fun H7 o7 => ?_
          let e5' : EngG := { e4 with row := e4.row ++ [v], rowD := e4.rowD ++ [wh] }
          have o7 : Own G6 H7 (e5'.obs K ++ F) := o7
          refine q_appO (v := .int e4.depth) o7 7 rfl (ev_fl (ev_var (v := V.ref e4.a) (by rw [hae]; rfl)) (oi2 0 o7 rfl) (cl_Engine T) (na_Engine_depths T) rfl) (ev_fl (ev_var (v := V.ref e4.a) (by rw [hae]; rfl)) (oi2 0 o7 rfl) (cl_Engine T) (na_Engine_depth T) rfl) (by rw [List.length_map]; show e4.depths.length < 100000; have z3 := w4.q.2.2.2; rw [z3]; omega) fun H8 o8 => ?_
          let e6' : EngG := { e5' with depths := e4.depths ++ [e4.depth] }
          have o8 : Own G6 H8 (e6'.obs K ++ F) := by
            have z : (e4.depths ++ [e4.depth]).map V.int = e4.depths.map V.int ++ [.int e4.depth] := by rw [List.map_append]; rfl
            unfold EngG.obs EngG.head
            show Own G6 H8 (_ ++ F)
            dsimp only [e6']
            rw [z]
            exact o8
          refine q_faug (a := e4.a) (x := e4.now) (y := 1) o8 0 rfl (ev_var (by rw [hae]; rfl)) (cl_Engine T) (na_Engine_now T) rfl ev_c (by show (12 : Nat) < 1000; decide) fun H9 o9 => ?_
          let e7 : EngG := { e6' with now := e4.now + 1 }
          have o9 : Own G6 H9 (e7.obs K ++ F) := o9
          have k7 : EngK K G6 e7 := ⟨k6.plan, k6.ways, k6.tops, k6.bottom, k6.begun, k6.row.app hrow⟩
          have hm7 : e7.m = { e4.m with row := e4.m.row ++ [e4.m.whose c4], depths := e4.m.depths ++ [e4.m.depth], now := e4.m.now + 1 } := by
            rw [← hwh]
            rfl
          have sG := w4.g.trans s6
          have hrD : e4.rowD = e.rowD := w4.q.2.2.1
          refine q_when hns4 (fun hb6 HA eA => ?_) (fun hb6 HA eA => ?_)
          · obtain ⟨c, rfl⟩ := Option.isSome_iff_exists.mp hb6
            obtain ⟨j, s, hj, nw, hjw, rfl⟩ := hj4 c rfl
            have hj7 : e7.jobAt c = some j := by cases c <;> exact hj
            have hjm7 : e7.m.jobAt c = some j.m := by rw [jobAt_m, hj7]; rfl
            have hrun : wordD s = "run" := by
              have z := hst c rfl
              unfold EngM.isQuick at z
              rw [nw.now] at z
              simpa using z
            obtain ⟨m, hsm, hm1, hm2⟩ := run_ticks nw.good hrun
            have hnow7 : e7.m.stepNow c = s := by
              unfold EngM.stepNow
              rw [hjm7]
              show j.m.ss.getD j.m.pos .none = s
              rw [List.getD_eq_getElem?_getD, nw.step]
              rfl
            have oA := o9.same eA
            obtain ⟨wj, rst, f⟩ := focus K hj7
            have nw7 : Now e7.m c j.m s := ⟨hjm7, ⟨nw.ok.word, nw.ok.st.to rfl rfl rfl, nw.ok.pos, nw.ok.masks⟩, nw.step, hnow7, nw.good, nw.sp⟩
            obtain ⟨a, rr, h1, h2, h3⟩ := word_now T oA k7 hj7 nw7 (σ := [some (.ref e.a), some (.ref kn), s2, some (.ref j.a), some v]) (i := 3) rfl
            obtain rfl := h3 m (by rw [hrun]; exact hsm)
            have hjo := job_get oA hj7
            let X1 : JobM := { j.m with left := (if 0 < j.m.left then j.m.left else (ticksD s).toNat) - 1 }
            let X2 : JobM := { X1 with pos := X1.pos + 1 }
            have htk : ticksD s = m := by rw [hsm]; rfl
            have hX1 : (X1.left : Int) = (if (0 : Int) < j.m.left then (j.m.left : Int) else m) - 1 := by
              show (((if 0 < j.m.left then j.m.left else (ticksD s).toNat) - 1 : Nat) : Int) = _
              rw [htk]
              by_cases h : 0 < j.m.left
              · rw [if_pos h, if_pos (by omega)]
                omega
              · rw [if_neg h, if_neg (by omega)]
                omega
            have hsl := step_left hjm7 hnow7 X1 X2 rfl rfl
            have hgo7 : e.m.go ns = e7.m.stepLeft c := by
              rw [hgo, hm7]
              rfl
            have oB : Own G6 HA (j.ob K :: (rst ++ F)) := oA.perm (by
              have z := (f.perm j.m).append_right F
              rw [f.self] at z
              exact z)
            have hlf : Ev (tFld K (tVar 3) (Str.ofString "left")) [some (.ref e.a), some (.ref kn), s2, some (.ref j.a), some v] HA (.int j.m.left) := ev_fl (ev_var rfl) hjo (cl_Job T) (na_Job_left T) rfl
            refine q_fld (v := .int X1.left) oB 0 rfl (ev_is (ev_op (x := .int (if (0 : Int) < j.m.left then (j.m.left : Int) else m)) (ev_is (ev_if' (et_test (ev_op hlf ev_c rv_I0)) (fun _ => hlf) fun _ => ev_op h1 ev_c (rv_ixT h2 (atI_nat (j := 1) rfl))) ?_) ev_c rv_I0) ?_) (ev_var rfl) (cl_Job T) (na_Job_left T) (by show (7 : Nat) < 1000; decide) fun HB oC => ?_
            · by_cases h : (0 : Int) < j.m.left
              · rw [if_pos h, if_pos (decide_eq_true h)]
              · rw [if_neg h, if_neg (by simpa using h)]
            · rw [hX1]
            have oC : Own G6 HB (({ j with m := X1 } : JobG).ob K :: (rst ++ F)) := oC
            have hjo1 : HB j.a = some (.ins (g_Job K) j.dx ({ j with m := X1 } : JobG).fs) := oC.get (List.mem_cons_self ..)
            refine s_when (b := decide ((X1.left : Int) = 0)) (et_is (et_test (ev_op (ev_fl (ev_var rfl) hjo1 (cl_Job T) (na_Job_left T) rfl) ev_c (rv_eq rfl))) (by by_cases h : (X1.left : Int) = 0 <;> simp [h])) (fun hc HC eC => ?_) (fun hc HC eC => ?_)
            · have hc := of_decide_eq_true hc
              refine q_faug (x := (j.m.pos : Int)) (y := 1) (oC.same eC) 0 rfl (ev_var rfl) (cl_Job T) (na_Job_at T) rfl ev_c (by show (7 : Nat) < 1000; decide) fun HD oD => ?_
              have oD : Own G6 HD ((wj X2).obs K ++ F) := Own.perm (L := ({ j with m := X2 } : JobG).ob K :: (rst ++ F)) oD ((f.perm X2).append_right F).symm
              obtain ⟨tt, bb, gg, ew⟩ := f.keep X2
              have hwa : (wj X2).a = e.a := by rw [ew]; exact hae
              have hbl : (wj X2).begun.length ≤ 100 := by
                have y1 : (wj X2).m.begun.length = (wj X2).begun.length := List.length_map ..
                have y2 := congrArg (fun m : EngM => m.begun.length) (f.m X2)
                have y3 := setJob_len e7.m c (fun _ => X2)
                have y4 : e7.m.begun.length = e4.begun.length := List.length_map ..
                have cn := inv_counts w4.i.i
                have y5 : e4.m.begun.length = e4.begun.length := List.length_map ..
                have y2 : (wj X2).m.begun.length = (e7.m.setJob c fun _ => X2).begun.length := y2
                omega
              refine ⟨.ref e.a, rfl, e.a, (wj X2).dx, (wj X2).fs, rfl, by rw [← hwa]; exact oi2 0 oD rfl, rfl, .ref j.a, rfl, G6, wj X2, F, c, { j with m := X2 }, by rw [hwa]; rfl, oD, f.K X2 G6 rfl k7, f.at_ X2 rfl, hjw, hbl, fun e9 HE hm9 ha9 k9 o9 => ?_⟩
              have hm9 : e9.m = e.m.go ns := by
                rw [hm9, hgo7, hsl, if_pos (by omega), f.m X2]
              refine s_ret (ev_var rfl) fun HF eF => q G6 e9 v wh HF sG hm9 (ha9.trans hwa) ?_ hrow k9 (o9.same eF)
              have z := go_row w4 hfin4 hgo hm9 hst
              rw [← hwh, hrD] at z
              exact z
            · have hc := of_decide_eq_false hc
              have oD : Own G6 HB ((wj X1).obs K ++ F) := oC.perm ((f.perm X1).append_right F).symm
              obtain ⟨tt, bb, gg, ew⟩ := f.keep X1
              have hwa : (wj X1).a = e.a := by rw [ew]; exact hae
              have hm9 : (wj X1).m = e.m.go ns := by
                rw [hgo7, hsl, if_neg (by omega), f.m X1]
              refine s_ret (ev_var rfl) fun HF eF => q G6 (wj X1) v wh HF sG hm9 hwa ?_ hrow (f.K X1 G6 rfl k7) ((oD.same eC).same eF)
              have z := go_row w4 hfin4 hgo hm9 hst
              rw [← hwh, hrD] at z
              exact z
          · obtain rfl : c4 = none := by cases c4 with | none => rfl | some c => cases hb6
            refine s_ret (ev_var rfl) fun HB eB => q G6 e7 v wh HB sG ?_ hae ?_ hrow k7 ((o9.same eA).same eB)
            · rw [hgo, hm7]
              rfl
            · show e4.rowD ++ [wh] = e.rowD ++ [wh]
              rw [hrD]
end
end KW
end
section
set_option Elab.async false
set_option linter.all false
set_option autoImplicit false
set_option maxRecDepth 100000
set_option maxHeartbeats 1000000
/-! engine.py: an engine made anew, twins -/
namespace KW
open PySem PySem.Spec PyProof.Rows L2 He KR Evl
local macro_rules
  | `(tactic| walk_at "na") => `(tactic| with_reducible (first | exact cl_Line (by assumption) | exact cl_Job (by assumption) | exact cl_Engine (by assumption) | exact cl_Plan (by assumption) | exact cl_Run (by assumption) | exact cl_Bench (by assumption) | exact na_Line_name (by assumption) | exact na_Line_rank (by assumption) | exact na_Line_is_up (by assumption) | exact na_Line_guard (by assumption) | exact na_Line_top (by assumption) | exact na_Line_let_by (by assumption) | exact na_Line_shut_till (by assumption) | exact na_Line_since (by assumption) | exact na_Line_fresh (by assumption) | exact na_Line_counts (by assumption) | exact na_Line_longest (by assumption) | exact na_Job_word (by assumption) | exact na_Job_name (by assumption) | exact na_Job_rank (by assumption) | exact na_Job_steps (by assumption) | exact na_Job_masks_then (by assumption) | exact na_Job_at (by assumption) | exact na_Job_left (by assumption) | exact na_Engine_plan (by assumption) | exact na_Engine_ways (by assumption) | exact na_Engine_tops (by assumption) | exact na_Engine_bottom (by assumption) | exact na_Engine_put_off (by assumption) | exact na_Engine_woken (by assumption) | exact na_Engine_begun (by assumption) | exact na_Engine_depth (by assumption) | exact na_Engine_now (by assumption) | exact na_Engine_row (by assumption) | exact na_Engine_depths (by assumption) | exact na_Engine_last_begun (by assumption) | exact na_Plan_row (by assumption) | exact na_Plan_low (by assumption) | exact na_Plan_late (by assumption) | exact na_Run_row (by assumption) | exact na_Run_depths (by assumption) | exact na_Run_table (by assumption) | exact na_Run_longest (by assumption) | exact na_Bench_engine (by assumption) | exact na_Bench_fresh (by assumption) | exact na_Bench_told_so_far (by assumption) | exact na_Bench_rows (by assumption)))
local macro_rules
  | `(tactic| walk_at "oi") => `(tactic| first | assumption | exact oi2 0 (by assumption) rfl | exact oi2 1 (by assumption) rfl | exact oi2 2 (by assumption) rfl | exact oi2 3 (by assumption) rfl | exact oi2 4 (by assumption) rfl | exact oi2 5 (by assumption) rfl | exact oi2 6 (by assumption) rfl | exact oi2 7 (by assumption) rfl | exact oi2 8 (by assumption) rfl)
local macro_rules
  | `(tactic| walk_at "ev") => `(tactic| repeat' (first
    | exact ev_c | exact ev_var rfl | exact ea_nil | exact rv_I0 | exact ru_neg | exact eo_none
    | exact rv_eq rfl | exact rv_ne rfl
    | exact rv_ixT (by assumption) (by rfl) | exact rv_ixL (by assumption) (by rfl)
    | exact sv_q (by assumption) (by assumption) | exact sv_within (by assumption)
    | exact Or.inr (by assumption) | exact Or.inl (by assumption) | (show (_ : String) ∈ _; decide)
    | with_reducible (first | apply ev_isi | apply ev_lenS | apply ev_if' | apply et_test | apply et_B | apply et_not | apply et_and | apply et_or | apply ev_andV | apply ev_orV | apply ev_notV | apply ea_cons | apply eo_some | apply ev_fl | apply ev_op | apply ev_un | apply ev_call)
    | walk_at "na" | walk_at "oi" | (show List.lookup _ _ = _; rfl)
    | assumption
    | (with_reducible intro hh; first | exact absurd (show true = false from hh) (by decide) | exact absurd (show false = true from hh) (by decide) | clear hh)))

section
variable {P : Program} {w : World} {K : PySem.W.Frag} {mg : Str → Option Value} {base : Heap}
theorem sc_Engine_init : FnScope ["self", "plan", "told"] ["self", "plan"] (defScope s_Engine_init) := ⟨rfl, rfl, rfl, by decide +kernel, rfl, by decide +kernel, by decide +kernel⟩
theorem sc_Line_twin : FnScope ["self", "found"] ["self"] (defScope s_Line_twin) := ⟨rfl, rfl, rfl, by decide +kernel, rfl, by decide +kernel, by decide +kernel⟩
theorem sc_Job_twin : FnScope ["self", "found"] ["self"] (defScope s_Job_twin) := ⟨rfl, rfl, rfl, by decide +kernel, rfl, by decide +kernel, by decide +kernel⟩
theorem q_make {C : Addr} {sp : Sp} {E : XK} {ta : TA} {i : Nat} {tz : TS} {D : Ends} {σ : L2.St} {H : Hp} {vs : List V} (ha : EvA ta σ H vs) (kk : ∀ H1 x dx, Ex H H1 → H1 x = none → H1 dx = none → dx ≠ x → sp (.ref x :: (vs ++ [])) (upd (upd H1 dx (.own x)) x (.ins C dx [])) (fun v H2 => v = .non ∧ tz D (σ.set i (some (.ref x))) H2) E) : tSeq (tAsg (tMake C sp [] E ta) (gName i)) tz D σ H := s_make (D := { D with nx := tz D }) ha kk
theorem q_unpU {te : TE} {σ : L2.St} {H : Hp} {xs : List V} {k : Nat} {t : TGs} {tz : TS} {D : Ends} (h : EvU te σ H xs) (hn : xs.length = k) (q : ∀ H1, Ex H H1 → t xs σ H1 fun σ' H' => tz D σ' H') : tSeq (tAsg te (gTup K k t)) tz D σ H :=
  h H (Ex.refl _) _ fun p H1 np e1 hp => ⟨p, xs, rfl, st_of hp, hn, q H1 e1⟩
theorem q_makeU {C : Addr} {sp : Sp} {E : XK} {te : TE} {i : Nat} {tz : TS} {D : Ends} {σ : L2.St} {H : Hp} {xs : List V} (h : EvU te σ H xs) (kk : ∀ t H1 x dx, Ex H H1 → H1 t = some (.tup xs) → H1 x = none → H1 dx = none → dx ≠ x → sp [.ref x, .ref t] (upd (upd H1 dx (.own x)) x (.ins C dx [])) (fun v H2 => v = .non ∧ tz D (σ.set i (some (.ref x))) H2) E) : tSeq (tAsg (tMake C sp [] E (tCons te tNil)) (gName i)) tz D σ H :=
  h H (Ex.refl _) _ fun t H1 _ e1 ht x dx n1 n2 n3 => kk t H1 x dx e1 ht n1 n2 n3
/-- a target o.f, o ours -/
theorem g_fld {G H : Hp} {L : List (Addr × HO)} {ta : TE} {σ : L2.St} {a C dx : Addr} {fs : List (Str × V)} {f : Str} {v : V} {Q : L2.St → Hp → Prop} (o : Own G H L) (n : Nat) (h : L[n]? = some (a, .ins C dx fs)) (ha : Ev ta σ H (.ref a)) (hC : Cls K C) (hn : NoAttr K C f) (hl : fs.length < 1000) (k : ∀ H1, Own G H1 (L.set n (a, .ins C dx (putF f v fs))) → Q σ H1) : gFld K ta f v σ H Q :=
  ha H (Ex.refl _) _ fun H1 e1 => ⟨a, C, dx, fs, rfl, e1 _ _ (oi n o h), hC, hn, hl, k _ (own_set (o.same e1) h)⟩
def spJobTwin (K : PySem.W.Frag) : Sp := fun vs H Q _ => ∃ (G : Hp) (F : List (Addr × HO)) (j : JobG), vs = [.ref j.a] ∧ Own G H (j.ob K :: F) ∧ ∀ (j2 : JobG) H', j2.m = j.m → j2.steps = j.steps → Own G H' (j2.ob K :: j.ob K :: F) → Q (.ref j2.a) H'
theorem ok_Job_twin (T : Txt w K mg) : FnOk P w K mg base CX0 3 (f_Job_twin K) (fdAt K (f_Job_twin K)) ["self"] (spJobTwin K) := by
  refine (df_Job_twin T).ok sc_Job_twin (fun vs H Q E h => ?_) (fun cdv A outer s H vs Q E hr h => ?_)
  · obtain ⟨_, _, _, rfl, _⟩ := h
    rfl
  · obtain ⟨G, F, j, rfl, o, q⟩ := h
    refine ⟨_, PSs.nox ((pss_cons (ps_set (i := 1) sc_Job_twin.nd rfl (Or.inl rfl) (pe_make (mk_Job T) (ok_Job_init T) (hr.mono (by decide)) rfl (gl_Job T) (bi_Job_init T) .nil pass0 (pa_cons (pe_fldK (K := K) rfl (pv 0) rfl) (pa_cons (pe_fldK (K := K) rfl (pv 0) rfl) (pa_cons (pe_fldK (K := K) rfl (pv 0) rfl) (pa_cons (pe_fldK (K := K) rfl (pv 0) rfl) (pa_cons (pe_fldK (K := K) rfl (pv 0) rfl) pa_nil)))))))
      (pss_cons (ps_asg (pe_tup (pa_cons (pe_fldK (K := K) rfl (pv 0) rfl) (pa_cons (pe_fldK (K := K) rfl (pv 0) rfl) pa_nil))) (pg_tupK rfl (K := K) rfl (pgs_cons (pg_fldK (K := K) rfl (pv 1)) (pgs_cons (pg_fldK (K := K) rfl (pv 1)) pgs_nil))))
      (pss_one (ps_ret (pv 1)))))), ?_⟩
    have hj := o.get (List.mem_cons_self ..)
    refine q_make (vs := [.str j.m.word, .str j.m.name, .int j.m.rank, j.steps, .int j.m.masks]) (by walk_at "ev") fun H1 x dx e1 nx ndx hne => ?_
    refine ⟨G, j.ob K :: F, x, dx, j.m.word, j.m.name, j.m.rank, j.m.masks, j.steps, j.m.ss, rfl, Own.new ((o.same e1).same (Ex.new ndx)) (by rw [upd_ne (Ne.symm hne)]; exact nx), fun H2 o2 => ⟨rfl, ?_⟩⟩
    let J : JobG := { a := x, dx := dx, steps := j.steps, m := { j.m with pos := 0, left := 0 } }
    have o2 : Own G H2 (J.ob K :: j.ob K :: F) := o2
    refine q_unpU (xs := [.int j.m.pos, .int j.m.left]) (eu_tup (ea_cons (ev_fl (ev_var rfl) (oi2 1 o2 rfl) (cl_Job T) (na_Job_at T) rfl) (ea_cons (ev_fl (ev_var rfl) (oi2 1 o2 rfl) (cl_Job T) (na_Job_left T) rfl) ea_nil)) (by show (2 : Nat) ≤ 100000; decide)) rfl fun H3 e3 => ?_
    refine ⟨_, _, rfl, g_fld (o2.same e3) 0 rfl (ev_var rfl) (cl_Job T) (na_Job_at T) (by show (7 : Nat) < 1000; decide) fun H4 o4 => ?_⟩
    refine ⟨_, _, rfl, g_fld o4 0 rfl (ev_var rfl) (cl_Job T) (na_Job_left T) (by show (7 : Nat) < 1000; decide) fun H5 o5 => ⟨rfl, ?_⟩⟩
    exact s_ret (ev_var rfl) fun H6 e6 => q { J with m := j.m } H6 rfl rfl (o5.same e6)
def spLineTwin (K : PySem.W.Frag) : Sp := fun vs H Q _ => ∃ (G : Hp) (F : List (Addr × HO)) (l : LineG), vs = [.ref l.a] ∧ Own G H (l.obs K ++ F) ∧ ∀ (l2 : LineG) H', l2.m = l.m → l2.guard = l.guard → l2.top = l.top → Own G H' (l2.obs K ++ (l.obs K ++ F)) → Q (.ref l2.a) H'
theorem ok_Line_twin (T : Txt w K mg) : FnOk P w K mg base CX0 3 (f_Line_twin K) (fdAt K (f_Line_twin K)) ["self"] (spLineTwin K) := by
  refine (df_Line_twin T).ok sc_Line_twin (fun vs H Q E h => ?_) (fun cdv A outer s H vs Q E hr h => ?_)
  · obtain ⟨_, _, _, rfl, _⟩ := h
    rfl
  · obtain ⟨G, F, l, rfl, o, q⟩ := h
    refine ⟨_, PSs.nox ((pss_cons (ps_set (i := 1) sc_Line_twin.nd rfl (Or.inl rfl) (pe_make (mk_Line T) (ok_Line_init T) (hr.mono (by decide)) rfl (gl_Line T) (bi_Line_init T) .nil pass0 (pa_cons (pe_tup (pa_cons (pe_fldK (K := K) rfl (pv 0) rfl) (pa_cons (pe_fldK (K := K) rfl (pv 0) rfl) (pa_cons (pe_fldK (K := K) rfl (pv 0) rfl) (pa_cons (pe_fldK (K := K) rfl (pv 0) rfl) (pa_cons (pe_fldK (K := K) rfl (pv 0) rfl) pa_nil)))))) pa_nil)))
      (pss_cons (ps_asg (pe_tup (pa_cons (pe_callTy (call_listK (K := K) rfl) (by rfl) (fr_list T) (by decide +kernel) (pa_cons (pe_fldK (K := K) rfl (pv 0) rfl) pa_nil)) (pa_cons (pe_callTy (call_listK (K := K) rfl) (by rfl) (fr_list T) (by decide +kernel) (pa_cons (pe_fldK (K := K) rfl (pv 0) rfl) pa_nil)) pa_nil))) (pg_tupK rfl (K := K) rfl (pgs_cons (pg_fldK (K := K) rfl (pv 1)) (pgs_cons (pg_fldK (K := K) rfl (pv 1)) pgs_nil))))
      (pss_cons (ps_asg (pe_tup (pa_cons (pe_fldK (K := K) rfl (pv 0) rfl) (pa_cons (pe_fldK (K := K) rfl (pv 0) rfl) pa_nil))) (pg_tupK rfl (K := K) rfl (pgs_cons (pg_fldK (K := K) rfl (pv 1)) (pgs_cons (pg_fldK (K := K) rfl (pv 1)) pgs_nil))))
      (pss_cons (ps_asg (pe_tup (pa_cons (pe_fldK (K := K) rfl (pv 0) rfl) (pa_cons (pe_fldK (K := K) rfl (pv 0) rfl) pa_nil))) (pg_tupK rfl (K := K) rfl (pgs_cons (pg_fldK (K := K) rfl (pv 1)) (pgs_cons (pg_fldK (K := K) rfl (pv 1)) pgs_nil))))
      (pss_one (ps_ret (pv 1)))))))), ?_⟩
    have hU : EvU (tTup (tCons (tFld K (tVar 0) (Str.ofString "name")) (tCons (tFld K (tVar 0) (Str.ofString "rank")) (tCons (tFld K (tVar 0) (Str.ofString "is_up")) (tCons (tFld K (tVar 0) (Str.ofString "guard")) (tCons (tFld K (tVar 0) (Str.ofString "top")) tNil)))))) (L2.start ["self", "found"] [V.ref l.a]) H [.str l.m.name, .int l.m.rank, .bl l.m.up, l.guard, l.top] := eu_tup (by walk_at "ev") (by show (5 : Nat) ≤ 100000; decide)
    refine q_makeU hU fun t H1 x dx e1 ht nx ndx hne => ?_
    have o1 := o.same e1
    let L0 : LineG := { a := x, dx := dx, lb := 0, ct := 0, guard := l.guard, top := l.top, m := { l.m with let_by := [], shut := 0, since := none, fresh := false, c0 := 0, c1 := 0, c2 := 0, c3 := 0, longest := 0 } }
    refine ⟨G, l.obs K ++ F, L0, t, rfl, Own.new (o1.same (Ex.new ndx)) (by rw [upd_ne (Ne.symm hne)]; exact nx), st_of ?_, ⟨rfl, rfl, rfl, rfl, ⟨rfl, rfl, rfl, rfl⟩, rfl⟩, fun lb ct H2 o2 => ⟨rfl, ?_⟩⟩
    · have ntx : t ≠ x := fun z => by rw [z, nx] at ht; cases ht
      have ntd : t ≠ dx := fun z => by rw [z, ndx] at ht; cases ht
      rw [upd_ne ntx, upd_ne ntd]
      exact ht
    have o2 : Own G H2 (({ L0 with lb := lb, ct := ct } : LineG).obs K ++ (l.obs K ++ F)) := o2
    -- the lists anew
    have hlb : Ev (tFld K (tVar 0) (Str.ofString "let_by")) [some (.ref l.a), some (.ref x)] H2 (.ref l.lb) := ev_fl (ev_var rfl) (oi2 3 o2 rfl) (cl_Line T) (na_Line_let_by T) rfl
    refine hlb H2 (Ex.refl _) _ fun H3 e3 => ⟨l.lb, l.m.let_by.map V.int, rfl, .inl (sq_of (e3 _ _ (oi2 4 o2 rfl))), fun p1 n1 => ?_⟩
    have o3 : Own G _ ((p1, .lst (l.m.let_by.map V.int)) :: (({ L0 with lb := lb, ct := ct } : LineG).obs K ++ (l.obs K ++ F))) := Own.new (o2.same e3) n1
    have hct : Ev (tFld K (tVar 0) (Str.ofString "counts")) [some (.ref l.a), some (.ref x)] _ (.ref l.ct) := ev_fl (ev_var rfl) (oi2 4 o3 rfl) (cl_Line T) (na_Line_counts T) rfl
    refine hct _ (Ex.refl _) _ fun H4 e4 => ⟨l.ct, _, rfl, .inl (sq_of (e4 _ _ (oi2 6 o3 rfl))), fun p2 n2 => ?_⟩
    have o4 := Own.new (o := .lst [.int l.m.c0, .int l.m.c1, .int l.m.c2, .int l.m.c3]) (o3.same e4) n2
    refine ⟨by show 2 ≤ sizeLine; rw [sizeLine_eq]; decide, fun p3 n3 => ⟨p3, _, rfl, st_of upd_same, rfl, ?_⟩⟩
    have o5 := o4.same (Ex.new (o := .tup [.ref p1, .ref p2]) n3)
    refine ⟨_, _, rfl, g_fld o5 2 rfl (ev_var rfl) (cl_Line T) (na_Line_let_by T) (by show (11 : Nat) < 1000; decide) fun H6 o6 => ?_⟩
    refine ⟨_, _, rfl, g_fld o6 2 rfl (ev_var rfl) (cl_Line T) (na_Line_counts T) (by show (11 : Nat) < 1000; decide) fun H7 o7 => ⟨rfl, ?_⟩⟩
    refine q_unpU (xs := [.int l.m.shut, optI l.m.since]) (eu_tup (ea_cons (ev_fl (ev_var rfl) (oi2 5 o7 rfl) (cl_Line T) (na_Line_shut_till T) rfl) (ea_cons (ev_fl (ev_var rfl) (oi2 5 o7 rfl) (cl_Line T) (na_Line_since T) rfl) ea_nil)) (by show (2 : Nat) ≤ 100000; decide)) rfl fun H8 e8 => ?_
    refine ⟨_, _, rfl, g_fld (o7.same e8) 2 rfl (ev_var rfl) (cl_Line T) (na_Line_shut_till T) (by show (11 : Nat) < 1000; decide) fun H9 o9 => ?_⟩
    refine ⟨_, _, rfl, g_fld o9 2 rfl (ev_var rfl) (cl_Line T) (na_Line_since T) (by show (11 : Nat) < 1000; decide) fun HA oA => ⟨rfl, ?_⟩⟩
    refine q_unpU (xs := [.bl l.m.fresh, .int l.m.longest]) (eu_tup (ea_cons (ev_fl (ev_var rfl) (oi2 5 oA rfl) (cl_Line T) (na_Line_fresh T) rfl) (ea_cons (ev_fl (ev_var rfl) (oi2 5 oA rfl) (cl_Line T) (na_Line_longest T) rfl) ea_nil)) (by show (2 : Nat) ≤ 100000; decide)) rfl fun HB eB => ?_
    refine ⟨_, _, rfl, g_fld (oA.same eB) 2 rfl (ev_var rfl) (cl_Line T) (na_Line_fresh T) (by show (11 : Nat) < 1000; decide) fun HC oC => ?_⟩
    refine ⟨_, _, rfl, g_fld oC 2 rfl (ev_var rfl) (cl_Line T) (na_Line_longest T) (by show (11 : Nat) < 1000; decide) fun HD oD => ⟨rfl, ?_⟩⟩
    refine s_ret (ev_var rfl) fun HE eE => q { L0 with lb := p1, ct := p2, m := l.m } HE rfl rfl rfl ?_
    have oE := oD.same eE
    let A1 : Addr × HO := (x, .ins (g_Line K) dx ({ L0 with lb := p1, ct := p2, m := l.m } : LineG).fs)
    have oE : Own G HE ((p2, .lst [.int l.m.c0, .int l.m.c1, .int l.m.c2, .int l.m.c3]) :: (p1, .lst (l.m.let_by.map V.int)) :: A1 :: (lb, .lst []) :: (ct, .lst [.int 0, .int 0, .int 0, .int 0]) :: (l.obs K ++ F)) := oE
    have oF := oE.less (M := (p2, .lst [.int l.m.c0, .int l.m.c1, .int l.m.c2, .int l.m.c3]) :: (p1, .lst (l.m.let_by.map V.int)) :: A1 :: (l.obs K ++ F)) ((((List.Sublist.cons _ (List.Sublist.cons _ (List.Sublist.refl _))).cons₂ _).cons₂ _).cons₂ _)
    exact oF.perm (perm3 _ _ _ _)
end
end KW
end
section
set_option Elab.async false
set_option linter.all false
set_option autoImplicit false
set_option maxRecDepth 100000
set_option maxHeartbeats 1000000
/-! engine.py: an engine made anew -/
namespace KW
open PySem PySem.Spec PyProof.Rows L2 He KR Evl
local macro_rules
  | `(tactic| walk_at "na") => `(tactic| with_reducible (first | exact cl_Line (by assumption) | exact cl_Job (by assumption) | exact cl_Engine (by assumption) | exact cl_Plan (by assumption) | exact cl_Run (by assumption) | exact cl_Bench (by assumption) | exact na_Line_name (by assumption) | exact na_Line_rank (by assumption) | exact na_Line_is_up (by assumption) | exact na_Line_guard (by assumption) | exact na_Line_top (by assumption) | exact na_Line_let_by (by assumption) | exact na_Line_shut_till (by assumption) | exact na_Line_since (by assumption) | exact na_Line_fresh (by assumption) | exact na_Line_counts (by assumption) | exact na_Line_longest (by assumption) | exact na_Job_word (by assumption) | exact na_Job_name (by assumption) | exact na_Job_rank (by assumption) | exact na_Job_steps (by assumption) | exact na_Job_masks_then (by assumption) | exact na_Job_at (by assumption) | exact na_Job_left (by assumption) | exact na_Engine_plan (by assumption) | exact na_Engine_ways (by assumption) | exact na_Engine_tops (by assumption) | exact na_Engine_bottom (by assumption) | exact na_Engine_put_off (by assumption) | exact na_Engine_woken (by assumption) | exact na_Engine_begun (by assumption) | exact na_Engine_depth (by assumption) | exact na_Engine_now (by assumption) | exact na_Engine_row (by assumption) | exact na_Engine_depths (by assumption) | exact na_Engine_last_begun (by assumption) | exact na_Plan_row (by assumption) | exact na_Plan_low (by assumption) | exact na_Plan_late (by assumption) | exact na_Run_row (by assumption) | exact na_Run_depths (by assumption) | exact na_Run_table (by assumption) | exact na_Run_longest (by assumption) | exact na_Bench_engine (by assumption) | exact na_Bench_fresh (by assumption) | exact na_Bench_told_so_far (by assumption) | exact na_Bench_rows (by assumption)))
local macro_rules
  | `(tactic| walk_at "oi") => `(tactic| first | assumption | exact oi2 0 (by assumption) rfl | exact oi2 1 (by assumption) rfl | exact oi2 2 (by assumption) rfl | exact oi2 3 (by assumption) rfl | exact oi2 4 (by assumption) rfl | exact oi2 5 (by assumption) rfl | exact oi2 6 (by assumption) rfl | exact oi2 7 (by assumption) rfl | exact oi2 8 (by assumption) rfl)
local macro_rules
  | `(tactic| walk_at "ev") => `(tactic| repeat' (first
    | exact ev_c | exact ev_var rfl | exact ea_nil | exact rv_I0 | exact ru_neg | exact eo_none
    | exact rv_eq rfl | exact rv_ne rfl
    | exact rv_ixT (by assumption) (by rfl) | exact rv_ixL (by assumption) (by rfl)
    | exact sv_q (by assumption) (by assumption) | exact sv_within (by assumption)
    | exact Or.inr (by assumption) | exact Or.inl (by assumption) | (show (_ : String) ∈ _; decide)
    | with_reducible (first | apply ev_isi | apply ev_lenS | apply ev_if' | apply et_test | apply et_B | apply et_not | apply et_and | apply et_or | apply ev_andV | apply ev_orV | apply ev_notV | apply ea_cons | apply eo_some | apply ev_fl | apply ev_op | apply ev_un | apply ev_call)
    | walk_at "na" | walk_at "oi" | (show List.lookup _ _ = _; rfl)
    | assumption
    | (with_reducible intro hh; first | exact absurd (show true = false from hh) (by decide) | exact absurd (show false = true from hh) (by decide) | clear hh)))

section
variable {P : Program} {w : World} {K : PySem.W.Frag} {mg : Str → Option Value} {base : Heap}
/-- a new dict -/
def EvD (te : TE) (σ : L2.St) (H : Hp) (kvs : List (L2.Key × V)) : Prop := ∀ H1, Ex H H1 → ∀ Q : VK, (∀ p H2, H1 p = none → Ex H1 H2 → H2 p = some (.dK kvs) → Q (.ref p) H2) → te σ H1 Q
theorem put_new {kvs : List (L2.Key × V)} {k : L2.Key} {z : V} (h : k ∉ kvs.map (·.1)) : putK kvs k z = kvs ++ [(k, z)] := by
  unfold putK
  have : (kvs.any fun kv => decide (kv.1 = k)) = false := by
    rw [List.any_eq_false]
    intro x hx
    have : x.1 ≠ k := fun e => h (List.mem_map.mpr ⟨x, hx, e⟩)
    simp [this]
  rw [this]
  rfl
theorem ed_dc {σ : L2.St} {H : Hp} {tl tk tv : TE} {j : Nat} {vs : List Nat} {a : Addr} {xs : List V} (kvs : List (L2.Key × V)) (h : Ev tl σ H (.ref a)) (hx : SqL K H a xs) (hl : xs.length = kvs.length) (hz : kvs.length ≤ 10000) (nd : (kvs.map (·.1)).Nodup) (hw : ∀ x, wipe ((wipe σ vs).set j (some x)) vs = wipe σ vs)
    (hk : ∀ (i : Nat) (x : V) (p : L2.Key × V), xs[i]? = some x → kvs[i]? = some p → Ev tk ((wipe σ vs).set j (some x)) H (kV p.1) ∧ Ev tv ((wipe σ vs).set j (some x)) H p.2) : EvD (tDc (iList K tl) (gName j) tYes tk tv vs) σ H kvs := fun H0 e Q q => h H0 e _ fun H1 e1 => ⟨a, rfl, ⟨xs, ex_l (e.trans e1) hx⟩, fun D hD => by
  refine ⟨fun i m H => m = kvs.length - i ∧ i ≤ kvs.length ∧ Ex H1 H ∧ H D = some (.dK (kvs.take i)), ⟨kvs.length, by simp, Nat.zero_le _, Ex.new hD, upd_same⟩, ?_⟩
  rintro i m H' ⟨rfl, hi, e2, hS⟩
  have eH := (e.trans e1).trans e2
  by_cases hlt : i < kvs.length
  · have hki : kvs[i]? = some kvs[i] := List.getElem?_eq_getElem hlt
    refine .inr ⟨⟨xs, xs[i]'(by omega), ex_l eH hx, List.getElem?_eq_getElem (by omega)⟩, fun H' => (i + 1) ≤ kvs.length ∧ Ex H1 H' ∧ H' D = some (.dK (kvs.take (i + 1))), fun H' ⟨h1, h2, h3⟩ => ⟨kvs.length - (i + 1), by omega, rfl, h1, h2, h3⟩, fun x H2 y => ?_⟩
    obtain ⟨rfl, y⟩ := y
    have hxi := y xs (ex_l eH hx)
    obtain ⟨k1, k2⟩ := hk i x _ hxi hki
    refine ⟨hw x, ?_⟩
    show tk _ H2 _
    refine k1 H2 eH _ fun H3 e3 => k2 H3 (eH.trans e3) _ fun H4 e4 => ⟨kvs.take i, kvs[i].1, rfl, (e3.trans e4) _ _ hS, by rw [List.length_take, sizeLine_eq]; omega, hlt, Ex.mut (e2.trans (e3.trans e4)) hD, ?_⟩
    rw [upd_same, put_new, List.take_add_one, hki]
    · rfl
    · intro hm
      have e0 : kvs = kvs.take i ++ kvs[i] :: kvs.drop (i + 1) := by rw [List.getElem_cons_drop, List.take_append_drop]
      rw [e0, List.map_append, List.map_cons, List.nodup_append] at nd
      exact nd.2.2 _ hm _ (List.mem_cons_self ..) rfl
  · have : i = kvs.length := by omega
    subst this
    refine .inl ⟨⟨xs, ex_l eH hx, by omega⟩, q D H' (fresh_back e1 hD) (e1.trans e2) ?_⟩
    rw [hS, List.take_length]⟩
theorem q_fldD {te ta : TE} {σ : L2.St} {G H : Hp} {L : List (Addr × HO)} {tz : TS} {D : Ends} {a C dx : Addr} {f : Str} {fs : List (Str × V)} {kvs : List (L2.Key × V)} (o : Own G H L) (n : Nat) (h : L[n]? = some (a, .ins C dx fs)) (he : EvD te σ H kvs) (ha : Ev ta σ H (.ref a)) (hC : Cls K C) (hn : NoAttr K C f) (hl : fs.length < 1000) (k : ∀ p H1, Own G H1 ((p, .dK kvs) :: L.set n (a, .ins C dx (putF f (.ref p) fs))) → tz D σ H1) : tSeq (sFld K ta te f) tz D σ H :=
  he H (Ex.refl _) _ fun p H1 np e1 hp => ha H1 e1 _ fun H2 e2 => ⟨a, C, dx, fs, rfl, (e1.trans e2) _ _ (oi n o h), hC, hn, hl, k p _ (own_set (n := n + 1) ((own_add o e1 np hp).same e2) h)⟩
theorem q_fldQ {te ta : TE} {f : Str} {σ : L2.St} {H : Hp} {tz : TS} {D : Ends} (M : V → Hp → Prop) (h : ∀ Q : VK, (∀ v H1, M v H1 → Q v H1) → te σ H Q) (k : ∀ v H1, M v H1 → tSeq (sFld K ta (fun _ H Q => Q v H) f) tz D σ H1) : tSeq (sFld K ta te f) tz D σ H := h _ k
theorem ev_k {σ : L2.St} {H : Hp} {v : V} : Ev (fun _ H Q => Q v H) σ H v := fun H1 _ Q q => q H1 (Ex.refl _)
theorem line_at {G : Hp} {x : V} {d : PyData} (h : Dp K G x d) (hd : isLineD d = true) : ∃ t g l xs, x = .ref t ∧ SqT K G t [.str (lineM d).name, .int (lineM d).rank, .bl (lineM d).up, .ref g, .ref l] ∧ SqT K G g [.int (lineM d).most, .int (lineM d).wide, .int (lineM d).rest] ∧ SqL K G l xs ∧ DpAll K G xs (lineM d).ss := by
  obtain ⟨n, r, u, a, b, c, ss, rfl, _⟩ := line_inv hd
  obtain ⟨t, ys, rfl, hy, hdd⟩ := dpT h
  obtain ⟨v0, _, rfl, h0, hdd⟩ := dpC hdd
  obtain ⟨v1, _, rfl, h1, hdd⟩ := dpC hdd
  obtain ⟨v2, _, rfl, h2, hdd⟩ := dpC hdd
  obtain ⟨v3, _, rfl, h3, hdd⟩ := dpC hdd
  obtain ⟨v4, _, rfl, h4, hdd⟩ := dpC hdd
  obtain rfl := dpN hdd
  obtain ⟨g, zs, rfl, hz, hzz⟩ := dpT h3
  obtain ⟨w0, _, rfl, k0, hzz⟩ := dpC hzz
  obtain ⟨w1, _, rfl, k1, hzz⟩ := dpC hzz
  obtain ⟨w2, _, rfl, k2, hzz⟩ := dpC hzz
  obtain rfl := dpN hzz
  obtain ⟨l, xs, rfl, hl, hxs⟩ := dpL h4
  rw [dpS h0, dpI h1, dpB h2] at hy
  rw [dpI k0, dpI k1, dpI k2] at hz
  exact ⟨t, g, l, xs, rfl, hy, hz, hl, hxs⟩
theorem lineM_new (d : PyData) : (lineM d).let_by = [] ∧ (lineM d).shut = 0 ∧ (lineM d).since = none ∧ (lineM d).fresh = false ∧ ((lineM d).c0 = 0 ∧ (lineM d).c1 = 0 ∧ (lineM d).c2 = 0 ∧ (lineM d).c3 = 0) ∧ (lineM d).longest = 0 := by
  unfold lineM
  split <;> exact ⟨rfl, rfl, rfl, rfl, ⟨rfl, rfl, rfl, rfl⟩, rfl⟩
theorem perm9 {α : Type} (l d r b k p t a w : α) : [l, d, r, b, k, p, t, a, w].Perm [a, w, t, p, k, b, r, d, l] := by
  have z : [l, d, r, b, k, p, t, a, w] = [l, d, r, b, k, p, t] ++ [a, w] := rfl
  have y : [a, w, t, p, k, b, r, d, l] = [a, w] ++ [l, d, r, b, k, p, t].reverse := rfl
  rw [z, y]
  exact List.perm_append_comm.trans ((List.reverse_perm _).symm.append_left _)
def spEngNew (K : PySem.W.Frag) : Sp := fun vs H Q _ => ∃ (G : Hp) (F : List (Addr × HO)) (a dx p : Addr) (R B T : List PyData), vs = [.ref a, .ref p] ∧ Own G H ((a, .ins (g_Engine K) dx []) :: F) ∧ PlanAt K G p R B T ∧ planOkD (.list R) (.list B) (.list T) = true ∧
  ∀ (e : EngG) H', e.m = newEng R B T → e.a = a → e.plan = p → EngK K G e → Own G H' (e.obs K ++ F) → Q .non H'
theorem ok_Engine_init (T : Txt w K mg) : FnOk P w K mg base CX0 3 (f_Engine_init K) (fdAt K (f_Engine_init K)) ["self", "plan"] (spEngNew K) := by
  refine (df_Engine_init T).ok sc_Engine_init (fun vs H Q E h => ?_) (fun cdv A outer s H vs Q E hr h => ?_)
  · obtain ⟨_, _, _, _, _, _, _, _, rfl, _⟩ := h
    rfl
  · obtain ⟨G, F, a, dx, p, R, B, Td, rfl, o, hp, hok, q⟩ := h
    refine ⟨_, PSs.nox ((pss_cons (ps_fldK (K := K) rfl (pv 0) (pv 1))
      (pss_cons (ps_fldK (K := K) rfl (pv 0) (pe_lc (own := [("told", 2)]) (g := gName 2) (tt := tYes) rfl sc_Engine_init.nd (pi_listK (K := K) rfl (pe_fldK (K := K) rfl (pv 1) rfl)) (blkOk_by (N := ["self", "plan", "told"]) (sc := defScope s_Engine_init) (by decide +kernel)) (fun _ _ _ _ _ => pg_name (i := 2) sc_Engine_init.nd rfl (Or.inl rfl)) (fun _ _ _ _ _ => pts_nil) (fun _ _ _ _ _ => (pe_make (mk_Line T) (ok_Line_init T) (hr.mono (by decide)) rfl (gl_Line T) (bi_Line_init T) .nil pass0 (pa_cons (pv 2) pa_nil)))))
      (pss_cons (ps_fldK (K := K) rfl (pv 0) (pe_lst pa_nil))
      (pss_cons (ps_fldK (K := K) rfl (pv 0) pe_non)
      (pss_cons (ps_fldK (K := K) rfl (pv 0) (pe_lst pa_nil))
      (pss_cons (ps_fldK (K := K) rfl (pv 0) (pe_dc (own := [("told", 2)]) (g := gName 2) (tt := tYes) rfl sc_Engine_init.nd (pi_listK (K := K) rfl (pe_fldK (K := K) rfl (pv 1) rfl)) (blkOk_by (N := ["self", "plan", "told"]) (sc := defScope s_Engine_init) (by decide +kernel)) (fun _ _ _ _ _ => pg_name (i := 2) sc_Engine_init.nd rfl (Or.inl rfl)) (fun _ _ _ _ _ => pts_nil) (fun _ _ _ _ _ => (pe_ix (ix_tupK (K := K) rfl) (pv 2) pe_int (fun _ _ => rfl))) (fun _ _ _ _ _ => pe_int)))
      (pss_cons (ps_fldK (K := K) rfl (pv 0) (pe_lst pa_nil))
      (pss_cons (ps_fldK (K := K) rfl (pv 0) pe_int)
      (pss_cons (ps_fldK (K := K) rfl (pv 0) pe_int)
      (pss_cons (ps_fldK (K := K) rfl (pv 0) (pe_lst pa_nil))
      (pss_cons (ps_fldK (K := K) rfl (pv 0) (pe_lst pa_nil))
      (pss_one (ps_fldK (K := K) rfl (pv 0) (pe_lst pa_nil))))))))))))))), ?_⟩
    have pl := plan_parts hok
    have hp' := hp
    obtain ⟨pdx, r1, r2, r3, x1, x2, x3, hp0, ⟨hr1, hd1⟩, _, hr3, hd3⟩ := hp'
    refine q_fld (v := .ref p) o 0 rfl (ev_var rfl) (ev_var rfl) (cl_Engine T) (na_Engine_plan T) (by show (0 : Nat) < 1000; decide) fun H1 o1 => ?_
    -- the lines
    let L : List (Addr × HO) := (a, .ins (g_Engine K) dx [("plan", .ref p)]) :: F
    have o1 : Own G H1 L := o1
    let Pv : Addr → Nat → Hp → Prop := fun D i H' => ∃ acc : List LineG, Own G H' ((D, .lst (acc.map refL)) :: (acc.flatMap (LineG.obs K) ++ L)) ∧ acc.map (·.m) = (R.take i).map lineM ∧ ∀ l ∈ acc, LineK K G l
    have hlen := dpLen hd1
    have waysQ : ∀ Qw : VK, (∀ D H' (acc : List LineG), Own G H' ((D, .lst (acc.map refL)) :: (acc.flatMap (LineG.obs K) ++ L)) → acc.map (·.m) = R.map lineM → (∀ l ∈ acc, LineK K G l) → Qw (.ref D) H') →
        tLc (iList K (tFld K (tVar 1) (Str.ofString "row"))) (gName 2) tYes (tMake (g_Line K) (spLineNew K) [] E0 (tCons (tVar 2) tNil)) [2] [some (.ref a), some (.ref p), none] H1 Qw := fun Qw qw => by
      refine ⟨.ref p, rfl, p, _, pdx, _, _, rfl, o1.sub _ _ hp0, cl_Plan T, na_Plan_row T, rfl, r1, rfl, ⟨x1, sq_of (o1.sub _ _ hr1)⟩, fun D hD => lc_list (xs := x1) (Pv D) ⟨[], Own.new o1 hD, rfl, fun _ z => nomatch z⟩ (fun i H' _ h => ?_) (fun i x H' hx h => ⟨rfl, ?_⟩) (fun H' h => ?_)⟩
      · obtain ⟨acc, o2, _⟩ := h
        exact sq_of (o2.sub _ _ hr1)
      · obtain ⟨acc, o2, m2, k2⟩ := h
        obtain ⟨d, hd, hdp⟩ := daG hd1 hx
        have hdR : d ∈ R := List.mem_of_getElem? hd
        obtain ⟨t, g, l, ls, rfl, ht, hg, hl, hls⟩ := line_at hdp (pl.oR d hdR)
        refine ⟨.ref t, rfl, fun y dy ny ndy hne => ?_⟩
        let L0 : LineG := { a := y, dx := dy, lb := 0, ct := 0, guard := .ref g, top := .ref l, m := lineM d }
        refine ⟨G, _, L0, t, rfl, Own.new (o2.same (Ex.new ndy)) (by rw [upd_ne (Ne.symm hne)]; exact ny), ?_, lineM_new d, fun lb ct H2 o3 => ⟨rfl, acc.map refL, ?_, ?_, acc ++ [{ L0 with lb := lb, ct := ct }], ?_, ?_, ?_⟩⟩
        · refine sT ?_ (sT o2.sub ht)
          exact (Ex.new ndy).trans (Ex.new (by rw [upd_ne (Ne.symm hne)]; exact ny))
        · exact oi2 3 o3 rfl
        · have z := congrArg List.length m2
          simp only [List.length_map, List.length_take] at z
          have := pl.lR
          rw [List.length_map, sizeLine_eq]
          omega
        · have o4 := own_set (o' := .lst (acc.map refL ++ [.ref y])) o3 (n := 3) rfl
          have z : (acc ++ [({ L0 with lb := lb, ct := ct } : LineG)]).map refL = acc.map refL ++ [.ref y] := by rw [List.map_append]; rfl
          have z2 : (acc ++ [({ L0 with lb := lb, ct := ct } : LineG)]).flatMap (LineG.obs K) ++ L = acc.flatMap (LineG.obs K) ++ (({ L0 with lb := lb, ct := ct } : LineG).obs K ++ L) := by simp [List.append_assoc]
          rw [z, z2]
          have o5 : Own G _ (({ L0 with lb := lb, ct := ct } : LineG).obs K ++ ((D, .lst (acc.map refL ++ [.ref y])) :: (acc.flatMap (LineG.obs K) ++ L))) := o4
          refine o5.perm ?_
          refine List.perm_middle.trans (List.Perm.cons _ ?_)
          rw [← List.append_assoc, ← List.append_assoc]
          exact (List.perm_append_comm).append_right L
        · rw [List.map_append, m2, List.take_add_one, hd, List.map_append]
          rfl
        · intro l' hl'
          rcases List.mem_append.mp hl' with hl' | hl'
          · exact k2 l' hl'
          · rw [List.mem_singleton.mp hl']
            exact ⟨⟨g, rfl, hg⟩, l, ls, rfl, hl, hls⟩
      · obtain ⟨acc, o2, m2, k2⟩ := h
        rw [hlen, List.take_length] at m2
        exact qw D H' acc o2 m2 k2
    refine q_fldQ (fun v H2 => ∃ D acc, v = .ref D ∧ Own G H2 ((D, .lst (acc.map refL)) :: (acc.flatMap (LineG.obs K) ++ L)) ∧ acc.map (·.m) = R.map lineM ∧ ∀ l ∈ acc, LineK K G l) (fun Q1 k1 => waysQ Q1 fun D H2 acc o2 m2 k2 => k1 _ _ ⟨D, acc, rfl, o2, m2, k2⟩) fun v H2 hM => ?_
    obtain ⟨D, acc, rfl, o2, m2, k2⟩ := hM
    have o2p : Own G H2 ((a, .ins (g_Engine K) dx [("plan", .ref p)]) :: (D, .lst (acc.map refL)) :: (acc.flatMap (LineG.obs K) ++ F)) := o2.perm (by
      refine (List.Perm.cons _ List.perm_middle).trans (List.Perm.swap _ _ _))
    refine q_fld (v := .ref D) o2p 0 rfl ev_k (ev_var rfl) (cl_Engine T) (na_Engine_ways T) (by show (1 : Nat) < 1000; decide) fun H3 o3 => ?_
    refine q_fldL (xs := []) o3 0 rfl (el_lst ea_nil (by decide)) (ev_var rfl) (cl_Engine T) (na_Engine_tops T) (by show (2 : Nat) < 1000; decide) fun pT H4 o4 => ?_
    refine q_fld (v := .non) o4 1 rfl ev_c (ev_var rfl) (cl_Engine T) (na_Engine_bottom T) (by show (3 : Nat) < 1000; decide) fun H5 o5 => ?_
    refine q_fldL (xs := []) o5 1 rfl (el_lst ea_nil (by decide)) (ev_var rfl) (cl_Engine T) (na_Engine_put_off T) (by show (4 : Nat) < 1000; decide) fun pP H6 o6 => ?_
    have hwk : (Td.map fun t => ((Sum.inr (nameD t) : L2.Key), V.int 0)) = (Td.map fun t => (nameD t, (0 : Int))).map fun p => ((Sum.inr p.1 : L2.Key), V.int p.2) := by rw [List.map_map]; rfl
    refine q_fldD (kvs := Td.map fun t => ((Sum.inr (nameD t) : L2.Key), V.int 0)) o6 2 rfl (ed_dc _ (ev_fl (ev_var rfl) (o6.sub _ _ hp0) (cl_Plan T) (na_Plan_late T) rfl) (sq_of (o6.sub _ _ hr3)) (by rw [List.length_map]; exact dpLen hd3) (by rw [List.length_map]; have := pl.lT; omega) ?_ (fun _ => rfl) (fun i x q hx hq => ?_)) (ev_var rfl) (cl_Engine T) (na_Engine_woken T) (by show (5 : Nat) < 1000; decide) fun pK H7 o7 => ?_
    · rw [List.map_map]
      show (Td.map fun t => (Sum.inr (nameD t) : L2.Key)).Nodup
      have z := pl.nT
      have e : (Td.map fun t => (Sum.inr (nameD t) : L2.Key)) = (Td.map nameD).map Sum.inr := by rw [List.map_map]; rfl
      rw [e]
      exact List.pairwise_map.mpr (z.imp fun h e => h (Sum.inr.inj e))
    · obtain ⟨d, hd, hdp⟩ := daG hd3 hx
      rw [List.getElem?_map, hd] at hq
      cases hq
      obtain ⟨n, r, ss, rfl, _⟩ := thread_inv (pl.oT d (List.mem_of_getElem? hd))
      obtain ⟨t, ys, rfl, hy, hdd⟩ := dpT hdp
      obtain ⟨v0, _, rfl, h0, hdd⟩ := dpC hdd
      rw [dpS h0] at hy
      exact ⟨ev_op (ev_var rfl) ev_c (rv_ixT (sT o6.sub hy) at0), ev_c⟩
    · rw [hwk] at o7
      refine q_fldL (xs := []) o7 3 rfl (el_lst ea_nil (by decide)) (ev_var rfl) (cl_Engine T) (na_Engine_begun T) (by show (6 : Nat) < 1000; decide) fun pB H8 o8 => ?_
      refine q_fld (v := .int 0) o8 4 rfl ev_c (ev_var rfl) (cl_Engine T) (na_Engine_depth T) (by show (7 : Nat) < 1000; decide) fun H9 o9 => ?_
      refine q_fld (v := .int 0) o9 4 rfl ev_c (ev_var rfl) (cl_Engine T) (na_Engine_now T) (by show (8 : Nat) < 1000; decide) fun HA oA => ?_
      refine q_fldL (xs := []) oA 4 rfl (el_lst ea_nil (by decide)) (ev_var rfl) (cl_Engine T) (na_Engine_row T) (by show (9 : Nat) < 1000; decide) fun pR HB oB => ?_
      refine q_fldL (xs := []) oB 5 rfl (el_lst ea_nil (by decide)) (ev_var rfl) (cl_Engine T) (na_Engine_depths T) (by show (10 : Nat) < 1000; decide) fun pD HC oC => ?_
      refine s_fldL (xs := []) oC 6 rfl (el_lst ea_nil (by decide)) (ev_var rfl) (cl_Engine T) (na_Engine_last_begun T) (by show (11 : Nat) < 1000; decide) fun pL HD oD => ?_
      let e : EngG := { a := a, dx := dx, plan := p, aW := D, aT := pT, aP := pP, aK := pK, aB := pB, aR := pR, aD := pD, aL := pL, R := R, B := B, T := Td, ways := acc, tops := [], bottom := none, put := [], woken := Td.map fun t => (nameD t, 0), begun := [], depth := 0, now := 0, row := [], rowD := [], depths := [], last := [] }
      refine q e HD ?_ rfl rfl ⟨hp, k2, fun _ z => (nomatch z), fun _ z => (nomatch z), fun _ z => (nomatch z), .nil⟩ ?_
      · show EngG.m e = _
        unfold EngG.m newEng
        dsimp only [e]
        rw [m2]
        rfl
      · let A1 : Addr × HO := (a, .ins (g_Engine K) dx e.fs)
        have oD : Own G HD ([(pL, .lst []), (pD, .lst []), (pR, .lst []), (pB, .lst []), (pK, .dK (e.woken.map fun p => (Sum.inr p.1, V.int p.2))), (pP, .lst []), (pT, .lst []), A1, (D, .lst (acc.map refL))] ++ (acc.flatMap (LineG.obs K) ++ F)) := by
          exact oD
        have hpm : ([(pL, HO.lst []), (pD, .lst []), (pR, .lst []), (pB, .lst []), (pK, .dK (e.woken.map fun p => (Sum.inr p.1, V.int p.2))), (pP, .lst []), (pT, .lst []), A1, (D, .lst (acc.map refL))] ++ (acc.flatMap (LineG.obs K) ++ F)).Perm (e.obs K ++ F) := by
          have y : e.obs K ++ F = [A1, (D, HO.lst (acc.map refL)), (pT, .lst []), (pP, .lst []), (pK, .dK (e.woken.map fun p => (Sum.inr p.1, V.int p.2))), (pB, .lst []), (pR, .lst []), (pD, .lst []), (pL, .lst [])] ++ (acc.flatMap (LineG.obs K) ++ F) := by
            unfold EngG.obs EngG.head
            dsimp only [e]
            simp [optJ]
            rfl
          rw [y]
          refine List.Perm.append_right _ ?_
          exact perm9 _ _ _ _ _ _ _ _ _
        exact oD.perm hpm
end
end KW
end
section
set_option Elab.async false
set_option linter.all false
set_option autoImplicit false
set_option maxRecDepth 100000
set_option maxHeartbeats 1000000
/-! parts of what is owned; a list of twins -/
namespace KW
open PySem PySem.Spec PyProof.Rows L2 He KR Evl
theorem pm_of {l1 l2 : List (Addr × HO)} (h : ∀ (b : BEq (Addr × HO)) (x : Addr × HO), @List.count _ b x l1 = @List.count _ b x l2) : l1.Perm l2 := by
  classical
  rw [List.perm_iff_count]
  exact fun x => h _ x
section
variable {K : PySem.W.Frag}
/-- an engine's objects, part by part -/
def EngG.pW (K : PySem.W.Frag) (e : EngG) : List (Addr × HO) := (e.aW, .lst (e.ways.map refL)) :: e.ways.flatMap (LineG.obs K)
def EngG.pT (K : PySem.W.Frag) (e : EngG) : List (Addr × HO) := (e.aT, .lst (e.tops.map refJ)) :: e.tops.map (JobG.ob K)
def EngG.pB (K : PySem.W.Frag) (e : EngG) : List (Addr × HO) := (e.aB, .lst (e.begun.map refJ)) :: e.begun.map (JobG.ob K)
def dkO (p : Addr) (w : List (Str × Int)) : Addr × HO := (p, .dK (w.map fun p => (Sum.inr p.1, V.int p.2)))
def EngG.pK (e : EngG) : Addr × HO := dkO e.aK e.woken
def EngG.tR (e : EngG) : List (Addr × HO) := [(e.aR, .lst e.row)] ++ ([(e.aD, .lst (e.depths.map V.int))] ++ [(e.aL, .lst (e.last.map V.str))])
def inO (p : Addr) (w : List Int) : Addr × HO := (p, .lst (w.map V.int))
def EngG.alt (K : PySem.W.Frag) (e : EngG) : List (Addr × HO) := (e.a, .ins (g_Engine K) e.dx e.fs) :: (e.pW K ++ (e.pT K ++ (e.bottom.toList.map (JobG.ob K) ++ (e.pB K ++ ([(e.aP, .lst (e.put.map V.str))] ++ ([e.pK] ++ ([(e.aR, .lst e.row)] ++ ([(e.aD, .lst (e.depths.map V.int))] ++ [(e.aL, .lst (e.last.map V.str))]))))))))
theorem alt_perm (e : EngG) : (e.obs K).Perm (e.alt K) := by
  classical
  rw [List.perm_iff_count]
  intro x
  unfold EngG.obs EngG.head EngG.alt EngG.pW EngG.pT EngG.pB EngG.pK dkO
  simp only [List.count_append, List.count_cons, List.count_nil]
  omega
variable {G H : Hp} {L A Pa P' B M : List (Addr × HO)} {ta : TE} {σ : L2.St} {a C dx : Addr} {fs : List (Str × V)} {f : Str} {v : V} {Q : L2.St → Hp → Prop}
theorem g_part (o : Own G H (P' ++ ((a, .ins C dx fs) :: (A ++ (Pa ++ B)) ++ M))) (ha : Ev ta σ H (.ref a)) (hC : Cls K C) (hn : NoAttr K C f) (hl : fs.length < 1000) (k : ∀ H1, Own G H1 ((a, .ins C dx (putF f v fs)) :: (A ++ (P' ++ B)) ++ M) → Q σ H1) : gFld K ta f v σ H Q := by
  have o1 : Own G H ((a, .ins C dx fs) :: (P' ++ ((A ++ (Pa ++ B)) ++ M))) := o.perm List.perm_middle
  refine g_fld o1 0 rfl ha hC hn hl fun H1 o2 => k H1 ?_
  have o2 : Own G H1 ((a, .ins C dx (putF f v fs)) :: (P' ++ ((A ++ (Pa ++ B)) ++ M))) := o2
  have o3 := o2.less (M := (a, .ins C dx (putF f v fs)) :: (P' ++ ((A ++ B) ++ M))) ((((List.Sublist.refl P').append (((List.Sublist.refl A).append (List.sublist_append_right Pa B)).append (List.Sublist.refl M)))).cons₂ _)
  refine o3.perm ?_
  classical
  rw [List.perm_iff_count]
  intro x
  simp only [List.count_append, List.count_cons, List.cons_append]
  omega
theorem q_part {tz : TS} {D : Ends} (o : Own G H (P' ++ ((a, .ins C dx fs) :: (A ++ (Pa ++ B)) ++ M))) (ha : Ev ta σ H (.ref a)) (hC : Cls K C) (hn : NoAttr K C f) (hl : fs.length < 1000) (k : ∀ H1, Own G H1 ((a, .ins C dx (putF f v fs)) :: (A ++ (P' ++ B)) ++ M) → tz D σ H1) : tSeq (sFld K ta (fun _ H Q => Q v H) f) tz D σ H := g_part (Q := fun σ H => tz D σ H) o ha hC hn hl k
theorem lc_twin {α β : Type} (as : List α) (rf : α → V) (ob : α → List (Addr × HO)) (f : α → β) {tl te : TE} {j : Nat} {vs : List Nat} (hl : Ev tl σ H (.ref a)) (o : Own G H L) (ha : (a, HO.lst (as.map rf)) ∈ L) (hz : as.length ≤ 1000) (hw : ∀ x, wipe ((wipe σ vs).set j (some x)) vs = wipe σ vs) (hL : ∀ x ∈ as, ∃ rest, L.Perm (ob x ++ rest))
    (ht : ∀ x ∈ as, ∀ H' M, Own G H' (ob x ++ M) → ∀ Q : VK, (∀ y H'', f y = f x → Own G H'' (ob y ++ (ob x ++ M)) → Q (rf y) H'') → te ((wipe σ vs).set j (some (rf x))) H' Q)
    (Q : VK) (q : ∀ D H' (bs : List α), Own G H' ((D, .lst (bs.map rf)) :: (bs.flatMap ob ++ L)) → bs.map f = as.map f → Q (.ref D) H') : tLc (iList K tl) (gName j) tYes te vs σ H Q := hl H (Ex.refl _) _ fun H1 e1 => by
  have o1 := o.same e1
  let Pv : Addr → Nat → Hp → Prop := fun D i H' => ∃ bs : List α, Own G H' ((D, .lst (bs.map rf)) :: (bs.flatMap ob ++ L)) ∧ bs.map f = (as.take i).map f
  refine ⟨a, rfl, ⟨_, sq_of (o1.get ha)⟩, fun D hD => lc_list (xs := as.map rf) (Pv D) ⟨[], Own.new o1 hD, rfl⟩ (fun i H' _ h => ?_) (fun i x H' hx h => ⟨hw x, ?_⟩) (fun H' h => ?_)⟩
  · obtain ⟨bs, o2, _⟩ := h
    exact sq_of (o2.get (List.mem_cons_of_mem _ (List.mem_append_right _ ha)))
  · obtain ⟨bs, o2, m2⟩ := h
    rw [List.getElem?_map] at hx
    cases hax : as[i]? with
    | none => rw [hax] at hx; cases hx
    | some y =>
      rw [hax] at hx
      cases hx
      have hm := List.mem_of_getElem? hax
      obtain ⟨rest, hp⟩ := hL y hm
      have o3 : Own G H' (ob y ++ (((D, .lst (bs.map rf)) :: bs.flatMap ob) ++ rest)) := by
        have hp2 : ((D, HO.lst (bs.map rf)) :: (bs.flatMap ob ++ L)).Perm ((((D, HO.lst (bs.map rf)) :: bs.flatMap ob)) ++ (ob y ++ rest)) := List.Perm.append_left ((D, HO.lst (bs.map rf)) :: bs.flatMap ob) hp
        refine o2.perm (hp2.trans ?_)
        rw [← List.append_assoc, ← List.append_assoc]
        exact List.perm_append_comm.append_right rest
      show te _ H' _
      refine ht y hm H' _ o3 _ fun z H2 hz2 o4 => ?_
      have o5 : Own G H2 (ob z ++ ((D, .lst (bs.map rf)) :: (bs.flatMap ob ++ L))) := by
        refine o4.perm (List.Perm.append_left _ ?_)
        have hp2 : ((((D, HO.lst (bs.map rf)) :: bs.flatMap ob)) ++ (ob y ++ rest)).Perm ((D, HO.lst (bs.map rf)) :: (bs.flatMap ob ++ L)) := List.Perm.append_left ((D, HO.lst (bs.map rf)) :: bs.flatMap ob) hp.symm
        refine List.Perm.trans ?_ hp2
        rw [← List.append_assoc, ← List.append_assoc]
        exact List.perm_append_comm.append_right rest
      have hlen := congrArg List.length m2
      simp only [List.length_map, List.length_take] at hlen
      refine ⟨bs.map rf, o5.mid, by rw [List.length_map, sizeLine_eq]; omega, bs ++ [z], ?_, ?_⟩
      · have o6 := o5.upd (o' := .lst (bs.map rf ++ [rf z]))
        have y1 : (bs ++ [z]).map rf = bs.map rf ++ [rf z] := by rw [List.map_append]; rfl
        have y2 : (bs ++ [z]).flatMap ob ++ L = bs.flatMap ob ++ (ob z ++ L) := by simp
        rw [y1, y2]
        refine o6.perm (List.perm_middle.trans (List.Perm.cons _ ?_))
        rw [← List.append_assoc, ← List.append_assoc]
        exact List.perm_append_comm.append_right L
      · rw [List.map_append, m2, List.take_add_one, hax, List.map_append]
        show _ ++ [f z] = _ ++ [f y]
        rw [hz2]
  · obtain ⟨bs, o2, m2⟩ := h
    rw [List.length_map, List.take_length] at m2
    exact q D H' bs o2 m2
end
end KW
end
section
set_option Elab.async false
set_option linter.all false
set_option autoImplicit false
set_option maxRecDepth 100000
set_option maxHeartbeats 1000000
/-! engine.py: the engine's twin -/
namespace KW
open PySem PySem.Spec PyProof.Rows L2 He KR Evl
local macro_rules
  | `(tactic| walk_at "na") => `(tactic| with_reducible (first | exact cl_Line (by assumption) | exact cl_Job (by assumption) | exact cl_Engine (by assumption) | exact cl_Plan (by assumption) | exact cl_Run (by assumption) | exact cl_Bench (by assumption) | exact na_Line_name (by assumption) | exact na_Line_rank (by assumption) | exact na_Line_is_up (by assumption) | exact na_Line_guard (by assumption) | exact na_Line_top (by assumption) | exact na_Line_let_by (by assumption) | exact na_Line_shut_till (by assumption) | exact na_Line_since (by assumption) | exact na_Line_fresh (by assumption) | exact na_Line_counts (by assumption) | exact na_Line_longest (by assumption) | exact na_Job_word (by assumption) | exact na_Job_name (by assumption) | exact na_Job_rank (by assumption) | exact na_Job_steps (by assumption) | exact na_Job_masks_then (by assumption) | exact na_Job_at (by assumption) | exact na_Job_left (by assumption) | exact na_Engine_plan (by assumption) | exact na_Engine_ways (by assumption) | exact na_Engine_tops (by assumption) | exact na_Engine_bottom (by assumption) | exact na_Engine_put_off (by assumption) | exact na_Engine_woken (by assumption) | exact na_Engine_begun (by assumption) | exact na_Engine_depth (by assumption) | exact na_Engine_now (by assumption) | exact na_Engine_row (by assumption) | exact na_Engine_depths (by assumption) | exact na_Engine_last_begun (by assumption) | exact na_Plan_row (by assumption) | exact na_Plan_low (by assumption) | exact na_Plan_late (by assumption) | exact na_Run_row (by assumption) | exact na_Run_depths (by assumption) | exact na_Run_table (by assumption) | exact na_Run_longest (by assumption) | exact na_Bench_engine (by assumption) | exact na_Bench_fresh (by assumption) | exact na_Bench_told_so_far (by assumption) | exact na_Bench_rows (by assumption)))
local macro_rules
  | `(tactic| walk_at "oi") => `(tactic| first | assumption | exact oi2 0 (by assumption) rfl | exact oi2 1 (by assumption) rfl | exact oi2 2 (by assumption) rfl | exact oi2 3 (by assumption) rfl | exact oi2 4 (by assumption) rfl | exact oi2 5 (by assumption) rfl | exact oi2 6 (by assumption) rfl | exact oi2 7 (by assumption) rfl | exact oi2 8 (by assumption) rfl)
local macro_rules
  | `(tactic| walk_at "ev") => `(tactic| repeat' (first
    | exact ev_c | exact ev_var rfl | exact ea_nil | exact rv_I0 | exact ru_neg | exact eo_none
    | exact rv_eq rfl | exact rv_ne rfl
    | exact rv_ixT (by assumption) (by rfl) | exact rv_ixL (by assumption) (by rfl)
    | exact sv_q (by assumption) (by assumption) | exact sv_within (by assumption)
    | exact Or.inr (by assumption) | exact Or.inl (by assumption) | (show (_ : String) ∈ _; decide)
    | with_reducible (first | apply ev_isi | apply ev_lenS | apply ev_if' | apply et_test | apply et_B | apply et_not | apply et_and | apply et_or | apply ev_andV | apply ev_orV | apply ev_notV | apply ea_cons | apply eo_some | apply ev_fl | apply ev_op | apply ev_un | apply ev_call)
    | walk_at "na" | walk_at "oi" | (show List.lookup _ _ = _; rfl)
    | assumption
    | (with_reducible intro hh; first | exact absurd (show true = false from hh) (by decide) | exact absurd (show false = true from hh) (by decide) | clear hh)))

local macro_rules
  | `(tactic| walk_at "pm") => `(tactic| (refine pm_of fun d x => ?_; simp only [EngG.alt, EngG.tR, inO, List.count_append, List.count_cons, List.count_nil, List.cons_append]; omega))
section
variable {P : Program} {w : World} {K : PySem.W.Frag} {mg : Str → Option Value} {base : Heap}
theorem sc_Engine_twin : FnScope ["self", "found", "one", "job"] ["self"] (defScope s_Engine_twin) := ⟨rfl, rfl, rfl, by decide +kernel, rfl, by decide +kernel, by decide +kernel⟩
theorem in_perm {A O F X rest : List (Addr × HO)} (h : O.Perm (X ++ rest)) : (A ++ (O ++ F)).Perm (X ++ (rest ++ (A ++ F))) := by
  have h1 : (A ++ (O ++ F)).Perm (A ++ ((X ++ rest) ++ F)) := (h.append_right F).append_left A
  refine h1.trans ?_
  classical
  rw [List.perm_iff_count]
  intro x
  simp only [List.count_append]
  omega
theorem mem_perm {L : List (Addr × HO)} {x : Addr × HO} (h : x ∈ L) : ∃ rest, L.Perm ([x] ++ rest) := by
  obtain ⟨s, t, e⟩ := List.append_of_mem h
  exact ⟨s ++ t, by rw [e]; exact List.perm_middle⟩
theorem flat_one {α : Type} (f : α → Addr × HO) : ∀ bs : List α, bs.flatMap (fun j => [f j]) = bs.map f
  | [] => rfl
  | b :: r => by rw [List.flatMap_cons, flat_one f r]; rfl
def fL (l : LineG) : LineM × V × V := (l.m, l.guard, l.top)
def fJ (j : JobG) : JobM × V := (j.m, j.steps)
theorem fL_m {bs as : List LineG} (h : bs.map fL = as.map fL) : bs.map (·.m) = as.map (·.m) := by
  have z := congrArg (List.map (·.1)) h
  rw [List.map_map, List.map_map] at z
  exact z
theorem fJ_m {bs as : List JobG} (h : bs.map fJ = as.map fJ) : bs.map (·.m) = as.map (·.m) := by
  have z := congrArg (List.map (·.1)) h
  rw [List.map_map, List.map_map] at z
  exact z
theorem fL_K {G : Hp} {bs as : List LineG} (h : bs.map fL = as.map fL) (k : ∀ l ∈ as, LineK K G l) : ∀ l ∈ bs, LineK K G l := fun l hl => by
  have hm : fL l ∈ as.map fL := h ▸ List.mem_map_of_mem hl
  obtain ⟨l', hl', e⟩ := List.mem_map.mp hm
  have k' := k l' hl'
  have e1 : l'.m = l.m := congrArg (·.1) e
  have e2 : l'.guard = l.guard := congrArg (·.2.1) e
  have e3 : l'.top = l.top := congrArg (·.2.2) e
  exact ⟨by rw [← e1, ← e2]; exact k'.guard, by rw [← e1, ← e3]; exact k'.top⟩
theorem fJ_K {G : Hp} {bs as : List JobG} (h : bs.map fJ = as.map fJ) (k : ∀ j ∈ as, StepsK K G j.steps j.m.ss) : ∀ j ∈ bs, StepsK K G j.steps j.m.ss := fun l hl => by
  have hm : fJ l ∈ as.map fJ := h ▸ List.mem_map_of_mem hl
  obtain ⟨l', hl', e⟩ := List.mem_map.mp hm
  have k' := k l' hl'
  have e1 : l'.m = l.m := congrArg (·.1) e
  have e2 : l'.steps = l.steps := congrArg (·.2) e
  rw [← e1, ← e2]
  exact k'
theorem ob_top {e : EngG} {j : JobG} (h : j ∈ e.tops) : j.ob K ∈ e.obs K := List.mem_append_right _ (List.mem_append_right _ (List.mem_append_left _ (List.mem_map.mpr ⟨j, h, rfl⟩)))
theorem ob_thr {e : EngG} {j : JobG} (h : j ∈ e.begun) : j.ob K ∈ e.obs K := List.mem_append_right _ (List.mem_append_right _ (List.mem_append_right _ (List.mem_append_right _ (List.mem_map.mpr ⟨j, h, rfl⟩))))
theorem ob_bot {e : EngG} {j : JobG} (h : e.bottom = some j) : j.ob K ∈ e.obs K := List.mem_append_right _ (List.mem_append_right _ (List.mem_append_right _ (List.mem_append_left _ (List.mem_map.mpr ⟨j, by rw [h]; simp, rfl⟩))))
theorem mem_obs {A F : List (Addr × HO)} {e : EngG} {q : Addr × HO} (n : Nat) (h : (e.obs K ++ F)[n]? = some q) : q ∈ A ++ (e.obs K ++ F) := List.mem_append_right _ (List.mem_of_getElem? h)
def spEngTwin (K : PySem.W.Frag) : Sp := fun vs H Q _ => ∃ (G : Hp) (F : List (Addr × HO)) (e : EngG), vs = [.ref e.a] ∧ Own G H (e.obs K ++ F) ∧ EngK K G e ∧ Inv e.m ∧ (e.row.length ≤ 5000 ∧ e.depths.length ≤ 5000) ∧ ∀ (e2 : EngG) H', e2.m = { e.m with last := [] } → EngK K G e2 → e2.plan = e.plan → Own G H' (e2.obs K ++ (e.obs K ++ F)) → Q (.ref e2.a) H'
theorem ok_Engine_twin (T : Txt w K mg) : FnOk P w K mg base CX0 5 (f_Engine_twin K) (fdAt K (f_Engine_twin K)) ["self"] (spEngTwin K) := by
  refine (df_Engine_twin T).ok sc_Engine_twin (fun vs H Q E h => ?_) (fun cdv A outer s H vs Q E hr h => ?_)
  · obtain ⟨_, _, _, rfl, _⟩ := h
    rfl
  · obtain ⟨G, F, e, rfl, o, k, hinv, ⟨zr, zd⟩, q⟩ := h
    refine ⟨_, PSs.nox ((pss_cons (ps_set (i := 1) sc_Engine_twin.nd rfl (Or.inl rfl) (pe_make (mk_Engine T) (ok_Engine_init T) (hr.mono (by decide)) rfl (gl_Engine T) (bi_Engine_init T) .nil pass0 (pa_cons (pe_fldK (K := K) rfl (pv 0) rfl) pa_nil)))
      (pss_cons (ps_fldK (K := K) rfl (pv 1) (pe_lc (own := [("one", 2)]) (g := gName 2) (tt := tYes) rfl sc_Engine_twin.nd (pi_listK (K := K) rfl (pe_fldK (K := K) rfl (pv 0) rfl)) (blkOk_by (N := ["self", "found", "one", "job"]) (sc := defScope s_Engine_twin) (by decide +kernel)) (fun _ _ _ _ _ => pg_name (i := 2) sc_Engine_twin.nd rfl (Or.inl rfl)) (fun _ _ _ _ _ => pts_nil) (fun _ _ _ _ _ => (pe_meth0 (pv 2) (cl_Line T) (me_Line_twin T) (ok_Line_twin T) (hr.mono (by decide)) (bi_Line_twin T) .nil pass0))))
      (pss_cons (ps_fldK (K := K) rfl (pv 1) (pe_lc (own := [("job", 3)]) (g := gName 3) (tt := tYes) rfl sc_Engine_twin.nd (pi_listK (K := K) rfl (pe_fldK (K := K) rfl (pv 0) rfl)) (blkOk_by (N := ["self", "found", "one", "job"]) (sc := defScope s_Engine_twin) (by decide +kernel)) (fun _ _ _ _ _ => pg_name (i := 3) sc_Engine_twin.nd rfl (Or.inl rfl)) (fun _ _ _ _ _ => pts_nil) (fun _ _ _ _ _ => (pe_meth0 (pv 3) (cl_Job T) (me_Job_twin T) (ok_Job_twin T) (hr.mono (by decide)) (bi_Job_twin T) .nil pass0))))
      (pss_cons (ps_fldK (K := K) rfl (pv 1) (pe_ifExp (pt_cmp (pc_notN (pe_fldK (K := K) rfl (pv 0) rfl)) rfl) (pe_meth0 (pe_fldK (K := K) rfl (pv 0) rfl) (cl_Job T) (me_Job_twin T) (ok_Job_twin T) (hr.mono (by decide)) (bi_Job_twin T) .nil pass0) pe_non))
      (pss_cons (ps_asg (pe_tup (pa_cons (pe_callTy (call_listK (K := K) rfl) (by rfl) (fr_list T) (by decide +kernel) (pa_cons (pe_fldK (K := K) rfl (pv 0) rfl) pa_nil)) (pa_cons (pe_callTy call_dictD (by rfl) (fr_dict T) (by decide +kernel) (pa_cons (pe_fldK (K := K) rfl (pv 0) rfl) pa_nil)) pa_nil))) (pg_tupK rfl (K := K) rfl (pgs_cons (pg_fldK (K := K) rfl (pv 1)) (pgs_cons (pg_fldK (K := K) rfl (pv 1)) pgs_nil))))
      (pss_cons (ps_fldK (K := K) rfl (pv 1) (pe_lc (own := [("job", 3)]) (g := gName 3) (tt := tYes) rfl sc_Engine_twin.nd (pi_listK (K := K) rfl (pe_fldK (K := K) rfl (pv 0) rfl)) (blkOk_by (N := ["self", "found", "one", "job"]) (sc := defScope s_Engine_twin) (by decide +kernel)) (fun _ _ _ _ _ => pg_name (i := 3) sc_Engine_twin.nd rfl (Or.inl rfl)) (fun _ _ _ _ _ => pts_nil) (fun _ _ _ _ _ => (pe_meth0 (pv 3) (cl_Job T) (me_Job_twin T) (ok_Job_twin T) (hr.mono (by decide)) (bi_Job_twin T) .nil pass0))))
      (pss_cons (ps_asg (pe_tup (pa_cons (pe_fldK (K := K) rfl (pv 0) rfl) (pa_cons (pe_fldK (K := K) rfl (pv 0) rfl) pa_nil))) (pg_tupK rfl (K := K) rfl (pgs_cons (pg_fldK (K := K) rfl (pv 1)) (pgs_cons (pg_fldK (K := K) rfl (pv 1)) pgs_nil))))
      (pss_cons (ps_asg (pe_tup (pa_cons (pe_callTy (call_listK (K := K) rfl) (by rfl) (fr_list T) (by decide +kernel) (pa_cons (pe_fldK (K := K) rfl (pv 0) rfl) pa_nil)) (pa_cons (pe_callTy (call_listK (K := K) rfl) (by rfl) (fr_list T) (by decide +kernel) (pa_cons (pe_fldK (K := K) rfl (pv 0) rfl) pa_nil)) pa_nil))) (pg_tupK rfl (K := K) rfl (pgs_cons (pg_fldK (K := K) rfl (pv 1)) (pgs_cons (pg_fldK (K := K) rfl (pv 1)) pgs_nil))))
      (pss_one (ps_ret (pv 1)))))))))))), ?_⟩
    have cn := inv_counts hinv.i
    have zw : e.ways.length ≤ 1000 := by have z : e.m.ways.length = e.ways.length := List.length_map ..; omega
    have zt : e.tops.length ≤ 1000 := by have z : e.m.tops.length = e.tops.length := List.length_map ..; omega
    have zb : e.begun.length ≤ 1000 := by have z : e.m.begun.length = e.begun.length := List.length_map ..; omega
    let M : List (Addr × HO) := e.obs K ++ F
    refine q_make (vs := [.ref e.plan]) (ea_cons (ev_fl (ev_var rfl) (oi2 0 o rfl) (cl_Engine T) (na_Engine_plan T) rfl) ea_nil) fun H1 x dx e1 nx ndx hne => ?_
    refine ⟨G, M, x, dx, e.plan, e.R, e.B, e.T, rfl, Own.new ((o.same e1).same (Ex.new ndx)) (by rw [upd_ne (Ne.symm hne)]; exact nx), k.plan, hinv.i.plan, fun e0 H2 hm0 ha0 hp0 k0 o0 => ⟨rfl, ?_⟩⟩
    subst ha0
    have o1 : Own G H2 (e0.alt K ++ M) := o0.perm ((alt_perm e0).append_right M)
    -- the lines
    refine q_fldQ (fun v H3 => ∃ D bs, v = .ref D ∧ Own G H3 ((D, .lst (bs.map refL)) :: (bs.flatMap (LineG.obs K) ++ (e0.alt K ++ M))) ∧ bs.map fL = e.ways.map fL) (fun Q1 k1 => lc_twin e.ways refL (LineG.obs K) fL (ev_fl (ev_var rfl) (oi2 0 o1.right rfl) (cl_Engine T) (na_Engine_ways T) rfl) o1 (mem_obs 1 rfl) zw (fun _ => rfl) (fun x hx => ?_) (fun x hx H' M' o2 Q2 q2 => ?_) Q1 fun D H3 bs o3 m3 => k1 _ _ ⟨D, bs, rfl, o3, m3⟩) fun v H3 hM => ?_
    · obtain ⟨wa, wb, ewl⟩ := List.append_of_mem hx
      obtain ⟨rst, pf⟩ := way_focus K (e := e) ewl
      have y : ({ e with ways := wa ++ { x with m := x.m } :: wb } : EngG) = e := by
        show ({ e with ways := wa ++ x :: wb } : EngG) = _
        rw [← ewl]
      have z := pf x.m
      rw [y] at z
      exact ⟨_, in_perm z⟩
    · exact ⟨.ref x.a, rfl, x.a, x.dx, x.fs, rfl, oi2 0 o2 rfl, rfl, G, M', x, rfl, o2, fun l2 H'' h1 h2 h3 o3 => q2 l2 H'' (by show (l2.m, l2.guard, l2.top) = (x.m, x.guard, x.top); rw [h1, h2, h3]) o3⟩
    · obtain ⟨D, bs, rfl, o3, m3⟩ := hM
      refine q_part (v := .ref D) (A := []) (Pa := e0.pW K) (P' := (D, .lst (bs.map refL)) :: bs.flatMap (LineG.obs K)) o3 (ev_var rfl) (cl_Engine T) (na_Engine_ways T) (by show (12 : Nat) < 1000; decide) fun H4 o4 => ?_
      let e1 : EngG := { e0 with aW := D, ways := bs }
      have o4 : Own G H4 (e1.alt K ++ M) := o4
      -- the tops
      refine q_fldQ (fun v H3 => ∃ D bs, v = .ref D ∧ Own G H3 ((D, .lst (bs.map refJ)) :: (bs.flatMap (fun j => [JobG.ob K j]) ++ (e1.alt K ++ M))) ∧ bs.map fJ = e.tops.map fJ) (fun Q1 k1 => lc_twin e.tops refJ (fun j => [JobG.ob K j]) fJ (ev_fl (ev_var rfl) (oi2 0 o4.right rfl) (cl_Engine T) (na_Engine_tops T) rfl) o4 (mem_obs 2 rfl) zt (fun _ => rfl) (fun x hx => mem_perm (List.mem_append_right _ (List.mem_append_left _ (ob_top hx)))) (fun x hx H' M' o2 Q2 q2 => ⟨.ref x.a, rfl, x.a, x.dx, x.fs, rfl, oi2 0 o2 rfl, rfl, G, M', x, rfl, o2, fun l2 H'' h1 h2 o3 => q2 l2 H'' (by show (l2.m, l2.steps) = (x.m, x.steps); rw [h1, h2]) o3⟩) Q1 fun D H3 bs o3 m3 => k1 _ _ ⟨D, bs, rfl, o3, m3⟩) fun v H5 hM => ?_
      obtain ⟨D2, bs2, rfl, o5, m5⟩ := hM
      rw [flat_one] at o5
      refine q_part (v := .ref D2) (A := e1.pW K) (Pa := e1.pT K) (P' := (D2, .lst (bs2.map refJ)) :: bs2.map (JobG.ob K)) o5 (ev_var rfl) (cl_Engine T) (na_Engine_tops T) (by show (12 : Nat) < 1000; decide) fun H6 o6 => ?_
      let e2 : EngG := { e1 with aT := D2, tops := bs2 }
      have o6 : Own G H6 (e2.alt K ++ M) := o6
      -- the bottom
      have hbe : Ev (tFld K (tVar 0) (Str.ofString "bottom")) [some (V.ref e.a), some (V.ref e0.a), none, none] H6 (optJ e.bottom) := ev_fl (ev_var rfl) (oi2 0 o6.right rfl) (cl_Engine T) (na_Engine_bottom T) rfl
      refine q_fldQ (fun v H3 => ∃ b2 : Option JobG, v = optJ b2 ∧ Own G H3 (b2.toList.map (JobG.ob K) ++ (e2.alt K ++ M)) ∧ b2.map fJ = e.bottom.map fJ) (fun Q1 k1 => tif_of (et_B (ev_notN hbe)) (fun hb H7 e7 => ?_) (fun hb H7 e7 => ?_)) fun v H7 hM => ?_
      · cases hbt : e.bottom with
        | none => rw [hbt] at hb; cases hb
        | some j =>
          rw [hbt] at hbe
          have o7 := o6.same e7
          obtain ⟨rst, hpm⟩ := mem_perm (L := e2.alt K ++ M) (List.mem_append_right _ (List.mem_append_left _ (ob_bot (K := K) hbt)))
          refine hbe H7 e7 _ fun H8 e8 => ⟨j.a, j.dx, j.fs, rfl, ?_, rfl, G, rst, j, rfl, (o7.same e8).perm hpm, fun j2 H9 h1 h2 o9 => ?_⟩
          · exact oi2 0 ((o7.same e8).perm hpm) rfl
          · refine k1 (.ref j2.a) H9 ⟨some j2, rfl, ?_, ?_⟩
            · exact o9.perm (List.Perm.cons _ hpm.symm)
            · show some (j2.m, j2.steps) = _
              rw [hbt, h1, h2]
              rfl
      · cases hbt : e.bottom with
        | some j => rw [hbt] at hb; cases hb
        | none => exact k1 .non H7 ⟨none, rfl, o6.same e7, by rw [hbt]⟩
      · obtain ⟨b2, rfl, o7, m7⟩ := hM
        have o7 : Own G H7 (b2.toList.map (JobG.ob K) ++ ((e2.a, .ins (g_Engine K) e2.dx e2.fs) :: ((e2.pW K ++ e2.pT K) ++ (e2.bottom.toList.map (JobG.ob K) ++ (e2.pB K ++ ([(e2.aP, .lst (e2.put.map V.str))] ++ ([e2.pK] ++ ([(e2.aR, .lst e2.row)] ++ ([(e2.aD, .lst (e2.depths.map V.int))] ++ [(e2.aL, .lst (e2.last.map V.str))]))))))) ++ M)) := by
          unfold EngG.alt at o7
          simp only [List.append_assoc, List.cons_append] at o7 ⊢
          exact o7
        refine q_part (v := optJ b2) o7 (ev_var rfl) (cl_Engine T) (na_Engine_bottom T) (by show (12 : Nat) < 1000; decide) fun H8 o8 => ?_
        let e3 : EngG := { e2 with bottom := b2 }
        have o8 : Own G H8 (e3.alt K ++ M) := by
          unfold EngG.alt
          simp only [List.append_assoc, List.cons_append] at o8 ⊢
          exact o8
        -- put_off, woken
        have hP : Ev (tFld K (tVar 0) (Str.ofString "put_off")) [some (V.ref e.a), some (V.ref e0.a), none, none] H8 (.ref e.aP) := ev_fl (ev_var rfl) (oi2 0 o8.right rfl) (cl_Engine T) (na_Engine_put_off T) rfl
        refine hP H8 (Ex.refl _) _ fun H9 e9 => ⟨e.aP, _, rfl, .inl (sq_of (e9 _ _ (oi2 3 o8.right rfl))), fun p1 n1 => ?_⟩
        have o9 := Own.new (o := .lst (e.put.map V.str)) (o8.same e9) n1
        have hKk : Ev (tFld K (tVar 0) (Str.ofString "woken")) [some (V.ref e.a), some (V.ref e0.a), none, none] _ (.ref e.aK) := ev_fl (ev_var rfl) (oi2 0 (Own.right (L1 := (p1, .lst (e.put.map V.str)) :: e3.alt K) o9) rfl) (cl_Engine T) (na_Engine_woken T) rfl
        refine hKk _ (Ex.refl _) _ fun HA eA => ⟨e.aK, e.woken.map (fun p => (Sum.inr p.1, V.int p.2)), rfl, .inl (eA _ _ (oi2 4 (Own.right (L1 := (p1, .lst (e.put.map V.str)) :: e3.alt K) o9) rfl)), fun p2 n2 => ?_⟩
        have oA : Own G _ (dkO p2 e.woken :: (p1, .lst (e.put.map V.str)) :: (e3.alt K ++ M)) := Own.new (o := .dK (e.woken.map fun p => (Sum.inr p.1, V.int p.2))) (o9.same eA) n2
        refine ⟨by show 2 ≤ sizeLine; rw [sizeLine_eq]; decide, fun p3 n3 => ⟨p3, _, rfl, st_of upd_same, rfl, ?_⟩⟩
        have oB := oA.same (Ex.new (o := .tup [.ref p1, .ref p2]) n3)
        have oC : Own G _ ([(p1, .lst (e.put.map V.str))] ++ ((e3.a, .ins (g_Engine K) e3.dx e3.fs) :: ((e3.pW K ++ (e3.pT K ++ (e3.bottom.toList.map (JobG.ob K) ++ e3.pB K))) ++ ([(e3.aP, .lst (e3.put.map V.str))] ++ ([e3.pK] ++ e3.tR))) ++ (dkO p2 e.woken :: M))) := oB.perm (by walk_at "pm")
        refine ⟨_, _, rfl, g_part (v := .ref p1) oC (ev_var rfl) (cl_Engine T) (na_Engine_put_off T) (by show (12 : Nat) < 1000; decide) fun HC oD => ?_⟩
        let e4 : EngG := { e3 with aP := p1, put := e.put }
        have oD : Own G HC ([dkO p2 e.woken] ++ ((e4.a, .ins (g_Engine K) e4.dx e4.fs) :: ((e4.pW K ++ (e4.pT K ++ (e4.bottom.toList.map (JobG.ob K) ++ (e4.pB K ++ [(e4.aP, .lst (e4.put.map V.str))])))) ++ ([e4.pK] ++ e4.tR)) ++ M)) := by
          have z : Own G HC ((e4.a, .ins (g_Engine K) e4.dx e4.fs) :: ((e4.pW K ++ (e4.pT K ++ (e4.bottom.toList.map (JobG.ob K) ++ e4.pB K))) ++ ([(e4.aP, .lst (e4.put.map V.str))] ++ ([e4.pK] ++ e4.tR))) ++ (dkO p2 e.woken :: M)) := oD
          exact z.perm (by walk_at "pm")
        refine ⟨_, _, rfl, g_part (v := .ref p2) oD (ev_var rfl) (cl_Engine T) (na_Engine_woken T) (by show (12 : Nat) < 1000; decide) fun HD oE => ⟨rfl, ?_⟩⟩
        let e5 : EngG := { e4 with aK := p2, woken := e.woken }
        have oE : Own G HD (e5.alt K ++ M) := by
          have z : Own G HD ((e5.a, .ins (g_Engine K) e5.dx e5.fs) :: ((e5.pW K ++ (e5.pT K ++ (e5.bottom.toList.map (JobG.ob K) ++ (e5.pB K ++ [(e5.aP, .lst (e5.put.map V.str))])))) ++ ([e5.pK] ++ e5.tR)) ++ M) := oE
          exact z.perm (by walk_at "pm")
        -- begun
        refine q_fldQ (fun v H3 => ∃ D bs, v = .ref D ∧ Own G H3 ((D, .lst (bs.map refJ)) :: (bs.flatMap (fun j => [JobG.ob K j]) ++ (e5.alt K ++ M))) ∧ bs.map fJ = e.begun.map fJ) (fun Q1 k1 => lc_twin e.begun refJ (fun j => [JobG.ob K j]) fJ (ev_fl (ev_var rfl) (oi2 0 oE.right rfl) (cl_Engine T) (na_Engine_begun T) rfl) oE (mem_obs 5 rfl) zb (fun _ => rfl) (fun x hx => mem_perm (List.mem_append_right _ (List.mem_append_left _ (ob_thr hx)))) (fun x hx H' M' o2 Q2 q2 => ⟨.ref x.a, rfl, x.a, x.dx, x.fs, rfl, oi2 0 o2 rfl, rfl, G, M', x, rfl, o2, fun l2 H'' h1 h2 o3 => q2 l2 H'' (by show (l2.m, l2.steps) = (x.m, x.steps); rw [h1, h2]) o3⟩) Q1 fun D H3 bs o3 m3 => k1 _ _ ⟨D, bs, rfl, o3, m3⟩) fun v HE hM => ?_
        obtain ⟨D3, bs3, rfl, oF, mF⟩ := hM
        rw [flat_one] at oF
        have oG : Own G HE (((D3, .lst (bs3.map refJ)) :: bs3.map (JobG.ob K)) ++ ((e5.a, .ins (g_Engine K) e5.dx e5.fs) :: ((e5.pW K ++ (e5.pT K ++ e5.bottom.toList.map (JobG.ob K))) ++ (e5.pB K ++ ([(e5.aP, .lst (e5.put.map V.str))] ++ ([e5.pK] ++ e5.tR)))) ++ M)) := oF.perm (by walk_at "pm")
        refine q_part (v := .ref D3) oG (ev_var rfl) (cl_Engine T) (na_Engine_begun T) (by show (12 : Nat) < 1000; decide) fun HF oH => ?_
        let e6 : EngG := { e5 with aB := D3, begun := bs3 }
        have oH : Own G HF (e6.alt K ++ M) := by
          have z : Own G HF ((e6.a, .ins (g_Engine K) e6.dx e6.fs) :: ((e6.pW K ++ (e6.pT K ++ e6.bottom.toList.map (JobG.ob K))) ++ (e6.pB K ++ ([(e6.aP, .lst (e6.put.map V.str))] ++ ([e6.pK] ++ e6.tR)))) ++ M) := oH
          exact z.perm (by walk_at "pm")
        -- depth, now
        refine q_unpU (xs := [.int e.depth, .int e.now]) (eu_tup (ea_cons (ev_fl (ev_var rfl) (oi2 0 oH.right rfl) (cl_Engine T) (na_Engine_depth T) rfl) (ea_cons (ev_fl (ev_var rfl) (oi2 0 oH.right rfl) (cl_Engine T) (na_Engine_now T) rfl) ea_nil)) (by show (2 : Nat) ≤ 100000; decide)) rfl fun HG eG => ?_
        refine ⟨_, _, rfl, g_fld (v := .int e.depth) (oH.same eG) 0 rfl (ev_var rfl) (cl_Engine T) (na_Engine_depth T) (by show (12 : Nat) < 1000; decide) fun HH oI => ?_⟩
        refine ⟨_, _, rfl, g_fld (v := .int e.now) oI 0 rfl (ev_var rfl) (cl_Engine T) (na_Engine_now T) (by show (12 : Nat) < 1000; decide) fun HI oJ => ⟨rfl, ?_⟩⟩
        let e7 : EngG := { e6 with depth := e.depth, now := e.now }
        have oJ : Own G HI (e7.alt K ++ M) := oJ
        -- row, depths
        have hR : Ev (tFld K (tVar 0) (Str.ofString "row")) [some (V.ref e.a), some (V.ref e0.a), none, none] HI (.ref e.aR) := ev_fl (ev_var rfl) (oi2 0 oJ.right rfl) (cl_Engine T) (na_Engine_row T) rfl
        refine hR HI (Ex.refl _) _ fun HJ eJ => ⟨e.aR, _, rfl, .inl (sq_of (eJ _ _ (oi2 6 oJ.right rfl))), fun p4 n4 => ?_⟩
        have oK := Own.new (o := .lst e.row) (oJ.same eJ) n4
        have hD : Ev (tFld K (tVar 0) (Str.ofString "depths")) [some (V.ref e.a), some (V.ref e0.a), none, none] _ (.ref e.aD) := ev_fl (ev_var rfl) (oi2 0 (Own.right (L1 := (p4, .lst e.row) :: e7.alt K) oK) rfl) (cl_Engine T) (na_Engine_depths T) rfl
        refine hD _ (Ex.refl _) _ fun HK eK => ⟨e.aD, e.depths.map V.int, rfl, .inl (sq_of (eK _ _ (oi2 7 (Own.right (L1 := (p4, .lst e.row) :: e7.alt K) oK) rfl))), fun p5 n5 => ?_⟩
        have oL : Own G _ (inO p5 e.depths :: (p4, .lst e.row) :: (e7.alt K ++ M)) := Own.new (o := .lst (e.depths.map V.int)) (oK.same eK) n5
        refine ⟨by show 2 ≤ sizeLine; rw [sizeLine_eq]; decide, fun p6 n6 => ⟨p6, _, rfl, st_of upd_same, rfl, ?_⟩⟩
        have oM := oL.same (Ex.new (o := .tup [.ref p4, .ref p5]) n6)
        have oN : Own G _ ([(p4, .lst e.row)] ++ ((e7.a, .ins (g_Engine K) e7.dx e7.fs) :: ((e7.pW K ++ (e7.pT K ++ (e7.bottom.toList.map (JobG.ob K) ++ (e7.pB K ++ ([(e7.aP, .lst (e7.put.map V.str))] ++ [e7.pK]))))) ++ ([(e7.aR, .lst e7.row)] ++ ([(e7.aD, .lst (e7.depths.map V.int))] ++ [(e7.aL, .lst (e7.last.map V.str))]))) ++ (inO p5 e.depths :: M))) := oM.perm (by walk_at "pm")
        refine ⟨_, _, rfl, g_part (v := .ref p4) oN (ev_var rfl) (cl_Engine T) (na_Engine_row T) (by show (12 : Nat) < 1000; decide) fun HL oO => ?_⟩
        let e8 : EngG := { e7 with aR := p4, row := e.row, rowD := e.rowD }
        have oP : Own G HL ([inO p5 e.depths] ++ ((e8.a, .ins (g_Engine K) e8.dx e8.fs) :: ((e8.pW K ++ (e8.pT K ++ (e8.bottom.toList.map (JobG.ob K) ++ (e8.pB K ++ ([(e8.aP, .lst (e8.put.map V.str))] ++ ([e8.pK] ++ [(e8.aR, .lst e8.row)])))))) ++ ([(e8.aD, .lst (e8.depths.map V.int))] ++ [(e8.aL, .lst (e8.last.map V.str))])) ++ M)) := by
          have z : Own G HL ((e8.a, .ins (g_Engine K) e8.dx e8.fs) :: ((e8.pW K ++ (e8.pT K ++ (e8.bottom.toList.map (JobG.ob K) ++ (e8.pB K ++ ([(e8.aP, .lst (e8.put.map V.str))] ++ [e8.pK]))))) ++ ([(e8.aR, .lst e8.row)] ++ ([(e8.aD, .lst (e8.depths.map V.int))] ++ [(e8.aL, .lst (e8.last.map V.str))]))) ++ (inO p5 e.depths :: M)) := oO
          exact z.perm (by walk_at "pm")
        refine ⟨_, _, rfl, g_part (v := .ref p5) oP (ev_var rfl) (cl_Engine T) (na_Engine_depths T) (by show (12 : Nat) < 1000; decide) fun HM oQ => ⟨rfl, ?_⟩⟩
        let e9 : EngG := { e8 with aD := p5, depths := e.depths }
        have oQ : Own G HM (e9.alt K ++ M) := by
          have z : Own G HM ((e9.a, .ins (g_Engine K) e9.dx e9.fs) :: ((e9.pW K ++ (e9.pT K ++ (e9.bottom.toList.map (JobG.ob K) ++ (e9.pB K ++ ([(e9.aP, .lst (e9.put.map V.str))] ++ ([e9.pK] ++ [(e9.aR, .lst e9.row)])))))) ++ ([(e9.aD, .lst (e9.depths.map V.int))] ++ [(e9.aL, .lst (e9.last.map V.str))])) ++ M) := oQ
          exact z.perm (by walk_at "pm")
        refine s_ret (ev_var rfl) fun HN eN => q e9 HN ?_ ⟨?_, fL_K m3 k.ways, fJ_K m5 k.tops, fun j hj => ?_, fJ_K mF k.begun, k.row⟩ hp0 ((oQ.perm ((alt_perm e9).symm.append_right M)).same eN)
        · have hR0 : e0.R = e.R := congrArg EngM.R hm0
          have hB0 : e0.B = e.B := congrArg EngM.B hm0
          have hT0 : e0.T = e.T := congrArg EngM.T hm0
          have hl0 : e0.last = [] := congrArg EngM.last hm0
          have hb2 : b2.map (·.m) = e.bottom.map (·.m) := by
            cases b2 with
            | none =>
              cases hbt : e.bottom with
              | none => rfl
              | some j => rw [hbt] at m7; cases m7
            | some j2 =>
              cases hbt : e.bottom with
              | none => rw [hbt] at m7; cases m7
              | some j =>
                rw [hbt] at m7
                have z := Option.some.inj m7
                exact congrArg some (congrArg (·.1) z)
          show EngG.m e9 = _
          unfold EngG.m
          dsimp only [e9, e8, e7, e6, e5, e4, e3, e2, e1]
          rw [fL_m m3, fJ_m m5, fJ_m mF, hb2, hR0, hB0, hT0, hl0]
        · show PlanAt K G e0.plan e0.R e0.B e0.T
          rw [hp0]
          have hR0 : e0.R = e.R := congrArg EngM.R hm0
          have hB0 : e0.B = e.B := congrArg EngM.B hm0
          have hT0 : e0.T = e.T := congrArg EngM.T hm0
          rw [hR0, hB0, hT0]
          exact k.plan
        · have hj : b2 = some j := hj
          rw [hj] at m7
          cases hbt : e.bottom with
          | none => rw [hbt] at m7; cases m7
          | some j' =>
            rw [hbt] at m7
            have z := Option.some.inj m7
            have e1 : j.m = j'.m := congrArg (·.1) z
            have e2 : j.steps = j'.steps := congrArg (·.2) z
            rw [e1, e2]
            exact k.bottom j' hbt
end
end KW
end
section
set_option Elab.async false
set_option linter.all false
set_option autoImplicit false
set_option maxRecDepth 100000
set_option maxHeartbeats 400000
/-! plans as data: what == asks of them -/
namespace KW
open PySem
def LayD (d : PyData) (n : Nat) : Prop := d.canLay0 = true ∧ d.depth ≤ n
theorem lay_all {xs : List PyData} {n : Nat} (h : ∀ x ∈ xs, LayD x n) : PyData.canLayAll0 xs = true ∧ PyData.depthAll xs ≤ n := by
  induction xs with
  | nil => exact ⟨rfl, Nat.zero_le _⟩
  | cons a r ih =>
    obtain ⟨h1, h2⟩ := ih fun x hx => h x (List.mem_cons_of_mem _ hx)
    obtain ⟨h3, h4⟩ := h a (by simp)
    refine ⟨?_, ?_⟩
    · simp only [PyData.canLayAll0, h1, h3, Bool.and_self]
    · simp only [PyData.depthAll]
      omega
theorem lay_list {xs : List PyData} {n : Nat} (h : ∀ x ∈ xs, LayD x n) : LayD (.list xs) (n + 1) := by
  obtain ⟨h1, h2⟩ := lay_all h
  refine ⟨by simp only [PyData.canLay0]; exact h1, by simp only [PyData.depth]; omega⟩
theorem lay_tup {xs : List PyData} {n : Nat} (h : ∀ x ∈ xs, LayD x n) : LayD (.tuple xs) (n + 1) := by
  obtain ⟨h1, h2⟩ := lay_all h
  refine ⟨by simp only [PyData.canLay0]; exact h1, by simp only [PyData.depth]; omega⟩
theorem lay_mono {d : PyData} {n m : Nat} (h : LayD d n) (hm : n ≤ m) : LayD d m := ⟨h.1, Nat.le_trans h.2 hm⟩
theorem lay_int (i : Int) : LayD (.int i) 0 := ⟨by simp only [PyData.canLay0], by simp only [PyData.depth]; exact Nat.le_refl _⟩
theorem lay_bool (b : Bool) : LayD (.bool b) 0 := ⟨by simp only [PyData.canLay0], by simp only [PyData.depth]; exact Nat.le_refl _⟩
theorem lay_str {x : Str} (h : PyData.strOk x = true) : LayD (.str x) 0 := ⟨by simp only [PyData.canLay0]; exact h, by simp only [PyData.depth]; exact Nat.le_refl _⟩
theorem name_ok {x : Str} (h : isNameS x = true) : PyData.strOk x = true := by
  unfold isNameS at h
  obtain ⟨_, h⟩ := band h
  have key : ∀ c ∈ letters.cps.toList, c < 0x110000 := by decide +kernel
  unfold PyData.strOk
  rw [← Array.all_toList, List.all_eq_true]
  intro c hc
  exact decide_eq_true (key c (of_decide_eq_true (List.all_eq_true.mp h c hc)))
theorem word_lay {s : PyData} (h : isStepD s = true) : LayD s 1 := by
  cases s with
  | tuple ds => match ds, h with
    | .str w :: rest, h =>
      have hw := step_word (s := .tuple (.str w :: rest)) h
      have hw : w = "mask" ∨ w = "open" ∨ w = "run" ∨ w = "answer" ∨ w = "later" ∨ w = "wake" := hw
      have hs : PyData.strOk w = true := by
        rcases hw with rfl | rfl | rfl | rfl | rfl | rfl <;> decide +kernel
      have h : isStepW w rest = true := h
      refine lay_tup fun x hx => ?_
      rcases List.mem_cons.mp hx with rfl | hx
      · exact lay_str hs
      · unfold isStepW at h
        split at h
        · rw [List.isEmpty_iff.mp h] at hx
          cases hx
        · match rest, h with
          | [r], h =>
            rw [List.mem_singleton.mp hx]
            simp only at h
            split at h
            · obtain ⟨i, rfl, _⟩ := within_inv h
              exact lay_int i
            · obtain ⟨_, h2⟩ := band h
              obtain ⟨n, rfl, hn⟩ := name_inv h2
              exact lay_str (name_ok hn)
  | _ => cases h
theorem steps_lay {ss : List PyData} (h : areStepsL ss = true) : LayD (.list ss) 2 := lay_list fun s hs => word_lay ((steps_parts h).2.1 s hs)
theorem plan_shaped {R B T : List PyData} (p : PlanP R B T) : SeqAt.shaped (.tuple [.list R, .list B, .list T]) = true := by
  have hR : LayD (.list R) 4 := lay_list fun d hd => by
    obtain ⟨n, r, u, a, b, c, ss, rfl, hn, _, _, hs⟩ := line_inv (p.oR d hd)
    refine lay_tup (n := 2) fun x hx => ?_
    simp only [List.mem_cons, List.not_mem_nil, or_false] at hx
    rcases hx with rfl | rfl | rfl | rfl | rfl
    · exact lay_mono (lay_str (name_ok hn)) (by omega)
    · exact lay_mono (lay_int _) (by omega)
    · exact lay_mono (lay_bool _) (by omega)
    · refine lay_mono (lay_tup (n := 0) fun x hx => ?_) (by omega)
      simp only [List.mem_cons, List.not_mem_nil, or_false] at hx
      rcases hx with rfl | rfl | rfl <;> exact lay_int _
    · exact steps_lay hs
  have hB : LayD (.list B) 4 := lay_list fun d hd => by
    obtain ⟨n, ss, rfl, hn, hs⟩ := bottom_inv (p.oB d hd)
    refine lay_tup (n := 2) fun x hx => ?_
    simp only [List.mem_cons, List.not_mem_nil, or_false] at hx
    rcases hx with rfl | rfl
    · exact lay_mono (lay_str (name_ok hn)) (by omega)
    · exact steps_lay hs
  have hT : LayD (.list T) 4 := lay_list fun d hd => by
    obtain ⟨n, r, ss, rfl, hn, _, hs⟩ := thread_inv (p.oT d hd)
    refine lay_tup (n := 2) fun x hx => ?_
    simp only [List.mem_cons, List.not_mem_nil, or_false] at hx
    rcases hx with rfl | rfl | rfl
    · exact lay_mono (lay_str (name_ok hn)) (by omega)
    · exact lay_mono (lay_int _) (by omega)
    · exact steps_lay hs
  have h : LayD (.tuple [.list R, .list B, .list T]) 5 := lay_tup fun x hx => by
    simp only [List.mem_cons, List.not_mem_nil, or_false] at hx
    rcases hx with rfl | rfl | rfl
    · exact hR
    · exact hB
    · exact hT
  unfold SeqAt.shaped
  rw [h.1, decide_eq_true (Nat.le_trans h.2 (by decide))]
  rfl
end KW
end
section
set_option Elab.async false
set_option linter.all false
set_option autoImplicit false
set_option maxRecDepth 100000
set_option maxHeartbeats 1000000
/-! plans.py: what a plan tells -/
namespace KW
open PySem PySem.Spec PyProof.Rows L2 He KR Evl
local macro_rules
  | `(tactic| walk_at "na") => `(tactic| with_reducible (first | exact cl_Line (by assumption) | exact cl_Job (by assumption) | exact cl_Engine (by assumption) | exact cl_Plan (by assumption) | exact cl_Run (by assumption) | exact cl_Bench (by assumption) | exact na_Line_name (by assumption) | exact na_Line_rank (by assumption) | exact na_Line_is_up (by assumption) | exact na_Line_guard (by assumption) | exact na_Line_top (by assumption) | exact na_Line_let_by (by assumption) | exact na_Line_shut_till (by assumption) | exact na_Line_since (by assumption) | exact na_Line_fresh (by assumption) | exact na_Line_counts (by assumption) | exact na_Line_longest (by assumption) | exact na_Job_word (by assumption) | exact na_Job_name (by assumption) | exact na_Job_rank (by assumption) | exact na_Job_steps (by assumption) | exact na_Job_masks_then (by assumption) | exact na_Job_at (by assumption) | exact na_Job_left (by assumption) | exact na_Engine_plan (by assumption) | exact na_Engine_ways (by assumption) | exact na_Engine_tops (by assumption) | exact na_Engine_bottom (by assumption) | exact na_Engine_put_off (by assumption) | exact na_Engine_woken (by assumption) | exact na_Engine_begun (by assumption) | exact na_Engine_depth (by assumption) | exact na_Engine_now (by assumption) | exact na_Engine_row (by assumption) | exact na_Engine_depths (by assumption) | exact na_Engine_last_begun (by assumption) | exact na_Plan_row (by assumption) | exact na_Plan_low (by assumption) | exact na_Plan_late (by assumption) | exact na_Run_row (by assumption) | exact na_Run_depths (by assumption) | exact na_Run_table (by assumption) | exact na_Run_longest (by assumption) | exact na_Bench_engine (by assumption) | exact na_Bench_fresh (by assumption) | exact na_Bench_told_so_far (by assumption) | exact na_Bench_rows (by assumption)))
local macro_rules
  | `(tactic| walk_at "oi") => `(tactic| first | assumption | exact oi2 0 (by assumption) rfl | exact oi2 1 (by assumption) rfl | exact oi2 2 (by assumption) rfl | exact oi2 3 (by assumption) rfl | exact oi2 4 (by assumption) rfl | exact oi2 5 (by assumption) rfl | exact oi2 6 (by assumption) rfl | exact oi2 7 (by assumption) rfl | exact oi2 8 (by assumption) rfl)
local macro_rules
  | `(tactic| walk_at "ev") => `(tactic| repeat' (first
    | exact ev_c | exact ev_var rfl | exact ea_nil | exact rv_I0 | exact ru_neg | exact eo_none
    | exact rv_eq rfl | exact rv_ne rfl
    | exact rv_ixT (by assumption) (by rfl) | exact rv_ixL (by assumption) (by rfl)
    | exact sv_q (by assumption) (by assumption) | exact sv_within (by assumption)
    | exact Or.inr (by assumption) | exact Or.inl (by assumption) | (show (_ : String) ∈ _; decide)
    | with_reducible (first | apply ev_isi | apply ev_lenS | apply ev_if' | apply et_test | apply et_B | apply et_not | apply et_and | apply et_or | apply ev_andV | apply ev_orV | apply ev_notV | apply ea_cons | apply eo_some | apply ev_fl | apply ev_op | apply ev_un | apply ev_call)
    | walk_at "na" | walk_at "oi" | (show List.lookup _ _ = _; rfl)
    | assumption
    | (with_reducible intro hh; first | exact absurd (show true = false from hh) (by decide) | exact absurd (show false = true from hh) (by decide) | clear hh)))

section
variable {P : Program} {w : World} {K : PySem.W.Frag} {mg : Str → Option Value} {base : Heap}
theorem sc_Plan_names : FnScope ["self", "one"] ["self"] (defScope s_Plan_names) := ⟨rfl, rfl, rfl, by decide +kernel, rfl, by decide +kernel, by decide +kernel⟩
theorem sc_Plan_lines : FnScope ["self"] ["self"] (defScope s_Plan_lines) := ⟨rfl, rfl, rfl, by decide +kernel, rfl, by decide +kernel, by decide +kernel⟩
theorem sc_Plan_bottoms : FnScope ["self"] ["self"] (defScope s_Plan_bottoms) := ⟨rfl, rfl, rfl, by decide +kernel, rfl, by decide +kernel, by decide +kernel⟩
theorem sc_Plan_threads : FnScope ["self"] ["self"] (defScope s_Plan_threads) := ⟨rfl, rfl, rfl, by decide +kernel, rfl, by decide +kernel, by decide +kernel⟩
def spNames (K : PySem.W.Frag) : Sp := fun vs H Q _ => ∃ (p : Addr) (R B T : List PyData), vs = [.ref p] ∧ PlanAt K H p R B T ∧ PlanP R B T ∧ ∀ q H', H q = none → Ex H H' → H' q = some (.lst ((R.map nameD).map V.str)) → Q (.ref q) H'
theorem ok_Plan_names (T : Txt w K mg) : FnOk P w K mg base CX0 1 (f_Plan_names K) (fdAt K (f_Plan_names K)) ["self"] (spNames K) := by
  refine (df_Plan_names T).ok sc_Plan_names (fun vs H Q E h => ?_) (fun cdv A outer s H vs Q E hr h => ?_)
  · obtain ⟨_, _, _, _, rfl, _⟩ := h
    rfl
  · obtain ⟨p, R, B, Td, rfl, hp, pl, q⟩ := h
    refine ⟨_, PSs.nox ((pss_one (ps_ret (pe_lc (own := [("one", 1)]) (g := gName 1) (tt := tYes) rfl sc_Plan_names.nd (pi_listK (K := K) rfl (pe_fldK (K := K) rfl (pv 0) rfl)) (blkOk_by (N := ["self", "one"]) (sc := defScope s_Plan_names) (by decide +kernel)) (fun _ _ _ _ _ => pg_name (i := 1) sc_Plan_names.nd rfl (Or.inl rfl)) (fun _ _ _ _ _ => pts_nil) (fun _ _ _ _ _ => (pe_ix (ix_tupK (K := K) rfl) (pv 1) pe_int (fun _ _ => rfl))))))), ?_⟩
    obtain ⟨dx, r1, r2, r3, x1, x2, x3, h0, ⟨h1, d1⟩, _, _, _⟩ := hp
    refine s_retL (el_lcD (K := K) (fun d => V.str (nameD d)) (ev_fl (ev_var rfl) h0 (cl_Plan T) (na_Plan_row T) rfl) (sq_of h1) d1 (by have := dpLen d1; have := pl.lR; omega) (fun _ => rfl) fun x d hm hd => ?_) fun q' H1 hn e1 hq => q q' H1 hn e1 (by rw [hq, List.map_map]; rfl)
    obtain ⟨n, r, u, a, b, c, ss, rfl, _⟩ := line_inv (pl.oR d hm)
    obtain ⟨t, ys, rfl, hy, hdd⟩ := dpT hd
    obtain ⟨v0, _, rfl, h0', _⟩ := dpC hdd
    rw [dpS h0'] at hy
    exact ev_op (ev_var rfl) ev_c (rv_ixT hy at0)
/-- told lists, all anew -/
def spTold (K : PySem.W.Frag) (f : List PyData → List PyData → List PyData → List PyData) : Sp := fun vs H Q _ => ∃ (p : Addr) (R B T : List PyData) (G : Hp) (L : List (Addr × HO)), vs = [.ref p] ∧ PlanAt K G p R B T ∧ PlanP R B T ∧ Own G H L ∧
  ∀ q G' H' ys cs, Same G G' → Own G' H' ((q, .lst ys) :: (cs ++ L)) → Tl K G' ys (f R B T) cs → Q (.ref q) H'
theorem told_copy {G H : Hp} {L : List (Addr × HO)} {te : TE} {σ : L2.St} {ds : List PyData} {r : Addr} {xs : List V} {E : XK} {Q : VK} (h : Ev te σ H (.ref r)) (o : Own G H L) (hr : G r = some (.lst xs)) (hd : DpAll K G xs ds) (hl : ds.length ≤ 100) (h1 : ∀ e ∈ ds, OneD e) (h2 : ∀ e ∈ ds, CopyD e)
    (q : ∀ q G' H' ys cs, Same G G' → Own G' H' ((q, .lst ys) :: (cs ++ L)) → Tl K G' ys ds cs → Q (.ref q) H') : tCall (spCopied K) [] E (tCons te tNil) σ H Q := h H (Ex.refl _) _ fun H1 e1 => by
  have o1 := o.same e1
  exact ⟨.ref r, r, xs, ds, G, L, rfl, rfl, .inl (sq_of (o1.sub _ _ hr)), o1, in_mono (Same.refl _) o1.sub (in_of (Same.refl _) hd h1), hl, h2, fun p G' H' ys cs s1 _ _ o2 t => q p G' H' ys cs s1 o2 t⟩
theorem ok_Plan_lines (T : Txt w K mg) : FnOk P w K mg base CX0 2 (f_Plan_lines K) (fdAt K (f_Plan_lines K)) ["self"] (spTold K fun R _ _ => R) := by
  refine (df_Plan_lines T).ok sc_Plan_lines (fun vs H Q E h => ?_) (fun cdv A outer s H vs Q E hr h => ?_)
  · obtain ⟨_, _, _, _, _, _, rfl, _⟩ := h
    rfl
  · obtain ⟨p, R, B, Td, G, L, rfl, hp, pl, o, q⟩ := h
    refine ⟨_, PSs.nox ((pss_one (ps_ret (pe_call (ok_copied T) (hr.mono (by decide)) rfl (gl_copied T) (df_copied T).kp (bi_copied T) .nil pass0 (pa_cons (pe_fldK (K := K) rfl (pv 0) rfl) pa_nil))))), ?_⟩
    obtain ⟨dx, r1, r2, r3, x1, x2, x3, h0, ⟨h1, d1⟩, _, _, _⟩ := hp
    exact told_copy (ev_fl (ev_var rfl) (o.sub _ _ h0) (cl_Plan T) (na_Plan_row T) rfl) o h1 d1 (by have := pl.lR; omega) (fun e he => (one_line (pl.oR e he)).2.1) (fun e he => (one_line (pl.oR e he)).2.2.1) q
theorem ok_Plan_bottoms (T : Txt w K mg) : FnOk P w K mg base CX0 2 (f_Plan_bottoms K) (fdAt K (f_Plan_bottoms K)) ["self"] (spTold K fun _ B _ => B) := by
  refine (df_Plan_bottoms T).ok sc_Plan_bottoms (fun vs H Q E h => ?_) (fun cdv A outer s H vs Q E hr h => ?_)
  · obtain ⟨_, _, _, _, _, _, rfl, _⟩ := h
    rfl
  · obtain ⟨p, R, B, Td, G, L, rfl, hp, pl, o, q⟩ := h
    refine ⟨_, PSs.nox ((pss_one (ps_ret (pe_call (ok_copied T) (hr.mono (by decide)) rfl (gl_copied T) (df_copied T).kp (bi_copied T) .nil pass0 (pa_cons (pe_fldK (K := K) rfl (pv 0) rfl) pa_nil))))), ?_⟩
    obtain ⟨dx, r1, r2, r3, x1, x2, x3, h0, _, ⟨h1, d1⟩, _, _⟩ := hp
    exact told_copy (ev_fl (ev_var rfl) (o.sub _ _ h0) (cl_Plan T) (na_Plan_low T) rfl) o h1 d1 (by have := pl.lB; omega) (fun e he => (one_bottom (pl.oB e he)).1) (fun e he => (one_bottom (pl.oB e he)).2.1) q
theorem ok_Plan_threads (T : Txt w K mg) : FnOk P w K mg base CX0 2 (f_Plan_threads K) (fdAt K (f_Plan_threads K)) ["self"] (spTold K fun _ _ T => T) := by
  refine (df_Plan_threads T).ok sc_Plan_threads (fun vs H Q E h => ?_) (fun cdv A outer s H vs Q E hr h => ?_)
  · obtain ⟨_, _, _, _, _, _, rfl, _⟩ := h
    rfl
  · obtain ⟨p, R, B, Td, G, L, rfl, hp, pl, o, q⟩ := h
    refine ⟨_, PSs.nox ((pss_one (ps_ret (pe_call (ok_copied T) (hr.mono (by decide)) rfl (gl_copied T) (df_copied T).kp (bi_copied T) .nil pass0 (pa_cons (pe_fldK (K := K) rfl (pv 0) rfl) pa_nil))))), ?_⟩
    obtain ⟨dx, r1, r2, r3, x1, x2, x3, h0, _, _, h1, d1⟩ := hp
    exact told_copy (ev_fl (ev_var rfl) (o.sub _ _ h0) (cl_Plan T) (na_Plan_late T) rfl) o h1 d1 (by have := pl.lT; omega) (fun e he => (one_thread (pl.oT e he)).2.1) (fun e he => (one_thread (pl.oT e he)).2.2.1) q
theorem sc_Plan_parts : FnScope ["self"] ["self"] (defScope s_Plan_parts) := ⟨rfl, rfl, rfl, by decide +kernel, rfl, by decide +kernel, by decide +kernel⟩
theorem sc_Plan_eq : FnScope ["self", "other"] ["self", "other"] (defScope s_Plan_eq) := ⟨rfl, rfl, rfl, by decide +kernel, rfl, by decide +kernel, by decide +kernel⟩
/-- the parts of a plan, a new tuple -/
def spParts (K : PySem.W.Frag) : Sp := fun vs H Q _ => ∃ (p : Addr) (R B T : List PyData), vs = [.ref p] ∧ PlanAt K H p R B T ∧ PlanP R B T ∧ ∀ q H', Ex H H' → Dp K H' (.ref q) (.tuple [.list R, .list B, .list T]) → Q (.ref q) H'
theorem told_dp {G' H' : Hp} {q : Addr} {ys : List V} {ds : List PyData} {cs : List (Addr × HO)} (o : Own G' H' ((q, .lst ys) :: (cs ++ []))) (t : Tl K G' ys ds cs) : Dp K H' (.ref q) (.list ds) := by
  have o2 : Own G' H' (cs ++ []) := o.tail
  exact .lst (sq_of (o.get (List.mem_cons_self ..))) (in_da o.sub (in_tl o2 t))
theorem ok_Plan_parts (T : Txt w K mg) : FnOk P w K mg base CX0 3 (f_Plan_parts K) (fdAt K (f_Plan_parts K)) ["self"] (spParts K) := by
  refine (df_Plan_parts T).ok sc_Plan_parts (fun vs H Q E h => ?_) (fun cdv A outer s H vs Q E hr h => ?_)
  · obtain ⟨_, _, _, _, rfl, _⟩ := h
    rfl
  · obtain ⟨p, R, B, Td, rfl, hp, pl, q⟩ := h
    refine ⟨_, PSs.nox ((pss_one (ps_ret (pe_tup (pa_cons (pe_meth0 (pv 0) (cl_Plan T) (me_Plan_lines T) (ok_Plan_lines T) (hr.mono (by decide)) (bi_Plan_lines T) .nil pass0) (pa_cons (pe_meth0 (pv 0) (cl_Plan T) (me_Plan_bottoms T) (ok_Plan_bottoms T) (hr.mono (by decide)) (bi_Plan_bottoms T) .nil pass0) (pa_cons (pe_meth0 (pv 0) (cl_Plan T) (me_Plan_threads T) (ok_Plan_threads T) (hr.mono (by decide)) (bi_Plan_threads T) .nil pass0) pa_nil))))))), ?_⟩
    have hp' := hp
    obtain ⟨dx, r1, r2, r3, x1, x2, x3, h0, _⟩ := hp'
    refine ⟨.ref p, rfl, p, dx, _, rfl, h0, rfl, p, R, B, Td, H, [], rfl, hp, pl, Own.nil (Same.refl _), fun q1 G1 H1 ys1 cs1 s1 o1 t1 => ?_⟩
    have d1 := told_dp o1 t1
    have e1 : Ex H H1 := s1.trans o1.sub
    have hp1 := plan_mono e1 hp
    refine ⟨.ref p, rfl, p, dx, _, rfl, e1 _ _ h0, rfl, p, R, B, Td, H1, [], rfl, hp1, pl, Own.nil (Same.refl _), fun q2 G2 H2 ys2 cs2 s2 o2 t2 => ?_⟩
    have d2 := told_dp o2 t2
    have e2 : Ex H1 H2 := s2.trans o2.sub
    have hp2 := plan_mono e2 hp1
    refine ⟨.ref p, rfl, p, dx, _, rfl, e2 _ _ (e1 _ _ h0), rfl, p, R, B, Td, H2, [], rfl, hp2, pl, Own.nil (Same.refl _), fun q3 G3 H3 ys3 cs3 s3 o3 t3 => ?_⟩
    have d3 := told_dp o3 t3
    have e3 : Ex H2 H3 := s3.trans o3.sub
    refine ⟨by show 3 ≤ sizeLine; rw [sizeLine_eq]; decide, fun q4 n4 => ?_⟩
    have e4 : Ex H3 (upd H3 q4 (.tup [.ref q1, .ref q2, .ref q3])) := Ex.new n4
    exact q q4 _ (e1.trans (e2.trans (e3.trans e4))) (.tup (st_of upd_same) (.cons (dpM (e2.trans (e3.trans e4)) d1) (.cons (dpM (e3.trans e4) d2) (.cons (dpM e4 d3) .nil))))
def planD (R B T : List PyData) : PyData := .tuple [.list R, .list B, .list T]
/-- two plans compared -/
def spPlanEq (K : PySem.W.Frag) : Sp := fun vs H Q _ => ∃ (p p' : Addr) (R B T R' B' T' : List PyData), vs = [.ref p, .ref p'] ∧ (PlanAt K H p R B T ∧ PlanP R B T) ∧ (PlanAt K H p' R' B' T' ∧ PlanP R' B' T') ∧ ∀ H', Ex H H' → Q (.bl (PyData.eqv (planD R B T) (planD R' B' T'))) H'
theorem ok_Plan_eq (T : Txt w K mg) : FnOk P w K mg base CX0 4 (f_Plan_eq K) (fdAt K (f_Plan_eq K)) ["self", "other"] (spPlanEq K) := by
  refine (df_Plan_eq T).ok sc_Plan_eq (fun vs H Q E h => ?_) (fun cdv A outer s H vs Q E hr h => ?_)
  · obtain ⟨_, _, _, _, _, _, _, _, rfl, _⟩ := h
    rfl
  · obtain ⟨p, p', R, B, Td, R', B', T', rfl, ⟨hp, pl⟩, ⟨hp', pl'⟩, q⟩ := h
    refine ⟨_, PSs.nox ((pss_one (ps_ret (pe_and ((pe_callB (C8.call_isC (isa_Plan T)) (by rfl) (fr_isinstance T) (by decide +kernel) (pa_cons (pv 1) (pa_cons (pe_glob (v := .ref (g_Plan K)) rfl (gl_Plan T) rfl) pa_nil)))) (pe_one ((pe_cmpR (op_eqDK hr.units (K := K) rfl) (pe_meth0 (pv 0) (cl_Plan T) (me_Plan_parts T) (ok_Plan_parts T) (hr.mono (by decide)) (bi_Plan_parts T) .nil pass0) (pe_meth0 (pv 1) (cl_Plan T) (me_Plan_parts T) (ok_Plan_parts T) (hr.mono (by decide)) (bi_Plan_parts T) .nil pass0) (nomark _)))))))), ?_⟩
    obtain ⟨dx, r1, r2, r3, x1, x2, x3, h0, _⟩ := id hp
    obtain ⟨dy, _, _, _, _, _, _, h0', _⟩ := id hp'
    refine ⟨.ref p', rfl, p', dy, _, rfl, h0', true, rfl, ?_⟩
    rw [if_pos rfl]
    refine ⟨.ref p, rfl, p, dx, _, rfl, h0, rfl, p, R, B, Td, rfl, hp, pl, fun q1 H1 e1 d1 => ?_⟩
    refine ⟨.ref p', rfl, p', dy, _, rfl, e1 _ _ h0', rfl, p', R', B', T', rfl, plan_mono e1 hp', pl', fun q2 H2 e2 d2 => ?_⟩
    exact ⟨planD R B Td, planD R' B' T', dpM e2 d1, d2, plan_shaped pl, plan_shaped pl', q H2 (e1.trans e2)⟩
end
end KW
end
section
set_option Elab.async false
set_option linter.all false
set_option autoImplicit false
set_option maxRecDepth 100000
set_option maxHeartbeats 400000
/-! runs as such -/
namespace KW
open PySem EngM
structure RunM where
  row : List (Option (Str × Str))
  depths : List Int
  table : List (Str × (Int × Int × Int × Int × Int))
  longest : List (Str × Int)
def sumsM (l : LineM) : Int × Int × Int × Int × Int := (l.c0, l.c1, l.c2, l.c3, if l.since.isSome = true then 1 else 0)
def EngM.told (m : EngM) : RunM := { row := m.row, depths := m.depths, table := m.ways.map fun l => (l.name, sumsM l), longest := m.ways.map fun l => (l.name, l.longest) }
def knocksAt (kn : List (Int × Str)) (t : Int) : List Str := (kn.filter fun p => decide (p.1 = t)).map (·.2)
def runTo (e : EngM) (kn : List (Int × Str)) : Nat → EngM
  | 0 => e
  | n + 1 => (runTo e kn n).go (knocksAt kn n)
def knockD (p : Int × Str) : PyData := .tuple [.int p.1, .str p.2]
def knocksOk (ns : List Str) : Int → List (Int × Str) → Bool
  | _, [] => true
  | a, p :: r => (decide (a ≤ p.1) && decide (p.1 ≤ 500)) && (decide (p.2 ∈ ns) && knocksOk ns p.1 r)
def upTo (kn : List (Int × Str)) (n : Nat) : Nat := (kn.filter fun p => decide (0 ≤ p.1) && decide (p.1 < (n : Int))).length
theorem upTo_succ : ∀ (kn : List (Int × Str)) (n : Nat), upTo kn (n + 1) = upTo kn n + (knocksAt kn n).length
  | [], _ => rfl
  | p :: r, n => by
    have ih := upTo_succ r n
    unfold upTo knocksAt at ih ⊢
    rw [List.length_map] at ih ⊢
    by_cases h1 : p.1 = (n : Int)
    · rw [List.filter_cons_of_pos (by simp; omega), List.filter_cons_of_neg (by simp; omega), List.filter_cons_of_pos (by simp; exact h1)]
      simp only [List.length_cons]
      omega
    · by_cases h2 : 0 ≤ p.1 ∧ p.1 < (n : Int)
      · rw [List.filter_cons_of_pos (by simp; omega), List.filter_cons_of_pos (by simp; omega), List.filter_cons_of_neg (by simp; exact h1)]
        simp only [List.length_cons]
        omega
      · rw [List.filter_cons_of_neg (by simp; omega), List.filter_cons_of_neg (by simp; omega), List.filter_cons_of_neg (by simp; exact h1)]
        exact ih
theorem upTo_le (kn : List (Int × Str)) (n : Nat) : upTo kn n ≤ kn.length := List.length_filter_le ..
theorem knocksAt_le (kn : List (Int × Str)) (t : Int) : (knocksAt kn t).length ≤ kn.length := by
  unfold knocksAt
  rw [List.length_map]
  exact List.length_filter_le ..
theorem knocksOk_mem {ns : List Str} : ∀ {kn : List (Int × Str)} {a : Int}, knocksOk ns a kn = true → ∀ p ∈ kn, p.2 ∈ ns
  | [], _, _, p, h => by cases h
  | q :: r, a, h, p, hp => by
    obtain ⟨_, h2⟩ := band h
    obtain ⟨h2, h3⟩ := band h2
    rcases List.mem_cons.mp hp with rfl | hp
    · exact of_decide_eq_true h2
    · exact knocksOk_mem h3 p hp
theorem knocksAt_mem {ns : List Str} {kn : List (Int × Str)} {a t : Int} (h : knocksOk ns a kn = true) : ∀ n ∈ knocksAt kn t, n ∈ ns := fun n hn => by
  obtain ⟨p, hp, rfl⟩ := List.mem_map.mp hn
  exact knocksOk_mem h p (List.mem_filter.mp hp).1
/-- what a run has come to -/
structure RunI (R B T : List PyData) (kn : List (Int × Str)) (n : Nat) (m : EngM) : Prop where
  inv : Inv m
  same : m.R = R ∧ m.B = B ∧ m.T = T
  now : m.now = n
  row : m.row.length = n
  depths : m.depths.length = n
  lb : ∀ l ∈ m.ways, l.let_by.length ≤ upTo kn n
theorem run_i {R B T : List PyData} {kn : List (Int × Str)} (h : planOkD (.list R) (.list B) (.list T) = true) : ∀ n, RunI R B T kn n (runTo (newEng R B T) kn n)
  | 0 => ⟨inv_new h, ⟨rfl, rfl, rfl⟩, rfl, rfl, rfl, fun l hl => by
    obtain ⟨d, _, rfl⟩ := List.mem_map.mp (show l ∈ R.map lineM from hl)
    have : (lineM d).let_by = [] := by unfold lineM; split <;> rfl
    show (lineM d).let_by.length ≤ _
    rw [this]
    exact Nat.zero_le _⟩
  | n + 1 => by
    have i := run_i (kn := kn) h n
    have g := go_of i.inv (knocksAt kn n)
    refine ⟨g.inv, ⟨g.same.1.trans i.same.1, g.same.2.1.trans i.same.2.1, g.same.2.2.trans i.same.2.2⟩, ?_, ?_, ?_, ?_⟩
    · show ((runTo (newEng R B T) kn n).go (knocksAt kn n)).now = _
      rw [g.now, i.now]
      omega
    · show ((runTo (newEng R B T) kn n).go (knocksAt kn n)).row.length = _
      rw [g.row, i.row]
    · show ((runTo (newEng R B T) kn n).go (knocksAt kn n)).depths.length = _
      rw [g.depths, i.depths]
    · rw [upTo_succ]
      exact g.lb _ i.lb
end KW
end
section
set_option Elab.async false
set_option linter.all false
set_option autoImplicit false
set_option maxRecDepth 100000
set_option maxHeartbeats 1000000
/-! runs.py: a Run made, its looks -/
namespace KW
open PySem PySem.Spec PyProof.Rows L2 He KR Evl
local macro_rules
  | `(tactic| walk_at "na") => `(tactic| with_reducible (first | exact cl_Line (by assumption) | exact cl_Job (by assumption) | exact cl_Engine (by assumption) | exact cl_Plan (by assumption) | exact cl_Run (by assumption) | exact cl_Bench (by assumption) | exact na_Line_name (by assumption) | exact na_Line_rank (by assumption) | exact na_Line_is_up (by assumption) | exact na_Line_guard (by assumption) | exact na_Line_top (by assumption) | exact na_Line_let_by (by assumption) | exact na_Line_shut_till (by assumption) | exact na_Line_since (by assumption) | exact na_Line_fresh (by assumption) | exact na_Line_counts (by assumption) | exact na_Line_longest (by assumption) | exact na_Job_word (by assumption) | exact na_Job_name (by assumption) | exact na_Job_rank (by assumption) | exact na_Job_steps (by assumption) | exact na_Job_masks_then (by assumption) | exact na_Job_at (by assumption) | exact na_Job_left (by assumption) | exact na_Engine_plan (by assumption) | exact na_Engine_ways (by assumption) | exact na_Engine_tops (by assumption) | exact na_Engine_bottom (by assumption) | exact na_Engine_put_off (by assumption) | exact na_Engine_woken (by assumption) | exact na_Engine_begun (by assumption) | exact na_Engine_depth (by assumption) | exact na_Engine_now (by assumption) | exact na_Engine_row (by assumption) | exact na_Engine_depths (by assumption) | exact na_Engine_last_begun (by assumption) | exact na_Plan_row (by assumption) | exact na_Plan_low (by assumption) | exact na_Plan_late (by assumption) | exact na_Run_row (by assumption) | exact na_Run_depths (by assumption) | exact na_Run_table (by assumption) | exact na_Run_longest (by assumption) | exact na_Bench_engine (by assumption) | exact na_Bench_fresh (by assumption) | exact na_Bench_told_so_far (by assumption) | exact na_Bench_rows (by assumption)))
local macro_rules
  | `(tactic| walk_at "oi") => `(tactic| first | assumption | exact oi2 0 (by assumption) rfl | exact oi2 1 (by assumption) rfl | exact oi2 2 (by assumption) rfl | exact oi2 3 (by assumption) rfl | exact oi2 4 (by assumption) rfl | exact oi2 5 (by assumption) rfl | exact oi2 6 (by assumption) rfl | exact oi2 7 (by assumption) rfl | exact oi2 8 (by assumption) rfl)
local macro_rules
  | `(tactic| walk_at "ev") => `(tactic| repeat' (first
    | exact ev_c | exact ev_var rfl | exact ea_nil | exact rv_I0 | exact ru_neg | exact eo_none
    | exact rv_eq rfl | exact rv_ne rfl
    | exact rv_ixT (by assumption) (by rfl) | exact rv_ixL (by assumption) (by rfl)
    | exact sv_q (by assumption) (by assumption) | exact sv_within (by assumption)
    | exact Or.inr (by assumption) | exact Or.inl (by assumption) | (show (_ : String) ∈ _; decide)
    | with_reducible (first | apply ev_isi | apply ev_lenS | apply ev_if' | apply et_test | apply et_B | apply et_not | apply et_and | apply et_or | apply ev_andV | apply ev_orV | apply ev_notV | apply ea_cons | apply eo_some | apply ev_fl | apply ev_op | apply ev_un | apply ev_call)
    | walk_at "na" | walk_at "oi" | (show List.lookup _ _ = _; rfl)
    | assumption
    | (with_reducible intro hh; first | exact absurd (show true = false from hh) (by decide) | exact absurd (show false = true from hh) (by decide) | clear hh)))

section
variable {P : Program} {w : World} {K : PySem.W.Frag} {mg : Str → Option Value} {base : Heap}
theorem sc_Run_init : FnScope ["self", "engine", "one"] ["self", "engine"] (defScope s_Run_init) := ⟨rfl, rfl, rfl, by decide +kernel, rfl, by decide +kernel, by decide +kernel⟩
/-- all that is not owned is known -/
theorem Own.all {G H : Hp} {L : List (Addr × HO)} (o : Own G H L) : ∃ G', Same G G' ∧ Own G' H L ∧ ∀ b u, b ∉ L.map (·.1) → H b = some u → G' b = some u := by
  refine ⟨fun b => if b ∈ L.map (·.1) then none else H b, fun b u e => ?_, ⟨o.at_, o.nd, fun q hq => ?_, fun b u e => ?_⟩, fun b u hb e => ?_⟩
  · have hb : b ∉ L.map (·.1) := fun hm => by
      obtain ⟨q, hq, rfl⟩ := List.mem_map.mp hm
      rw [o.out q hq] at e
      cases e
    show (if b ∈ L.map (·.1) then none else H b) = some u
    rw [if_neg hb]
    exact o.sub b u e
  · exact if_pos (List.mem_map_of_mem hq)
  · have e : (if b ∈ L.map (·.1) then none else H b) = some u := e
    by_cases hb : b ∈ L.map (·.1)
    · rw [if_pos hb] at e; cases e
    · rw [if_neg hb] at e; exact e
  · show (if b ∈ L.map (·.1) then none else H b) = some u
    rw [if_neg hb]; exact e
theorem dc_start {tl tk tv : TE} {g : TG} {tt : TT} {vs : List Nat} {σ : L2.St} {H : Hp} {Q : VK} {a : Addr} (h : Ev tl σ H (.ref a)) (k : ∀ H1, Ex H H1 → tDc (iList K (fun _ H Q => Q (.ref a) H)) g tt tk tv vs σ H1 Q) : tDc (iList K tl) g tt tk tv vs σ H Q := h H (Ex.refl _) _ fun H1 e1 => k H1 e1
theorem Own.free {G H0 : Hp} {L : List (Addr × HO)} {b : Addr} (o : Own G H0 L) (h : H0 b = none) : b ∉ L.map (·.1) := fun hm => by
  obtain ⟨q, hq, rfl⟩ := List.mem_map.mp hm
  rw [o.at_ q hq] at h
  cases h
def sumsV (s : Int × Int × Int × Int × Int) : List V := [.int s.1, .int s.2.1, .int s.2.2.1, .int s.2.2.2.1, .int s.2.2.2.2]
/-- a table of sums: its tuples are new -/
inductive TabF (H0 H : Hp) : List (L2.Key × V) → List (Str × (Int × Int × Int × Int × Int)) → Prop
  | nil : TabF H0 H [] []
  | snoc {kt : List (L2.Key × V)} {ms : List (Str × (Int × Int × Int × Int × Int))} {n : Str} {p : Addr} {s : Int × Int × Int × Int × Int} : TabF H0 H kt ms → H0 p = none → H p = some (.tup (sumsV s)) → TabF H0 H (kt ++ [(Sum.inr n, .ref p)]) (ms ++ [(n, s)])
theorem TabF.ext {H0 H H' : Hp} {kt : List (L2.Key × V)} {ms : List (Str × (Int × Int × Int × Int × Int))} (h : TabF H0 H kt ms) (e : ∀ p xs, H0 p = none → H p = some (.tup xs) → H' p = some (.tup xs)) : TabF H0 H' kt ms := by
  induction h with
  | nil => exact .nil
  | snoc _ a b ih => exact .snoc ih a (e _ _ a b)
theorem TabF.keys {H0 H : Hp} {kt : List (L2.Key × V)} {ms : List (Str × (Int × Int × Int × Int × Int))} (h : TabF H0 H kt ms) : kt.map (·.1) = ms.map fun p => Sum.inr p.1 := by
  induction h with
  | nil => rfl
  | snoc _ _ _ ih => rw [List.map_append, List.map_append, ih]; rfl
inductive TabK (K : PySem.W.Frag) (G : Hp) : List (L2.Key × V) → List (Str × (Int × Int × Int × Int × Int)) → Prop
  | nil : TabK K G [] []
  | snoc {kt : List (L2.Key × V)} {ms : List (Str × (Int × Int × Int × Int × Int))} {n : Str} {p : Addr} {s : Int × Int × Int × Int × Int} : TabK K G kt ms → SqT K G p (sumsV s) → TabK K G (kt ++ [(Sum.inr n, .ref p)]) (ms ++ [(n, s)])
theorem TabK.mono {G G' : Hp} {kt : List (L2.Key × V)} {ms : List (Str × (Int × Int × Int × Int × Int))} (e : Same G G') (h : TabK K G kt ms) : TabK K G' kt ms := by
  induction h with
  | nil => exact .nil
  | snoc _ a ih => exact .snoc ih (sT e a)
theorem TabF.toK {H0 H G : Hp} {kt : List (L2.Key × V)} {ms : List (Str × (Int × Int × Int × Int × Int))} (h : TabF H0 H kt ms) (e : ∀ p xs, H0 p = none → H p = some (.tup xs) → G p = some (.tup xs)) : TabK K G kt ms := by
  induction h with
  | nil => exact .nil
  | snoc _ a b ih => exact .snoc ih (st_of (e _ _ a b))
/-- a Run that nobody changes -/
def RunAt (K : PySem.W.Frag) (G : Hp) (r : Addr) (m : RunM) : Prop := ∃ dx aR aD aT aL vs kt, G r = some (.ins (g_Run K) dx [("row", .ref aR), ("depths", .ref aD), ("table", .ref aT), ("longest", .ref aL)]) ∧ (G aR = some (.lst vs) ∧ RowK K G vs m.row) ∧ G aD = some (.lst (m.depths.map V.int)) ∧ (G aT = some (.dK kt) ∧ TabK K G kt m.table) ∧ G aL = some (.dK (m.longest.map fun p => (Sum.inr p.1, V.int p.2)))
theorem run_mono {G G' : Hp} {r : Addr} {m : RunM} (e : Same G G') (h : RunAt K G r m) : RunAt K G' r m := by
  obtain ⟨dx, aR, aD, aT, aL, vs, kt, h0, ⟨h1, k1⟩, h2, ⟨h3, k3⟩, h4⟩ := h
  exact ⟨dx, aR, aD, aT, aL, vs, kt, e _ _ h0, ⟨e _ _ h1, k1.mono e⟩, e _ _ h2, ⟨e _ _ h3, k3.mono e⟩, e _ _ h4⟩
theorem s_fldD {te ta : TE} {σ : L2.St} {G H : Hp} {L : List (Addr × HO)} {D : Ends} {a C dx : Addr} {f : Str} {fs : List (Str × V)} {kvs : List (L2.Key × V)} (o : Own G H L) (n : Nat) (h : L[n]? = some (a, .ins C dx fs)) (he : EvD te σ H kvs) (ha : Ev ta σ H (.ref a)) (hC : Cls K C) (hn : NoAttr K C f) (hl : fs.length < 1000) (k : ∀ p H1, Own G H1 ((p, .dK kvs) :: L.set n (a, .ins C dx (putF f (.ref p) fs))) → D.nx σ H1) : sFld K ta te f D σ H :=
  he H (Ex.refl _) _ fun p H1 np e1 hp => ha H1 e1 _ fun H2 e2 => ⟨a, C, dx, fs, rfl, (e1.trans e2) _ _ (oi n o h), hC, hn, hl, k p _ (own_set (n := n + 1) ((own_add o e1 np hp).same e2) h)⟩
def spRunInit (K : PySem.W.Frag) : Sp := fun vs H Q _ => ∃ (G : Hp) (F : List (Addr × HO)) (a dx : Addr) (e : EngG), vs = [.ref a, .ref e.a] ∧ Own G H ((a, .ins (g_Run K) dx []) :: (e.obs K ++ F)) ∧ EngK K G e ∧ Inv e.m ∧ (e.row.length ≤ 5000 ∧ e.depths.length ≤ 5000) ∧
  ∀ G' H', Same G G' → RunAt K G' a e.m.told → Own G' H' (e.obs K ++ F) → Q .non H'
theorem ok_Run_init (T : Txt w K mg) : FnOk P w K mg base CX0 3 (f_Run_init K) (fdAt K (f_Run_init K)) ["self", "engine"] (spRunInit K) := by
  refine (df_Run_init T).ok sc_Run_init (fun vs H Q E h => ?_) (fun cdv A outer s H vs Q E hr h => ?_)
  · obtain ⟨_, _, _, _, _, rfl, _⟩ := h
    rfl
  · obtain ⟨G, F, a, dx, e, rfl, o, k, hinv, ⟨zr, zd⟩, q⟩ := h
    refine ⟨_, PSs.nox ((pss_cons (ps_fldK (K := K) rfl (pv 0) (pe_callTy (call_listK (K := K) rfl) (by rfl) (fr_list T) (by decide +kernel) (pa_cons (pe_fldK (K := K) rfl (pv 1) rfl) pa_nil)))
      (pss_cons (ps_fldK (K := K) rfl (pv 0) (pe_callTy (call_listK (K := K) rfl) (by rfl) (fr_list T) (by decide +kernel) (pa_cons (pe_fldK (K := K) rfl (pv 1) rfl) pa_nil)))
      (pss_cons (ps_fldK (K := K) rfl (pv 0) (pe_dc (own := [("one", 2)]) (g := gName 2) (tt := tYes) rfl sc_Run_init.nd (pi_listK (K := K) rfl (pe_fldK (K := K) rfl (pv 1) rfl)) (blkOk_by (N := ["self", "engine", "one"]) (sc := defScope s_Run_init) (by decide +kernel)) (fun _ _ _ _ _ => pg_name (i := 2) sc_Run_init.nd rfl (Or.inl rfl)) (fun _ _ _ _ _ => pts_nil) (fun _ _ _ _ _ => (pe_fldK (K := K) rfl (pv 2) rfl)) (fun _ _ _ _ _ => (pe_meth0 (pv 2) (cl_Line T) (me_Line_sums T) (ok_Line_sums T) (hr.mono (by decide)) (bi_Line_sums T) .nil pass0))))
      (pss_one (ps_fldK (K := K) rfl (pv 0) (pe_dc (own := [("one", 2)]) (g := gName 2) (tt := tYes) rfl sc_Run_init.nd (pi_listK (K := K) rfl (pe_fldK (K := K) rfl (pv 1) rfl)) (blkOk_by (N := ["self", "engine", "one"]) (sc := defScope s_Run_init) (by decide +kernel)) (fun _ _ _ _ _ => pg_name (i := 2) sc_Run_init.nd rfl (Or.inl rfl)) (fun _ _ _ _ _ => pts_nil) (fun _ _ _ _ _ => (pe_fldK (K := K) rfl (pv 2) rfl)) (fun _ _ _ _ _ => (pe_fldK (K := K) rfl (pv 2) rfl))))))))), ?_⟩
    have pl := plan_parts hinv.i.plan
    have cn := inv_counts hinv.i
    have zw : e.ways.length ≤ 5 := by have z : e.m.ways.length = e.ways.length := List.length_map ..; omega
    have hnd : (e.ways.map (·.m.name)).Nodup := by rw [← em_ways, hinv.i.wn]; exact pl.nR
    refine q_fldL (xs := e.row) o 0 rfl (el_listS (ev_fl (ev_var rfl) (oi2 1 o rfl) (cl_Engine T) (na_Engine_row T) rfl) (.inl (sq_of (oi2 7 o rfl)))) (ev_var rfl) (cl_Run T) (na_Run_row T) (by show (0 : Nat) < 1000; decide) fun pR H1 o1 => ?_
    refine q_fldL (xs := e.depths.map V.int) o1 1 rfl (el_listS (ev_fl (ev_var rfl) (oi2 2 o1 rfl) (cl_Engine T) (na_Engine_depths T) rfl) (.inl (sq_of (oi2 9 o1 rfl)))) (ev_var rfl) (cl_Run T) (na_Run_depths T) (by show (1 : Nat) < 1000; decide) fun pD H2 o2 => ?_
    let A1 : Addr × HO := (a, .ins (g_Run K) dx [("row", .ref pR), ("depths", .ref pD)])
    have o2 : Own G H2 (((pD, .lst (e.depths.map V.int)) :: (pR, .lst e.row) :: [A1]) ++ (e.obs K ++ F)) := o2
    -- the sums
    refine q_fldQ (fun v H3 => ∃ D kt, v = .ref D ∧ Ex H2 H3 ∧ H2 D = none ∧ H3 D = some (.dK kt) ∧ TabF H2 H3 kt (e.ways.map fun l => (l.m.name, sumsM l.m))) (fun Q1 k1 => ?_) fun v H3 hM => ?_
    · have hW : Ev (tFld K (tVar 1) (Str.ofString "ways")) [some (V.ref a), some (V.ref e.a), none] H2 (.ref e.aW) := ev_fl (ev_var rfl) (oi2 3 o2 rfl) (cl_Engine T) (na_Engine_ways T) rfl
      have hWl : H2 e.aW = some (.lst (e.ways.map refL)) := oi2 4 o2 rfl
      refine dc_start hW fun H3 e3 => ⟨e.aW, rfl, ⟨_, sq_of (e3 _ _ hWl)⟩, fun D hD => ?_⟩
      refine ⟨fun i m H => m = e.ways.length - i ∧ i ≤ e.ways.length ∧ Ex H3 H ∧ ∃ kt, H D = some (.dK kt) ∧ TabF H2 H kt ((e.ways.take i).map fun l => (l.m.name, sumsM l.m)), ⟨e.ways.length, by simp, Nat.zero_le _, Ex.new hD, [], upd_same, .nil⟩, ?_⟩
      rintro i m H ⟨rfl, hi, e4, kt, hS, tf⟩
      have eH := e3.trans e4
      by_cases hlt : i < e.ways.length
      · obtain ⟨l, hli⟩ : ∃ l, e.ways[i]? = some l := ⟨_, List.getElem?_eq_getElem hlt⟩
        have hlm : l ∈ e.ways := List.mem_of_getElem? hli
        refine .inr ⟨⟨_, _, sq_of (eH _ _ hWl), by rw [List.getElem?_map, hli]; rfl⟩, fun H => (i + 1) ≤ e.ways.length ∧ Ex H3 H ∧ ∃ kt, H D = some (.dK kt) ∧ TabF H2 H kt ((e.ways.take (i + 1)).map fun l => (l.m.name, sumsM l.m)), fun H' ⟨h1, h2, h3⟩ => ⟨e.ways.length - (i + 1), by omega, rfl, h1, h2, h3⟩, fun x H4 y => ?_⟩
        obtain ⟨rfl, y⟩ := y
        have hx := y _ (sq_of (eH _ _ hWl))
        rw [List.getElem?_map, hli] at hx
        cases hx
        refine ⟨rfl, ?_⟩
        obtain ⟨wa, wb, ewl⟩ := List.append_of_mem hlm
        obtain ⟨rst, pf⟩ := way_focus K (e := e) ewl
        have y0 : ({ e with ways := wa ++ { l with m := l.m } :: wb } : EngG) = e := by
          show ({ e with ways := wa ++ l :: wb } : EngG) = _
          rw [← ewl]
        have z := pf l.m
        rw [y0] at z
        have oH := (o2.same eH).perm (in_perm z)
        have hnm : Ev (tFld K (tVar 2) (Str.ofString "name")) [some (V.ref a), some (V.ref e.a), some (V.ref l.a)] H4 (.str l.m.name) := ev_fl (ev_var rfl) (oi2 0 oH rfl) (cl_Line T) (na_Line_name T) rfl
        unfold tYes
        simp only [if_true]
        refine hnm H4 (Ex.refl _) _ fun H5 e5 => ?_
        refine ⟨.ref l.a, rfl, l.a, l.dx, l.fs, rfl, e5 _ _ (oi2 0 oH rfl), rfl, G, l, _, rfl, oH.same e5, fun p H6 np e6 hp => ?_⟩
        have tf6 := tf.ext (H' := H6) fun b xs _ hb => e6 _ _ (e5 _ _ hb)
        have hD6 : H6 D = some (.dK kt) := e6 _ _ (e5 _ _ hS)
        have n2p : H2 p = none := fresh_back (eH.trans e5) np
        have hpD : ∀ b xs, H6 b = some (.tup xs) → b ≠ D := fun b xs hb e => by rw [e, hD6] at hb; cases hb
        refine ⟨kt, Sum.inr l.m.name, rfl, hD6, ?_, hlt, Ex.mut (e4.trans (e5.trans e6)) hD, kt ++ [(Sum.inr l.m.name, .ref p)], ?_, ?_⟩
        · have z1 := congrArg List.length tf.keys
          simp only [List.length_map, List.length_take] at z1
          rw [sizeLine_eq]
          omega
        · rw [upd_same, put_new]
          rw [tf.keys, List.map_map]
          intro hm
          have e0 : e.ways = e.ways.take i ++ l :: e.ways.drop (i + 1) := by rw [← (List.getElem?_eq_some_iff.mp hli).2, List.getElem_cons_drop, List.take_append_drop]
          rw [e0, List.map_append, List.map_cons, List.nodup_append] at hnd
          obtain ⟨l2, hl2, e2⟩ := List.mem_map.mp hm
          exact hnd.2.2 _ (List.mem_map.mpr ⟨l2, hl2, rfl⟩) _ (List.mem_cons_self ..) (Sum.inr.inj e2)
        · rw [List.take_add_one, hli, List.map_append]
          refine .snoc (tf6.ext fun b xs _ hb => by rw [upd_ne (hpD b xs hb)]; exact hb) n2p ?_
          rw [upd_ne (hpD p _ hp)]
          exact hp
      · have : i = e.ways.length := by omega
        subst this
        rw [List.take_length] at tf
        exact .inl ⟨⟨_, sq_of (eH _ _ hWl), by rw [List.length_map]; exact Nat.le_refl _⟩, k1 _ _ ⟨D, kt, rfl, eH, fresh_back e3 hD, hS, tf⟩⟩
    · obtain ⟨D, kt, rfl, e3, nD, hD, tf⟩ := hM
      have o3 := own_add o2 e3 nD hD
      obtain ⟨G3, s3, o3, known⟩ := o3.all
      have hK : TabK K G3 kt e.m.told.table := by
        have z : e.m.told.table = e.ways.map fun l => (l.m.name, sumsM l.m) := by
          show (e.ways.map (·.m)).map (fun l => (l.name, sumsM l)) = _
          rw [List.map_map]
          rfl
        rw [z]
        refine tf.toK fun p xs hp hb => known p _ (fun hm => ?_) hb
        rcases List.mem_cons.mp hm with e | hm
        · rw [show p = D from e, hD] at hb
          cases hb
        · exact o2.free hp hm
      refine q_fld (v := .ref D) o3 3 rfl ev_k (ev_var rfl) (cl_Run T) (na_Run_table T) (by show (2 : Nat) < 1000; decide) fun H4 o4 => ?_
      have o4 : Own G3 H4 ([(D, .dK kt), (pD, .lst (e.depths.map V.int)), (pR, .lst e.row), (a, .ins (g_Run K) dx [("row", .ref pR), ("depths", .ref pD), ("table", .ref D)])] ++ (e.obs K ++ F)) := o4
      have hlg : (e.ways.map fun l => ((Sum.inr l.m.name : L2.Key), V.int l.m.longest)) = (e.m.told.longest.map fun p => ((Sum.inr p.1 : L2.Key), V.int p.2)) := by
        show _ = ((e.ways.map (·.m)).map fun l => (l.name, l.longest)).map fun p => ((Sum.inr p.1 : L2.Key), V.int p.2)
        rw [List.map_map, List.map_map]
        rfl
      refine s_fldD (kvs := e.ways.map fun l => ((Sum.inr l.m.name : L2.Key), V.int l.m.longest)) o4 3 rfl (ed_dc _ (ev_fl (ev_var rfl) (oi2 4 o4 rfl) (cl_Engine T) (na_Engine_ways T) rfl) (sq_of (oi2 5 o4 rfl)) (by simp) (by rw [List.length_map]; omega) ?_ (fun _ => rfl) (fun i x q hx hq => ?_)) (ev_var rfl) (cl_Run T) (na_Run_longest T) (by show (3 : Nat) < 1000; decide) fun pL H5 o5 => ?_
      · rw [List.map_map]
        have e1 : (e.ways.map (Prod.fst ∘ fun l => ((Sum.inr l.m.name : L2.Key), V.int l.m.longest))) = (e.ways.map (·.m.name)).map Sum.inr := by rw [List.map_map]; rfl
        rw [e1]
        exact List.pairwise_map.mpr (hnd.imp fun h e => h (Sum.inr.inj e))
      · rw [List.getElem?_map] at hx hq
        cases hl : e.ways[i]? with
        | none => rw [hl] at hx; cases hx
        | some l =>
          rw [hl] at hx hq
          cases hx
          cases hq
          have hw := eng_way o4.right (List.mem_of_getElem? hl)
          exact ⟨ev_fl (ev_var rfl) hw (cl_Line T) (na_Line_name T) rfl, ev_fl (ev_var rfl) hw (cl_Line T) (na_Line_longest T) rfl⟩
      · rw [hlg] at o5
        let A2 : Addr × HO := (a, .ins (g_Run K) dx [("row", .ref pR), ("depths", .ref pD), ("table", .ref D), ("longest", .ref pL)])
        have o5 : Own G3 H5 ([(pL, .dK (e.m.told.longest.map fun p => (Sum.inr p.1, V.int p.2))), (D, .dK kt), (pD, .lst (e.depths.map V.int)), (pR, .lst e.row), A2] ++ (e.obs K ++ F)) := o5
        obtain ⟨G5, s5, o6, h5⟩ := own_holds o5
        refine q G5 H5 (s3.trans s5) ⟨dx, pR, pD, D, pL, e.row, kt, h5 A2 (.tail _ (.tail _ (.tail _ (.tail _ (.head _))))), ⟨h5 (pR, _) (.tail _ (.tail _ (.tail _ (.head _)))), k.row.mono (s3.trans s5)⟩, h5 (pD, _) (.tail _ (.tail _ (.head _))), ⟨h5 (D, _) (.tail _ (.head _)), hK.mono s5⟩, h5 (pL, _) (.head _)⟩ o6
end
end KW
end
section
set_option Elab.async false
set_option linter.all false
set_option autoImplicit false
set_option maxRecDepth 100000
set_option maxHeartbeats 1000000
/-! runs.py: check_knocks, run -/
namespace KW
open PySem PySem.Spec PyProof.Rows L2 He KR Evl
local macro_rules
  | `(tactic| walk_at "na") => `(tactic| with_reducible (first | exact cl_Line (by assumption) | exact cl_Job (by assumption) | exact cl_Engine (by assumption) | exact cl_Plan (by assumption) | exact cl_Run (by assumption) | exact cl_Bench (by assumption) | exact na_Line_name (by assumption) | exact na_Line_rank (by assumption) | exact na_Line_is_up (by assumption) | exact na_Line_guard (by assumption) | exact na_Line_top (by assumption) | exact na_Line_let_by (by assumption) | exact na_Line_shut_till (by assumption) | exact na_Line_since (by assumption) | exact na_Line_fresh (by assumption) | exact na_Line_counts (by assumption) | exact na_Line_longest (by assumption) | exact na_Job_word (by assumption) | exact na_Job_name (by assumption) | exact na_Job_rank (by assumption) | exact na_Job_steps (by assumption) | exact na_Job_masks_then (by assumption) | exact na_Job_at (by assumption) | exact na_Job_left (by assumption) | exact na_Engine_plan (by assumption) | exact na_Engine_ways (by assumption) | exact na_Engine_tops (by assumption) | exact na_Engine_bottom (by assumption) | exact na_Engine_put_off (by assumption) | exact na_Engine_woken (by assumption) | exact na_Engine_begun (by assumption) | exact na_Engine_depth (by assumption) | exact na_Engine_now (by assumption) | exact na_Engine_row (by assumption) | exact na_Engine_depths (by assumption) | exact na_Engine_last_begun (by assumption) | exact na_Plan_row (by assumption) | exact na_Plan_low (by assumption) | exact na_Plan_late (by assumption) | exact na_Run_row (by assumption) | exact na_Run_depths (by assumption) | exact na_Run_table (by assumption) | exact na_Run_longest (by assumption) | exact na_Bench_engine (by assumption) | exact na_Bench_fresh (by assumption) | exact na_Bench_told_so_far (by assumption) | exact na_Bench_rows (by assumption)))
local macro_rules
  | `(tactic| walk_at "oi") => `(tactic| first | assumption | exact oi2 0 (by assumption) rfl | exact oi2 1 (by assumption) rfl | exact oi2 2 (by assumption) rfl | exact oi2 3 (by assumption) rfl | exact oi2 4 (by assumption) rfl | exact oi2 5 (by assumption) rfl | exact oi2 6 (by assumption) rfl | exact oi2 7 (by assumption) rfl | exact oi2 8 (by assumption) rfl)
local macro_rules
  | `(tactic| walk_at "ev") => `(tactic| repeat' (first
    | exact ev_c | exact ev_var rfl | exact ea_nil | exact rv_I0 | exact ru_neg | exact eo_none
    | exact rv_eq rfl | exact rv_ne rfl
    | exact rv_ixT (by assumption) (by rfl) | exact rv_ixL (by assumption) (by rfl)
    | exact sv_q (by assumption) (by assumption) | exact sv_within (by assumption)
    | exact Or.inr (by assumption) | exact Or.inl (by assumption) | (show (_ : String) ∈ _; decide)
    | with_reducible (first | apply ev_isi | apply ev_lenS | apply ev_if' | apply et_test | apply et_B | apply et_not | apply et_and | apply et_or | apply ev_andV | apply ev_orV | apply ev_notV | apply ea_cons | apply eo_some | apply ev_fl | apply ev_op | apply ev_un | apply ev_call)
    | walk_at "na" | walk_at "oi" | (show List.lookup _ _ = _; rfl)
    | assumption
    | (with_reducible intro hh; first | exact absurd (show true = false from hh) (by decide) | exact absurd (show false = true from hh) (by decide) | clear hh)))

section
variable {P : Program} {w : World} {K : PySem.W.Frag} {mg : Str → Option Value} {base : Heap}
theorem sc_check_knocks : FnScope ["plan", "knocks", "names", "ahead", "at", "pair"] ["plan", "knocks"] (defScope s_check_knocks) := ⟨rfl, rfl, rfl, by decide +kernel, rfl, by decide +kernel, by decide +kernel⟩
theorem knock_at {H : Hp} {x : V} {p : Int × Str} (h : Dp K H x (knockD p)) : ∃ t, x = .ref t ∧ SqT K H t [.int p.1, .str p.2] := by
  obtain ⟨t, ys, rfl, hy, hd⟩ := dpT h
  obtain ⟨v0, _, rfl, h0, hd⟩ := dpC hd
  obtain ⟨v1, _, rfl, h1, hd⟩ := dpC hd
  obtain rfl := dpN hd
  rw [dpI h0, dpS h1] at hy
  exact ⟨t, rfl, hy⟩
def spCheckK (K : PySem.W.Frag) : Sp := fun vs H Q _ => ∃ (p kn : Addr) (R B T : List PyData) (xs : List V) (ks : List (Int × Str)), vs = [.ref p, .ref kn] ∧ (PlanAt K H p R B T ∧ PlanP R B T) ∧ (SqL K H kn xs ∧ DpAll K H xs (ks.map knockD)) ∧ ks.length ≤ 400 ∧ knocksOk (R.map nameD) 0 ks = true ∧ ∀ H', Ex H H' → Q .non H'
theorem ok_check_knocks (T : Txt w K mg) : FnOk P w K mg base CX0 3 (f_check_knocks K) (fdAt K (f_check_knocks K)) ["plan", "knocks"] (spCheckK K) := by
  refine (df_check_knocks T).ok sc_check_knocks (fun vs H Q E h => ?_) (fun cdv A outer s H vs Q E hr h => ?_)
  · obtain ⟨_, _, _, _, _, _, _, rfl, _⟩ := h
    rfl
  · obtain ⟨p, kn, R, B, Td, xs, ks, rfl, ⟨hp, pl⟩, ⟨hkn, hks⟩, hz, hok, q⟩ := h
    obtain ⟨_, h_MOST_KNOCKS⟩ := in_MOST_KNOCKS T
    obtain ⟨_, h_LAST_KNOCK⟩ := in_LAST_KNOCK T
    refine ⟨_, PSs.nox ((pss_cons (ps_if (pt_not (pt_val (pe_callB (call_isiK1 (K := K) rfl) (by rfl) (fr_isinstance T) (by decide +kernel) (pa_cons (pv 1) (pa_cons (pe_bltn (v := .ty "list") (u := .type "list") (by rfl) (fr_list T) (by decide +kernel) rfl) pa_nil))))) (pss_one ps_never) pss_nil)
      (pss_cons (ps_par (i := 2) (j := 3) rfl sc_check_knocks.nd rfl rfl (by decide) rfl rfl (pa_cons (pe_meth0 (pv 0) (cl_Plan T) (me_Plan_names T) (ok_Plan_names T) (hr.mono (by decide)) (bi_Plan_names T) .nil pass0) (pa_cons pe_int pa_nil)) (by rfl))
      (pss_one (ps_for PassesOwn.never rfl (pi_enum (by rfl) (fr_enumerate T) (pa_cons (pv 1) pa_nil)) (pg_tupK rfl (K := K) rfl (pgs_cons (pg_name (i := 4) sc_check_knocks.nd rfl (Or.inl rfl)) (pgs_cons (pg_name (i := 5) sc_check_knocks.nd rfl (Or.inl rfl)) pgs_nil))) (pss_cons (ps_if (PW.pt (pw_or (pt_cmpR op_eq (pv 4) (pe_glob (v := .int 400) rfl h_MOST_KNOCKS ⟨_, rfl⟩) (nomark _)) (pw_or (pt_not (pt_val (pe_callB (call_isiK1 (K := K) rfl) (by rfl) (fr_isinstance T) (by decide +kernel) (pa_cons (pv 5) (pa_cons (pe_bltn (v := .ty "tuple") (u := .type "tuple") (by rfl) (fr_tuple T) (by decide +kernel) rfl) pa_nil))))) (pw_or (pt_cmpR op_ne (pe_callB (call_lenK (K := K) rfl) (by rfl) (fr_len T) PySem.boot_len (pa_cons (pv 5) pa_nil)) pe_int (nomark _)) (pw_or1 (pt_not (pt_val (pe_call (ok_within T) (hr.mono (by decide)) rfl (gl_within T) (df_within T).kp (bi_within T) .nil pass0 (pa_cons (pe_ix (ix_tupK (K := K) rfl) (pv 5) pe_int (fun _ _ => rfl)) (pa_cons (pv 3) (pa_cons (pe_glob (v := .int 500) rfl h_LAST_KNOCK ⟨_, rfl⟩) pa_nil))))))))))) (pss_one ps_never) pss_nil)
      (pss_cons (ps_if (PW.pt (pw_or (pt_not (pt_val (pe_callB (call_isiK1 (K := K) rfl) (by rfl) (fr_isinstance T) (by decide +kernel) (pa_cons (pe_ix (ix_tupK (K := K) rfl) (pv 5) pe_int (fun _ _ => rfl)) (pa_cons (pe_bltn (v := .ty "str") (u := .type "str") (by rfl) (fr_str T) (by decide +kernel) rfl) pa_nil))))) (pw_or1 (pt_cmpR (op_notInK (K := K) rfl) (pe_ix (ix_tupK (K := K) rfl) (pv 5) pe_int (fun _ _ => rfl)) (pv 2) (by rfl))))) (pss_one ps_never) pss_nil)
      (pss_one (ps_set (i := 3) sc_check_knocks.nd rfl (Or.inl rfl) (pe_ix (ix_tupK (K := K) rfl) (pv 5) pe_int (fun _ _ => rfl))))))))))), ?_⟩
    have hdl : Dp K H (.ref kn) (.list (ks.map knockD)) := .lst hkn hks
    have hlen := dpLen hks
    rw [List.length_map] at hlen
    refine q_when (b := false) (et_is (et_not (et_B (ev_isi (b := "list") (ev_var rfl) hdl))) rfl) (fun h => by cases h) fun _ H1 e1 => ?_
    obtain ⟨dx, _, _, _, _, _, _, h0, _⟩ := id hp
    refine ⟨.ref p, rfl, p, dx, _, rfl, e1 _ _ h0, rfl, p, R, B, Td, rfl, plan_mono e1 hp, pl, fun pn H2 np e2 hpn => ⟨_, _, rfl, ?_⟩⟩
    have e12 := e1.trans e2
    refine ⟨.ref kn, rfl, kn, xs, rfl, ex_l e12 hkn, fun i m σ' H' => m = ks.length - i ∧ i ≤ ks.length ∧ Ex H2 H' ∧ ∃ ah s4 s5, σ' = [some (.ref p), some (.ref kn), some (.ref pn), some (.int ah), s4, s5] ∧ knocksOk (R.map nameD) ah (ks.drop i) = true, ⟨ks.length, by simp, Nat.zero_le _, Ex.refl _, 0, none, none, rfl, hok⟩, ?_⟩
    rintro i m σ' H' ⟨rfl, hi, e3, ah, s4, s5, rfl, hki⟩
    have eH := e12.trans e3
    by_cases hlt : i < ks.length
    · obtain ⟨x, hx⟩ : ∃ x, xs[i]? = some x := ⟨_, List.getElem?_eq_getElem (by omega)⟩
      refine .inr ⟨⟨xs, x, ex_l eH hkn, hx⟩, fun σ' H' => (i + 1) ≤ ks.length ∧ Ex H2 H' ∧ ∃ ah s4 s5, σ' = [some (.ref p), some (.ref kn), some (.ref pn), some (.int ah), s4, s5] ∧ knocksOk (R.map nameD) ah (ks.drop (i + 1)) = true, fun σ' H' ⟨h1, h2, h3⟩ => ⟨ks.length - (i + 1), by omega, rfl, h1, h2, h3⟩, fun y H3 hy => ?_⟩
      obtain ⟨tt, z, rfl, nt, rfl, hz'⟩ := hy
      have hzx := hz' xs (ex_l eH hkn)
      rw [hx] at hzx
      cases hzx
      have e4 : Ex H' (upd H' tt (.tup [.int (i : Nat), x])) := Ex.new nt
      generalize hH4 : upd H' tt (.tup [.int (i : Nat), x]) = H4 at e4
      have htt : H4 tt = some (.tup [.int (i : Nat), x]) := by rw [← hH4]; exact upd_same
      obtain ⟨d, hd, hdp⟩ := daG hks hx
      rw [List.getElem?_map] at hd
      cases hki' : ks[i]? with
      | none => rw [hki'] at hd; cases hd
      | some k =>
        rw [hki'] at hd
        cases hd
        have hdrop : ks.drop i = k :: ks.drop (i + 1) := by
          obtain ⟨h1, h2⟩ := List.getElem?_eq_some_iff.mp hki'
          rw [← h2, List.getElem_cons_drop]
        rw [hdrop] at hki
        obtain ⟨k1, k2⟩ := band hki
        obtain ⟨k1, k3⟩ := band k1
        obtain ⟨k2, k4⟩ := band k2
        have k1 := of_decide_eq_true k1
        have k3 := of_decide_eq_true k3
        have k2 := of_decide_eq_true k2
        have eH4 := eH.trans e4
        have hdp4 := dpM eH4 hdp
        obtain ⟨t, rfl, hsq⟩ := knock_at hdp4
        refine ⟨tt, [.int (i : Nat), .ref t], rfl, st_of htt, rfl, _, _, rfl, _, _, rfl, rfl, ?_⟩
        have hp0 : ∀ {H5 : Hp}, Ex H4 H5 → Ev (tOp (rIxT K) (tVar 5) (tC (V.int 0))) [some (.ref p), some (.ref kn), some (.ref pn), some (.int ah), some (.int (i : Nat)), some (.ref t)] H5 (.int k.1) := fun e => ev_op (ev_var rfl) ev_c (rv_ixT (ex_t e hsq) at0)
        have hp1 : ∀ {H5 : Hp}, Ex H4 H5 → Ev (tOp (rIxT K) (tVar 5) (tC (V.int 1))) [some (.ref p), some (.ref kn), some (.ref pn), some (.int ah), some (.int (i : Nat)), some (.ref t)] H5 (.str k.2) := fun e => ev_op (ev_var rfl) ev_c (rv_ixT (ex_t e hsq) (atI_nat (j := 1) rfl))
        refine q_when (b := false) (et_is (et_or (et_test (ev_op (ev_var rfl) ev_c (rv_eq rfl))) fun _ => et_or (et_not (et_B (ev_isi (b := "tuple") (ev_var rfl) hdp4))) fun _ => et_or (et_test (ev_op (ev_lenS (ev_var rfl) (.inr hsq)) ev_c (rv_ne rfl))) fun _ => et_not (et_B (ev_call (ea_cons (hp0 (Ex.refl _)) (ea_cons (ev_var rfl) (ea_cons ev_c ea_nil))) (sv_within (d := .int k.1) (.int k.1))))) ?_) (fun h => by cases h) fun _ H5 e5 => ?_
        · have z1 : decide (V.int ((i : Nat) : Int) = V.int 400) = false := decide_eq_false fun e => by have := V.int.inj e; omega
          have z2 : withinD (.int k.1) ah 500 = true := by unfold withinD; simp [k1, k3]
          rw [z1, z2]
          rfl
        · have eN : Ex H2 H5 := e3.trans (e4.trans e5)
          have hpn5 := eN _ _ hpn
          refine q_when (b := false) (et_is (et_or (et_not (et_B (ev_isi (b := "str") (hp1 e5) (d := .str k.2) (.str k.2)))) fun _ => et_test (ev_op (hp1 e5) (ev_var rfl) (rv_niL (sq_of hpn5) rfl (by rw [List.all_map]; exact List.all_eq_true.mpr fun _ _ => rfl)))) (by rw [inV_strs, decide_eq_true k2]; rfl)) (fun h => by cases h) fun _ H6 e6 => ?_
          refine s_asg (hp0 (e5.trans e6)) fun H7 e7 => ⟨hlt, eN.trans (e6.trans e7), k.1, _, _, rfl, k4⟩
    · have : i = ks.length := by omega
      subst this
      exact .inl ⟨⟨xs, ex_l eH hkn, by omega⟩, q H' eH⟩
end
end KW
end
section
set_option Elab.async false
set_option linter.all false
set_option autoImplicit false
set_option maxRecDepth 100000
set_option maxHeartbeats 1000000
/-! runs.py: run; what a Run tells -/
namespace KW
open PySem PySem.Spec PyProof.Rows L2 He KR Evl
local macro_rules
  | `(tactic| walk_at "na") => `(tactic| with_reducible (first | exact cl_Line (by assumption) | exact cl_Job (by assumption) | exact cl_Engine (by assumption) | exact cl_Plan (by assumption) | exact cl_Run (by assumption) | exact cl_Bench (by assumption) | exact na_Line_name (by assumption) | exact na_Line_rank (by assumption) | exact na_Line_is_up (by assumption) | exact na_Line_guard (by assumption) | exact na_Line_top (by assumption) | exact na_Line_let_by (by assumption) | exact na_Line_shut_till (by assumption) | exact na_Line_since (by assumption) | exact na_Line_fresh (by assumption) | exact na_Line_counts (by assumption) | exact na_Line_longest (by assumption) | exact na_Job_word (by assumption) | exact na_Job_name (by assumption) | exact na_Job_rank (by assumption) | exact na_Job_steps (by assumption) | exact na_Job_masks_then (by assumption) | exact na_Job_at (by assumption) | exact na_Job_left (by assumption) | exact na_Engine_plan (by assumption) | exact na_Engine_ways (by assumption) | exact na_Engine_tops (by assumption) | exact na_Engine_bottom (by assumption) | exact na_Engine_put_off (by assumption) | exact na_Engine_woken (by assumption) | exact na_Engine_begun (by assumption) | exact na_Engine_depth (by assumption) | exact na_Engine_now (by assumption) | exact na_Engine_row (by assumption) | exact na_Engine_depths (by assumption) | exact na_Engine_last_begun (by assumption) | exact na_Plan_row (by assumption) | exact na_Plan_low (by assumption) | exact na_Plan_late (by assumption) | exact na_Run_row (by assumption) | exact na_Run_depths (by assumption) | exact na_Run_table (by assumption) | exact na_Run_longest (by assumption) | exact na_Bench_engine (by assumption) | exact na_Bench_fresh (by assumption) | exact na_Bench_told_so_far (by assumption) | exact na_Bench_rows (by assumption)))
local macro_rules
  | `(tactic| walk_at "oi") => `(tactic| first | assumption | exact oi2 0 (by assumption) rfl | exact oi2 1 (by assumption) rfl | exact oi2 2 (by assumption) rfl | exact oi2 3 (by assumption) rfl | exact oi2 4 (by assumption) rfl | exact oi2 5 (by assumption) rfl | exact oi2 6 (by assumption) rfl | exact oi2 7 (by assumption) rfl | exact oi2 8 (by assumption) rfl)
local macro_rules
  | `(tactic| walk_at "ev") => `(tactic| repeat' (first
    | exact ev_c | exact ev_var rfl | exact ea_nil | exact rv_I0 | exact ru_neg | exact eo_none
    | exact rv_eq rfl | exact rv_ne rfl
    | exact rv_ixT (by assumption) (by rfl) | exact rv_ixL (by assumption) (by rfl)
    | exact sv_q (by assumption) (by assumption) | exact sv_within (by assumption)
    | exact Or.inr (by assumption) | exact Or.inl (by assumption) | (show (_ : String) ∈ _; decide)
    | with_reducible (first | apply ev_isi | apply ev_lenS | apply ev_if' | apply et_test | apply et_B | apply et_not | apply et_and | apply et_or | apply ev_andV | apply ev_orV | apply ev_notV | apply ea_cons | apply eo_some | apply ev_fl | apply ev_op | apply ev_un | apply ev_call)
    | walk_at "na" | walk_at "oi" | (show List.lookup _ _ = _; rfl)
    | assumption
    | (with_reducible intro hh; first | exact absurd (show true = false from hh) (by decide) | exact absurd (show false = true from hh) (by decide) | clear hh)))

section
variable {P : Program} {w : World} {K : PySem.W.Frag} {mg : Str → Option Value} {base : Heap}
theorem sc_run : FnScope ["plan", "knocks", "ticks", "engine", "tick", "at", "name"] ["plan", "knocks", "ticks"] (defScope s_run) := ⟨rfl, rfl, rfl, by decide +kernel, rfl, by decide +kernel, by decide +kernel⟩
theorem el_lcP {tl te : TE} {tt : TT} {σ : L2.St} {H : Hp} {a : Addr} {xs : List V} {j1 j2 : Nat} {vs : List Nat} {n : Nat} (hn : n = 2) (ks : List (Int × Str)) (p : Int × Str → Bool) (g : Int × Str → V) (h : Ev tl σ H (.ref a)) (hx : SqL K H a xs) (hd : DpAll K H xs (ks.map knockD)) (hz : ks.length ≤ 40000) (hw : ∀ x y, wipe (((wipe σ vs).set j1 (some x)).set j2 (some y)) vs = wipe σ vs)
    (ht : ∀ q ∈ ks, EvT tt (((wipe σ vs).set j1 (some (.int q.1))).set j2 (some (.str q.2))) H (p q)) (he : ∀ q ∈ ks, p q = true → Ev te (((wipe σ vs).set j1 (some (.int q.1))).set j2 (some (.str q.2))) H (g q)) : EvL (tLc (iList K tl) (gTup K n (gCons (gName j1) (gCons (gName j2) gNil))) tt te vs) σ H ((ks.filter p).map g) := fun H0 e Q q => h H0 e _ fun H1 e1 => by
  have hlen := dpLen hd
  rw [List.length_map] at hlen
  have key := given_some ks p g
  refine ⟨a, rfl, ⟨xs, ex_l (e.trans e1) hx⟩, fun Dl hD => lc_list (xs := xs) (Cw H1 (fun i => ((ks[i]?).map p).getD false) (fun i => ((ks[i]?).map g).getD .non) Dl) ⟨hD, Ex.new hD, upd_same⟩ (fun i H' _ c => ex_l ((e.trans e1).trans c.2.1) hx) (fun i x H' hi c => ?_) (fun H' c => ?_)⟩
  · have hil := (List.getElem?_eq_some_iff.mp hi).1
    obtain ⟨d, h1, h2⟩ := daG hd hi
    rw [List.getElem?_map] at h1
    cases hk : ks[i]? with
    | none => rw [hk] at h1; cases h1
    | some k =>
      rw [hk] at h1
      cases h1
      have hm := List.mem_of_getElem? hk
      obtain ⟨t, rfl, hsq⟩ := knock_at (dpM ((e.trans e1).trans c.2.1) h2)
      refine ⟨t, _, rfl, hsq, hn.symm ▸ rfl, _, _, rfl, _, _, rfl, rfl, hw _ _, cw_turn c (by omega) ?_ ?_⟩
      · rw [hk]
        exact (ht k hm).mono (e.trans e1)
      · intro hp
        rw [hk] at hp ⊢
        exact (he k hm hp).mono (e.trans e1)
  · have c3 := c.2.2
    rw [hlen, key] at c3
    exact q Dl H' (fresh_back e1 c.1) (e1.trans c.2.1) c3
theorem int_dec (x y : Int) : decide (V.int x = V.int y) = decide (x = y) := by
  by_cases h : x = y
  · rw [h]; simp
  · have : ¬ V.int x = V.int y := fun z => h (V.int.inj z)
    simp [h, this]
/-- a run of so many ticks -/
def spRun (K : PySem.W.Frag) : Sp := fun vs H Q E => ∃ (G : Hp) (p kn : Addr) (v : V) (d : PyData) (R B T : List PyData) (xs : List V) (ks : List (Int × Str)), vs = [.ref p, .ref kn, v] ∧ Same G H ∧ PlanAt K G p R B T ∧ planOkD (.list R) (.list B) (.list T) = true ∧ (SqL K G kn xs ∧ DpAll K G xs (ks.map knockD)) ∧ ks.length ≤ 400 ∧ knocksOk (R.map nameD) 0 ks = true ∧ Dp K H v d ∧
  (withinD d 0 900 = false → ∀ H', Ex H H' → E (.ref (g_BadTicks K)) none H') ∧ ∀ t : Nat, d = .int t → t ≤ 900 → ∀ r G' H', Same G G' → Same G' H' → RunAt K G' r (runTo (newEng R B T) ks t).told → Q (.ref r) H'
theorem ok_run (T : Txt w K mg) : FnOk P w K mg base (L2.CX P w) 8 (f_run K) (fdAt K (f_run K)) ["plan", "knocks", "ticks"] (spRun K) := by
  refine (df_run T).ok sc_run (fun vs H Q E h => ?_) (fun cdv A outer s H vs Q E hr h => ?_)
  · obtain ⟨_, _, _, _, _, _, _, _, _, _, rfl, _⟩ := h
    rfl
  · obtain ⟨G, p, kn, v, d, R, B, Td, xs, ks, rfl, sG, hp, hok, ⟨hkn, hks⟩, hz, hko, hv, qE, q⟩ := h
    obtain ⟨_, h_MOST_TICKS⟩ := in_MOST_TICKS T
    have pl := plan_parts hok
    refine ⟨_, (pss_cons (ps_expr (pe_call (ok_check_knocks T) (hr.mono (by decide)) rfl (gl_check_knocks T) (df_check_knocks T).kp (bi_check_knocks T) .nil pass0 (pa_cons (pv 0) (pa_cons (pv 1) pa_nil))))
      (pss_cons (ps_if (pt_not (pt_val (pe_call (ok_within T) (hr.mono (by decide)) rfl (gl_within T) (df_within T).kp (bi_within T) .nil pass0 (pa_cons (pv 2) (pa_cons pe_int (pa_cons (pe_glob (v := .int 900) rfl h_MOST_TICKS ⟨_, rfl⟩) pa_nil)))))) (pss_one (ps_raise rfl (takes_of rfl rfl rfl rfl)  (pmk_own PySem.F.excBase_ValueError (ec_BadTicks T).1 (gl_BadTicks T) (ec_BadTicks T).2.1 (raises_own (ec_BadTicks T).2.2.1 (ec_BadTicks T).2.2.2) rfl))) pss_nil)
      (pss_cons (ps_set (i := 3) sc_run.nd rfl (Or.inl rfl) (pe_make (mk_Engine T) (ok_Engine_init T) (hr.mono (by decide)) rfl (gl_Engine T) (bi_Engine_init T) .nil pass0 (pa_cons (pv 0) pa_nil)))
      (pss_cons (ps_for (passes_of rfl) rfl (pi_range1 (by rfl) (fr_range T) (pa_cons (pv 2) pa_nil)) (pg_name (i := 4) sc_run.nd rfl (Or.inr rfl)) (pss_one (ps_expr (pe_meth (pv 3) (cl_Engine T) (me_Engine_go T) (ok_Engine_go T) (hr.mono (by decide)) (bi_Engine_go T) .nil pass0 (pa_cons (pe_lc (own := [("at", 5), ("name", 6)]) (g := gTup K 2 (gCons (gName 5) (gCons (gName 6) (gNil)))) rfl sc_run.nd (pi_listK (K := K) rfl (pv 1)) (blkOk_by (N := ["plan", "knocks", "ticks", "engine", "tick", "at", "name"]) (sc := defScope s_run) (by decide +kernel)) (fun _ _ _ _ _ => pg_tupK rfl (K := K) rfl (pgs_cons (pg_name (i := 5) sc_run.nd rfl (Or.inl rfl)) (pgs_cons (pg_name (i := 6) sc_run.nd rfl (Or.inl rfl)) pgs_nil))) (fun _ _ _ _ _ => (pts_one (pt_cmpR op_eq (pv 5) (pv 4) (nomark _)))) (fun _ _ _ _ _ => (pv 6))) pa_nil)))))
      (pss_one (ps_ret (pe_make (mk_Run T) (ok_Run_init T) (hr.mono (by decide)) rfl (gl_Run T) (bi_Run_init T) .nil pass0 (pa_cons (pv 3) pa_nil)))))))), ?_⟩
    refine ⟨.ref p, rfl, .ref kn, rfl, p, kn, R, B, Td, xs, ks, rfl, ⟨plan_mono sG hp, pl⟩, ⟨sL sG hkn, daM sG hks⟩, hz, hko, fun H1 e1 => ?_⟩
    dsimp only
    refine q_when (b := !withinD d 0 900) (et_not (et_B (ev_call (ea_cons (ev_var rfl) (ea_cons ev_c (ea_cons ev_c ea_nil))) (sv_within (dpM e1 hv))))) (fun hb H2 e2 => ?_) fun hb H2 e2 => ?_
    · exact qE (by simpa using hb) H2 (e1.trans e2)
    · have hw : withinD d 0 900 = true := by simpa using hb
      obtain ⟨ti, rfl, t0, t1⟩ := within_inv hw
      obtain ⟨t, rfl⟩ : ∃ t : Nat, ti = t := ⟨ti.toNat, by omega⟩
      have s2 : Same G H2 := sG.trans (e1.trans e2)
      have hvv := dpI hv
      subst hvv
      refine q_make (vs := [.ref p]) (ea_cons (ev_var rfl) ea_nil) fun H3 x dx e3 nx ndx hne => ?_
      have o3 : Own G H3 [] := Own.nil (s2.trans e3)
      refine ⟨G, [], x, dx, p, R, B, Td, rfl, Own.new (o3.same (Ex.new ndx)) (by rw [upd_ne (Ne.symm hne)]; exact nx), hp, hok, fun e H4 hm0 ha0 _ k0 o4 => ⟨rfl, ?_⟩⟩
      subst ha0
      refine q_forR1 (n := t) (ea_cons (ev_var rfl) ea_nil) ⟨by omega, by omega⟩ (fun i σ' H' => ∃ G' e2 s4 s5 s6, Same G G' ∧ Own G' H' (e2.obs K ++ []) ∧ EngK K G' e2 ∧ e2.a = e.a ∧ e2.m = runTo (newEng R B Td) ks i ∧ σ' = [some (.ref p), some (.ref kn), some (.int t), some (.ref e.a), s4, s5, s6]) (fun H5 e5 => ⟨G, e, none, none, none, Same.refl _, o4.same e5, k0, rfl, hm0, rfl⟩) (fun i σ' H' hi h => ?_) (fun σ' H' h => ?_)
      · obtain ⟨G', e2, s4, s5, s6, sg, o5, k5, ha5, hm5, rfl⟩ := h
        have ri := run_i (kn := ks) hok i
        rw [← hm5] at ri
        refine ⟨.ref e.a, rfl, e.a, e2.dx, e2.fs, rfl, by rw [← ha5]; exact oi2 0 o5 rfl, rfl, ?_⟩
        refine (el_lcP rfl ks (fun q => decide (q.1 = (i : Int))) (fun q => V.str q.2) (ev_var rfl) (sL (sg.trans o5.sub) hkn) (daM (sg.trans o5.sub) hks) (by omega) (fun _ _ => rfl) (fun q hq => et_is (et_test (ev_op (ev_var rfl) (ev_var rfl) (rv_eq rfl))) (int_dec _ _)) fun q hq _ => ev_var rfl) H' (Ex.refl _) _ fun kq H6 nq e6 hq => ?_
        obtain ⟨o6, s6'⟩ := own_keep o5 e6 nq hq
        have hat : ((ks.filter fun q => decide (q.1 = (i : Int))).map fun q => V.str q.2) = (knocksAt ks i).map V.str := by unfold knocksAt; rw [List.map_map]; rfl
        have hkl := knocksAt_le ks i
        have hup := upTo_le ks i
        refine ⟨_, e2, [], kq, knocksAt ks i, by rw [ha5]; rfl, o6, k5.mono s6', by rw [← hat]; exact sq_of upd_same, ri.inv, ⟨?_, ?_, by omega, fun l hl => ?_⟩, fun n hn => ?_, fun G7 e7 r wh H7 s7 hm7 ha7 _ _ k7 o7 => ⟨G7, e7, _, _, _, sg.trans (s6'.trans s7), o7, k7, ha7.trans ha5, ?_, rfl⟩⟩
        · have z1 := k5.row.len
          have z2 : e2.rowD.length = i := ri.row
          omega
        · have z2 : e2.depths.length = i := ri.depths
          omega
        · have z := ri.lb l.m (List.mem_map.mpr ⟨l, hl, rfl⟩)
          omega
        · have z := knocksAt_mem hko n hn
          have y : e2.R = R := ri.same.1
          rw [y]
          exact z
        · rw [hm7, hm5]
          rfl
      · obtain ⟨G', e2, s4, s5, s6, sg, o5, k5, ha5, hm5, rfl⟩ := h
        rw [Int.toNat_natCast] at hm5
        have ri := run_i (kn := ks) hok t
        rw [← hm5] at ri
        refine ⟨.ref e.a, rfl, fun r rdx nr nrdx hne2 => ?_⟩
        have o6 : Own G' _ ((r, .ins (g_Run K) rdx []) :: (e2.obs K ++ [])) := Own.new (o5.same (Ex.new (o := .own r) nrdx)) (by rw [upd_ne (Ne.symm hne2)]; exact nr)
        refine ⟨G', [], r, rdx, e2, by rw [ha5]; rfl, o6, k5, ri.inv, ⟨?_, ?_⟩, fun G7 H7 s7 hR o7 => ⟨rfl, q t rfl (by omega) r G7 H7 (sg.trans s7) o7.sub (by rw [← hm5]; exact hR)⟩⟩
        · have z1 := k5.row.len
          have z2 : e2.rowD.length = t := ri.row
          omega
        · have z2 : e2.depths.length = t := ri.depths
          omega
theorem sc_Run_who : FnScope ["self"] ["self"] (defScope s_Run_who) := ⟨rfl, rfl, rfl, by decide +kernel, rfl, by decide +kernel, by decide +kernel⟩
def spWho (K : PySem.W.Frag) : Sp := fun vs H Q _ => ∃ (r : Addr) (m : RunM), vs = [.ref r] ∧ RunAt K H r m ∧ ∀ q xs H', H q = none → Ex H H' → H' q = some (.lst xs) → RowK K H xs m.row → Q (.ref q) H'
theorem ok_Run_who (T : Txt w K mg) : FnOk P w K mg base CX0 1 (f_Run_who K) (fdAt K (f_Run_who K)) ["self"] (spWho K) := by
  refine (df_Run_who T).ok sc_Run_who (fun vs H Q E h => ?_) (fun cdv A outer s H vs Q E hr h => ?_)
  · obtain ⟨_, _, rfl, _⟩ := h
    rfl
  · obtain ⟨r, m, rfl, hR, q⟩ := h
    refine ⟨_, PSs.nox ((pss_one (ps_ret (pe_callTy (call_listK (K := K) rfl) (by rfl) (fr_list T) (by decide +kernel) (pa_cons (pe_fldK (K := K) rfl (pv 0) rfl) pa_nil))))), ?_⟩
    obtain ⟨dx, aR, aD, aT, aL, vs, kt, h0, ⟨h1, k1⟩, _⟩ := hR
    exact s_retL (el_listS (ev_fl (ev_var rfl) h0 (cl_Run T) (na_Run_row T) rfl) (.inl (sq_of h1))) fun p H1 hn e1 hp => q p vs H1 hn e1 hp k1
end
end KW
end
section
set_option Elab.async false
set_option linter.all false
set_option autoImplicit false
set_option maxRecDepth 100000
set_option maxHeartbeats 400000
/-! benches as such -/
namespace KW
open PySem EngM
/-- goes on till a line's top begins, for at most so many ticks -/
def untilM (n : Str) : Nat → EngM → List Str → Option EngM
  | 0, m, _ => if n ∈ m.last then some m else none
  | k + 1, m, ks => if n ∈ m.last then some m else untilM n k (m.go ks) []
/-- what holds of a bench's engine -/
structure BI (R B T : List PyData) (m : EngM) (t : Nat) : Prop where
  inv : Inv m
  same : m.R = R ∧ m.B = B ∧ m.T = T
  row : m.now = m.row.length
  depths : m.depths.length = m.row.length
  lb : ∀ l ∈ m.ways, l.let_by.length ≤ t
  last : m.last.length ≤ 1000
theorem bi_new {R B T : List PyData} (h : planOkD (.list R) (.list B) (.list T) = true) : BI R B T (newEng R B T) 0 := by
  have r := run_i (kn := []) h 0
  have r : RunI R B T [] 0 (newEng R B T) := r
  exact ⟨r.inv, r.same, rfl, rfl, r.lb, Nat.zero_le _⟩
theorem bi_last {R B T : List PyData} {m : EngM} {t : Nat} (h : BI R B T m t) : BI R B T { m with last := [] } t := ⟨inv_out h.inv rfl rfl rfl rfl rfl rfl rfl rfl rfl rfl, h.same, h.row, h.depths, h.lb, Nat.zero_le _⟩
theorem bi_go {R B T : List PyData} {m : EngM} {t : Nat} (h : BI R B T m t) (ns : List Str) : BI R B T (m.go ns) (t + ns.length) := by
  have g := go_of h.inv ns
  refine ⟨g.inv, ⟨g.same.1.trans h.same.1, g.same.2.1.trans h.same.2.1, g.same.2.2.trans h.same.2.2⟩, ?_, ?_, g.lb _ h.lb, g.last⟩
  · rw [g.now, g.row, h.row]; rfl
  · rw [g.depths, g.row, h.depths]
theorem bi_until {R B T : List PyData} {n : Str} : ∀ {k : Nat} {m m' : EngM} {ks : List Str} {t : Nat}, BI R B T m t → untilM n k m ks = some m' → BI R B T m' (t + ks.length) ∧ m'.now ≤ m.now + k
  | 0, m, m', ks, t, h, e => by
    unfold untilM at e
    split at e
    · cases e
      exact ⟨⟨h.inv, h.same, h.row, h.depths, fun l hl => Nat.le_trans (h.lb l hl) (Nat.le_add_right ..), h.last⟩, by omega⟩
    · cases e
  | k + 1, m, m', ks, t, h, e => by
    unfold untilM at e
    split at e
    · cases e
      exact ⟨⟨h.inv, h.same, h.row, h.depths, fun l hl => Nat.le_trans (h.lb l hl) (Nat.le_add_right ..), h.last⟩, by omega⟩
    · have z := bi_until (bi_go h ks) e
      have g := (go_of h.inv ks).now
      exact ⟨z.1, by have := z.2; omega⟩
end KW
end
section
set_option Elab.async false
set_option linter.all false
set_option autoImplicit false
set_option maxRecDepth 100000
set_option maxHeartbeats 1000000
/-! bench.py: check_name, a bench made, tick -/
namespace KW
open PySem PySem.Spec PyProof.Rows L2 He KR Evl
local macro_rules
  | `(tactic| walk_at "na") => `(tactic| with_reducible (first | exact cl_Line (by assumption) | exact cl_Job (by assumption) | exact cl_Engine (by assumption) | exact cl_Plan (by assumption) | exact cl_Run (by assumption) | exact cl_Bench (by assumption) | exact na_Line_name (by assumption) | exact na_Line_rank (by assumption) | exact na_Line_is_up (by assumption) | exact na_Line_guard (by assumption) | exact na_Line_top (by assumption) | exact na_Line_let_by (by assumption) | exact na_Line_shut_till (by assumption) | exact na_Line_since (by assumption) | exact na_Line_fresh (by assumption) | exact na_Line_counts (by assumption) | exact na_Line_longest (by assumption) | exact na_Job_word (by assumption) | exact na_Job_name (by assumption) | exact na_Job_rank (by assumption) | exact na_Job_steps (by assumption) | exact na_Job_masks_then (by assumption) | exact na_Job_at (by assumption) | exact na_Job_left (by assumption) | exact na_Engine_plan (by assumption) | exact na_Engine_ways (by assumption) | exact na_Engine_tops (by assumption) | exact na_Engine_bottom (by assumption) | exact na_Engine_put_off (by assumption) | exact na_Engine_woken (by assumption) | exact na_Engine_begun (by assumption) | exact na_Engine_depth (by assumption) | exact na_Engine_now (by assumption) | exact na_Engine_row (by assumption) | exact na_Engine_depths (by assumption) | exact na_Engine_last_begun (by assumption) | exact na_Plan_row (by assumption) | exact na_Plan_low (by assumption) | exact na_Plan_late (by assumption) | exact na_Run_row (by assumption) | exact na_Run_depths (by assumption) | exact na_Run_table (by assumption) | exact na_Run_longest (by assumption) | exact na_Bench_engine (by assumption) | exact na_Bench_fresh (by assumption) | exact na_Bench_told_so_far (by assumption) | exact na_Bench_rows (by assumption)))
local macro_rules
  | `(tactic| walk_at "oi") => `(tactic| first | assumption | exact oi2 0 (by assumption) rfl | exact oi2 1 (by assumption) rfl | exact oi2 2 (by assumption) rfl | exact oi2 3 (by assumption) rfl | exact oi2 4 (by assumption) rfl | exact oi2 5 (by assumption) rfl | exact oi2 6 (by assumption) rfl | exact oi2 7 (by assumption) rfl | exact oi2 8 (by assumption) rfl)
local macro_rules
  | `(tactic| walk_at "ev") => `(tactic| repeat' (first
    | exact ev_c | exact ev_var rfl | exact ea_nil | exact rv_I0 | exact ru_neg | exact eo_none
    | exact rv_eq rfl | exact rv_ne rfl
    | exact rv_ixT (by assumption) (by rfl) | exact rv_ixL (by assumption) (by rfl)
    | exact sv_q (by assumption) (by assumption) | exact sv_within (by assumption)
    | exact Or.inr (by assumption) | exact Or.inl (by assumption) | (show (_ : String) ∈ _; decide)
    | with_reducible (first | apply ev_isi | apply ev_lenS | apply ev_if' | apply et_test | apply et_B | apply et_not | apply et_and | apply et_or | apply ev_andV | apply ev_orV | apply ev_notV | apply ea_cons | apply eo_some | apply ev_fl | apply ev_op | apply ev_un | apply ev_call)
    | walk_at "na" | walk_at "oi" | (show List.lookup _ _ = _; rfl)
    | assumption
    | (with_reducible intro hh; first | exact absurd (show true = false from hh) (by decide) | exact absurd (show false = true from hh) (by decide) | clear hh)))

section
variable {P : Program} {w : World} {K : PySem.W.Frag} {mg : Str → Option Value} {base : Heap}
theorem sc_Bench_check_name : FnScope ["self", "name"] ["self", "name"] (defScope s_Bench_check_name) := ⟨rfl, rfl, rfl, by decide +kernel, rfl, by decide +kernel, by decide +kernel⟩
def lineNameD (R : List PyData) : PyData → Bool
  | .str s => decide (s ∈ R.map nameD)
  | _ => false
def spCheckN (K : PySem.W.Frag) : Sp := fun vs H Q E => ∃ (a ea p dx dx2 : Addr) (fs fs2 : List (Str × V)) (v : V) (d : PyData) (R B T : List PyData), vs = [.ref a, v] ∧ H a = some (.ins (g_Bench K) dx fs) ∧ fs.lookup (Str.ofString "engine") = some (.ref ea) ∧ H ea = some (.ins (g_Engine K) dx2 fs2) ∧ fs2.lookup (Str.ofString "plan") = some (.ref p) ∧ PlanAt K H p R B T ∧ PlanP R B T ∧ Dp K H v d ∧
  (lineNameD R d = false → ∀ H', Ex H H' → E (.ref (g_BadName K)) none H') ∧ (lineNameD R d = true → ∀ H', Ex H H' → Q .non H')
theorem ev_niN {te tl : TE} {σ : L2.St} {H : Hp} {v : V} {xs : List V} (h : Ev te σ H v) (hv : flatV v = true) (hx : xs.all flatV = true) (hl : EvL tl σ H xs) : Ev (tOp (rIn K true) te tl) σ H (.bl (!inV v xs)) := fun H1 e1 Q q =>
  h H1 e1 _ fun H2 e2 => hl H2 (e1.trans e2) _ fun p H3 np e3 hp => rv_niL (sq_of hp) hv hx H3 (Ex.refl _) _ fun H4 e4 => q H4 (e2.trans (e3.trans e4))
theorem ok_Bench_check_name (T : Txt w K mg) : FnOk P w K mg base (L2.CX P w) 3 (f_Bench_check_name K) (fdAt K (f_Bench_check_name K)) ["self", "name"] (spCheckN K) := by
  refine (df_Bench_check_name T).ok sc_Bench_check_name (fun vs H Q E h => ?_) (fun cdv A outer s H vs Q E hr h => ?_)
  · obtain ⟨_, _, _, _, _, _, _, _, _, _, _, _, rfl, _⟩ := h
    rfl
  · obtain ⟨a, ea, p, dx, dx2, fs, fs2, v, d, R, B, Td, rfl, h1, l1, h2, l2, hp, pl, hd, qE, q⟩ := h
    refine ⟨_, (pss_one (ps_if (PW.pt (pw_or (pt_not (pt_val (pe_callB (call_isiK1 (K := K) rfl) (by rfl) (fr_isinstance T) (by decide +kernel) (pa_cons (pv 1) (pa_cons (pe_bltn (v := .ty "str") (u := .type "str") (by rfl) (fr_str T) (by decide +kernel) rfl) pa_nil))))) (pw_or1 (pt_cmpR (op_notInK (K := K) rfl) (pv 1) (pe_meth0 (pe_fldK (K := K) rfl (pe_fldK (K := K) rfl (pv 0) rfl) rfl) (cl_Plan T) (me_Plan_names T) (ok_Plan_names T) (hr.mono (by decide)) (bi_Plan_names T) .nil pass0) (by rfl))))) (pss_one (ps_raise rfl (takes_of rfl rfl rfl rfl)  (pmk_own PySem.F.excBase_ValueError (ec_BadName T).1 (gl_BadName T) (ec_BadName T).2.1 (raises_own (ec_BadName T).2.2.1 (ec_BadName T).2.2.2) rfl))) pss_nil)), ?_⟩
    have hf : (!isT (tyD d) "str") = false → ∃ s, d = .str s ∧ v = .str s := fun hs => by
      cases d <;> first | exact ⟨_, rfl, dpS hd⟩ | simp [isT, tyD] at hs
    have hxs : ((R.map nameD).map V.str).all flatV = true := by rw [List.all_map]; exact List.all_eq_true.mpr fun _ _ => rfl
    have hnm : EvL (tMeth (g_Plan K) (Str.ofString "names") (spNames K) [] (fun _ _ _ => False) (tFld K (tFld K (tVar 0) (Str.ofString "engine")) (Str.ofString "plan")) tNil) [some (.ref a), some v] H ((R.map nameD).map V.str) := fun H1 e1 Q q1 => by
      refine ev_fl (ev_fl (ev_var rfl) (e1 _ _ h1) (cl_Bench T) (na_Bench_engine T) l1) (e1 _ _ h2) (cl_Engine T) (na_Engine_plan T) l2 H1 (Ex.refl _) _ fun H2 e2 => ?_
      obtain ⟨dx, _, _, _, _, _, _, h0, _⟩ := id hp
      exact ⟨p, dx, _, rfl, (e1.trans e2) _ _ h0, rfl, p, R, B, Td, rfl, plan_mono (e1.trans e2) hp, pl, fun pn H3 np e3 hpn => q1 pn H3 (fresh_back e2 np) (e2.trans e3) hpn⟩
    refine s_when (b := !lineNameD R d) (et_is (et_or (et_not (et_B (ev_isi (b := "str") (ev_var rfl) hd))) fun hs => et_test (b := !lineNameD R d) (ev_is (ev_niN (ev_var rfl) (by obtain ⟨s, _, rfl⟩ := hf hs; rfl) hxs hnm) ?_)) ?_) (fun hb H1 e1 => ?_) fun hb H1 e1 => ?_
    · obtain ⟨s, rfl, rfl⟩ := hf hs
      rw [inV_strs]
      rfl
    · cases d <;> rfl
    · exact qE (by simpa using hb) H1 e1
    · exact q (by simpa using hb) H1 e1
/-- a bench, known as one -/
structure BenchG where
  a : Addr
  dx : Addr
  e : EngG
  aF : Addr
  fresh : List Str
  told : Nat
  aR : Addr
  rows : List V
  rowsD : List (Str × Str)
def BenchG.fs (b : BenchG) : List (Str × V) := [("engine", .ref b.e.a), ("fresh", .ref b.aF), ("told_so_far", .int b.told), ("rows", .ref b.aR)]
def BenchG.obs (K : PySem.W.Frag) (b : BenchG) : List (Addr × HO) := (b.a, .ins (g_Bench K) b.dx b.fs) :: (b.aR, .lst b.rows) :: b.e.obs K
def logD (p : Str × Str) : PyData := .tuple [.str p.1, .str p.2]
structure BenchK (K : PySem.W.Frag) (G : Hp) (b : BenchG) : Prop where
  eng : EngK K G b.e
  fresh : G b.aF = some (.lst (b.fresh.map V.str))
  rows : DpAll K G b.rows (b.rowsD.map logD)
theorem BenchK.mono {G G' : Hp} {b : BenchG} (e : Same G G') (k : BenchK K G b) : BenchK K G' b := ⟨k.eng.mono e, e _ _ k.fresh, daM e k.rows⟩
def spTick (K : PySem.W.Frag) : Sp := fun vs H Q _ => ∃ (G : Hp) (F : List (Addr × HO)) (b : BenchG), vs = [.ref b.a] ∧ Own G H (b.obs K ++ F) ∧ ∀ H', Ex H H' → Q (.int b.e.now) H'
theorem sc_Bench_tick : FnScope ["self"] ["self"] (defScope s_Bench_tick) := ⟨rfl, rfl, rfl, by decide +kernel, rfl, by decide +kernel, by decide +kernel⟩
theorem ok_Bench_tick (T : Txt w K mg) : FnOk P w K mg base CX0 1 (f_Bench_tick K) (fdAt K (f_Bench_tick K)) ["self"] (spTick K) := by
  refine (df_Bench_tick T).ok sc_Bench_tick (fun vs H Q E h => ?_) (fun cdv A outer s H vs Q E hr h => ?_)
  · obtain ⟨_, _, _, rfl, _⟩ := h
    rfl
  · obtain ⟨G, F, b, rfl, o, q⟩ := h
    refine ⟨_, PSs.nox ((pss_one (ps_ret (pe_fldK (K := K) rfl (pe_fldK (K := K) rfl (pv 0) rfl) rfl)))), ?_⟩
    exact s_ret (ev_fl (ev_fl (ev_var rfl) (oi2 0 o rfl) (cl_Bench T) (na_Bench_engine T) rfl) (oi2 2 o rfl) (cl_Engine T) (na_Engine_now T) rfl) fun H1 e1 => q H1 e1
def spBenchNew (K : PySem.W.Frag) : Sp := fun vs H Q _ => ∃ (G : Hp) (F : List (Addr × HO)) (a dx p : Addr) (R B T : List PyData), vs = [.ref a, .ref p] ∧ Own G H ((a, .ins (g_Bench K) dx []) :: F) ∧ PlanAt K G p R B T ∧ planOkD (.list R) (.list B) (.list T) = true ∧
  ∀ (b : BenchG) G' H', b.a = a → b.e.m = newEng R B T → b.e.plan = p → b.fresh = [] → b.told = 0 → b.rowsD = [] → Same G G' → BenchK K G' b → Own G' H' (b.obs K ++ F) → Q .non H'
theorem sc_Bench_init : FnScope ["self", "plan"] ["self", "plan"] (defScope s_Bench_init) := ⟨rfl, rfl, rfl, by decide +kernel, rfl, by decide +kernel, by decide +kernel⟩
theorem q_fldMake {C : Addr} {sp : Sp} {E : XK} {ta : TE} {tA : TA} {f : Str} {vs : List V} {σ : L2.St} {H : Hp} {tz : TS} {D : Ends} (hA : EvA tA σ H vs)
    (k : ∀ H1 x dx, Ex H H1 → H1 x = none → H1 dx = none → dx ≠ x → sp (.ref x :: (vs ++ [])) (upd (upd H1 dx (.own x)) x (.ins C dx [])) (fun v H2 => v = .non ∧ tSeq (sFld K ta (fun _ H Q => Q (.ref x) H) f) tz D σ H2) E) : tSeq (sFld K ta (tMake C sp [] E tA) f) tz D σ H :=
  s_fldMake (D := { D with nx := tz D }) hA k
theorem ok_Bench_init (T : Txt w K mg) : FnOk P w K mg base (L2.CX P w) 5 (f_Bench_init K) (fdAt K (f_Bench_init K)) ["self", "plan"] (spBenchNew K) := by
  refine (df_Bench_init T).ok sc_Bench_init (fun vs H Q E h => ?_) (fun cdv A outer s H vs Q E hr h => ?_)
  · obtain ⟨_, _, _, _, _, _, _, _, rfl, _⟩ := h
    rfl
  · obtain ⟨G, F, a, dx, p, R, B, Td, rfl, o, hp, hok, q⟩ := h
    refine ⟨_, (pss_cons (ps_if (pt_not (pt_val ((pe_callB (C8.call_isC (isa_Plan T)) (by rfl) (fr_isinstance T) (by decide +kernel) (pa_cons (pv 1) (pa_cons (pe_glob (v := .ref (g_Plan K)) rfl (gl_Plan T) rfl) pa_nil)))))) (pss_one (ps_raise rfl (takes_of rfl rfl rfl rfl)  (pmk_own PySem.F.excBase_ValueError (ec_BadPlan T).1 (gl_BadPlan T) (ec_BadPlan T).2.1 (raises_own (ec_BadPlan T).2.2.1 (ec_BadPlan T).2.2.2) rfl))) pss_nil)
      (pss_cons (ps_fldK (K := K) rfl (pv 0) (pe_make (mk_Engine T) (ok_Engine_init T) (hr.mono (by decide)) rfl (gl_Engine T) (bi_Engine_init T) .nil pass0 (pa_cons (pv 1) pa_nil)))
      (pss_cons (ps_fldK (K := K) rfl (pv 0) (pe_lst pa_nil))
      (pss_cons (ps_fldK (K := K) rfl (pv 0) pe_int)
      (pss_one (ps_fldK (K := K) rfl (pv 0) (pe_lst pa_nil))))))), ?_⟩
    obtain ⟨pdx, _, _, _, _, _, _, h0, _⟩ := id hp
    have hi : Ev (tCB (fun xs H Q => ∃ a dx fs, xs = [V.ref a, .ref (g_Plan K)] ∧ H a = some (.ins (g_Plan K) dx fs) ∧ Q (.bl true) H) (tCons (tVar 1) (tCons (tC (.ref (g_Plan K))) tNil))) [some (.ref a), some (.ref p)] H (.bl true) := fun H1 e1 Q q1 => ⟨.ref p, rfl, p, pdx, _, rfl, e1 _ _ (o.sub _ _ h0), q1 H1 (Ex.refl _)⟩
    refine q_when (b := false) (et_is (et_not (et_B hi)) rfl) (fun h => by cases h) fun _ H1 e1 => ?_
    have o1 := o.same e1
    refine q_fldMake (vs := [.ref p]) (ea_cons (ev_var rfl) ea_nil) fun H2 x xd e2 nx nxd hne => ?_
    refine ⟨G, (a, .ins (g_Bench K) dx []) :: F, x, xd, p, R, B, Td, rfl, Own.new ((o1.same e2).same (Ex.new nxd)) (by rw [upd_ne (Ne.symm hne)]; exact nx), hp, hok, fun e H3 hm0 ha0 hp0 k0 o3 => ⟨rfl, ?_⟩⟩
    subst ha0
    have o3 : Own G H3 ((a, .ins (g_Bench K) dx []) :: (e.obs K ++ F)) := o3.perm List.perm_middle
    refine q_fld (v := .ref e.a) o3 0 rfl ev_k (ev_var rfl) (cl_Bench T) (na_Bench_engine T) (by show (0 : Nat) < 1000; decide) fun H4 o4 => ?_
    refine q_fldL (xs := []) o4 0 rfl (el_lst ea_nil (by decide)) (ev_var rfl) (cl_Bench T) (na_Bench_fresh T) (by show (1 : Nat) < 1000; decide) fun pF H5 o5 => ?_
    refine q_fld (v := .int 0) o5 1 rfl ev_c (ev_var rfl) (cl_Bench T) (na_Bench_told_so_far T) (by show (2 : Nat) < 1000; decide) fun H6 o6 => ?_
    refine s_fldL (xs := []) o6 1 rfl (el_lst ea_nil (by decide)) (ev_var rfl) (cl_Bench T) (na_Bench_rows T) (by show (3 : Nat) < 1000; decide) fun pR H7 o7 => ?_
    have o7 : Own G H7 ((pR, .lst []) :: (pF, .lst []) :: (a, .ins (g_Bench K) dx [("engine", .ref e.a), ("fresh", .ref pF), ("told_so_far", .int (0 : Nat)), ("rows", .ref pR)]) :: (e.obs K ++ F)) := o7
    obtain ⟨G', sg, o8, hh⟩ := own_holds (cs := [(pF, .lst [])]) (o7.perm (List.Perm.swap _ _ _))
    exact q { a := a, dx := dx, e := e, aF := pF, fresh := [], told := 0, aR := pR, rows := [], rowsD := [] } G' H7 rfl hm0 hp0 rfl rfl rfl sg ⟨k0.mono sg, hh _ (List.mem_cons_self ..), .nil⟩ (o8.perm (List.Perm.swap _ _ _))
end
end KW
end
section
set_option Elab.async false
set_option linter.all false
set_option autoImplicit false
set_option maxRecDepth 100000
set_option maxHeartbeats 1000000
/-! bench.py: knock -/
namespace KW
open PySem PySem.Spec PyProof.Rows L2 He KR Evl
local macro_rules
  | `(tactic| walk_at "na") => `(tactic| with_reducible (first | exact cl_Line (by assumption) | exact cl_Job (by assumption) | exact cl_Engine (by assumption) | exact cl_Plan (by assumption) | exact cl_Run (by assumption) | exact cl_Bench (by assumption) | exact na_Line_name (by assumption) | exact na_Line_rank (by assumption) | exact na_Line_is_up (by assumption) | exact na_Line_guard (by assumption) | exact na_Line_top (by assumption) | exact na_Line_let_by (by assumption) | exact na_Line_shut_till (by assumption) | exact na_Line_since (by assumption) | exact na_Line_fresh (by assumption) | exact na_Line_counts (by assumption) | exact na_Line_longest (by assumption) | exact na_Job_word (by assumption) | exact na_Job_name (by assumption) | exact na_Job_rank (by assumption) | exact na_Job_steps (by assumption) | exact na_Job_masks_then (by assumption) | exact na_Job_at (by assumption) | exact na_Job_left (by assumption) | exact na_Engine_plan (by assumption) | exact na_Engine_ways (by assumption) | exact na_Engine_tops (by assumption) | exact na_Engine_bottom (by assumption) | exact na_Engine_put_off (by assumption) | exact na_Engine_woken (by assumption) | exact na_Engine_begun (by assumption) | exact na_Engine_depth (by assumption) | exact na_Engine_now (by assumption) | exact na_Engine_row (by assumption) | exact na_Engine_depths (by assumption) | exact na_Engine_last_begun (by assumption) | exact na_Plan_row (by assumption) | exact na_Plan_low (by assumption) | exact na_Plan_late (by assumption) | exact na_Run_row (by assumption) | exact na_Run_depths (by assumption) | exact na_Run_table (by assumption) | exact na_Run_longest (by assumption) | exact na_Bench_engine (by assumption) | exact na_Bench_fresh (by assumption) | exact na_Bench_told_so_far (by assumption) | exact na_Bench_rows (by assumption)))
local macro_rules
  | `(tactic| walk_at "oi") => `(tactic| first | assumption | exact oi2 0 (by assumption) rfl | exact oi2 1 (by assumption) rfl | exact oi2 2 (by assumption) rfl | exact oi2 3 (by assumption) rfl | exact oi2 4 (by assumption) rfl | exact oi2 5 (by assumption) rfl | exact oi2 6 (by assumption) rfl | exact oi2 7 (by assumption) rfl | exact oi2 8 (by assumption) rfl)
local macro_rules
  | `(tactic| walk_at "ev") => `(tactic| repeat' (first
    | exact ev_c | exact ev_var rfl | exact ea_nil | exact rv_I0 | exact ru_neg | exact eo_none
    | exact rv_eq rfl | exact rv_ne rfl
    | exact rv_ixT (by assumption) (by rfl) | exact rv_ixL (by assumption) (by rfl)
    | exact sv_q (by assumption) (by assumption) | exact sv_within (by assumption)
    | exact Or.inr (by assumption) | exact Or.inl (by assumption) | (show (_ : String) ∈ _; decide)
    | with_reducible (first | apply ev_isi | apply ev_lenS | apply ev_if' | apply et_test | apply et_B | apply et_not | apply et_and | apply et_or | apply ev_andV | apply ev_orV | apply ev_notV | apply ea_cons | apply eo_some | apply ev_fl | apply ev_op | apply ev_un | apply ev_call)
    | walk_at "na" | walk_at "oi" | (show List.lookup _ _ = _; rfl)
    | assumption
    | (with_reducible intro hh; first | exact absurd (show true = false from hh) (by decide) | exact absurd (show false = true from hh) (by decide) | clear hh)))

section
variable {P : Program} {w : World} {K : PySem.W.Frag} {mg : Str → Option Value} {base : Heap}
theorem sc_Bench_knock : FnScope ["self", "name"] ["self", "name"] (defScope s_Bench_knock) := ⟨rfl, rfl, rfl, by decide +kernel, rfl, by decide +kernel, by decide +kernel⟩
def BenchG.put (b : BenchG) (v : V) (r : Str × Str) : BenchG := { b with rows := b.rows ++ [v], rowsD := b.rowsD ++ [r] }
theorem s_row {G H : Hp} {F : List (Addr × HO)} {b : BenchG} {ta te : TE} {σ : L2.St} {D : Ends} {r : Str × Str} (o : Own G H (b.obs K ++ F)) (kb : BenchK K G b) (ha : Ev ta σ H (.ref b.aR)) (he : EvU te σ H [.str r.1, .str r.2]) (hz : b.rowsD.length < 100000)
    (k : ∀ G' v H1, Same G G' → BenchK K G' (b.put v r) → Own G' H1 ((b.put v r).obs K ++ F) → D.nx σ H1) : tDrop (tBM K "list" rAppend ta (tCons te tNil)) D σ H := by
  have hl := dpLen kb.rows
  rw [List.length_map] at hl
  refine s_appU (oi2 1 o rfl) ha he (by omega) fun p H2 np e2 hp => ?_
  obtain ⟨o2, s2⟩ := own_keep o e2 np hp
  refine k _ (.ref p) _ s2 ⟨(kb.eng.mono s2), s2 _ _ kb.fresh, by
    show DpAll K _ (b.rows ++ [.ref p]) ((b.rowsD ++ [r]).map logD)
    rw [List.map_append]
    exact DpAll.append (daM s2 kb.rows) (.cons (.tup (st_of upd_same) (.cons (.str _) (.cons (.str _) .nil))) .nil)⟩ ?_
  exact own_set (L := b.obs K ++ F) (ob := .lst b.rows) (o' := .lst (b.rows ++ [.ref p])) (a := b.aR) o2 (show (b.obs K ++ F)[1]? = _ from rfl)
theorem el_catR {ta tb : TE} {σ : L2.St} {H : Hp} {l : Addr} {xs ys : List V} (ha : Ev ta σ H (.ref l)) (hl : H l = some (.lst xs)) (hb : EvL tb σ H ys) (hz : xs.length + ys.length ≤ 100000) : EvL (tOp rCat ta tb) σ H (xs ++ ys) := fun H1 e Q q =>
  ha H1 e _ fun H2 e2 => hb H2 (e.trans e2) _ fun p H3 np e3 hp => ⟨l, p, xs, ys, rfl, rfl, ((e.trans e2).trans e3) _ _ hl, hp, sz_of hz, fun r nr => q r _ (fresh_back (e2.trans e3) nr) ((e2.trans e3).trans (Ex.new nr)) upd_same⟩
theorem s_methAt {C : Addr} {m : Str} {sp : Sp} {E : L2.St → XK} {ta : TE} {t : TA} {D : Ends} {σ : L2.St} {H : Hp} {a dx : Addr} {fs : List (Str × V)} {vs : List V} (h : Ev ta σ H (.ref a)) (ho : H a = some (.ins C dx fs)) (hl : fs.lookup m = none) (ha : EvA t σ H vs)
    (k : ∀ H1, Ex H H1 → sp (.ref a :: vs) H1 (fun _ H2 => D.nx σ H2) (E σ)) : tDrop (tMethAt C m sp E ta t) D σ H :=
  h H (Ex.refl _) _ fun H1 e1 => ⟨a, dx, fs, rfl, e1 _ _ ho, hl, ha H1 e1 _ fun H2 e2 => k H2 (e1.trans e2)⟩
theorem q_methAt {C : Addr} {m : Str} {sp : Sp} {E : L2.St → XK} {ta : TE} {t : TA} {tz : TS} {D : Ends} {σ : L2.St} {H : Hp} {a dx : Addr} {fs : List (Str × V)} {vs : List V} (h : Ev ta σ H (.ref a)) (ho : H a = some (.ins C dx fs)) (hl : fs.lookup m = none) (ha : EvA t σ H vs)
    (k : ∀ H1, Ex H H1 → sp (.ref a :: vs) H1 (fun _ H2 => tz D σ H2) (E σ)) : tSeq (tDrop (tMethAt C m sp E ta t)) tz D σ H :=
  h H (Ex.refl _) _ fun H1 e1 => ⟨a, dx, fs, rfl, e1 _ _ ho, hl, ha H1 e1 _ fun H2 e2 => k H2 (e1.trans e2)⟩
/-- a bench's knock: none as it raises -/
def knockNo (b : BenchG) : Bool := decide (b.told = 400) || decide (500 < b.e.now)
def spBKnock (K : PySem.W.Frag) : Sp := fun vs H Q E => ∃ (G : Hp) (F : List (Addr × HO)) (b : BenchG) (v : V) (d : PyData), vs = [.ref b.a, v] ∧ Own G H (b.obs K ++ F) ∧ BenchK K G b ∧ PlanP b.e.R b.e.B b.e.T ∧ b.rowsD.length ≤ 1000 ∧ b.fresh.length ≤ 1000 ∧ Dp K G v d ∧
  (lineNameD b.e.R d = false → ∀ G' H' v1 v2, Same G G' → BenchK K G' ((b.put v1 ("knock", "begun")).put v2 ("knock", "ended")) → Own G' H' (((b.put v1 ("knock", "begun")).put v2 ("knock", "ended")).obs K ++ F) → E (.ref (g_BadName K)) none H') ∧
  (lineNameD b.e.R d = true → knockNo b = true → ∀ G' H' v1 v2, Same G G' → BenchK K G' ((b.put v1 ("knock", "begun")).put v2 ("knock", "ended")) → Own G' H' (((b.put v1 ("knock", "begun")).put v2 ("knock", "ended")).obs K ++ F) → E (.ref (g_Full K)) none H') ∧
  (∀ n, d = .str n → n ∈ b.e.R.map nameD → knockNo b = false → ∀ (b' : BenchG) G' H', Same G G' → b'.a = b.a → b'.e = b.e → b'.fresh = b.fresh ++ [n] → b'.told = b.told + 1 → b'.rowsD = b.rowsD ++ ([("knock", "begun"), ("knock", "ended")] : List (Str × Str)) → BenchK K G' b' → Own G' H' (b'.obs K ++ F) → Q .non H')
theorem ok_Bench_knock (T : Txt w K mg) : FnOk P w K mg base (L2.CX P w) 5 (f_Bench_knock K) (fdAt K (f_Bench_knock K)) ["self", "name"] (spBKnock K) := by
  refine (df_Bench_knock T).ok sc_Bench_knock (fun vs H Q E h => ?_) (fun cdv A outer s H vs Q E hr h => ?_)
  · obtain ⟨_, _, _, _, _, rfl, _⟩ := h
    rfl
  · obtain ⟨G, F, b, v, d, rfl, o, kb, pl, z1, z2, hd, qN, qF, q⟩ := h
    obtain ⟨_, h_MOST_KNOCKS⟩ := in_MOST_KNOCKS T
    obtain ⟨_, h_LAST_KNOCK⟩ := in_LAST_KNOCK T
    refine ⟨_, (pss_cons (ps_expr (pe_bm PySem.F.plainAttrs_list PySem.F.slot_list_append PySem.F.type_list_append mt_append (pe_fldK (K := K) rfl (pv 0) rfl) (pa_cons (pe_tup (pa_cons pe_str (pa_cons pe_str pa_nil))) pa_nil)))
      (pss_one (ps_finN rfl rfl rfl (takes_of rfl rfl rfl rfl) (fun W pn xe tk po => (pss_cons (ps_expr (pe_methAt (pv 0) (cl_Bench T) (me_Bench_check_name T) (ok_Bench_check_name T) (hr.mono (by decide)) (bi_Bench_check_name T) (fun σ => passAt tk σ) (pa_cons (pv 1) pa_nil)))
      (pss_cons (ps_if (PW.pt (pw_or (pt_cmpR op_eq (pe_fldK (K := K) rfl (pv 0) rfl) (pe_glob (v := .int 400) rfl h_MOST_KNOCKS ⟨_, rfl⟩) (nomark _)) (pw_or1 (pt_cmpR op_gt (pe_fldK (K := K) rfl (pe_fldK (K := K) rfl (pv 0) rfl) rfl) (pe_glob (v := .int 500) rfl h_LAST_KNOCK ⟨_, rfl⟩) (nomark _))))) (pss_one (ps_raise rfl tk  (pmk_own PySem.F.excBase_ValueError (ec_Full T).1 (gl_Full T) (ec_Full T).2.1 (raises_own (ec_Full T).2.2.1 (ec_Full T).2.2.2) rfl))) pss_nil)
      (pss_cons (ps_fldaugK (K := K) rfl (pv 0) pe_int in_add)
      (pss_one (ps_fldK (K := K) rfl (pv 0) ((pe_op op_cat (pe_fldK (K := K) rfl (pv 0) rfl) (pe_lst (pa_cons (pv 1) pa_nil)))))))))) (pss_one (ps_expr (pe_bmK (K := K) rfl PySem.F.plainAttrs_list PySem.F.slot_list_append PySem.F.type_list_append mt_append (pe_fldK (K := K) rfl (pv 0) rfl) (pa_cons (pe_tup (pa_cons pe_str (pa_cons pe_str pa_nil))) pa_nil)))) (fun a pn => (pss_one (ps_expr (pe_bmK (K := K) rfl PySem.F.plainAttrs_list PySem.F.slot_list_append PySem.F.type_list_append mt_append (pe_fldK (K := K) rfl (pv 0) rfl) (pa_cons (pe_tup (pa_cons pe_str (pa_cons pe_str pa_nil))) pa_nil)))))))), ?_⟩
    refine s_row (r := ("knock", "begun")) o kb (ev_fl (ev_var rfl) (oi2 0 o rfl) (cl_Bench T) (na_Bench_rows T) rfl) (eu_tup (ea_cons ev_c (ea_cons ev_c ea_nil)) (by decide)) (by omega) fun G1 v1 H1 s1 kb1 o1 => ?_
    unfold tFinN
    refine q_methAt (vs := [v]) (ev_var rfl) (oi2 0 o1 rfl) rfl (ea_cons (ev_var rfl) ea_nil) fun H2 e2 => ?_
    have o2 := o1.same e2
    have hf : Ev (tFld K (tVar 0) (Str.ofString "rows")) [some (.ref b.a), some v] H2 (.ref b.aR) := ev_fl (ev_var rfl) (oi2 0 o2 rfl) (cl_Bench T) (na_Bench_rows T) rfl
    have zr : (b.put v1 ("knock", "begun")).rowsD.length < 100000 := by
      show (b.rowsD ++ [_]).length < _
      rw [List.length_append]
      simp only [List.length_singleton]
      omega
    have hU : ∀ {H3 : Hp}, EvU (tTup (tCons (tC (V.str (Str.ofString "knock"))) (tCons (tC (V.str (Str.ofString "ended"))) tNil))) [some (.ref b.a), some v] H3 [.str "knock", .str "ended"] := eu_tup (ea_cons ev_c (ea_cons ev_c ea_nil)) (by show (2 : Nat) ≤ 100000; decide)
    refine ⟨b.a, b.e.a, b.e.plan, b.dx, b.e.dx, _, _, v, d, b.e.R, b.e.B, b.e.T, rfl, oi2 0 o2 rfl, rfl, oi2 2 o2 rfl, rfl, plan_mono o2.sub kb1.eng.plan, pl, dpM (s1.trans o2.sub) hd, fun hb H3 e3 => ?_, fun hb H3 e3 => ?_⟩
    · exact s_row (r := ("knock", "ended")) (o2.same e3) kb1 (hf.mono e3) hU zr fun G4 v2 H4 s4 kb4 o4 => qN hb G4 H4 v1 v2 (s1.trans s4) kb4 o4
    · have o3 := o2.same e3
      refine q_when (b := knockNo b) (et_or (et_test (ev_is (ev_op (ev_fl (ev_var rfl) (oi2 0 o3 rfl) (cl_Bench T) (na_Bench_told_so_far T) rfl) ev_c (rv_eq rfl)) ?_)) fun _ => et_test (ev_op (ev_fl (ev_fl (ev_var rfl) (oi2 0 o3 rfl) (cl_Bench T) (na_Bench_engine T) rfl) (oi2 2 o3 rfl) (cl_Engine T) (na_Engine_now T) rfl) ev_c rv_I0)) (fun hk H4 e4 => ?_) fun hk H4 e4 => ?_
      · exact congrArg V.bl ((int_dec _ _).trans (decide_eq_decide.mpr ⟨fun h => by have h : (b.told : Int) = 400 := h; omega, fun h => by show (b.told : Int) = 400; omega⟩))
      · exact s_row (r := ("knock", "ended")) (o3.same e4) kb1 (hf.mono (e3.trans e4)) hU zr fun G4 v2 H4 s4 kb4 o4 => qF hb hk G4 H4 v1 v2 (s1.trans s4) kb4 o4
      · have o4 := o3.same e4
        obtain ⟨n, rfl, hn⟩ : ∃ n, d = .str n ∧ n ∈ b.e.R.map nameD := by
          cases d <;> first | exact ⟨_, rfl, of_decide_eq_true hb⟩ | cases hb
        have hv := dpS hd
        subst hv
        refine q_faug (x := b.told) (y := 1) o4 0 rfl (ev_var rfl) (cl_Bench T) (na_Bench_told_so_far T) rfl ev_c (by show (4 : Nat) < 1000; decide) fun H5 o5 => ?_
        refine s_fldL (xs := (b.fresh ++ [n]).map V.str) o5 0 rfl ?_ (ev_var rfl) (cl_Bench T) (na_Bench_fresh T) (by show (4 : Nat) < 1000; decide) fun pF H6 o6 => ?_
        · have hF : H5 b.aF = some (.lst (b.fresh.map V.str)) := o5.sub _ _ kb1.fresh
          rw [List.map_append]
          exact el_catR (ev_fl (ev_var rfl) (oi2 0 o5 rfl) (cl_Bench T) (na_Bench_fresh T) rfl) hF (el_lst (vs := [.str n]) (ea_cons (ev_var rfl) ea_nil) (by show (1 : Nat) ≤ 100000; decide)) (by rw [List.length_map]; show b.fresh.length + 1 ≤ 100000; omega)
        · let b6 : BenchG := { b.put v1 ("knock", "begun") with told := b.told + 1, aF := pF, fresh := b.fresh ++ [n] }
          have o6 : Own G1 H6 ((pF, .lst (b6.fresh.map V.str)) :: (b6.obs K ++ F)) := o6
          obtain ⟨G6, s6, o6', hh⟩ := own_holds (cs := [(pF, .lst (b6.fresh.map V.str))]) o6
          have kb6 : BenchK K G6 b6 := ⟨kb1.eng.mono s6, hh _ (List.mem_cons_self ..), daM s6 kb1.rows⟩
          have hf6 : Ev (tFld K (tVar 0) (Str.ofString "rows")) [some (.ref b.a), some (.str n)] H6 (.ref b6.aR) := ev_fl (ev_var rfl) (oi2 0 o6' rfl) (cl_Bench T) (na_Bench_rows T) rfl
          refine s_row (b := b6) (r := ("knock", "ended")) o6' kb6 hf6 hU zr fun G7 v2 H7 s7 kb7 o7 => ?_
          exact q n rfl hn hk (b6.put v2 ("knock", "ended")) G7 H7 (s1.trans (s6.trans s7)) rfl rfl rfl rfl (List.append_assoc ..) kb7 o7
end
end KW
end
section
set_option Elab.async false
set_option linter.all false
set_option autoImplicit false
set_option maxRecDepth 100000
set_option maxHeartbeats 1000000
/-! bench.py: until -/
namespace KW
open PySem PySem.Spec PyProof.Rows L2 He KR Evl
local macro_rules
  | `(tactic| walk_at "na") => `(tactic| with_reducible (first | exact cl_Line (by assumption) | exact cl_Job (by assumption) | exact cl_Engine (by assumption) | exact cl_Plan (by assumption) | exact cl_Run (by assumption) | exact cl_Bench (by assumption) | exact na_Line_name (by assumption) | exact na_Line_rank (by assumption) | exact na_Line_is_up (by assumption) | exact na_Line_guard (by assumption) | exact na_Line_top (by assumption) | exact na_Line_let_by (by assumption) | exact na_Line_shut_till (by assumption) | exact na_Line_since (by assumption) | exact na_Line_fresh (by assumption) | exact na_Line_counts (by assumption) | exact na_Line_longest (by assumption) | exact na_Job_word (by assumption) | exact na_Job_name (by assumption) | exact na_Job_rank (by assumption) | exact na_Job_steps (by assumption) | exact na_Job_masks_then (by assumption) | exact na_Job_at (by assumption) | exact na_Job_left (by assumption) | exact na_Engine_plan (by assumption) | exact na_Engine_ways (by assumption) | exact na_Engine_tops (by assumption) | exact na_Engine_bottom (by assumption) | exact na_Engine_put_off (by assumption) | exact na_Engine_woken (by assumption) | exact na_Engine_begun (by assumption) | exact na_Engine_depth (by assumption) | exact na_Engine_now (by assumption) | exact na_Engine_row (by assumption) | exact na_Engine_depths (by assumption) | exact na_Engine_last_begun (by assumption) | exact na_Plan_row (by assumption) | exact na_Plan_low (by assumption) | exact na_Plan_late (by assumption) | exact na_Run_row (by assumption) | exact na_Run_depths (by assumption) | exact na_Run_table (by assumption) | exact na_Run_longest (by assumption) | exact na_Bench_engine (by assumption) | exact na_Bench_fresh (by assumption) | exact na_Bench_told_so_far (by assumption) | exact na_Bench_rows (by assumption)))
local macro_rules
  | `(tactic| walk_at "oi") => `(tactic| first | assumption | exact oi2 0 (by assumption) rfl | exact oi2 1 (by assumption) rfl | exact oi2 2 (by assumption) rfl | exact oi2 3 (by assumption) rfl | exact oi2 4 (by assumption) rfl | exact oi2 5 (by assumption) rfl | exact oi2 6 (by assumption) rfl | exact oi2 7 (by assumption) rfl | exact oi2 8 (by assumption) rfl)
local macro_rules
  | `(tactic| walk_at "ev") => `(tactic| repeat' (first
    | exact ev_c | exact ev_var rfl | exact ea_nil | exact rv_I0 | exact ru_neg | exact eo_none
    | exact rv_eq rfl | exact rv_ne rfl
    | exact rv_ixT (by assumption) (by rfl) | exact rv_ixL (by assumption) (by rfl)
    | exact sv_q (by assumption) (by assumption) | exact sv_within (by assumption)
    | exact Or.inr (by assumption) | exact Or.inl (by assumption) | (show (_ : String) ∈ _; decide)
    | with_reducible (first | apply ev_isi | apply ev_lenS | apply ev_if' | apply et_test | apply et_B | apply et_not | apply et_and | apply et_or | apply ev_andV | apply ev_orV | apply ev_notV | apply ea_cons | apply eo_some | apply ev_fl | apply ev_op | apply ev_un | apply ev_call)
    | walk_at "na" | walk_at "oi" | (show List.lookup _ _ = _; rfl)
    | assumption
    | (with_reducible intro hh; first | exact absurd (show true = false from hh) (by decide) | exact absurd (show false = true from hh) (by decide) | clear hh)))

section
variable {P : Program} {w : World} {K : PySem.W.Frag} {mg : Str → Option Value} {base : Heap}
theorem sc_Bench_until : FnScope ["self", "name", "ticks", "late", "knocks", "end"] ["self", "name", "ticks"] (defScope s_Bench_until) := ⟨rfl, rfl, rfl, by decide +kernel, rfl, by decide +kernel, by decide +kernel⟩
theorem s_parM {C : Addr} {m : Str} {sp : Sp} {E : XK} {ta tb : TE} {i j : Nat} {D : Ends} {σ : L2.St} {H : Hp} {a dx : Addr} {fs : List (Str × V)} (h : Ev ta σ H (.ref a)) (ho : H a = some (.ins C dx fs)) (hl : fs.lookup m = none)
    (k : ∀ H1, Ex H H1 → sp [.ref a] H1 (fun x H2 => tCons tb tNil σ H2 fun xs H3 => ∃ v w, x :: xs = [v, w] ∧ D.nx ((σ.set i (some v)).set j (some w)) H3) E) : tPar i j (tCons (tMeth C m sp [] E ta tNil) (tCons tb tNil)) D σ H :=
  h H (Ex.refl _) _ fun H1 e1 => ⟨a, dx, fs, rfl, e1 _ _ ho, hl, k H1 e1⟩
theorem s_asgR {te : TE} {i : Nat} {D : Ends} {σ : L2.St} {H : Hp} {v : V} (h : Ev te σ H v) (k : ∀ H1, Ex H H1 → D.nx (σ.set i (some v)) H1) : tAsg te (gName i) D σ H := h H (Ex.refl _) _ fun H1 e1 => k H1 e1
theorem s_asgN {te : TE} {i : Nat} {D : Ends} {σ : L2.St} {H : Hp} {xs : List V} (h : EvL te σ H xs) (k : ∀ p H1, H p = none → Ex H H1 → H1 p = some (.lst xs) → D.nx (σ.set i (some (.ref p))) H1) : tAsg te (gName i) D σ H := h H (Ex.refl _) _ fun p H1 np e1 hp => k p H1 np e1 hp
theorem perm2 {α : Type} (A B F : List α) (x y : α) : (A ++ (B ++ (x :: y :: F))).Perm (x :: y :: (A ++ (B ++ F))) := by
  rw [← List.append_assoc, ← List.append_assoc]
  exact List.perm_middle.trans (List.Perm.cons x List.perm_middle)
/-- the bench's own two -/
def BenchG.two (K : PySem.W.Frag) (b : BenchG) (F : List (Addr × HO)) : List (Addr × HO) := (b.a, .ins (g_Bench K) b.dx b.fs) :: (b.aR, .lst b.rows) :: F
/-- how far going on has come -/
def UntW (K : PySem.W.Frag) (F : List (Addr × HO)) (G1 : Hp) (b1 : BenchG) (n : Str) (k fin : Int) (R B T : List PyData) (res : Option EngM) (rem : Nat) (σ' : L2.St) (H' : Hp) : Prop :=
  ∃ (G' : Hp) (e2 : EngG) (kn : Addr) (ks : List Str) (t2 : Nat), Same G1 G' ∧ Own G' H' (e2.obs K ++ (b1.e.obs K ++ b1.two K F)) ∧ EngK K G' e2 ∧ BI R B T e2.m t2 ∧ G' kn = some (.lst (ks.map V.str)) ∧ (t2 + ks.length ≤ 4000 ∧ ks.length ≤ 1000) ∧ (∀ n ∈ ks, n ∈ R.map nameD) ∧
    (e2.now + rem = fin ∧ fin ≤ 900) ∧ untilM n rem e2.m ks = res ∧ σ' = [some (.ref b1.a), some (.str n), some (.int k), some (.ref e2.a), some (.ref kn), some (.int fin)]
def untilTo (b : BenchG) (n : Str) (k : Int) : Option EngM := untilM n ((if 900 < b.e.now + k then 900 else b.e.now + k) - b.e.now).toNat { b.e.m with last := [] } b.fresh
def spUntil (K : PySem.W.Frag) : Sp := fun vs H Q E => ∃ (G : Hp) (F : List (Addr × HO)) (b : BenchG) (v w : V) (d dt : PyData) (t : Nat), vs = [.ref b.a, v, w] ∧ Own G H (b.obs K ++ F) ∧ BenchK K G b ∧ BI b.e.R b.e.B b.e.T b.e.m t ∧ (b.rowsD.length ≤ 1000 ∧ b.fresh.length ≤ 1000 ∧ t + b.fresh.length ≤ 4000 ∧ b.e.now ≤ 900) ∧ (∀ n ∈ b.fresh, n ∈ b.e.R.map nameD) ∧ Dp K G v d ∧ Dp K G w dt ∧
  (lineNameD b.e.R d = false → ∀ G' H' v1 v2, Same G G' → BenchK K G' ((b.put v1 ("until", "begun")).put v2 ("until", "ended")) → Own G' H' (((b.put v1 ("until", "begun")).put v2 ("until", "ended")).obs K ++ F) → E (.ref (g_BadName K)) none H') ∧
  (lineNameD b.e.R d = true → (withinD dt 1 900 = false ∨ ∃ n k, d = .str n ∧ dt = .int k ∧ untilTo b n k = none) → ∀ G' H' v1 v2, Same G G' → BenchK K G' ((b.put v1 ("until", "begun")).put v2 ("until", "ended")) → Own G' H' (((b.put v1 ("until", "begun")).put v2 ("until", "ended")).obs K ++ F) → E (.ref (g_BadTicks K)) none H') ∧
  (∀ n k m', d = .str n → dt = .int k → n ∈ b.e.R.map nameD → withinD dt 1 900 = true → untilTo b n k = some m' → ∀ (b' : BenchG) G' H', Same G G' → b'.a = b.a → b'.e.m = m' → b'.fresh = [] → b'.told = b.told → b'.rowsD = b.rowsD ++ ([("until", "begun"), ("until", "ended")] : List (Str × Str)) → BenchK K G' b' → Own G' H' (b'.obs K ++ F) → Q (.int (m'.now - 1)) H')
theorem ok_Bench_until (T : Txt w K mg) : FnOk P w K mg base (L2.CX P w) 9 (f_Bench_until K) (fdAt K (f_Bench_until K)) ["self", "name", "ticks"] (spUntil K) := by
  refine (df_Bench_until T).ok sc_Bench_until (fun vs H Q E h => ?_) (fun cdv A outer s H vs Q E hr h => ?_)
  · obtain ⟨_, _, _, _, _, _, _, _, rfl, _⟩ := h
    rfl
  · obtain ⟨G, F, b, v, w, d, dt, t, rfl, o, kb, bi, ⟨z1, z2, z3, z4⟩, hfr, hd, hdt, qN, qT, q⟩ := h
    obtain ⟨_, h_MOST_TICKS⟩ := in_MOST_TICKS T
    have pl := plan_parts bi.inv.i.plan
    refine ⟨_, (pss_cons (ps_expr (pe_bm PySem.F.plainAttrs_list PySem.F.slot_list_append PySem.F.type_list_append mt_append (pe_fldK (K := K) rfl (pv 0) rfl) (pa_cons (pe_tup (pa_cons pe_str (pa_cons pe_str pa_nil))) pa_nil)))
      (pss_one (ps_finR rfl rfl rfl (takes_of rfl rfl rfl rfl) (fun W pn xe tk po => (pr_cons (ps_expr (pe_methAt (pv 0) (cl_Bench T) (me_Bench_check_name T) (ok_Bench_check_name T) (hr.mono (by decide)) (bi_Bench_check_name T) (fun σ => passAt tk σ) (pa_cons (pv 1) pa_nil)))
      (pr_cons (ps_if (pt_not (pt_val (pe_call (ok_within T) (hr.mono (by decide)) rfl (gl_within T) (df_within T).kp (bi_within T) .nil pass0 (pa_cons (pv 2) (pa_cons pe_int (pa_cons (pe_glob (v := .int 900) rfl h_MOST_TICKS ⟨_, rfl⟩) pa_nil)))))) (pss_one (ps_raise rfl tk  (pmk_own PySem.F.excBase_ValueError (ec_BadTicks T).1 (gl_BadTicks T) (ec_BadTicks T).2.1 (raises_own (ec_BadTicks T).2.2.1 (ec_BadTicks T).2.2.2) rfl))) pss_nil)
      (pr_cons (ps_par (i := 3) (j := 4) rfl sc_Bench_until.nd rfl rfl (by decide) rfl rfl (pa_cons (pe_meth0 (pe_fldK (K := K) rfl (pv 0) rfl) (cl_Engine T) (me_Engine_twin T) (ok_Engine_twin T) (hr.mono (by decide)) (bi_Engine_twin T) .nil pass0) (pa_cons (pe_fldK (K := K) rfl (pv 0) rfl) pa_nil)) (by rfl))
      (pr_cons (ps_set (i := 5) sc_Bench_until.nd rfl (Or.inl rfl) (pe_callB (call_min2 rfl) (by rfl) (fr_min T) (by decide +kernel) (pa_cons (pe_op op_add (pe_fldK (K := K) rfl (pv 3) rfl) (pv 2)) (pa_cons (pe_glob (v := .int 900) rfl h_MOST_TICKS ⟨_, rfl⟩) pa_nil))))
      (pr_cons (ps_while po (pt_cmpR (op_notInK (K := K) rfl) (pv 1) (pe_fldK (K := K) rfl (pv 3) rfl) (by rfl)) (pss_cons (ps_if (pt_cmpR op_eq (pe_fldK (K := K) rfl (pv 3) rfl) (pv 5) (nomark _)) (pss_one (ps_raise rfl tk  (pmk_own PySem.F.excBase_ValueError (ec_BadTicks T).1 (gl_BadTicks T) (ec_BadTicks T).2.1 (raises_own (ec_BadTicks T).2.2.1 (ec_BadTicks T).2.2.2) rfl))) pss_nil)
      (pss_cons (ps_expr (pe_meth (pv 3) (cl_Engine T) (me_Engine_go T) (ok_Engine_go T) (hr.mono (by decide)) (bi_Engine_go T) .nil pass0 (pa_cons (pv 4) pa_nil)))
      (pss_one (ps_set (i := 4) sc_Bench_until.nd rfl (Or.inl rfl) (pe_lst pa_nil))))))
      (pr_cons (ps_fldK (K := K) rfl (pv 0) (pv 3))
      (pr_cons (ps_fldK (K := K) rfl (pv 0) (pe_lst pa_nil))
      (pr_ret (pe_op op_sub (pe_fldK (K := K) rfl (pv 3) rfl) pe_int)))))))))) (pss_one (ps_expr (pe_bmK (K := K) rfl PySem.F.plainAttrs_list PySem.F.slot_list_append PySem.F.type_list_append mt_append (pe_fldK (K := K) rfl (pv 0) rfl) (pa_cons (pe_tup (pa_cons pe_str (pa_cons pe_str pa_nil))) pa_nil)))) (fun a pn => (pss_one (ps_expr (pe_bmK (K := K) rfl PySem.F.plainAttrs_list PySem.F.slot_list_append PySem.F.type_list_append mt_append (pe_fldK (K := K) rfl (pv 0) rfl) (pa_cons (pe_tup (pa_cons pe_str (pa_cons pe_str pa_nil))) pa_nil)))))))), ?_⟩
    refine s_row (r := ("until", "begun")) o kb (ev_fl (ev_var rfl) (oi2 0 o rfl) (cl_Bench T) (na_Bench_rows T) rfl) (eu_tup (ea_cons ev_c (ea_cons ev_c ea_nil)) (by decide)) (by omega) fun G1 v1 H1 s1 kb1 o1 => ?_
    unfold tFinR
    refine s_methAt (vs := [v]) (ev_var rfl) (oi2 0 o1 rfl) rfl (ea_cons (ev_var rfl) ea_nil) fun H2 e2 => ?_
    have o2 := o1.same e2
    have zr : (b.put v1 ("until", "begun")).rowsD.length < 100000 := by
      show (b.rowsD ++ [_]).length < _
      rw [List.length_append]
      simp only [List.length_singleton]
      omega
    have hU : ∀ {σ : L2.St} {H3 : Hp}, EvU (tTup (tCons (tC (V.str (Str.ofString "until"))) (tCons (tC (V.str (Str.ofString "ended"))) tNil))) σ H3 [.str "until", .str "ended"] := eu_tup (ea_cons ev_c (ea_cons ev_c ea_nil)) (by show (2 : Nat) ≤ 100000; decide)
    have hrow : ∀ {σ : L2.St} {H3 : Hp}, σ[0]? = some (some (.ref b.a)) → ∀ {G3 : Hp} {F3 : List (Addr × HO)} (b3 : BenchG), b3.a = b.a → Own G3 H3 (b3.obs K ++ F3) → Ev (tFld K (tVar 0) (Str.ofString "rows")) σ H3 (.ref b3.aR) := fun hσ G3 F3 b3 ha3 o3 => ev_fl (ev_var hσ) (by rw [← ha3]; exact oi2 0 o3 rfl) (cl_Bench T) (na_Bench_rows T) rfl
    refine ⟨b.a, b.e.a, b.e.plan, b.dx, b.e.dx, _, _, v, d, b.e.R, b.e.B, b.e.T, rfl, oi2 0 o2 rfl, rfl, oi2 2 o2 rfl, rfl, plan_mono o2.sub kb1.eng.plan, pl, dpM (s1.trans o2.sub) hd, fun hb H3 e3 => ?_, fun hb H3 e3 => ?_⟩
    · have o3 := o2.same e3
      exact s_row (r := ("until", "ended")) o3 kb1 (hrow rfl (b.put v1 ("until", "begun")) rfl o3) hU zr fun G4 v2 H4 s4 kb4 o4 => qN hb G4 H4 v1 v2 (s1.trans s4) kb4 o4
    · have o3 := o2.same e3
      obtain ⟨n, rfl, hn⟩ : ∃ n, d = .str n ∧ n ∈ b.e.R.map nameD := by
        cases d <;> first | exact ⟨_, rfl, of_decide_eq_true hb⟩ | cases hb
      have hv := dpS hd
      subst hv
      dsimp only
      refine s_when (b := !withinD dt 1 900) (et_not (et_B (ev_call (ea_cons (ev_var rfl) (ea_cons ev_c (ea_cons ev_c ea_nil))) (sv_within (dpM (s1.trans o3.sub) hdt))))) (fun hw H4 e4 => ?_) fun hw H4 e4 => ?_
      · have o4 := o3.same e4
        exact s_row (r := ("until", "ended")) o4 kb1 (hrow rfl (b.put v1 ("until", "begun")) rfl o4) hU zr fun G5 v2 H5 s5 kb5 o5 => qT hb (.inl (by simpa using hw)) G5 H5 v1 v2 (s1.trans s5) kb5 o5
      · have hw1 : withinD dt 1 900 = true := by simpa using hw
        obtain ⟨k, rfl, k0, k1⟩ := within_inv hw1
        have o4 := o3.same e4
        have hk := dpI hdt
        subst hk
        have zrow : b.e.rowD.length ≤ 5000 := by have z : b.e.now = (b.e.rowD.length : Int) := bi.row; omega
        dsimp only
        refine s_parM (ev_fl (ev_var rfl) (oi2 0 o4 rfl) (cl_Bench T) (na_Bench_engine T) rfl) (oi2 2 o4 rfl) rfl fun H5 e5 => ?_
        have o5 := o4.same e5
        have o5e : Own G1 H5 (b.e.obs K ++ (b.put v1 ("until", "begun")).two K F) := o5.perm (perm2 [] (b.e.obs K) F _ _).symm
        refine ⟨G1, (b.put v1 ("until", "begun")).two K F, b.e, rfl, o5e, kb1.eng, bi.inv, ⟨?_, ?_⟩, fun e2 H6 hm2 k2 hp2 o6 => ?_⟩
        · exact Nat.le_trans (Nat.le_of_eq kb1.eng.row.len) zrow
        · have z : b.e.depths.length = b.e.rowD.length := bi.depths
          omega
        · have o6' : Own G1 H6 ((b.put v1 ("until", "begun")).two K (e2.obs K ++ (b.e.obs K ++ F))) := o6.perm (perm2 _ _ _ _ _)
          refine ea_cons (ev_fl (ev_var rfl) (oi2 0 o6' rfl) (cl_Bench T) (na_Bench_fresh T) rfl) ea_nil H6 (Ex.refl _) _ fun H7 e7 => ⟨_, _, rfl, ?_⟩
          have o7 := o6.same e7
          have hm2l : e2.m.last = [] := by rw [hm2]
          dsimp only
          have hnow2 : e2.now = b.e.now := by show e2.m.now = _; rw [hm2]; rfl
          refine s_asgR (v := .int (if 900 < b.e.now + k then 900 else b.e.now + k)) ?_ fun H8 e8 => ?_
          · exact fun H8 e8 Q8 q8 => ev_op (ev_fl (ev_var rfl) (oi2 0 o7 rfl) (cl_Engine T) (na_Engine_now T) (by rw [← hnow2]; rfl)) (ev_var rfl) rv_I0 H8 e8 _ fun H9 e9 => ⟨_, _, rfl, q8 H9 e9⟩
          · dsimp only
            have o8 := o7.same e8
            refine s_while (fun rem σ' H' => UntW K F G1 (b.put v1 ("until", "begun")) n k (if 900 < b.e.now + k then 900 else b.e.now + k) b.e.R b.e.B b.e.T (untilTo b n k) rem σ' H') ((if 900 < b.e.now + k then 900 else b.e.now + k) - b.e.now).toNat ⟨G1, e2, b.aF, b.fresh, t, Same.refl _, o8, k2, by rw [hm2]; exact bi_last bi, kb1.fresh, ⟨z3, z2⟩, hfr, ⟨?_, ?_⟩, ?_, ?_⟩ (fun rem σ' H' hW => ?_)
            · rw [hnow2]
              split <;> omega
            · split <;> omega
            · unfold untilTo
              rw [hm2]
            · rfl
            · obtain ⟨G', e3, kn, ks, t2, sg, o9, k9, bi9, hkn, ⟨y1, y2⟩, y3, ⟨y4, y5⟩, y6, rfl⟩ := hW
              have hnow3 : e3.now = e3.rowD.length := bi9.row
              have hlast : (e3.last.map V.str).all flatV = true := by rw [List.all_map]; exact List.all_eq_true.mpr fun _ _ => rfl
              refine ⟨!decide (n ∈ e3.last), et_test (ev_is (ev_op (ev_var rfl) (ev_fl (ev_var rfl) (oi2 0 o9 rfl) (cl_Engine T) (na_Engine_last_begun T) rfl) (rv_niL (sq_of (oi2 8 o9 rfl)) rfl hlast)) (by rw [inV_strs])), fun hin H9 e9 => ?_, fun hin H9 e9 => ?_⟩
              · have hin : n ∉ e3.last := by simpa using hin
                have o10 := o9.same e9
                refine ⟨fun σ2 H2 => ∃ m', m' < rem ∧ UntW K F G1 (b.put v1 ("until", "begun")) n k (if 900 < b.e.now + k then 900 else b.e.now + k) b.e.R b.e.B b.e.T (untilTo b n k) m' σ2 H2, fun _ _ h => h, ?_⟩
                refine q_when (b := decide (rem = 0)) (et_test (ev_is (ev_op (ev_fl (ev_var rfl) (oi2 0 o10 rfl) (cl_Engine T) (na_Engine_now T) rfl) (ev_var rfl) (rv_eq rfl)) ?_)) (fun h0 H10 e10 => ?_) fun h0 H10 e10 => ?_
                · exact congrArg V.bl ((int_dec _ _).trans (decide_eq_decide.mpr ⟨fun h => by omega, fun h => by omega⟩))
                · have h0 := of_decide_eq_true h0
                  subst h0
                  have pp : (b.e.obs K ++ (b.put v1 ("until", "begun")).two K F).Perm ((b.put v1 ("until", "begun")).obs K ++ F) := perm2 [] (b.e.obs K) F (b.a, .ins (g_Bench K) b.dx ((b.put v1 ("until", "begun")).fs)) (b.aR, .lst (b.put v1 ("until", "begun")).rows)
                  have o11 : Own G' H10 ((b.put v1 ("until", "begun")).obs K ++ F) := ((o10.same e10).right).perm pp
                  refine s_row (r := ("until", "ended")) o11 (kb1.mono sg) (hrow rfl (b.put v1 ("until", "begun")) rfl o11) hU zr fun G12 v2 H12 s12 kb12 o12 => ?_
                  refine qT hb (.inr ⟨n, k, rfl, rfl, ?_⟩) G12 H12 v1 v2 (s1.trans (sg.trans s12)) kb12 o12
                  rw [← y6]
                  unfold untilM
                  exact if_neg hin
                · have h0 := of_decide_eq_false h0
                  obtain ⟨rem, rfl⟩ : ∃ r, rem = r + 1 := ⟨rem - 1, by omega⟩
                  have o11 := o10.same e10
                  have g := bi_go bi9 ks
                  have zr3 : e3.rowD.length ≤ 900 := by omega
                  refine ⟨.ref e3.a, rfl, e3.a, e3.dx, e3.fs, rfl, oi2 0 o11 rfl, rfl, .ref kn, rfl, G', e3, b.e.obs K ++ (b.put v1 ("until", "begun")).two K F, kn, ks, rfl, o11, k9, sq_of hkn, bi9.inv, ⟨?_, ?_, by omega, fun l hl => ?_⟩, fun n hn => ?_, fun G7 e7 r wh H7 s7 hm7 ha7 _ _ k7 o7 => ?_⟩
                  · have z1 := k9.row.len
                    omega
                  · have z2 : e3.depths.length = e3.rowD.length := bi9.depths
                    omega
                  · have z := bi9.lb l.m (List.mem_map.mpr ⟨l, hl, rfl⟩)
                    omega
                  · have y : e3.R = b.e.R := bi9.same.1
                    rw [y]
                    exact y3 n hn
                  · dsimp only
                    refine s_asgN (el_lst ea_nil (by decide)) fun p H8 np e8 hp => ?_
                    obtain ⟨o8', s8⟩ := own_keep o7 e8 np hp
                    refine ⟨rem, by omega, _, e7, p, [], t2 + ks.length, sg.trans (s7.trans s8), o8', k7.mono s8, by rw [hm7]; exact g, upd_same, ⟨by simp only [List.length_nil]; omega, by decide⟩, fun _ h => (nomatch h), ⟨?_, y5⟩, ?_, by rw [← ha7]; rfl⟩
                    · have z1 : e7.now = e3.now + 1 := by
                        show e7.m.now = _
                        rw [hm7]
                        exact (go_of bi9.inv ks).now
                      omega
                    · rw [← y6, hm7]
                      exact (if_neg hin).symm
              · have hin : n ∈ e3.last := by simpa using hin
                have hres : untilTo b n k = some e3.m := by
                  rw [← y6]
                  cases rem with
                  | zero => exact if_pos hin
                  | succ r => exact if_pos hin
                dsimp only
                have o10 : Own G' H9 ((b.put v1 ("until", "begun")).two K (e3.obs K ++ (b.e.obs K ++ F))) := (o9.same e9).perm (perm2 _ _ _ _ _)
                refine s_fld (v := .ref e3.a) o10 0 rfl (ev_var rfl) (ev_var rfl) (cl_Bench T) (na_Bench_engine T) (by show (4 : Nat) < 1000; decide) fun H10 o11 => ?_
                dsimp only
                have o11 : Own G' H10 (({ (b.put v1 ("until", "begun")) with e := e3 } : BenchG).obs K ++ F) := o11.less (List.Sublist.cons₂ _ (List.Sublist.cons₂ _ ((List.Sublist.refl _).append (List.sublist_append_right _ _))))
                refine s_fldL (xs := []) o11 0 rfl (el_lst ea_nil (by decide)) (ev_var rfl) (cl_Bench T) (na_Bench_fresh T) (by show (4 : Nat) < 1000; decide) fun pF H11 o12 => ?_
                let b6 : BenchG := { (b.put v1 ("until", "begun")) with e := e3, aF := pF, fresh := [] }
                have o12 : Own G' H11 ((pF, .lst []) :: (b6.obs K ++ F)) := o12
                obtain ⟨G6, s6, o6', hh⟩ := own_holds (cs := [(pF, .lst [])]) o12
                have kb6 : BenchK K G6 b6 := ⟨k9.mono s6, hh _ (List.mem_cons_self ..), daM (sg.trans s6) kb1.rows⟩
                dsimp only
                refine ev_op (σ := [some (.ref b.a), some (.str n), some (.int k), some (.ref e3.a), some (.ref kn), some (.int _)]) (ev_fl (ev_var rfl) (oi2 2 o6' rfl) (cl_Engine T) (na_Engine_now T) rfl) ev_c rv_I0 H11 (Ex.refl _) _ fun H12 e12 => ?_
                have o13 := o6'.same e12
                refine s_row (b := b6) (r := ("until", "ended")) o13 kb6 (hrow rfl b6 rfl o13) hU zr fun G7 v2 H7 s7 kb7 o7 => ?_
                exact q n k e3.m rfl rfl hn hw1 hres (b6.put v2 ("until", "ended")) G7 H7 (s1.trans (sg.trans (s6.trans s7))) rfl rfl rfl rfl (List.append_assoc ..) kb7 o7
end
end KW
end
section
set_option Elab.async false
set_option linter.all false
set_option autoImplicit false
set_option maxRecDepth 100000
set_option maxHeartbeats 1000000
/-! what is left out, and handed in by names -/
namespace KW
open PySem PySem.Spec PyProof.Rows L2 He
section
variable {w : World} {K : PySem.W.Frag} {mg : Str → Option Value}
theorem bd_line (T : Txt w K mg) : ∃ ds, Vals [V.int 1, V.bl false, V.ref (ga K "GUARD")] ds ∧ Binds K (fdAt K (f_line K)) ["name", "top", "rank", "up", "guard"] ds :=
  FunD.binds0 (df_line T) 2 (by simp) rfl fun D doc pm an cdv ct us ks hu hk => match us, ks, hu, hk with
    | [_, _], [_, _, _], _, _ => ⟨_, _, _, _, _, _, rfl, rfl, _, _, _, _, _, _, rfl, rfl, _, _, _, _, _, _, rfl, rfl, rfl⟩
theorem kb_line_rank (T : Txt w K mg) : ∃ mv : List Value, KBn K (fdAt K (f_line K)) ["name", "top", "rank", "up", "guard"] 2 ["rank"] (fun us ws => us ++ (ws ++ mv)) (fun vs zs => vs ++ (zs ++ [V.bl false, V.ref (ga K "GUARD")])) :=
  FunD.kbinds0 (df_line T) 2 ["rank"] [("up", V.bl false), ("guard", V.ref (ga K "GUARD"))] (fun us mv ws => us ++ (ws ++ mv)) (by simp) (by simp) (fun h1 h2 h3 => h1.append (h3.append h2)) fun D doc pm an cdv ct us mv ws hu hm hw => match us, mv, ws, hu, hm, hw with
    | [_, _], [_, _], [_], _, _, _ => ⟨_, _, _, _, _, _, rfl, rfl, _, _, _, _, _, _, rfl, rfl, rfl⟩
/-- guard, up, rank as the def wants them -/
def turn3 {α : Type} : List α → List α
  | [g, u, r] => [r, u, g]
  | l => l
theorem turn3_rel {zs : List V} {ws : List Value} (h : Vals zs ws) : Vals (turn3 zs) (turn3 ws) := by
  cases h with
  | nil => exact .nil
  | cons a h => cases h with
    | nil => exact .cons a .nil
    | cons b h => cases h with
      | nil => exact .cons a (.cons b .nil)
      | cons c h => cases h with
        | nil => exact .cons c (.cons b (.cons a .nil))
        | cons d h => exact .cons a (.cons b (.cons c (.cons d h)))
theorem kb_line3 (T : Txt w K mg) : ∃ _mv : List Value, KBn K (fdAt K (f_line K)) ["name", "top", "rank", "up", "guard"] 2 ["guard", "up", "rank"] (fun us ws => us ++ turn3 ws) (fun vs zs => vs ++ turn3 zs) :=
  FunD.kbinds0 (df_line T) 2 ["guard", "up", "rank"] [] (fun us _ ws => us ++ turn3 ws) (by simp) (by simp) (fun h1 _ h3 => h1.append (turn3_rel h3)) fun D doc pm an cdv ct us mv ws hu hm hw => match us, mv, ws, hu, hm, hw with
    | [_, _], [], [_, _, _], _, _, _ => rfl
theorem bd_Plan_init (T : Txt w K mg) : ∃ ds, Vals [V.ref (kwAt ("Plan", some "__init__") "bottoms" K), V.ref (kwAt ("Plan", some "__init__") "threads" K)] ds ∧ Binds K (fdAt K (f_Plan_init K)) ["self", "lines", "bottoms", "threads"] ds :=
  FunD.binds0 (df_Plan_init T) 2 (by simp) rfl fun D doc pm an cdv ct us ks hu hk => match us, ks, hu, hk with
    | [_, _], [_, _], _, _ => ⟨_, _, _, _, _, _, rfl, rfl, _, _, _, _, _, _, rfl, rfl, rfl⟩
theorem kb_Plan (T : Txt w K mg) : ∃ _mv : List Value, KBn K (fdAt K (f_Plan_init K)) ["self", "lines", "bottoms", "threads"] 2 ["bottoms", "threads"] (fun us ws => us ++ ws) (fun vs zs => vs ++ zs) :=
  FunD.kbinds0 (df_Plan_init T) 2 ["bottoms", "threads"] [] (fun us _ ws => us ++ ws) (by simp) (by simp) (fun h1 _ h3 => h1.append h3) fun D doc pm an cdv ct us mv ws hu hm hw => match us, mv, ws, hu, hm, hw with
    | [_, _], [], [_, _], _, _, _ => rfl
theorem bd_run (T : Txt w K mg) : ∃ ds, Vals [V.int 60] ds ∧ Binds K (fdAt K (f_run K)) ["plan", "knocks", "ticks"] ds :=
  FunD.binds0 (df_run T) 2 (by simp) rfl fun D doc pm an cdv ct us ks hu hk => match us, ks, hu, hk with
    | [_, _], [_], _, _ => ⟨_, _, _, _, _, _, rfl, rfl, rfl⟩
theorem kb_run (T : Txt w K mg) : ∃ _mv : List Value, KBn K (fdAt K (f_run K)) ["plan", "knocks", "ticks"] 2 ["ticks"] (fun us ws => us ++ ws) (fun vs zs => vs ++ zs) :=
  FunD.kbinds0 (df_run T) 2 ["ticks"] [] (fun us _ ws => us ++ ws) (by simp) (by simp) (fun h1 _ h3 => h1.append h3) fun D doc pm an cdv ct us mv ws hu hm hw => match us, mv, ws, hu, hm, hw with
    | [_, _], [], [_], _, _, _ => rfl
theorem bd_Bench_until (T : Txt w K mg) : ∃ ds, Vals [V.int 60] ds ∧ Binds K (fdAt K (f_Bench_until K)) ["self", "name", "ticks"] ds :=
  FunD.binds0 (df_Bench_until T) 2 (by simp) rfl fun D doc pm an cdv ct us ks hu hk => match us, ks, hu, hk with
    | [_, _], [_], _, _ => ⟨_, _, _, _, _, _, rfl, rfl, rfl⟩
theorem kb_until (T : Txt w K mg) : ∃ _mv : List Value, KBn K (fdAt K (f_Bench_until K)) ["self", "name", "ticks"] 2 ["ticks"] (fun us ws => us ++ ws) (fun vs zs => vs ++ zs) :=
  FunD.kbinds0 (df_Bench_until T) 2 ["ticks"] [] (fun us _ ws => us ++ ws) (by simp) (by simp) (fun h1 _ h3 => h1.append h3) fun D doc pm an cdv ct us mv ws hu hm hw => match us, mv, ws, hu, hm, hw with
    | [_, _], [], [_], _, _, _ => rfl
end
end KW
end
section
set_option Elab.async false
set_option linter.all false
set_option autoImplicit false
set_option maxRecDepth 100000
set_option maxHeartbeats 1000000
/-! line; the law's steps -/
namespace KW
open PySem PySem.Spec PyProof.Rows L2 He KR Evl
local macro_rules
  | `(tactic| walk_at "na") => `(tactic| with_reducible (first | exact cl_Line (by assumption) | exact cl_Job (by assumption) | exact cl_Engine (by assumption) | exact cl_Plan (by assumption) | exact cl_Run (by assumption) | exact cl_Bench (by assumption) | exact na_Line_name (by assumption) | exact na_Line_rank (by assumption) | exact na_Line_is_up (by assumption) | exact na_Line_guard (by assumption) | exact na_Line_top (by assumption) | exact na_Line_let_by (by assumption) | exact na_Line_shut_till (by assumption) | exact na_Line_since (by assumption) | exact na_Line_fresh (by assumption) | exact na_Line_counts (by assumption) | exact na_Line_longest (by assumption) | exact na_Job_word (by assumption) | exact na_Job_name (by assumption) | exact na_Job_rank (by assumption) | exact na_Job_steps (by assumption) | exact na_Job_masks_then (by assumption) | exact na_Job_at (by assumption) | exact na_Job_left (by assumption) | exact na_Engine_plan (by assumption) | exact na_Engine_ways (by assumption) | exact na_Engine_tops (by assumption) | exact na_Engine_bottom (by assumption) | exact na_Engine_put_off (by assumption) | exact na_Engine_woken (by assumption) | exact na_Engine_begun (by assumption) | exact na_Engine_depth (by assumption) | exact na_Engine_now (by assumption) | exact na_Engine_row (by assumption) | exact na_Engine_depths (by assumption) | exact na_Engine_last_begun (by assumption) | exact na_Plan_row (by assumption) | exact na_Plan_low (by assumption) | exact na_Plan_late (by assumption) | exact na_Run_row (by assumption) | exact na_Run_depths (by assumption) | exact na_Run_table (by assumption) | exact na_Run_longest (by assumption) | exact na_Bench_engine (by assumption) | exact na_Bench_fresh (by assumption) | exact na_Bench_told_so_far (by assumption) | exact na_Bench_rows (by assumption)))
local macro_rules
  | `(tactic| walk_at "oi") => `(tactic| first | assumption | exact oi2 0 (by assumption) rfl | exact oi2 1 (by assumption) rfl | exact oi2 2 (by assumption) rfl | exact oi2 3 (by assumption) rfl | exact oi2 4 (by assumption) rfl | exact oi2 5 (by assumption) rfl | exact oi2 6 (by assumption) rfl | exact oi2 7 (by assumption) rfl | exact oi2 8 (by assumption) rfl)
local macro_rules
  | `(tactic| walk_at "ev") => `(tactic| repeat' (first
    | exact ev_c | exact ev_var rfl | exact ea_nil | exact rv_I0 | exact ru_neg | exact eo_none
    | exact rv_eq rfl | exact rv_ne rfl
    | exact rv_ixT (by assumption) (by rfl) | exact rv_ixL (by assumption) (by rfl)
    | exact sv_q (by assumption) (by assumption) | exact sv_within (by assumption)
    | exact Or.inr (by assumption) | exact Or.inl (by assumption) | (show (_ : String) ∈ _; decide)
    | with_reducible (first | apply ev_isi | apply ev_lenS | apply ev_if' | apply et_test | apply et_B | apply et_not | apply et_and | apply et_or | apply ev_andV | apply ev_orV | apply ev_notV | apply ea_cons | apply eo_some | apply ev_fl | apply ev_op | apply ev_un | apply ev_call)
    | walk_at "na" | walk_at "oi" | (show List.lookup _ _ = _; rfl)
    | assumption
    | (with_reducible intro hh; first | exact absurd (show true = false from hh) (by decide) | exact absurd (show false = true from hh) (by decide) | clear hh)))

section
variable {P : Program} {w : World} {K : PySem.W.Frag} {mg : Str → Option Value} {base : Heap}
theorem sc_line : FnScope ["name", "top", "rank", "up", "guard"] ["name", "top", "rank", "up", "guard"] (defScope s_line) := ⟨rfl, rfl, rfl, by decide +kernel, rfl, by decide +kernel, by decide +kernel⟩
def spLineF (_K : PySem.W.Frag) : Sp := fun vs H Q _ => ∃ n t r u g, vs = [n, t, r, u, g] ∧ ∀ p H', H p = none → Ex H H' → H' p = some (.tup [n, r, u, g, t]) → Q (.ref p) H'
theorem ok_line (T : Txt w K mg) : FnOk P w K mg base CX0 1 (f_line K) (fdAt K (f_line K)) ["name", "top", "rank", "up", "guard"] (spLineF K) := by
  refine (df_line T).ok sc_line (fun vs H Q E h => ?_) (fun cdv A outer s H vs Q E hr h => ?_)
  · obtain ⟨_, _, _, _, _, rfl, _⟩ := h
    rfl
  · obtain ⟨n, t, r, u, g, rfl, q⟩ := h
    refine ⟨_, PSs.nox ((pss_one (ps_ret (pe_tup (pa_cons (pv 0) (pa_cons (pv 2) (pa_cons (pv 3) (pa_cons (pv 4) (pa_cons (pv 1) pa_nil))))))))), ?_⟩
    exact eu_tup (vs := [n, r, u, g, t]) (ea_cons (ev_var rfl) (ea_cons (ev_var rfl) (ea_cons (ev_var rfl) (ea_cons (ev_var rfl) (ea_cons (ev_var rfl) ea_nil))))) (by show (5 : Nat) ≤ 100000; decide) H (Ex.refl _) _ fun p H1 np e1 hp => q p H1 np e1 hp
theorem ev_min2 {ta tb : TE} {σ : L2.St} {H : Hp} {i j : Int} (ha : Ev ta σ H (.int i)) (hb : Ev tb σ H (.int j)) : Ev (tCB (fun xs H Q => ∃ i j, xs = [V.int i, V.int j] ∧ Q (V.int (if j < i then j else i)) H) (tCons ta (tCons tb tNil))) σ H (.int (if j < i then j else i)) :=
  fun H1 e Q q => ha H1 e _ fun H2 e2 => hb H2 (e.trans e2) _ fun H3 e3 => ⟨i, j, rfl, q H3 (e2.trans e3)⟩
theorem q_asgN {te : TE} {i : Nat} {tz : TS} {D : Ends} {σ : L2.St} {H : Hp} {xs : List V} (h : EvL te σ H xs) (k : ∀ p H1, H p = none → Ex H H1 → H1 p = some (.lst xs) → tz D (σ.set i (some (.ref p))) H1) : tSeq (tAsg te (gName i)) tz D σ H := s_asgN (D := { D with nx := tz D }) h k
/-- runs of so many ticks together -/
def runsD : Nat → Int → List PyData
  | 0, _ => []
  | k + 1, t => if 0 < t then .tuple [.str "run", .int (if t < 9 then t else 9)] :: runsD k (t - 9) else []
def spLawSteps (K : PySem.W.Frag) : Sp := fun vs H Q _ => ∃ t : Int, vs = [.int t] ∧ t ≤ 1000 ∧ ∀ p xs H', H p = none → Ex H H' → H' p = some (.lst xs) → DpAll K H' xs (runsD t.toNat t) → Q (.ref p) H'
theorem sc_law_steps : FnScope ["_law_time", "_law_found"] ["_law_time"] (defScope s_law_steps) := ⟨rfl, rfl, rfl, by decide +kernel, rfl, by decide +kernel, by decide +kernel⟩
theorem ok_law_steps (T : Txt w K mg) : FnOk P w K mg base CX0 1 (f_law_steps K) (fdAt K (f_law_steps K)) ["_law_time"] (spLawSteps K) := by
  refine (df_law_steps T).ok sc_law_steps (fun vs H Q E h => ?_) (fun cdv A outer s H vs Q E hr h => ?_)
  · obtain ⟨_, rfl, _⟩ := h
    rfl
  · obtain ⟨t, rfl, ht, q⟩ := h
    refine ⟨_, PSs.nox ((pss_cons (ps_set (i := 1) sc_law_steps.nd rfl (Or.inl rfl) (pe_lst pa_nil))
      (pss_cons (ps_while PassesOwn.never (pt_cmpR op_gt (pv 0) pe_int (nomark _)) (pss_cons (ps_expr (pe_bm PySem.F.plainAttrs_list PySem.F.slot_list_append PySem.F.type_list_append mt_append (pv 1) (pa_cons (pe_tup (pa_cons pe_str (pa_cons (pe_callB (call_min2 rfl) (by rfl) (fr_min T) (by decide +kernel) (pa_cons pe_int (pa_cons (pv 0) pa_nil))) pa_nil))) pa_nil)))
      (pss_one (ps_set (i := 0) sc_law_steps.nd rfl (Or.inl rfl) (pe_op op_sub (pv 0) pe_int)))))
      (pss_one (ps_ret (pv 1)))))), ?_⟩
    refine q_asgN (el_lst ea_nil (by decide)) fun L H1 n1 e1 h1 => ?_
    have o1 : Own H H1 [(L, .lst [])] := own_add (Own.nil (Same.refl H)) e1 n1 h1
    refine q_while (fun m σ' H' => ∃ (G' : Hp) (xs : List V) (dn : List PyData) (u : Int) (k : Nat), Same H G' ∧ Own G' H' [(L, .lst xs)] ∧ DpAll K G' xs dn ∧ (u.toNat ≤ k ∧ u.toNat = m ∧ xs.length + m ≤ 1000) ∧ dn ++ runsD k u = runsD t.toNat t ∧ σ' = [some (.int u), some (.ref L)]) t.toNat ⟨H, [], [], t, t.toNat, Same.refl _, o1, .nil, ⟨Nat.le_refl _, rfl, by simp only [List.length_nil]; omega⟩, rfl, rfl⟩ fun m σ' H' hW => ?_
    obtain ⟨G', xs, dn, u, k, sg, o2, hd, ⟨y1, y2, y3⟩, y4, rfl⟩ := hW
    refine ⟨decide (0 < u), et_test (ev_op (ev_var rfl) ev_c rv_I0), fun hb H2 e2 => ?_, fun hb H2 e2 => ?_⟩
    · have hb := of_decide_eq_true hb
      have o3 := o2.same e2
      refine ⟨fun σ2 H2 => ∃ m', m' < m ∧ ∃ (G' : Hp) (xs : List V) (dn : List PyData) (u : Int) (k : Nat), Same H G' ∧ Own G' H2 [(L, .lst xs)] ∧ DpAll K G' xs dn ∧ (u.toNat ≤ k ∧ u.toNat = m' ∧ xs.length + m' ≤ 1000) ∧ dn ++ runsD k u = runsD t.toNat t ∧ σ2 = [some (.int u), some (.ref L)], fun _ _ h => h, ?_⟩
      have hU : EvU (tTup (tCons (tC (V.str (Str.ofString "run"))) (tCons (tCB (fun xs H Q => ∃ i j, xs = [V.int i, V.int j] ∧ Q (V.int (if j < i then j else i)) H) (tCons (tC (V.int 9)) (tCons (tVar 0) tNil))) tNil))) [some (.int u), some (.ref L)] H2 [.str "run", .int (if u < 9 then u else 9)] :=
        eu_tup (ea_cons ev_c (ea_cons (ev_min2 ev_c (ev_var rfl)) ea_nil)) (by show (2 : Nat) ≤ 100000; decide)
      refine q_appU (oi2 0 o3 rfl) (ev_var rfl) hU (by omega) fun p H3 np e3 hp => ?_
      obtain ⟨o4, s4⟩ := own_keep o3 e3 np hp
      have o5 : Own _ _ [(L, .lst (xs ++ [.ref p]))] := own_set (o' := .lst (xs ++ [.ref p])) (L := [(L, .lst xs)]) (a := L) (ob := .lst xs) (n := 0) o4 rfl
      refine s_asgR (v := .int (u - 9)) (ev_op (ev_var rfl) ev_c rv_I0) fun H4 e4 => ?_
      cases k with
      | zero => omega
      | succ k =>
        refine ⟨(u - 9).toNat, by omega, _, xs ++ [.ref p], dn ++ [.tuple [.str "run", .int (if u < 9 then u else 9)]], u - 9, k, sg.trans s4, o5.same e4, DpAll.append (daM s4 hd) (.cons (.tup (st_of upd_same) (.cons (.str _) (.cons (.int _) .nil))) .nil), ⟨by omega, rfl, by rw [List.length_append, List.length_singleton]; omega⟩, ?_, rfl⟩
        rw [← y4, List.append_assoc]
        unfold runsD
        rw [if_pos hb]
        conv => rhs; unfold runsD
        rfl
    · have hb : ¬ 0 < u := of_decide_eq_false hb
      have o3 := o2.same e2
      have hr : runsD k u = [] := by
        cases k with
        | zero => rfl
        | succ k => exact if_neg hb
      rw [hr, List.append_nil] at y4
      exact s_ret (ev_var rfl) fun H3 e3 => q L xs H3 n1 (sg.trans (o3.same e3).sub) (oi2 0 (o3.same e3) rfl) (y4 ▸ daM (o3.same e3).sub hd)
end
end KW
end
section
set_option Elab.async false
set_option linter.all false
set_option autoImplicit false
set_option maxRecDepth 100000
set_option maxHeartbeats 1000000
/-! what is known but the tables of code objects -/
namespace KW
open PySem PySem.Spec PyProof.Rows L2 He KR Evl
open LamX (ExtN Tabs TabS)
section
variable {K : PySem.W.Frag} {G G' H H' : Hp} {L : List (Addr × HO)}
theorem n_rd {a : Addr} {o : HO} (e : ExtN G G') (h : Rd G a o) (n : ∀ ps, o ≠ .tbl ps) : Rd G' a o := by
  rcases h with h | ⟨ob, h⟩
  · exact .inl (e _ _ h n)
  · exact .inr ⟨ob, e _ _ h fun ps z => by cases z⟩
theorem n_sL {a : Addr} {xs : List V} (e : ExtN G G') (h : SqL K G a xs) : SqL K G' a xs := h.imp (fun h => n_rd e h fun ps z => by cases z) id
theorem n_sT {a : Addr} {xs : List V} (e : ExtN G G') (h : SqT K G a xs) : SqT K G' a xs := h.imp (fun h => n_rd e h fun ps z => by cases z) id
mutual
theorem n_dp (e : ExtN G G') : ∀ {v : V} {d : PyData}, Dp K G v d → Dp K G' v d
  | _, _, .non => .non
  | _, _, .bl b => .bl b
  | _, _, .int i => .int i
  | _, _, .str x => .str x
  | _, _, .lst h a => .lst (n_sL e h) (n_da e a)
  | _, _, .tup h a => .tup (n_sT e h) (n_da e a)
theorem n_da (e : ExtN G G') : ∀ {vs : List V} {ds : List PyData}, DpAll K G vs ds → DpAll K G' vs ds
  | _, _, .nil => .nil
  | _, _, .cons a b => .cons (n_dp e a) (n_da e b)
end
theorem n_steps {v : V} {ss : List PyData} (e : ExtN G G') (h : StepsK K G v ss) : StepsK K G' v ss := by
  obtain ⟨t, xs, e1, h1, h2⟩ := h
  exact ⟨t, xs, e1, n_sL e h1, n_da e h2⟩
theorem n_line {l : LineG} (e : ExtN G G') (h : LineK K G l) : LineK K G' l := by
  obtain ⟨⟨g, e1, h1⟩, h2⟩ := h
  exact ⟨⟨g, e1, n_sT e h1⟩, n_steps e h2⟩
theorem n_row {vs : List V} {ds : List (Option (Str × Str))} (e : ExtN G G') (h : RowK K G vs ds) : RowK K G' vs ds := by
  induction h with
  | nil => exact .nil
  | non _ ih => exact .non ih
  | job a _ ih => exact .job (n_sT e a) ih
theorem n_plan {p : Addr} {R B T : List PyData} (e : ExtN G G') (h : PlanAt K G p R B T) : PlanAt K G' p R B T := by
  obtain ⟨dx, r1, r2, r3, x1, x2, x3, h0, ⟨h1, d1⟩, ⟨h2, d2⟩, h3, d3⟩ := h
  exact ⟨dx, r1, r2, r3, x1, x2, x3, e _ _ h0 (fun ps z => by cases z), ⟨e _ _ h1 (fun ps z => by cases z), n_da e d1⟩, ⟨e _ _ h2 (fun ps z => by cases z), n_da e d2⟩, e _ _ h3 (fun ps z => by cases z), n_da e d3⟩
theorem n_eng {g : EngG} (e : ExtN G G') (h : EngK K G g) : EngK K G' g := ⟨n_plan e h.plan, fun l hl => n_line e (h.ways l hl), fun j hj => n_steps e (h.tops j hj), fun j hj => n_steps e (h.bottom j hj), fun j hj => n_steps e (h.begun j hj), n_row e h.row⟩
theorem n_bench {b : BenchG} (e : ExtN G G') (h : BenchK K G b) : BenchK K G' b := ⟨n_eng e h.eng, e _ _ h.fresh (fun ps z => by cases z), n_da e h.rows⟩
/-- the tables left out -/
def strip (G : Hp) : Hp := fun b => match G b with
  | some (.tbl _) => none
  | o => o
theorem strip_sub (G : Hp) : Same (strip G) G := fun b o h => by
  unfold strip at h
  split at h
  · cases h
  · exact h
theorem strip_n (G : Hp) : ExtN G (strip G) := fun b o h n => by
  unfold strip
  rw [h]
  cases o <;> first | rfl | exact absurd rfl (n _)
theorem strip_no {G : Hp} {b : Addr} {ps : Array Value} (h : strip G b = some (.tbl ps)) : False := by
  unfold strip at h
  split at h
  · cases h
  · rename_i h2
    exact h2 _ h
/-- neither a table nor a code object -/
def Bare (o : HO) : Prop := (∀ ps, o ≠ .tbl ps) ∧ ∀ p, o ≠ .ext p
theorem bare_ins {C dx : Addr} {fs : List (Str × V)} : Bare (.ins C dx fs) := ⟨fun _ h => (nomatch h), fun _ h => (nomatch h)⟩
theorem bare_lst {xs : List V} : Bare (.lst xs) := ⟨fun _ h => (nomatch h), fun _ h => (nomatch h)⟩
theorem bare_dK {xs : List (L2.Key × V)} : Bare (.dK xs) := ⟨fun _ h => (nomatch h), fun _ h => (nomatch h)⟩
theorem bare_eng {e : EngG} : ∀ q ∈ e.obs K, Bare q.2 := by
  intro q hq
  rcases List.mem_append.mp hq with h | h
  · unfold EngG.head at h
    simp only [List.mem_cons, List.not_mem_nil, or_false] at h
    rcases h with rfl | rfl | rfl | rfl | rfl | rfl | rfl | rfl | rfl <;> first | exact bare_ins | exact bare_lst | exact bare_dK
  · rcases List.mem_append.mp h with h | h
    · obtain ⟨l, _, h⟩ := List.mem_flatMap.mp h
      unfold LineG.obs at h
      simp only [List.mem_cons, List.not_mem_nil, or_false] at h
      rcases h with rfl | h
      · exact bare_ins
      · first | (subst h; exact bare_lst) | (rcases h with rfl | rfl <;> first | exact bare_ins | exact bare_lst | exact bare_dK)
    · rcases List.mem_append.mp h with h | h
      · obtain ⟨j, _, rfl⟩ := List.mem_map.mp h
        exact bare_ins
      · rcases List.mem_append.mp h with h | h
        · obtain ⟨j, _, rfl⟩ := List.mem_map.mp h
          exact bare_ins
        · obtain ⟨j, _, rfl⟩ := List.mem_map.mp h
          exact bare_ins
theorem bare_bench {b : BenchG} : ∀ q ∈ b.obs K, Bare q.2 := by
  intro q hq
  rcases List.mem_cons.mp hq with rfl | hq
  · exact bare_ins
  · rcases List.mem_cons.mp hq with rfl | hq
    · exact bare_lst
    · exact bare_eng q hq
/-- what one owns stays ours where only tables change; all else is known behind -/
theorem own_tabs {T : List (Addr × Str)} (o : Own G H L) (hL : ∀ q ∈ L, Bare q.2) (e : ExtN H H') (hT : Tabs T H') : ∃ G2, ExtN G G2 ∧ Own G2 H' L ∧ Tabs T G2 := by
  have o1 : Own (strip G) H' L := ⟨fun q hq => e _ _ (o.at_ q hq) (hL q hq).1, o.nd, fun q hq => by
    have z := o.out q hq
    unfold strip
    rw [z], fun b u h => e _ _ (o.sub _ _ (strip_sub G _ _ h)) fun ps z => by
      subst z
      exact strip_no h⟩
  obtain ⟨G2, s2, o2, all⟩ := o1.all
  have nL : ∀ b ps, H' b = some (.tbl ps) → b ∉ L.map (·.1) := fun b ps hb hm => by
    obtain ⟨q, hq, rfl⟩ := List.mem_map.mp hm
    have z := o1.at_ q hq
    rw [hb] at z
    exact (hL q hq).1 ps (Option.some.inj z).symm
  have nC : ∀ c q, H' c = some (LamX.CodeO c q) → c ∉ L.map (·.1) := fun c q hc hm => by
    obtain ⟨x, hx, rfl⟩ := List.mem_map.mp hm
    have z := o1.at_ x hx
    rw [hc] at z
    exact (hL x hx).2 _ (Option.some.inj z).symm
  refine ⟨G2, (strip_n G).trans (ExtN.of s2), o2, fun p hp => ?_⟩
  obtain ⟨ps, h1, h2, h3⟩ := hT p hp
  refine ⟨ps, all _ _ (nL _ _ h1) h1, h2, fun pos cv hc => ?_⟩
  obtain ⟨c, e1, e2⟩ := h3 pos cv hc
  exact ⟨c, e1, all _ _ (nC _ _ e2) e2⟩
end
end KW
end
section
set_option Elab.async false
set_option linter.all false
set_option autoImplicit false
set_option maxRecDepth 100000
set_option maxHeartbeats 1000000
/-! plans made of known lists -/
namespace KW
open PySem PySem.Spec PyProof.Rows L2 He KR Evl
mutual
def smB : PyData → Bool
  | .str x => decide (x.length ≤ 10000)
  | .list ds => decide (ds.length ≤ 10000) && smAB ds
  | .tuple ds => decide (ds.length ≤ 10000) && smAB ds
  | _ => true
def smAB : List PyData → Bool
  | [] => true
  | d :: r => smB d && smAB r
end
mutual
theorem smB_ok : ∀ {d : PyData}, smB d = true → Sm d
  | .str x, h => by unfold smB at h; unfold Sm; exact of_decide_eq_true h
  | .list ds, h => by
    unfold smB at h
    unfold Sm
    obtain ⟨h1, h2⟩ := band h
    exact ⟨of_decide_eq_true h1, smAB_ok h2⟩
  | .tuple ds, h => by
    unfold smB at h
    unfold Sm
    obtain ⟨h1, h2⟩ := band h
    exact ⟨of_decide_eq_true h1, smAB_ok h2⟩
  | .none, _ => by unfold Sm; trivial
  | .bool _, _ => by unfold Sm; trivial
  | .int _, _ => by unfold Sm; trivial
  | .dict _, _ => by unfold Sm; trivial
theorem smAB_ok : ∀ {ds : List PyData}, smAB ds = true → SmA ds
  | [], _ => by unfold SmA; trivial
  | d :: r, h => by
    unfold smAB at h
    unfold SmA
    obtain ⟨h1, h2⟩ := band h
    exact ⟨smB_ok h1, smAB_ok h2⟩
end
section
variable {K : PySem.W.Frag}
theorem mk_plan {H1 : Hp} {x dx a : Addr} {b t : V} {db dt : PyData} {R B Td : List PyData} {Q : VK} {E : XK} (nx : H1 x = none) (ndx : H1 dx = none) (hne : dx ≠ x) (hl : Dp K H1 (.ref a) (.list R)) (hb : Dp K H1 b db) (ht : Dp K H1 t dt) (eb : db = .list B ∨ db = .tuple B) (et : dt = .list Td ∨ dt = .tuple Td)
    (sm : (smB (.list R) && (smB db && smB dt)) = true) (ok : planOkD (.list R) db dt = true) (ok2 : planOkD (.list R) (.list B) (.list Td) = true) (q : ∀ H3, Ex H1 H3 → PlanAt K H3 x R B Td → Q (.ref x) H3) :
    spPlan K [.ref x, .ref a, b, t] (upd (upd H1 dx (.own x)) x (.ins (g_Plan K) dx [])) (fun v H3 => v = .non ∧ Q (.ref x) H3) E := by
  have pl := plan_parts ok2
  obtain ⟨s1, s2⟩ := band sm
  obtain ⟨s2, s3⟩ := band s2
  have e1 : Ex H1 (upd H1 dx (.own x)) := Ex.new ndx
  have nx' : upd H1 dx (.own x) x = none := by rw [upd_ne (Ne.symm hne)]; exact nx
  have e2 : Ex H1 (upd (upd H1 dx (.own x)) x (.ins (g_Plan K) dx [])) := e1.trans (Ex.new nx')
  have qb : seqD db = B := by rcases eb with rfl | rfl <;> rfl
  have qt : seqD dt = Td := by rcases et with rfl | rfl <;> rfl
  have fin : ∀ {v : V} {d : PyData} {ds : List PyData}, Dp K H1 v d → (d = .list ds ∨ d = .tuple ds) → (∀ e ∈ ds, OneD e) → InS K H1 (upd (upd H1 dx (.own x)) x (.ins (g_Plan K) dx [])) v ds := fun hd hs ho => by
    obtain ⟨a, xs, rfl, h1, h2⟩ := sq_da hs hd
    exact ⟨a, xs, rfl, h1.imp (sL e2) (sT e2), in_of e2 h2 ho⟩
  refine ⟨x, dx, .ref a, b, t, .list R, db, dt, rfl, upd_same, ⟨dpM e2 hl, dpM e2 hb, dpM e2 ht⟩, ⟨smB_ok s1, smB_ok s2, smB_ok s3⟩, (fun h => by rw [ok] at h; cases h), fun _ => ?_⟩
  have o : Own H1 (upd (upd H1 dx (.own x)) x (.ins (g_Plan K) dx [])) [(x, .ins (g_Plan K) dx [])] := Own.new (Own.nil e1) nx'
  refine ⟨H1, [], o, ⟨fin hl (.inl rfl) fun e he => (one_line (pl.oR e he)).2.1, by rw [qb]; exact fin hb eb fun e he => (one_bottom (pl.oB e he)).1, by rw [qt]; exact fin ht et fun e he => (one_thread (pl.oT e he)).2.1⟩, fun G' H' sg o' _ hp => ⟨rfl, q H' (sg.trans o'.sub) ?_⟩⟩
  rw [qb, qt] at hp
  exact plan_mono o'.sub hp
/-- evaluates to what says d; .. several -/
def EvDp (K : PySem.W.Frag) (te : TE) (σ : L2.St) (H : Hp) (d : PyData) : Prop := ∀ H1, Ex H H1 → ∀ Q : VK, (∀ v H2, Ex H1 H2 → Dp K H2 v d → Q v H2) → te σ H1 Q
def EvDA (K : PySem.W.Frag) (ta : TA) (σ : L2.St) (H : Hp) (ds : List PyData) : Prop := ∀ H1, Ex H H1 → ∀ Q : List V → Hp → Prop, (∀ vs H2, Ex H1 H2 → DpAll K H2 vs ds → Q vs H2) → ta σ H1 Q
section
variable {σ : L2.St} {H H' : Hp} {te : TE} {ta tk : TA} {d : PyData} {ds : List PyData}
theorem EvDp.mono (e : Ex H H') (h : EvDp K te σ H d) : EvDp K te σ H' d := fun H1 a Q q => h H1 (e.trans a) Q q
theorem eda_nil : EvDA K tNil σ H [] := fun H1 _ Q q => q [] H1 (Ex.refl _) .nil
theorem eda_cons (h : EvDp K te σ H d) (h2 : EvDA K ta σ H ds) : EvDA K (tCons te ta) σ H (d :: ds) := fun H1 e Q q =>
  h H1 e _ fun v H2 e2 hv => h2 H2 (e.trans e2) _ fun vs H3 e3 hvs => q (v :: vs) H3 (e2.trans e3) (.cons (dpM e3 hv) hvs)
theorem edp_lst (h : EvDA K ta σ H ds) (hl : ds.length ≤ 100000) : EvDp K (tLst ta) σ H (.list ds) := fun H1 e Q q =>
  h H1 e _ fun vs H2 e2 hvs => ⟨sz_of (by rw [dpLen hvs]; exact hl), fun p hp => q (.ref p) _ (e2.trans (Ex.new hp)) (.lst (sq_of upd_same) (daM (Ex.new hp) hvs))⟩
theorem edp_tup (h : EvDA K ta σ H ds) (hl : ds.length ≤ 100000) : EvDp K (tTup ta) σ H (.tuple ds) := fun H1 e Q q =>
  h H1 e _ fun vs H2 e2 hvs => ⟨sz_of (by rw [dpLen hvs]; exact hl), fun p hp => q (.ref p) _ (e2.trans (Ex.new hp)) (.tup (st_of upd_same) (daM (Ex.new hp) hvs))⟩
theorem edp_ev {v : V} (h : Ev te σ H v) (hd : Dp K H v d) : EvDp K te σ H d := fun H1 e Q q => h H1 e _ fun H2 e2 => q v H2 e2 (dpM (e.trans e2) hd)
theorem edp_str {x : Str} : EvDp K (tC (.str x)) σ H (.str x) := edp_ev ev_c (.str x)
theorem edp_int {x : Int} : EvDp K (tC (.int x)) σ H (.int x) := edp_ev ev_c (.int x)
theorem edp_bl {x : Bool} : EvDp K (tC (.bl x)) σ H (.bool x) := edp_ev ev_c (.bl x)
theorem da5 {vs : List V} {a b c d e : PyData} (h : DpAll K H vs [a, b, c, d, e]) : ∃ n t r u g, vs = [n, t, r, u, g] ∧ DpAll K H [n, r, u, g, t] [a, c, d, e, b] := by
  obtain ⟨v0, _, rfl, h0, h⟩ := dpC h
  obtain ⟨v1, _, rfl, h1, h⟩ := dpC h
  obtain ⟨v2, _, rfl, h2, h⟩ := dpC h
  obtain ⟨v3, _, rfl, h3, h⟩ := dpC h
  obtain ⟨v4, _, rfl, h4, h⟩ := dpC h
  obtain rfl := dpN h
  exact ⟨v0, v1, v2, v3, v4, rfl, .cons h0 (.cons h2 (.cons h3 (.cons h4 (.cons h1 .nil))))⟩
/-- line(n, t) -/
theorem edp_line {dvs : List V} {n t r u g : PyData} {E : XK} (h : EvDA K ta σ H [n, t]) (hd : ∀ H, DpAll K H dvs [r, u, g]) : EvDp K (tCall (spLineF K) dvs E ta) σ H (.tuple [n, r, u, g, t]) := fun H1 e Q q =>
  h H1 e _ fun vs H2 e2 hvs => by
    obtain ⟨n', t', r', u', g', ee, hh⟩ := da5 (DpAll.append hvs (hd H2))
    rw [ee]
    exact ⟨n', t', r', u', g', rfl, fun p H3 np e3 hp => q _ H3 (e2.trans e3) (.tup (st_of hp) (daM e3 hh))⟩
/-- .. with what is handed in by names -/
theorem edp_lineN {m : Nat} {gV : List V → List V → List V} {n t r u g : PyData} {ks : List PyData} {E : XK} (h : EvDA K ta σ H [n, t]) (hk : EvDA K tk σ H ks) (hm : ks.length = m) (hg : ∀ H vs zs, DpAll K H vs [n, t] → DpAll K H zs ks → DpAll K H (gV vs zs) [n, t, r, u, g]) :
    EvDp K (tCallN 2 m (spLineF K) gV E ta tk) σ H (.tuple [n, r, u, g, t]) := fun H1 e Q q =>
  h H1 e _ fun vs H2 e2 hvs => hk H2 (e.trans e2) _ fun zs H3 e3 hzs => ⟨dpLen hvs, (dpLen hzs).trans hm, by
    obtain ⟨n', t', r', u', g', ee, hh⟩ := da5 (hg H3 vs zs (daM e3 hvs) hzs)
    rw [ee]
    exact ⟨n', t', r', u', g', rfl, fun p H4 np e4 hp => q _ H4 ((e2.trans e3).trans e4) (.tup (st_of hp) (daM e4 hh))⟩⟩
/-- Plan(lines) -/
def EvP (K : PySem.W.Frag) (te : TE) (σ : L2.St) (H : Hp) (R B T : List PyData) : Prop := ∀ H1, Ex H H1 → ∀ Q : VK, (∀ x H2, Ex H1 H2 → PlanAt K H2 x R B T → Q (.ref x) H2) → te σ H1 Q
theorem evp_make {tl : TE} {b t : V} {db dt : PyData} {R B Td : List PyData} {E : XK} (hl : EvDp K tl σ H (.list R)) (hb : ∀ H, Dp K H b db) (ht : ∀ H, Dp K H t dt) (eb : db = .list B ∨ db = .tuple B) (et : dt = .list Td ∨ dt = .tuple Td)
    (sm : (smB (.list R) && (smB db && smB dt)) = true) (ok : planOkD (.list R) db dt = true) (ok2 : planOkD (.list R) (.list B) (.list Td) = true) : EvP K (tMake (g_Plan K) (spPlan K) [b, t] E (tCons tl tNil)) σ H R B Td := fun H1 e Q q =>
  hl H1 e _ fun v H2 e2 hv => by
    obtain ⟨a, xs, rfl, _, _⟩ := dpL hv
    exact fun x dx nx ndx hne => mk_plan nx ndx hne hv (hb H2) (ht H2) eb et sm ok ok2 fun H3 e3 hp => q x H3 (e2.trans e3) hp
end
end
end KW
end
section
set_option Elab.async false
set_option linter.all false
set_option autoImplicit false
set_option maxRecDepth 100000
set_option maxHeartbeats 1000000
/-! the law's begun -/
namespace KW
open PySem PySem.Spec PyProof.Rows L2 He KR Evl
open LamX (ExtN Tabs TabS)
local macro_rules
  | `(tactic| walk_at "na") => `(tactic| with_reducible (first | exact cl_Line (by assumption) | exact cl_Job (by assumption) | exact cl_Engine (by assumption) | exact cl_Plan (by assumption) | exact cl_Run (by assumption) | exact cl_Bench (by assumption) | exact na_Line_name (by assumption) | exact na_Line_rank (by assumption) | exact na_Line_is_up (by assumption) | exact na_Line_guard (by assumption) | exact na_Line_top (by assumption) | exact na_Line_let_by (by assumption) | exact na_Line_shut_till (by assumption) | exact na_Line_since (by assumption) | exact na_Line_fresh (by assumption) | exact na_Line_counts (by assumption) | exact na_Line_longest (by assumption) | exact na_Job_word (by assumption) | exact na_Job_name (by assumption) | exact na_Job_rank (by assumption) | exact na_Job_steps (by assumption) | exact na_Job_masks_then (by assumption) | exact na_Job_at (by assumption) | exact na_Job_left (by assumption) | exact na_Engine_plan (by assumption) | exact na_Engine_ways (by assumption) | exact na_Engine_tops (by assumption) | exact na_Engine_bottom (by assumption) | exact na_Engine_put_off (by assumption) | exact na_Engine_woken (by assumption) | exact na_Engine_begun (by assumption) | exact na_Engine_depth (by assumption) | exact na_Engine_now (by assumption) | exact na_Engine_row (by assumption) | exact na_Engine_depths (by assumption) | exact na_Engine_last_begun (by assumption) | exact na_Plan_row (by assumption) | exact na_Plan_low (by assumption) | exact na_Plan_late (by assumption) | exact na_Run_row (by assumption) | exact na_Run_depths (by assumption) | exact na_Run_table (by assumption) | exact na_Run_longest (by assumption) | exact na_Bench_engine (by assumption) | exact na_Bench_fresh (by assumption) | exact na_Bench_told_so_far (by assumption) | exact na_Bench_rows (by assumption)))
local macro_rules
  | `(tactic| walk_at "oi") => `(tactic| first | assumption | exact oi2 0 (by assumption) rfl | exact oi2 1 (by assumption) rfl | exact oi2 2 (by assumption) rfl | exact oi2 3 (by assumption) rfl | exact oi2 4 (by assumption) rfl | exact oi2 5 (by assumption) rfl | exact oi2 6 (by assumption) rfl | exact oi2 7 (by assumption) rfl | exact oi2 8 (by assumption) rfl)
local macro_rules
  | `(tactic| walk_at "ev") => `(tactic| repeat' (first
    | exact ev_c | exact ev_var rfl | exact ea_nil | exact rv_I0 | exact ru_neg | exact eo_none
    | exact rv_eq rfl | exact rv_ne rfl
    | exact rv_ixT (by assumption) (by rfl) | exact rv_ixL (by assumption) (by rfl)
    | exact sv_q (by assumption) (by assumption) | exact sv_within (by assumption)
    | exact Or.inr (by assumption) | exact Or.inl (by assumption) | (show (_ : String) ∈ _; decide)
    | with_reducible (first | apply ev_isi | apply ev_lenS | apply ev_if' | apply et_test | apply et_B | apply et_not | apply et_and | apply et_or | apply ev_andV | apply ev_orV | apply ev_notV | apply ea_cons | apply eo_some | apply ev_fl | apply ev_op | apply ev_un | apply ev_call)
    | walk_at "na" | walk_at "oi" | (show List.lookup _ _ = _; rfl)
    | assumption
    | (with_reducible intro hh; first | exact absurd (show true = false from hh) (by decide) | exact absurd (show false = true from hh) (by decide) | clear hh)))

section
variable {P : Program} {w : World} {K : PySem.W.Frag} {mg : Str → Option Value} {base : Heap}
theorem sc_law_told : FnScope ["_law_ask"] ["_law_ask"] (defScope s_law_told) := ⟨rfl, rfl, rfl, by decide +kernel, rfl, by decide +kernel, by decide +kernel⟩
theorem sc_law_begun : FnScope ["_law_long", "_law_most", "_law_bench"] ["_law_long", "_law_most"] (defScope s_law_begun) := ⟨rfl, rfl, rfl, by decide +kernel, rfl, by decide +kernel, by decide +kernel⟩
def lamN : Str := "_law_begun.<locals>.<lambda>"
def runLD (n : Str) (r : Int) (ss : List PyData) : PyData := .tuple [.str n, .int r, .bool false, .tuple [.int 3, .int 10, .int 20], .list ss]
def RB (long : Int) : List PyData := [runLD "a" 2 (runsD long.toNat long), runLD "b" 1 [.tuple [.str "run", .int 1]]]
def untilE (long k : Int) : Option EngM := untilM "b" ((if 900 < 0 + k then 900 else 0 + k) - 0).toNat { newEng (RB long) [] [] with last := [] } (["a", "b"] : List Str)
def begunD (long k : Int) : PyData := match untilE long k with
  | some m' => .tuple [.int (m'.now - 1), .int m'.now]
  | none => .tuple [.str "refused", .int 0]
theorem begun_some {long k : Int} {m' : EngM} (h : untilE long k = some m') : begunD long k = .tuple [.int (m'.now - 1), .int m'.now] := by unfold begunD; rw [h]
theorem begun_none {long k : Int} (h : untilE long k = none) : begunD long k = .tuple [.str "refused", .int 0] := by unfold begunD; rw [h]
def optV : Option Int → V
  | none => .non
  | some k => .int k
theorem until_spec {G5 H5 : Hp} {b2 : BenchG} {long k : Int} {Q' : VK} {E' : XK} (o5 : Own G5 H5 (b2.obs K ++ [])) (kb5 : BenchK K G5 b2) (hm : b2.e.m = newEng (RB long) [] []) (hf : b2.fresh = (["a", "b"] : List Str)) (hr : b2.rowsD.length ≤ 1000) (ok2 : planOkD (.list (RB long)) (.list []) (.list []) = true) (hw : withinD (.int k) 1 900 = true)
    (h1 : ∀ m' (b3 : BenchG) G6 H6, untilE long k = some m' → Same G5 G6 → b3.a = b2.a → b3.e.m = m' → Own G6 H6 (b3.obs K ++ []) → Q' (.int (m'.now - 1)) H6)
    (h2 : untilE long k = none → ∀ (b3 : BenchG) G6 H6, Same G5 G6 → b3.a = b2.a → b3.e.m = b2.e.m → Own G6 H6 (b3.obs K ++ []) → E' (.ref (g_BadTicks K)) none H6) : spUntil K [.ref b2.a, .str "b", .int k] H5 Q' E' := by
  have hR : b2.e.R = RB long := congrArg EngM.R hm
  have hB : b2.e.B = [] := congrArg EngM.B hm
  have hT : b2.e.T = [] := congrArg EngM.T hm
  have h0 : b2.e.now = 0 := congrArg EngM.now hm
  have hn : (RB long).map nameD = (["a", "b"] : List Str) := rfl
  have hU : untilTo b2 "b" k = untilE long k := by
    unfold untilTo untilE
    rw [h0, hf, hm]
  have hD : lineNameD b2.e.R (.str "b") = true := by
    show decide (_ ∈ _) = true
    rw [hR, hn]
    decide
  refine ⟨G5, [], b2, .str "b", .int k, .str "b", .int k, 0, rfl, o5, kb5, ?_, ⟨hr, by rw [hf]; decide, by rw [hf]; decide, by omega⟩, ?_, .str _, .int _, fun h => ?_, fun _ h G6 H6 v1 v2 s6 _ o6 => ?_, fun n k' m' en ek hn hw2 hu b3 G6 H6 s6 ha3 hm3 hf3 ht3 hr3 k3 o3 => ?_⟩
  · rw [hm, hR, hB, hT]
    exact bi_new ok2
  · rw [hf, hR, hn]
    intro n h
    exact h
  · rw [hD] at h
    cases h
  · refine h2 ?_ _ G6 H6 s6 ?_ ?_ o6
    · rcases h with h | ⟨n, k', en, ek, h⟩
      · rw [hw] at h
        cases h
      · cases en
        cases ek
        rw [← hU]
        exact h
    · rfl
    · rfl
  · cases en
    cases ek
    rw [hU] at hu
    exact h1 m' b3 G6 H6 hu s6 ha3 hm3 o3
def spBegun (K : PySem.W.Frag) (Pt : Addr) : Sp := fun vs H Q _ => ∃ (long : Int) (mo : Option Int), vs = [.int long, optV mo] ∧ long ≤ 1000 ∧ (smB (.list (RB long)) && (smB (.tuple []) && smB (.tuple []))) = true ∧ planOkD (.list (RB long)) (.tuple []) (.tuple []) = true ∧ planOkD (.list (RB long)) (.list []) (.list []) = true ∧ withinD (.int (mo.getD 60)) 1 900 = true ∧ Tabs [(Pt, lamN)] H ∧
  ∀ p H', ExtN H H' → Tabs [(Pt, lamN)] H' → Dp K H' (.ref p) (begunD long (mo.getD 60)) → Q (.ref p) H'
theorem q_bench {C : Addr} {sp : Sp} {E : XK} {te : TE} {i : Nat} {tz : TS} {D : Ends} {σ : L2.St} {H : Hp} {R B Td : List PyData} (hP : EvP K te σ H R B Td) (k : ∀ x H1, Ex H H1 → PlanAt K H1 x R B Td → ∀ bx bdx, H1 bx = none → H1 bdx = none → bdx ≠ bx → sp [.ref bx, .ref x] (upd (upd H1 bdx (.own bx)) bx (.ins C bdx [])) (fun v H3 => v = .non ∧ tz D (σ.set i (some (.ref bx))) H3) E) :
    tSeq (tAsg (tMake C sp [] E (tCons te tNil)) (gName i)) tz D σ H := hP H (Ex.refl _) _ fun x H1 e1 hx bx bdx n1 n2 n3 => k x H1 e1 hx bx bdx n1 n2 n3
theorem edp_steps {ta : TA} {σ : L2.St} {H : Hp} {t : Int} {E : XK} (h : EvA ta σ H [.int t]) (ht : t ≤ 1000) : EvDp K (tCall (spLawSteps K) [] E ta) σ H (.list (runsD t.toNat t)) := fun H1 e Q q =>
  h H1 e _ fun H2 e2 => ⟨t, rfl, ht, fun p xs H3 np e3 hp hd => q (.ref p) H3 (e2.trans e3) (.lst (sq_of hp) hd)⟩
theorem ok_law_begun (T : Txt w K mg) (TB : LamX.TabB base mg (cT K ("_law_begun", none)).1 (cT K ("_law_begun", none)).2) : FnOk P w K mg base CX0 12 (f_law_begun K) (fdAt K (f_law_begun K)) ["_law_long", "_law_most"] (spBegun K (cT K ("_law_begun", none)).2) := by
  obtain ⟨_, _, _, _, _, _, _, cdT, _, _, hfT, lkT, hcT, _, _⟩ := (df_law_told T).ex
  have biT := bi_law_told T
  rw [hfT] at lkT biT
  obtain ⟨_, _, _, _, _, _, _, cdv, _, _, hfd, lk, hcd, _, _⟩ := (df_law_begun T).ex
  obtain ⟨dsU, rd_Bench_until, bd_Bench_until⟩ := bd_Bench_until T
  obtain ⟨_, kb_until⟩ := kb_until T
  obtain ⟨_, kb_law_begun_line⟩ := kb_line_rank T
  obtain ⟨dsL, rd_line, bd_line⟩ := bd_line T
  obtain ⟨dsP, rd_Plan_init, bd_Plan_init⟩ := bd_Plan_init T
  rw [hfd] at lk
  have hc : cdv = .ref (cT K ("_law_begun", none)).1 := by
    have hr : ∃ c, cdv = .ref c := by
      cases cdv <;> first | exact ⟨_, rfl⟩ | exact (nomatch hcd)
    obtain ⟨c, rfl⟩ := hr
    exact congrArg Value.ref (codeOf_eq (p := ("_law_begun", none)) lk rfl).symm
  rw [hfd]
  generalize (cT K ("_law_begun", none)).2 = Pt at TB ⊢
  refine fn_of lk hcd sc_law_begun (fun vs H Q E h => ?_) (fun A outer s H vs Q E hr h => ?_)
  · obtain ⟨_, _, rfl, _⟩ := h
    rfl
  · obtain ⟨long, mo, rfl, hl, hsm, ok1, ok2, hw, hT, q⟩ := h
    have hcode : (envOfC "_law_begun" (defScope s_law_begun) s.heap.objs.size (f_law_begun K) cdv).code = .ref (cT K ("_law_begun", none)).1 := hc
    refine ⟨_, PSs.nox ((pss_cons (ps_set (i := 2) sc_law_begun.nd rfl (Or.inr rfl) (pe_make (mk_Bench T) (ok_Bench_init T) (hr.mono (by decide)) rfl (gl_Bench T) (bi_Bench_init T) .nil passL (pa_cons (pe_make (mk_Plan T) (ok_Plan_init T) (hr.mono (by decide)) rfl (gl_Plan T) bd_Plan_init rd_Plan_init passL (pa_cons (pe_lst (pa_cons (pe_callN (ok_line T) (hr.mono (by decide)) rfl (gl_line T) (df_line T).kp kb_law_begun_line pass0 (pa_cons pe_str (pa_cons (pe_call (ok_law_steps T) (hr.mono (by decide)) rfl (gl_law_steps T) (df_law_steps T).kp (bi_law_steps T) .nil pass0 (pa_cons (pv 0) pa_nil)) pa_nil)) (pk_cons pe_int pk_nil)) (pa_cons (pe_call (ok_line T) (hr.mono (by decide)) rfl (gl_line T) (df_line T).kp bd_line rd_line pass0 (pa_cons pe_str (pa_cons (pe_lst (pa_cons (pe_tup (pa_cons pe_str (pa_cons pe_int pa_nil))) pa_nil)) pa_nil))) pa_nil))) pa_nil)) pa_nil)))
      (pss_cons (ps_expr (pe_meth (pv 2) (cl_Bench T) (me_Bench_knock T) (ok_Bench_knock T) (hr.mono (by decide)) (bi_Bench_knock T) .nil passL (pa_cons pe_str pa_nil)))
      (pss_cons (ps_expr (pe_meth (pv 2) (cl_Bench T) (me_Bench_knock T) (ok_Bench_knock T) (hr.mono (by decide)) (bi_Bench_knock T) .nil passL (pa_cons pe_str pa_nil)))
      (pss_cons (ps_if (pt_cmp (pc_isN (pv 1)) rfl) (pss_one (ps_ret (pe_tup (pa_cons ((LamX.pe_lamcall (k := 9) (T := [(Pt, lamN)]) (TT := LamX.TTold K (g_KnockError K) "refused") rfl (gl_law_told T) (df_law_told T).kp lkT hcT biT sc_law_told rfl (Or.inl rfl) (LamX.told_gives (CS := g_KnockError K) (ret := "refused") rfl (gl_KnockError T) (by decide) (fun _ => rfl)) TB hcode (List.mem_cons_self ..) (by intro p hp _; cases List.mem_singleton.mp hp; rfl) (hr.mono (by decide)) (LamX.lamS_by (by rfl)) rfl (fun _ _ _ _ _ => rfl) (fun A outer s H E f c' hr2 => pe_meth (pv 2) (cl_Bench T) (me_Bench_until T) (ok_Bench_until T) (hr2.mono (by decide)) bd_Bench_until rd_Bench_until (passes_call (takes_of rfl rfl rfl rfl) fun _ _ _ _ h => h) (pa_cons pe_str pa_nil)))) (pa_cons (pe_meth0 (pv 2) (cl_Bench T) (me_Bench_tick T) (ok_Bench_tick T) (hr.mono (by decide)) (bi_Bench_tick T) .nil pass0) pa_nil))))) pss_nil)
      (pss_one (ps_ret (pe_tup (pa_cons ((LamX.pe_lamcall (k := 9) (T := [(Pt, lamN)]) (TT := LamX.TTold K (g_KnockError K) "refused") rfl (gl_law_told T) (df_law_told T).kp lkT hcT biT sc_law_told rfl (Or.inl rfl) (LamX.told_gives (CS := g_KnockError K) (ret := "refused") rfl (gl_KnockError T) (by decide) (fun _ => rfl)) TB hcode (List.mem_cons_self ..) (by intro p hp _; cases List.mem_singleton.mp hp; rfl) (hr.mono (by decide)) (LamX.lamS_by (by rfl)) rfl (fun _ _ _ _ _ => rfl) (fun A outer s H E f c' hr2 => pe_methN (pv 2) (cl_Bench T) (me_Bench_until T) (ok_Bench_until T) (hr2.mono (by decide)) kb_until (passes_call (takes_of rfl rfl rfl rfl) fun _ _ _ _ h => h) (pa_cons pe_str pa_nil) (pk_cons (pv 1) pk_nil)))) (pa_cons (pe_meth0 (pv 2) (cl_Bench T) (me_Bench_tick T) (ok_Bench_tick T) (hr.mono (by decide)) (bi_Bench_tick T) .nil pass0) pa_nil)))))))))), ?_⟩
    have hGu : ∀ H : Hp, Dp K H (.ref (ga K "GUARD")) (.tuple [.int 3, .int 10, .int 20]) := fun H => .tup (tu_GUARD T H) (.cons (.int _) (.cons (.int _) (.cons (.int _) .nil)))
    refine q_bench (K := K) (R := RB long) (B := []) (Td := []) ?_ fun x H1 e1 hx bx bdx nb nbd hne => ?_
    · refine evp_make (edp_lst (eda_cons (edp_lineN (E := E0) (m := 1) (gV := fun vs zs => vs ++ (zs ++ [V.bl false, V.ref (ga K "GUARD")])) (n := .str "a") (t := .list (runsD long.toNat long)) (r := .int 2) (u := .bool false) (g := .tuple [.int 3, .int 10, .int 20]) (eda_cons edp_str (eda_cons (edp_steps (E := E0) (ea_cons (ev_var (i := 0) rfl) ea_nil) hl) eda_nil)) (eda_cons (edp_int (x := 2)) eda_nil) rfl fun H vs zs h1 h2 => DpAll.append h1 (DpAll.append h2 (.cons (.bl _) (.cons (hGu H) .nil)))) (eda_cons (edp_line (E := E0) (dvs := [V.int 1, V.bl false, V.ref (ga K "GUARD")]) (eda_cons (edp_str (x := "b")) (eda_cons (edp_lst (eda_cons (edp_tup (eda_cons (edp_str (x := "run")) (eda_cons (edp_int (x := 1)) eda_nil)) (by show (2 : Nat) ≤ 100000; decide)) eda_nil) (by show (1 : Nat) ≤ 100000; decide)) eda_nil)) fun H => .cons (.int _) (.cons (.bl _) (.cons (hGu H) .nil))) eda_nil)) (by show (2 : Nat) ≤ 100000; decide)) (b := .ref (kwAt ("Plan", some "__init__") "bottoms" K)) (t := .ref (kwAt ("Plan", some "__init__") "threads" K)) (fun H => .tup (em0_Plan_init_bottoms T H) .nil) (fun H => .tup (em0_Plan_init_threads T H) .nil) (.inr rfl) (.inr rfl) hsm ok1 ok2
    refine ⟨upd H1 bdx (.own bx), [], bx, bdx, x, RB long, [], [], rfl, Own.new (Own.nil (Same.refl _)) (by rw [upd_ne (Ne.symm hne)]; exact nb), plan_mono (Ex.new nbd) hx, ok2, fun b G2 H2 hba hbm hbp hbf hbt hbr sg2 kb2 o2 => ⟨rfl, ?_⟩⟩
    have hR : b.e.R = RB long := congrArg EngM.R hbm
    have hB : b.e.B = [] := congrArg EngM.B hbm
    have hTt : b.e.T = [] := congrArg EngM.T hbm
    have h0 : b.e.now = 0 := congrArg EngM.now hbm
    have hn : (RB long).map nameD = (["a", "b"] : List Str) := rfl
    have hko : ∀ {b' : BenchG}, b'.e = b.e → b'.told ≤ 10 → knockNo b' = false := fun {b'} he ht => by
      unfold knockNo
      rw [he, h0]
      have h1 : ¬ b'.told = 400 := by omega
      simp [h1]
    have hln : ∀ {n : Str}, n ∈ (["a", "b"] : List Str) → lineNameD b.e.R (.str n) = true := fun {n} h => by
      show decide (_ ∈ _) = true
      rw [hR, hn]
      exact decide_eq_true h
    have pl : PlanP b.e.R b.e.B b.e.T := by rw [hR, hB, hTt]; exact plan_parts ok2
    subst hba
    dsimp only
    refine ⟨.ref b.a, rfl, b.a, b.dx, b.fs, rfl, oi2 0 o2 rfl, rfl, ⟨G2, [], b, .str "a", .str "a", rfl, o2, kb2, pl, by rw [hbr]; decide, by rw [hbf]; decide, .str _, (fun h => by rw [hln (by decide)] at h; cases h), (fun _ h => by rw [hko rfl (by omega)] at h; cases h), fun n1 en1 _ _ b3 G3 H3 s3 ha3 he3 hf3 ht3 hr3 kb3 o3 => ?_⟩⟩
    cases en1
    dsimp only
    refine ⟨.ref b.a, rfl, b3.a, b3.dx, b3.fs, by rw [ha3], oi2 0 o3 rfl, rfl, ⟨G3, [], b3, .str "b", .str "b", by rw [ha3]; rfl, o3, kb3, by rw [he3]; exact pl, by rw [hr3, hbr]; decide, by rw [hf3, hbf]; decide, .str _, (fun h => by rw [he3, hln (by decide)] at h; cases h), (fun _ h => by rw [hko he3 (by omega)] at h; cases h), fun n2 en2 _ _ b4 G4 H4 s4 ha4 he4 hf4 ht4 hr4 kb4 o4 => ?_⟩⟩
    cases en2
    dsimp only
    have ha : b4.a = b.a := ha4.trans ha3
    have hm4 : b4.e.m = newEng (RB long) [] [] := by rw [he4, he3]; exact hbm
    have hf : b4.fresh = (["a", "b"] : List Str) := by rw [hf4, hf3, hbf]; rfl
    have hr : b4.rowsD.length ≤ 1000 := by rw [hr4, hr3, hbr]; decide
    have sG : Same H G4 := (e1.trans (Ex.new nbd)).trans (sg2.trans (s3.trans s4))
    have hT4 : Tabs [(Pt, lamN)] H4 := hT.ext (sG.trans o4.sub)
    have bareL : ∀ q ∈ b4.obs K ++ [], Bare q.2 := fun q hq => by
      rw [List.append_nil] at hq
      exact bare_bench q hq
    rw [← ha]
    cases mo with
    | none =>
      refine q_when (b := true) (et_B (ev_is (ev_isN (ev_var rfl)) rfl)) (fun _ H5 e5 => ?_) (fun h => by cases h)
      refine ⟨hT4.ext e5, fun H6 eN hT6 => ?_⟩
      obtain ⟨G6, n6, o6, hTG⟩ := own_tabs (o4.same e5) bareL eN hT6
      refine ⟨.ref b4.a, rfl, b4.a, b4.dx, b4.fs, rfl, oi2 0 o6 rfl, rfl, ?_⟩
      refine ea_cons ev_c ea_nil H6 (Ex.refl _) _ fun H7 e7 => ?_
      replace o6 := o6.same e7
      show spUntil K [.ref b4.a, .str "b", .int 60] H7 _ _
      refine until_spec (K := K) (long := long) (k := 60) o6 (n_bench n6 kb4) hm4 hf hr ok2 hw (fun m' b5 G7 H7 hu s7 ha7 hm7 o7 => ?_) (fun hu b5 G7 H7 s7 ha7 hm7 o7 => ?_)
      · refine ⟨.ref b4.a, rfl, b5.a, b5.dx, b5.fs, by rw [ha7], oi2 0 o7 rfl, rfl, ⟨G7, [], b5, by rw [ha7]; rfl, o7, fun H8 e8 => ⟨by show (2 : Nat) ≤ sizeLine; rw [sizeLine_eq]; decide, fun p np => ?_⟩⟩⟩
        have sR : Same G6 (upd H8 p (.tup [.int (m'.now - 1), .int b5.e.now])) := s7.trans ((o7.same e8).sub.trans (Ex.new np))
        refine q p _ ((ExtN.of sG).trans (n6.trans (ExtN.of sR))) (hTG.ext sR) ?_
        show Dp K _ _ (begunD long 60)
        rw [begun_some hu, ← hm7]
        exact .tup (st_of upd_same) (.cons (.int _) (.cons (.int _) .nil))
      · refine ⟨true, em_BadTicks_KnockError T, fun _ => ?_, fun h => by cases h⟩
        refine ⟨.ref b4.a, rfl, b5.a, b5.dx, b5.fs, by rw [ha7], oi2 0 o7 rfl, rfl, ⟨G7, [], b5, by rw [ha7]; rfl, o7, fun H8 e8 => ⟨by show (2 : Nat) ≤ sizeLine; rw [sizeLine_eq]; decide, fun p np => ?_⟩⟩⟩
        have sR : Same G6 (upd H8 p (.tup [.str "refused", .int b5.e.now])) := s7.trans ((o7.same e8).sub.trans (Ex.new np))
        have h5 : b5.e.now = 0 := (congrArg EngM.now (hm7.trans hm4))
        refine q p _ ((ExtN.of sG).trans (n6.trans (ExtN.of sR))) (hTG.ext sR) ?_
        show Dp K _ _ (begunD long 60)
        rw [begun_none hu, h5]
        exact .tup (st_of upd_same) (.cons (.str _) (.cons (.int _) .nil))
    | some k =>
      refine q_when (b := false) (et_B (ev_is (ev_isN (ev_var rfl)) rfl)) (fun h => by cases h) (fun _ H5 e5 => ?_)
      refine ⟨hT4.ext e5, fun H6 eN hT6 => ?_⟩
      obtain ⟨G6, n6, o6, hTG⟩ := own_tabs (o4.same e5) bareL eN hT6
      refine ⟨.ref b4.a, rfl, b4.a, b4.dx, b4.fs, rfl, oi2 0 o6 rfl, rfl, ?_⟩
      refine ea_cons ev_c ea_nil H6 (Ex.refl _) _ fun H7 e7 => ?_
      refine ea_cons (ev_var (v := .int k) rfl) ea_nil H7 (Ex.refl _) _ fun H8 e8 => ⟨rfl, rfl, ?_⟩
      replace o6 := (o6.same e7).same e8
      show spUntil K [.ref b4.a, .str "b", .int k] H8 _ _
      refine until_spec (K := K) (long := long) (k := k) o6 (n_bench n6 kb4) hm4 hf hr ok2 hw (fun m' b5 G7 H7 hu s7 ha7 hm7 o7 => ?_) (fun hu b5 G7 H7 s7 ha7 hm7 o7 => ?_)
      · refine ⟨.ref b4.a, rfl, b5.a, b5.dx, b5.fs, by rw [ha7], oi2 0 o7 rfl, rfl, ⟨G7, [], b5, by rw [ha7]; rfl, o7, fun H8 e8 => ⟨by show (2 : Nat) ≤ sizeLine; rw [sizeLine_eq]; decide, fun p np => ?_⟩⟩⟩
        have sR : Same G6 (upd H8 p (.tup [.int (m'.now - 1), .int b5.e.now])) := s7.trans ((o7.same e8).sub.trans (Ex.new np))
        refine q p _ ((ExtN.of sG).trans (n6.trans (ExtN.of sR))) (hTG.ext sR) ?_
        show Dp K _ _ (begunD long k)
        rw [begun_some hu, ← hm7]
        exact .tup (st_of upd_same) (.cons (.int _) (.cons (.int _) .nil))
      · refine ⟨true, em_BadTicks_KnockError T, fun _ => ?_, fun h => by cases h⟩
        refine ⟨.ref b4.a, rfl, b5.a, b5.dx, b5.fs, by rw [ha7], oi2 0 o7 rfl, rfl, ⟨G7, [], b5, by rw [ha7]; rfl, o7, fun H8 e8 => ⟨by show (2 : Nat) ≤ sizeLine; rw [sizeLine_eq]; decide, fun p np => ?_⟩⟩⟩
        have sR : Same G6 (upd H8 p (.tup [.str "refused", .int b5.e.now])) := s7.trans ((o7.same e8).sub.trans (Ex.new np))
        have h5 : b5.e.now = 0 := (congrArg EngM.now (hm7.trans hm4))
        refine q p _ ((ExtN.of sG).trans (n6.trans (ExtN.of sR))) (hTG.ext sR) ?_
        show Dp K _ _ (begunD long k)
        rw [begun_none hu, h5]
        exact .tup (st_of upd_same) (.cons (.str _) (.cons (.int _) .nil))
end
end KW
end
section
set_option Elab.async false
set_option linter.all false
set_option autoImplicit false
set_option maxRecDepth 100000
set_option maxHeartbeats 0
/-! what is computed outright -/
namespace KW
open PySem PySem.Spec
def RL (m : Int) : List PyData := [runLD "a" 1 [.tuple [.str "run", .int m]]]
def okRB (R : List PyData) : Bool := (smB (.list R) && (smB (.tuple []) && smB (.tuple []))) && (planOkD (.list R) (.tuple []) (.tuple []) && planOkD (.list R) (.list []) (.list []))
def rowPD : Option (Str × Str) → PyData
  | none => .none
  | some p => .tuple [.str p.1, .str p.2]
def rowOf (m : Int) : List PyData := (runTo (newEng (RL m) [] []) [(0, "a")] 60).row.map rowPD
theorem rb_ok : ∀ i : Fin 10, okRB (RB (55 + (i.val : Int))) = true := by decide +kernel
theorem rl_ok : ∀ i : Fin 9, okRB (RL (1 + (i.val : Int))) = true := by decide +kernel
theorem rl_ok2 : ∀ i : Fin 9, ((smB (.list (RL (1 + (i.val : Int)))) && (smB (.list []) && smB (.tuple []))) && planOkD (.list (RL (1 + (i.val : Int)))) (.list []) (.tuple [])) = true := by decide +kernel
theorem rl_sh : ∀ i : Fin 9, SeqAt.shaped (runLD "a" 1 [.tuple [.str "run", .int (1 + (i.val : Int))]]) = true := by decide +kernel
end KW
end
section
set_option Elab.async false
set_option linter.all false
set_option autoImplicit false
set_option maxRecDepth 100000
set_option maxHeartbeats 0
/-! what is computed outright: engines -/
namespace KW
open PySem PySem.Spec
theorem row_ok : ∀ i : Fin 9, SeqAt.shaped (.list (rowOf (1 + (i.val : Int)))) = true := by decide +kernel
theorem begun_unlike : PyData.eqv (begunD 59 59) (begunD 59 60) = false := by decide +kernel
end KW
end
section
set_option Elab.async false
set_option linter.all false
set_option autoImplicit false
set_option maxRecDepth 100000
set_option maxHeartbeats 1000000
/-! plans compared, runs, what is told: as readings -/
namespace KW
open PySem PySem.Spec PyProof.Rows L2 He KR Evl
section
variable {K : PySem.W.Frag} {σ : L2.St} {H H' : Hp} {te tf tr : TE} {ta tk : TA} {d e : PyData} {ds : List PyData}
theorem eqv_self {d : PyData} (h : SeqAt.shaped d = true) : PyData.eqv d d = true := SeqAt.eqv_refl d (SeqAt.canLay_of_shaped h)
theorem edp_eqD (h1 : EvDp K te σ H d) (h2 : EvDp K tf σ H e) (s1 : SeqAt.shaped d = true) (s2 : SeqAt.shaped e = true) : Ev (tOp (rEqD K) te tf) σ H (.bl (PyData.eqv d e)) := fun H1 a Q q =>
  h1 H1 a _ fun v H2 e2 hv => h2 H2 (a.trans e2) _ fun u H3 e3 hu => ⟨d, e, dpM e3 hv, hu, s1, s2, q H3 (e2.trans e3)⟩
theorem edp_neD (h1 : EvDp K te σ H d) (h2 : EvDp K tf σ H e) (s1 : SeqAt.shaped d = true) (s2 : SeqAt.shaped e = true) : Ev (tOp (rNeD K) te tf) σ H (.bl (!PyData.eqv d e)) := fun H1 a Q q =>
  h1 H1 a _ fun v H2 e2 hv => h2 H2 (a.trans e2) _ fun u H3 e3 hu => ⟨d, e, dpM e3 hv, hu, s1, s2, q H3 (e2.trans e3)⟩
theorem edp_len (h : EvDp K te σ H (.list ds)) : Ev (tCB (fun xs H Q => ∃ p ys, xs = [.ref p] ∧ (SqL K H p ys ∨ SqT K H p ys) ∧ Q (.int ys.length) H) (tCons te tNil)) σ H (.int (ds.length : Int)) := fun H1 a Q q =>
  h H1 a _ fun v H2 e2 hv => by
    obtain ⟨p, xs, rfl, hx, hd⟩ := dpL hv
    exact ⟨p, xs, rfl, .inl hx, by rw [dpLen hd]; exact q H2 e2⟩
theorem evp_makeN {tl : TE} {m : Nat} {gV : List V → List V → List V} {kd : List PyData} {db dt : PyData} {R B Td : List PyData} {E : XK} (hl : EvDp K tl σ H (.list R)) (hk : EvDA K tk σ H kd) (hm : kd.length = m)
    (hg : ∀ (H : Hp) (x l : V) (zs : List V), DpAll K H zs kd → ∃ b t, gV [x, l] zs = [x, l, b, t] ∧ Dp K H b db ∧ Dp K H t dt) (eb : db = .list B ∨ db = .tuple B) (et : dt = .list Td ∨ dt = .tuple Td)
    (sm : (smB (.list R) && (smB db && smB dt)) = true) (ok : planOkD (.list R) db dt = true) (ok2 : planOkD (.list R) (.list B) (.list Td) = true) : EvP K (tMakeN (g_Plan K) 1 m (spPlan K) gV E (tCons tl tNil) tk) σ H R B Td := fun H1 e Q q =>
  hl H1 e _ fun v H2 e2 hv => hk H2 (e.trans e2) _ fun zs H3 e3 hz => ⟨rfl, (dpLen hz).trans hm, fun x dx nx ndx hne => by
    obtain ⟨b, t, eg, hb, ht⟩ := hg H3 (.ref x) v zs hz
    rw [eg]
    obtain ⟨a, xs, rfl, _, _⟩ := dpL hv
    exact mk_plan nx ndx hne (dpM e3 hv) hb ht eb et sm ok ok2 fun H4 e4 hp => q x H4 ((e2.trans e3).trans e4) hp⟩
theorem evp_eq {neg : Bool} {R B T : List PyData} (h1 : EvP K te σ H R B T) (h2 : EvP K tf σ H R B T) (pl : PlanP R B T) : Ev (tOp (rOwn (g_Plan K) (spPlanEq K) neg) te tf) σ H (.bl (!neg)) := fun H1 a Q q =>
  h1 H1 a _ fun x H2 e2 hx => h2 H2 (a.trans e2) _ fun y H3 e3 hy => by
    have hx3 := plan_mono e3 hx
    obtain ⟨dx, _, _, _, _, _, _, h0, _⟩ := id hx3
    obtain ⟨dy, _, _, _, _, _, _, h0', _⟩ := id hy
    refine ⟨x, y, dx, dy, _, _, rfl, rfl, h0, h0', x, y, R, B, T, R, B, T, rfl, ⟨hx3, pl⟩, ⟨hy, pl⟩, fun H4 e4 => ⟨_, rfl, ?_⟩⟩
    rw [show PyData.eqv (planD R B T) (planD R B T) = true from eqv_self (plan_shaped pl)]
    cases neg <;> exact q H4 ((e2.trans e3).trans e4)
/-- a run -/
def EvR (K : PySem.W.Frag) (te : TE) (σ : L2.St) (H : Hp) (m : RunM) : Prop := ∀ H1, Ex H H1 → ∀ Q : VK, (∀ r H2, Ex H1 H2 → RunAt K H2 r m → Q (.ref r) H2) → te σ H1 Q
theorem run_spec {H : Hp} {p kn : Addr} {R B T : List PyData} {ks : List (Int × Str)} {t : Nat} {Q : VK} {E : XK} (hp : PlanAt K H p R B T) (ok : planOkD (.list R) (.list B) (.list T) = true) (hk : Dp K H (.ref kn) (.list (ks.map knockD))) (hl : ks.length ≤ 400) (ho : knocksOk (R.map nameD) 0 ks = true) (ht : t ≤ 900)
    (q : ∀ r H2, Ex H H2 → RunAt K H2 r (runTo (newEng R B T) ks t).told → Q (.ref r) H2) : spRun K [.ref p, .ref kn, .int (t : Int)] H Q E := by
  obtain ⟨_, xs, e, h1, h2⟩ := dpL hk
  cases e
  refine ⟨H, p, kn, .int t, .int t, R, B, T, xs, ks, rfl, Same.refl _, hp, ok, ⟨h1, h2⟩, hl, ho, .int _, fun h => ?_, fun t' et _ r G' H2 s1 s2 hr => ?_⟩
  · have : withinD (.int (t : Int)) 0 900 = true := by unfold withinD; simp; omega
    rw [this] at h
    cases h
  · have : t' = t := by cases et; rfl
    subst this
    exact q r H2 (s1.trans s2) (run_mono s2 hr)
theorem evr_run {tp tl : TE} {p : Addr} {R B T : List PyData} {ks : List (Int × Str)} {t : Nat} {E : XK} (h : Ev tp σ H (.ref p)) (hp : PlanAt K H p R B T) (ok : planOkD (.list R) (.list B) (.list T) = true) (hk : EvDp K tl σ H (.list (ks.map knockD))) (hl : ks.length ≤ 400) (ho : knocksOk (R.map nameD) 0 ks = true) (ht : t ≤ 900) :
    EvR K (tCall (spRun K) [.int (t : Int)] E (tCons tp (tCons tl tNil))) σ H (runTo (newEng R B T) ks t).told := fun H1 a Q q =>
  h H1 a _ fun H2 e2 => hk H2 (a.trans e2) _ fun v H3 e3 hv => by
    obtain ⟨kn, xs, rfl, _, _⟩ := dpL hv
    exact run_spec (plan_mono (a.trans (e2.trans e3)) hp) ok hv hl ho ht fun r H4 e4 hr => q r H4 ((e2.trans e3).trans e4) hr
theorem evr_runN {tp tl tt : TE} {p : Addr} {R B T : List PyData} {ks : List (Int × Str)} {t : Nat} {E : XK} (h : Ev tp σ H (.ref p)) (hp : PlanAt K H p R B T) (ok : planOkD (.list R) (.list B) (.list T) = true) (hk : EvDp K tl σ H (.list (ks.map knockD))) (hl : ks.length ≤ 400) (ho : knocksOk (R.map nameD) 0 ks = true) (ht : t ≤ 900) (htt : ∀ H, Ev tt σ H (.int (t : Int))) :
    EvR K (tCallN 2 1 (spRun K) (fun vs zs => vs ++ zs) E (tCons tp (tCons tl tNil)) (tCons tt tNil)) σ H (runTo (newEng R B T) ks t).told := fun H1 a Q q =>
  h H1 a _ fun H2 e2 => hk H2 (a.trans e2) _ fun v H3 e3 hv => htt H3 H3 (Ex.refl _) _ fun H4 e4 => by
    obtain ⟨kn, xs, rfl, _, _⟩ := dpL hv
    exact ⟨rfl, rfl, run_spec (plan_mono (a.trans ((e2.trans e3).trans e4)) hp) ok (dpM e4 hv) hl ho ht fun r H5 e5 hr => q r H5 (((e2.trans e3).trans e4).trans e5) hr⟩
theorem row_dp {vs : List V} {ds : List (Option (Str × Str))} (h : RowK K H vs ds) : DpAll K H vs (ds.map rowPD) := by
  induction h with
  | nil => exact .nil
  | non _ ih => exact .cons .non ih
  | job a _ ih => exact .cons (.tup a (.cons (.str _) (.cons (.str _) .nil))) ih
theorem edp_who {m : RunM} {E : XK} (h : EvR K tr σ H m) : EvDp K (tMeth (g_Run K) (Str.ofString "who") (spWho K) [] E tr tNil) σ H (.list (m.row.map rowPD)) := fun H1 a Q q =>
  h H1 a _ fun r H2 e2 hr => by
    obtain ⟨dx, aR, aD, aT, aL, vs, kt, h0, _⟩ := id hr
    exact ⟨r, dx, _, rfl, h0, rfl, r, m, rfl, hr, fun q1 xs H3 nq e3 hq hk => q _ H3 (e2.trans e3) (.lst (sq_of hq) (daM e3 (row_dp hk)))⟩
end
end KW
end
section
set_option Elab.async false
set_option linter.all false
set_option autoImplicit false
set_option maxRecDepth 100000
set_option maxHeartbeats 1000000
/-! the law -/
namespace KW
open PySem PySem.Spec PyProof.Rows L2 He KR Evl
open LamX (ExtN Tabs TabS)
local macro_rules
  | `(tactic| walk_at "na") => `(tactic| with_reducible (first | exact cl_Line (by assumption) | exact cl_Job (by assumption) | exact cl_Engine (by assumption) | exact cl_Plan (by assumption) | exact cl_Run (by assumption) | exact cl_Bench (by assumption) | exact na_Line_name (by assumption) | exact na_Line_rank (by assumption) | exact na_Line_is_up (by assumption) | exact na_Line_guard (by assumption) | exact na_Line_top (by assumption) | exact na_Line_let_by (by assumption) | exact na_Line_shut_till (by assumption) | exact na_Line_since (by assumption) | exact na_Line_fresh (by assumption) | exact na_Line_counts (by assumption) | exact na_Line_longest (by assumption) | exact na_Job_word (by assumption) | exact na_Job_name (by assumption) | exact na_Job_rank (by assumption) | exact na_Job_steps (by assumption) | exact na_Job_masks_then (by assumption) | exact na_Job_at (by assumption) | exact na_Job_left (by assumption) | exact na_Engine_plan (by assumption) | exact na_Engine_ways (by assumption) | exact na_Engine_tops (by assumption) | exact na_Engine_bottom (by assumption) | exact na_Engine_put_off (by assumption) | exact na_Engine_woken (by assumption) | exact na_Engine_begun (by assumption) | exact na_Engine_depth (by assumption) | exact na_Engine_now (by assumption) | exact na_Engine_row (by assumption) | exact na_Engine_depths (by assumption) | exact na_Engine_last_begun (by assumption) | exact na_Plan_row (by assumption) | exact na_Plan_low (by assumption) | exact na_Plan_late (by assumption) | exact na_Run_row (by assumption) | exact na_Run_depths (by assumption) | exact na_Run_table (by assumption) | exact na_Run_longest (by assumption) | exact na_Bench_engine (by assumption) | exact na_Bench_fresh (by assumption) | exact na_Bench_told_so_far (by assumption) | exact na_Bench_rows (by assumption)))
local macro_rules
  | `(tactic| walk_at "oi") => `(tactic| first | assumption | exact oi2 0 (by assumption) rfl | exact oi2 1 (by assumption) rfl | exact oi2 2 (by assumption) rfl | exact oi2 3 (by assumption) rfl | exact oi2 4 (by assumption) rfl | exact oi2 5 (by assumption) rfl | exact oi2 6 (by assumption) rfl | exact oi2 7 (by assumption) rfl | exact oi2 8 (by assumption) rfl)
local macro_rules
  | `(tactic| walk_at "ev") => `(tactic| repeat' (first
    | exact ev_c | exact ev_var rfl | exact ea_nil | exact rv_I0 | exact ru_neg | exact eo_none
    | exact rv_eq rfl | exact rv_ne rfl
    | exact rv_ixT (by assumption) (by rfl) | exact rv_ixL (by assumption) (by rfl)
    | exact sv_q (by assumption) (by assumption) | exact sv_within (by assumption)
    | exact Or.inr (by assumption) | exact Or.inl (by assumption) | (show (_ : String) ∈ _; decide)
    | with_reducible (first | apply ev_isi | apply ev_lenS | apply ev_if' | apply et_test | apply et_B | apply et_not | apply et_and | apply et_or | apply ev_andV | apply ev_orV | apply ev_notV | apply ea_cons | apply eo_some | apply ev_fl | apply ev_op | apply ev_un | apply ev_call)
    | walk_at "na" | walk_at "oi" | (show List.lookup _ _ = _; rfl)
    | assumption
    | (with_reducible intro hh; first | exact absurd (show true = false from hh) (by decide) | exact absurd (show false = true from hh) (by decide) | clear hh)))

section
variable {P : Program} {w : World} {K : PySem.W.Frag} {mg : Str → Option Value} {base : Heap}
theorem sc_law : FnScope ["_law_script", "_law_long", "_law_many", "_law_lone", "_law_plan"] ["_law_script"] (defScope s_law) := ⟨rfl, rfl, rfl, by decide +kernel, rfl, by decide +kernel, by decide +kernel⟩
theorem tabs_upd {T : List (Addr × Str)} {H : Hp} {D : Addr} {xs ys : List V} (t : Tabs T H) (h : H D = some (.lst xs)) : Tabs T (upd H D (.lst ys)) := fun p hp => by
  obtain ⟨ps, h1, h2, h3⟩ := t p hp
  have ne : ∀ b u, H b = some u → u ≠ .lst xs → b ≠ D := fun b u e n z => by
    subst z
    rw [h] at e
    exact n (Option.some.inj e).symm
  refine ⟨ps, by rw [upd_ne (ne _ _ h1 fun z => by cases z)]; exact h1, h2, fun pos cv hc => ?_⟩
  obtain ⟨c, e1, e2⟩ := h3 pos cv hc
  exact ⟨c, e1, by rw [upd_ne (ne _ _ e2 fun z => by unfold LamX.CodeO at z; cases z)]; exact e2⟩
theorem ok_split {R : List PyData} (h : okRB R = true) : (smB (.list R) && (smB (.tuple []) && smB (.tuple []))) = true ∧ planOkD (.list R) (.tuple []) (.tuple []) = true ∧ planOkD (.list R) (.list []) (.list []) = true := by
  obtain ⟨h1, h2⟩ := band h
  obtain ⟨h2, h3⟩ := band h2
  exact ⟨h1, h2, h3⟩
theorem rb_at {l : Int} (h1 : 55 ≤ l) (h2 : l < 65) : okRB (RB l) = true := by
  have z := rb_ok ⟨(l - 55).toNat, by omega⟩
  have e : (55 : Int) + (((l - 55).toNat : Nat) : Int) = l := by omega
  rw [← e]
  exact z
theorem begun_shaped (l k : Int) : SeqAt.shaped (begunD l k) = true := by
  unfold begunD
  split
  · rfl
  · decide +kernel
theorem rd_begun {Pt : Addr} {ta : TA} {σ : L2.St} {H : Hp} {Q : VK} {E : XK} {l : Int} (mo : Option Int) (h : EvA ta σ H [.int l, optV mo]) (hT : Tabs [(Pt, lamN)] H) (h1 : 55 ≤ l) (h2 : l < 65) (hw : withinD (.int (mo.getD 60)) 1 900 = true)
    (q : ∀ p H1, ExtN H H1 → Tabs [(Pt, lamN)] H1 → Dp K H1 (.ref p) (begunD l (mo.getD 60)) → Q (.ref p) H1) : tCall (spBegun K Pt) [] E ta σ H Q :=
  h H (Ex.refl _) _ fun H1 e1 => by
    obtain ⟨s1, s2, s3⟩ := ok_split (rb_at h1 h2)
    exact ⟨l, mo, rfl, by omega, s1, s2, s3, hw, hT.ext e1, fun p H2 e2 t2 d2 => q p H2 ((ExtN.of e1).trans e2) t2 d2⟩
theorem rd_eq {Pt : Addr} {ta tb : TA} {σ : L2.St} {H : Hp} {Q : VK} {E : XK} {l : Int} (mo ml : Option Int) (h : ∀ H, EvA ta σ H [.int l, optV mo]) (hb : ∀ H, EvA tb σ H [.int l, optV ml]) (hT : Tabs [(Pt, lamN)] H) (h1 : 55 ≤ l) (h2 : l < 65) (hw : withinD (.int (mo.getD 60)) 1 900 = true) (hv : withinD (.int (ml.getD 60)) 1 900 = true)
    (q : ∀ H1, ExtN H H1 → Tabs [(Pt, lamN)] H1 → Q (.bl (PyData.eqv (begunD l (mo.getD 60)) (begunD l (ml.getD 60)))) H1) : tOp (rEqD K) (tCall (spBegun K Pt) [] E ta) (tCall (spBegun K Pt) [] E tb) σ H Q :=
  rd_begun mo (h H) hT h1 h2 hw fun p H1 e1 t1 d1 => rd_begun ml (hb H1) t1 h1 h2 hv fun p2 H2 e2 t2 d2 => ⟨_, _, n_dp e2 d1, d2, begun_shaped _ _, begun_shaped _ _, q H2 (e1.trans e2) t2⟩
theorem rd_ne {Pt : Addr} {ta tb : TA} {σ : L2.St} {H : Hp} {Q : VK} {E : XK} {l : Int} (mo ml : Option Int) (h : ∀ H, EvA ta σ H [.int l, optV mo]) (hb : ∀ H, EvA tb σ H [.int l, optV ml]) (hT : Tabs [(Pt, lamN)] H) (h1 : 55 ≤ l) (h2 : l < 65) (hw : withinD (.int (mo.getD 60)) 1 900 = true) (hv : withinD (.int (ml.getD 60)) 1 900 = true)
    (q : ∀ H1, ExtN H H1 → Tabs [(Pt, lamN)] H1 → Q (.bl (!PyData.eqv (begunD l (mo.getD 60)) (begunD l (ml.getD 60)))) H1) : tOp (rNeD K) (tCall (spBegun K Pt) [] E ta) (tCall (spBegun K Pt) [] E tb) σ H Q :=
  rd_begun mo (h H) hT h1 h2 hw fun p H1 e1 t1 d1 => rd_begun ml (hb H1) t1 h1 h2 hv fun p2 H2 e2 t2 d2 => ⟨_, _, n_dp e2 d1, d2, begun_shaped _ _, begun_shaped _ _, q H2 (e1.trans e2) t2⟩
/-- so many of the tests -/
def testsB (n : Nat) : List Bool := (List.range n).map fun i : Nat => PyData.eqv (begunD (55 + (i : Int)) 59) (begunD (55 + (i : Int)) 60)
theorem tests_no : (testsB 10).all id = false := by
  rw [List.all_eq_false]
  refine ⟨_, List.mem_map.mpr ⟨4, by decide, rfl⟩, ?_⟩
  show ¬ PyData.eqv (begunD 59 59) (begunD 59 60) = true
  rw [begun_unlike]
  decide
theorem tests_succ (n : Nat) : testsB (n + 1) = testsB n ++ [PyData.eqv (begunD (55 + (n : Int)) 59) (begunD (55 + (n : Int)) 60)] := by
  unfold testsB
  rw [List.range_succ, List.map_append]
  rfl
theorem told_row (m : EngM) : m.told.row = m.row := rfl
def manyOf : List Int → Int
  | [] => 2
  | n :: _ => (if n < 0 then -n else n) % 9
theorem many_in (ns : List Int) : ∃ i : Fin 9, 1 + manyOf ns = 1 + (i.val : Int) := by
  have h : 0 ≤ manyOf ns ∧ manyOf ns < 9 := by
    cases ns with
    | nil => exact ⟨by decide, by decide⟩
    | cons n r =>
      show 0 ≤ (if n < 0 then -n else n) % 9 ∧ (if n < 0 then -n else n) % 9 < 9
      split <;> omega
  exact ⟨⟨(manyOf ns).toNat, by omega⟩, by show _ = 1 + (((manyOf ns).toNat : Nat) : Int); omega⟩
theorem lc_tests {Pt : Addr} {σ : L2.St} {H : Hp} {Q : VK} {E : XK} (hσ : ∀ v, wipe ((wipe σ [1]).set 1 (some v)) [1] = wipe σ [1]) (hv : ∀ v, ((wipe σ [1]).set 1 (some v))[1]? = some (some v)) (hT : Tabs [(Pt, lamN)] H) (q : ∀ D H', ExtN H H' → Tabs [(Pt, lamN)] H' → H' D = some (.lst ((testsB 10).map V.bl)) → Q (.ref D) H') :
    tLc (iRng2 (tCons (tC (.int 55)) (tCons (tC (.int 65)) tNil))) (gName 1) tYes (tOp (rEqD K) (tCall (spBegun K Pt) [] E (tCons (tVar 1) (tCons (tC (.int 59)) tNil))) (tCall (spBegun K Pt) [] E (tCons (tVar 1) (tCons (tC (.int 60)) tNil)))) [1] σ H Q := by
  refine ⟨55, 65, rfl, by decide, fun D hD => lc_range (lo := 55) (n := 10) (fun i H' => ExtN H H' ∧ Tabs [(Pt, lamN)] H' ∧ H' D = some (.lst ((testsB i).map V.bl))) ⟨ExtN.of (Ex.new hD), hT.ext (Ex.new hD), upd_same⟩ (fun i H' hi p => ?_) (fun H' p => q D H' p.1 p.2.1 p.2.2)⟩
  obtain ⟨p1, p2, p3⟩ := p
  refine ⟨hσ _, ?_⟩
  refine rd_eq (l := 55 + (i : Int)) (some 59) (some 60) (fun H => ea_cons (ev_var (hv _)) (ea_cons ev_c ea_nil)) (fun H => ea_cons (ev_var (hv _)) (ea_cons ev_c ea_nil)) p2 (by omega) (by omega) (by decide) (by decide) fun H2 e2 t2 => ?_
  have hD2 : H2 D = some (.lst ((testsB i).map V.bl)) := e2 _ _ p3 fun ps z => by cases z
  have hl : (testsB i).length = i := by unfold testsB; rw [List.length_map, List.length_range]
  refine ⟨_, hD2, sz_lt (by rw [List.length_map, hl]; omega), ?_, tabs_upd t2 hD2, ?_⟩
  · exact fun b o hb n => by
      have hb2 : b ≠ D := fun z => by
        rw [z, hD] at hb
        cases hb
      rw [upd_ne hb2]
      exact (p1.trans e2) b o hb n
  · rw [tests_succ, List.map_append]
    exact upd_same
theorem q_ifAllF {tl : TE} {tu tz : TS} {Dn : Ends} {σ : L2.St} {H : Hp} {bs : List Bool} (M : Hp → Prop) (h : ∀ Q : VK, (∀ D H1, M H1 → H1 D = some (.lst (bs.map V.bl)) → Q (.ref D) H1) → tl σ H Q) (hb : bs.all id = false) (k : ∀ H1, M H1 → tz Dn σ H1) :
    tSeq (tIfS (tB (tCB (rAll K) (tCons tl tNil))) tu tNext) tz Dn σ H := h _ fun D H1 m hD => ⟨D, bs, rfl, sq_of hD, false, by rw [hb], k H1 m⟩
theorem q_parD {ta : TA} {i j : Nat} {tz : TS} {Dn : Ends} {σ : L2.St} {H : Hp} {d e : PyData} (h : EvDA K ta σ H [d, e]) (k : ∀ v u H1, Ex H H1 → Dp K H1 v d → Dp K H1 u e → tz Dn ((σ.set i (some v)).set j (some u)) H1) : tSeq (tPar i j ta) tz Dn σ H :=
  h H (Ex.refl _) _ fun vs H1 e1 hvs => by
    obtain ⟨v, _, rfl, hv, hr⟩ := dpC hvs
    obtain ⟨u, _, rfl, hu, hr⟩ := dpC hr
    obtain rfl := dpN hr
    exact ⟨v, u, rfl, k v u H1 e1 hv hu⟩
theorem q_asgP {te : TE} {i : Nat} {tz : TS} {Dn : Ends} {σ : L2.St} {H : Hp} {R B Td : List PyData} (h : EvP K te σ H R B Td) (k : ∀ x H1, Ex H H1 → PlanAt K H1 x R B Td → tz Dn (σ.set i (some (.ref x))) H1) : tSeq (tAsg te (gName i)) tz Dn σ H :=
  h H (Ex.refl _) _ fun x H1 e1 hx => k x H1 e1 hx
theorem ev_abs {te : TE} {σ : L2.St} {H : Hp} {i : Int} (h : Ev te σ H (.int i)) : Ev (tCB (fun xs H Q => ∃ i, xs = [V.int i] ∧ Q (V.int (if i < 0 then -i else i)) H) (tCons te tNil)) σ H (.int (if i < 0 then -i else i)) := fun H1 e Q q => h H1 e _ fun H2 e2 => ⟨i, rfl, q H2 e2⟩
def spLaw (K : PySem.W.Frag) (Pt : Addr) : Sp := fun vs H Q _ => ∃ (a : Addr) (ns : List Int), vs = [.ref a] ∧ SqL K H a (ns.map V.int) ∧ ns.length ≤ 63 ∧ Tabs [(Pt, lamN)] H ∧ ∀ H', Q (.bl true) H'
theorem ok_law (T : Txt w K mg) (TB : LamX.TabB base mg (cT K ("_law_begun", none)).1 (cT K ("_law_begun", none)).2) : FnOk P w K mg base CX0 14 (f_law K) (fdAt K (f_law K)) ["_law_script"] (spLaw K (cT K ("_law_begun", none)).2) := by
  have okLB : Txt w K mg → _ := fun T => ok_law_begun (P := P) (base := base) T TB
  obtain ⟨_, kb_law_line⟩ := kb_line3 T
  obtain ⟨_, kb_law_Plan⟩ := kb_Plan T
  obtain ⟨_, kb_law_run⟩ := kb_run T
  obtain ⟨dsL, rd_line, bd_line⟩ := bd_line T
  obtain ⟨dsP, rd_Plan_init, bd_Plan_init⟩ := bd_Plan_init T
  obtain ⟨dsR, rd_run, bd_run⟩ := bd_run T
  generalize (cT K ("_law_begun", none)).2 = Pt at okLB ⊢
  refine (df_law T).ok sc_law (fun vs H Q E h => ?_) (fun cdv A outer s H vs Q E hr h => ?_)
  · obtain ⟨_, _, rfl, _⟩ := h
    rfl
  · obtain ⟨a, ns, rfl, ha, hl, hT, q⟩ := h
    refine ⟨_, PSs.nox ((pss_cons (ps_for PassesOwn.never rfl (pi_range2 (by rfl) (fr_range T) (pa_cons pe_int (pa_cons pe_int pa_nil))) (pg_name (i := 1) sc_law.nd rfl (Or.inl rfl)) (pss_one (ps_if (pt_cmpR (op_neDK hr.units (K := K) rfl) (pe_call (okLB T) (hr.mono (by decide)) rfl (gl_law_begun T) (df_law_begun T).kp (bi_law_begun T) .nil pass0 (pa_cons (pv 1) (pa_cons pe_non pa_nil))) (pe_call (okLB T) (hr.mono (by decide)) rfl (gl_law_begun T) (df_law_begun T).kp (bi_law_begun T) .nil pass0 (pa_cons (pv 1) (pa_cons pe_int pa_nil))) (nomark _)) (pss_one (ps_ret pe_bl)) pss_nil)))
      (pss_cons (ps_if (pt_val (pe_callB (cr_allK rfl (K := K) rfl) (by rfl) (fr_all T) (by decide +kernel) (pa_cons (pe_lc (own := [("_law_long", 1)]) (g := gName 1) (tt := tYes) rfl sc_law.nd (pi_range2 (by rfl) (fr_range T) (pa_cons pe_int (pa_cons pe_int pa_nil))) (blkOk_by (N := ["_law_script", "_law_long", "_law_many", "_law_lone", "_law_plan"]) (sc := defScope s_law) (by decide +kernel)) (fun _ _ _ _ _ => pg_name (i := 1) sc_law.nd rfl (Or.inl rfl)) (fun _ _ _ _ _ => pts_nil) (fun _ _ _ _ _ => ((pe_cmpR (op_eqDK hr.units (K := K) rfl) (pe_call (okLB T) (hr.mono (by decide)) rfl (gl_law_begun T) (df_law_begun T).kp (bi_law_begun T) .nil pass0 (pa_cons (pv 1) (pa_cons pe_int pa_nil))) (pe_call (okLB T) (hr.mono (by decide)) rfl (gl_law_begun T) (df_law_begun T).kp (bi_law_begun T) .nil pass0 (pa_cons (pv 1) (pa_cons pe_int pa_nil))) (nomark _))))) pa_nil))) (pss_one (ps_ret pe_bl)) pss_nil)
      (pss_cons (ps_set (i := 2) sc_law.nd rfl (Or.inl rfl) (pe_op op_add pe_int (pe_ifExp (pt_cmpR (op_neNilK (hu0 hr) (K := K) rfl) (pv 0) (pe_lst pa_nil) (nomark _)) (pe_op op_mod (pe_callB call_abs (by rfl) (fr_abs T) (by decide +kernel) (pa_cons (pe_ix (ix_listK (K := K) rfl) (pv 0) pe_int (fun _ _ => rfl)) pa_nil)) pe_int) pe_int)))
      (pss_cons (ps_par (i := 3) (j := 1) rfl sc_law.nd rfl rfl (by decide) rfl rfl (pa_cons (pe_call (ok_line T) (hr.mono (by decide)) rfl (gl_line T) (df_line T).kp bd_line rd_line pass0 (pa_cons pe_str (pa_cons (pe_lst (pa_cons (pe_tup (pa_cons pe_str (pa_cons (pv 2) pa_nil))) pa_nil)) pa_nil))) (pa_cons (pe_callN (ok_line T) (hr.mono (by decide)) rfl (gl_line T) (df_line T).kp kb_law_line pass0 (pa_cons pe_str (pa_cons (pe_lst (pa_cons (pe_tup (pa_cons pe_str (pa_cons (pv 2) pa_nil))) pa_nil)) pa_nil)) (pk_cons (pe_tup (pa_cons pe_int (pa_cons pe_int (pa_cons pe_int pa_nil)))) (pk_cons pe_bl (pk_cons pe_int pk_nil)))) pa_nil)) (by rfl))
      (pss_cons (ps_if (pt_cmpR (op_ownNe (K := K) rfl (ok_Plan_eq T) (me_Plan_eq T) (mk_Plan T).makes (nen_Plan T) (bi_Plan_eq T) (hr.mono (by decide))) (pe_make (mk_Plan T) (ok_Plan_init T) (hr.mono (by decide)) rfl (gl_Plan T) bd_Plan_init rd_Plan_init passL (pa_cons (pe_lst (pa_cons (pv 3) pa_nil)) pa_nil)) (pe_make (mk_Plan T) (ok_Plan_init T) (hr.mono (by decide)) rfl (gl_Plan T) bd_Plan_init rd_Plan_init passL (pa_cons (pe_lst (pa_cons (pv 1) pa_nil)) pa_nil)) (nomark _)) (pss_one (ps_ret pe_bl)) pss_nil)
      (pss_cons (ps_if (pt_cmpR (op_neDK hr.units (K := K) rfl) (pv 3) (pv 1) (nomark _)) (pss_one (ps_ret pe_bl)) pss_nil)
      (pss_cons (ps_if (pt_not (pt_cmpR (op_ownEq (K := K) rfl (ok_Plan_eq T) (me_Plan_eq T) (bi_Plan_eq T) (hr.mono (by decide))) (pe_make (mk_Plan T) (ok_Plan_init T) (hr.mono (by decide)) rfl (gl_Plan T) bd_Plan_init rd_Plan_init passL (pa_cons (pe_lst (pa_cons (pv 3) pa_nil)) pa_nil)) (pe_makeN (mk_Plan T) (ok_Plan_init T) (hr.mono (by decide)) rfl (gl_Plan T) kb_law_Plan passL (pa_cons (pe_lst (pa_cons (pv 3) pa_nil)) pa_nil) (pk_cons (pe_lst pa_nil) (pk_cons (pe_tup pa_nil) pk_nil))) (nomark _))) (pss_one (ps_ret pe_bl)) pss_nil)
      (pss_cons (ps_set (i := 4) sc_law.nd rfl (Or.inl rfl) (pe_make (mk_Plan T) (ok_Plan_init T) (hr.mono (by decide)) rfl (gl_Plan T) bd_Plan_init rd_Plan_init passL (pa_cons (pe_lst (pa_cons (pv 3) pa_nil)) pa_nil)))
      (pss_cons (ps_if (pt_cmpR op_ne (pe_callB (call_lenK (K := K) rfl) (by rfl) (fr_len T) PySem.boot_len (pa_cons (pe_meth0 (pe_call (ok_run T) (hr.mono (by decide)) rfl (gl_run T) (df_run T).kp bd_run rd_run passL (pa_cons (pv 4) (pa_cons (pe_lst (pa_cons (pe_tup (pa_cons pe_int (pa_cons pe_str pa_nil))) pa_nil)) pa_nil))) (cl_Run T) (me_Run_who T) (ok_Run_who T) (hr.mono (by decide)) (bi_Run_who T) .nil pass0) pa_nil)) pe_int (nomark _)) (pss_one (ps_ret pe_bl)) pss_nil)
      (pss_one (ps_ret ((pe_cmpR (op_eqDK hr.units (K := K) rfl) (pe_meth0 (pe_call (ok_run T) (hr.mono (by decide)) rfl (gl_run T) (df_run T).kp bd_run rd_run passL (pa_cons (pv 4) (pa_cons (pe_lst (pa_cons (pe_tup (pa_cons pe_int (pa_cons pe_str pa_nil))) pa_nil)) pa_nil))) (cl_Run T) (me_Run_who T) (ok_Run_who T) (hr.mono (by decide)) (bi_Run_who T) .nil pass0) (pe_meth0 (pe_callN (ok_run T) (hr.mono (by decide)) rfl (gl_run T) (df_run T).kp kb_law_run passL (pa_cons (pv 4) (pa_cons (pe_lst (pa_cons (pe_tup (pa_cons pe_int (pa_cons pe_str pa_nil))) pa_nil)) pa_nil)) (pk_cons pe_int pk_nil)) (cl_Run T) (me_Run_who T) (ok_Run_who T) (hr.mono (by decide)) (bi_Run_who T) .nil pass0) (nomark _))))))))))))))), ?_⟩
    refine q_forR2 (ea_cons ev_c (ea_cons ev_c ea_nil)) (by decide) (fun _ σ' H' => ∃ s1, σ' = [some (.ref a), s1, none, none, none] ∧ ExtN H H' ∧ Tabs [(Pt, lamN)] H') (fun H1 e1 => ⟨none, rfl, ExtN.of e1, hT.ext e1⟩) (fun i σ' H' hi hW => ?_) (fun σ' H' hW => ?_)
    · obtain ⟨s1, rfl, eN, hT1⟩ := hW
      refine rd_ne (l := 55 + (i : Int)) none (some 60) (fun H => ea_cons (ev_var rfl) (ea_cons ev_c ea_nil)) (fun H => ea_cons (ev_var rfl) (ea_cons ev_c ea_nil)) hT1 (by omega) (by omega) (by decide) (by decide) fun H2 e2 t2 => ?_
      refine ⟨false, ?_, ?_⟩
      · show V.bl (!PyData.eqv (begunD _ 60) (begunD _ 60)) = .bl false
        rw [eqv_self (begun_shaped _ _)]
        rfl
      · exact ⟨_, rfl, eN.trans e2, t2⟩
    · obtain ⟨s1, rfl, eN, hT1⟩ := hW
      refine q_ifAllF (bs := testsB 10) (fun H1 => ExtN H H1 ∧ Tabs [(Pt, lamN)] H1) (fun Q h => lc_tests (fun _ => rfl) (fun _ => rfl) hT1 fun D H1 e1 t1 h1 => h D H1 ⟨eN.trans e1, t1⟩ h1) tests_no fun H1 hM => ?_
      obtain ⟨e1, _⟩ := hM
      have ha1 := n_sL e1 ha
      refine q_asg (v := .int (1 + manyOf ns)) ?_ fun H2 e2 => ?_
      · have tst : EvT (tTest (tOp (rNil K true) (tVar 0) (tLst tNil))) [some (.ref a), s1, none, none, none] H1 (!(ns.map V.int).isEmpty) := et_test (ev_opL (xs := []) (ev_var rfl) (el_lst ea_nil (by decide)) fun p H4 hp e4 => fun H5 e5 Q q => ⟨a, p, ns.map V.int, rfl, rfl, ex_l (e4.trans e5) ha1, ex_l e5 (sq_of hp), q H5 (Ex.refl _)⟩)
        cases ns with
        | nil => exact ev_op ev_c (ev_if tst (fun h => by cases h) fun _ => ev_c (v := .int 2)) rv_I0
        | cons n r => exact ev_op ev_c (ev_if tst (fun _ => ev_op (ev_abs (ev_op (ev_var rfl) ev_c (rv_ixL (show SqL K H1 a (.int n :: r.map V.int) from ha1) at0))) ev_c (rv_I (by decide))) fun h => by cases h) rv_I0
      · obtain ⟨f, hf⟩ := many_in ns
        have k1 := rl_ok f
        have k2 := rl_ok2 f
        have k3 := rl_sh f
        have k4 := row_ok f
        rw [← hf] at k1 k2 k3 k4
        generalize 1 + manyOf ns = m at k1 k2 k3 k4 ⊢
        obtain ⟨sm, ok1, ok2⟩ := ok_split k1
        obtain ⟨sm2, ok3⟩ := band k2
        have pl := plan_parts ok2
        have hGu : ∀ H : Hp, Dp K H (.ref (ga K "GUARD")) (.tuple [.int 3, .int 10, .int 20]) := fun H => .tup (tu_GUARD T H) (.cons (.int _) (.cons (.int _) (.cons (.int _) .nil)))
        have hst : EvDp K (tLst (tCons (tTup (tCons (tC (V.str (Str.ofString "run"))) (tCons (tVar 2) tNil))) tNil)) [some (.ref a), s1, some (.int m), none, none] H2 (.list [.tuple [.str "run", .int m]]) := edp_lst (eda_cons (edp_tup (eda_cons edp_str (eda_cons (edp_ev (ev_var rfl) (.int m)) eda_nil)) (by show (2 : Nat) ≤ 100000; decide)) eda_nil) (by show (1 : Nat) ≤ 100000; decide)
        refine q_parD (K := K) (d := runLD "a" 1 [.tuple [.str "run", .int m]]) (e := runLD "a" 1 [.tuple [.str "run", .int m]]) ?_ fun v3 v1 H3 e3 h3 h1 => ?_
        · refine eda_cons (edp_line (eda_cons edp_str (eda_cons hst eda_nil)) fun H => .cons (.int _) (.cons (.bl _) (.cons (hGu H) .nil))) (eda_cons (edp_lineN (m := 3) (ks := [.tuple [.int 3, .int 10, .int 20], .bool false, .int 1]) (eda_cons edp_str (eda_cons hst eda_nil)) (eda_cons (edp_tup (eda_cons edp_int (eda_cons edp_int (eda_cons edp_int eda_nil))) (by show (3 : Nat) ≤ 100000; decide)) (eda_cons edp_bl (eda_cons edp_int eda_nil))) rfl fun H vs zs g1 g2 => ?_) eda_nil)
          obtain ⟨z1, _, rfl, y1, g2⟩ := dpC g2
          obtain ⟨z2, _, rfl, y2, g2⟩ := dpC g2
          obtain ⟨z3, _, rfl, y3, g2⟩ := dpC g2
          obtain rfl := dpN g2
          exact DpAll.append g1 (.cons y3 (.cons y2 (.cons y1 .nil)))
        · have hP : ∀ {tl : TE} {σ : L2.St} {E : XK} {v : V} {H4 : Hp}, EvDp K tl σ H4 (.list (RL m)) → EvP K (tMake (g_Plan K) (spPlan K) [.ref (kwAt ("Plan", some "__init__") "bottoms" K), .ref (kwAt ("Plan", some "__init__") "threads" K)] E (tCons tl tNil)) σ H4 (RL m) [] [] := fun hl => evp_make hl (fun H => .tup (em0_Plan_init_bottoms T H) .nil) (fun H => .tup (em0_Plan_init_threads T H) .nil) (.inr rfl) (.inr rfl) sm ok1 ok2
          have h13 : (1 : Nat) ≤ 100000 := by decide
          refine q_when (b := false) (et_test (evp_eq (neg := true) (hP (v := v3) (edp_lst (eda_cons (edp_ev (ev_var rfl) h3) eda_nil) h13)) (hP (v := v1) (edp_lst (eda_cons (edp_ev (ev_var rfl) h1) eda_nil) h13)) pl)) (fun h => by cases h) fun _ H4 e4 => ?_
          refine q_when (b := false) (et_test (ev_is (edp_neD (edp_ev (ev_var rfl) (dpM e4 h3)) (edp_ev (ev_var rfl) (dpM e4 h1)) k3 k3) (by rw [eqv_self k3]; rfl))) (fun h => by cases h) fun _ H5 e5 => ?_
          have h35 := dpM (e4.trans e5) h3
          refine q_when (b := false) (et_is (et_not (et_test (evp_eq (neg := false) (hP (v := v3) (edp_lst (eda_cons (edp_ev (ev_var rfl) h35) eda_nil) h13)) (evp_makeN (m := 2) (kd := [.list [], .tuple []]) (edp_lst (eda_cons (edp_ev (ev_var rfl) h35) eda_nil) h13) (eda_cons (edp_lst eda_nil (by decide)) (eda_cons (edp_tup eda_nil (by decide)) eda_nil)) rfl (fun H x l zs hz => ?_) (.inl rfl) (.inr rfl) sm2 ok3 ok2) pl))) rfl) (fun h => by cases h) fun _ H6 e6 => ?_
          · obtain ⟨z1, _, rfl, y1, hz⟩ := dpC hz
            obtain ⟨z2, _, rfl, y2, hz⟩ := dpC hz
            obtain rfl := dpN hz
            exact ⟨z1, z2, rfl, y1, y2⟩
          have h36 := dpM e6 h35
          refine q_asgP (hP (v := v3) (edp_lst (eda_cons (edp_ev (ev_var rfl) h36) eda_nil) h13)) fun x H7 e7 hx => ?_
          have hno : knocksOk ((RL m).map nameD) 0 [((0 : Int), ("a" : Str))] = true := by
            have : (RL m).map nameD = (["a"] : List Str) := rfl
            rw [this]
            decide
          have hkn : ∀ {σ : L2.St} {H : Hp}, EvDp K (tLst (tCons (tTup (tCons (tC (V.int 0)) (tCons (tC (V.str (Str.ofString "a"))) tNil))) tNil)) σ H (.list ([((0 : Int), ("a" : Str))].map knockD)) := edp_lst (eda_cons (edp_tup (eda_cons edp_int (eda_cons edp_str eda_nil)) (by show (2 : Nat) ≤ 100000; decide)) eda_nil) (by show (1 : Nat) ≤ 100000; decide)
          obtain ⟨rm, hrm⟩ : ∃ rm : RunM, rm = (runTo (newEng (RL m) [] []) [((0 : Int), ("a" : Str))] 60).told := ⟨_, rfl⟩
          have h60 : ((rm.row.map rowPD).length : Int) = 60 := by
            rw [hrm, List.length_map, told_row, (run_i ok2 60).row]
            rfl
          have k5 : SeqAt.shaped (.list (rm.row.map rowPD)) = true := by
            rw [hrm, told_row]
            unfold rowOf at k4
            exact k4
          have hrun : ∀ {σ : L2.St} {H : Hp} {E : XK}, Ev (tVar 4) σ H (.ref x) → PlanAt K H x (RL m) [] [] → EvR K (tCall (spRun K) [.int 60] E (tCons (tVar 4) (tCons (tLst (tCons (tTup (tCons (tC (V.int 0)) (tCons (tC (V.str (Str.ofString "a"))) tNil))) tNil)) tNil))) σ H rm := fun hv hp => by
            rw [hrm]
            exact evr_run (t := 60) hv hp ok2 hkn (by decide) hno (by decide)
          have hrunN : ∀ {σ : L2.St} {H : Hp} {E : XK}, Ev (tVar 4) σ H (.ref x) → PlanAt K H x (RL m) [] [] → EvR K (tCallN 2 1 (spRun K) (fun vs zs => vs ++ zs) E (tCons (tVar 4) (tCons (tLst (tCons (tTup (tCons (tC (V.int 0)) (tCons (tC (V.str (Str.ofString "a"))) tNil))) tNil)) tNil)) (tCons (tC (.int 60)) tNil)) σ H rm := fun hv hp => by
            rw [hrm]
            exact evr_runN (t := 60) hv hp ok2 hkn (by decide) hno (by decide) fun _ => ev_c
          clear hrm k4
          refine q_when (b := false) (et_test (ev_is (ev_op (edp_len (edp_who (hrun (ev_var rfl) hx))) ev_c (rv_ne rfl)) (by rw [h60]; rfl))) (fun h => by cases h) fun _ H8 e8 => ?_
          have hx8 := plan_mono e8 hx
          exact s_ret (ev_is (edp_eqD (edp_who (hrun (ev_var rfl) hx8)) (edp_who (hrunN (ev_var rfl) hx8)) k5 k5) (congrArg V.bl (eqv_self k5))) fun H9 e9 => q H9
end
end KW
end
section
set_option Elab.async false
set_option linter.all false
set_option maxRecDepth 100000
set_option maxHeartbeats 0
/-! the end -/
namespace KW
open PySem PySem.Spec PyProof.Rows L2 He
theorem facts {P : Program} {w : World} {K : PySem.W.Frag} {h : Heap} {mg : Str → Option Value} {f : Addr} (X : K.In h) (G : h.Ns mainGlobals mg) (hfa : mg ("law" : Str) = some (.ref f)) (c : SaysX fa fn [] tf ex w h K) :
    ∃ fd : FuncData, (∀ (s : Shared) (v : Value), BindsTo s fd ⟨[v], []⟩ [("_law_script", v)]) ∧ ∀ base : Heap, K.In base → base.Ns mainGlobals mg → LamX.TabB base mg (cT K ("_law_begun", none)).1 (cT K ("_law_begun", none)).2 → FnOk P w K mg base CX0 14 f fd ["_law_script"] (spLaw K (cT K ("_law_begun", none)).2) := by
  have T : Txt w K mg := ⟨h, X, G, c⟩
  have e := hfa.symm.trans (gl_law T)
  cases e
  have b := FunD.bindsA (ps := ["_law_script"]) (df_law T) fun _ _ _ _ _ _ us hl => match us, hl with | [_], _ => rfl
  exact ⟨_, fun s v => b s [v] rfl, fun base _ _ TB => ok_law T TB⟩
end KW
open PySem PySem.W PySem.Calls PyProof.Rows
theorem PySem.Challenge.cw_knockwell_k11_left_out_holds : PySem.Challenge.rw_knockwell_k11_left_out.Holds := by
  w_on; o_law
  refine HandSHeadRun.head_any (r := OpenLaw.row PySem.Challenge.rw_knockwell_k11_left_out) (q := view (OpenLaw.row PySem.Challenge.rw_knockwell_k11_left_out).prog [55]) (H := KW.hk) (ob := KW.ob) (M := 6000) (loose := KW.loose) (d := HandSHeadRun.topDef (OpenLaw.row PySem.Challenge.rw_knockwell_k11_left_out).prog 55) (kwd := []) KW.ob_eq
    (by kernel_rfl) (fun s => by kernel_rfl) KW.run (by kernel_rfl) (by kernel_rfl) (by kernel_rfl) (by rfl) (by first | assumption | decide +kernel) (by decide +kernel) ⟨rfl, rfl, rfl, rfl, rfl, by decide +kernel⟩ ?hw ?hc
  case hw => w_witness2
  case hc =>
    refine LamX.walk_ofTsE (l := PySem.Challenge.rw_knockwell_k11_left_out) (n := 63) (k := 14) (x := "_law_script") (CX := fun _ => L2.CX0) rfl (by decide) (by kernel_rfl) ⟨rfl, by decide, by decide⟩ ?F (fun _ _ _ _ _ z => z)
    intro w mg fa h Y G hmg0
    obtain ⟨K, KX, c⟩ := Y
    have hmg : mg ("law" : PySem.Str) = some (.ref fa) := by
      have e : (HandSHeadRun.topDef (OpenLaw.row PySem.Challenge.rw_knockwell_k11_left_out).prog 55).name = ("law" : PySem.Str) := by kernel_rfl
      rw [← e]
      exact hmg0
    obtain ⟨fd, hb, hF⟩ := KW.facts (P := (PySem.Challenge.rw_knockwell_k11_left_out).prog) (w := w) KX G hmg c
    have hm : (("_law_begun", none) : He.Defn) ∈ KW.tf := List.mem_cons_self ..
    refine ⟨K, KX, fd, [He.cT K ("_law_begun", none)], KW.spLaw K (He.cT K ("_law_begun", none)).2, fun p hp => ?_, fun p hp => ?_, fun p hp => ?_, hb, fun H a ns hl _ hT hS => ⟨a, ns, rfl, hS, hl, fun p hp => ?_, fun _ => rfl⟩, fun base h1 h2 h3 => hF base h1 h2 (h3 _ (List.mem_cons_self ..))⟩
    · cases List.mem_singleton.mp hp
      exact c.empty _ hm
    · cases List.mem_singleton.mp hp
      exact c.out _ hm
    · cases List.mem_singleton.mp hp
      exact PySem.W.codeHd_of_K KX (c.hd _ hm)
    · cases List.mem_singleton.mp hp
      exact LamX.TabS.nil (hT _ (List.mem_cons_self ..))
end
