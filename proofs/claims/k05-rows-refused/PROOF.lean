import PyProof.Rows.All
import Wide.All
import OpenK.AllK
import Wide.FinOn
import HandS.ExcInit
import HandS.ExcInitHot
import HandS.ExcField
import HandS.ExcIs
import HandS.Base
import HandS.Call
import HandS.List
import HandS.Comp
import HandS.Dict
import HandS.DictComp
import HandS.Iter
import HandS.Text
import HandS.Flow
import HandS.Defaults
import HandS.MakeKw
import HandS.MakeKwOnly
import HandS.Words
import HandS.WordsList
import HandS.WordsDict
import HandS.WordsExc
import HandS.Exc
import HandS.ExcOwn
import HandS.TryOnly
import HandS.Finally
import HandS.IsInst
import HandS.SetKeys
import HandS.SortKw
import HandS.FStr
import HandS.Ends
import HandS.Codes
import HandS.HeadHook1
import HandS.HeadHook2
import HandS.HeadHook3
import HandS.HeadHook4
import HandS.HeadEnd
import HandS.Head0
import HandS.Head1
import HandS.Head2
import PySem.Challenge.RW_knockwell_k05_rows_refused
import KE.KUnpackStar
import KE.KMinKey
import HandS.SetBool
import HandS.ForExc
import HandS.OwnEq
import PyProof.InstNe
import HandS.Evl
import HandS.CallLocal
import HandS.Zip
import KE.GoesZip
import KE.GoesMore
import KE.GoesEnum
import PyProof.EqLayable
import HandS.Style
import PyProof.P3Eq
import HandS.RaiseMore
import HandS.StrMore
import KE.IntTextLaws
import HandS.TryElse
import HandS.SuiteRaise
import HandS.RaiseFrom
import PyProof.EnumMake
import HandS.HeadWalk
section
set_option Elab.async false
set_option linter.all false
set_option autoImplicit false
set_option maxRecDepth 100000
set_option maxHeartbeats 4000000
/-! the text by places, what the top leaves -/
namespace KW
open PySem PySem.Spec PyProof.Rows L2 He
def top (i : Nat) : Stmt := PySem.Challenge.pw_knockwell_k05_rows_refused.main.body.getD i (.Pass ⟨0, 0, 0, 0⟩)
/-- the function object at an address -/
def fdAt (K : PySem.W.Frag) (a : Addr) : FuncData := match K.lookup a with
  | some ⟨_, _, .func fd, _⟩ => fd
  | _ => default
theorem funD_at {K : PySem.W.Frag} {x qual : Str} {params : Arguments} {body : List Stmt} {scope : Scope} {dvs : List V} {kws : List (Str × V)} {f : Addr} (h : ∃ fd, FunD K x qual params body scope dvs kws f fd) : FunD K x qual params body scope dvs kws f (fdAt K f) := by
  obtain ⟨fd, F⟩ := h
  have F' := F
  obtain ⟨oc, od, dV, kV, doc, pm, an, cdv, ct, osl, e, lk, r⟩ := F.ex
  have : fdAt K f = fd := by
    unfold fdAt
    rw [lk]
  rw [this]
  exact F'
abbrev s_BadRows_init : Stmt := inClass (top 3) 0
abbrev s_is_whole : Stmt := top 9
abbrev s_within : Stmt := top 10
abbrev s_is_name : Stmt := top 11
abbrev s_is_step : Stmt := top 12
abbrev s_are_steps : Stmt := top 13
abbrev s_spoken : Stmt := top 14
abbrev s_is_guard : Stmt := top 21
abbrev s_is_line : Stmt := top 22
abbrev s_is_bottom : Stmt := top 23
abbrev s_is_thread : Stmt := top 24
abbrev s_are_ones : Stmt := top 25
abbrev s_are_unlike_ranks : Stmt := top 26
abbrev s_all_there : Stmt := top 27
abbrev s_copied : Stmt := top 28
abbrev s_Plan_init : Stmt := inClass (top 29) 0
abbrev s_Plan_eq : Stmt := inClass (top 29) 1
abbrev s_Plan_parts : Stmt := inClass (top 29) 2
abbrev s_Plan_lines : Stmt := inClass (top 29) 3
abbrev s_Plan_bottoms : Stmt := inClass (top 29) 4
abbrev s_Plan_threads : Stmt := inClass (top 29) 5
abbrev s_Plan_names : Stmt := inClass (top 29) 6
abbrev s_number_of : Stmt := top 33
abbrev s_step_of : Stmt := top 34
abbrev s_part_of : Stmt := top 35
abbrev s_Reader_init : Stmt := inClass (top 36) 0
abbrev s_Reader_take : Stmt := inClass (top 36) 1
abbrev s_read : Stmt := top 37
abbrev s_law_cell_at : Stmt := top 39
abbrev s_law_draw : Stmt := top 40
abbrev s_law_number : Stmt := top 41
abbrev s_law_row : Stmt := top 42
abbrev s_law_bad_lines : Stmt := top 43
abbrev s_law_bad_others : Stmt := top 44
abbrev s_law : Stmt := top 45
abbrev g_KnockError (K : PySem.W.Frag) : Addr := ga K "KnockError"
abbrev g_BadPlan (K : PySem.W.Frag) : Addr := ga K "BadPlan"
abbrev g_BadRows (K : PySem.W.Frag) : Addr := ga K "BadRows"
abbrev g_is_whole (K : PySem.W.Frag) : Addr := ga K "is_whole"
abbrev g_within (K : PySem.W.Frag) : Addr := ga K "within"
abbrev g_is_name (K : PySem.W.Frag) : Addr := ga K "is_name"
abbrev g_is_step (K : PySem.W.Frag) : Addr := ga K "is_step"
abbrev g_are_steps (K : PySem.W.Frag) : Addr := ga K "are_steps"
abbrev g_spoken (K : PySem.W.Frag) : Addr := ga K "spoken"
abbrev g_is_guard (K : PySem.W.Frag) : Addr := ga K "is_guard"
abbrev g_is_line (K : PySem.W.Frag) : Addr := ga K "is_line"
abbrev g_is_bottom (K : PySem.W.Frag) : Addr := ga K "is_bottom"
abbrev g_is_thread (K : PySem.W.Frag) : Addr := ga K "is_thread"
abbrev g_are_ones (K : PySem.W.Frag) : Addr := ga K "are_ones"
abbrev g_are_unlike_ranks (K : PySem.W.Frag) : Addr := ga K "are_unlike_ranks"
abbrev g_all_there (K : PySem.W.Frag) : Addr := ga K "all_there"
abbrev g_copied (K : PySem.W.Frag) : Addr := ga K "copied"
abbrev g_Plan (K : PySem.W.Frag) : Addr := ga K "Plan"
abbrev g_number_of (K : PySem.W.Frag) : Addr := ga K "number_of"
abbrev g_step_of (K : PySem.W.Frag) : Addr := ga K "step_of"
abbrev g_part_of (K : PySem.W.Frag) : Addr := ga K "part_of"
abbrev g_Reader (K : PySem.W.Frag) : Addr := ga K "Reader"
abbrev g_read (K : PySem.W.Frag) : Addr := ga K "read"
abbrev g_law_cell_at (K : PySem.W.Frag) : Addr := ga K "_law_cell_at"
abbrev g_law_draw (K : PySem.W.Frag) : Addr := ga K "_law_draw"
abbrev g_law_number (K : PySem.W.Frag) : Addr := ga K "_law_number"
abbrev g_law_row (K : PySem.W.Frag) : Addr := ga K "_law_row"
abbrev g_law_bad_lines (K : PySem.W.Frag) : Addr := ga K "_law_bad_lines"
abbrev g_law_bad_others (K : PySem.W.Frag) : Addr := ga K "_law_bad_others"
abbrev g_law (K : PySem.W.Frag) : Addr := ga K "law"
abbrev f_BadRows_init (K : PySem.W.Frag) : Addr := ma K (ga K "BadRows") "__init__"
abbrev f_is_whole (K : PySem.W.Frag) : Addr := ga K "is_whole"
abbrev f_within (K : PySem.W.Frag) : Addr := ga K "within"
abbrev f_is_name (K : PySem.W.Frag) : Addr := ga K "is_name"
abbrev f_is_step (K : PySem.W.Frag) : Addr := ga K "is_step"
abbrev f_are_steps (K : PySem.W.Frag) : Addr := ga K "are_steps"
abbrev f_spoken (K : PySem.W.Frag) : Addr := ga K "spoken"
abbrev f_is_guard (K : PySem.W.Frag) : Addr := ga K "is_guard"
abbrev f_is_line (K : PySem.W.Frag) : Addr := ga K "is_line"
abbrev f_is_bottom (K : PySem.W.Frag) : Addr := ga K "is_bottom"
abbrev f_is_thread (K : PySem.W.Frag) : Addr := ga K "is_thread"
abbrev f_are_ones (K : PySem.W.Frag) : Addr := ga K "are_ones"
abbrev f_are_unlike_ranks (K : PySem.W.Frag) : Addr := ga K "are_unlike_ranks"
abbrev f_all_there (K : PySem.W.Frag) : Addr := ga K "all_there"
abbrev f_copied (K : PySem.W.Frag) : Addr := ga K "copied"
abbrev f_Plan_init (K : PySem.W.Frag) : Addr := ma K (ga K "Plan") "__init__"
abbrev f_Plan_eq (K : PySem.W.Frag) : Addr := ma K (ga K "Plan") "__eq__"
abbrev f_Plan_parts (K : PySem.W.Frag) : Addr := ma K (ga K "Plan") "parts"
abbrev f_Plan_lines (K : PySem.W.Frag) : Addr := ma K (ga K "Plan") "lines"
abbrev f_Plan_bottoms (K : PySem.W.Frag) : Addr := ma K (ga K "Plan") "bottoms"
abbrev f_Plan_threads (K : PySem.W.Frag) : Addr := ma K (ga K "Plan") "threads"
abbrev f_Plan_names (K : PySem.W.Frag) : Addr := ma K (ga K "Plan") "names"
abbrev f_number_of (K : PySem.W.Frag) : Addr := ga K "number_of"
abbrev f_step_of (K : PySem.W.Frag) : Addr := ga K "step_of"
abbrev f_part_of (K : PySem.W.Frag) : Addr := ga K "part_of"
abbrev f_Reader_init (K : PySem.W.Frag) : Addr := ma K (ga K "Reader") "__init__"
abbrev f_Reader_take (K : PySem.W.Frag) : Addr := ma K (ga K "Reader") "take"
abbrev f_read (K : PySem.W.Frag) : Addr := ga K "read"
abbrev f_law_cell_at (K : PySem.W.Frag) : Addr := ga K "_law_cell_at"
abbrev f_law_draw (K : PySem.W.Frag) : Addr := ga K "_law_draw"
abbrev f_law_number (K : PySem.W.Frag) : Addr := ga K "_law_number"
abbrev f_law_row (K : PySem.W.Frag) : Addr := ga K "_law_row"
abbrev f_law_bad_lines (K : PySem.W.Frag) : Addr := ga K "_law_bad_lines"
abbrev f_law_bad_others (K : PySem.W.Frag) : Addr := ga K "_law_bad_others"
abbrev f_law (K : PySem.W.Frag) : Addr := ga K "law"
/-- a keyword default that is an object -/
def kwAt (f : Str × Option Str) (x : Str) (K : PySem.W.Frag) : Addr := match K.lookup (fAd K f) with
  | some ⟨_, _, .func fd, _⟩ => (match fd.kwdefaults with
    | .ref D => (match PySem.W.nsIn K D x with
      | some (some (.ref a)) => a
      | _ => 0)
    | _ => 0)
  | _ => 0
def tupA (K : PySem.W.Frag) (a : Addr) (vs : List V) : Bool := match K.lookup a with
  | some ⟨.type c, _, .seq its _, _⟩ => decide (c = "tuple") && (decide (its.size ≤ sizeLine) && relAll vs its.toList)
  | _ => false
theorem tupA_ok {K : PySem.W.Frag} {a : Addr} {vs : List V} (h : tupA K a vs = true) (H : Hp) : SqT K H a vs := by
  unfold tupA at h
  cases q : K.lookup a with
  | none => rw [q] at h; cases h
  | some o =>
    obtain ⟨oc, od, dt, osl⟩ := o
    rw [q] at h
    cases oc with
    | type c =>
      cases dt with
      | seq its n =>
        obtain ⟨h1, h2⟩ := ba (show (decide (c = "tuple") && (decide (its.size ≤ sizeLine) && relAll vs its.toList)) = true from h)
        obtain ⟨h3, h4⟩ := ba h2
        exact .inr ⟨_, its, n, q, congrArg Value.type (of_decide_eq_true h1), rfl, of_decide_eq_true h3, relAll_ok h4⟩
      | _ => cases h
    | _ => cases dt <;> cases h
def excB (K : PySem.W.Frag) (D : Addr) : Bool := eqO (PySem.W.findIn K (.ref D) "__getattribute__") (some (some (.builtin "BaseException.__getattribute__"))) && (eqO (PySem.W.findIn K (.ref D) "__getattr__") (some none) && (decide (PySem.W.subIn K (.ref D) (.type "BaseException") = some true) && (decide (PySem.W.hasDictIn K D = true) && (eqO (PySem.W.findIn K (.ref D) "__class__") (some (some (.builtin "object.__class__"))) && (eqO (PySem.W.specialIn K (.builtin "object.__class__") "__get__") (some (some (.builtin "getset_descriptor.__get__"))) && (decide (PySem.W.takesIn K (.builtin "object.__class__") = some true) && (decide (PySem.W.mroIn K D (.type "object") = some true))))))))
theorem excB_ok {K : PySem.W.Frag} {D : Addr} (h : excB K D = true) : ExcC K D := by
  obtain ⟨h0, h⟩ := ba h
  obtain ⟨h1, h⟩ := ba h
  obtain ⟨h2, h⟩ := ba h
  obtain ⟨h3, h⟩ := ba h
  obtain ⟨h4, h⟩ := ba h
  obtain ⟨h5, h⟩ := ba h
  obtain ⟨h6, h⟩ := ba h
  exact ⟨eqO_ok h0, eqO_ok h1, of_decide_eq_true h2, of_decide_eq_true h3, eqO_ok h4, eqO_ok h5, of_decide_eq_true h6, of_decide_eq_true h⟩
def insB (K : PySem.W.Frag) (C : Addr) : Bool := eqO (PySem.W.findIn K (.ref C) "__class__") (some (some (.builtin "object.__class__"))) && (eqO (PySem.W.specialIn K (.builtin "object.__class__") "__get__") (some (some (.builtin "getset_descriptor.__get__"))) && (decide (PySem.W.takesIn K (.builtin "object.__class__") = some true) && (decide (PySem.W.mroIn K C (.type "object") = some true) && decide (PySem.W.kitOne K (.ref C) (.ref C) = some true))))
theorem insB_ok {K : PySem.W.Frag} {C : Addr} (c : Cls K C) (h : insB K C = true) : C8.InsC K C := by
  obtain ⟨h1, h⟩ := ba h
  obtain ⟨h2, h⟩ := ba h
  obtain ⟨h3, h⟩ := ba h
  obtain ⟨h4, h5⟩ := ba h
  exact ⟨c, eqO_ok h1, eqO_ok h2, of_decide_eq_true h3, of_decide_eq_true h4, of_decide_eq_true h5⟩
def oexL (K : PySem.W.Frag) (C : Addr) : Bool := match K.lookup C with
  | some ⟨.type "type", _, .cls cd, sl⟩ => (match cd.mro, sl.toList with
    | .ref C' :: bm, [_, _, _, _, some (.builtin n), _] => C' == C && (n == "ValueError.__new__" && (!cd.hasDel && (cd.hasDict && PySem.HandSPX.refsVE bm)))
    | _, _ => false)
  | _ => false
theorem oexL_ok {K : PySem.W.Frag} {C : Addr} (q : oexL K C = true) : ∃ nm q N bs bm sn sub ab col dd k0 k1 k2 k3 k5, K.lookup C = some (excClassObj nm q C N bs bm true sn sub ab col dd k0 k1 k2 k3 k5 "ValueError.__new__") ∧ PySem.HandSPX.refsVE bm = true := by
  unfold oexL at q
  split at q
  · rename_i dd cd sl ho
    split at q
    · rename_i C' bm k0 k1 k2 k3 n k5 hm hs
      simp only [Bool.and_eq_true, beq_iff_eq, Bool.not_eq_true'] at q
      obtain ⟨rfl, rfl, hdel, hdd, ht⟩ := q
      obtain ⟨nm, bs, mro, ns, qn, hd, sn, sub, ab, col, del⟩ := cd
      dsimp only at hm hdel hdd
      subst hm hdel hdd
      have hsl : sl = #[k0, k1, k2, k3, some (.builtin "ValueError.__new__"), k5] := by
        obtain ⟨l⟩ := sl
        simp only at hs
        rw [hs]
      subst hsl
      exact ⟨nm, qn, ns, bs, bm, sn, sub, ab, col, dd, k0, k1, k2, k3, k5, ho, ht⟩
    · cases q
  · cases q
def oexB (K : PySem.W.Frag) (C : Addr) : Bool := oexL K C && (eqO (PySem.W.findIn K (.ref C) "__setattr__") (some (some (.builtin "object.__setattr__"))) && (decide (PySem.W.subIn K (.ref C) (.type "BaseException") = some true) && ((PySem.W.typeIn K (.ref C) == some (.type "type")) && PySem.W.keepIn K (.ref C))))
theorem oexB_ok {K : PySem.W.Frag} {C : Addr} (h : oexB K C = true) : OexC K C := by
  obtain ⟨h1, h⟩ := ba h
  obtain ⟨h2, h⟩ := ba h
  obtain ⟨h3, h⟩ := ba h
  obtain ⟨h4, h5⟩ := ba h
  exact ⟨oexL_ok h1, eqO_ok h2, of_decide_eq_true h3, beq_iff_eq.mp h4, h5⟩
def xfE (K : PySem.W.Frag) (C : Addr) : Bool := eqO (PySem.W.findIn K (.ref C) "__getattribute__") (some (some (.builtin "BaseException.__getattribute__"))) && (eqO (PySem.W.findIn K (.ref C) "__getattr__") (some none) && (decide (PySem.W.subIn K (.ref C) (.type "BaseException") = some true) && PySem.W.hasDictIn K C))
theorem xfE_ok {K : PySem.W.Frag} {C : Addr} (h : xfE K C = true) : XfC K C := by
  obtain ⟨h1, h⟩ := ba h
  obtain ⟨h2, h⟩ := ba h
  obtain ⟨h3, h4⟩ := ba h
  exact ⟨eqO_ok h1, eqO_ok h2, of_decide_eq_true h3, h4⟩
structure ClI (K : PySem.W.Frag) (C : Addr) : Prop where
  sp : PySem.W.specialIn K (.ref C) "__getattribute__" = some (some (.builtin "type.__getattribute__"))
  rd : PySem.W.readsIn K C (.type "type") = true
  at_ : PySem.W.findCls K (.ref C) (.type "type") "__init__" = some (.val (.builtin "ValueError.__init__"))
def clF (K : PySem.W.Frag) (C : Addr) : Bool := match PySem.W.findCls K (.ref C) (.type "type") "__init__" with
  | some (.val (.builtin n)) => n == "ValueError.__init__"
  | _ => false
theorem clF_ok {K : PySem.W.Frag} {C : Addr} (h : clF K C = true) : PySem.W.findCls K (.ref C) (.type "type") "__init__" = some (.val (.builtin "ValueError.__init__")) := by
  unfold clF at h
  split at h
  · rename_i n e
    rw [e, beq_iff_eq.mp h]
  · cases h
def clB (K : PySem.W.Frag) (C : Addr) : Bool := eqO (PySem.W.specialIn K (.ref C) "__getattribute__") (some (some (.builtin "type.__getattribute__"))) && (PySem.W.readsIn K C (.type "type") && clF K C)
theorem clB_ok {K : PySem.W.Frag} {C : Addr} (h : clB K C = true) : ClI K C := by
  obtain ⟨h1, h⟩ := ba h
  obtain ⟨h2, h3⟩ := ba h
  exact ⟨eqO_ok h1, h2, clF_ok h3⟩
def d_BadRows_init : DefD := ⟨("BadRows", some "__init__"), "__init__", "BadRows.__init__", defArgs s_BadRows_init, defBody s_BadRows_init, defScope s_BadRows_init, [], []⟩
def d_is_whole : DefD := ⟨("is_whole", none), "is_whole", "is_whole", defArgs s_is_whole, defBody s_is_whole, defScope s_is_whole, [], []⟩
def d_within : DefD := ⟨("within", none), "within", "within", defArgs s_within, defBody s_within, defScope s_within, [], []⟩
def d_is_name : DefD := ⟨("is_name", none), "is_name", "is_name", defArgs s_is_name, defBody s_is_name, defScope s_is_name, [], []⟩
def d_is_step : DefD := ⟨("is_step", none), "is_step", "is_step", defArgs s_is_step, defBody s_is_step, defScope s_is_step, [], []⟩
def d_are_steps : DefD := ⟨("are_steps", none), "are_steps", "are_steps", defArgs s_are_steps, defBody s_are_steps, defScope s_are_steps, [], []⟩
def d_spoken : DefD := ⟨("spoken", none), "spoken", "spoken", defArgs s_spoken, defBody s_spoken, defScope s_spoken, [], []⟩
def d_is_guard : DefD := ⟨("is_guard", none), "is_guard", "is_guard", defArgs s_is_guard, defBody s_is_guard, defScope s_is_guard, [], []⟩
def d_is_line : DefD := ⟨("is_line", none), "is_line", "is_line", defArgs s_is_line, defBody s_is_line, defScope s_is_line, [], []⟩
def d_is_bottom : DefD := ⟨("is_bottom", none), "is_bottom", "is_bottom", defArgs s_is_bottom, defBody s_is_bottom, defScope s_is_bottom, [], []⟩
def d_is_thread : DefD := ⟨("is_thread", none), "is_thread", "is_thread", defArgs s_is_thread, defBody s_is_thread, defScope s_is_thread, [], []⟩
def d_are_ones : DefD := ⟨("are_ones", none), "are_ones", "are_ones", defArgs s_are_ones, defBody s_are_ones, defScope s_are_ones, [], []⟩
def d_are_unlike_ranks : DefD := ⟨("are_unlike_ranks", none), "are_unlike_ranks", "are_unlike_ranks", defArgs s_are_unlike_ranks, defBody s_are_unlike_ranks, defScope s_are_unlike_ranks, [], []⟩
def d_all_there : DefD := ⟨("all_there", none), "all_there", "all_there", defArgs s_all_there, defBody s_all_there, defScope s_all_there, [], []⟩
def d_copied : DefD := ⟨("copied", none), "copied", "copied", defArgs s_copied, defBody s_copied, defScope s_copied, [], []⟩
def d_Plan_init : DefD := ⟨("Plan", some "__init__"), "__init__", "Plan.__init__", defArgs s_Plan_init, defBody s_Plan_init, defScope s_Plan_init, [], [("bottoms", .adr (kwAt ("Plan", some "__init__") "bottoms")), ("threads", .adr (kwAt ("Plan", some "__init__") "threads"))]⟩
def d_Plan_eq : DefD := ⟨("Plan", some "__eq__"), "__eq__", "Plan.__eq__", defArgs s_Plan_eq, defBody s_Plan_eq, defScope s_Plan_eq, [], []⟩
def d_Plan_parts : DefD := ⟨("Plan", some "parts"), "parts", "Plan.parts", defArgs s_Plan_parts, defBody s_Plan_parts, defScope s_Plan_parts, [], []⟩
def d_Plan_lines : DefD := ⟨("Plan", some "lines"), "lines", "Plan.lines", defArgs s_Plan_lines, defBody s_Plan_lines, defScope s_Plan_lines, [], []⟩
def d_Plan_bottoms : DefD := ⟨("Plan", some "bottoms"), "bottoms", "Plan.bottoms", defArgs s_Plan_bottoms, defBody s_Plan_bottoms, defScope s_Plan_bottoms, [], []⟩
def d_Plan_threads : DefD := ⟨("Plan", some "threads"), "threads", "Plan.threads", defArgs s_Plan_threads, defBody s_Plan_threads, defScope s_Plan_threads, [], []⟩
def d_Plan_names : DefD := ⟨("Plan", some "names"), "names", "Plan.names", defArgs s_Plan_names, defBody s_Plan_names, defScope s_Plan_names, [], []⟩
def d_number_of : DefD := ⟨("number_of", none), "number_of", "number_of", defArgs s_number_of, defBody s_number_of, defScope s_number_of, [], []⟩
def d_step_of : DefD := ⟨("step_of", none), "step_of", "step_of", defArgs s_step_of, defBody s_step_of, defScope s_step_of, [], []⟩
def d_part_of : DefD := ⟨("part_of", none), "part_of", "part_of", defArgs s_part_of, defBody s_part_of, defScope s_part_of, [], []⟩
def d_Reader_init : DefD := ⟨("Reader", some "__init__"), "__init__", "Reader.__init__", defArgs s_Reader_init, defBody s_Reader_init, defScope s_Reader_init, [], []⟩
def d_Reader_take : DefD := ⟨("Reader", some "take"), "take", "Reader.take", defArgs s_Reader_take, defBody s_Reader_take, defScope s_Reader_take, [], []⟩
def d_read : DefD := ⟨("read", none), "read", "read", defArgs s_read, defBody s_read, defScope s_read, [], []⟩
def d_law_cell_at : DefD := ⟨("_law_cell_at", none), "_law_cell_at", "_law_cell_at", defArgs s_law_cell_at, defBody s_law_cell_at, defScope s_law_cell_at, [], []⟩
def d_law_draw : DefD := ⟨("_law_draw", none), "_law_draw", "_law_draw", defArgs s_law_draw, defBody s_law_draw, defScope s_law_draw, [], []⟩
def d_law_number : DefD := ⟨("_law_number", none), "_law_number", "_law_number", defArgs s_law_number, defBody s_law_number, defScope s_law_number, [], []⟩
def d_law_row : DefD := ⟨("_law_row", none), "_law_row", "_law_row", defArgs s_law_row, defBody s_law_row, defScope s_law_row, [], []⟩
def d_law_bad_lines : DefD := ⟨("_law_bad_lines", none), "_law_bad_lines", "_law_bad_lines", defArgs s_law_bad_lines, defBody s_law_bad_lines, defScope s_law_bad_lines, [], []⟩
def d_law_bad_others : DefD := ⟨("_law_bad_others", none), "_law_bad_others", "_law_bad_others", defArgs s_law_bad_others, defBody s_law_bad_others, defScope s_law_bad_others, [], []⟩
def d_law : DefD := ⟨("law", none), "law", "law", defArgs s_law, defBody s_law, defScope s_law, [], []⟩
def fn : List DefD := [d_BadRows_init, d_is_whole, d_within, d_is_name, d_is_step, d_are_steps, d_spoken, d_is_guard, d_is_line, d_is_bottom, d_is_thread, d_are_ones, d_are_unlike_ranks, d_all_there, d_copied, d_Plan_init, d_Plan_eq, d_Plan_parts, d_Plan_lines, d_Plan_bottoms, d_Plan_threads, d_Plan_names, d_number_of, d_step_of, d_part_of, d_Reader_init, d_Reader_take, d_read, d_law_cell_at, d_law_draw, d_law_number, d_law_row, d_law_bad_lines, d_law_bad_others, d_law]
def fa : List Fa := [
  .glo "KnockError",
  .glo "BadPlan",
  .glo "BadRows",
  .glo "is_whole",
  .glo "within",
  .glo "is_name",
  .glo "is_step",
  .glo "are_steps",
  .glo "spoken",
  .glo "is_guard",
  .glo "is_line",
  .glo "is_bottom",
  .glo "is_thread",
  .glo "are_ones",
  .glo "are_unlike_ranks",
  .glo "all_there",
  .glo "copied",
  .glo "Plan",
  .glo "number_of",
  .glo "step_of",
  .glo "part_of",
  .glo "Reader",
  .glo "read",
  .glo "_law_cell_at",
  .glo "_law_draw",
  .glo "_law_number",
  .glo "_law_row",
  .glo "_law_bad_lines",
  .glo "_law_bad_others",
  .glo "law",
  .str "LETTERS" "abcdefghijklmnopqrstuvwxyz",
  .int "MOST_STEPS" 12,
  .int "MOST_RUN" 9,
  .glo "SPEAKING",
  .int "MOST_LINES" 5,
  .int "MOST_OTHERS" 4,
  .int "MOST_RANK" 99,
  .int "MOST_LET" 9,
  .int "WIDEST" 60,
  .int "LONGEST" 4,
  .str "BETWEEN" ", ",
  .free "ValueError",
  .free "all",
  .free "any",
  .free "bool",
  .free "enumerate",
  .free "int",
  .free "isinstance",
  .free "len",
  .free "list",
  .free "max",
  .free "min",
  .free "range",
  .free "str",
  .free "tuple",
  .free "zip",
  .cls "Plan",
  .noat "Plan" "row",
  .noat "Plan" "low",
  .noat "Plan" "late",
  .meth "Plan" "__eq__",
  .meth "Plan" "parts",
  .meth "Plan" "lines",
  .meth "Plan" "bottoms",
  .meth "Plan" "threads",
  .meth "Plan" "names",
  .mkr "Plan",
  .cls "Reader",
  .noat "Reader" "lots",
  .meth "Reader" "take",
  .mkr "Reader",
  .exc "KnockError",
  .exc "BadPlan",
  .exm "KnockError" "BadPlan" false,
  .exm "BadPlan" "BadPlan" true,
  .exm "BadRows" "BadPlan" false,
  .exm "KnockError" "KnockError" true,
  .exm "BadPlan" "KnockError" true,
  .exm "BadRows" "KnockError" true]
def ex (K : PySem.W.Frag) : Bool := tupA K (ga K "SPEAKING") [V.str "answer", V.str "later", V.str "wake"] && (tupA K (kwAt ("Plan", some "__init__") "bottoms" K) [] && (tupA K (kwAt ("Plan", some "__init__") "threads" K) [] && (insB K (ga K "Plan") && ((["NoneType", "bool", "int", "str", "list", "tuple", "dict"] : List String).all (fun t => decide (PySem.W.kitOne K (.type t) (.ref (ga K "Plan")) = some false)) && (eqO (PySem.W.findIn K (.ref (ga K "Plan")) "__ne__") (some (some (.builtin "object.__ne__"))) && (excB K (ga K "BadRows") && (decide (PySem.W.kitOne K (.ref (ga K "BadRows")) (.ref (ga K "BadRows")) = some true) && (decide (PySem.W.kitOne K (.ref (ga K "BadRows")) (.type "ValueError") = some true) && (oexB K (ga K "BadRows") && (xfE K (ga K "BadRows") && (eqO (PySem.W.findIn K (.ref (ga K "BadRows")) "__init__") (some (some (.ref (ma K (ga K "BadRows") "__init__")))) && ((PySem.W.typeIn K (.ref (ma K (ga K "BadRows") "__init__")) == some (.type "function")) && (eqO (PySem.W.findIn K (.ref (ga K "BadRows")) "row") (some none) && (clB K (ga K "KnockError") && (true)))))))))))))))
def tf : List Defn := []
structure TxtH (w : World) (h : Heap) (K : PySem.W.Frag) (mg : Str → Option Value) : Prop where
  X : K.In h
  G : h.Ns mainGlobals mg
  c : SaysX fa fn [] tf ex w h K
def Txt (w : World) (K : PySem.W.Frag) (mg : Str → Option Value) : Prop := ∃ h, TxtH w h K mg
section
variable {w : World} {K : PySem.W.Frag} {mg : Str → Option Value}
theorem gl_KnockError (T : Txt w K mg) : mg "KnockError" = some (.ref (g_KnockError K)) := by
  obtain ⟨h, T⟩ := T
  exact glo_ok T.X T.G (T.c.t.d.fact 0 (f := .glo "KnockError") rfl)
theorem gl_BadPlan (T : Txt w K mg) : mg "BadPlan" = some (.ref (g_BadPlan K)) := by
  obtain ⟨h, T⟩ := T
  exact glo_ok T.X T.G (T.c.t.d.fact 1 (f := .glo "BadPlan") rfl)
theorem gl_BadRows (T : Txt w K mg) : mg "BadRows" = some (.ref (g_BadRows K)) := by
  obtain ⟨h, T⟩ := T
  exact glo_ok T.X T.G (T.c.t.d.fact 2 (f := .glo "BadRows") rfl)
theorem gl_is_whole (T : Txt w K mg) : mg "is_whole" = some (.ref (g_is_whole K)) := by
  obtain ⟨h, T⟩ := T
  exact glo_ok T.X T.G (T.c.t.d.fact 3 (f := .glo "is_whole") rfl)
theorem gl_within (T : Txt w K mg) : mg "within" = some (.ref (g_within K)) := by
  obtain ⟨h, T⟩ := T
  exact glo_ok T.X T.G (T.c.t.d.fact 4 (f := .glo "within") rfl)
theorem gl_is_name (T : Txt w K mg) : mg "is_name" = some (.ref (g_is_name K)) := by
  obtain ⟨h, T⟩ := T
  exact glo_ok T.X T.G (T.c.t.d.fact 5 (f := .glo "is_name") rfl)
theorem gl_is_step (T : Txt w K mg) : mg "is_step" = some (.ref (g_is_step K)) := by
  obtain ⟨h, T⟩ := T
  exact glo_ok T.X T.G (T.c.t.d.fact 6 (f := .glo "is_step") rfl)
theorem gl_are_steps (T : Txt w K mg) : mg "are_steps" = some (.ref (g_are_steps K)) := by
  obtain ⟨h, T⟩ := T
  exact glo_ok T.X T.G (T.c.t.d.fact 7 (f := .glo "are_steps") rfl)
theorem gl_spoken (T : Txt w K mg) : mg "spoken" = some (.ref (g_spoken K)) := by
  obtain ⟨h, T⟩ := T
  exact glo_ok T.X T.G (T.c.t.d.fact 8 (f := .glo "spoken") rfl)
theorem gl_is_guard (T : Txt w K mg) : mg "is_guard" = some (.ref (g_is_guard K)) := by
  obtain ⟨h, T⟩ := T
  exact glo_ok T.X T.G (T.c.t.d.fact 9 (f := .glo "is_guard") rfl)
theorem gl_is_line (T : Txt w K mg) : mg "is_line" = some (.ref (g_is_line K)) := by
  obtain ⟨h, T⟩ := T
  exact glo_ok T.X T.G (T.c.t.d.fact 10 (f := .glo "is_line") rfl)
theorem gl_is_bottom (T : Txt w K mg) : mg "is_bottom" = some (.ref (g_is_bottom K)) := by
  obtain ⟨h, T⟩ := T
  exact glo_ok T.X T.G (T.c.t.d.fact 11 (f := .glo "is_bottom") rfl)
theorem gl_is_thread (T : Txt w K mg) : mg "is_thread" = some (.ref (g_is_thread K)) := by
  obtain ⟨h, T⟩ := T
  exact glo_ok T.X T.G (T.c.t.d.fact 12 (f := .glo "is_thread") rfl)
theorem gl_are_ones (T : Txt w K mg) : mg "are_ones" = some (.ref (g_are_ones K)) := by
  obtain ⟨h, T⟩ := T
  exact glo_ok T.X T.G (T.c.t.d.fact 13 (f := .glo "are_ones") rfl)
theorem gl_are_unlike_ranks (T : Txt w K mg) : mg "are_unlike_ranks" = some (.ref (g_are_unlike_ranks K)) := by
  obtain ⟨h, T⟩ := T
  exact glo_ok T.X T.G (T.c.t.d.fact 14 (f := .glo "are_unlike_ranks") rfl)
theorem gl_all_there (T : Txt w K mg) : mg "all_there" = some (.ref (g_all_there K)) := by
  obtain ⟨h, T⟩ := T
  exact glo_ok T.X T.G (T.c.t.d.fact 15 (f := .glo "all_there") rfl)
theorem gl_copied (T : Txt w K mg) : mg "copied" = some (.ref (g_copied K)) := by
  obtain ⟨h, T⟩ := T
  exact glo_ok T.X T.G (T.c.t.d.fact 16 (f := .glo "copied") rfl)
theorem gl_Plan (T : Txt w K mg) : mg "Plan" = some (.ref (g_Plan K)) := by
  obtain ⟨h, T⟩ := T
  exact glo_ok T.X T.G (T.c.t.d.fact 17 (f := .glo "Plan") rfl)
theorem gl_number_of (T : Txt w K mg) : mg "number_of" = some (.ref (g_number_of K)) := by
  obtain ⟨h, T⟩ := T
  exact glo_ok T.X T.G (T.c.t.d.fact 18 (f := .glo "number_of") rfl)
theorem gl_step_of (T : Txt w K mg) : mg "step_of" = some (.ref (g_step_of K)) := by
  obtain ⟨h, T⟩ := T
  exact glo_ok T.X T.G (T.c.t.d.fact 19 (f := .glo "step_of") rfl)
theorem gl_part_of (T : Txt w K mg) : mg "part_of" = some (.ref (g_part_of K)) := by
  obtain ⟨h, T⟩ := T
  exact glo_ok T.X T.G (T.c.t.d.fact 20 (f := .glo "part_of") rfl)
theorem gl_Reader (T : Txt w K mg) : mg "Reader" = some (.ref (g_Reader K)) := by
  obtain ⟨h, T⟩ := T
  exact glo_ok T.X T.G (T.c.t.d.fact 21 (f := .glo "Reader") rfl)
theorem gl_read (T : Txt w K mg) : mg "read" = some (.ref (g_read K)) := by
  obtain ⟨h, T⟩ := T
  exact glo_ok T.X T.G (T.c.t.d.fact 22 (f := .glo "read") rfl)
theorem gl_law_cell_at (T : Txt w K mg) : mg "_law_cell_at" = some (.ref (g_law_cell_at K)) := by
  obtain ⟨h, T⟩ := T
  exact glo_ok T.X T.G (T.c.t.d.fact 23 (f := .glo "_law_cell_at") rfl)
theorem gl_law_draw (T : Txt w K mg) : mg "_law_draw" = some (.ref (g_law_draw K)) := by
  obtain ⟨h, T⟩ := T
  exact glo_ok T.X T.G (T.c.t.d.fact 24 (f := .glo "_law_draw") rfl)
theorem gl_law_number (T : Txt w K mg) : mg "_law_number" = some (.ref (g_law_number K)) := by
  obtain ⟨h, T⟩ := T
  exact glo_ok T.X T.G (T.c.t.d.fact 25 (f := .glo "_law_number") rfl)
theorem gl_law_row (T : Txt w K mg) : mg "_law_row" = some (.ref (g_law_row K)) := by
  obtain ⟨h, T⟩ := T
  exact glo_ok T.X T.G (T.c.t.d.fact 26 (f := .glo "_law_row") rfl)
theorem gl_law_bad_lines (T : Txt w K mg) : mg "_law_bad_lines" = some (.ref (g_law_bad_lines K)) := by
  obtain ⟨h, T⟩ := T
  exact glo_ok T.X T.G (T.c.t.d.fact 27 (f := .glo "_law_bad_lines") rfl)
theorem gl_law_bad_others (T : Txt w K mg) : mg "_law_bad_others" = some (.ref (g_law_bad_others K)) := by
  obtain ⟨h, T⟩ := T
  exact glo_ok T.X T.G (T.c.t.d.fact 28 (f := .glo "_law_bad_others") rfl)
theorem gl_law (T : Txt w K mg) : mg "law" = some (.ref (g_law K)) := by
  obtain ⟨h, T⟩ := T
  exact glo_ok T.X T.G (T.c.t.d.fact 29 (f := .glo "law") rfl)
theorem st_LETTERS (T : Txt w K mg) : ∃ t, mg "LETTERS" = some (.str "abcdefghijklmnopqrstuvwxyz" t) := by
  obtain ⟨h, T⟩ := T
  exact str_ok T.X T.G (T.c.t.d.fact 30 (f := .str "LETTERS" "abcdefghijklmnopqrstuvwxyz") rfl)
theorem in_MOST_STEPS (T : Txt w K mg) : ∃ t, mg "MOST_STEPS" = some (.int 12 t) := by
  obtain ⟨h, T⟩ := T
  exact int_ok T.X T.G (T.c.t.d.fact 31 (f := .int "MOST_STEPS" 12) rfl)
theorem in_MOST_RUN (T : Txt w K mg) : ∃ t, mg "MOST_RUN" = some (.int 9 t) := by
  obtain ⟨h, T⟩ := T
  exact int_ok T.X T.G (T.c.t.d.fact 32 (f := .int "MOST_RUN" 9) rfl)
theorem gl_SPEAKING (T : Txt w K mg) : mg "SPEAKING" = some (.ref (ga K "SPEAKING")) := by
  obtain ⟨h, T⟩ := T
  exact glo_ok T.X T.G (T.c.t.d.fact 33 (f := .glo "SPEAKING") rfl)
theorem in_MOST_LINES (T : Txt w K mg) : ∃ t, mg "MOST_LINES" = some (.int 5 t) := by
  obtain ⟨h, T⟩ := T
  exact int_ok T.X T.G (T.c.t.d.fact 34 (f := .int "MOST_LINES" 5) rfl)
theorem in_MOST_OTHERS (T : Txt w K mg) : ∃ t, mg "MOST_OTHERS" = some (.int 4 t) := by
  obtain ⟨h, T⟩ := T
  exact int_ok T.X T.G (T.c.t.d.fact 35 (f := .int "MOST_OTHERS" 4) rfl)
theorem in_MOST_RANK (T : Txt w K mg) : ∃ t, mg "MOST_RANK" = some (.int 99 t) := by
  obtain ⟨h, T⟩ := T
  exact int_ok T.X T.G (T.c.t.d.fact 36 (f := .int "MOST_RANK" 99) rfl)
theorem in_MOST_LET (T : Txt w K mg) : ∃ t, mg "MOST_LET" = some (.int 9 t) := by
  obtain ⟨h, T⟩ := T
  exact int_ok T.X T.G (T.c.t.d.fact 37 (f := .int "MOST_LET" 9) rfl)
theorem in_WIDEST (T : Txt w K mg) : ∃ t, mg "WIDEST" = some (.int 60 t) := by
  obtain ⟨h, T⟩ := T
  exact int_ok T.X T.G (T.c.t.d.fact 38 (f := .int "WIDEST" 60) rfl)
theorem in_LONGEST (T : Txt w K mg) : ∃ t, mg "LONGEST" = some (.int 4 t) := by
  obtain ⟨h, T⟩ := T
  exact int_ok T.X T.G (T.c.t.d.fact 39 (f := .int "LONGEST" 4) rfl)
theorem st_BETWEEN (T : Txt w K mg) : ∃ t, mg "BETWEEN" = some (.str ", " t) := by
  obtain ⟨h, T⟩ := T
  exact str_ok T.X T.G (T.c.t.d.fact 40 (f := .str "BETWEEN" ", ") rfl)
theorem fr_ValueError (T : Txt w K mg) : mg "ValueError" = none := by
  obtain ⟨h, T⟩ := T
  exact free_ok T.X T.G (T.c.t.d.fact 41 (f := .free "ValueError") rfl)
theorem fr_all (T : Txt w K mg) : mg "all" = none := by
  obtain ⟨h, T⟩ := T
  exact free_ok T.X T.G (T.c.t.d.fact 42 (f := .free "all") rfl)
theorem fr_any (T : Txt w K mg) : mg "any" = none := by
  obtain ⟨h, T⟩ := T
  exact free_ok T.X T.G (T.c.t.d.fact 43 (f := .free "any") rfl)
theorem fr_bool (T : Txt w K mg) : mg "bool" = none := by
  obtain ⟨h, T⟩ := T
  exact free_ok T.X T.G (T.c.t.d.fact 44 (f := .free "bool") rfl)
theorem fr_enumerate (T : Txt w K mg) : mg "enumerate" = none := by
  obtain ⟨h, T⟩ := T
  exact free_ok T.X T.G (T.c.t.d.fact 45 (f := .free "enumerate") rfl)
theorem fr_int (T : Txt w K mg) : mg "int" = none := by
  obtain ⟨h, T⟩ := T
  exact free_ok T.X T.G (T.c.t.d.fact 46 (f := .free "int") rfl)
theorem fr_isinstance (T : Txt w K mg) : mg "isinstance" = none := by
  obtain ⟨h, T⟩ := T
  exact free_ok T.X T.G (T.c.t.d.fact 47 (f := .free "isinstance") rfl)
theorem fr_len (T : Txt w K mg) : mg "len" = none := by
  obtain ⟨h, T⟩ := T
  exact free_ok T.X T.G (T.c.t.d.fact 48 (f := .free "len") rfl)
theorem fr_list (T : Txt w K mg) : mg "list" = none := by
  obtain ⟨h, T⟩ := T
  exact free_ok T.X T.G (T.c.t.d.fact 49 (f := .free "list") rfl)
theorem fr_max (T : Txt w K mg) : mg "max" = none := by
  obtain ⟨h, T⟩ := T
  exact free_ok T.X T.G (T.c.t.d.fact 50 (f := .free "max") rfl)
theorem fr_min (T : Txt w K mg) : mg "min" = none := by
  obtain ⟨h, T⟩ := T
  exact free_ok T.X T.G (T.c.t.d.fact 51 (f := .free "min") rfl)
theorem fr_range (T : Txt w K mg) : mg "range" = none := by
  obtain ⟨h, T⟩ := T
  exact free_ok T.X T.G (T.c.t.d.fact 52 (f := .free "range") rfl)
theorem fr_str (T : Txt w K mg) : mg "str" = none := by
  obtain ⟨h, T⟩ := T
  exact free_ok T.X T.G (T.c.t.d.fact 53 (f := .free "str") rfl)
theorem fr_tuple (T : Txt w K mg) : mg "tuple" = none := by
  obtain ⟨h, T⟩ := T
  exact free_ok T.X T.G (T.c.t.d.fact 54 (f := .free "tuple") rfl)
theorem fr_zip (T : Txt w K mg) : mg "zip" = none := by
  obtain ⟨h, T⟩ := T
  exact free_ok T.X T.G (T.c.t.d.fact 55 (f := .free "zip") rfl)
theorem cl_Plan (T : Txt w K mg) : Cls K (g_Plan K) := by
  obtain ⟨h, T⟩ := T
  exact cls_ok (T.c.t.d.fact 56 (f := .cls "Plan") rfl)
theorem na_Plan_row (T : Txt w K mg) : NoAttr K (g_Plan K) "row" := by
  obtain ⟨h, T⟩ := T
  exact noat_ok (T.c.t.d.fact 57 (f := .noat "Plan" "row") rfl)
theorem na_Plan_low (T : Txt w K mg) : NoAttr K (g_Plan K) "low" := by
  obtain ⟨h, T⟩ := T
  exact noat_ok (T.c.t.d.fact 58 (f := .noat "Plan" "low") rfl)
theorem na_Plan_late (T : Txt w K mg) : NoAttr K (g_Plan K) "late" := by
  obtain ⟨h, T⟩ := T
  exact noat_ok (T.c.t.d.fact 59 (f := .noat "Plan" "late") rfl)
theorem me_Plan_eq (T : Txt w K mg) : Meth K (g_Plan K) "__eq__" (ma K (ga K "Plan") "__eq__") := by
  obtain ⟨h, T⟩ := T
  exact meth_ok (T.c.t.d.fact 60 (f := .meth "Plan" "__eq__") rfl)
theorem me_Plan_parts (T : Txt w K mg) : Meth K (g_Plan K) "parts" (ma K (ga K "Plan") "parts") := by
  obtain ⟨h, T⟩ := T
  exact meth_ok (T.c.t.d.fact 61 (f := .meth "Plan" "parts") rfl)
theorem me_Plan_lines (T : Txt w K mg) : Meth K (g_Plan K) "lines" (ma K (ga K "Plan") "lines") := by
  obtain ⟨h, T⟩ := T
  exact meth_ok (T.c.t.d.fact 62 (f := .meth "Plan" "lines") rfl)
theorem me_Plan_bottoms (T : Txt w K mg) : Meth K (g_Plan K) "bottoms" (ma K (ga K "Plan") "bottoms") := by
  obtain ⟨h, T⟩ := T
  exact meth_ok (T.c.t.d.fact 63 (f := .meth "Plan" "bottoms") rfl)
theorem me_Plan_threads (T : Txt w K mg) : Meth K (g_Plan K) "threads" (ma K (ga K "Plan") "threads") := by
  obtain ⟨h, T⟩ := T
  exact meth_ok (T.c.t.d.fact 64 (f := .meth "Plan" "threads") rfl)
theorem me_Plan_names (T : Txt w K mg) : Meth K (g_Plan K) "names" (ma K (ga K "Plan") "names") := by
  obtain ⟨h, T⟩ := T
  exact meth_ok (T.c.t.d.fact 65 (f := .meth "Plan" "names") rfl)
theorem mk_Plan (T : Txt w K mg) : Mk K (g_Plan K) (f_Plan_init K) := by
  obtain ⟨h, T⟩ := T
  exact mkr_ok (T.c.t.d.fact 66 (f := .mkr "Plan") rfl)
theorem cl_Reader (T : Txt w K mg) : Cls K (g_Reader K) := by
  obtain ⟨h, T⟩ := T
  exact cls_ok (T.c.t.d.fact 67 (f := .cls "Reader") rfl)
theorem na_Reader_lots (T : Txt w K mg) : NoAttr K (g_Reader K) "lots" := by
  obtain ⟨h, T⟩ := T
  exact noat_ok (T.c.t.d.fact 68 (f := .noat "Reader" "lots") rfl)
theorem me_Reader_take (T : Txt w K mg) : Meth K (g_Reader K) "take" (ma K (ga K "Reader") "take") := by
  obtain ⟨h, T⟩ := T
  exact meth_ok (T.c.t.d.fact 69 (f := .meth "Reader" "take") rfl)
theorem mk_Reader (T : Txt w K mg) : Mk K (g_Reader K) (f_Reader_init K) := by
  obtain ⟨h, T⟩ := T
  exact mkr_ok (T.c.t.d.fact 70 (f := .mkr "Reader") rfl)
theorem ec_KnockError (T : Txt w K mg) : PySem.W.excIn K (g_KnockError K) veBase "ValueError.__new__" = true ∧ PySem.W.keepIn K (.ref (g_KnockError K)) = true ∧ PySem.W.subIn K (.ref (g_KnockError K)) (.type "BaseException") = some true ∧ PySem.W.typeIn K (.ref (g_KnockError K)) = some (.type "type") := by
  obtain ⟨h, T⟩ := T
  exact exc_ok (T.c.t.d.fact 71 (f := .exc "KnockError") rfl)
theorem ec_BadPlan (T : Txt w K mg) : PySem.W.excIn K (g_BadPlan K) veBase "ValueError.__new__" = true ∧ PySem.W.keepIn K (.ref (g_BadPlan K)) = true ∧ PySem.W.subIn K (.ref (g_BadPlan K)) (.type "BaseException") = some true ∧ PySem.W.typeIn K (.ref (g_BadPlan K)) = some (.type "type") := by
  obtain ⟨h, T⟩ := T
  exact exc_ok (T.c.t.d.fact 72 (f := .exc "BadPlan") rfl)
theorem em_KnockError_BadPlan (T : Txt w K mg) : PySem.W.exmOne K (.ref (g_KnockError K)) (.ref (g_BadPlan K)) = some false := by
  obtain ⟨h, T⟩ := T
  exact exm_ok (T.c.t.d.fact 73 (f := .exm "KnockError" "BadPlan" false) rfl)
theorem em_BadPlan_BadPlan (T : Txt w K mg) : PySem.W.exmOne K (.ref (g_BadPlan K)) (.ref (g_BadPlan K)) = some true := by
  obtain ⟨h, T⟩ := T
  exact exm_ok (T.c.t.d.fact 74 (f := .exm "BadPlan" "BadPlan" true) rfl)
theorem em_BadRows_BadPlan (T : Txt w K mg) : PySem.W.exmOne K (.ref (g_BadRows K)) (.ref (g_BadPlan K)) = some false := by
  obtain ⟨h, T⟩ := T
  exact exm_ok (T.c.t.d.fact 75 (f := .exm "BadRows" "BadPlan" false) rfl)
theorem em_KnockError_KnockError (T : Txt w K mg) : PySem.W.exmOne K (.ref (g_KnockError K)) (.ref (g_KnockError K)) = some true := by
  obtain ⟨h, T⟩ := T
  exact exm_ok (T.c.t.d.fact 76 (f := .exm "KnockError" "KnockError" true) rfl)
theorem em_BadPlan_KnockError (T : Txt w K mg) : PySem.W.exmOne K (.ref (g_BadPlan K)) (.ref (g_KnockError K)) = some true := by
  obtain ⟨h, T⟩ := T
  exact exm_ok (T.c.t.d.fact 77 (f := .exm "BadPlan" "KnockError" true) rfl)
theorem em_BadRows_KnockError (T : Txt w K mg) : PySem.W.exmOne K (.ref (g_BadRows K)) (.ref (g_KnockError K)) = some true := by
  obtain ⟨h, T⟩ := T
  exact exm_ok (T.c.t.d.fact 78 (f := .exm "BadRows" "KnockError" true) rfl)
theorem isa_Plan (T : Txt w K mg) : C8.InsC K (g_Plan K) := by
  obtain ⟨h, T⟩ := T
  exact insB_ok (cl_Plan ⟨h, T⟩) ((ba ((ba (ba (ba T.c.more).2).2).2)).1)
theorem isn_Plan (T : Txt w K mg) : ∀ t ∈ (["NoneType", "bool", "int", "str", "list", "tuple", "dict"] : List String), PySem.W.kitOne K (.type t) (.ref (g_Plan K)) = some false := by
  obtain ⟨h, T⟩ := T
  exact fun t ht => of_decide_eq_true (List.all_eq_true.mp ((ba ((ba (ba (ba (ba T.c.more).2).2).2).2)).1) t ht)
theorem nen_Plan (T : Txt w K mg) : PySem.W.findIn K (.ref (g_Plan K)) "__ne__" = some (some (.builtin "object.__ne__")) := by
  obtain ⟨h, T⟩ := T
  exact eqO_ok ((ba ((ba (ba (ba (ba (ba T.c.more).2).2).2).2).2)).1)
theorem xc_BadRows (T : Txt w K mg) : ExcC K (g_BadRows K) := by
  obtain ⟨h, T⟩ := T
  exact excB_ok ((ba ((ba (ba (ba (ba (ba (ba T.c.more).2).2).2).2).2).2)).1)
theorem ki_BadRows_BadRows (T : Txt w K mg) : PySem.W.kitOne K (.ref (g_BadRows K)) (.ref (g_BadRows K)) = some true := by
  obtain ⟨h, T⟩ := T
  exact of_decide_eq_true ((ba ((ba (ba (ba (ba (ba (ba (ba T.c.more).2).2).2).2).2).2).2)).1)
theorem kv_BadRows (T : Txt w K mg) : PySem.W.kitOne K (.ref (g_BadRows K)) (.type "ValueError") = some true := by
  obtain ⟨h, T⟩ := T
  exact of_decide_eq_true ((ba ((ba (ba (ba (ba (ba (ba (ba (ba T.c.more).2).2).2).2).2).2).2).2)).1)
theorem oex_BadRows (T : Txt w K mg) : OexC K (g_BadRows K) := by
  obtain ⟨h, T⟩ := T
  exact oexB_ok ((ba ((ba (ba (ba (ba (ba (ba (ba (ba (ba T.c.more).2).2).2).2).2).2).2).2).2)).1)
theorem xf_BadRows (T : Txt w K mg) : XfC K (g_BadRows K) := by
  obtain ⟨h, T⟩ := T
  exact xfE_ok ((ba ((ba (ba (ba (ba (ba (ba (ba (ba (ba (ba T.c.more).2).2).2).2).2).2).2).2).2).2)).1)
theorem ini_BadRows (T : Txt w K mg) : PySem.W.findIn K (.ref (g_BadRows K)) "__init__" = some (some (.ref (f_BadRows_init K))) := by
  obtain ⟨h, T⟩ := T
  exact eqO_ok ((ba ((ba (ba (ba (ba (ba (ba (ba (ba (ba (ba (ba T.c.more).2).2).2).2).2).2).2).2).2).2).2)).1)
theorem tyi_BadRows (T : Txt w K mg) : PySem.W.typeIn K (.ref (f_BadRows_init K)) = some (.type "function") := by
  obtain ⟨h, T⟩ := T
  exact beq_iff_eq.mp ((ba ((ba (ba (ba (ba (ba (ba (ba (ba (ba (ba (ba (ba T.c.more).2).2).2).2).2).2).2).2).2).2).2).2)).1)
theorem nof_BadRows_row (T : Txt w K mg) : PySem.W.findIn K (.ref (g_BadRows K)) "row" = some none := by
  obtain ⟨h, T⟩ := T
  exact eqO_ok ((ba ((ba (ba (ba (ba (ba (ba (ba (ba (ba (ba (ba (ba (ba T.c.more).2).2).2).2).2).2).2).2).2).2).2).2).2)).1)
theorem cli_KnockError (T : Txt w K mg) : ClI K (g_KnockError K) := by
  obtain ⟨h, T⟩ := T
  exact clB_ok ((ba ((ba (ba (ba (ba (ba (ba (ba (ba (ba (ba (ba (ba (ba (ba T.c.more).2).2).2).2).2).2).2).2).2).2).2).2).2).2)).1)
theorem tu_SPEAKING (T : Txt w K mg) : ∀ H : Hp, SqT K H (ga K "SPEAKING") [V.str "answer", V.str "later", V.str "wake"] := by
  obtain ⟨h, T⟩ := T
  exact fun H => tupA_ok (ba (T.c.more)).1 H
theorem em0_Plan_init_bottoms (T : Txt w K mg) : ∀ H : Hp, SqT K H (kwAt ("Plan", some "__init__") "bottoms" K) [] := by
  obtain ⟨h, T⟩ := T
  exact fun H => tupA_ok (ba ((ba T.c.more).2)).1 H
theorem em0_Plan_init_threads (T : Txt w K mg) : ∀ H : Hp, SqT K H (kwAt ("Plan", some "__init__") "threads" K) [] := by
  obtain ⟨h, T⟩ := T
  exact fun H => tupA_ok (ba ((ba (ba T.c.more).2).2)).1 H
theorem df_BadRows_init (T : Txt w K mg) : FunD K "__init__" "BadRows.__init__" (defArgs s_BadRows_init) (defBody s_BadRows_init) (defScope s_BadRows_init) [] [] (f_BadRows_init K) (fdAt K (f_BadRows_init K)) := by
  obtain ⟨h, T⟩ := T
  exact funD_at (T.c.t.d.def_ 0 (d := d_BadRows_init) rfl)
theorem bi_BadRows_init (T : Txt w K mg) : Binds K (fdAt K (f_BadRows_init K)) ["self", "row"] [] := FunD.bindsN (df_BadRows_init T) fun _ _ _ _ _ _ us hl => match us, hl with | [_, _], _ => rfl
theorem df_is_whole (T : Txt w K mg) : FunD K "is_whole" "is_whole" (defArgs s_is_whole) (defBody s_is_whole) (defScope s_is_whole) [] [] (f_is_whole K) (fdAt K (f_is_whole K)) := by
  obtain ⟨h, T⟩ := T
  exact funD_at (T.c.t.d.def_ 1 (d := d_is_whole) rfl)
theorem bi_is_whole (T : Txt w K mg) : Binds K (fdAt K (f_is_whole K)) ["thing"] [] := FunD.bindsN (df_is_whole T) fun _ _ _ _ _ _ us hl => match us, hl with | [_], _ => rfl
theorem df_within (T : Txt w K mg) : FunD K "within" "within" (defArgs s_within) (defBody s_within) (defScope s_within) [] [] (f_within K) (fdAt K (f_within K)) := by
  obtain ⟨h, T⟩ := T
  exact funD_at (T.c.t.d.def_ 2 (d := d_within) rfl)
theorem bi_within (T : Txt w K mg) : Binds K (fdAt K (f_within K)) ["thing", "low", "high"] [] := FunD.bindsN (df_within T) fun _ _ _ _ _ _ us hl => match us, hl with | [_, _, _], _ => rfl
theorem df_is_name (T : Txt w K mg) : FunD K "is_name" "is_name" (defArgs s_is_name) (defBody s_is_name) (defScope s_is_name) [] [] (f_is_name K) (fdAt K (f_is_name K)) := by
  obtain ⟨h, T⟩ := T
  exact funD_at (T.c.t.d.def_ 3 (d := d_is_name) rfl)
theorem bi_is_name (T : Txt w K mg) : Binds K (fdAt K (f_is_name K)) ["thing"] [] := FunD.bindsN (df_is_name T) fun _ _ _ _ _ _ us hl => match us, hl with | [_], _ => rfl
theorem df_is_step (T : Txt w K mg) : FunD K "is_step" "is_step" (defArgs s_is_step) (defBody s_is_step) (defScope s_is_step) [] [] (f_is_step K) (fdAt K (f_is_step K)) := by
  obtain ⟨h, T⟩ := T
  exact funD_at (T.c.t.d.def_ 4 (d := d_is_step) rfl)
theorem bi_is_step (T : Txt w K mg) : Binds K (fdAt K (f_is_step K)) ["thing"] [] := FunD.bindsN (df_is_step T) fun _ _ _ _ _ _ us hl => match us, hl with | [_], _ => rfl
theorem df_are_steps (T : Txt w K mg) : FunD K "are_steps" "are_steps" (defArgs s_are_steps) (defBody s_are_steps) (defScope s_are_steps) [] [] (f_are_steps K) (fdAt K (f_are_steps K)) := by
  obtain ⟨h, T⟩ := T
  exact funD_at (T.c.t.d.def_ 5 (d := d_are_steps) rfl)
theorem bi_are_steps (T : Txt w K mg) : Binds K (fdAt K (f_are_steps K)) ["thing"] [] := FunD.bindsN (df_are_steps T) fun _ _ _ _ _ _ us hl => match us, hl with | [_], _ => rfl
theorem df_spoken (T : Txt w K mg) : FunD K "spoken" "spoken" (defArgs s_spoken) (defBody s_spoken) (defScope s_spoken) [] [] (f_spoken K) (fdAt K (f_spoken K)) := by
  obtain ⟨h, T⟩ := T
  exact funD_at (T.c.t.d.def_ 6 (d := d_spoken) rfl)
theorem bi_spoken (T : Txt w K mg) : Binds K (fdAt K (f_spoken K)) ["steps", "word"] [] := FunD.bindsN (df_spoken T) fun _ _ _ _ _ _ us hl => match us, hl with | [_, _], _ => rfl
theorem df_is_guard (T : Txt w K mg) : FunD K "is_guard" "is_guard" (defArgs s_is_guard) (defBody s_is_guard) (defScope s_is_guard) [] [] (f_is_guard K) (fdAt K (f_is_guard K)) := by
  obtain ⟨h, T⟩ := T
  exact funD_at (T.c.t.d.def_ 7 (d := d_is_guard) rfl)
theorem bi_is_guard (T : Txt w K mg) : Binds K (fdAt K (f_is_guard K)) ["thing"] [] := FunD.bindsN (df_is_guard T) fun _ _ _ _ _ _ us hl => match us, hl with | [_], _ => rfl
theorem df_is_line (T : Txt w K mg) : FunD K "is_line" "is_line" (defArgs s_is_line) (defBody s_is_line) (defScope s_is_line) [] [] (f_is_line K) (fdAt K (f_is_line K)) := by
  obtain ⟨h, T⟩ := T
  exact funD_at (T.c.t.d.def_ 8 (d := d_is_line) rfl)
theorem bi_is_line (T : Txt w K mg) : Binds K (fdAt K (f_is_line K)) ["thing"] [] := FunD.bindsN (df_is_line T) fun _ _ _ _ _ _ us hl => match us, hl with | [_], _ => rfl
theorem df_is_bottom (T : Txt w K mg) : FunD K "is_bottom" "is_bottom" (defArgs s_is_bottom) (defBody s_is_bottom) (defScope s_is_bottom) [] [] (f_is_bottom K) (fdAt K (f_is_bottom K)) := by
  obtain ⟨h, T⟩ := T
  exact funD_at (T.c.t.d.def_ 9 (d := d_is_bottom) rfl)
theorem bi_is_bottom (T : Txt w K mg) : Binds K (fdAt K (f_is_bottom K)) ["thing"] [] := FunD.bindsN (df_is_bottom T) fun _ _ _ _ _ _ us hl => match us, hl with | [_], _ => rfl
theorem df_is_thread (T : Txt w K mg) : FunD K "is_thread" "is_thread" (defArgs s_is_thread) (defBody s_is_thread) (defScope s_is_thread) [] [] (f_is_thread K) (fdAt K (f_is_thread K)) := by
  obtain ⟨h, T⟩ := T
  exact funD_at (T.c.t.d.def_ 10 (d := d_is_thread) rfl)
theorem bi_is_thread (T : Txt w K mg) : Binds K (fdAt K (f_is_thread K)) ["thing"] [] := FunD.bindsN (df_is_thread T) fun _ _ _ _ _ _ us hl => match us, hl with | [_], _ => rfl
theorem df_are_ones (T : Txt w K mg) : FunD K "are_ones" "are_ones" (defArgs s_are_ones) (defBody s_are_ones) (defScope s_are_ones) [] [] (f_are_ones K) (fdAt K (f_are_ones K)) := by
  obtain ⟨h, T⟩ := T
  exact funD_at (T.c.t.d.def_ 11 (d := d_are_ones) rfl)
theorem bi_are_ones (T : Txt w K mg) : Binds K (fdAt K (f_are_ones K)) ["thing", "low", "high", "look"] [] := FunD.bindsN (df_are_ones T) fun _ _ _ _ _ _ us hl => match us, hl with | [_, _, _, _], _ => rfl
theorem df_are_unlike_ranks (T : Txt w K mg) : FunD K "are_unlike_ranks" "are_unlike_ranks" (defArgs s_are_unlike_ranks) (defBody s_are_unlike_ranks) (defScope s_are_unlike_ranks) [] [] (f_are_unlike_ranks K) (fdAt K (f_are_unlike_ranks K)) := by
  obtain ⟨h, T⟩ := T
  exact funD_at (T.c.t.d.def_ 12 (d := d_are_unlike_ranks) rfl)
theorem bi_are_unlike_ranks (T : Txt w K mg) : Binds K (fdAt K (f_are_unlike_ranks K)) ["things"] [] := FunD.bindsN (df_are_unlike_ranks T) fun _ _ _ _ _ _ us hl => match us, hl with | [_], _ => rfl
theorem df_all_there (T : Txt w K mg) : FunD K "all_there" "all_there" (defArgs s_all_there) (defBody s_all_there) (defScope s_all_there) [] [] (f_all_there K) (fdAt K (f_all_there K)) := by
  obtain ⟨h, T⟩ := T
  exact funD_at (T.c.t.d.def_ 13 (d := d_all_there) rfl)
theorem bi_all_there (T : Txt w K mg) : Binds K (fdAt K (f_all_there K)) ["names", "lines", "bottoms", "threads"] [] := FunD.bindsN (df_all_there T) fun _ _ _ _ _ _ us hl => match us, hl with | [_, _, _, _], _ => rfl
theorem df_copied (T : Txt w K mg) : FunD K "copied" "copied" (defArgs s_copied) (defBody s_copied) (defScope s_copied) [] [] (f_copied K) (fdAt K (f_copied K)) := by
  obtain ⟨h, T⟩ := T
  exact funD_at (T.c.t.d.def_ 14 (d := d_copied) rfl)
theorem bi_copied (T : Txt w K mg) : Binds K (fdAt K (f_copied K)) ["things"] [] := FunD.bindsN (df_copied T) fun _ _ _ _ _ _ us hl => match us, hl with | [_], _ => rfl
theorem df_Plan_init (T : Txt w K mg) : FunD K "__init__" "Plan.__init__" (defArgs s_Plan_init) (defBody s_Plan_init) (defScope s_Plan_init) [] [("bottoms", V.ref (kwAt ("Plan", some "__init__") "bottoms" K)), ("threads", V.ref (kwAt ("Plan", some "__init__") "threads" K))] (f_Plan_init K) (fdAt K (f_Plan_init K)) := by
  obtain ⟨h, T⟩ := T
  exact funD_at (T.c.t.d.def_ 15 (d := d_Plan_init) rfl)
theorem df_Plan_eq (T : Txt w K mg) : FunD K "__eq__" "Plan.__eq__" (defArgs s_Plan_eq) (defBody s_Plan_eq) (defScope s_Plan_eq) [] [] (f_Plan_eq K) (fdAt K (f_Plan_eq K)) := by
  obtain ⟨h, T⟩ := T
  exact funD_at (T.c.t.d.def_ 16 (d := d_Plan_eq) rfl)
theorem bi_Plan_eq (T : Txt w K mg) : Binds K (fdAt K (f_Plan_eq K)) ["self", "other"] [] := FunD.bindsN (df_Plan_eq T) fun _ _ _ _ _ _ us hl => match us, hl with | [_, _], _ => rfl
theorem df_Plan_parts (T : Txt w K mg) : FunD K "parts" "Plan.parts" (defArgs s_Plan_parts) (defBody s_Plan_parts) (defScope s_Plan_parts) [] [] (f_Plan_parts K) (fdAt K (f_Plan_parts K)) := by
  obtain ⟨h, T⟩ := T
  exact funD_at (T.c.t.d.def_ 17 (d := d_Plan_parts) rfl)
theorem bi_Plan_parts (T : Txt w K mg) : Binds K (fdAt K (f_Plan_parts K)) ["self"] [] := FunD.bindsN (df_Plan_parts T) fun _ _ _ _ _ _ us hl => match us, hl with | [_], _ => rfl
theorem df_Plan_lines (T : Txt w K mg) : FunD K "lines" "Plan.lines" (defArgs s_Plan_lines) (defBody s_Plan_lines) (defScope s_Plan_lines) [] [] (f_Plan_lines K) (fdAt K (f_Plan_lines K)) := by
  obtain ⟨h, T⟩ := T
  exact funD_at (T.c.t.d.def_ 18 (d := d_Plan_lines) rfl)
theorem bi_Plan_lines (T : Txt w K mg) : Binds K (fdAt K (f_Plan_lines K)) ["self"] [] := FunD.bindsN (df_Plan_lines T) fun _ _ _ _ _ _ us hl => match us, hl with | [_], _ => rfl
theorem df_Plan_bottoms (T : Txt w K mg) : FunD K "bottoms" "Plan.bottoms" (defArgs s_Plan_bottoms) (defBody s_Plan_bottoms) (defScope s_Plan_bottoms) [] [] (f_Plan_bottoms K) (fdAt K (f_Plan_bottoms K)) := by
  obtain ⟨h, T⟩ := T
  exact funD_at (T.c.t.d.def_ 19 (d := d_Plan_bottoms) rfl)
theorem bi_Plan_bottoms (T : Txt w K mg) : Binds K (fdAt K (f_Plan_bottoms K)) ["self"] [] := FunD.bindsN (df_Plan_bottoms T) fun _ _ _ _ _ _ us hl => match us, hl with | [_], _ => rfl
theorem df_Plan_threads (T : Txt w K mg) : FunD K "threads" "Plan.threads" (defArgs s_Plan_threads) (defBody s_Plan_threads) (defScope s_Plan_threads) [] [] (f_Plan_threads K) (fdAt K (f_Plan_threads K)) := by
  obtain ⟨h, T⟩ := T
  exact funD_at (T.c.t.d.def_ 20 (d := d_Plan_threads) rfl)
theorem bi_Plan_threads (T : Txt w K mg) : Binds K (fdAt K (f_Plan_threads K)) ["self"] [] := FunD.bindsN (df_Plan_threads T) fun _ _ _ _ _ _ us hl => match us, hl with | [_], _ => rfl
theorem df_Plan_names (T : Txt w K mg) : FunD K "names" "Plan.names" (defArgs s_Plan_names) (defBody s_Plan_names) (defScope s_Plan_names) [] [] (f_Plan_names K) (fdAt K (f_Plan_names K)) := by
  obtain ⟨h, T⟩ := T
  exact funD_at (T.c.t.d.def_ 21 (d := d_Plan_names) rfl)
theorem bi_Plan_names (T : Txt w K mg) : Binds K (fdAt K (f_Plan_names K)) ["self"] [] := FunD.bindsN (df_Plan_names T) fun _ _ _ _ _ _ us hl => match us, hl with | [_], _ => rfl
theorem df_number_of (T : Txt w K mg) : FunD K "number_of" "number_of" (defArgs s_number_of) (defBody s_number_of) (defScope s_number_of) [] [] (f_number_of K) (fdAt K (f_number_of K)) := by
  obtain ⟨h, T⟩ := T
  exact funD_at (T.c.t.d.def_ 22 (d := d_number_of) rfl)
theorem bi_number_of (T : Txt w K mg) : Binds K (fdAt K (f_number_of K)) ["word"] [] := FunD.bindsN (df_number_of T) fun _ _ _ _ _ _ us hl => match us, hl with | [_], _ => rfl
theorem df_step_of (T : Txt w K mg) : FunD K "step_of" "step_of" (defArgs s_step_of) (defBody s_step_of) (defScope s_step_of) [] [] (f_step_of K) (fdAt K (f_step_of K)) := by
  obtain ⟨h, T⟩ := T
  exact funD_at (T.c.t.d.def_ 23 (d := d_step_of) rfl)
theorem bi_step_of (T : Txt w K mg) : Binds K (fdAt K (f_step_of K)) ["text"] [] := FunD.bindsN (df_step_of T) fun _ _ _ _ _ _ us hl => match us, hl with | [_], _ => rfl
theorem df_part_of (T : Txt w K mg) : FunD K "part_of" "part_of" (defArgs s_part_of) (defBody s_part_of) (defScope s_part_of) [] [] (f_part_of K) (fdAt K (f_part_of K)) := by
  obtain ⟨h, T⟩ := T
  exact funD_at (T.c.t.d.def_ 24 (d := d_part_of) rfl)
theorem bi_part_of (T : Txt w K mg) : Binds K (fdAt K (f_part_of K)) ["row"] [] := FunD.bindsN (df_part_of T) fun _ _ _ _ _ _ us hl => match us, hl with | [_], _ => rfl
theorem df_Reader_init (T : Txt w K mg) : FunD K "__init__" "Reader.__init__" (defArgs s_Reader_init) (defBody s_Reader_init) (defScope s_Reader_init) [] [] (f_Reader_init K) (fdAt K (f_Reader_init K)) := by
  obtain ⟨h, T⟩ := T
  exact funD_at (T.c.t.d.def_ 25 (d := d_Reader_init) rfl)
theorem bi_Reader_init (T : Txt w K mg) : Binds K (fdAt K (f_Reader_init K)) ["self"] [] := FunD.bindsN (df_Reader_init T) fun _ _ _ _ _ _ us hl => match us, hl with | [_], _ => rfl
theorem df_Reader_take (T : Txt w K mg) : FunD K "take" "Reader.take" (defArgs s_Reader_take) (defBody s_Reader_take) (defScope s_Reader_take) [] [] (f_Reader_take K) (fdAt K (f_Reader_take K)) := by
  obtain ⟨h, T⟩ := T
  exact funD_at (T.c.t.d.def_ 26 (d := d_Reader_take) rfl)
theorem bi_Reader_take (T : Txt w K mg) : Binds K (fdAt K (f_Reader_take K)) ["self", "part"] [] := FunD.bindsN (df_Reader_take T) fun _ _ _ _ _ _ us hl => match us, hl with | [_, _], _ => rfl
theorem df_read (T : Txt w K mg) : FunD K "read" "read" (defArgs s_read) (defBody s_read) (defScope s_read) [] [] (f_read K) (fdAt K (f_read K)) := by
  obtain ⟨h, T⟩ := T
  exact funD_at (T.c.t.d.def_ 27 (d := d_read) rfl)
theorem bi_read (T : Txt w K mg) : Binds K (fdAt K (f_read K)) ["text"] [] := FunD.bindsN (df_read T) fun _ _ _ _ _ _ us hl => match us, hl with | [_], _ => rfl
theorem df_law_cell_at (T : Txt w K mg) : FunD K "_law_cell_at" "_law_cell_at" (defArgs s_law_cell_at) (defBody s_law_cell_at) (defScope s_law_cell_at) [] [] (f_law_cell_at K) (fdAt K (f_law_cell_at K)) := by
  obtain ⟨h, T⟩ := T
  exact funD_at (T.c.t.d.def_ 28 (d := d_law_cell_at) rfl)
theorem bi_law_cell_at (T : Txt w K mg) : Binds K (fdAt K (f_law_cell_at K)) ["_law_script", "_law_k"] [] := FunD.bindsN (df_law_cell_at T) fun _ _ _ _ _ _ us hl => match us, hl with | [_, _], _ => rfl
theorem df_law_draw (T : Txt w K mg) : FunD K "_law_draw" "_law_draw" (defArgs s_law_draw) (defBody s_law_draw) (defScope s_law_draw) [] [] (f_law_draw K) (fdAt K (f_law_draw K)) := by
  obtain ⟨h, T⟩ := T
  exact funD_at (T.c.t.d.def_ 29 (d := d_law_draw) rfl)
theorem bi_law_draw (T : Txt w K mg) : Binds K (fdAt K (f_law_draw K)) ["_law_cell", "_law_k", "_law_most"] [] := FunD.bindsN (df_law_draw T) fun _ _ _ _ _ _ us hl => match us, hl with | [_, _, _], _ => rfl
theorem df_law_number (T : Txt w K mg) : FunD K "_law_number" "_law_number" (defArgs s_law_number) (defBody s_law_number) (defScope s_law_number) [] [] (f_law_number K) (fdAt K (f_law_number K)) := by
  obtain ⟨h, T⟩ := T
  exact funD_at (T.c.t.d.def_ 30 (d := d_law_number) rfl)
theorem bi_law_number (T : Txt w K mg) : Binds K (fdAt K (f_law_number K)) ["_law_cell", "_law_k", "_law_limit"] [] := FunD.bindsN (df_law_number T) fun _ _ _ _ _ _ us hl => match us, hl with | [_, _, _], _ => rfl
theorem df_law_row (T : Txt w K mg) : FunD K "_law_row" "_law_row" (defArgs s_law_row) (defBody s_law_row) (defScope s_law_row) [] [] (f_law_row K) (fdAt K (f_law_row K)) := by
  obtain ⟨h, T⟩ := T
  exact funD_at (T.c.t.d.def_ 31 (d := d_law_row) rfl)
theorem bi_law_row (T : Txt w K mg) : Binds K (fdAt K (f_law_row K)) ["_law_text"] [] := FunD.bindsN (df_law_row T) fun _ _ _ _ _ _ us hl => match us, hl with | [_], _ => rfl
theorem df_law_bad_lines (T : Txt w K mg) : FunD K "_law_bad_lines" "_law_bad_lines" (defArgs s_law_bad_lines) (defBody s_law_bad_lines) (defScope s_law_bad_lines) [] [] (f_law_bad_lines K) (fdAt K (f_law_bad_lines K)) := by
  obtain ⟨h, T⟩ := T
  exact funD_at (T.c.t.d.def_ 32 (d := d_law_bad_lines) rfl)
theorem bi_law_bad_lines (T : Txt w K mg) : Binds K (fdAt K (f_law_bad_lines K)) [] [] := FunD.bindsN (df_law_bad_lines T) fun _ _ _ _ _ _ us hl => match us, hl with | [], _ => rfl
theorem df_law_bad_others (T : Txt w K mg) : FunD K "_law_bad_others" "_law_bad_others" (defArgs s_law_bad_others) (defBody s_law_bad_others) (defScope s_law_bad_others) [] [] (f_law_bad_others K) (fdAt K (f_law_bad_others K)) := by
  obtain ⟨h, T⟩ := T
  exact funD_at (T.c.t.d.def_ 33 (d := d_law_bad_others) rfl)
theorem bi_law_bad_others (T : Txt w K mg) : Binds K (fdAt K (f_law_bad_others K)) [] [] := FunD.bindsN (df_law_bad_others T) fun _ _ _ _ _ _ us hl => match us, hl with | [], _ => rfl
theorem df_law (T : Txt w K mg) : FunD K "law" "law" (defArgs s_law) (defBody s_law) (defScope s_law) [] [] (f_law K) (fdAt K (f_law K)) := by
  obtain ⟨h, T⟩ := T
  exact funD_at (T.c.t.d.def_ 34 (d := d_law) rfl)
theorem bi_law (T : Txt w K mg) : Binds K (fdAt K (f_law K)) ["_law_script"] [] := FunD.bindsN (df_law T) fun _ _ _ _ _ _ us hl => match us, hl with | [_], _ => rfl
end
end KW
end
section
set_option Elab.async false
set_option linter.all false
set_option maxRecDepth 100000
set_option maxHeartbeats 1000000
/-! the head's facts of what the names reach, and of the statics -/
namespace KW
open PySem PySem.Spec PyProof.Rows L2 He
def asC (g : Addr → Option Obj) (n : Nat) : List Addr := asD g n ++ [cStatics]
def obsC (n : Nat) (fa : List Fa) (fn : List DefD) (ts : List Tab) (tf : List Defn) (ex : PySem.W.Frag → Bool) (g : Addr → Option Obj) : AlX := (obsT fa fn ts (frT g (asC g n)), ex (frT g (asC g n)) && tabsB g tf (frT g (asC g n)))
theorem saysC_of {as : List Addr} {fa : List Fa} {fn : List DefD} {ts : List Tab} {tf : List Defn} {ex : PySem.W.Frag → Bool} {w : World} {h : Heap} (e : ((obsT fa fn ts (frT h.get? as), ex (frT h.get? as) && tabsB h.get? tf (frT h.get? as)) : AlX) = valX fn ts w) : SaysX fa fn ts tf ex w h (frT h.get? as) := by
  have e1 : obsT fa fn ts (frT h.get? as) = valT fn ts w := congrArg (fun z : AlX => z.1) e
  have e2 : (ex (frT h.get? as) && tabsB h.get? tf (frT h.get? as)) = true := congrArg (fun z : AlX => z.2) e
  obtain ⟨h1, h2⟩ := ba e2
  generalize hK : frT h.get? as = K at *
  have key : ∀ p ∈ tf, PySem.W.codeHdIn K (cT K p).1 (cT K p).2 = true ∧ ∃ o, h.get? (cT K p).2 = some o ∧ emptyTab o = true := fun p hp => by
    obtain ⟨h3, h4⟩ := ba (List.all_eq_true.mp h2 p hp)
    refine ⟨h3, ?_⟩
    cases q : h.get? (cT K p).2 with
    | none =>
      rw [q] at h4
      cases h4
    | some o =>
      rw [q] at h4
      exact ⟨o, rfl, h4⟩
  refine ⟨e1, h1, fun p hp => (key p hp).1, fun p hp => ?_, fun p hp => ?_⟩
  · obtain ⟨_, o, q, z⟩ := key p hp
    rw [← hK] at q ⊢
    exact frT_none q z
  · obtain ⟨_, o, q, z⟩ := key p hp
    rw [q, emptyTab_eq z]
def hookC (n : Nat) (fa : List Fa) (fn : List DefD) (ts : List Tab) (tf : List Defn) (ex : PySem.W.Frag → Bool) : PySem.W.Hook where
  α := AlX
  obs := fun s => obsC n fa fn ts tf ex s.heap.get?
  val := fun w => valX fn ts w
  says := fun w h => ∃ K : PySem.W.Frag, K.In h ∧ SaysX fa fn ts tf ex w h K
  of := fun _ _ e => ⟨_, frT_in, saysC_of e⟩
  keeps := fun _ _ _ ⟨K, hK, c⟩ k => ⟨K, PySem.W.Frag.In.keeps hK k, ⟨c.t, c.more, c.hd, c.out, fun p hp => k _ _ (c.empty p hp)⟩⟩
theorem obsC_eq {n : Nat} {fa : List Fa} {fn : List DefD} {ts : List Tab} {tf : List Defn} {ex : PySem.W.Frag → Bool} {g : Addr → Option Obj} {s : Shared} (h : ∀ a, g a = s.heap.get? a) : obsC n fa fn ts tf ex g = (hookC n fa fn ts tf ex).obs s := by
  have e : g = s.heap.get? := funext h
  rw [e] <;> rfl
end KW
end
section
set_option Elab.async false
set_option linter.all false
set_option maxRecDepth 100000
set_option maxHeartbeats 0
namespace KW
open PySem PySem.Spec PyProof.Rows L2 He
abbrev R : PySem.W.OpenRow := PySem.W.OpenLaw.row PySem.Challenge.rw_knockwell_k05_rows_refused
abbrev hk : PySem.W.Hook := hookC 6 fa fn [] tf ex
def ob (s : PySem.W.SharedT) : AlX := obsC 6 fa fn [] tf ex (HandSHeadRun.getT s)
theorem ob_eq (s : PySem.W.SharedT) : ob s = hk.obs s.abs := obsC_eq (HandSHeadRun.getT_eq s)
def loose : List PySem.Str := (["KnockError", "BadPlan", "BadRows", "LETTERS", "MOST_STEPS", "MOST_RUN", "SPEAKING", "is_whole", "within", "is_name", "is_step", "are_steps", "spoken", "MOST_LINES", "MOST_OTHERS", "MOST_RANK", "MOST_LET", "WIDEST", "is_guard", "is_line", "is_bottom", "is_thread", "are_ones", "are_unlike_ranks", "all_there", "copied", "Plan", "LONGEST", "BETWEEN", "number_of"] : List PySem.Str) ++ (["step_of", "part_of", "Reader", "read", "_law_cell_at", "_law_draw", "_law_number", "_law_row", "_law_bad_lines", "_law_bad_others"] : List PySem.Str)
def lawAt : Nat := 45
theorem run (w : World) : HandSHeadRun.RunEq R (PySem.W.view R.prog [45]) hk ob 6000 loose w := by
  intro os
  kernel_rfl
end KW
end
section
set_option Elab.async false
set_option autoImplicit false
set_option linter.all false
set_option maxRecDepth 100000
set_option maxHeartbeats 4000000
/-! Rules over the hand layer that this program wants and that the layer lacks: a field as a target, an item of a list counted on, a starred target, max by a key, methods called by keywords. -/
namespace KR
open PySem PySem.Spec PyProof.Rows L2
section
variable {X : Cx} {o : Expr} {f : Str} {pos : Pos} {ta : TE}
def gFld (K : PySem.W.Frag) (ta : TE) (f : Str) : TG := fun v σ H Q => ta σ H fun x H1 => ∃ a C dx fs, x = .ref a ∧ H1 a = some (.ins C dx fs) ∧ Cls K C ∧ NoAttr K C f ∧ fs.length < 1000 ∧
  Q σ (upd H1 a (.ins C dx (putF f v fs)))
theorem pg_fld (ha : PE X o ta) : PG X (.Attribute o f pos) (gFld X.K ta f) := by
  refine ⟨fun pins s σ H v u Q I r h => ?_⟩
  rw [assign_Attribute]
  refine wpAny_bind (wpAny_holding (thn (ha.run pins s σ H _ I h) fun ov s1 ⟨x, H1, I1, rx, a, C, dx, fs, ex, ea, c, n, l, q⟩ => ?_))
  subst ex
  obtain rfl : ov = Value.ref a := rx
  refine wpAny_bind (wpAny_standAt (wpAny_bind (wpAny_holding (setattr_ok I1 ea c n l r fun s3 I3 => ?_))))
  exact wpAny_release ⟨σ, _, I3, q⟩
/-- xs[i] read by values, for xs[i] op= e -/
def gGetL (K : PySem.W.Frag) : V → V → Hp → VK → Prop := fun x y H Q => ∃ p xs i v, x = .ref p ∧ y = .int i ∧ SqL K H p xs ∧ atI xs i = some v ∧ Q v H
theorem get_list : PGet X (gGetL X.K) := by
  intro pins s σ H x y v u Q I rx ry h
  obtain ⟨p, xs, i, z, rfl, rfl, hq, he, q⟩ := h
  cases rx
  obtain ⟨t, rfl⟩ := ry
  obtain ⟨its, r, pl, hz⟩ := I.list hq
  obtain ⟨j, h1, h2, h3, h4, h5⟩ := atI_get he
  obtain ⟨w, ew, rw'⟩ := r.get h2
  have hl := r.length
  have hn := line63
  have fin : EP X pins σ Q w s := ⟨z, H, I, rw', q⟩
  by_cases h0 : 0 ≤ i
  · have hj : i.toNat = j := by
      rw [seqIndex_of h0 h5] at h1
      exact Option.some.inj h1
    exact wpAny_getItem_list pl.isList h0 (by omega) (by rw [hj]; simpa using ew) fin
  · have hj : (i + (its.toArray.size : Int)).toNat = j := by
      rw [seqIndex_neg (by omega) h4] at h1
      rw [List.size_toArray, ← hl]
      exact Option.some.inj h1
    exact wpAny_getItem_list_neg pl.isList (by omega) (by rw [List.size_toArray] <;> omega) (by omega) (by rw [hj]; simpa using ew) fin
end
section
variable {X : Cx} {pos : Pos} {pins : List (Addr × Obj)} {σ : L2.St} {H : Hp} {s : Shared}
/-- the frame and the ledger of the library's own rules, and the way back -/
theorem bridge (I : Inv X pins σ H s) : ∃ m, Fr X.base X.env.locals s.heap m ∧ News X.base X.env.locals s.heap (allNews X.base s.heap X.env.locals) ∧
    (∀ (h' : Heap) (tk : Nat), Fr X.base X.env.locals h' m → News X.base X.env.locals h' (allNews X.base s.heap X.env.locals) → Inv X pins σ H { s with heap := h', toks := tk }) := by
  obtain ⟨m, F⟩ := I.fr
  refine ⟨m, F, news_all, fun h' tk F' N' => ?_⟩
  have hk : ∀ b o, b ≠ X.env.locals → s.heap.get? b = some o → h'.get? b = some o := fun b o hb e => by
    cases q : X.base.get? b with
    | some u =>
      have e2 := I.bk b u q
      rw [e] at e2
      cases e2
      exact F'.keep b _ q
    | none => exact (N' (b, o) (mem_allNews hb q e)).1
  have eL := F'.ns
  refine I.step (g' := s.gens) (d' := s.drawn) (ch := []) (fun _ z => nomatch z) (fun b o hb _ _ e _ => hk b o hb e) (fun b o hb _ _ e _ => ⟨o.slots, hk b o hb e⟩) (fun _ _ _ _ n => n) (fun b o _ e => ?_) (fun _ _ e => e) (fun _ _ _ e => e)
    (fun b ps e => ⟨#[], by rw [e]; simp⟩) (fun m' hm => ?_) (fun b u e => ?_) I.bare
  · by_cases hb : b = X.env.locals
    · subst hb
      obtain ⟨o', _, _, ho', _⟩ := eL
      exact ⟨o', ho'⟩
    · exact ⟨o, hk b o hb e⟩
  · obtain ⟨o1, es1, ep1, a1, b1, c1, d1⟩ := hm
    obtain ⟨o2, es2, ep2, a2, b2, c2, d2⟩ := F.ns
    rw [a1] at a2
    cases a2
    rw [b1] at b2
    injection b2 with b3 _
    subst b3
    have em : m' = m := funext fun x => (d1 x).symm.trans (d2 x)
    rw [em]
    exact eL
  · refine (I.hok b u e).stay (fun c v hc q => hk c v ?_ q) (fun _ q => q) fun _ _ q => q
    rcases hc with z | z
    · rw [z]
      exact ne_of_none e I.free
    · exact ne_of_none z I.free
theorem ok_some {P : Program} {w : World} {H : Hp} {h : Heap} {a : Addr} : ∀ {o : HO}, ObjOk P w H h a o → ∃ ob, h.get? a = some ob
  | .lst _, ⟨_, _, _, _, e⟩ => ⟨_, e⟩
  | .tup _, ⟨_, _, _, ob, e, _⟩ => ⟨ob, e⟩
  | .dK _, ⟨_, _, _, _, ob, _, _, e, _⟩ => ⟨ob, e⟩
  | .dT _, ⟨_, _, _, _, ob, _, _, e, _⟩ => ⟨ob, e⟩
  | .set _ _, ⟨ob, _, _, _, e, _⟩ => ⟨ob, e⟩
  | .ins _ _ _, ⟨_, _, _, e, _⟩ => ⟨_, e⟩
  | .own _, ⟨ob, e⟩ => ⟨ob, e⟩
  | .xd _, ⟨_, ⟨ob, _, _, e, _⟩, _⟩ => ⟨ob, e⟩
  | .rng _ _, ⟨_, _, _, e⟩ => ⟨_, e⟩
  | .frz ob _, ⟨e, _⟩ => ⟨ob, e⟩
  | .tbl _, e => ⟨_, e⟩
  | .met _ _, e => ⟨_, e⟩
  | .ext _, ⟨_, ⟨ob, e⟩, _⟩ => ⟨ob, e⟩
theorem free_of (I : Inv X pins σ H s) {D : Addr} (hD : s.heap.get? D = none) : H D = none := by
  cases e : H D with
  | none => rfl
  | some o =>
    obtain ⟨ob, q⟩ := ok_some (I.hok D o e)
    rw [hD] at q
    cases q
/-- a new object that stands already is tracked from here on -/
theorem adopt {h' : Heap} {tk : Nat} {D : Addr} {u : HO} (I : Inv X pins σ H s) (I1 : Inv X pins σ H { s with heap := h', toks := tk }) (hD : s.heap.get? D = none) (ok : ObjOk X.prog X.w (upd H D u) h' D u) :
    Inv X pins σ (upd H D u) { s with heap := h', toks := tk } := by
  have hn : H D = none := free_of I hD
  have ne : ∀ b o, H b = some o → b ≠ D := fun b o e => ne_of_none e hn
  have lt : ∀ b o, s.heap.get? b = some o → b ≠ D := fun b o e z => by rw [z, hD] at e; cases e
  have up : ∀ b, b ≠ D → upd H D u b = H b := fun b e => upd_ne e
  refine ⟨I1.ok, I1.os, I1.bare, ⟨I1.base.keep, I1.base.slot, fun b o e n hx => ?_, I1.base.there, fun b xs e => ?_, fun b o x e => ?_, fun b ps e => ?_⟩, I1.loc, I1.cell, ?_, fun x c e => ?_, fun p hp => ?_, fun b o e => ?_, I1.len⟩
  · obtain ⟨o', e'⟩ := I.base.there b o e hx
    rw [up b (lt b o' e')]
    exact I1.base.free b o e n hx
  · have z := I1.base.tups b xs e
    rw [up b (ne b _ z)]; exact z
  · have z := I1.base.frzs b o x e
    rw [up b (ne b _ z)]; exact z
  · obtain ⟨more, z⟩ := I1.base.tbls b ps e
    exact ⟨more, by rw [up b (ne b _ z)]; exact z⟩
  · obtain ⟨_, ⟨ol, _, _, hol, _⟩, _⟩ := I.loc
    rw [up _ (lt _ ol hol)]; exact I1.free
  · obtain ⟨v, oc, ho, _⟩ := I.cell x c e
    rw [up _ (lt c oc ho)]; exact I1.freeC x c e
  · obtain ⟨a1, a2, a3, a4, a5⟩ := I1.pin p hp
    have b1 := (I.pin p hp).1
    exact ⟨a1, by rw [up _ (lt _ _ b1)]; exact a2, a3, a4, a5⟩
  · by_cases hb : b = D
    · subst hb
      rw [upd_same] at e
      cases e
      exact ok
    · rw [up b hb] at e
      exact (I1.hok b o e).stay (fun c v _ q => q) (fun c q => by rw [up c (ne c _ q)]; exact q) fun c xs q => by rw [up c (ne c _ q)]; exact q
/-- a, *b = xs (a list or a tuple): the first item, a new list of the rest -/
def gStar (K : PySem.W.Frag) (t : TGs) : TG := fun v σ H Q => ∃ a x xs, v = .ref a ∧ (SqT K H a (x :: xs) ∨ SqL K H a (x :: xs)) ∧ xs.length < 16384 ∧ ∀ p, H p = none → t [x, .ref p] σ (upd H p (.lst xs)) Q
theorem vals_cons {x : V} {xs : List V} {us : List Value} (h : Vals (x :: xs) us) : ∃ u r, us = u :: r ∧ RelV x u ∧ Vals xs r := by
  cases h with
  | cons a b => exact ⟨_, _, rfl, a, b⟩
theorem pgs_starred {e : Expr} {es : List Expr} {p : Pos} {t : TG} {u : TGs} (h1 : PG X e t) (h2 : PGs X es u)
    (hs : (assignEach (.Starred e p :: es) X.env).map (·.2) = assign e X.env :: (assignEach es X.env).map (·.2) := by rfl) : PGs X (.Starred e p :: es) (gCons t u) := by
  refine ⟨fun pins s σ H vs us Q I r h => ?_⟩
  obtain ⟨v, vr, e1, h⟩ := h
  subst e1
  cases r with
  | cons r rr =>
    rw [hs]
    exact assignInOrder_cons (thn (h1.run pins s σ H _ _ _ I r h) fun _ s1 ⟨σ1, H1, I1, q1⟩ => h2.run pins s1 σ1 H1 _ _ Q I1 rr q1)
theorem pg_star {es : List Expr} {k : Nat} {t : TGs} (hc : X.calm = true) (h : PGs X es t)
    (hn : (assignEach es X.env).length = 2 := by rfl) (hst : (assignEach es X.env).findIdx? (·.1) = some 1 := by rfl) : PG X (.Tuple es k pos) (gStar X.K t) := by
  refine ⟨fun pins s σ H v u Q I r hw => ?_⟩
  obtain ⟨a, x, xs, e1, hq, hl, hw⟩ := hw
  subst e1
  cases r
  obtain ⟨m, F, N, back⟩ := bridge I
  have fin : ∀ (u0 : Value) (r0 : List Value), RelV x u0 → Vals xs r0 → ∀ D h' tk, Fr X.base X.env.locals h' m → News X.base X.env.locals h' ((D, PySem.W.listOf r0.toArray 0) :: allNews X.base s.heap X.env.locals) → s.heap.get? D = none →
      wpAny (model X.prog X.w) X.A (assignInOrder ((assignEach es X.env).map (·.2)) ([u0] ++ [.ref D] ++ [])) (fun _ s' => ∃ σ' H', Inv X pins σ' H' s' ∧ Q σ' H') X.xe { s with heap := h', toks := tk } := by
    intro u0 r0 ru rr D h' tk F' N' hD
    have I1 := back h' tk F' fun p hp => N' p (List.mem_cons_of_mem _ hp)
    have gD : h'.get? D = some (PySem.W.listOf r0.toArray 0) := (N' _ (List.mem_cons_self ..)).1
    have I2 : Inv X pins σ (upd H D (.lst xs)) { s with heap := h', toks := tk } := adopt I I1 hD ⟨by rw [sizeLine_eq]; omega, r0, 0, rr, gD⟩
    exact h.run pins _ σ _ [x, .ref D] _ Q I2 (.cons ru (.cons rfl .nil)) (hw _ (free_of I hD))
  have new : ∀ D : Addr, (∀ p ∈ allNews X.base s.heap X.env.locals, p.1 < D) → D ≠ X.env.locals → X.base.get? D = none → s.heap.get? D = none := fun D h1 h2 h3 => by
    cases e : s.heap.get? D with
    | none => rfl
    | some o => exact absurd (h1 _ (mem_allNews h2 h3 e)) (Nat.lt_irrefl _)
  rcases hq with hq | hq
  · obtain ⟨its, rv, ht, hz⟩ := I.tuple hq
    obtain ⟨u0, r0, rfl, ru, rr⟩ := vals_cons rv
    have lr := rr.length
    refine PySem.W.kun_assignT F N ht (I.ok.hd hc) hn hst (by decide) (by simp) (by simp; omega) (first := [u0]) (mids := r0) (lasts := []) (by simp) (by simp) (by simp) fun D h' tk F' N' l1 => ?_
    exact fin u0 r0 ru rr D h' tk F' N' (new D l1 (N' _ (List.mem_cons_self ..)).2.1 (N' _ (List.mem_cons_self ..)).2.2)
  · obtain ⟨its, rv, ht, hz⟩ := I.list hq
    obtain ⟨u0, r0, rfl, ru, rr⟩ := vals_cons rv
    have lr := rr.length
    refine PySem.W.kun_assignL F N ht.isList (I.ok.hd hc) hn hst (by decide) (by simp) (by simp; omega) (first := [u0]) (mids := r0) (lasts := []) (by simp) (by simp) (by simp) fun D h' tk F' N' l1 => ?_
    exact fin u0 r0 ru rr D h' tk F' N' (new D l1 (N' _ (List.mem_cons_self ..)).2.1 (N' _ (List.mem_cons_self ..)).2.2)
end
section
variable {X : Cx} {pins : List (Addr × Obj)} {σ : L2.St} {H : Hp}
/-- a key's call on one item -/
theorem key_call {s : Shared} {n : Nat} {q : Addr} {fd : FuncData} {pn : Str} {sp : Sp} {v : V} {u : Value} {k : Int} (F : FnOk X.prog X.w X.K X.mg X.base CX0 n q fd [pn] sp) (hr : Room (n + 1) X.A) (hb : Binds X.K fd [pn] [])
    (I : Inv X pins σ H s) (r : RelV v u) (h : sp [v] H (fun z H' => z = .int k ∧ H' = H) (fun _ _ _ => False)) :
    wpAny (model X.prog X.w) X.A.in1 (call (.ref q) [u]) (fun z s' => ∃ t, z = .int k t ∧ Inv X pins σ H s') (fun _ _ => False) s := by
  refine wpAny_call (codeAny_mono (F.run X.A.in1 X.stack s H ⟨[u], []⟩ [u] [v] (fun z H' => z = .int k ∧ H' = H) (fun _ _ _ => False) hr.in1 I.env0.in1 (hb s [u] I.kIn rfl) (.cons r .nil) h) fun z s' hq => ?_)
  cases z with
  | error e => exact (show False from hq).elim
  | ok fl =>
    cases fl with
    | ret w =>
      obtain ⟨v', H', I', rw', rfl, rfl⟩ := I.after hq
      obtain ⟨t, rfl⟩ := rw'
      exact ⟨t, rfl, I'⟩
    | next => exact False.elim hq
    | brk => exact False.elim hq
    | cont => exact False.elim hq
theorem max_loopI {n : Nat} {q l it S : Addr} {fd : FuncData} {pn : Str} {sp : Sp} {xs : List V} (k : Nat → Int) {R : Result → Shared → Prop} (F : FnOk X.prog X.w X.K X.mg X.base CX0 n q fd [pn] sp) (hr : Room (n + 1) X.A) (hb : Binds X.K fd [pn] [])
    (hc : X.A.handled = none) (hs : SqL X.K H l xs) (hSI : S ≠ it) (fI : FpOk X pins H it) (fS : FpOk X pins H S)
    (hk : ∀ (i : Nat) (v : V), xs[i]? = some v → sp [v] H (fun z H' => z = .int (k i) ∧ H' = H) (fun _ _ _ => False))
    (hR : ∀ (i : Nat) (v : V) (u : Value) (s' : Shared), xs[i]? = some v → RelV v u → (∀ j, j < xs.length → k i ≥ k j ∧ (j < i → k i > k j)) → Inv X pins σ H s' → R (.ok (.ret u)) s') :
    ∀ (r j i : Nat) (s : Shared) (vb : V) (ub : Value) (tb : Tok) (c : Nat), xs.length - (j + 1) = r → j + 1 ≤ xs.length → Inv X pins σ H s →
      s.heap.get? S = some (seqObj "list" #[ub, .int (k i) tb] c) → s.heap.IsListIter it l (j + 1) → xs[i]? = some vb → RelV vb ub → i ≤ j → (∀ j', j' ≤ j → k i ≥ k j' ∧ (j' < i → k i > k j')) →
      codeAny (model X.prog X.w) X.A (.builtin "max.loop" ⟨[.ref it, .ref q, .ref S], []⟩) R s := by
  have hname : (toString "max" ++ toString ".loop" : String) = "max.loop" := by decide
  intro r
  induction r with
  | zero =>
    intro j i s vb ub tb c hrj hj I gS hit hvb rvb hij hbest
    have hin : j + 1 = xs.length := by omega
    obtain ⟨its, rv, p, hz⟩ := I.list hs
    have hl := rv.length
    obtain ⟨f0, f1, f2, f3, f4, f5⟩ := fI
    obtain ⟨g0, g1, g2, g3, g4, g5⟩ := fS
    refine codeAny_builtin PySem.F.entry_max_loop ?_
    rw [Around.under_plainId PySem.F.plain_max_loop _]
    show wpAny _ X.A.in1 (seqItems? (.ref S) >>= _) _ _ _
    refine wpAny_bind (wpAny_seqItems gS rfl ?_)
    show wpAny _ X.A.in1 (tryCatch (pyNext (.ref it)) _ >>= _) _ _ _
    refine wpAny_bind (wpAny_tryCatch (wpAny_pyNext_list_end (A := X.A.in1) hc hit p.isList (by simp; omega) fun h' eb => ?_))
    have I1 : Inv X pins σ H { s with heap := h' } := I.turned (t' := s.toks) (fun b o hb e => eb b o hb e) f0 f1 f3 f4 f5
    have hS' := eb S _ hSI gS
    show wpAny _ X.A.in1 (updateSeq S (fun _ => #[]) >>= _) _ _ _
    refine wpAny_bind ?_
    refine wpAny_updateSeq hS' rfl (wpAny_bind (wpAny_letGo (wpAny_pure ?_)))
    have s1 := Heap.SameBut.update h' S (Obj.mapSeq fun _ => (#[] : Array Value))
    exact hR i vb ub _ hvb rvb (fun j' hj' => hbest j' (by omega)) (I1.turned (t' := s.toks) (fun b o hb e => (s1.2 b hb).trans e) g0 g1 g3 g4 g5)
  | succ r ih =>
    intro j i s vb ub tb c hrj hj I gS hit hvb rvb hij hbest
    have hlt : j + 1 < xs.length := by omega
    obtain ⟨its, rv, p, hz⟩ := I.list hs
    obtain ⟨f0, f1, f2, f3, f4, f5⟩ := id fI
    obtain ⟨g0, g1, g2, g3, g4, g5⟩ := id fS
    have hx : xs[j + 1]? = some xs[j + 1] := List.getElem?_eq_getElem hlt
    obtain ⟨u, hu, ru⟩ := rv.get hx
    refine codeAny_builtin PySem.F.entry_max_loop ?_
    rw [Around.under_plainId PySem.F.plain_max_loop _]
    show wpAny _ X.A.in1 (seqItems? (.ref S) >>= _) _ _ _
    refine wpAny_bind (wpAny_seqItems gS rfl ?_)
    show wpAny _ X.A.in1 (tryCatch (pyNext (.ref it)) _ >>= _) _ _ _
    refine wpAny_bind (wpAny_tryCatch (wpAny_pyNext_list_item (A := X.A.in1) hit p.isList (x := u) (by simpa using hu) fun h' st' sb => ?_))
    have I1 : Inv X pins σ H { s with heap := h' } := I.turned (t' := s.toks) (fun b o hb e => (sb.2 b hb).trans e) f0 f1 f3 f4 f5
    have gS1 : h'.get? S = some (seqObj "list" #[ub, .int (k i) tb] c) := (sb.2 S hSI).trans gS
    obtain ⟨oI, gI1, hoc, hod⟩ := id st'
    have I1p := I1.pinned (fp := [it, S]) (fun b hb => by
      rcases List.mem_cons.mp hb with rfl | hb
      · exact fI
      · rw [List.mem_singleton.mp hb]; exact fS) (fun b hb => by
      rcases List.mem_cons.mp hb with rfl | hb
      · exact ⟨oI, gI1, fun v z => by rw [hod] at z; cases z⟩
      · rw [List.mem_singleton.mp hb]; exact ⟨_, gS1, fun v z => by cases z⟩)
    show wpAny _ X.A.in1 (tryCatch (holding [u] (call (.ref q) [u])) _ >>= _) _ _ _
    refine wpAny_bind (wpAny_tryCatch (wpAny_holding (wpAny_mono (key_call F hr hb I1p ru (hk (j + 1) _ hx)) (fun x s2 he => ?_) fun _ _ hF => hF.elim)))
    obtain ⟨t2, rfl, I2p⟩ := he
    have I2 : Inv X pins σ H s2 := I2p.unpinned
    have gS2 : s2.heap.get? S = some (seqObj "list" #[ub, .int (k i) tb] c) := (I2p.pin _ (List.mem_append_right _ (List.mem_append_right _ (mem_pinsAt (b := S) (by simp) gS1)))).1
    have gI2 : s2.heap.get? it = some oI := (I2p.pin _ (List.mem_append_right _ (List.mem_append_right _ (mem_pinsAt (b := it) (by simp) gI1)))).1
    show wpAny _ X.A.in1 (tryCatch (holding [u, .int (k (j + 1)) t2] (richCompare .Gt (.int (k (j + 1)) t2) (.int (k i) tb) >>= _)) _ >>= _) _ _ _
    refine wpAny_bind (wpAny_tryCatch (wpAny_holding (wpAny_bind (CmpOf.ints_gt (prog := X.prog) (w := X.w) (A := X.A.in1) (P := fun i v => ∃ t, v = .int (k i) t) k (fun i v h => h) (j + 1) i _ _ _ _ _ ⟨t2, rfl⟩ ⟨tb, rfl⟩ ?_))))
    refine wpAny_bind (wpAny_holding (wpAny_truthy_bool ?_))
    refine wpAny_bind (wpAny_letGo (wpAny_pure ?_))
    by_cases hb' : k (j + 1) > k i
    · have s1 := Heap.SameBut.update s2.heap S (Obj.mapSeq fun _ => #[u, .int (k (j + 1)) t2])
      obtain ⟨c2, hc2⟩ : ∃ c2, (s2.heap.update S (Obj.mapSeq fun _ => #[u, .int (k (j + 1)) t2])).get? S = some (seqObj "list" #[u, .int (k (j + 1)) t2] c2) := ⟨_, get?_update_seq gS2 fun _ => #[u, .int (k (j + 1)) t2]⟩
      simp only [hb', decide_true, if_true]
      refine wpAny_bind ?_
      refine wpAny_updateSeq gS2 rfl (wpAny_bind (wpAny_letGo ?_))
      rw [hname]
      refine wpAny_pure ⟨plainId_quiet PySem.F.plain_max_loop _, ih (j + 1) (j + 1) _ xs[j + 1] u t2 c2 (by omega) hlt (I2.turned (t' := s2.toks) (fun b o hb e => (s1.2 b hb).trans e) g0 g1 g3 g4 g5) hc2 ⟨oI, (s1.2 it hSI.symm).trans gI2, hoc, hod⟩ hx ru (Nat.le_refl _) fun j' hj' => ?_⟩
      by_cases e : j' = j + 1
      · subst e
        exact ⟨by omega, fun _ => by omega⟩
      · have hb1 := hbest j' (by omega)
        have hb2 := hb1.1
        exact ⟨by omega, fun _ => by omega⟩
    · simp only [hb', decide_false, Bool.false_eq_true, if_false]
      refine wpAny_bind (wpAny_letGo ?_)
      rw [hname]
      refine wpAny_pure ⟨plainId_quiet PySem.F.plain_max_loop _, ih (j + 1) i s2 vb ub tb c (by omega) hlt I2 gS2 ⟨oI, gI2, hoc, hod⟩ hvb rvb (by omega) fun j' hj' => ?_⟩
      by_cases e : j' = j + 1
      · subst e
        exact ⟨by omega, fun _ => by omega⟩
      · exact hbest j' (by omega)
/-- max(xs, key=f): the first of the items whose key is greatest -/
def rMaxKey (K : PySem.W.Frag) (q : Addr) (sp : Sp) : List V → List V → Hp → VK → Prop := fun vs zs H Q => ∃ (a : Addr) (xs : List V) (k : Nat → Int), vs = [.ref a] ∧ zs = [.ref q] ∧ SqL K H a xs ∧ 0 < xs.length ∧
  (∀ (i : Nat) (v : V), xs[i]? = some v → sp [v] H (fun z H' => z = .int (k i) ∧ H' = H) (fun _ _ _ => False)) ∧
  ∀ (i : Nat) (v : V), xs[i]? = some v → (∀ j, j < xs.length → k i ≥ k j ∧ (j < i → k i > k j)) → Q v H
theorem cr_maxKey {n : Nat} {q : Addr} {fd : FuncData} {pn : Str} {sp : Sp} (hcm : X.calm = true) (F : FnOk X.prog X.w X.K X.mg X.base CX0 n q fd [pn] sp) (hr : Room (n + 1) X.A) (hb : Binds X.K fd [pn] []) :
    CallRK X (.builtin "max") [Str.ofString "key"] (rMaxKey X.K q sp) := by
  intro pins s σ H vs zs us ws Q I r rz h
  obtain ⟨a, xs, k, rfl, rfl, hs, hne, hk, hQ⟩ := h
  obtain rfl := Vals.ref1 r
  obtain ⟨w1, rfl, e1⟩ := vals1 rz
  obtain rfl : w1 = Value.ref q := e1
  have hname : (toString "max" ++ toString ".loop" : String) = "max.loop" := by decide
  have hh : X.A.handled = none := I.ok.hd hcm
  obtain ⟨its, rv, p, hz⟩ := I.list hs
  have hll : a < s.heap.objs.size := let ⟨_, _, e, _⟩ := p; Heap.lt_size e
  have hx : xs[0]? = some xs[0] := List.getElem?_eq_getElem hne
  obtain ⟨u, hu, ru⟩ := rv.get hx
  show wpAny _ X.A (call (.builtin "max") [.ref a] [(Str.ofString "key", .ref q)]) _ _ _
  refine kmk_tree PySem.F.kind_max PySem.F.plain_max PySem.F.entry_max (kmk_max_key _ _) ?_
  show wpAny _ X.A.in1 (Builtin.Builtins.bindParams "max" ["key", "default"] 0 ⟨[], [(Str.ofString "key", .ref q)]⟩ >>= _) _ _ s
  refine wpAny_bind (wpAny_of_eq (show Builtin.Builtins.bindParams "max" ["key", "default"] 0 ⟨[], [(Str.ofString "key", .ref q)]⟩ = pure [some (.ref q), none] from rfl) ?_)
  refine wpAny_bind (wpAny_pure ?_)
  refine wpAny_bind (wpAny_pyIter_list p.isList ?_)
  refine wpAny_bind (wpAny_newList ?_ (Nat.zero_le _))
  rw [hname]
  refine wpAny_pure ⟨plainId_quiet PySem.F.plain_max_loop _, ?_⟩
  have hS : (s.heap.push { cls := .type "list_iterator", data := .fields #[.ref a, .int 0 0] }).objs.size = s.heap.objs.size + 1 := size_push' ..
  have hSI : (s.heap.push { cls := .type "list_iterator", data := .fields #[.ref a, .int 0 0] }).objs.size ≠ s.heap.objs.size := by rw [hS]; exact Nat.ne_of_gt (Nat.lt_succ_self _)
  have I0 : Inv X pins σ H { s with heap := (s.heap.push { cls := .type "list_iterator", data := .fields #[.ref a, .int 0 0] }).push (seqObj "list" #[] 0) } :=
    I.kept (t' := s.toks) fun b o e => Heap.get?_push_of_some _ (Heap.get?_push_of_some _ e)
  have fI : FpOk X pins H s.heap.objs.size := I.fpOk (Nat.le_refl _) (I.hok.fresh (Nat.le_refl _))
  have fS : FpOk X pins H (s.heap.push { cls := .type "list_iterator", data := .fields #[.ref a, .int 0 0] }).objs.size := I.fpOk (by rw [hS]; exact Nat.le_succ _) (I.hok.fresh (by rw [hS]; exact Nat.le_succ _))
  have gI : ((s.heap.push { cls := .type "list_iterator", data := .fields #[.ref a, .int 0 0] }).push (seqObj "list" #[] 0)).get? s.heap.objs.size = some { cls := .type "list_iterator", data := .fields #[.ref a, .int 0 0] } :=
    Heap.get?_push_of_some _ (Heap.get?_push_size _ rfl)
  have gS : ((s.heap.push { cls := .type "list_iterator", data := .fields #[.ref a, .int 0 0] }).push (seqObj "list" #[] 0)).get? (s.heap.push { cls := .type "list_iterator", data := .fields #[.ref a, .int 0 0] }).objs.size = some (seqObj "list" #[] 0) := Heap.get?_push_size _ rfl
  generalize (s.heap.push { cls := .type "list_iterator", data := .fields #[.ref a, .int 0 0] }).objs.size = S at *
  generalize s.heap.objs.size = it at *
  obtain ⟨f0, f1, f2, f3, f4, f5⟩ := id fI
  obtain ⟨g0, g1, g2, g3, g4, g5⟩ := id fS
  obtain ⟨its', rv', p', hz'⟩ := I0.list hs
  obtain ⟨u', hu', ru'⟩ := rv'.get hx
  refine codeAny_builtin PySem.F.entry_max_loop ?_
  rw [Around.under_plainId PySem.F.plain_max_loop _]
  show wpAny _ X.A.in1 (seqItems? (.ref _) >>= _) _ _ _
  refine wpAny_bind (wpAny_seqItems gS rfl ?_)
  show wpAny _ X.A.in1 (tryCatch (pyNext (.ref it)) _ >>= _) _ _ _
  refine wpAny_bind (wpAny_tryCatch (wpAny_pyNext_list_item (A := X.A.in1) (i := 0) ⟨_, gI, rfl, rfl⟩ p'.isList (x := u') (by simpa using hu') fun h' st' sb => ?_))
  have I1 := I0.turned (h' := h') (t' := s.toks) (fun b o hb e => (sb.2 b hb).trans e) f0 f1 f3 f4 f5
  have gS1 : h'.get? S = some (seqObj "list" #[] 0) := (sb.2 S hSI).trans gS
  obtain ⟨oI, gI1, hoc, hod⟩ := id st'
  have I1p := I1.pinned (fp := [it, S]) (fun b hb => by
    rcases List.mem_cons.mp hb with rfl | hb
    · exact fI
    · rw [List.mem_singleton.mp hb]; exact fS) (fun b hb => by
    rcases List.mem_cons.mp hb with rfl | hb
    · exact ⟨oI, gI1, fun v z => by rw [hod] at z; cases z⟩
    · rw [List.mem_singleton.mp hb]; exact ⟨_, gS1, fun v z => by cases z⟩)
  show wpAny _ X.A.in1 (tryCatch (holding [u'] (call (.ref q) [u'])) _ >>= _) _ _ _
  refine wpAny_bind (wpAny_tryCatch (wpAny_holding (wpAny_mono (key_call F hr hb I1p ru' (hk 0 _ hx)) (fun x s2 he => ?_) fun _ _ hF => hF.elim)))
  obtain ⟨t2, rfl, I2p⟩ := he
  have I2 : Inv X pins σ H s2 := I2p.unpinned
  have gS2 : s2.heap.get? S = some (seqObj "list" #[] 0) := (I2p.pin _ (List.mem_append_right _ (List.mem_append_right _ (mem_pinsAt (b := S) (by simp) gS1)))).1
  have gI2 : s2.heap.get? it = some oI := (I2p.pin _ (List.mem_append_right _ (List.mem_append_right _ (mem_pinsAt (b := it) (by simp) gI1)))).1
  have s1 := Heap.SameBut.update s2.heap S (Obj.mapSeq fun _ => #[u', .int (k 0) t2])
  obtain ⟨c2, hc2⟩ : ∃ c2, (s2.heap.update S (Obj.mapSeq fun _ => #[u', .int (k 0) t2])).get? S = some (seqObj "list" #[u', .int (k 0) t2] c2) := ⟨_, get?_update_seq gS2 fun _ => #[u', .int (k 0) t2]⟩
  show wpAny _ X.A.in1 (updateSeq S (fun _ => #[u', .int (k 0) t2]) >>= _) _ _ _
  refine wpAny_bind ?_
  refine wpAny_updateSeq gS2 rfl ?_
  rw [hname]
  refine wpAny_pure ⟨plainId_quiet PySem.F.plain_max_loop _, max_loopI k F hr hb hh hs hSI fI fS hk (fun i v u s' h1 h2 h3 I' => ⟨v, H, I', h2, hQ i v h1 h3⟩) _ 0 0 _ xs[0] u' t2 c2 rfl hne (I2.turned (t' := s2.toks) (fun b o hb e => (s1.2 b hb).trans e) g0 g1 g3 g4 g5) hc2 ⟨oI, (s1.2 it hSI.symm).trans gI2, hoc, hod⟩ hx ru' (Nat.le_refl _) fun j' hj' => ?_⟩
  have e : j' = 0 := by omega
  subst e
  exact ⟨by omega, fun h => absurd h (Nat.lt_irrefl _)⟩
end
section
variable {X : Cx}
/-- {elt for target in iter if ..}, elt an int or a text: D the new set -/
def tScK (P : Program) (w : World) (wi : TI) (g : TG) (tt : TT) (te : TE) (vs : List Nat) : TE := fun σ H Q => wi σ H fun J H1 => ∀ D, H1 D = none → ∃ W : Nat → Nat → Hp → Prop, (∃ m, W 0 m (upd H1 D (SetK P w D (fun _ => false) 0))) ∧ ∀ i m H, W i m H →
  (J.stop i H ∧ Q (.ref D) H) ∨ (J.go i H ∧ ∃ Nx : Hp → Prop, (∀ H', Nx H' → ∃ m', m' < m ∧ W (i + 1) m' H') ∧ ∀ x H', J.yld i H x H' → g x (wipe σ vs) H' fun σ2 H2 => wipe σ2 vs = wipe σ vs ∧ tt σ2 H2 fun b H3 =>
    if b = true then te σ2 H3 fun y H4 => rSAddK P w (.ref D) [y] H4 fun _ H5 => Nx H5 else Nx H3)
theorem pe_scK {elt tg iter : Expr} {ifs : List Expr} {scope : Scope} {own : List (PySem.Str × Nat)} {pos : Pos} {wi : TI} {g : TG} {tt : TT} {te : TE} (hc : X.calm = true) (hN : X.N.Nodup) (hi : PI X tg iter wi) (ok : BlkOk X.N X.env.scope scope own)
    (hg : ∀ (s : Shared) (H : Hp) (C : Addr) (cl : List (PySem.Str × Addr)) (fp : List Addr), PG (X.blk s H scope (compEnvC scope cl C X.env) fp) tg g) (ht : ∀ (s : Shared) (H : Hp) (C : Addr) (cl : List (PySem.Str × Addr)) (fp : List Addr), PTs (X.blk s H scope (compEnvC scope cl C X.env) fp) ifs tt)
    (he : ∀ (s : Shared) (H : Hp) (C : Addr) (cl : List (PySem.Str × Addr)) (fp : List Addr), PE (X.blk s H scope (compEnvC scope cl C X.env) fp) elt te) (hs : ∀ x, foldedSetIterable iter X.env x = pure x := by intro _; rfl) :
    PE X (.SetComp elt [⟨tg, iter, ifs, 0⟩] scope pos) (tScK X.prog X.w wi g tt te (own.map (·.2))) := by
  refine ⟨fun pins s σ H Q I h => ?_⟩
  rw [PpSet.eval_SetComp]
  have cells : ∀ y ∈ scope.names, y.2 = .free → ∃ c, X.env.cells.lookup y.1 = some c := fun y hy e => by
    rcases ok.free y hy e with k | k
    · exact I.ok.has _ (.inl k)
    · exact I.ok.has _ (.inr k)
  refine wpAny_comprehension_free (use := none) rfl hs (closure_ok cells) ok.kind (fun y hy e => by rw [ok.uniq y hy, e]) (thn (hi.run pins s σ H _ I h) fun xv s1 hx => thn hx fun itv s2 h2 => ?_)
  obtain ⟨it, fp, tn, J, H2, e, I2, T, st2, f2, q⟩ := h2
  subst e
  refine PpSet.newSet_ok (newEnv_comp ?_)
  have hDn : H2 s2.heap.objs.size = none := I2.hok.fresh (Nat.le_refl _)
  obtain ⟨W, ⟨m0, w0⟩, turn⟩ := q _ hDn
  -- behind the set's making
  obtain ⟨s3, hs3⟩ : ∃ s3 : Shared, s3 = { s2 with heap := s2.heap.push { cls := .type "set", dict := none, data := .set #[] 0 (.fresh 0 0 (!X.w.params.followText "set-order")) } } := ⟨_, rfl⟩
  have h3 : s3.heap = s2.heap.push { cls := .type "set", dict := none, data := .set #[] 0 (.fresh 0 0 (!X.w.params.followText "set-order")) } := by rw [hs3]
  have new : s3.heap.SetOf (mixKind X.prog X.w) s2.heap.objs.size (fun _ => false) 0 := by
    rw [h3]
    exact ⟨_, #[], 0, _, Heap.get?_push_size _ rfl, ⟨rfl, rfl, rfl⟩, rfl, (fun e he => by simp at he), (fun k => by simp), (by decide), (by rfl), rfl⟩
  have I3 : Inv X pins σ (upd H2 s2.heap.objs.size (SetK X.prog X.w s2.heap.objs.size (fun _ => false) 0)) s3 := by
    have z := I2.laid (a := s2.heap.objs.size) (o := SetK X.prog X.w s2.heap.objs.size (fun _ => false) 0) (t' := s2.toks) (h' := s3.heap) (fun b o e => by rw [h3]; exact Heap.get?_push_of_some _ e) (Nat.le_refl _) (setK_new new)
    rw [hs3] at z ⊢
    exact z
  rw [← hs3]
  generalize hH3 : upd H2 s2.heap.objs.size (SetK X.prog X.w s2.heap.objs.size (fun _ => false) 0) = H3 at w0 I3
  have sz : ∀ b ∈ fp, b < s2.heap.objs.size := fun b hb => let ⟨_, e, _⟩ := T.obj _ _ st2 b hb; Heap.lt_size e
  have f3 : ∀ b ∈ fp, FpOk X pins H3 b ∧ b < s3.heap.objs.size := fun b hb => by
    refine ⟨⟨?_, (f2 b hb).2⟩, by rw [h3, Heap.size_push]; exact Nat.lt_succ_of_lt (sz b hb)⟩
    rw [← hH3, upd_ne (Nat.ne_of_lt (sz b hb))]
    exact (f2 b hb).1
  have st3 : tn 0 s3.heap := T.keep _ _ _ st2 fun b _ o e => by rw [h3]; exact Heap.get?_push_of_some _ e
  generalize s2.heap.objs.size = D at *
  have I4 := block_start I3 ok hN f3
  -- the block's own context
  obtain ⟨ce, hce⟩ : ∃ ce, ce = compEnvC scope (cellsFrom (s3.heap.objs.size + 1) scope.names (cloFrom X.env.cells scope.names [])) s3.heap.objs.size X.env := ⟨_, rfl⟩
  have pg := hg s3 H3 s3.heap.objs.size (cellsFrom (s3.heap.objs.size + 1) scope.names (cloFrom X.env.cells scope.names [])) fp
  have pt := ht s3 H3 s3.heap.objs.size (cellsFrom (s3.heap.objs.size + 1) scope.names (cloFrom X.env.cells scope.names [])) fp
  have pe := he s3 H3 s3.heap.objs.size (cellsFrom (s3.heap.objs.size + 1) scope.names (cloFrom X.env.cells scope.names [])) fp
  rw [← hce] at I4 pg pt pe
  have cL : ce.locals = s3.heap.objs.size := by rw [hce]; rfl
  obtain ⟨s4, hs4⟩ : ∃ s4 : Shared, s4 = { s3 with heap := pushCells (s3.heap.push { cls := .type "dict", data := .dict #[] }) scope.names } := ⟨_, rfl⟩
  rw [← hs4] at I4
  have st4 : tn 0 s4.heap := T.keep _ _ _ st3 fun b _ o e => by rw [hs4]; exact pushCells_keeps _ _ _ _ (Heap.get?_push_of_some _ e)
  have stat : ∀ {σ' : L2.St} {H' : Hp} {s' : Shared}, Inv (X.blk s3 H3 scope ce fp) [] σ' H' s' → (∀ b ∈ fp, H' b = none) → ∀ b ∈ fp, FpOk (X.blk s3 H3 scope ce fp) [] H' b := fun I' hn b hb =>
    ⟨hn b hb, (I'.ok.exf b hb).1, I'.ok.exfs b hb, .inl hb, fun x c e => (I'.ok.exf b hb).2 x c e, fun p hp => absurd (show p ∈ ([] : List (Addr × Obj)) ++ [] from hp) (by simp)⟩
  have post : ∀ s' m H', Inv X pins σ H' s' → Q (.ref D) H' → s'.heap.Ns s3.heap.objs.size m → FpOk X pins H' s3.heap.objs.size → compPost (model X.prog X.w) X.A X.xe none (EP X pins σ Q) (.ref D) s3.heap.objs.size (.ok .next) s' := fun s' m H' I' q hn f => by
    obtain ⟨f0, f1, f2, f3, f4, f5⟩ := f
    exact ⟨m, hn, fun h'' sb => ⟨.ref D, H', I'.turned (t' := s'.toks) (fun b o hb e => (sb.2 b hb).trans e) f0 f1 f3 f4 f5, rfl, q⟩⟩
  have loop : codeAny (model X.prog X.w) X.A (.compLoop (.SetComp elt [⟨tg, iter, ifs, 0⟩] scope pos) 0 (.ref it) (.ref D) ce) (compPost (model X.prog X.w) X.A X.xe none (EP X pins σ Q) (.ref D) s3.heap.objs.size) s4 := by
    refine PpSet.compLoopS_any (fun n s' => ∃ i H', Inv (X.blk s3 H3 scope ce fp) [] (wipe σ (own.map (·.2))) H' s' ∧ tn i s'.heap ∧ (∀ b ∈ fp, H' b = none) ∧ W i n H') ?_ m0 ⟨0, H3, I4, st4, fun b hb => (f3 b hb).1.1, w0⟩
    rintro n s5 ⟨i, H5, I5, st5, n5, w5⟩
    rcases turn i n H5 w5 with ⟨stop, qq⟩ | ⟨go, Nx, hNx, step⟩
    · refine thnF (T.done (X.blk s3 H3 scope ce fp) rfl rfl rfl hc i [] s5 _ H5 (fun _ _ => False) I5 (stat I5 n5) st5 stop) fun r s6 ⟨hr, I6⟩ => ?_
      subst hr
      have I7 : Inv X pins σ H5 s6 := I3.call' (ch := fp) I6.os I6.base I6.hok I6.bare fun b hb => ⟨(f3 b hb).1.2.2.2.1, (f3 b hb).1.2.1, (f3 b hb).1.2.2.2.2.1, (f3 b hb).1.2.2.2.2.2⟩
      have nC : H5 s3.heap.objs.size = none := cL ▸ (show H5 ce.locals = none from I6.free)
      obtain ⟨m, hn, _⟩ := I6.loc
      have hn : s6.heap.Ns s3.heap.objs.size m := cL ▸ (show s6.heap.Ns ce.locals m from hn)
      exact post s6 m H5 I7 qq hn (I3.fpOk (Nat.le_refl _) nC)
    · refine thnF (T.item (X.blk s3 H3 scope ce fp) rfl rfl rfl hc i [] s5 _ H5 (fun _ _ => False) I5 (stat I5 n5) st5 go) fun r s6 ⟨u, hr, h6⟩ => ?_
      subst hr
      refine thnF h6 fun _ s7 ⟨x, H7, I7, r7, y7, st7, n7⟩ => ?_
      refine thnF (pg.run _ s7 _ H7 x u _ (I7.pinned (stat I7 n7) (T.obj _ _ st7)) r7 (step x H7 y7)) fun _ s8 ⟨σ8, H8, I8, hw8, q8⟩ => ?_
      refine thnF (pt.run _ s8 σ8 H8 _ I8 q8) fun b s9 ⟨H9, I9, q9⟩ => ?_
      have fin : ∀ {s' : Shared} {H' : Hp}, Inv (X.blk s3 H3 scope ce fp) ([] ++ pinsAt fp s7.heap) σ8 H' s' → Nx H' → ∃ m, m < n ∧ ∃ i H', Inv (X.blk s3 H3 scope ce fp) [] (wipe σ (own.map (·.2))) H' s' ∧ tn i s'.heap ∧ (∀ b ∈ fp, H' b = none) ∧ W i m H' := fun {s' H'} I' nx => by
        obtain ⟨m', hm, w'⟩ := hNx H' nx
        have pin' : ∀ b ∈ fp, ∀ o, s7.heap.get? b = some o → s'.heap.get? b = some o ∧ H' b = none := fun b hb o e =>
          let z := I'.pin (b, o) (List.mem_append_right _ (List.mem_append_right _ (mem_pinsAt hb e)))
          ⟨z.1, z.2.1⟩
        have hl : (wipe σ (own.map (·.2))).length = σ8.length := by rw [← hw8, wipe_length]
        refine ⟨m', hm, i + 1, H', (I'.unpinned (pins := [])).weak hl (fun j v e => (wipe_some (by rw [← hw8] at e; exact e)).1), T.keep _ _ _ st7 fun b hb o e => (pin' b hb o e).1, fun b hb => ?_, w'⟩
        obtain ⟨o, e, _⟩ := T.obj _ _ st7 b hb
        exact (pin' b hb o e).2
      cases b with
      | false =>
        simp only [Bool.false_eq_true, if_false] at q9 ⊢
        exact fin I9 q9
      | true =>
        simp only [if_true] at q9 ⊢
        refine thnF (pe.run _ s9 σ8 H9 _ I9 q9) fun z s10 ⟨yv, H10, I10, r10, q10⟩ => ?_
        exact thn (mt_saddK (X := (X.blk s3 H3 scope ce fp).wish _) _ s10 σ8 H10 (.ref D) [yv] (.ref D) [z] _ (I10.wish _) rfl (.cons r10 .nil) q10) fun _ s11 ⟨_, H11, I11, _, nx⟩ => fin I11.unwish nx
  show codeAny _ _ (.compStart (.SetComp elt [⟨tg, iter, ifs, 0⟩] scope pos) 0 (.ref it) (.ref D) (compEnvC scope (cellsFrom (s3.heap.objs.size + 1) scope.names (cloFrom X.env.cells scope.names [])) s3.heap.objs.size X.env)) (compPost (model X.prog X.w) X.A X.xe none (EP X pins σ Q) (.ref D) s3.heap.objs.size) { s3 with heap := pushCells (s3.heap.push { cls := .type "dict", data := .dict #[] }) scope.names }
  rw [← hce, ← hs4]
  exact PpSet.codeAny_compStart_set loop (T.self X.A 0 _ _ _ st4 loop)
/-- len of such a set -/
theorem call_len_setK : CallR X (.builtin "len") (fun xs H Q => ∃ (a : Addr) (S : Key → Bool) (n : Nat), xs = [.ref a] ∧ H a = some (SetK X.prog X.w a S n) ∧ Q (.int n) H) := by
  intro pins s σ H xs us Q I rxs h
  obtain ⟨a, S, n, rfl, ha, q⟩ := h
  obtain rfl := Vals.ref1 rxs
  have R := setK_get I ha
  obtain ⟨o, es, ep, t, ho, hex, hd, _, _, hlt, hf, hn⟩ := R
  have hb : scanBound < 2 ^ 63 := by decide
  refine call_len_set ho hex hd hf (by omega) ⟨.int n, H, ?_, ⟨_, by rw [hn]⟩, q⟩
  exact I.tok _
end
/-! ### methods and defs called by keywords -/
section
variable {K : PySem.W.Frag} {x qual : Str} {params : Arguments} {body : List Stmt} {scope : Scope} {kws : List (Str × V)} {f : Addr} {fd : FuncData} {ps : List Str}
/-- f(e, .., k = v, ..) of a def whose only defaults are keyword-only ones: n positional values, keywords named ks, ms the ones that lack -/
theorem kbinds0 (F : FunD K x qual params body scope [] kws f fd) (n : Nat) (ks : List Str) (ms : List (Str × V)) (g : {α : Type} → List α → List α → List α → List α) (hk : kws ≠ []) (hms : ∀ q ∈ ms, q ∈ kws)
    (hrel : ∀ {vs mz zs : List V} {us mv ws : List Value}, Vals vs us → Vals mz mv → Vals zs ws → Vals (g vs mz zs) (g us mv ws))
    (h : ∀ (D : Addr) (doc pm : Value) (an : Option Addr) (cdv ct : Value) (us mv ws : List Value), us.length = n → mv.length = ms.length → ws.length = ks.length →
      KwChain D ((ms.map (·.1)).zip mv) (bindArgs (PySem.W.fnOf x qual params body scope .none (.ref D) doc pm an cdv ct) ⟨us, ks.zip ws⟩) (ps.zip (g us mv ws))) :
    ∃ mv : List Value, KBn K fd ps n ks (fun us ws => g us mv ws) (fun vs zs => g vs (ms.map (·.2)) zs) := by
  obtain ⟨oc, od, dV, kV, doc, pm, an, cdv, ct, osl, rfl, lk, hcd, hD, hK⟩ := F.ex
  rcases hD with ⟨_, rfl⟩ | ⟨e, _⟩
  · rcases hK with e | ⟨D, rfl, hq⟩
    · exact absurd e hk
    · obtain ⟨mv, hl, rk, hks⟩ := kwd_vals (ms := ms) fun q hm => hq q (hms q hm)
      exact ⟨mv, ⟨fun s us ws X l1 l2 => BindsTo.of_looks fun M => KwChain.looks X hks (h D doc pm an cdv ct us mv ws l1 hl l2), fun r1 r2 => hrel r1 rk r2⟩⟩
  · exact absurd rfl e
end
section
variable {X : Cx} {CX : CXT} {k n : Nat} {f C : Addr} {fd : FuncData} {ps ks : List Str} {sp : Sp} {E : XK} {m : Str} {pos apos : Pos} {o e : Expr} {es : List Expr} {kws : List Keyword} {to : TE} {t tk : TA} {g : List Value → List Value → List Value} {gV : List V → List V → List V}
/-- o.m(e, .., k = v, ..) -/
def tMethN (C : Addr) (m : Str) (n j : Nat) (sp : Sp) (gV : List V → List V → List V) (E : XK) (to : TE) (t tk : TA) : TE := fun σ H Q => to σ H fun x H1 => ∃ a dx fs, x = .ref a ∧ H1 a = some (.ins C dx fs) ∧ fs.lookup m = none ∧
  t σ H1 fun vs H2 => tk σ H2 fun zs H3 => vs.length = n ∧ zs.length = j ∧ sp (gV (x :: vs) zs) H3 Q E
theorem pe_methN {pl : Sem Bool} (ho : PE X o to) (c : Cls X.K C) (hm : Meth X.K C m f) (F : FnOk X.prog X.w X.K X.mg X.base CX k f fd ps sp) (hr : Room k X.A) (hb : KBn X.K fd ps (n + 1) ks g gV) (hx : Passes CX X E)
    (ha : PA X (e :: es) t) (hkw : PK X kws tk) (hall : (backToKw pos (keywordEach kws X.env)).all (·.1.isSome) = true := by rfl) (hks : (backToKw pos (keywordEach kws X.env)).filterMap (·.1) = ks := by rfl)
    (he : starEach (e :: es) X.env = (false, eval e X.env) :: starEach es X.env := by rfl)
    (hpl : ((backTo pos (starEach (e :: es) X.env)).any (·.1) || (backToKw pos (keywordEach kws X.env)).any (·.1.isNone)) = false := by rfl)
    (ht : eval (.Call (.Attribute o m apos) (e :: es) kws pos) X.env = (do
      let ov ← eval o X.env
      standAt apos.atName
      let (f, first) ← holding [ov] (getMethod ov m pl)
      callWith pos f first (backTo pos (starEach (e :: es) X.env)) (backToKw pos (keywordEach kws X.env))) := by rfl) :
    PE X (.Call (.Attribute o m apos) (e :: es) kws pos) (tMethN C m n ks.length sp gV E to t tk) := by
  refine ⟨fun pins s σ H Q I h => ?_⟩
  refine PySem.W.methodCall_KW (pl := pl) (thn (ho.run pins s σ H _ I h) fun u s1 ⟨x, H1, I1, rx, a, dx, fs, ex, ea, l, q⟩ => ?_) ht
  subst ex
  obtain rfl : u = Value.ref a := rx
  refine getmeth_ok I1 ea c hm l ?_
  refine PySem.W.callWith_KW (first := [.ref a]) (h₀ := X.base) I.ok.mod.kin hm.kp hall (thn (ha.run pos pins s1 σ H1 _ I1 q) fun us s2 ⟨vs, H2, I2, r, q2⟩ => ?_) hpl he
  refine thn (hkw.run pos pins s2 σ H2 _ I2 q2) fun ws s3 ⟨zs, H3, I3, rz, l1, l2, q3⟩ => ⟨I3.kIn, ?_⟩
  rw [hks]
  exact run_fnN (us := .ref a :: us) (vs := .ref a :: vs) F hr hb hx I3 (.cons rfl r) rz (congrArg Nat.succ l1) l2 q3
/-- o.m(k = v, ..) -/
theorem pe_methN0 {pl : Sem Bool} (ho : PE X o to) (c : Cls X.K C) (hm : Meth X.K C m f) (F : FnOk X.prog X.w X.K X.mg X.base CX k f fd ps sp) (hr : Room k X.A) (hb : KBn X.K fd ps 1 ks g gV) (hx : Passes CX X E)
    (hkw : PK X kws tk) (hall : (backToKw pos (keywordEach kws X.env)).all (·.1.isSome) = true := by rfl) (hks : (backToKw pos (keywordEach kws X.env)).filterMap (·.1) = ks := by rfl)
    (hpl : ((backTo pos (starEach [] X.env)).any (·.1) || (backToKw pos (keywordEach kws X.env)).any (·.1.isNone)) = false := by rfl)
    (ht : eval (.Call (.Attribute o m apos) [] kws pos) X.env = (do
      let ov ← eval o X.env
      standAt apos.atName
      let (f, first) ← holding [ov] (getMethod ov m pl)
      callWith pos f first (backTo pos (starEach [] X.env)) (backToKw pos (keywordEach kws X.env))) := by rfl) :
    PE X (.Call (.Attribute o m apos) [] kws pos) (tMethN C m 0 ks.length sp gV E to tNil tk) := by
  refine ⟨fun pins s σ H Q I h => ?_⟩
  refine PySem.W.methodCall_KW (pl := pl) (thn (ho.run pins s σ H _ I h) fun u s1 ⟨x, H1, I1, rx, a, dx, fs, ex, ea, l, q⟩ => ?_) ht
  subst ex
  obtain rfl : u = Value.ref a := rx
  refine getmeth_ok I1 ea c hm l ?_
  refine PySem.W.callWith_KW0 (first := [.ref a]) (h₀ := X.base) I.ok.mod.kin hm.kp hall (thn (hkw.run pos pins s1 σ H1 _ I1 q) fun ws s3 ⟨zs, H3, I3, rz, l1, l2, q3⟩ => ⟨I3.kIn, ?_⟩) hpl
  rw [hks]
  exact run_fnN (us := [.ref a]) (vs := [.ref a]) F hr hb hx I3 (.cons rfl .nil) rz rfl l2 q3
end
/-! ### xs == [], xs != [] for a list of anything -/
section
variable {X : Cx}
def rNil (K : PySem.W.Frag) (neg : Bool) : R2 := fun x y H Q => ∃ p q xs, x = .ref p ∧ y = .ref q ∧ SqL K H p xs ∧ SqL K H q [] ∧ Q (.bl (if neg then !xs.isEmpty else xs.isEmpty)) H
theorem op_neNil (hu : X.A.units < cLine) : OpR X (compareOp .NotEq) (rNil X.K true) := by
  intro pins s σ H x y v u Q I rx ry h
  obtain ⟨p, q, xs, rfl, rfl, hp, hq, k⟩ := h
  cases rx
  cases ry
  obtain ⟨its, r, pl, _⟩ := I.list hp
  obtain ⟨its2, r2, pl2, _⟩ := I.list hq
  cases r2
  show wpAny _ _ (richCompare .NotEq (.ref p) (.ref q)) _ _ _
  cases xs with
  | nil =>
    cases r
    exact SeqAt.RcNeAt.lists (e := fun _ => true) pl.isList pl2.isList rfl hu (fun j h1 _ => absurd h1 (Nat.not_lt_zero j)) _ _ _ _ ⟨.bl false, H, I, rfl, k⟩
  | cons x xs =>
    obtain ⟨u, r0, rfl, _, _⟩ := vals_cons r
    exact SeqAt.RcNeAt.lists_lengths pl.isList pl2.isList (by simp) hu _ _ _ _ ⟨.bl true, H, I, rfl, k⟩
theorem op_eqNil (hu : X.A.units < cLine) : OpR X (compareOp .Eq) (rNil X.K false) := by
  intro pins s σ H x y v u Q I rx ry h
  obtain ⟨p, q, xs, rfl, rfl, hp, hq, k⟩ := h
  cases rx
  cases ry
  obtain ⟨its, r, pl, _⟩ := I.list hp
  obtain ⟨its2, r2, pl2, _⟩ := I.list hq
  cases r2
  show wpAny _ _ (richCompare .Eq (.ref p) (.ref q)) _ _ _
  cases xs with
  | nil =>
    cases r
    exact SeqAt.RcAt.lists (e := fun _ => true) pl.isList pl2.isList rfl hu (fun j h1 _ => absurd h1 (Nat.not_lt_zero j)) _ _ _ _ ⟨.bl true, H, I, rfl, k⟩
  | cons x xs =>
    obtain ⟨u, r0, rfl, _, _⟩ := vals_cons r
    exact SeqAt.RcAt.lists_lengths pl.isList pl2.isList (by simp) hu _ _ _ _ ⟨.bl false, H, I, rfl, k⟩
/-- t == () for a tuple of anything -/
def rNilT (K : PySem.W.Frag) : R2 := fun x y H Q => ∃ p q xs, x = .ref p ∧ y = .ref q ∧ SqT K H p xs ∧ SqT K H q [] ∧ Q (.bl xs.isEmpty) H
theorem op_eqNilT (hu : X.A.units < cLine) : OpR X (compareOp .Eq) (rNilT X.K) := by
  intro pins s σ H x y v u Q I rx ry h
  obtain ⟨p, q, xs, rfl, rfl, hp, hq, k⟩ := h
  cases rx
  cases ry
  obtain ⟨its, r, pl, _⟩ := I.tuple hp
  obtain ⟨its2, r2, pl2, _⟩ := I.tuple hq
  cases r2
  show wpAny _ _ (richCompare .Eq (.ref p) (.ref q)) _ _ _
  have e : ((List.range (min its.toArray.size ([] : List Value).toArray.size)).all (fun _ => true) && its.toArray.size == ([] : List Value).toArray.size) = xs.isEmpty := by
    have l := r.length
    cases xs with
    | nil =>
      cases r
      rfl
    | cons a b =>
      obtain ⟨u, r0, rfl, _, _⟩ := vals_cons r
      simp
  have z := SeqAt.RcAt.tuples (A := X.A) (e := fun _ => true) pl pl2 hu (fun j h1 h2 => absurd h2 (Nat.not_lt_zero j))
  rw [e] at z
  exact z _ _ _ _ ⟨.bl _, H, I, rfl, k⟩
end
/-! ### the same rules, the written part by its own name (for a comprehension's block) -/
section
variable {X : Cx} {K : PySem.W.Frag}
theorem pe_fldK {o : Expr} {f : Str} {pos : Pos} {ta : TE} (hK : X.K = K) (ha : PE X o ta) (hb : attributeBase o f X.env (eval o X.env) = eval o X.env := by rfl) : PE X (.Attribute o f pos) (tFld K ta f) := hK ▸ pe_fld ha hb
theorem ix_listK (hK : X.K = K) : IxR X (rIxL K) := hK ▸ ix_list
theorem ix_tupK (hK : X.K = K) : IxR X (rIxT K) := hK ▸ ix_tup
theorem op_inK (hK : X.K = K) : OpR X (compareOp .In) (rIn K false) := hK ▸ op_in_seq
theorem op_notInK (hK : X.K = K) : OpR X (compareOp .NotIn) (rIn K true) := hK ▸ op_notIn_seq
theorem call_lenK (hK : X.K = K) : CallR X (.builtin "len") (fun xs H Q => ∃ p ys, xs = [.ref p] ∧ (SqL K H p ys ∨ SqT K H p ys) ∧ Q (.int ys.length) H) := hK ▸ call_len_seq
theorem call_isiK1 (hK : X.K = K) : CallR X (.builtin "isinstance") (rIsi K) := hK ▸ call_isi
theorem call_isiTK (hK : X.K = K) : CallR X (.builtin "isinstance") (rIsiT K) := hK ▸ call_isiT
theorem cr_allK (hc : X.calm = true) (hK : X.K = K) : CallR X (.builtin "all") (rAll K) := hK ▸ cr_all hc
theorem cr_anyK (hc : X.calm = true) (hK : X.K = K) : CallR X (.builtin "any") (rAny K) := hK ▸ cr_any hc
theorem cr_sumK (hc : X.calm = true) (hK : X.K = K) : CallR X (.builtin "sum") (rSum K) := hK ▸ cr_sum hc
theorem cr_maxK (hc : X.calm = true) (hK : X.K = K) : CallR X (.builtin "max") (rMax K) := hK ▸ cr_max hc
theorem sl_listK (hK : X.K = K) : SlR X (rSlL K) := hK ▸ sl_list
theorem sl_tupK (hK : X.K = K) : SlR X (rSlT K) := hK ▸ sl_tup
theorem op_catTK (hK : X.K = K) : OpR X (binaryOp .Add) (rCatT K) := hK ▸ op_catT
theorem call_listK (hK : X.K = K) : CallR X (.type "list") (fun xs H Q => ∃ p ys, xs = [.ref p] ∧ (SqL K H p ys ∨ SqT K H p ys) ∧ ∀ l, H l = none → Q (.ref l) (upd H l (.lst ys))) := hK ▸ call_list_of
theorem call_tupleK (hK : X.K = K) : CallR X (.type "tuple") (fun xs H Q => ∃ p ys, xs = [.ref p] ∧ ((SqL K H p ys ∧ ∀ l, H l = none → Q (.ref l) (upd H l (.tup ys))) ∨ (SqT K H p ys ∧ Q (.ref p) H))) := hK ▸ call_tuple_of
theorem op_eqDK (hu : X.A.units + 64 < cLine) (hK : X.K = K) : OpR X (compareOp .Eq) (rEqD K) := hK ▸ op_eqD hu
theorem op_neDK (hu : X.A.units + 64 < cLine) (hK : X.K = K) : OpR X (compareOp .NotEq) (rNeD K) := hK ▸ op_neD hu
theorem op_eqNilK (hu : X.A.units < cLine) (hK : X.K = K) : OpR X (compareOp .Eq) (rNil K false) := hK ▸ op_eqNil hu
theorem op_neNilK (hu : X.A.units < cLine) (hK : X.K = K) : OpR X (compareOp .NotEq) (rNil K true) := hK ▸ op_neNil hu
theorem op_eqNilTK (hu : X.A.units < cLine) (hK : X.K = K) : OpR X (compareOp .Eq) (rNilT K) := hK ▸ op_eqNilT hu
theorem pi_listK {tg l : Expr} {tl : TE} (hK : X.K = K) (h : PE X l tl) : PI X tg l (iList K tl) := hK ▸ pi_list h
theorem pi_tupK {tg l : Expr} {tl : TE} (hK : X.K = K) (h : PE X l tl) : PI X tg l (iTup K tl) := hK ▸ pi_tup h
theorem pg_tupK {es : List Expr} {k : Nat} {t : TGs} {n : Nat} {pos : Pos} (hc : X.calm = true) (hK : X.K = K) (h : PGs X es t)
    (hn : (assignEach es X.env).length = n := by rfl) (hst : (assignEach es X.env).findIdx? (·.1) = none := by rfl) : PG X (.Tuple es k pos) (gTup K n t) := hK ▸ pg_tup hc h hn hst
theorem pg_fldK {o : Expr} {f : Str} {pos : Pos} {ta : TE} (hK : X.K = K) (ha : PE X o ta) : PG X (.Attribute o f pos) (gFld K ta f) := hK ▸ pg_fld ha
theorem pg_starK {es : List Expr} {k : Nat} {t : TGs} {pos : Pos} (hc : X.calm = true) (hK : X.K = K) (h : PGs X es t)
    (hn : (assignEach es X.env).length = 2 := by rfl) (hst : (assignEach es X.env).findIdx? (·.1) = some 1 := by rfl) : PG X (.Tuple es k pos) (gStar K t) := hK ▸ pg_star hc h hn hst
theorem get_listK (hK : X.K = K) : PGet X (gGetL K) := hK ▸ get_list
theorem ps_fldK {o value : Expr} {f : Str} {pos pos' : Pos} {ta tv : TE} (hK : X.K = K) (ha : PE X o ta) (hv : PE X value tv) (hs : swapsWith value (some (.Attribute o f pos')) pos.line X.env = pure false := by rfl) : PS X (.Assign [.Attribute o f pos'] value pos) (sFld K ta tv f) := hK ▸ ps_fld ha hv hs
theorem ps_fldaugK {o value : Expr} {f : Str} {pos tpos : Pos} {ta tv : TE} {op : Operator} {rd : V → V → Hp → VK → Prop} (hK : X.K = K) (ha : PE X o ta) (hv : PE X value tv) (hop : InOp X op rd) : PS X (.AugAssign (.Attribute o f tpos) op value pos) (sFldAug K ta tv rd f) := hK ▸ ps_fldaug ha hv hop
end
theorem hu0 {A : Around} {k : Nat} (hr : Room k A) : A.units < cLine := by
  have := hr.un
  omega
end KR
end
section
set_option Elab.async false
set_option linter.all false
set_option autoImplicit false
set_option maxRecDepth 100000
set_option maxHeartbeats 2000000
/-! try .. finally: bodies that run through, bodies that end by a return; methods called there -/
namespace KW
open PySem PySem.Spec PyProof.Rows L2
/-- a block that ends by a return: R tells what is wished of the value, at the slots as they stand -/
structure PR (X : Cx) (sts : List Stmt) (t : (V → L2.St → Hp → Prop) → L2.St → Hp → Prop) : Prop where
  run : ∀ (pins : List (Addr × Obj)) (s : Shared) (σ : L2.St) (H : Hp) (R : V → L2.St → Hp → Prop), Inv X pins σ H s → t R σ H →
    wpAny (model X.prog X.w) X.A (execs sts X.env) (fun g s' => match g with | .ret u => ∃ v σ' H', Inv X pins σ' H' s' ∧ RelV v u ∧ R v σ' H' | _ => False) X.xe s
section
variable {X : Cx} {st : Stmt} {rest : List Stmt} {t : TS} {u : (V → L2.St → Hp → Prop) → L2.St → Hp → Prop} {e : Expr} {te : TE} {rp : Pos}
theorem pr_cons (h1 : PS X st t) (h2 : PR X rest u) : PR X (st :: rest) (fun R σ H => t { nx := fun σ1 H1 => u R σ1 H1, rt := fun _ _ => False, bk := fun _ _ => False, ct := fun _ _ => False } σ H) := by
  refine ⟨fun pins s σ H R I h => ?_⟩
  refine wpAny_execs_cons (thn (h1.run pins s σ H _ I h) fun f s1 q => ?_)
  cases f with
  | next =>
    obtain ⟨σ', H', I', q⟩ := q
    exact h2.run pins s1 σ' H' R I' q
  | ret v =>
    obtain ⟨_, _, _, _, _, q⟩ := q
    exact False.elim q
  | brk =>
    obtain ⟨_, _, _, q⟩ := q
    exact False.elim q
  | cont =>
    obtain ⟨_, _, _, q⟩ := q
    exact False.elim q
theorem pr_ret (he : PE X e te) : PR X [.Return (some e) rp] (fun R σ H => te σ H fun v H1 => R v σ H1) := by
  refine ⟨fun pins s σ H R I h => ?_⟩
  refine wpAny_execs_cons (wpAny_Return_some (thn (he.run pins s σ H _ I h) fun v s1 z => ?_))
  obtain ⟨x, H1, I1, r1, q1⟩ := z
  exact ⟨x, σ, H1, I1, r1, q1⟩
end
/-- try: body finally: suite, the body run through or raising -/
def tFinN (tb : WX → TS) (tf tfs : TS) (Wout : WX) : TS := fun D σ H => tb (wFin tfs Wout) { nx := fun σ1 H1 => tf D σ1 H1, rt := fun _ _ => False } σ H
/-- .. the body ended by a return -/
def tFinR (tb : WX → (V → L2.St → Hp → Prop) → L2.St → Hp → Prop) (tf tfs : TS) (Wout : WX) : TS := fun D σ H => tb (wFin tfs Wout) (fun v σ1 H1 => tf { D with nx := fun _ H2 => D.rt v H2 } σ1 H1) σ H
section
variable {X : Cx} {body : List Stmt} {f₀ : Stmt} {fs : List Stmt} {pos : Pos} {tf tfs : TS} {Wout : WX}
theorem ps_finN {tb : WX → TS} (hs : X.stack = X.env :: X.outer) (hf : X.env.frame = some X.env.locals) (hex : X.ex = []) (tk : Takes X Wout)
    (hb : ∀ (W : WX) (pn : List (Addr × Obj)) (xe : Value → Shared → Prop), Takes (X.tr pn xe) W → PassesOwn (model X.prog X.w) X.A X.env xe → PSs (X.tr pn xe) body (tb W))
    (hfin : PSs X.nox (f₀ :: fs) tf) (hsu : ∀ (a : Addr) (pn : List (Addr × Obj)), PSs (X.suite a pn) (f₀ :: fs) tfs) : PS X (.Try body [] [] (f₀ :: fs) pos) (tFinN tb tf tfs Wout) := by
  refine ⟨fun pins s σ H D I h => ?_⟩
  have ok := I.ok
  refine wpAny_Try_finally (wpAny_mono ((hb (wFin tfs Wout) (X.pn ++ pins) _ (fun u s' xx => fin_exc hs hf hex ok tk hsu xx) PassesOwn.looking).run [] s σ H { nx := fun σ1 H1 => tf D σ1 H1, rt := fun _ _ => False } (I.toTry _) h) (fun g s1 z => ?_) (fun x s1 hx => hx))
  cases g with
  | ret u =>
    obtain ⟨_, _, _, _, _, q⟩ := z
    exact False.elim q
  | brk =>
    obtain ⟨_, _, _, q⟩ := z
    exact False.elim q
  | cont =>
    obtain ⟨_, _, _, q⟩ := z
    exact False.elim q
  | next =>
    obtain ⟨σ1, H1, J1, q1⟩ := z
    refine wpAny_execs_nil (wpAny_mono (hfin.run pins s1 σ1 H1 D ((J1.ofTry ok).wish _) q1) (fun g2 s2 q2 => ?_) fun _ _ e => False.elim e)
    have q3 : SP X pins D g2 s2 := q2.unwish
    cases g2 <;> exact q3
theorem ps_finR {tb : WX → (V → L2.St → Hp → Prop) → L2.St → Hp → Prop} (hs : X.stack = X.env :: X.outer) (hf : X.env.frame = some X.env.locals) (hex : X.ex = []) (tk : Takes X Wout)
    (hb : ∀ (W : WX) (pn : List (Addr × Obj)) (xe : Value → Shared → Prop), Takes (X.tr pn xe) W → PassesOwn (model X.prog X.w) X.A X.env xe → PR (X.tr pn xe) body (tb W))
    (hfin : PSs X.nox (f₀ :: fs) tf) (hsu : ∀ (a : Addr) (pn : List (Addr × Obj)), PSs (X.suite a pn) (f₀ :: fs) tfs) : PS X (.Try body [] [] (f₀ :: fs) pos) (tFinR tb tf tfs Wout) := by
  refine ⟨fun pins s σ H D I h => ?_⟩
  have ok := I.ok
  refine wpAny_Try_finally (wpAny_mono ((hb (wFin tfs Wout) (X.pn ++ pins) _ (fun u s' xx => fin_exc hs hf hex ok tk hsu xx) PassesOwn.looking).run [] s σ H _ (I.toTry _) h) (fun g s1 z => ?_) (fun x s1 hx => hx))
  cases g with
  | ret u =>
    obtain ⟨v, σ1, H1, J1, r1, q1⟩ := z
    exact fin_ret hfin (J1.ofTry ok) r1 q1
  | brk => exact False.elim z
  | cont => exact False.elim z
  | next => exact False.elim z
end
/-- o.m(e, ..), what it raises being wished for at the slots as they stand -/
def tMethAt (C : Addr) (m : Str) (sp : Sp) (E : L2.St → XK) (ta : TE) (t : TA) : TE := fun σ H Q => ta σ H fun x H1 => ∃ a dx fs, x = .ref a ∧ H1 a = some (.ins C dx fs) ∧ fs.lookup m = none ∧ t σ H1 fun vs H2 => sp (x :: vs) H2 Q (E σ)
theorem pe_methAt {X : Cx} {CX : CXT} {k : Nat} {f C : Addr} {fd : FuncData} {ps : List Str} {sp : Sp} {E : L2.St → XK} {m : Str} {pos apos : Pos} {e o : Expr} {es : List Expr} {ta : TE} {t : TA} {pl : Sem Bool} (he : PE X o ta) (c : Cls X.K C) (hm : Meth X.K C m f)
    (F : FnOk X.prog X.w X.K X.mg X.base CX k f fd ps sp) (hr : Room k X.A) (hb : Binds X.K fd ps []) (hx : ∀ σ, PassesAt CX X σ (E σ)) (ha : PA X (e :: es) t)
    (hst : starEach (e :: es) X.env = (false, eval e X.env) :: starEach es X.env := by rfl) (hpl : (backTo pos (starEach es X.env)).any (·.1) = false := by rfl)
    (ht : eval (.Call (.Attribute o m apos) (e :: es) [] pos) X.env = (do
      let ov ← eval o X.env
      standAt apos.atName
      let (f, first) ← holding [ov] (getMethod ov m pl)
      callWith pos f first (backTo pos (starEach (e :: es) X.env)) (backToKw pos (keywordEach [] X.env))) := by rfl) :
    PE X (.Call (.Attribute o m apos) (e :: es) [] pos) (tMethAt C m sp E ta t) := by
  refine ⟨fun pins s σ H Q I h => PySem.W.methodCall_KW (pl := pl) (thn (he.run pins s σ H _ I h) fun u s1 ⟨x, H1, I1, rx, a, dx, fs, ex, ea, l, q⟩ => ?_) ht⟩
  subst ex
  obtain rfl : u = Value.ref a := rx
  refine getmeth_ok I1 ea c hm l (PySem.W.callWith_K (first := [.ref a]) (h₀ := X.base) I.ok.mod.kin hm.kp (thn (ha.run pos pins s1 σ H1 _ I1 q) fun us s2 ⟨vs, H2, I2, r, q2⟩ => ⟨I2.kIn, ?_⟩) hst hpl)
  exact run_fnS (us := .ref a :: us) (vs := .ref a :: vs) F hr hb (hx σ) I2 (.cons rfl r) q2
theorem pe_bmK {X : Cx} {K : PySem.W.Frag} (hK : X.K = K) {o e : Expr} {es : List Expr} {to : TE} {t : TA} {name : Str} {apos cpos : Pos} {T id : String} {r : V → List V → Hp → VK → Prop}
    (pa : PlainAttrs T) (slot : Slot T name id) (hty : typeOf (.builtin id) = pure (.type "method_descriptor")) (hm : MtR X id r) (ho : PE X o to) (ha : PA X (e :: es) t)
    (hbase : attributeBase o name X.env (eval o X.env) = eval o X.env := by rfl)
    (hfew : ((backTo cpos (starEach (e :: es) X.env)).all (fun x => !x.1) && (backToKw cpos (keywordEach [] X.env)).all (fun x => x.1.isSome)
      && decide ((e :: es).length + ([] : List Keyword).length + (if ([] : List Keyword).isEmpty then 0 else 1) < 30)) = true := by rfl)
    (hline : (apos.endLine == cpos.line) = true := by rfl) (hs : starEach (e :: es) X.env = (false, eval e X.env) :: starEach es X.env := by rfl) (hplain : (backTo cpos (starEach es X.env)).any (·.1) = false := by rfl) :
    PE X (.Call (.Attribute o name apos) (e :: es) [] cpos) (tBM K T r to t) := hK ▸ pe_bm pa slot hty hm ho ha hbase hfew hline hs hplain
end KW
end
section
set_option Elab.async false
set_option linter.all false
set_option autoImplicit false
set_option maxRecDepth 100000
set_option maxHeartbeats 1000000
/-! == and != of two instances by the class's own __eq__ -/
namespace KW
open PySem PySem.Spec PyProof.Rows L2
open Builtin
section
variable {prog : Program} {w : World} {A : Around} {E : Value → Shared → Prop} {s : Shared} {K : PySem.W.Frag} {x y C f : Addr} {ox oy : Obj} {od od' : Option Obj}
theorem check_ne (X : K.In s.heap) (I : PySem.W.InstAt s.heap x ox C od) (hm : PySem.W.makesIn K C = true) {Q : Unit → Shared → Prop} (hq : Q () s) : wpAny (model prog w) A (checkBuiltinCall "object.__ne__" ⟨[.ref x, .ref y], []⟩) Q E s := by
  have M := PySem.W.makes_of (M := model prog w) X hm
  simp only [checkBuiltinCall, F.cmpKind_ne, F.cmpSplit_ne]
  refine wpAny_bind ?_
  unfold isInstance
  refine wpAny_bind (I.type.here (M.top.here ?_))
  have ha := F.cmpArgs_ne (.ref x) (.ref y)
  cases hsig : Manifest.signature? "object.__ne__" with
  | none => exact wpAny_pure hq
  | some sig =>
    simp only [argsOk, hsig] at ha
    have h2 : Bind.checkArgs "object.__ne__" sig ⟨[.ref x, .ref y], []⟩ = pure () := ha
    show wpAny (model prog w) A (Bind.checkArgs "object.__ne__" sig ⟨[.ref x, .ref y], []⟩) Q E _
    rw [h2]
    exact wpAny_pure hq
theorem ne_inner (X : K.In s.heap) (I : PySem.W.InstAt s.heap x ox C od) (hs : PySem.W.findIn K (.ref C) "__eq__" = some (some (.ref f))) (hf : PySem.W.isFn K (.ref f) = true) (hu : A.units < cLine) {Q : Fin → Shared → Prop}
    (hcall : wpAny (model prog w) A (call (.ref f) [.ref x, .ref y]) (fun v s' => ∃ b, v = .bool b ∧ Q (.done (.ret (.bool (!b)))) s') E s) : wpAny (model prog w) A (Builtin.«object.__ne__» ⟨[.ref x, .ref y], []⟩) Q E s := by
  unfold Builtin.«object.__ne__»
  repeat (first
    | with_reducible refine wpAny_cRoomFor hu ?_
    | (refine wpAny_bind (m := callSpecialIfBound? (.ref x) (Str.ofString "__eq__") [.ref y])
        (PySem.W.ifBound_K X I hs hf (wpAny_mono hcall (fun v s' hr => by
          obtain ⟨b, rfl, hq⟩ := hr
          repeat (first | exact hq | exact wpAny_pure hq | exact wpAny_truthy_bool hq | (refine wpAny_bind (m := truthy (.bool _)) (wpAny_truthy_bool ?_)) | wp_step)) fun _ _ e => e)))
    | wp_step)
theorem ifBound_ne {args : List Value} {Q : Option Value → Shared → Prop} (X : K.In s.heap) (I : PySem.W.InstAt s.heap x ox C od) (hn : PySem.W.findIn K (.ref C) "__ne__" = some (some (.builtin "object.__ne__")))
    (h : wpAny (model prog w) A (call (.builtin "object.__ne__") (.ref x :: args)) (fun v => Q (some v)) E s) : wpAny (model prog w) A (callSpecialIfBound? (.ref x) "__ne__" args) Q E s := by
  simp only [callSpecialIfBound?, bindSpecialIfBound?]
  refine wpAny_holding (wpAny_bind (wpAny_bind (wpAny_bind (I.type.here ((PySem.W.looks_findIn X hn).here ?_)))))
  simp only [F.cmp_object.ne.bind]
  refine wpAny_bind (wpAny_askSetting (wpAny_ite ?_))
  have fin : wpAny (model prog w) A (call (.builtin "object.__ne__") ([.ref x] ++ args) >>= fun v => pure (some v)) Q E s := wpAny_bind (wpAny_mono h (fun v s' h' => wpAny_pure h') fun _ _ h' => h')
  split
  · exact wpAny_bind (wpAny_pure (wpAny_pure fin))
  · exact wpAny_tryCatch (wpAny_bind (wpAny_pure (wpAny_pure fin)))
theorem ne_try (X : K.In s.heap) (I : PySem.W.InstAt s.heap x ox C od) (hm : PySem.W.makesIn K C = true) (hn : PySem.W.findIn K (.ref C) "__ne__" = some (some (.builtin "object.__ne__"))) (hs : PySem.W.findIn K (.ref C) "__eq__" = some (some (.ref f))) (hf : PySem.W.isFn K (.ref f) = true)
    (hu : A.units + 1 < cLine) {Q : Option Value → Shared → Prop} (hcall : wpAny (model prog w) A.in1 (call (.ref f) [.ref x, .ref y]) (fun v s' => ∃ b, v = .bool b ∧ Q (some (.bool (!b))) s') E s) : wpAny (model prog w) A (tryCompare (.ref x) "__ne__" (.ref y)) Q E s := by
  simp only [tryCompare]
  refine wpAny_bind (ifBound_ne X I hn (wpAny_call (codeAny_call_builtin F.cmp_object.ne.plain F.cmpEntry_ne (check_ne X I hm (ne_inner (A := A.in1) X I hs hf hu (wpAny_mono hcall (fun v s' hv => ?_) fun _ _ e => e))))))
  obtain ⟨b, rfl, hq⟩ := hv
  first | exact ⟨b, rfl, wpAny_pure hq⟩ | exact ⟨b, rfl, wpAny_pure (wpAny_pure hq)⟩ | exact ⟨b, rfl, hq⟩
theorem ne_cmp (X : K.In s.heap) (I : PySem.W.InstAt s.heap x ox C od) (I2 : PySem.W.InstAt s.heap y oy C od') (hm : PySem.W.makesIn K C = true) (hn : PySem.W.findIn K (.ref C) "__ne__" = some (some (.builtin "object.__ne__"))) (hs : PySem.W.findIn K (.ref C) "__eq__" = some (some (.ref f))) (hf : PySem.W.isFn K (.ref f) = true)
    (hu : A.units + 1 < cLine) {Q : Value → Shared → Prop} (hcall : wpAny (model prog w) A.in1 (call (.ref f) [.ref x, .ref y]) (fun v s' => ∃ b, v = .bool b ∧ Q (.bool (!b)) s') E s) : wpAny (model prog w) A (richCompare .NotEq (.ref x) (.ref y)) Q E s := by
  unfold richCompare
  simp only [oneThing_ref]
  refine wpAny_holding ?_
  refine wpAny_bind (wpAny_cRoomFor (Nat.lt_of_succ_lt hu) ?_)
  rw [cmpInfo_NotEq]
  dsimp only
  refine wpAny_bind (I.type.here (wpAny_bind (I2.type.here ?_)))
  rw [show (Value.ref C != Value.ref C) = false from by simp]
  simp only [Bool.false_eq_true, if_false]
  refine wpAny_bind (wpAny_pure ?_)
  simp only [Bool.false_eq_true, if_false]
  refine wpAny_bind (ne_try X I hm hn hs hf hu (wpAny_mono hcall (fun v s' hv => ?_) fun _ _ e => e))
  obtain ⟨b, rfl, hq⟩ := hv
  first | exact ⟨b, rfl, wpAny_pure hq⟩ | exact ⟨b, rfl, wpAny_pure (wpAny_pure hq)⟩
end
/-- x == y, x != y by the class's own __eq__ that keeps the promise sp -/
def rOwn (C : Addr) (sp : Sp) (neg : Bool) : R2 := fun x y H Q => ∃ a b dx dy fs gs, x = .ref a ∧ y = .ref b ∧ H a = some (.ins C dx fs) ∧ H b = some (.ins C dy gs) ∧ sp [.ref a, .ref b] H (fun v H' => ∃ c, v = .bl c ∧ Q (.bl (if neg = true then !c else c)) H') E0
section
variable {X : Cx} {K : PySem.W.Frag} {n : Nat} {C f : Addr} {fd : FuncData} {ps : List Str} {sp : Sp}
theorem own_call {A : Around} {pins : List (Addr × Obj)} {s : Shared} {σ : L2.St} {H : Hp} {a b : Addr} {Q : VK} (F : FnOk X.prog X.w X.K X.mg X.base CX0 n f fd ps sp) (hb : Binds X.K fd ps []) (hr : Room n A) (hfr : A.frames = X.A.frames) (I : Inv X pins σ H s) (hsp : sp [.ref a, .ref b] H Q E0) :
    wpAny (model X.prog X.w) A (call (.ref f) [.ref a, .ref b]) (EP X pins σ Q) X.xe s := by
  have e0 : Env0 X.prog X.w X.K X.mg X.base A X.stack s H := by
    have e := I.env0
    exact ⟨by rw [hfr]; exact e.frames, e.mod, e.bs, e.bsz, e.funs, e.frf, e.hok, e.bare⟩
  have hl := F.len _ _ _ _ hsp
  have r2 : Vals [V.ref a, V.ref b] [Value.ref a, Value.ref b] := .cons rfl (.cons rfl .nil)
  refine wpAny_call (codeAny_mono (F.run A X.stack s H ⟨[.ref a, .ref b], []⟩ [.ref a, .ref b] [.ref a, .ref b] _ E0 hr e0 (by
    have := hb s [.ref a, .ref b] I.kIn (by simpa using hl)
    simpa using this) r2 hsp) fun r s' hq => ?_)
  cases r with
  | error e => exact False.elim hq
  | ok fl =>
    cases fl with
    | ret w =>
      obtain ⟨z, H', I', rz, ez⟩ := I.after hq
      exact ⟨z, H', I', rz, ez⟩
    | next => exact False.elim hq
    | brk => exact False.elim hq
    | cont => exact False.elim hq
theorem op_ownEq (hK : X.K = K) (F : FnOk X.prog X.w X.K X.mg X.base CX0 n f fd ps sp) (hm : Meth K C "__eq__" f) (hb : Binds X.K fd ps []) (hr : Room n X.A) : OpR X (compareOp .Eq) (rOwn C sp false) := by
  subst hK
  intro pins s σ H x y v u Q I rx ry hq
  obtain ⟨a, b, dx, dy, fs, gs, rfl, rfl, ha, hb', hsp⟩ := hq
  cases rx
  cases ry
  obtain ⟨mA, J, _⟩ := ins_get I.hok ha
  obtain ⟨mB, J', _⟩ := ins_get I.hok hb'
  obtain ⟨od, J, _⟩ := J.look
  obtain ⟨od', J', _⟩ := J'.look
  obtain ⟨m, hF⟩ := I.fr
  show wpAny (model X.prog X.w) X.A (richCompare .Eq (.ref a) (.ref b)) (EP X pins σ Q) X.xe s
  refine PySem.W.cmp_K (op := .Eq) (tb := .ref C) hr.units0 hF I.ok.mod.kin J J'.type (by simp [PySem.W.notFirst]) hm.at_ hm.fn (wpAny_mono (own_call F hb hr rfl I hsp) (fun r s' z => ?_) fun _ _ e => e)
  obtain ⟨c, H', I', rz, c', rfl, q⟩ := z
  cases rz
  exact ⟨.bl c', H', I', rfl, q⟩
theorem op_ownNe (hK : X.K = K) (F : FnOk X.prog X.w X.K X.mg X.base CX0 n f fd ps sp) (hm : Meth K C "__eq__" f) (hmk : PySem.W.makesIn K C = true) (hn : PySem.W.findIn K (.ref C) "__ne__" = some (some (.builtin "object.__ne__"))) (hb : Binds X.K fd ps []) (hr : Room (n + 1) X.A) : OpR X (compareOp .NotEq) (rOwn C sp true) := by
  subst hK
  intro pins s σ H x y v u Q I rx ry hq
  obtain ⟨a, b, dx, dy, fs, gs, rfl, rfl, ha, hb', hsp⟩ := hq
  cases rx
  cases ry
  obtain ⟨mA, J, _⟩ := ins_get I.hok ha
  obtain ⟨mB, J', _⟩ := ins_get I.hok hb'
  obtain ⟨od, J, _⟩ := J.look
  obtain ⟨od', J', _⟩ := J'.look
  show wpAny (model X.prog X.w) X.A (richCompare .NotEq (.ref a) (.ref b)) (EP X pins σ Q) X.xe s
  refine ne_cmp I.kIn J J' hmk hn hm.at_ hm.fn ?_ (wpAny_mono (own_call (A := X.A.in1) F hb hr.in1 rfl I hsp) (fun r s' z => ?_) fun _ _ e => e)
  · have := hr.units
    omega
  · obtain ⟨c, H', I', rz, c', rfl, q⟩ := z
    cases rz
    exact ⟨c', rfl, .bl (!c'), H', I', rfl, q⟩
end
end KW
end
section
set_option Elab.async false
set_option linter.all false
set_option autoImplicit false
set_option maxRecDepth 100000
set_option maxHeartbeats 4000000
/-! what is owned, what stays: lists of objects with their contents; data that nobody changes -/
namespace KW
open PySem PySem.Spec PyProof.Rows L2
/-- the objects of L stand in H, each apart from the others and from G's, and G's stand too -/
structure Own (G H : Hp) (L : List (Addr × HO)) : Prop where
  at_ : ∀ q ∈ L, H q.1 = some q.2
  nd : (L.map (·.1)).Nodup
  out : ∀ q ∈ L, G q.1 = none
  sub : Same G H
section
variable {G H H' : Hp} {L L1 L2 F : List (Addr × HO)} {a b : Addr} {o o' u : HO}
theorem Own.get (h : Own G H L) (m : (a, o) ∈ L) : H a = some o := h.at_ _ m
theorem Own.mid (h : Own G H (L1 ++ (a, o) :: L2)) : H a = some o := h.at_ (a, o) (List.mem_append_right _ (List.mem_cons_self ..))
theorem Own.upd (h : Own G H (L1 ++ (a, o) :: L2)) : Own G (upd H a o') (L1 ++ (a, o') :: L2) := by
  have nd := h.nd
  rw [List.map_append, List.map_cons, List.nodup_append] at nd
  obtain ⟨n1, n2, n3⟩ := nd
  have n4 := (List.nodup_cons.mp n2).1
  have ga : G a = none := h.out (a, o) (List.mem_append_right _ (List.mem_cons_self ..))
  have key : ∀ q, q ∈ L1 ∨ q ∈ L2 → q.1 ≠ a := fun q hq e => by
    rcases hq with hq | hq
    · exact n3 q.1 (List.mem_map_of_mem hq) a (List.mem_cons_self ..) e
    · have z : q.1 ∈ L2.map (·.1) := List.mem_map_of_mem hq
      rw [e] at z
      exact n4 z
  refine ⟨fun q hq => ?_, ?_, fun q hq => ?_, fun c x e => ?_⟩
  · rcases List.mem_append.mp hq with hq | hq
    · rw [upd_ne (key q (.inl hq))]; exact h.at_ q (List.mem_append_left _ hq)
    · rcases List.mem_cons.mp hq with rfl | hq
      · exact upd_same
      · rw [upd_ne (key q (.inr hq))]; exact h.at_ q (List.mem_append_right _ (List.mem_cons_of_mem _ hq))
  · have e : ((L1 ++ (a, o') :: L2).map (·.1)) = ((L1 ++ (a, o) :: L2).map (·.1)) := by simp
    rw [e]; exact h.nd
  · rcases List.mem_append.mp hq with hq | hq
    · exact h.out q (List.mem_append_left _ hq)
    · rcases List.mem_cons.mp hq with rfl | hq
      · exact ga
      · exact h.out q (List.mem_append_right _ (List.mem_cons_of_mem _ hq))
  · rw [upd_ne (ne_of_none e ga)]; exact h.sub c x e
theorem Own.new (h : Own G H L) (n : H a = none) : Own G (_root_.L2.upd H a o) ((a, o) :: L) := by
  have ga : G a = none := h.sub.free n
  refine ⟨fun q hq => ?_, ?_, fun q hq => ?_, fun c x e => ?_⟩
  · rcases List.mem_cons.mp hq with rfl | hq
    · exact upd_same
    · rw [upd_ne (ne_of_none (h.at_ q hq) n)]; exact h.at_ q hq
  · rw [List.map_cons, List.nodup_cons]
    refine ⟨fun m => ?_, h.nd⟩
    obtain ⟨q, hq, e⟩ := List.mem_map.mp m
    have z := h.at_ q hq
    rw [e, n] at z
    cases z
  · rcases List.mem_cons.mp hq with rfl | hq
    · exact ga
    · exact h.out q hq
  · rw [upd_ne (ne_of_none e ga)]; exact h.sub c x e
/-- things made and dropped -/
theorem Own.same (h : Own G H L) (s : Same H H') : Own G H' L := ⟨fun q hq => s _ _ (h.at_ q hq), h.nd, h.out, h.sub.trans s⟩
theorem same_new (n : H a = none) : Same H (_root_.L2.upd H a o) := fun b x e => by rw [upd_ne (ne_of_none e n)]; exact e
theorem Same.new {H0 : Hp} (s : Same H0 H) (n : H a = none) : Same H0 (_root_.L2.upd H a o) := s.trans (same_new n)
/-- a new object that nobody changes -/
theorem Own.keep (h : Own G H L) (n : H a = none) : Own (_root_.L2.upd G a o) (_root_.L2.upd H a o) L := by
  have h' := h.same (same_new (o := o) n)
  refine ⟨h'.at_, h.nd, fun q hq => ?_, fun c x e => ?_⟩
  · rw [upd_ne (ne_of_none (h.at_ q hq) n)]; exact h.out q hq
  · by_cases hc : c = a
    · subst hc; rw [upd_same] at e ⊢; exact e
    · rw [upd_ne hc] at e ⊢; exact h.sub c x e
theorem Own.perm {M : List (Addr × HO)} (h : Own G H L) (p : L.Perm M) : Own G H M :=
  ⟨fun q hq => h.at_ q (p.mem_iff.mpr hq), (p.map _).nodup_iff.mp h.nd, fun q hq => h.out q (p.mem_iff.mpr hq), h.sub⟩
theorem Own.less {M : List (Addr × HO)} (h : Own G H L) (s : M.Sublist L) : Own G H M :=
  ⟨fun q hq => h.at_ q (s.subset hq), h.nd.sublist (s.map _), fun q hq => h.out q (s.subset hq), h.sub⟩
theorem Own.tail {q : Addr × HO} (h : Own G H (q :: L)) : Own G H L := h.less (List.sublist_cons_self q L)
theorem Own.right (h : Own G H (L1 ++ L2)) : Own G H L2 := h.less (List.sublist_append_right L1 L2)
theorem Own.left (h : Own G H (L1 ++ L2)) : Own G H L1 := h.less (List.sublist_append_left L1 L2)
theorem Own.nil (s : Same G H) : Own G H [] := ⟨fun _ h => (nomatch h), List.nodup_nil, fun _ h => (nomatch h), s⟩
theorem Own.weak {G' : Hp} (h : Own G H L) (s : Same G' G) : Own G' H L := ⟨h.at_, h.nd, fun q hq => s.free (h.out q hq), s.trans h.sub⟩
end
/-! ### data -/
section
variable {K : PySem.W.Frag} {H H' : Hp}
theorem Same.tup {a : Addr} {xs : List V} (e : Same H H') (h : SqT K H a xs) : SqT K H' a xs := by
  rcases h with (h | ⟨o, h⟩) | h
  · exact .inl (.inl (e _ _ h))
  · exact .inl (.inr ⟨o, e _ _ h⟩)
  · exact .inr h
mutual
theorem Dp.mono (e : Same H H') : ∀ {v : V} {d : PyData}, Dp K H v d → Dp K H' v d
  | _, _, .non => .non
  | _, _, .bl b => .bl b
  | _, _, .int i => .int i
  | _, _, .str x => .str x
  | _, _, .lst h a => .lst (e.seq h) (DpAll.mono e a)
  | _, _, .tup h a => .tup (Same.tup e h) (DpAll.mono e a)
theorem DpAll.mono (e : Same H H') : ∀ {vs : List V} {ds : List PyData}, DpAll K H vs ds → DpAll K H' vs ds
  | _, _, .nil => .nil
  | _, _, .cons a b => .cons (Dp.mono e a) (DpAll.mono e b)
end
theorem DpAll.length : ∀ {vs : List V} {ds : List PyData}, DpAll K H vs ds → vs.length = ds.length
  | _, _, .nil => rfl
  | _, _, .cons _ b => congrArg Nat.succ (DpAll.length b)
theorem DpAll.get : ∀ {vs : List V} {ds : List PyData} {i : Nat} {v : V}, DpAll K H vs ds → vs[i]? = some v → ∃ d, ds[i]? = some d ∧ Dp K H v d
  | _, _, _, _, .nil, e => by simp at e
  | _, _, 0, _, .cons a _, e => by simp at e; subst e; exact ⟨_, rfl, a⟩
  | _, _, i + 1, _, .cons _ b, e => by
    obtain ⟨d, h1, h2⟩ := DpAll.get (i := i) b (by simpa using e)
    exact ⟨d, by simpa using h1, h2⟩
theorem DpAll.getD : ∀ {vs : List V} {ds : List PyData} {i : Nat} {d : PyData}, DpAll K H vs ds → ds[i]? = some d → ∃ v, vs[i]? = some v ∧ Dp K H v d
  | _, _, _, _, .nil, e => by simp at e
  | _, _, 0, _, .cons a _, e => by simp at e; subst e; exact ⟨_, rfl, a⟩
  | _, _, i + 1, _, .cons _ b, e => by
    obtain ⟨d, h1, h2⟩ := DpAll.getD (i := i) b (by simpa using e)
    exact ⟨d, by simpa using h1, h2⟩
theorem DpAll.append : ∀ {vs ws : List V} {ds es : List PyData}, DpAll K H vs ds → DpAll K H ws es → DpAll K H (vs ++ ws) (ds ++ es)
  | _, _, _, _, .nil, s => s
  | _, _, _, _, .cons a b, s => .cons a (DpAll.append b s)
theorem DpAll.one {v : V} {d : PyData} (h : Dp K H v d) : DpAll K H [v] [d] := .cons h .nil
theorem Dp.lst_inv {v : V} {ds : List PyData} (h : Dp K H v (.list ds)) : ∃ a xs, v = .ref a ∧ SqL K H a xs ∧ DpAll K H xs ds := by cases h with | lst a b => exact ⟨_, _, rfl, a, b⟩
theorem Dp.tup_inv {v : V} {ds : List PyData} (h : Dp K H v (.tuple ds)) : ∃ a xs, v = .ref a ∧ SqT K H a xs ∧ DpAll K H xs ds := by cases h with | tup a b => exact ⟨_, _, rfl, a, b⟩
theorem Dp.int_inv {v : V} {i : Int} (h : Dp K H v (.int i)) : v = .int i := by cases h; rfl
theorem Dp.str_inv {v : V} {x : Str} (h : Dp K H v (.str x)) : v = .str x := by cases h; rfl
theorem Dp.bool_inv {v : V} {b : Bool} (h : Dp K H v (.bool b)) : v = .bl b := by cases h; rfl
theorem DpAll.cons_inv {vs : List V} {d : PyData} {ds : List PyData} (h : DpAll K H vs (d :: ds)) : ∃ v ws, vs = v :: ws ∧ Dp K H v d ∧ DpAll K H ws ds := by cases h with | cons a b => exact ⟨_, _, rfl, a, b⟩
theorem DpAll.nil_inv {vs : List V} (h : DpAll K H vs []) : vs = [] := by cases h; rfl
theorem dpT {v : V} {ds : List PyData} (h : Dp K H v (.tuple ds)) : ∃ a xs, v = .ref a ∧ SqT K H a xs ∧ DpAll K H xs ds := Dp.tup_inv h
theorem dpL {v : V} {ds : List PyData} (h : Dp K H v (.list ds)) : ∃ a xs, v = .ref a ∧ SqL K H a xs ∧ DpAll K H xs ds := Dp.lst_inv h
theorem dpI {v : V} {i : Int} (h : Dp K H v (.int i)) : v = .int i := Dp.int_inv h
theorem dpS {v : V} {x : Str} (h : Dp K H v (.str x)) : v = .str x := Dp.str_inv h
theorem dpB {v : V} {b : Bool} (h : Dp K H v (.bool b)) : v = .bl b := Dp.bool_inv h
theorem dpC {vs : List V} {d : PyData} {ds : List PyData} (h : DpAll K H vs (d :: ds)) : ∃ v ws, vs = v :: ws ∧ Dp K H v d ∧ DpAll K H ws ds := DpAll.cons_inv h
theorem dpN {vs : List V} (h : DpAll K H vs []) : vs = [] := DpAll.nil_inv h
theorem dpLen {vs : List V} {ds : List PyData} (h : DpAll K H vs ds) : vs.length = ds.length := DpAll.length h
theorem dpM (e : Same H H') {v : V} {d : PyData} (h : Dp K H v d) : Dp K H' v d := Dp.mono e h
theorem daM (e : Same H H') {vs : List V} {ds : List PyData} (h : DpAll K H vs ds) : DpAll K H' vs ds := DpAll.mono e h
theorem daG {vs : List V} {ds : List PyData} {i : Nat} {v : V} (h : DpAll K H vs ds) (e : vs[i]? = some v) : ∃ d, ds[i]? = some d ∧ Dp K H v d := DpAll.get h e
theorem sT {a : Addr} {xs : List V} (e : Same H H') (h : SqT K H a xs) : SqT K H' a xs := Same.tup e h
theorem sL {a : Addr} {xs : List V} (e : Same H H') (h : SqL K H a xs) : SqL K H' a xs := L2.Same.seq e h
end
end KW
end
section
set_option Elab.async false
set_option linter.all false
set_option autoImplicit false
set_option maxRecDepth 100000
set_option maxHeartbeats 4000000
/-! words over the layer -/
namespace KW
open PySem PySem.Spec PyProof.Rows L2 He KR
section
variable {K : PySem.W.Frag} {H H' H1 : Hp}
theorem sql_ty {a : Addr} {xs : List V} (h : SqL K H a xs) : TyX K H (.ref a) (.type "list") := by
  rcases h with (h | ⟨o, h⟩) | ⟨o, its, n, h1, h2, h3, h4, h5⟩
  · exact .base (.lst h)
  · exact .base (.frz h)
  · exact .kList h1 h2
theorem sqt_ty {a : Addr} {xs : List V} (h : SqT K H a xs) : TyX K H (.ref a) (.type "tuple") := by
  rcases h with (h | ⟨o, h⟩) | ⟨o, its, n, h1, h2, h3, h4⟩
  · exact .base (.tup h)
  · exact .fTuple h
  · exact .kTuple h1 h2
def tyD : PyData → String
  | .none => "NoneType"
  | .bool _ => "bool"
  | .int _ => "int"
  | .str _ => "str"
  | .list _ => "list"
  | .tuple _ => "tuple"
  | .dict _ => "dict"
theorem dp_ty {v : V} {d : PyData} (h : Dp K H v d) : TyX K H v (.type (tyD d)) := by
  cases h with
  | non => exact .base .non
  | bl b => exact .base (.bl b)
  | int i => exact .base (.int i)
  | str x => exact .base (.str x)
  | lst a _ => exact sql_ty a
  | tup a _ => exact sqt_ty a
theorem inV_strs (x : Str) : ∀ ys : List Str, inV (.str x) (ys.map V.str) = decide (x ∈ ys)
  | [] => by simp [inV]
  | y :: ys => by
    have ih := inV_strs x ys
    have e : eqV (.str y) (.str x) = decide (x = y) := by
      show (y == x) = _
      by_cases h : x = y
      · subst h; simp
      · have h2 : ¬ y = x := fun e => h e.symm
        simp [h, h2]
    have e2 : inV (.str x) ((y :: ys).map V.str) = (eqV (.str y) (.str x) || inV (.str x) (ys.map V.str)) := by
      simp [inV]
    rw [e2, e, ih]
    simp [List.mem_cons]
/-! ### comprehensions: the new list alone is owned -/
section
variable {a : Addr} {xs : List V} {g : TG} {tt : TT} {te : TE} {vs : List Nat} {σ : L2.St} {D : Addr} {Qd : Hp → Prop}
/-- the state ahead of turn i: the list so far stands at D, apart from all that stood (G), Acc tells what it is -/
def PvL (D : Addr) (H1 : Hp) (Acc : Nat → List V → Hp → Prop) (i : Nat) (H : Hp) : Prop := ∃ G acc, Same H1 G ∧ Own G H [(D, .lst acc)] ∧ acc.length ≤ i ∧ Acc i acc G
/-- what is to be shown of an element y at H4 -/
def AddL (D : Addr) (H1 : Hp) (Acc : Nat → List V → Hp → Prop) (i : Nat) (y : V) (H4 : Hp) : Prop := ∃ acc, H4 D = some (.lst acc) ∧ acc.length < sizeLine ∧ PvL D H1 Acc (i + 1) (upd H4 D (.lst (acc ++ [y])))
theorem add_l {Acc : Nat → List V → Hp → Prop} {i : Nat} {y : V} {G H4 : Hp} {acc : List V} (s : Same H1 G) (o : Own G H4 [(D, .lst acc)]) (h1 : acc.length ≤ i) (h2 : i ≤ 100000) (h : Acc (i + 1) (acc ++ [y]) G) :
    ∃ acc, H4 D = some (.lst acc) ∧ acc.length < sizeLine ∧ PvL D H1 Acc (i + 1) (upd H4 D (.lst (acc ++ [y]))) :=
  ⟨acc, o.at_ _ (List.mem_cons_self ..), by rw [sizeLine_eq]; omega, G, acc ++ [y], s, Own.upd (L1 := []) (L2 := []) o, by rw [List.length_append]; exact Nat.succ_le_succ h1, h⟩
theorem skip_l {Acc : Nat → List V → Hp → Prop} {i : Nat} {G H4 : Hp} {acc : List V} (s : Same H1 G) (o : Own G H4 [(D, .lst acc)]) (h1 : acc.length ≤ i) (h : Acc (i + 1) acc G) : PvL D H1 Acc (i + 1) H4 := ⟨G, acc, s, o, Nat.le_succ_of_le h1, h⟩
theorem lc_own (Acc : Nat → List V → Hp → Prop) (n : H1 D = none) (hl : SqL K H1 a xs) (hz : xs.length ≤ 100000) (h0 : Acc 0 [] H1)
    (hs : ∀ i x G H acc, xs[i]? = some x → i ≤ 100000 → Same H1 G → acc.length ≤ i → Acc i acc G → Own G H [(D, .lst acc)] → g x (wipe σ vs) H fun σ2 H2 => wipe σ2 vs = wipe σ vs ∧ tt σ2 H2 fun b H3 =>
      if b = true then te σ2 H3 fun y H4 => ∃ acc, H4 D = some (.lst acc) ∧ acc.length < sizeLine ∧ PvL D H1 Acc (i + 1) (upd H4 D (.lst (acc ++ [y]))) else PvL D H1 Acc (i + 1) H3)
    (hd : ∀ G H acc, Same H1 G → Own G H [(D, .lst acc)] → acc.length ≤ xs.length → Acc xs.length acc G → Qd H) :
    ∃ W : Nat → Nat → Hp → Prop, (∃ m, W 0 m (upd H1 D (.lst []))) ∧ ∀ i m H, W i m H →
      ((Itl K a).stop i H ∧ Qd H) ∨ ((Itl K a).go i H ∧ ∃ Nx : Hp → Prop, (∀ H', Nx H' → ∃ m', m' < m ∧ W (i + 1) m' H') ∧ ∀ x H', (Itl K a).yld i H x H' → g x (wipe σ vs) H' fun σ2 H2 => wipe σ2 vs = wipe σ vs ∧ tt σ2 H2 fun b H3 =>
        if b = true then te σ2 H3 fun y H4 => ∃ acc, H4 D = some (.lst acc) ∧ acc.length < sizeLine ∧ Nx (upd H4 D (.lst (acc ++ [y]))) else Nx H3) := by
  refine lc_list (K := K) (a := a) (xs := xs) (PvL D H1 Acc) ⟨H1, [], Same.refl _, Own.new (Own.nil (Same.refl H1)) n, Nat.le_refl _, h0⟩ (fun i H _ ⟨G, acc, s, o, _⟩ => (s.trans o.sub).seq hl) (fun i x H hx ⟨G, acc, s, o, l, p⟩ => ?_) (fun H ⟨G, acc, s, o, l, p⟩ => hd G H acc s o l p)
  have hi := (List.getElem?_eq_some_iff.mp hx).1
  exact hs i x G H acc hx (by omega) s l p o
theorem lc_ownT (Acc : Nat → List V → Hp → Prop) (n : H1 D = none) (hl : SqT K H1 a xs) (hz : xs.length ≤ 100000) (h0 : Acc 0 [] H1)
    (hs : ∀ i x G H acc, xs[i]? = some x → i ≤ 100000 → Same H1 G → acc.length ≤ i → Acc i acc G → Own G H [(D, .lst acc)] → g x (wipe σ vs) H fun σ2 H2 => wipe σ2 vs = wipe σ vs ∧ tt σ2 H2 fun b H3 =>
      if b = true then te σ2 H3 fun y H4 => ∃ acc, H4 D = some (.lst acc) ∧ acc.length < sizeLine ∧ PvL D H1 Acc (i + 1) (upd H4 D (.lst (acc ++ [y]))) else PvL D H1 Acc (i + 1) H3)
    (hd : ∀ G H acc, Same H1 G → Own G H [(D, .lst acc)] → acc.length ≤ xs.length → Acc xs.length acc G → Qd H) :
    ∃ W : Nat → Nat → Hp → Prop, (∃ m, W 0 m (upd H1 D (.lst []))) ∧ ∀ i m H, W i m H →
      ((Itt K a).stop i H ∧ Qd H) ∨ ((Itt K a).go i H ∧ ∃ Nx : Hp → Prop, (∀ H', Nx H' → ∃ m', m' < m ∧ W (i + 1) m' H') ∧ ∀ x H', (Itt K a).yld i H x H' → g x (wipe σ vs) H' fun σ2 H2 => wipe σ2 vs = wipe σ vs ∧ tt σ2 H2 fun b H3 =>
        if b = true then te σ2 H3 fun y H4 => ∃ acc, H4 D = some (.lst acc) ∧ acc.length < sizeLine ∧ Nx (upd H4 D (.lst (acc ++ [y]))) else Nx H3) := by
  refine lc_tup (K := K) (a := a) (xs := xs) (PvL D H1 Acc) ⟨H1, [], Same.refl _, Own.new (Own.nil (Same.refl H1)) n, Nat.le_refl _, h0⟩ (fun i H _ ⟨G, acc, s, o, _⟩ => Same.tup (s.trans o.sub) hl) (fun i x H hx ⟨G, acc, s, o, l, p⟩ => ?_) (fun H ⟨G, acc, s, o, l, p⟩ => hd G H acc s o l p)
  have hi := (List.getElem?_eq_some_iff.mp hx).1
  exact hs i x G H acc hx (by omega) s l p o
theorem lc_gen (J : It) (n : Nat) (Acc : Nat → List V → Hp → Prop) (nD : H1 D = none) (hz : n ≤ 100000) (h0 : Acc 0 [] H1) (hgo : ∀ i G H acc, i < n → Same H1 G → Own G H [(D, .lst acc)] → J.go i H) (hstop : ∀ G H acc, Same H1 G → Own G H [(D, .lst acc)] → J.stop n H)
    (hs : ∀ i x G H acc H', i < n → J.yld i H x H' → Same H1 G → acc.length ≤ i → Acc i acc G → Own G H [(D, .lst acc)] → g x (wipe σ vs) H' fun σ2 H2 => wipe σ2 vs = wipe σ vs ∧ tt σ2 H2 fun b H3 =>
      if b = true then te σ2 H3 fun y H4 => ∃ acc, H4 D = some (.lst acc) ∧ acc.length < sizeLine ∧ PvL D H1 Acc (i + 1) (upd H4 D (.lst (acc ++ [y]))) else PvL D H1 Acc (i + 1) H3)
    (hd : ∀ G H acc, Same H1 G → Own G H [(D, .lst acc)] → acc.length ≤ n → Acc n acc G → Qd H) :
    ∃ W : Nat → Nat → Hp → Prop, (∃ m, W 0 m (upd H1 D (.lst []))) ∧ ∀ i m H, W i m H →
      (J.stop i H ∧ Qd H) ∨ (J.go i H ∧ ∃ Nx : Hp → Prop, (∀ H', Nx H' → ∃ m', m' < m ∧ W (i + 1) m' H') ∧ ∀ x H', J.yld i H x H' → g x (wipe σ vs) H' fun σ2 H2 => wipe σ2 vs = wipe σ vs ∧ tt σ2 H2 fun b H3 =>
        if b = true then te σ2 H3 fun y H4 => ∃ acc, H4 D = some (.lst acc) ∧ acc.length < sizeLine ∧ Nx (upd H4 D (.lst (acc ++ [y]))) else Nx H3) := by
  refine ⟨fun i m H => m = n - i ∧ i ≤ n ∧ PvL D H1 Acc i H, ⟨n, by simp, Nat.zero_le _, H1, [], Same.refl _, Own.new (Own.nil (Same.refl H1)) nD, Nat.le_refl _, h0⟩, ?_⟩
  rintro i m H ⟨rfl, hi, G, acc, s, o, l, p⟩
  by_cases hlt : i < n
  · exact .inr ⟨hgo i G H acc hlt s o, PvL D H1 Acc (i + 1), fun H' p' => ⟨n - (i + 1), by omega, rfl, hlt, p'⟩, fun x H' y => hs i x G H acc H' hlt y s l p o⟩
  · have e : i = n := by omega
    subst e
    exact .inl ⟨hstop G H acc s o, hd G H acc s o l p⟩
/-- over a text, sign by sign -/
theorem lc_str {z : Str} (Acc : Nat → List V → Hp → Prop) (nD : H1 D = none) (hz : z.cps.size ≤ 100000) (h0 : Acc 0 [] H1)
    (hs : ∀ i c G H acc, z.cps[i]? = some c → i ≤ 100000 → Same H1 G → acc.length ≤ i → Acc i acc G → Own G H [(D, .lst acc)] → g (.str ⟨#[c]⟩) (wipe σ vs) H fun σ2 H2 => wipe σ2 vs = wipe σ vs ∧ tt σ2 H2 fun b H3 =>
      if b = true then te σ2 H3 fun y H4 => ∃ acc, H4 D = some (.lst acc) ∧ acc.length < sizeLine ∧ PvL D H1 Acc (i + 1) (upd H4 D (.lst (acc ++ [y]))) else PvL D H1 Acc (i + 1) H3)
    (hd : ∀ G H acc, Same H1 G → Own G H [(D, .lst acc)] → acc.length ≤ z.cps.size → Acc z.cps.size acc G → Qd H) :
    ∃ W : Nat → Nat → Hp → Prop, (∃ m, W 0 m (upd H1 D (.lst []))) ∧ ∀ i m H, W i m H →
      ((Its z).stop i H ∧ Qd H) ∨ ((Its z).go i H ∧ ∃ Nx : Hp → Prop, (∀ H', Nx H' → ∃ m', m' < m ∧ W (i + 1) m' H') ∧ ∀ x H', (Its z).yld i H x H' → g x (wipe σ vs) H' fun σ2 H2 => wipe σ2 vs = wipe σ vs ∧ tt σ2 H2 fun b H3 =>
        if b = true then te σ2 H3 fun y H4 => ∃ acc, H4 D = some (.lst acc) ∧ acc.length < sizeLine ∧ Nx (upd H4 D (.lst (acc ++ [y]))) else Nx H3) := by
  refine lc_gen (Its z) z.cps.size Acc nD hz h0 (fun i _ _ _ hi _ _ => hi) (fun _ _ _ _ _ => Nat.le_refl _) (fun i x G H acc H' hi y s l p o => ?_) hd
  obtain ⟨rfl, c, hc, rfl⟩ := y
  exact hs i c G H' acc hc (by omega) s l p o
end
end
end KW
end
section
set_option Elab.async false
set_option linter.all false
set_option autoImplicit false
set_option maxRecDepth 100000
set_option maxHeartbeats 4000000
/-! the program as plain functions over plain data -/
namespace KW
open PySem
/-! ### steps.py -/
def isWholeD : PyData → Bool
  | .int _ => true
  | _ => false
def withinD (d : PyData) (lo hi : Int) : Bool := match d with
  | .int i => decide (lo ≤ i) && decide (i ≤ hi)
  | _ => false
def letters : Str := "abcdefghijklmnopqrstuvwxyz"
def isNameS (x : Str) : Bool := (decide ((1 : Int) ≤ (x.length : Int)) && decide ((x.length : Int) ≤ 8)) && x.cps.toList.all fun c => decide (c ∈ letters.cps.toList)
def isNameD : PyData → Bool
  | .str x => isNameS x
  | _ => false
def isStepW (w : Str) (rest : List PyData) : Bool :=
  if w = "mask" ∨ w = "open" then rest.isEmpty else match rest with
    | [r] => if w = "run" then withinD r 1 9 else (decide (w = "answer") || (decide (w = "later") || decide (w = "wake"))) && isNameD r
    | _ => false
def isStepD : PyData → Bool
  | .tuple (.str w :: rest) => isStepW w rest
  | _ => false
def wordD : PyData → Str
  | .tuple (.str w :: _) => w
  | _ => ""
def deepOf (w : Str) : Int := if w = "mask" then 1 else if w = "open" then -1 else 0
def deepOk : List PyData → Int → Bool
  | [], _ => true
  | s :: r, d => if d + deepOf (wordD s) < 0 then false else deepOk r (d + deepOf (wordD s))
def areStepsL (ds : List PyData) : Bool :=
  (decide ((1 : Int) ≤ (ds.length : Int)) && decide ((ds.length : Int) ≤ 12)) && (ds.all isStepD && (deepOk ds 0 && ds.any fun s => decide (wordD s = "run")))
def areStepsD : PyData → Bool
  | .list ds => areStepsL ds
  | _ => false
/-! ### plans.py: the looks -/
def isGuardD : PyData → Bool
  | .tuple [a, b, c] => withinD a 1 9 && (withinD b 1 60 && withinD c 1 60)
  | _ => false
def isBoolD : PyData → Bool
  | .bool _ => true
  | _ => false
def isLineD : PyData → Bool
  | .tuple [n, r, u, g, t] => (isNameD n && withinD r 1 99) && (isBoolD u && (isGuardD g && areStepsD t))
  | _ => false
def isBottomD : PyData → Bool
  | .tuple [n, t] => isNameD n && areStepsD t
  | _ => false
def isThreadD : PyData → Bool
  | .tuple [n, r, t] => (isNameD n && withinD r 1 99) && areStepsD t
  | _ => false
def nameD : PyData → Str := wordD
def rankD : PyData → Int
  | .tuple (_ :: .int r :: _) => r
  | _ => 0
def onesL (ds : List PyData) (lo hi : Int) (p : PyData → Bool) : Bool := ((decide (lo ≤ (ds.length : Int)) && decide ((ds.length : Int) ≤ hi)) && ds.all p) && decide (ds.map nameD).Nodup
def areOnesD (d : PyData) (lo hi : Int) (p : PyData → Bool) : Bool := match d with
  | .list ds => onesL ds lo hi p
  | .tuple ds => onesL ds lo hi p
  | _ => false
def seqD : PyData → List PyData
  | .list ds => ds
  | .tuple ds => ds
  | _ => []
def unlikeD (ds : List PyData) : Bool := decide (ds.map rankD).Nodup
def argD : PyData → Str
  | .tuple [_, .str n] => n
  | _ => ""
def spokenD (ss : List PyData) (w : Str) : List Str := (ss.filter fun s => decide (wordD s = w)).map argD
/-- the steps of a line, a bottom, a thread -/
def stepsD : PyData → List PyData
  | .tuple ds => match ds.getLast? with
    | some (.list ss) => ss
    | _ => []
  | _ => []
def thereD (w : Str) (there : List Str) (every : List PyData) : Bool := every.all fun e => (spokenD (stepsD e) w).all fun n => decide (n ∈ there)
def allThereD (ns : List Str × List Str × List Str) (every : List PyData) : Bool := thereD "answer" ns.1 every && (thereD "later" ns.2.1 every && thereD "wake" ns.2.2 every)
def planOkD (dl db dt : PyData) : Bool :=
  (areOnesD dl 1 5 isLineD && unlikeD (seqD dl)) && ((areOnesD db 0 4 isBottomD && areOnesD dt 0 4 isThreadD) &&
    (unlikeD (seqD dt) && allThereD ((seqD dl).map nameD, (seqD db).map nameD, (seqD dt).map nameD) (seqD dl ++ (seqD db ++ seqD dt))))
end KW
end
section
set_option Elab.async false
set_option linter.all false
set_option autoImplicit false
set_option maxRecDepth 100000
set_option maxHeartbeats 4000000
/-! steps.py: what each def does -/
namespace KW
open PySem PySem.Spec PyProof.Rows L2 He KR
section
variable {P : Program} {w : World} {K : PySem.W.Frag} {mg : Str → Option Value} {base : Heap}
/-- a def that answers a question about one value -/
def spP (K : PySem.W.Frag) (p : PyData → Bool) : Sp := fun vs H Q _ => ∃ v d, vs = [v] ∧ Dp K H v d ∧ ∀ H', Same H H' → Q (.bl (p d)) H'
/-- the answer of isinstance for data -/
def isT (a b : String) : Bool := decide (a = b) || (decide (a = "bool") && decide (b = "int"))
def tyL : List String := ["NoneType", "bool", "int", "str", "list", "tuple", "dict"]
theorem kitB_all : ∀ a ∈ tyL, ∀ b ∈ ["int", "bool", "str", "list", "tuple"], kitB a b = some (isT a b) := by decide +kernel
theorem tyD_mem (d : PyData) : tyD d ∈ tyL := by cases d <;> simp [tyD, tyL]
theorem kit_isT (d : PyData) (b : String) (hb : b ∈ ["int", "bool", "str", "list", "tuple"] := by decide) : PySem.W.kitOne K (.type (tyD d)) (.type b) = some (isT (tyD d) b) := kit_ty (kitB_all _ (tyD_mem d) b hb)
theorem sc_is_whole : FnScope ["thing"] ["thing"] (defScope s_is_whole) := ⟨rfl, rfl, rfl, by decide +kernel, rfl, by decide +kernel, by decide +kernel⟩
theorem ok_is_whole (T : Txt w K mg) : FnOk P w K mg base CX0 1 (f_is_whole K) (fdAt K (f_is_whole K)) ["thing"] (spP K isWholeD) := by
  refine (df_is_whole T).ok sc_is_whole (fun vs H Q E h => ?_) (fun cdv A outer s H vs Q E hr h => ?_)
  · obtain ⟨v, d, rfl, _⟩ := h
    rfl
  · obtain ⟨v, d, rfl, hd, q⟩ := h
    refine ⟨_, PSs.nox ((pss_one (ps_ret (pe_and (pe_callB (call_isiK1 (K := K) rfl) (by rfl) (fr_isinstance T) (by decide +kernel) (pa_cons (pv 0) (pa_cons (pe_bltn (v := .ty "int") (u := .type "int") (by rfl) (fr_int T) (by decide +kernel) rfl) pa_nil))) (pe_one (pe_not (pe_callB (call_isiK1 (K := K) rfl) (by rfl) (fr_isinstance T) (by decide +kernel) (pa_cons (pv 0) (pa_cons (pe_bltn (v := .ty "bool") (u := .type "bool") (by rfl) (fr_bool T) (by decide +kernel) rfl) pa_nil))))))))), ?_⟩
    refine ⟨_, rfl, v, _, _, _, _, rfl, .ty _, dp_ty hd, kit_isT d "int", _, rfl, ?_⟩
    have e : isWholeD d = (isT (tyD d) "int" && !isT (tyD d) "bool") := by cases d <;> rfl
    refine ite2 (fun h1 => ?_) (fun h1 => ?_)
    · refine ⟨_, rfl, v, _, _, _, _, rfl, .ty _, dp_ty hd, kit_isT d "bool", _, rfl, ?_⟩
      have q' := q H (Same.refl H)
      rw [e, h1, Bool.true_and] at q'
      exact q'
    · have q' := q H (Same.refl H)
      have h2 : isT (tyD d) "int" = false := by simpa using h1
      rw [e, h2, Bool.false_and] at q'
      exact q'
theorem sc_within : FnScope ["thing", "low", "high"] ["thing", "low", "high"] (defScope s_within) := ⟨rfl, rfl, rfl, by decide +kernel, rfl, by decide +kernel, by decide +kernel⟩
def spWithin (K : PySem.W.Frag) : Sp := fun vs H Q _ => ∃ v d lo hi, vs = [v, .int lo, .int hi] ∧ Dp K H v d ∧ ∀ H', Same H H' → Q (.bl (withinD d lo hi)) H'
theorem ok_within (T : Txt w K mg) : FnOk P w K mg base CX0 2 (f_within K) (fdAt K (f_within K)) ["thing", "low", "high"] (spWithin K) := by
  refine (df_within T).ok sc_within (fun vs H Q E h => ?_) (fun cdv A outer s H vs Q E hr h => ?_)
  · obtain ⟨v, d, lo, hi, rfl, _⟩ := h
    rfl
  · obtain ⟨v, d, lo, hi, rfl, hd, q⟩ := h
    refine ⟨_, PSs.nox ((pss_one (ps_ret (pe_and (pe_call (ok_is_whole T) (hr.mono (by decide)) rfl (gl_is_whole T) (df_is_whole T).kp (bi_is_whole T) .nil pass0 (pa_cons (pv 0) pa_nil)) (pe_one (pe_chain op_le op_le (pv 1) (pv 0) (pv 2))))))), ?_⟩
    refine ⟨_, rfl, v, d, rfl, hd, fun H1 s1 => ⟨_, rfl, ?_⟩⟩
    refine ite2 (fun h1 => ?_) (fun h1 => ?_)
    · obtain ⟨i, rfl⟩ : ∃ i, d = .int i := by cases d <;> first | exact ⟨_, rfl⟩ | (cases h1)
      cases hd
      refine ⟨_, rfl, _, rfl, _, _, rfl, rfl, _, rfl, ?_⟩
      have q' := q H1 s1
      refine ite2 (fun h2 => ?_) (fun h2 => ?_)
      · refine ⟨_, rfl, _, _, rfl, rfl, ?_⟩
        have e : withinD (.int i) lo hi = decide (i ≤ hi) := by simp only [withinD, h2, Bool.true_and]
        rw [e] at q'
        exact q'
      · have e : withinD (.int i) lo hi = false := by simp only [withinD, Bool.not_eq_true _ ▸ h2, Bool.false_and]
        rw [e] at q'
        exact q'
    · have q' := q H1 s1
      have e : withinD d lo hi = false := by cases d <;> first | rfl | (exact absurd rfl h1)
      rw [e] at q'
      exact q'
theorem sc_is_name : FnScope ["thing", "sign"] ["thing"] (defScope s_is_name) := ⟨rfl, rfl, rfl, by decide +kernel, rfl, by decide +kernel, by decide +kernel⟩
theorem nameLen {x : Str} (h : x.length ≤ 8) : x.length ≤ sizeLine := Nat.le_trans h (by rw [sizeLine_eq]; decide)
theorem isNameD_no {d : PyData} (h : tyD d ≠ "str") : isNameD d = false := by cases d <;> first | rfl | exact absurd rfl h
/-- texts that are asked for being names have at most so many signs here -/
def fitD : PyData → Prop
  | .str x => x.length ≤ 100000
  | _ => True
def spName (K : PySem.W.Frag) : Sp := fun vs H Q _ => ∃ v d, vs = [v] ∧ Dp K H v d ∧ fitD d ∧ ∀ H', Same H H' → Q (.bl (isNameD d)) H'
theorem ok_is_name (T : Txt w K mg) : FnOk P w K mg base CX0 1 (f_is_name K) (fdAt K (f_is_name K)) ["thing"] (spName K) := by
  obtain ⟨tL, h_LETTERS⟩ := st_LETTERS T
  refine (df_is_name T).ok sc_is_name (fun vs H Q E h => ?_) (fun cdv A outer s H vs Q E hr h => ?_)
  · obtain ⟨v, d, rfl, _⟩ := h
    rfl
  · obtain ⟨v, d, rfl, hd, hz, q⟩ := h
    refine ⟨_, PSs.nox ((pss_one (ps_ret (pe_and (pe_callB (call_isiK1 (K := K) rfl) (by rfl) (fr_isinstance T) (by decide +kernel) (pa_cons (pv 0) (pa_cons (pe_bltn (v := .ty "str") (u := .type "str") (by rfl) (fr_str T) (by decide +kernel) rfl) pa_nil))) (pe_and (pe_chain op_le op_le pe_int ((pe_callB call_len_str (by rfl) (fr_len T) PySem.boot_len (pa_cons (pv 0) pa_nil))) pe_int) (pe_one (pe_callB (cr_allK rfl (K := K) rfl) (by rfl) (fr_all T) (by decide +kernel) (pa_cons (pe_lc (own := [("sign", 1)]) (g := gName 1) (tt := tYes) rfl sc_is_name.nd (pi_str (pv 0)) (blkOk_by (N := ["thing", "sign"]) (sc := defScope s_is_name) (by decide +kernel)) (fun _ _ _ _ _ => pg_name (i := 1) sc_is_name.nd rfl (Or.inl rfl)) (fun _ _ _ _ _ => pts_nil) (fun _ _ _ _ _ => (pe_cmpR op_in_sign (pv 1) (pe_glob (v := .str "abcdefghijklmnopqrstuvwxyz") rfl h_LETTERS ⟨_, rfl⟩) (by rfl)))) pa_nil)))))))), ?_⟩
    refine ⟨_, rfl, v, _, _, _, _, rfl, .ty _, dp_ty hd, kit_isT d "str", _, rfl, ?_⟩
    refine ite2 (fun h1 => ?_) (fun h1 => ?_)
    · obtain ⟨x, rfl⟩ : ∃ x, d = .str x := by cases d <;> first | exact ⟨_, rfl⟩ | (cases h1)
      cases hd
      have hz : x.length ≤ 100000 := hz
      refine ⟨_, rfl, x, rfl, by rw [sizeLine_eq]; omega, _, _, rfl, rfl, _, rfl, ?_⟩
      refine ite2 (fun h2 => ?_) (fun h2 => ?_)
      · refine ⟨_, _, rfl, rfl, _, rfl, ?_⟩
        refine ite2 (fun h3 => ?_) (fun h3 => ?_)
        · refine ⟨_, rfl, x, rfl, fun D nD => ?_⟩
          refine lc_str (z := x) (fun i acc G => acc = (x.cps.toList.take i).map fun c => V.bl (decide (c ∈ letters.cps.toList))) nD hz rfl (fun i c G H2 acc hc hi s1 hl ha o => ?_) (fun G H2 acc s1 o hl ha => ?_)
          · refine ⟨rfl, _, rfl, c, letters, rfl, rfl, ?_⟩
            refine add_l s1 o hl hi ?_
            rw [ha, List.take_add_one, List.map_append]
            have e : x.cps.toList[i]? = some c := by rw [Array.getElem?_toList]; exact hc
            rw [e]
            rfl
          · have e1 : acc = (x.cps.toList.map fun c => decide (c ∈ letters.cps.toList)).map V.bl := by
              rw [ha, List.take_of_length_le (by simp), List.map_map]
              rfl
            refine ⟨D, x.cps.toList.map fun c => decide (c ∈ letters.cps.toList), rfl, SqL.of (by rw [← e1]; exact o.at_ _ (List.mem_cons_self ..)), ?_⟩
            have q' := q H2 (s1.trans o.sub)
            have e2 : isNameD (.str x) = (x.cps.toList.map fun c => decide (c ∈ letters.cps.toList)).all id := by
              simp only [isNameD, isNameS, h2, h3, Bool.and_self, Bool.true_and, List.all_map]
              rfl
            rw [e2] at q'
            exact q'
        · have q' := q H (Same.refl H)
          have e : isNameD (.str x) = false := by simp only [isNameD, isNameS, h3, Bool.and_false, Bool.false_and]
          rw [e] at q'
          exact q'
      · have q' := q H (Same.refl H)
        have e : isNameD (.str x) = false := by simp only [isNameD, isNameS, h2, Bool.false_and]
        rw [e] at q'
        exact ⟨_, rfl, iteF q'⟩
    · have q' := q H (Same.refl H)
      have h2 : isT (tyD d) "str" = false := by simpa using h1
      have e : isNameD d = false := by cases d <;> first | rfl | (cases h2)
      rw [e] at q'
      rw [h2] at *
      exact q'
end
end KW
end
section
set_option Elab.async false
set_option linter.all false
set_option autoImplicit false
set_option maxRecDepth 100000
set_option maxHeartbeats 4000000
/-! steps.py: is_step, are_steps -/
namespace KW
open PySem PySem.Spec PyProof.Rows L2 He KR
section
variable {P : Program} {w : World} {K : PySem.W.Frag} {mg : Str → Option Value} {base : Heap}
def fitT : PyData → Prop
  | .tuple ds => ds.length ≤ 10000 ∧ ∀ e ∈ ds, fitD e
  | _ => True
theorem isStepD_tuple {ds : List PyData} : isStepD (.tuple ds) = match ds with
    | .str w :: rest => isStepW w rest
    | _ => false := by
  cases ds with
  | nil => rfl
  | cons d r => cases d <;> rfl
theorem isStepD_no {d : PyData} (h : isT (tyD d) "tuple" = false) : isStepD d = false := by cases d <;> first | rfl | (cases h)
theorem isStepW_len {x : Str} {rest : List PyData} (h : ¬ (x = "mask" ∨ x = "open")) (hl : rest.length ≠ 1) : isStepW x rest = false := by
  unfold isStepW
  rw [if_neg h]
  match rest, hl with
  | [], _ => rfl
  | [_], h => exact absurd rfl h
  | _ :: _ :: _, _ => rfl
theorem isStepW_one {x : Str} {r : PyData} (h : ¬ (x = "mask" ∨ x = "open")) : isStepW x [r] = if x = "run" then withinD r 1 9 else (decide (x = "answer") || (decide (x = "later") || decide (x = "wake"))) && isNameD r := by
  unfold isStepW
  rw [if_neg h]
theorem at0 {v : V} {vs : List V} : atI (v :: vs) 0 = some v := atI_nat (j := 0) rfl
theorem sc_is_step : FnScope ["thing", "word", "rest"] ["thing"] (defScope s_is_step) := ⟨rfl, rfl, rfl, by decide +kernel, rfl, by decide +kernel, by decide +kernel⟩
def spStep (K : PySem.W.Frag) : Sp := fun vs H Q _ => ∃ v d, vs = [v] ∧ Dp K H v d ∧ fitT d ∧ ∀ H', Same H H' → Q (.bl (isStepD d)) H'
theorem ok_is_step (T : Txt w K mg) : FnOk P w K mg base CX0 3 (f_is_step K) (fdAt K (f_is_step K)) ["thing"] (spStep K) := by
  obtain ⟨tR, h_MOST_RUN⟩ := in_MOST_RUN T
  refine (df_is_step T).ok sc_is_step (fun vs H Q E h => ?_) (fun cdv A outer s H vs Q E hr h => ?_)
  · obtain ⟨v, d, rfl, _⟩ := h
    rfl
  · obtain ⟨v, d, rfl, hd, hf, q⟩ := h
    refine ⟨_, PSs.nox ((pss_cons (ps_if (PW.pt (pw_or (pt_not (pt_val (pe_callB (call_isiK1 (K := K) rfl) (by rfl) (fr_isinstance T) (by decide +kernel) (pa_cons (pv 0) (pa_cons (pe_bltn (v := .ty "tuple") (u := .type "tuple") (by rfl) (fr_tuple T) (by decide +kernel) rfl) pa_nil))))) (pw_or (pt_cmpR (op_eqNilTK (hu0 hr) (K := K) rfl) (pv 0) (pe_tup pa_nil) (nomark _)) (pw_or1 (pt_not (pt_val (pe_callB (call_isiK1 (K := K) rfl) (by rfl) (fr_isinstance T) (by decide +kernel) (pa_cons ((pe_ix (ix_tupK (K := K) rfl) (pv 0) pe_int (fun _ _ => rfl))) (pa_cons (pe_bltn (v := .ty "str") (u := .type "str") (by rfl) (fr_str T) (by decide +kernel) rfl) pa_nil))))))))) (pss_one (ps_ret pe_bl)) pss_nil)
      (pss_cons (ps_asg (pv 0) (pg_starK rfl (K := K) rfl (pgs_cons (pg_name (i := 1) sc_is_step.nd rfl (Or.inl rfl)) (pgs_starred (pg_name (i := 2) sc_is_step.nd rfl (Or.inl rfl)) pgs_nil))))
      (pss_cons (ps_if (pt_cmpR (op_inK (K := K) rfl) (pv 1) (pe_tup (pa_cons pe_str (pa_cons pe_str pa_nil))) (by rfl)) (pss_one (ps_ret (pe_cmpR (op_eqNilK (hu0 hr) (K := K) rfl) (pv 2) (pe_lst pa_nil) (nomark _)))) pss_nil)
      (pss_cons (ps_if (pt_cmpR op_ne (pe_callB (call_lenK (K := K) rfl) (by rfl) (fr_len T) PySem.boot_len (pa_cons (pv 2) pa_nil)) pe_int (nomark _)) (pss_one (ps_ret pe_bl)) pss_nil)
      (pss_one (ps_ret (pe_ifExp (pt_cmpR op_eq (pv 1) pe_str (nomark _)) (pe_call (ok_within T) (hr.mono (by decide)) rfl (gl_within T) (df_within T).kp (bi_within T) .nil pass0 (pa_cons (pe_ix (ix_listK (K := K) rfl) (pv 2) pe_int (fun _ _ => rfl)) (pa_cons pe_int (pa_cons (pe_glob (v := .int 9) rfl h_MOST_RUN ⟨_, rfl⟩) pa_nil)))) (pe_and (pe_cmpR (op_inK (K := K) rfl) (pv 1) (pe_glob (v := .ref (ga K "SPEAKING")) rfl (gl_SPEAKING T) rfl) (by rfl)) (pe_one (pe_call (ok_is_name T) (hr.mono (by decide)) rfl (gl_is_name T) (df_is_name T).kp (bi_is_name T) .nil pass0 (pa_cons (pe_ix (ix_listK (K := K) rfl) (pv 2) pe_int (fun _ _ => rfl)) pa_nil)))))))))))), ?_⟩
    refine ⟨_, rfl, v, _, _, _, _, rfl, .ty _, dp_ty hd, kit_isT d "tuple", _, rfl, ?_⟩
    cases ht : isT (tyD d) "tuple" with
    | false =>
      refine iteT (iteT ?_)
      have q' := q H (Same.refl H)
      rw [isStepD_no ht] at q'
      exact q'
    | true =>
      obtain ⟨ds, rfl⟩ : ∃ ds, d = .tuple ds := by cases d <;> first | exact ⟨_, rfl⟩ | (cases ht)
      obtain ⟨hl, hf⟩ := hf
      obtain ⟨a, xs, rfl, hx, ha⟩ := dpT hd
      refine iteF ⟨_, rfl, by rw [sizeLine_eq]; decide, fun p hp => ?_⟩
      have s1 : Same H (upd H p (.tup [])) := same_new hp
      refine ⟨a, p, xs, rfl, rfl, sT s1 hx, SqT.of upd_same, _, rfl, ?_⟩
      cases ds with
      | nil =>
        obtain rfl := dpN ha
        refine iteT (iteT ?_)
        exact q _ s1
      | cons d0 rest =>
        obtain ⟨v0, vs, rfl, h0, hrest⟩ := dpC ha
        refine iteF ⟨_, rfl, a, _, _, v0, rfl, rfl, sT s1 hx, at0, ?_⟩
        have h0' := dpM s1 h0
        refine ⟨_, _, _, _, _, rfl, .ty _, dp_ty h0', kit_isT d0 "str", _, rfl, ?_⟩
        cases hs : isT (tyD d0) "str" with
        | false =>
          refine iteT ?_
          have q' := q _ s1
          have e : isStepD (.tuple (d0 :: rest)) = false := by cases d0 <;> first | rfl | (cases hs)
          rw [e] at q'
          exact q'
        | true =>
          obtain ⟨x, rfl⟩ : ∃ x, d0 = .str x := by cases d0 <;> first | exact ⟨_, rfl⟩ | (cases hs)
          obtain rfl := dpS h0
          refine iteF ?_
          -- word, *rest = thing
          have hlv := dpLen hrest
          refine ⟨_, rfl, a, _, vs, rfl, .inl (sT s1 hx), by have := hl; rw [List.length_cons] at this; omega, fun D nD => ?_⟩
          have s2 : Same (upd H p (.tup [])) (upd (upd H p (.tup [])) D (.lst vs)) := same_new nD
          have s12 := s1.trans s2
          have hD : (upd (upd H p (.tup [])) D (.lst vs)) D = some (.lst vs) := upd_same
          generalize upd (upd H p (.tup [])) D (.lst vs) = H2 at s2 s12 hD ⊢
          have hr2 := daM s12 hrest
          refine ⟨_, _, rfl, _, _, rfl, rfl, ?_⟩
          -- word in ("mask", "open")
          refine ⟨_, rfl, by rw [sizeLine_eq]; decide, fun t nt => ?_⟩
          have s3 : Same H2 (upd H2 t (.tup [.str "mask", .str "open"])) := same_new nt
          refine ⟨t, _, rfl, .inr (SqT.of upd_same), rfl, rfl, _, rfl, ?_⟩
          have hD3 := s3 _ _ hD
          have hr3 := daM s3 hr2
          have s13 := s12.trans s3
          generalize upd H2 t (.tup [.str "mask", .str "open"]) = H3 at s3 hD3 hr3 s13 ⊢
          have ein : inV (.str x) [.str "mask", .str "open"] = decide (x = "mask" ∨ x = "open") := by
            have z := inV_strs x ["mask", "open"]
            simpa using z
          rw [ein]
          have hn3 : H3 D = some (.lst vs) := hD3
          refine ite2 (fun hw => ?_) (fun hw => ?_)
          · -- return rest == []
            have hw : x = "mask" ∨ x = "open" := of_decide_eq_true hw
            refine ⟨_, rfl, by rw [sizeLine_eq]; decide, fun p2 n2 => ?_⟩
            have s4 : Same H3 (upd H3 p2 (.lst [])) := same_new n2
            refine ⟨D, p2, vs, rfl, rfl, SqL.of (s4 _ _ hn3), SqL.of upd_same, ?_⟩
            have q' := q _ (s13.trans s4)
            have e : isStepD (.tuple (.str x :: rest)) = vs.isEmpty := by
              show isStepW x rest = _
              unfold isStepW
              rw [if_pos hw]
              cases vs <;> cases rest <;> first | rfl | (simp at hlv)
            rw [e] at q'
            exact q'
          · have hw : ¬ (x = "mask" ∨ x = "open") := by simpa using hw
            refine ⟨_, rfl, D, vs, rfl, .inl (SqL.of hn3), rfl, _, rfl, ?_⟩
            by_cases hone : vs.length = 1
            · obtain ⟨v1, rfl⟩ : ∃ v1, vs = [v1] := by
                cases vs with
                | nil => simp at hone
                | cons a b => cases b with
                  | nil => exact ⟨a, rfl⟩
                  | cons c d => simp at hone
              obtain ⟨d1, rfl⟩ : ∃ d1, rest = [d1] := by
                cases rest with
                | nil => simp at hlv
                | cons a b => cases b with
                  | nil => exact ⟨a, rfl⟩
                  | cons c d => simp at hlv
              obtain ⟨v1', ws, e1, h1, _⟩ := dpC hr3
              cases e1
              refine iteNS rfl ?_
              refine ⟨_, rfl, rfl, _, rfl, ?_⟩
              refine ite2 (fun hx1 => ?_) (fun hx1 => ?_)
              · have hx1 : x = "run" := by simpa using hx1
                refine ⟨_, rfl, D, _, _, v1, rfl, rfl, SqL.of hn3, at0, v1, d1, _, _, rfl, h1, fun H5 s5 => ?_⟩
                have q' := q _ (s13.trans s5)
                rw [isStepD_tuple] at q'
                simp only [isStepW_one hw, hx1, if_true] at q'
                exact q'
              · have hx1 : ¬ x = "run" := by simpa using hx1
                refine ⟨_, rfl, _, _, rfl, .inr (tu_SPEAKING T H3), rfl, rfl, _, rfl, ?_⟩
                have ein2 : inV (.str x) [V.str "answer", V.str "later", V.str "wake"] = (decide (x = "answer") || (decide (x = "later") || decide (x = "wake"))) := by
                  have z := inV_strs x ["answer", "later", "wake"]
                  simpa using z
                refine ite2 (fun h5 => ?_) (fun h5 => ?_)
                · have h6 : inV (.str x) [V.str "answer", V.str "later", V.str "wake"] = true := h5
                  rw [ein2] at h6
                  refine ⟨_, rfl, D, _, _, v1, rfl, rfl, SqL.of hn3, at0, v1, d1, rfl, h1, hf _ (by simp), fun H5 s5 => ?_⟩
                  have q' := q _ (s13.trans s5)
                  rw [isStepD_tuple] at q'
                  simp only [isStepW_one hw, hx1, if_false] at q'
                  rw [h6, Bool.true_and] at q'
                  exact q'
                · have h6 : inV (.str x) [V.str "answer", V.str "later", V.str "wake"] = false := eq_false_of_ne_true h5
                  rw [ein2] at h6
                  have q' := q _ s13
                  rw [isStepD_tuple] at q'
                  simp only [isStepW_one hw, hx1, if_false] at q'
                  rw [h6, Bool.false_and] at q'
                  exact q'
            · have hlr : rest.length ≠ 1 := by rw [← hlv]; exact hone
              have e9 : decide (V.int (vs.length : Int) = V.int 1) = false := decide_eq_false fun z => by
                injection z with z
                omega
              rw [e9]
              refine iteT ?_
              have q' := q _ s13
              rw [isStepD_tuple] at q'
              simp only [isStepW_len hw hlr] at q'
              exact q'
end
end KW
end
section
set_option Elab.async false
set_option linter.all false
set_option autoImplicit false
set_option maxRecDepth 100000
set_option maxHeartbeats 4000000
/-! what is evaluated while all that stood stays: more words -/
namespace KW
open PySem PySem.Spec PyProof.Rows L2 He KR Evl
section
variable {K : PySem.W.Frag} {σ : L2.St} {H H' : Hp} {ta tb tc te : TE} {t u : TT} {x y z v w' : V} {r r' : R2}
/-- an instance's fields: the class shows them -/
structure Flds (K : PySem.W.Frag) (C : Addr) (fs : List (Str × V)) : Prop where
  cl : Cls K C
  na : ∀ f v, fs.lookup f = some v → NoAttr K C f
theorem ev_fld {a C dx : Addr} {fs : List (Str × V)} {f : Str} (ha : Ev ta σ H (.ref a)) (ho : H a = some (.ins C dx fs)) (hC : Flds K C fs) (hl : fs.lookup f = some v) : Ev (tFld K ta f) σ H v := fun H1 e Q q =>
  ha H1 e _ fun H2 e2 => ⟨a, C, dx, fs, v, rfl, e2 _ _ (e _ _ ho), hC.cl, hC.na f v hl, hl, q H2 e2⟩
theorem ev_chain {k k2 : Bool} (ha : Ev ta σ H x) (hb : Ev tb σ H y) (h1 : RV r x y H (.bl k)) (hc : k = true → Ev tc σ H w') (h2 : k = true → RV r' y w' H (.bl k2)) : Ev (tChain r r' ta tb tc) σ H (.bl (k && k2)) := fun H1 e Q q =>
  ha H1 e _ fun H2 e2 => hb H2 (e.trans e2) _ fun H3 e3 => h1 H3 ((e.trans e2).trans e3) _ fun H4 e4 => ⟨k, rfl, by
    cases k with
    | true => exact hc rfl H4 (((e.trans e2).trans e3).trans e4) _ fun H5 e5 => h2 rfl H5 ((((e.trans e2).trans e3).trans e4).trans e5) Q fun H6 e6 => q H6 ((((e2.trans e3).trans e4).trans e5).trans e6)
    | false => exact q H4 ((e2.trans e3).trans e4)⟩
theorem rv_lt {i j : Int} : RV (rI0 fun i j => .bl (decide (i < j))) (.int i) (.int j) H (.bl (decide (i < j))) := rv_I0
theorem ex_tyx {t : Value} (e : Ex H H') (h : TyX K H x t) : TyX K H' x t := by
  cases h with
  | base b => exact .base (by
      cases b with
      | non => exact .non
      | bl b => exact .bl b
      | int b => exact .int b
      | str b => exact .str b
      | flt b => exact .flt b
      | lst h => exact .lst (e _ _ h)
      | frz h => exact .frz (e _ _ h)
      | tup h => exact .tup (e _ _ h)
      | dK h => exact .dK (e _ _ h)
      | dT h => exact .dT (e _ _ h)
      | ins h c a b d f => exact .ins (e _ _ h) c a b d f)
  | byt b => exact .byt b
  | set h => exact .set (e _ _ h)
  | kList a b => exact .kList a b
  | kTuple a b => exact .kTuple a b
  | kDict a b => exact .kDict a b
  | fTuple h => exact .fTuple (e _ _ h)
  | fDict h => exact .fDict (e _ _ h)
/-- isinstance(x, T) of data -/
theorem ev_isi {d : PyData} {b : String} (ha : Ev ta σ H x) (hd : Dp K H x d) (hb : b ∈ ["int", "bool", "str", "list", "tuple"] := by decide) : Ev (tCB (rIsi K) (tCons ta (tCons (tC (.ty b)) tNil))) σ H (.bl (isT (tyD d) b)) := fun H1 e Q q =>
  ha H1 e _ fun H2 e2 => ⟨x, _, _, _, _, rfl, .ty _, ex_tyx (e.trans e2) (dp_ty hd), kit_isT d b hb, q H2 e2⟩
/-- len of a list, a tuple -/
theorem ev_lenS {p : Addr} {xs : List V} (ha : Ev ta σ H (.ref p)) (h : SqL K H p xs ∨ SqT K H p xs) :
    Ev (tCB (fun xs H Q => ∃ p ys, xs = [.ref p] ∧ (SqL K H p ys ∨ SqT K H p ys) ∧ Q (.int ys.length) H) (tCons ta tNil)) σ H (.int (xs.length : Int)) := fun H1 e Q q =>
  ha H1 e _ fun H2 e2 => ⟨p, xs, rfl, h.imp (ex_l (e.trans e2)) (ex_t (e.trans e2)), q H2 e2⟩
theorem ev_lenN {xs : List V} (ha : EvL ta σ H xs) :
    Ev (tCB (fun xs H Q => ∃ p ys, xs = [.ref p] ∧ (SqL K H p ys ∨ SqT K H p ys) ∧ Q (.int ys.length) H) (tCons ta tNil)) σ H (.int (xs.length : Int)) := fun H1 e Q q =>
  ha H1 e _ fun p H2 _ e2 h2 => ⟨p, xs, rfl, Or.inl (sq_of h2), q H2 e2⟩
theorem ev_all {bs : List Bool} (ha : EvL ta σ H (bs.map V.bl)) : Ev (tCB (rAll K) (tCons ta tNil)) σ H (.bl (bs.all id)) := fun H1 e Q q =>
  ha H1 e _ fun p H2 _ e2 h2 => ⟨p, bs, rfl, sq_of h2, q H2 e2⟩
theorem ev_any {bs : List Bool} (ha : EvL ta σ H (bs.map V.bl)) : Ev (tCB (rAny K) (tCons ta tNil)) σ H (.bl (bs.any id)) := fun H1 e Q q =>
  ha H1 e _ fun p H2 _ e2 h2 => ⟨p, bs, rfl, sq_of h2, q H2 e2⟩
theorem ev_sum {ns : List Int} (ha : EvL ta σ H (ns.map V.int)) : Ev (tCB (rSum K) (tCons ta tNil)) σ H (.int ns.sum) := fun H1 e Q q =>
  ha H1 e _ fun p H2 _ e2 h2 => ⟨p, ns, rfl, sq_of h2, q H2 e2⟩
/-- a call of an own def that changes nothing -/
theorem sv_p {p : PyData → Bool} {d : PyData} (h : Dp K H v d) : SpV (spP K p) [v] H (.bl (p d)) := fun H1 e Q q E => ⟨v, d, rfl, dpM e h, fun H' s => q H' s⟩
theorem sv_within {d : PyData} {lo hi : Int} (h : Dp K H v d) : SpV (spWithin K) [v, .int lo, .int hi] H (.bl (withinD d lo hi)) := fun H1 e Q q E => ⟨v, d, lo, hi, rfl, dpM e h, fun H' s => q H' s⟩
theorem sv_name {d : PyData} (h : Dp K H v d) (f : fitD d) : SpV (spName K) [v] H (.bl (isNameD d)) := fun H1 e Q q E => ⟨v, d, rfl, dpM e h, f, fun H' s => q H' s⟩
theorem sv_step {d : PyData} (h : Dp K H v d) (f : fitT d) : SpV (spStep K) [v] H (.bl (isStepD d)) := fun H1 e Q q E => ⟨v, d, rfl, dpM e h, f, fun H' s => q H' s⟩
theorem ev_if' {a b : V} {k : Bool} (h : EvT t σ H k) (h1 : k = true → Ev ta σ H a) (h2 : k = false → Ev tb σ H b) : Ev (tIf t ta tb) σ H (if k = true then a else b) := ev_if h (fun e => by rw [if_pos e]; exact h1 e) (fun e => by rw [if_neg (by rw [e]; decide)]; exact h2 e)
/-- a comprehension over data: one value an item -/
theorem given_all {n : Nat} {f : Nat → Bool} {v : Nat → V} (h : ∀ i, i < n → f i = true) : given n f v = (List.range n).map v := by
  unfold given
  rw [List.filter_eq_self.mpr fun i hi => h i (List.mem_range.mp hi)]
theorem map_range {α : Type} {xs : List α} {g : Nat → V} {h : α → V} (e : ∀ i x, xs[i]? = some x → g i = h x) : (List.range xs.length).map g = xs.map h := by
  apply List.ext_getElem?
  intro i
  by_cases hi : i < xs.length
  · rw [List.getElem?_map, List.getElem?_map, List.getElem?_range hi]
    have q : xs[i]? = some xs[i] := List.getElem?_eq_getElem hi
    rw [q]
    show some (g i) = some (h xs[i])
    rw [e i _ q]
  · rw [List.getElem?_eq_none (by simp; omega), List.getElem?_eq_none (by simp; omega)]
theorem el_lcD {a : Addr} {xs : List V} {ds : List PyData} {tl : TE} {j : Nat} {vs : List Nat} (f : PyData → V) (h : Ev tl σ H (.ref a)) (hx : SqL K H a xs) (hd : DpAll K H xs ds) (hz : xs.length ≤ 40000) (hw : ∀ x, wipe ((wipe σ vs).set j (some x)) vs = wipe σ vs)
    (he : ∀ x d, d ∈ ds → Dp K H x d → Ev te ((wipe σ vs).set j (some x)) H (f d)) : EvL (tLc (iList K tl) (gName j) tYes te vs) σ H (ds.map f) := by
  have hl := dpLen hd
  have e := el_lcL (K := K) (σ := σ) (H := H) (te := te) (t := tYes) (tl := tl) (j := j) (vs := vs) (fun _ => true) (fun i => f (ds.getD i .none)) h hx hz hw (fun i x H1 e1 hi H2 e2 Q q => q H2 (Ex.refl _)) (fun i x H1 e1 hi _ => by
    obtain ⟨d, h1, h2⟩ := daG hd hi
    have e3 : ds.getD i .none = d := by rw [List.getD_eq_getElem?_getD, h1]; rfl
    rw [e3]
    exact (he x d (List.mem_of_getElem? h1) h2).mono e1)
  rw [given_all (fun _ _ => rfl), hl, map_range (h := f) fun i d hi => by rw [List.getD_eq_getElem?_getD, hi]; rfl] at e
  exact e
/-- over a tuple -/
theorem el_lcT {a : Addr} {xs : List V} {tl : TE} {j : Nat} {vs : List Nat} (f : Nat → Bool) (v : Nat → V) (h : Ev tl σ H (.ref a)) (hx : SqT K H a xs) (hz : xs.length ≤ 40000) (hw : ∀ x, wipe ((wipe σ vs).set j (some x)) vs = wipe σ vs)
    (ht : ∀ (i : Nat) (x : V) H1, Ex H H1 → xs[i]? = some x → EvT t ((wipe σ vs).set j (some x)) H1 (f i)) (he : ∀ (i : Nat) (x : V) H1, Ex H H1 → xs[i]? = some x → f i = true → Ev te ((wipe σ vs).set j (some x)) H1 (v i)) :
    EvL (tLc (iTup K tl) (gName j) t te vs) σ H (given xs.length f v) := fun H0 e Q q => h H0 e _ fun H1 e1 => ⟨a, rfl, ⟨xs, ex_t (e.trans e1) hx⟩, fun Dl hD =>
  lc_tup (xs := xs) (Cw H1 f v Dl) ⟨hD, Ex.new hD, upd_same⟩ (fun i H' _ p => ex_t ((e.trans e1).trans p.2.1) hx) (fun i x H' hi p => ⟨hw x, cw_turn p (by have := (List.getElem?_eq_some_iff.mp hi).1; omega) (ht i x H1 (e.trans e1) hi) (fun hf => he i x H1 (e.trans e1) hi hf)⟩)
    (fun H' p => q Dl H' (fresh_back e1 p.1) (e1.trans p.2.1) p.2.2)⟩
theorem el_lcDT {a : Addr} {xs : List V} {ds : List PyData} {tl : TE} {j : Nat} {vs : List Nat} (f : PyData → V) (h : Ev tl σ H (.ref a)) (hx : SqT K H a xs) (hd : DpAll K H xs ds) (hz : xs.length ≤ 40000) (hw : ∀ x, wipe ((wipe σ vs).set j (some x)) vs = wipe σ vs)
    (he : ∀ x d, d ∈ ds → Dp K H x d → Ev te ((wipe σ vs).set j (some x)) H (f d)) : EvL (tLc (iTup K tl) (gName j) tYes te vs) σ H (ds.map f) := by
  have hl := dpLen hd
  have e := el_lcT (K := K) (σ := σ) (H := H) (te := te) (t := tYes) (tl := tl) (j := j) (vs := vs) (fun _ => true) (fun i => f (ds.getD i .none)) h hx hz hw (fun i x H1 e1 hi H2 e2 Q q => q H2 (Ex.refl _)) (fun i x H1 e1 hi _ => by
    obtain ⟨d, h1, h2⟩ := daG hd hi
    have e3 : ds.getD i .none = d := by rw [List.getD_eq_getElem?_getD, h1]; rfl
    rw [e3]
    exact (he x d (List.mem_of_getElem? h1) h2).mono e1)
  rw [given_all (fun _ _ => rfl), hl, map_range (h := f) fun i d hi => by rw [List.getD_eq_getElem?_getD, hi]; rfl] at e
  exact e
theorem map_bl {ds : List PyData} {p : PyData → Bool} : ds.map (fun d => V.bl (p d)) = (ds.map p).map V.bl := by rw [List.map_map]; rfl
theorem all_map {ds : List PyData} {p : PyData → Bool} : (ds.map p).all id = ds.all p := by rw [List.all_map]; rfl
theorem any_map {ds : List PyData} {p : PyData → Bool} : (ds.map p).any id = ds.any p := by rw [List.any_map]; rfl
end
end KW
end
section
set_option Elab.async false
set_option linter.all false
set_option autoImplicit false
set_option maxRecDepth 100000
set_option maxHeartbeats 4000000
/-! steps.py: are_steps and the rest -/
namespace KW
open PySem PySem.Spec PyProof.Rows L2 He KR Evl
section
variable {P : Program} {w : World} {K : PySem.W.Frag} {mg : Str → Option Value} {base : Heap}
def fitL : PyData → Prop
  | .list ds => ds.length ≤ 10000 ∧ ∀ e ∈ ds, fitT e
  | _ => True
theorem wordD_get {d : PyData} (h : isStepD d = true) : ∃ r, d = .tuple (.str (wordD d) :: r) := by
  cases d with
  | tuple ds => cases ds with
    | nil => cases h
    | cons a r => cases a <;> first | exact ⟨_, rfl⟩ | (cases h)
  | _ => cases h
theorem step_at {H : Hp} {x : V} {d : PyData} (hd : Dp K H x d) (h : isStepD d = true) : ∃ a ws, x = .ref a ∧ SqT K H a (.str (wordD d) :: ws) := by
  obtain ⟨r, e⟩ := wordD_get h
  rw [e] at hd
  obtain ⟨a, xs, rfl, hx, ha⟩ := dpT hd
  obtain ⟨v, ws, rfl, h0, _⟩ := dpC ha
  rw [dpS h0] at hx
  exact ⟨a, ws, rfl, hx⟩
/-- step[0] -/
theorem ev_word {σ : L2.St} {H : Hp} {te : TE} {x : V} {d : PyData} (he : Ev te σ H x) (hd : Dp K H x d) (h : isStepD d = true) : Ev (tOp (rIxT K) te (tC (.int 0))) σ H (.str (wordD d)) := by
  obtain ⟨a, ws, rfl, hx⟩ := step_at hd h
  exact ev_op he ev_c (rv_ixT hx at0)
theorem sc_are_steps : FnScope ["thing", "step", "deep"] ["thing"] (defScope s_are_steps) := ⟨rfl, rfl, rfl, by decide +kernel, rfl, by decide +kernel, by decide +kernel⟩
def spSteps (K : PySem.W.Frag) : Sp := fun vs H Q _ => ∃ v d, vs = [v] ∧ (Dp K H v d ∨ (d = .dict [] ∧ ∃ a, v = .ref a ∧ H a = some (.dK []))) ∧ fitL d ∧ ∀ H', Same H H' → Q (.bl (areStepsD d)) H'
theorem ok_are_steps (T : Txt w K mg) : FnOk P w K mg base CX0 4 (f_are_steps K) (fdAt K (f_are_steps K)) ["thing"] (spSteps K) := by
  obtain ⟨tR, h_MOST_STEPS⟩ := in_MOST_STEPS T
  refine (df_are_steps T).ok sc_are_steps (fun vs H Q E h => ?_) (fun cdv A outer s H vs Q E hr h => ?_)
  · obtain ⟨v, d, rfl, _⟩ := h
    rfl
  · obtain ⟨v, d, rfl, hd, hf, q⟩ := h
    refine ⟨_, PSs.nox ((pss_cons (ps_if (PW.pt (pw_or (pt_not (pt_val (pe_callB (call_isiK1 (K := K) rfl) (by rfl) (fr_isinstance T) (by decide +kernel) (pa_cons (pv 0) (pa_cons (pe_bltn (v := .ty "list") (u := .type "list") (by rfl) (fr_list T) (by decide +kernel) rfl) pa_nil))))) (pw_or (pt_not (pt_chain op_le op_le pe_int (pe_callB (call_lenK (K := K) rfl) (by rfl) (fr_len T) PySem.boot_len (pa_cons (pv 0) pa_nil)) (pe_glob (v := .int 12) rfl h_MOST_STEPS ⟨_, rfl⟩))) (pw_or1 (pt_not (pt_val (pe_callB (cr_allK rfl (K := K) rfl) (by rfl) (fr_all T) (by decide +kernel) (pa_cons (pe_lc (own := [("step", 1)]) (g := gName 1) (tt := tYes) rfl sc_are_steps.nd (pi_listK (K := K) rfl (pv 0)) (blkOk_by (N := ["thing", "step", "deep"]) (sc := defScope s_are_steps) (by decide +kernel)) (fun _ _ _ _ _ => pg_name (i := 1) sc_are_steps.nd rfl (Or.inl rfl)) (fun _ _ _ _ _ => pts_nil) (fun _ _ _ _ _ => (pe_call (ok_is_step T) (hr.mono (by decide)) rfl (gl_is_step T) (df_is_step T).kp (bi_is_step T) .nil pass0 (pa_cons (pv 1) pa_nil)))) pa_nil)))))))) (pss_one (ps_ret pe_bl)) pss_nil)
      (pss_cons (ps_set (i := 2) sc_are_steps.nd rfl (Or.inl rfl) pe_int)
      (pss_cons (ps_for PassesOwn.never rfl (pi_listK (K := K) rfl (pv 0)) (pg_name (i := 1) sc_are_steps.nd rfl (Or.inl rfl)) (pss_cons (ps_aug (i := 2) sc_are_steps.nd rfl (Or.inl rfl) (pe_ifExp (pt_cmpR op_eq ((pe_ix (ix_tupK (K := K) rfl) (pv 1) pe_int (fun _ _ => rfl))) pe_str (nomark _)) pe_int (pe_ifExp (pt_cmpR op_eq ((pe_ix (ix_tupK (K := K) rfl) (pv 1) pe_int (fun _ _ => rfl))) pe_str (nomark _)) (pe_un un_neg pe_int) pe_int)) ip_add)
      (pss_one (ps_if (pt_cmpR op_lt (pv 2) pe_int (nomark _)) (pss_one (ps_ret pe_bl)) pss_nil))))
      (pss_one (ps_ret (pe_callB (cr_anyK rfl (K := K) rfl) (by rfl) (fr_any T) (by decide +kernel) (pa_cons (pe_lc (own := [("step", 1)]) (g := gName 1) (tt := tYes) rfl sc_are_steps.nd (pi_listK (K := K) rfl (pv 0)) (blkOk_by (N := ["thing", "step", "deep"]) (sc := defScope s_are_steps) (by decide +kernel)) (fun _ _ _ _ _ => pg_name (i := 1) sc_are_steps.nd rfl (Or.inl rfl)) (fun _ _ _ _ _ => pts_nil) (fun _ _ _ _ _ => (pe_cmpR op_eq ((pe_ix (ix_tupK (K := K) rfl) (pv 1) pe_int (fun _ _ => rfl))) pe_str (nomark _)))) pa_nil)))))))), ?_⟩
    by_cases hL : isT (tyD d) "list" = true
    · obtain ⟨ds, rfl⟩ : ∃ ds, d = .list ds := by cases d <;> first | exact ⟨_, rfl⟩ | (cases hL)
      have hd : Dp K H v (.list ds) := by
        rcases hd with h | ⟨h, _⟩
        · exact h
        · cases h
      obtain ⟨hl, hf⟩ := hf
      obtain ⟨a, xs, rfl, hx, ha⟩ := dpL hd
      have hlen := dpLen ha
      refine q_when (b := !(true) || (!(decide ((1 : Int) ≤ (xs.length : Int)) && decide ((xs.length : Int) ≤ 12)) || !(ds.all isStepD))) ?_ (fun hb H1 e1 => ?_) (fun hb H1 e1 => ?_)
      · refine et_or (et_not (et_B (ev_is (ev_isi (ev_var rfl) hd) rfl))) fun _ => ?_
        refine et_or (et_not (et_test (ev_chain ev_c (ev_lenS (ev_var rfl) (.inl hx)) rv_I0 (fun _ => ev_c) (fun _ => rv_I0)))) fun _ => ?_
        refine et_not (et_B (ev_is (ev_all (bs := ds.map isStepD) (by
          rw [← map_bl]
          exact el_lcD (fun d => V.bl (isStepD d)) (ev_var rfl) hx ha (by omega) (fun _ => rfl) fun x d hm hd => ev_call (ea_cons (ev_var rfl) ea_nil) (sv_step hd (hf d hm)))) (by rw [all_map])))
      · refine s_ret ev_c fun H2 e2 => ?_
        have q' := q _ (e1.trans e2)
        have e : areStepsD (.list ds) = false := by
          show areStepsL ds = false
          unfold areStepsL
          rw [← hlen]
          cases h1 : (decide ((1 : Int) ≤ (xs.length : Int)) && decide ((xs.length : Int) ≤ 12)) with
          | false => rw [Bool.false_and]
          | true => cases h2 : ds.all isStepD with
            | false => rw [Bool.false_and, Bool.and_false]
            | true => rw [h1, h2] at hb; cases hb
        rw [e] at q'
        exact q'
      · -- deep
        have hb2 : ((decide ((1 : Int) ≤ (xs.length : Int)) && decide ((xs.length : Int) ≤ 12)) && ds.all isStepD) = true := by
          cases h1 : (decide ((1 : Int) ≤ (xs.length : Int)) && decide ((xs.length : Int) ≤ 12)) with
          | false => rw [h1] at hb; cases hb
          | true => cases h2 : ds.all isStepD with
            | false => rw [h1, h2] at hb; cases hb
            | true => rfl
        obtain ⟨_, hall⟩ := ba hb2
        have hst : ∀ d ∈ ds, isStepD d = true := List.all_eq_true.mp hall
        refine q_asg ev_c fun H2 e2 => ?_
        have e12 := e1.trans e2
        refine q_forLn (ev_var rfl) ((e12.trans (Ex.refl _)) |> fun e => ex_l e hx) (fun i σ' H' => ∃ st dp, σ' = [some (.ref a), st, some (.int dp)] ∧ Ex H H' ∧ deepOk ds 0 = deepOk (ds.drop i) dp) (fun H3 e3 => ⟨_, 0, rfl, e12.trans e3, rfl⟩)
          (fun i σ' H' _ ⟨_, _, _, e, _⟩ => ex_l e hx) (fun i x σ' H' hi ⟨st, dp, es, e, hdp⟩ => ?_) (fun σ' H' ⟨st, dp, es, e, hdp⟩ => ?_)
        · subst es
          obtain ⟨d, hdi, hxd⟩ := daG ha hi
          have hm : d ∈ ds := List.mem_of_getElem? hdi
          have hw : Ev (tOp (rIxT K) (tVar 1) (tC (.int 0))) [some (.ref a), some x, some (.int dp)] H' (.str (wordD d)) := ev_word (ev_var rfl) (dpM e hxd) (hst d hm)
          have edr : ds.drop i = d :: ds.drop (i + 1) := by
            obtain ⟨hlt, e⟩ := List.getElem?_eq_some_iff.mp hdi
            rw [List.drop_eq_getElem_cons hlt, e]
          have hdp2 : deepOk ds 0 = if dp + deepOf (wordD d) < 0 then false else deepOk (ds.drop (i + 1)) (dp + deepOf (wordD d)) := by rw [hdp, edr]; rfl
          refine q_aug (b := deepOf (wordD d)) rfl ?_ fun H3 e3 => ?_
          · refine ev_is (ev_if' (et_test (ev_is (ev_op hw ev_c (rv_eq rfl)) rfl)) (fun _ => ev_c) fun _ => ev_if' (et_test (ev_is (ev_op hw ev_c (rv_eq rfl)) rfl)) (fun _ => ev_un ev_c ru_neg) (fun _ => ev_c)) ?_
            unfold deepOf
            generalize wordD d = y
            by_cases h1 : y = "mask"
            · subst h1; rfl
            · by_cases h2 : y = "open"
              · subst h2; rfl
              · have n1 : ¬ V.str y = V.str "mask" := fun e => h1 (V.str.inj e)
                have n2 : ¬ V.str y = V.str "open" := fun e => h2 (V.str.inj e)
                simp [h1, h2, n1, n2]
          · refine s_when (et_test (ev_op (ev_var rfl) ev_c rv_I0)) (fun hb H4 e4 => ?_) fun hb H4 e4 => ?_
            · refine s_ret ev_c fun H5 e5 => ?_
              have q' := q _ (((e.trans e3).trans e4).trans e5)
              have e6 : areStepsD (.list ds) = false := by
                show areStepsL ds = false
                unfold areStepsL
                rw [hdp2, if_pos (of_decide_eq_true hb), Bool.false_and, Bool.and_false, Bool.and_false]
              rw [e6] at q'
              exact q'
            · exact ⟨_, _, rfl, (e.trans e3).trans e4, by rw [hdp2, if_neg (of_decide_eq_false hb)]⟩
        · subst es
          have hdp : deepOk ds 0 = true := by rw [hdp, dpLen ha, List.drop_length]; rfl
          refine s_ret (ev_any (bs := ds.map fun s => decide (wordD s = "run")) (by
            rw [← map_bl]
            refine el_lcD (fun s => V.bl (decide (wordD s = "run"))) (ev_var rfl) (ex_l e hx) (daM e ha) (by omega) (fun _ => rfl) fun x d hm hd => ev_is (ev_op (ev_word (ev_var rfl) hd (hst d hm)) ev_c (rv_eq rfl)) ?_
            by_cases h1 : wordD d = "run"
            · rw [h1]; rfl
            · have n1 : ¬ V.str (wordD d) = V.str "run" := fun e => h1 (V.str.inj e)
              simp [h1, n1])) fun H2 e2 => ?_
          have q' := q _ (e.trans e2)
          have e6 : areStepsD (.list ds) = (ds.map fun s => decide (wordD s = "run")).any id := by
            show areStepsL ds = _
            unfold areStepsL
            rw [any_map, hdp, ← hlen]
            obtain ⟨h1, h2⟩ := ba hb2
            rw [h1, h2]
            simp
          rw [e6] at q'
          exact q'
    · have e0 : areStepsD d = false := by cases d <;> first | rfl | (exact absurd rfl hL)
      have hL : isT (tyD d) "list" = false := by cases z : isT (tyD d) "list" <;> first | rfl | exact absurd z hL
      have hti : Ev (tCB (rIsi K) (tCons (tVar 0) (tCons (tC (.ty "list")) tNil))) [some v, none, none] H (.bl false) := by
        rcases hd with hd | ⟨rfl, a, rfl, hz⟩
        · exact ev_is (ev_isi (ev_var rfl) hd) (by rw [hL])
        · exact fun H1 e Q q => (ev_var rfl : Ev (tVar 0) [some (.ref a), none, none] H (.ref a)) H1 e _ fun H2 e2 => ⟨.ref a, _, _, _, _, rfl, .ty _, .base (.dK ((e.trans e2) _ _ hz)), rfl, q H2 e2⟩
      refine q_when (b := true) (et_is (et_or (et_not (et_B hti)) (b := true) (fun h => by cases h)) rfl) (fun _ H1 e1 => ?_) (fun h => by cases h)
      refine s_ret ev_c fun H2 e2 => ?_
      have q' := q _ (e1.trans e2)
      rw [e0] at q'
      exact q'
end
end KW
end
section
set_option Elab.async false
set_option linter.all false
set_option autoImplicit false
set_option maxRecDepth 100000
set_option maxHeartbeats 4000000
/-! data of bounded size; the promise of a look -/
namespace KW
open PySem PySem.Spec PyProof.Rows L2 He KR Evl
mutual
def Sm : PyData → Prop
  | .str x => x.length ≤ 10000
  | .list ds => ds.length ≤ 10000 ∧ SmA ds
  | .tuple ds => ds.length ≤ 10000 ∧ SmA ds
  | _ => True
def SmA : List PyData → Prop
  | [] => True
  | d :: r => Sm d ∧ SmA r
end
theorem SmA_mem : ∀ {ds : List PyData}, SmA ds → ∀ d ∈ ds, Sm d
  | [], _, _, h => nomatch h
  | d :: r, h, e, he => by
    unfold SmA at h
    rcases List.mem_cons.mp he with rfl | he
    · exact h.1
    · exact SmA_mem h.2 e he
theorem Sm_tup {ds : List PyData} (h : Sm (.tuple ds)) : ds.length ≤ 10000 ∧ SmA ds := by unfold Sm at h; exact h
theorem Sm_list {ds : List PyData} (h : Sm (.list ds)) : ds.length ≤ 10000 ∧ SmA ds := by unfold Sm at h; exact h
theorem Sm_str {x : Str} (h : Sm (.str x)) : x.length ≤ 10000 := by unfold Sm at h; exact h
theorem Sm_fitD {d : PyData} (h : Sm d) : fitD d := by
  cases d with
  | str x => have := Sm_str h; show x.length ≤ 100000; omega
  | _ => trivial
theorem Sm_fitT {d : PyData} (h : Sm d) : fitT d := by
  cases d with
  | tuple ds => obtain ⟨a, b⟩ := Sm_tup h; exact ⟨a, fun e he => Sm_fitD (SmA_mem b e he)⟩
  | _ => trivial
theorem Sm_fitL {d : PyData} (h : Sm d) : fitL d := by
  cases d with
  | list ds => obtain ⟨a, b⟩ := Sm_list h; exact ⟨a, fun e he => Sm_fitT (SmA_mem b e he)⟩
  | _ => trivial
section
variable {P : Program} {w : World} {K : PySem.W.Frag} {mg : Str → Option Value} {base : Heap} {H H' : Hp} {v : V}
/-- a look at a thing -/
def spQ (K : PySem.W.Frag) (p : PyData → Bool) : Sp := fun vs H Q _ => ∃ v d, vs = [v] ∧ Dp K H v d ∧ Sm d ∧ ∀ H', Same H H' → Q (.bl (p d)) H'
theorem sv_q {p : PyData → Bool} {d : PyData} (h : Dp K H v d) (f : Sm d) : SpV (spQ K p) [v] H (.bl (p d)) := fun H1 e Q q E => ⟨v, d, rfl, dpM e h, f, fun H' s => q H' s⟩
/-- if ..: return False -/
theorem ret_no {tt : TT} {tz : TS} {σ : L2.St} {n : L2.St → Hp → Prop} {Q : VK} {b : Bool} (q : ∀ H', Same H H' → Q (.bl b) H') (e : b = false) (ht : EvT tt σ H true) : tSeq (tIfS tt (tRet (tC (.bl false))) tNext) tz { nx := n, rt := Q } σ H := by
  refine q_when ht (fun _ H1 e1 => s_ret ev_c fun H2 e2 => ?_) fun h => by cases h
  have q' := q _ (e1.trans e2)
  rw [e] at q'
  exact q'
theorem not_tup {d : PyData} (h : ¬ ∃ ds, d = .tuple ds) : isT (tyD d) "tuple" = false := by cases d <;> first | rfl | exact absurd ⟨_, rfl⟩ h
theorem int_ne {n : Nat} {k : Nat} (h : ¬ n = k) : decide (V.int (n : Int) = V.int (k : Int)) = false := decide_eq_false fun e => h (by have := V.int.inj e; omega)
theorem isT_bool {d : PyData} : isT (tyD d) "bool" = isBoolD d := by cases d <;> rfl
theorem eu_slT {te : TE} {σ : L2.St} {tl th : TO} {a : Addr} {xs : List V} {lo hi : Option Int} (h : Ev te σ H (.ref a)) (h1 : EvO tl σ H lo) (h2 : EvO th σ H hi) (hs : SqT K H a xs) (hn : ¬ (HT.sIx xs.length 0 lo = 0 ∧ HT.sIx xs.length xs.length hi = xs.length)) : EvU (tSl (rSlT K) te tl th) σ H (cutV xs lo hi) := fun H1 e _ q =>
  h H1 e _ fun H2 e2 => h1 H2 (e.trans e2) _ fun H3 e3 => h2 H3 ((e.trans e2).trans e3) _ fun H4 e4 => ⟨a, xs, rfl, ex_t (((e.trans e2).trans e3).trans e4) hs, hn, fun p hp => q p _ (fresh_back ((e2.trans e3).trans e4) hp) (((e2.trans e3).trans e4).trans (Ex.new hp)) upd_same⟩
/-- a comprehension over a new tuple of data -/
theorem el_lcUT {te : TE} {σ : L2.St} {xs : List V} {ds : List PyData} {tl : TE} {j : Nat} {vs : List Nat} (f : PyData → V) (h : EvU tl σ H xs) (hd : DpAll K H xs ds) (hz : xs.length ≤ 40000) (hw : ∀ x, wipe ((wipe σ vs).set j (some x)) vs = wipe σ vs)
    (he : ∀ H1, Ex H H1 → ∀ x d, d ∈ ds → Dp K H1 x d → Ev te ((wipe σ vs).set j (some x)) H1 (f d)) : EvL (tLc (iTup K tl) (gName j) tYes te vs) σ H (ds.map f) := fun H0 e Q q => h H0 e _ fun a H1 hn e1 hx => by
  have e2 : Ex H H1 := e.trans e1
  refine el_lcDT (K := K) (σ := σ) (H := H1) (te := te) (tl := fun _ H Q => Q (.ref a) H) (a := a) (xs := xs) (ds := ds) f (fun H2 _ Q q => q H2 (Ex.refl _)) (st_of hx) (daM e2 hd) hz hw (fun x d hm hxd => he H1 e2 x d hm hxd) H1 (Ex.refl _) Q fun p H2 hp e3 hx2 => q p H2 (fresh_back e1 hp) (e1.trans e3) hx2
theorem okq_is_name (T : Txt w K mg) : FnOk P w K mg base CX0 1 (f_is_name K) (fdAt K (f_is_name K)) ["thing"] (spQ K isNameD) := (ok_is_name T).imp fun vs H Q E h => by
  obtain ⟨v, d, e, hd, hs, q⟩ := h
  exact ⟨v, d, e, hd, Sm_fitD hs, q⟩
theorem okq_are_steps (T : Txt w K mg) : FnOk P w K mg base CX0 4 (f_are_steps K) (fdAt K (f_are_steps K)) ["thing"] (spQ K areStepsD) := (ok_are_steps T).imp fun vs H Q E h => by
  obtain ⟨v, d, e, hd, hs, q⟩ := h
  exact ⟨v, d, e, .inl hd, Sm_fitL hs, q⟩
end
end KW
end
section
set_option Elab.async false
set_option linter.all false
set_option autoImplicit false
set_option maxRecDepth 100000
set_option maxHeartbeats 1000000
/-! how many unlike keys: len of a set comprehension -/
namespace KW
open PySem PySem.Spec PyProof.Rows L2 He KR Evl
def inK (k : L2.Key) : List L2.Key → Bool
  | [] => false
  | x :: r => decide (k = x) || inK k r
theorem inK_iff {k : L2.Key} : ∀ {l : List L2.Key}, inK k l = true ↔ k ∈ l
  | [] => by simp [inK]
  | x :: r => by simp [inK, inK_iff (l := r)]
theorem inK_app {k x : L2.Key} : ∀ {l : List L2.Key}, inK k (l ++ [x]) = (inK k l || decide (k = x))
  | [] => by simp [inK]
  | y :: r => by
    show (decide (k = y) || inK k (r ++ [x])) = ((decide (k = y) || inK k r) || decide (k = x))
    rw [inK_app (l := r), Bool.or_assoc]
/-- how many unlike ones, seen from the last on -/
def dcr : List L2.Key → Nat
  | [] => 0
  | k :: r => if inK k r = true then dcr r else dcr r + 1
def dc (ks : List L2.Key) : Nat := dcr ks.reverse
theorem dcr_le : ∀ l : List L2.Key, dcr l ≤ l.length
  | [] => Nat.le_refl _
  | k :: r => by
    have := dcr_le r
    unfold dcr
    split <;> simp <;> omega
theorem dcr_eq : ∀ l : List L2.Key, dcr l = l.length ↔ l.Nodup
  | [] => by simp [dcr]
  | k :: r => by
    have h1 := dcr_le r
    have h2 := dcr_eq r
    unfold dcr
    by_cases hk : inK k r = true
    · rw [if_pos hk]
      have := inK_iff.mp hk
      simp [this]
      omega
    · rw [if_neg hk]
      have : ¬ k ∈ r := fun e => hk (inK_iff.mpr e)
      simp [this, h2]
theorem dc_eq (l : List L2.Key) : dc l = l.length ↔ l.Nodup := by
  unfold dc
  have := dcr_eq l.reverse
  rw [List.length_reverse] at this
  exact this.trans ⟨fun h => (List.pairwise_reverse.mp h).imp fun e => Ne.symm e, fun h => List.pairwise_reverse.mpr (h.imp fun e => Ne.symm e)⟩
theorem dc_le (l : List L2.Key) : dc l ≤ l.length := by
  have := dcr_le l.reverse
  rw [List.length_reverse] at this
  exact this
section
variable {P : Program} {w : World} {K : PySem.W.Frag} {σ : L2.St} {H H' : Hp} {te : TE}
theorem sc_core {J : It} {ks : List L2.Key} {j : Nat} {vs : List Nat} {H1 : Hp} {D : Addr} {Q : VK} (hD : H1 D = none) (hz : ks.length ≤ 1000) (hw : ∀ x, wipe ((wipe σ vs).set j (some x)) vs = wipe σ vs)
    (hgo : ∀ i H', i < ks.length → Ex H1 H' → J.go i H') (hstop : ∀ H', Ex H1 H' → J.stop ks.length H') (hst : ∀ i x H' H2, i < ks.length → Ex H1 H' → J.yld i H' x H2 → H2 = H' ∧ ∀ k, ks[i]? = some k → Ev te ((wipe σ vs).set j (some x)) H1 (kV k))
    (hq : ∀ H', Ex H1 H' → H' D = some (SetK P w D (fun k => inK k ks) (dc ks)) → Q (.ref D) H') :
    ∃ W : Nat → Nat → Hp → Prop, (∃ m, W 0 m (upd H1 D (SetK P w D (fun _ => false) 0))) ∧ ∀ i m H, W i m H →
      (J.stop i H ∧ Q (.ref D) H) ∨ (J.go i H ∧ ∃ Nx : Hp → Prop, (∀ H', Nx H' → ∃ m', m' < m ∧ W (i + 1) m' H') ∧ ∀ x H', J.yld i H x H' → gName j x (wipe σ vs) H' fun σ2 H2 => wipe σ2 vs = wipe σ vs ∧ tYes σ2 H2 fun b H3 =>
        if b = true then te σ2 H3 fun y H4 => rSAddK P w (.ref D) [y] H4 fun _ H5 => Nx H5 else Nx H3) := by
  refine ⟨fun i m H => m = ks.length - i ∧ i ≤ ks.length ∧ Ex H1 H ∧ H D = some (SetK P w D (fun k => inK k (ks.take i)) (dc (ks.take i))), ⟨ks.length, by simp, Nat.zero_le _, Ex.new hD, by
    rw [upd_same, List.take_zero]
    rfl⟩, ?_⟩
  rintro i m H ⟨rfl, hi, e, hS⟩
  by_cases hlt : i < ks.length
  · refine .inr ⟨hgo i H hlt e, fun H' => (i + 1) ≤ ks.length ∧ Ex H1 H' ∧ H' D = some (SetK P w D (fun k => inK k (ks.take (i + 1))) (dc (ks.take (i + 1)))), fun H' ⟨h1, h2, h3⟩ => ⟨ks.length - (i + 1), by omega, rfl, h1, h2, h3⟩, fun x H' y => ?_⟩
    obtain ⟨rfl, hk⟩ := hst i x H H' hlt e y
    refine ⟨hw x, ?_⟩
    show te _ H' _
    have hki : ks[i]? = some ks[i] := List.getElem?_eq_getElem hlt
    refine hk _ hki H' e _ fun H4 e4 => ⟨D, ks[i], _, _, rfl, rfl, e4 _ _ hS, ?_, hlt, Ex.mut (e.trans e4) hD, ?_⟩
    · have h1 := dc_le (ks.take i)
      have h2 : (ks.take i).length ≤ i := by rw [List.length_take]; omega
      have : (2000 : Nat) < scanBound := by decide
      omega
    · rw [upd_same]
      have e1 : ks.take (i + 1) = ks.take i ++ [ks[i]] := by rw [List.take_add_one, hki]; rfl
      have e2 : (fun j : L2.Key => inK j (ks.take i) || decide (j = ks[i])) = fun j => inK j (ks.take (i + 1)) := by
        funext j
        rw [e1, inK_app]
      rw [e2]
      have e3 : (if inK ks[i] (ks.take i) = true then dc (ks.take i) else dc (ks.take i) + 1) = dc (ks.take (i + 1)) := by
        rw [e1]
        unfold dc
        rw [List.reverse_append]
        show _ = dcr (ks[i] :: (ks.take i).reverse)
        have e4 : inK ks[i] (ks.take i).reverse = inK ks[i] (ks.take i) := by
          rw [Bool.eq_iff_iff, inK_iff, inK_iff, List.mem_reverse]
        show _ = if inK ks[i] (ks.take i).reverse = true then dcr (ks.take i).reverse else dcr (ks.take i).reverse + 1
        rw [e4]
      rw [e3]
  · have : i = ks.length := by omega
    subst this
    refine .inl ⟨hstop H e, hq H e ?_⟩
    rw [hS, List.take_length]
/-- len({e for x in l}) of a list -/
theorem ev_lenScL {a : Addr} {xs : List V} {ks : List L2.Key} {tl : TE} {j : Nat} {vs : List Nat} (h : Ev tl σ H (.ref a)) (hx : SqL K H a xs) (hl : xs.length = ks.length) (hz : ks.length ≤ 1000) (hw : ∀ x, wipe ((wipe σ vs).set j (some x)) vs = wipe σ vs)
    (he : ∀ (i : Nat) (x : V) (k : L2.Key), xs[i]? = some x → ks[i]? = some k → Ev te ((wipe σ vs).set j (some x)) H (kV k)) :
    Ev (tCB (fun xs H Q => ∃ (a : Addr) (S : L2.Key → Bool) (n : Nat), xs = [.ref a] ∧ H a = some (SetK P w a S n) ∧ Q (.int n) H) (tCons (tScK P w (iList K tl) (gName j) tYes te vs) tNil)) σ H (.int (dc ks : Nat)) := fun H0 e Q q => h H0 e _ fun H1 e1 => ⟨a, rfl, ⟨xs, ex_l (e.trans e1) hx⟩, fun D hD => by
  refine sc_core (P := P) (w := w) (te := te) (J := Itl K a) (ks := ks) (Q := fun x H1 => ∃ (a : Addr) (S : L2.Key → Bool) (n : Nat), [x] = [V.ref a] ∧ H1 a = some (SetK P w a S n) ∧ Q (.int n) H1) hD hz hw (fun i H' hi e2 => ?_) (fun H' e2 => ?_) (fun i x H' H2 hi e2 y => ?_) (fun H' e2 hS => ?_)
  · exact ⟨xs, xs[i]'(by omega), ex_l ((e.trans e1).trans e2) hx, List.getElem?_eq_getElem (by omega)⟩
  · exact ⟨xs, ex_l ((e.trans e1).trans e2) hx, by omega⟩
  · obtain ⟨rfl, y⟩ := y
    exact ⟨rfl, fun k hk => (he i x k (y xs (ex_l ((e.trans e1).trans e2) hx)) hk).mono (e.trans e1)⟩
  · exact ⟨D, _, _, rfl, hS, q H' (e1.trans e2)⟩⟩
theorem ev_lenScT {a : Addr} {xs : List V} {ks : List L2.Key} {tl : TE} {j : Nat} {vs : List Nat} (h : Ev tl σ H (.ref a)) (hx : SqT K H a xs) (hl : xs.length = ks.length) (hz : ks.length ≤ 1000) (hw : ∀ x, wipe ((wipe σ vs).set j (some x)) vs = wipe σ vs)
    (he : ∀ (i : Nat) (x : V) (k : L2.Key), xs[i]? = some x → ks[i]? = some k → Ev te ((wipe σ vs).set j (some x)) H (kV k)) :
    Ev (tCB (fun xs H Q => ∃ (a : Addr) (S : L2.Key → Bool) (n : Nat), xs = [.ref a] ∧ H a = some (SetK P w a S n) ∧ Q (.int n) H) (tCons (tScK P w (iTup K tl) (gName j) tYes te vs) tNil)) σ H (.int (dc ks : Nat)) := fun H0 e Q q => h H0 e _ fun H1 e1 => ⟨a, rfl, ⟨xs, ex_t (e.trans e1) hx⟩, fun D hD => by
  refine sc_core (P := P) (w := w) (te := te) (J := Itt K a) (ks := ks) (Q := fun x H1 => ∃ (a : Addr) (S : L2.Key → Bool) (n : Nat), [x] = [V.ref a] ∧ H1 a = some (SetK P w a S n) ∧ Q (.int n) H1) hD hz hw (fun i H' hi e2 => ?_) (fun H' e2 => ?_) (fun i x H' H2 hi e2 y => ?_) (fun H' e2 hS => ?_)
  · exact ⟨xs, xs[i]'(by omega), ex_t ((e.trans e1).trans e2) hx, List.getElem?_eq_getElem (by omega)⟩
  · exact ⟨xs, ex_t ((e.trans e1).trans e2) hx, by omega⟩
  · obtain ⟨rfl, y⟩ := y
    exact ⟨rfl, fun k hk => (he i x k (y xs (ex_t ((e.trans e1).trans e2) hx)) hk).mono (e.trans e1)⟩
  · exact ⟨D, _, _, rfl, hS, q H' (e1.trans e2)⟩⟩
theorem ev_callL {i : Nat} {f : Addr} {sp : Sp} {dvs vs : List V} {E : XK} {ta : TA} {v : V} (hi : σ[i]? = some (some (.ref f))) (h : EvA ta σ H vs) (hs : SpV sp (vs ++ dvs) H v) : Ev (tCallL i f sp dvs E ta) σ H v := fun H1 e Q q =>
  ⟨hi, h H1 e _ fun H2 e2 => hs H2 (e.trans e2) Q (fun H3 e3 => q H3 (e2.trans e3)) E⟩
theorem dc_nodup {α : Type} [DecidableEq α] {f : α → L2.Key} (hf : ∀ a b, f a = f b → a = b) (l : List α) : decide (V.int (dc (l.map f) : Nat) = V.int (l.length : Nat)) = decide l.Nodup := by
  have h := dc_eq (l.map f)
  rw [List.length_map] at h
  have h2 : (l.map f).Nodup ↔ l.Nodup := by
    show List.Pairwise _ (l.map f) ↔ List.Pairwise _ l
    rw [List.pairwise_map]
    exact ⟨fun z => z.imp fun e x => e (congrArg f x), fun z => z.imp fun e x => e (hf _ _ x)⟩
  rw [h2] at h
  by_cases hn : l.Nodup
  · rw [decide_eq_true hn, h.mpr hn]
    exact decide_eq_true rfl
  · rw [decide_eq_false hn]
    exact decide_eq_false fun e => hn (h.mp (by have := V.int.inj e; omega))
/-- isinstance(x, (list, tuple)) of data -/
theorem ev_isiT {d : PyData} {x : V} {ta : TE} {b c : String} (ha : Ev ta σ H x) (hd : Dp K H x d) (hb : b ∈ ["int", "bool", "str", "list", "tuple"] := by decide) (hc : c ∈ ["int", "bool", "str", "list", "tuple"] := by decide) :
    Ev (tCB (rIsiT K) (tCons ta (tCons (tTup (tCons (tC (.ty b)) (tCons (tC (.ty c)) tNil))) tNil))) σ H (.bl (isT (tyD d) b || isT (tyD d) c)) := fun H1 e Q q =>
  ha H1 e _ fun H2 e2 => ⟨show [V.ty b, V.ty c].length ≤ sizeLine by rw [sizeLine_eq]; show 2 ≤ _; decide, fun p hp => ⟨x, p, _, _, _, _, rfl, upd_same, .cons (.ty _) (.cons (.ty _) .nil), ex_tyx ((e.trans e2).trans (Ex.new hp)) (dp_ty hd), by
    have h1 := kit_isT (K := K) d b hb
    have h2 := kit_isT (K := K) d c hc
    simp only [PySem.W.kitAny, h1, h2]
    cases isT (tyD d) b <;> cases isT (tyD d) c <;> rfl, q _ (e2.trans (Ex.new hp))⟩⟩
end
end KW
end
section
set_option Elab.async false
set_option linter.all false
set_option autoImplicit false
set_option maxRecDepth 100000
set_option maxHeartbeats 1000000
/-! zip of a tuple and a list -/
namespace KW
open PySem PySem.Spec PyProof.Rows L2 He KR Evl
def ItM (K : PySem.W.Frag) (a b : Addr) : It where
  go := fun i H => ∃ (xs ys : List V) (x y : V), (SqT K H a xs ∧ xs[i]? = some x) ∧ SqL K H b ys ∧ ys[i]? = some y
  yld := fun i H v H' => ∃ T x y, v = .ref T ∧ H T = none ∧ H' = upd H T (.tup [x, y]) ∧ (∀ xs, SqT K H a xs → xs[i]? = some x) ∧ ∀ ys, SqL K H b ys → ys[i]? = some y
  stop := fun i H => ∃ xs ys : List V, (SqT K H a xs ∧ SqL K H b ys) ∧ (i = xs.length ∨ i = ys.length) ∧ i ≤ xs.length ∧ i ≤ ys.length
theorem turn_M {P : Program} {w : World} {K : PySem.W.Frag} {elts : List Expr} {kk : Nat} {tpos : Pos} {a b z TI TO i1 i2 : Addr} (S : ZipSep2 z TI TO i1 i2 [i1, a] [i2, b]) :
    Turn P w K (.Tuple elts kk tpos) (ItM K a b) [z, TI, TO, i1, i2] z (fun i h => (IsZip h z TI TO .none ∧ IsTupOf2 h TI (.ref i1) (.ref i2)) ∧ (∃ x y, IsTupOf2 h TO x y) ∧ h.IsTupleIter i1 a i ∧ h.IsListIter i2 b i) := by
  have five : ∀ {c : Addr}, c ∈ [z, TI, TO, i1, i2] → c = z ∨ c = TI ∨ c = TO ∨ c = i1 ∨ c = i2 := fun h => by simpa using h
  have m1 := S.zf1
  have m2 := S.Tf1
  have m3 := S.zf2
  have m4 := S.Tf2
  simp only [List.mem_cons, List.not_mem_nil, or_false, not_or] at m1 m2 m3 m4
  refine ⟨by simp, fun i h st c hc => ?_, fun i h h' st k => ?_, ?_, ?_, fun A i s Q E st h => wpAny_pyIter_zip st.1.1 h⟩
  · obtain ⟨⟨g1, g2⟩, ⟨x, y, g3⟩, ⟨o1, e1, _, d1⟩, ⟨o2, e2, _, d2⟩⟩ := st
    rcases five hc with rfl | rfl | rfl | rfl | rfl
    · exact ⟨_, g1, fun v q => nomatch q⟩
    · exact ⟨_, g2, fun v q => nomatch q⟩
    · exact ⟨_, g3, fun v q => nomatch q⟩
    · exact ⟨o1, e1, fun v q => by rw [d1] at q; cases q⟩
    · exact ⟨o2, e2, fun v q => by rw [d2] at q; cases q⟩
  · obtain ⟨⟨g1, g2⟩, ⟨x, y, g3⟩, g4, g5⟩ := st
    exact ⟨⟨k z (by simp) _ g1, k TI (by simp) _ g2⟩, ⟨x, y, k TO (by simp) _ g3⟩, g4.at fun o q => k i1 (by simp) o q, g5.at fun o q => k i2 (by simp) o q⟩
  · intro X hP hw hK hc i pins s σ H E I hf st hg
    subst hP hw hK
    obtain ⟨⟨g1, g2⟩, ⟨x0, y0, g3⟩, g4, g5⟩ := st
    obtain ⟨xs, ys, x, y, ⟨hqx, hx⟩, hqy, hy⟩ := hg
    obtain ⟨us, rv, p, _⟩ := I.tuple hqx
    obtain ⟨vs, rv2, p2, _⟩ := I.list hqy
    obtain ⟨u, hu, ru⟩ := rv.get hx
    obtain ⟨v, hv, ru2⟩ := rv2.get hy
    have hh : X.A.in1.handled = none := I.ok.hd hc
    have hzl : z < s.heap.objs.size := Heap.lt_size g1
    have n1 : a ≠ i1 := fun q => by
      obtain ⟨o, ho, hoc, _⟩ := g4
      obtain ⟨o', ho', hoc', _⟩ := p
      rw [q, ho] at ho'
      cases ho'
      rw [hoc] at hoc'
      injection hoc' with e
      exact absurd e (by decide)
    have n2 : b ≠ i2 := fun q => by
      obtain ⟨o, ho, hoc, _⟩ := g5
      obtain ⟨o', ho', hoc', _⟩ := p2.isList
      rw [q, ho] at ho'
      cases ho'
      rw [hoc] at hoc'
      injection hoc' with e
      exact absurd e (by decide)
    refine wpAny_pyNext_zipD2_item S (Draws.tuple hh i1 a n1 us.toArray) (Draws.list hh i2 b n2 vs.toArray) g1 g2 g3 ⟨g4, p⟩ ⟨g5, p2.isList⟩ (i := i) (by have := (List.getElem?_eq_some_iff.mp hu).1; simpa using this) (by have := (List.getElem?_eq_some_iff.mp hv).1; simpa using this) fun x1 x2 h' tk y1 y2 z' TO' st1 st2 hT hsz hk => ?_
    have ex1 : x1 = u := by
      have y1 : us.toArray[i]? = some x1 := y1
      rw [List.getElem?_toArray, hu] at y1
      exact (Option.some.inj y1).symm
    have ex2 : x2 = v := by
      have y2 : vs.toArray[i]? = some x2 := y2
      rw [List.getElem?_toArray, hv] at y2
      exact (Option.some.inj y2).symm
    subst ex1 ex2
    refine ⟨_, rfl, wpAny_letOwnedTupleGo_zip (s := { s with heap := h', toks := tk }) z' fun h2 z2 sb => ?_⟩
    have hT2 : h2.get? s.heap.objs.size = some { cls := .type "tuple", data := .seq #[x1, x2] } := (sb.2 _ (Nat.ne_of_gt hzl)).trans hT
    have new : ObjOk X.prog X.w (upd H s.heap.objs.size (.tup [x, y])) h2 s.heap.objs.size (.tup [x, y]) := ⟨show 2 ≤ sizeLine by decide, [x1, x2], .cons ru (.cons ru2 .nil), ⟨_, hT2, rfl, _, rfl⟩⟩
    have keep : ∀ c o, c ∉ [z, TI, TO, i1, i2] → s.heap.get? c = some o → h2.get? c = some o := fun c o hb q => by
      have hb' : ¬ (c = z) ∧ ¬ (c = TO) ∧ ¬ (c = i1) ∧ ¬ (c = i2) := ⟨fun e => hb (by simp [e]), fun e => hb (by simp [e]), fun e => hb (by simp [e]), fun e => hb (by simp [e])⟩
      exact (sb.2 c hb'.1).trans (hk c o hb'.1 hb'.2.1 hb'.2.2.1 hb'.2.2.2 q)
    have I1 : Inv X pins σ (upd H s.heap.objs.size (.tup [x, y])) { s with heap := h2, toks := tk } := I.turnedNew (t' := tk) (ch := [z, TI, TO, i1, i2]) (fun c o hb q => keep c o hb q) hf (Nat.le_refl _) new
    refine ⟨.ref s.heap.objs.size, _, I1, rfl, ⟨_, x, y, rfl, I.hok.fresh (Nat.le_refl _), rfl, fun l hl => by rw [I.tuple_inj hl hqx]; exact hx, fun l hl => by rw [I.list_inj hl hqy]; exact hy⟩, ⟨⟨z2, ?_⟩, ⟨x1, x2, ?_⟩, ?_, ?_⟩, fun c hcm => ?_⟩
    · exact (sb.2 _ S.TIz).trans (hk _ _ S.TIz S.TITO S.TIi1 S.TIi2 g2)
    · exact (sb.2 _ S.TOz).trans TO'
    · exact st1.1.at fun o q => (sb.2 _ (fun e => m1.1 e.symm)).trans q
    · exact st2.1.at fun o q => (sb.2 _ (fun e => m3.1 e.symm)).trans q
    · have hlt : c < s.heap.objs.size := by
        rcases five hcm with rfl | rfl | rfl | rfl | rfl
        · exact hzl
        · exact Heap.lt_size g2
        · exact Heap.lt_size g3
        · obtain ⟨_, e1, _⟩ := g4; exact Heap.lt_size e1
        · obtain ⟨_, e2, _⟩ := g5; exact Heap.lt_size e2
      rw [upd_ne (Nat.ne_of_lt hlt)]
      exact (hf c hcm).1
  · intro X hP hw hK hc i pins s σ H E I hf st hg
    subst hP hw hK
    obtain ⟨⟨g1, g2⟩, ⟨x0, y0, g3⟩, g4, g5⟩ := st
    obtain ⟨xs, ys, ⟨hqx, hqy⟩, hend, hl1, hl2⟩ := hg
    obtain ⟨us, rv, p, _⟩ := I.tuple hqx
    obtain ⟨vs, rv2, p2, _⟩ := I.list hqy
    have l1 := rv.length
    have l2 := rv2.length
    have hh : X.A.in1.handled = none := I.ok.hd hc
    have n1 : a ≠ i1 := fun q => by
      obtain ⟨o, ho, hoc, _⟩ := g4
      obtain ⟨o', ho', hoc', _⟩ := p
      rw [q, ho] at ho'
      cases ho'
      rw [hoc] at hoc'
      injection hoc' with e
      exact absurd e (by decide)
    have n2 : b ≠ i2 := fun q => by
      obtain ⟨o, ho, hoc, _⟩ := g5
      obtain ⟨o', ho', hoc', _⟩ := p2.isList
      rw [q, ho] at ho'
      cases ho'
      rw [hoc] at hoc'
      injection hoc' with e
      exact absurd e (by decide)
    refine wpAny_pyNext_zipD2_end S (Draws.tuple hh i1 a n1 us.toArray) (Draws.list hh i2 b n2 vs.toArray) g1 g2 g3 ⟨g4, p⟩ ⟨g5, p2.isList⟩ (i := i) (by simp; omega) (by simp; omega) (by simp; omega) fun h' tk hk => ⟨rfl, I.turnedL (t' := tk) (ch := [z, TI, TO, i1, i2]) (fun c o hb q => ?_) hf⟩
    exact hk c o (fun e => hb (by simp [e])) (fun e => hb (by simp [e])) (fun e => hb (by simp [e])) (fun e => hb (by simp [e])) q
def iZipM (K : PySem.W.Frag) (ta : TA) : TI := fun σ H R => ta σ H fun vs H1 => ∃ a b xs ys, vs = [.ref a, .ref b] ∧ (SqT K H1 a xs ∧ SqL K H1 b ys) ∧ R (ItM K a b) H1
theorem pi_zipM {X : Cx} {K : PySem.W.Frag} {e e2 : Expr} {ta : TA} {p pos tpos : Pos} {elts : List Expr} {kk : Nat} (hK : X.K = K) (hg : Gl X "zip") (hm : X.mg "zip" = none) (ha : PA X [e, e2] ta)
    (hs : starEach [e, e2] X.env = (false, eval e X.env) :: starEach [e2] X.env := by rfl) (hpl : (backTo pos (starEach [e2] X.env)).any (·.1) = false := by rfl) :
    PI X (.Tuple elts kk tpos) (.Call (.Name "zip" p) [e, e2] [] pos) (iZipM K ta) := by
  subst hK
  refine ⟨fun pins s σ H R I h => Call_ (ld_blt I hg hm PyProof.Rows.boot_zip (PyProof.Rows.callWith_type1 (thn (ha.run pos pins s σ H _ I h) fun us s1 ⟨vs, H1, I1, r1, q1⟩ => ?_) hs hpl))⟩
  obtain ⟨a, b, xs, ys, rfl, ⟨hqx, hqy⟩, q⟩ := q1
  obtain ⟨u1, u2, rfl, ra, rb⟩ := vals2 r1
  obtain rfl : u1 = Value.ref a := ra
  obtain rfl : u2 = Value.ref b := rb
  obtain ⟨us, rv, p1, _⟩ := I1.tuple hqx
  obtain ⟨vs, rv2, p2, _⟩ := I1.list hqy
  have la : a < s1.heap.objs.size := by obtain ⟨o, ho, _⟩ := id p1; exact Heap.lt_size ho
  have lb : b < s1.heap.objs.size := by obtain ⟨o, ho, _⟩ := id p2.isList; exact Heap.lt_size ho
  generalize hN : s1.heap.objs.size = N at la lb
  refine zip_begins2 (begins_tuple a us.toArray) (begins_list b vs.toArray) p1 p2.isList fun h' g1 g2 g3 g4 g5 hsz hk => ?_
  rw [hN] at g1 g2 g3 g4 g5 ⊢
  refine wpAny_pyIter_zip g1 ?_
  have I2 : Inv X pins σ H1 { s1 with heap := h' } := I1.kept (t' := s1.toks) hk
  refine ⟨N + 4, [N + 4, N + 2, N + 3, N, N + 1], _, _, H1, rfl, I2, turn_M (zip_sep2 (fp1 := [a]) (fp2 := [b]) (by simpa using la) (by simpa using lb)), ⟨⟨g1, g2⟩, ⟨_, _, g3⟩, ⟨_, g4, rfl, rfl⟩, ⟨_, g5, rfl, rfl⟩⟩, fun c hcm => ?_, q⟩
  have hle : s1.heap.objs.size ≤ c := by
    rw [hN]
    have e' : c = N + 4 ∨ c = N + 2 ∨ c = N + 3 ∨ c = N ∨ c = N + 1 := by simpa using hcm
    rcases e' with z | z | z | z | z <;> rw [z] <;> first | exact Nat.le_add_right _ _ | exact Nat.le_refl _
  exact I1.fpOk hle (I1.hok.fresh hle)
end KW
end
section
set_option Elab.async false
set_option linter.all false
set_option autoImplicit false
set_option maxRecDepth 100000
set_option maxHeartbeats 1000000
/-! a comprehension of two clauses; filters -/
namespace KW
open PySem PySem.Spec PyProof.Rows L2 He KR Evl
section
variable {K : PySem.W.Frag} {σ : L2.St} {H H' : Hp} {te : TE}
def flatTo (ws : Nat → List V) : Nat → List V
  | 0 => []
  | n + 1 => flatTo ws n ++ ws n
theorem flat_len (ws : Nat → List V) (b : Nat) (h : ∀ i, (ws i).length ≤ b) : ∀ n, (flatTo ws n).length ≤ n * b
  | 0 => by simp [flatTo]
  | n + 1 => by
    have h1 := flat_len ws b h n
    have h2 := h n
    unfold flatTo
    rw [List.length_append, Nat.succ_mul]
    omega
theorem el_lc2 {a : Addr} {xs : List V} {tl tl1 : TE} {j j1 : Nat} {vs vs1 : List Nat} (zs ws : Nat → List V) (h : Ev tl σ H (.ref a)) (hx : SqL K H a xs) (hz : xs.length ≤ 100) (hb : ∀ i, (ws i).length ≤ 100) (hlen : ∀ i, (ws i).length = (zs i).length)
    (hw : ∀ x, wipe ((wipe σ vs).set j (some x)) vs = wipe σ vs) (hw1 : ∀ x y, wipe ((wipe ((wipe σ vs).set j (some x)) vs1).set j1 (some y)) vs1 = wipe ((wipe σ vs).set j (some x)) vs1)
    (hi : ∀ (i : Nat) (x : V), xs[i]? = some x → EvL tl1 ((wipe σ vs).set j (some x)) H (zs i))
    (he : ∀ (i : Nat) (x : V) (k : Nat) (y z : V), xs[i]? = some x → (zs i)[k]? = some y → (ws i)[k]? = some z → Ev te ((wipe ((wipe σ vs).set j (some x)) vs1).set j1 (some y)) H z) :
    EvL (tLc2 (iList K tl) (gName j) tYes (iList K tl1) (gName j1) tYes te vs vs1) σ H (flatTo ws xs.length) := fun H0 e Q q => h H0 e _ fun H1 e1 => ⟨a, rfl, ⟨xs, ex_l (e.trans e1) hx⟩, fun D hD => by
  have eH : Ex H H1 := e.trans e1
  refine ⟨fun i m H' => m = xs.length - i ∧ i ≤ xs.length ∧ Ex H1 H' ∧ H' D = some (.lst (flatTo ws i)), ⟨xs.length, by simp, Nat.zero_le _, Ex.new hD, upd_same⟩, ?_⟩
  rintro i m H2 ⟨rfl, hile, e2, hD2⟩
  by_cases hlt : i < xs.length
  · have hxi : xs[i]? = some xs[i] := List.getElem?_eq_getElem hlt
    refine .inr ⟨⟨xs, _, ex_l (eH.trans e2) hx, hxi⟩, fun H' => Ex H1 H' ∧ H' D = some (.lst (flatTo ws (i + 1))), fun H' ⟨p1, p2⟩ => ⟨xs.length - (i + 1), by omega, rfl, hlt, p1, p2⟩, fun x H' y => ?_⟩
    obtain ⟨rfl, y⟩ := y
    have hxx := y xs (ex_l (eH.trans e2) hx)
    refine ⟨hw x, ?_⟩
    unfold tYes
    simp only [if_true]
    refine hi i x hxx H' (eH.trans e2) _ fun p H4 hp e4 h4 => ⟨p, rfl, ⟨_, sq_of h4⟩, ?_⟩
    have hpD : p ≠ D := fun z => by rw [z, hD2] at hp; cases hp
    refine ⟨fun k n H'' => n = (zs i).length - k ∧ k ≤ (zs i).length ∧ Ex H1 H'' ∧ H'' p = some (.lst (zs i)) ∧ H'' D = some (.lst (flatTo ws i ++ (ws i).take k)), ⟨(zs i).length, by simp, Nat.zero_le _, e2.trans e4, h4, by rw [List.take_zero, List.append_nil]; exact e4 _ _ hD2⟩, ?_⟩
    rintro k n H5 ⟨rfl, hk, e5, hp5, hD5⟩
    by_cases hkl : k < (zs i).length
    · have hzk : (zs i)[k]? = some (zs i)[k] := List.getElem?_eq_getElem hkl
      have hwl : k < (ws i).length := by rw [hlen]; exact hkl
      have hwk : (ws i)[k]? = some (ws i)[k] := List.getElem?_eq_getElem hwl
      refine .inr ⟨⟨_, _, sq_of hp5, hzk⟩, fun H'' => Ex H1 H'' ∧ H'' p = some (.lst (zs i)) ∧ H'' D = some (.lst (flatTo ws i ++ (ws i).take (k + 1))), fun H'' ⟨p1, p2, p3⟩ => ⟨(zs i).length - (k + 1), by omega, rfl, hkl, p1, p2, p3⟩, fun y' H6 y2 => ?_⟩
      obtain ⟨rfl, y2⟩ := y2
      have hyy := y2 _ (sq_of hp5)
      refine ⟨hw1 x y', ?_⟩
      show te _ H6 _
      refine he i x k y' _ hxx hyy hwk H6 (eH.trans e5) _ fun H7 e7 => ⟨_, e7 _ _ hD5, ?_, ?_⟩
      · have h1 := flat_len ws 100 hb i
        have h2 : ((ws i).take k).length ≤ 100 := by rw [List.length_take]; have := hb i; omega
        have h3 : i * 100 ≤ 100 * 100 := Nat.mul_le_mul_right 100 (by omega)
        rw [List.length_append, sizeLine_eq]
        omega
      · refine ⟨Ex.mut (e5.trans e7) hD, by rw [upd_ne hpD]; exact e7 _ _ hp5, ?_⟩
        rw [upd_same, List.take_add_one, hwk, List.append_assoc]
        rfl
    · have : k = (zs i).length := by omega
      subst this
      refine .inl ⟨⟨_, sq_of hp5, Nat.le_refl _⟩, e5, ?_⟩
      rw [hD5, ← hlen, List.take_length]
      rfl
  · have : i = xs.length := by omega
    subst this
    exact .inl ⟨⟨xs, ex_l (eH.trans e2) hx, Nat.le_refl _⟩, q D H2 (fresh_back e1 hD) (e1.trans e2) hD2⟩⟩
theorem flat_range (ws : Nat → List V) : ∀ n, flatTo ws n = (List.range n).flatMap ws
  | 0 => rfl
  | n + 1 => by
    show flatTo ws n ++ ws n = _
    rw [flat_range ws n, List.range_succ, List.flatMap_append]
    simp
theorem list_range {α : Type} (ds : List α) (dflt : α) : (List.range ds.length).map (fun i => ds.getD i dflt) = ds := by
  apply List.ext_getElem?
  intro i
  by_cases hi : i < ds.length
  · rw [List.getElem?_map, List.getElem?_range hi, List.getElem?_eq_getElem hi]
    show some (ds.getD i dflt) = _
    rw [List.getD_eq_getElem?_getD, List.getElem?_eq_getElem hi]
    rfl
  · rw [List.getElem?_eq_none (by simp; omega), List.getElem?_eq_none (by omega)]
theorem flat_data {α : Type} (ds : List α) (dflt : α) (F : α → List V) : flatTo (fun i => F (ds.getD i dflt)) ds.length = ds.flatMap F := by
  rw [flat_range]
  conv => rhs; rw [← list_range ds dflt]
  rw [List.flatMap_map]
/-- two new lists, one behind the other -/
theorem el_cat {ta tb : TE} {xs ys : List V} (ha : EvL ta σ H xs) (hb : EvL tb σ H ys) (hz : xs.length + ys.length ≤ 100000) : EvL (tOp rCat ta tb) σ H (xs ++ ys) := fun H1 e Q q =>
  ha H1 e _ fun p H2 hp e2 h2 => hb H2 (e.trans e2) _ fun r H3 hr e3 h3 => ⟨p, r, xs, ys, rfl, rfl, e3 _ _ h2, h3, sz_of hz, fun u hu => q u _ (fresh_back (e2.trans e3) hu) ((e2.trans e3).trans (Ex.new hu)) upd_same⟩
theorem el_listS {ta : TE} {p : Addr} {xs : List V} (ha : Ev ta σ H (.ref p)) (h : SqL K H p xs ∨ SqT K H p xs) :
    EvL (tCB (fun xs H Q => ∃ p ys, xs = [.ref p] ∧ (SqL K H p ys ∨ SqT K H p ys) ∧ ∀ (l : Addr), H l = none → Q (.ref l) (upd H l (.lst ys))) (tCons ta tNil)) σ H xs := fun H1 e Q q =>
  ha H1 e _ fun H2 e2 => ⟨p, xs, rfl, h.imp (ex_l (e.trans e2)) (ex_t (e.trans e2)), fun l hl => q l _ (fresh_back e2 hl) (e2.trans (Ex.new hl)) upd_same⟩
/-- what a filtered comprehension over data gives -/
theorem given_filter {α : Type} {ds : List α} (dflt : α) (p : α → Bool) (g : α → V) : given ds.length (fun i => p (ds.getD i dflt)) (fun i => g (ds.getD i dflt)) = (ds.filter p).map g := by
  have e : ds = (List.range ds.length).map fun i => ds.getD i dflt := by
    apply List.ext_getElem?
    intro i
    by_cases hi : i < ds.length
    · rw [List.getElem?_map, List.getElem?_range hi, List.getElem?_eq_getElem hi]
      show _ = some (ds.getD i dflt)
      rw [List.getD_eq_getElem?_getD, List.getElem?_eq_getElem hi]
      rfl
    · rw [List.getElem?_eq_none (by omega), List.getElem?_eq_none (by simp; omega)]
  unfold given
  conv => rhs; rw [e]
  rw [List.filter_map, List.map_map]
  rfl
theorem el_lcDf {a : Addr} {xs : List V} {ds : List PyData} {tl : TE} {t : TT} {j : Nat} {vs : List Nat} (p : PyData → Bool) (f : PyData → V) (h : Ev tl σ H (.ref a)) (hx : SqL K H a xs) (hd : DpAll K H xs ds) (hz : xs.length ≤ 40000) (hw : ∀ x, wipe ((wipe σ vs).set j (some x)) vs = wipe σ vs)
    (ht : ∀ x d, d ∈ ds → Dp K H x d → EvT t ((wipe σ vs).set j (some x)) H (p d))
    (he : ∀ x d, d ∈ ds → Dp K H x d → p d = true → Ev te ((wipe σ vs).set j (some x)) H (f d)) : EvL (tLc (iList K tl) (gName j) t te vs) σ H ((ds.filter p).map f) := by
  have hl := dpLen hd
  have key : ∀ {i : Nat} {x : V}, xs[i]? = some x → ∃ d, ds.getD i .none = d ∧ d ∈ ds ∧ Dp K H x d := fun {i x} hi => by
    obtain ⟨d, h1, h2⟩ := daG hd hi
    exact ⟨d, by rw [List.getD_eq_getElem?_getD, h1]; rfl, List.mem_of_getElem? h1, h2⟩
  have e := el_lcL (K := K) (σ := σ) (H := H) (te := te) (t := t) (tl := tl) (j := j) (vs := vs) (fun i => p (ds.getD i .none)) (fun i => f (ds.getD i .none)) h hx hz hw (fun i x H1 e1 hi => by
    obtain ⟨d, e2, h1, h2⟩ := key hi
    rw [e2]
    exact (ht x d h1 h2).mono e1) (fun i x H1 e1 hi hp => by
    obtain ⟨d, e2, h1, h2⟩ := key hi
    rw [e2] at hp ⊢
    exact (he x d h1 h2 hp).mono e1)
  rw [hl, given_filter] at e
  exact e
/-- a loop over zip of a new tuple and a list -/
theorem q_forM {ta tb : TE} {xs ys : List V} {b : Addr} {D : Ends} {tu tz : TS} {n j1 j2 : Nat} (h1 : EvU ta σ H xs) (h2 : Ev tb σ H (.ref b)) (hy : SqL K H b ys) (hl : xs.length = ys.length) (hn : n = 2) (Pv : Hp → Nat → L2.St → Hp → Prop) (h0 : ∀ H1, Ex H H1 → Pv H1 0 σ H1) (hex : ∀ B i σ' H', Pv B i σ' H' → Ex B H')
    (hs : ∀ B i x y σ' H' H2, Ex H B → xs[i]? = some x → ys[i]? = some y → Pv B i σ' H' → Ex H' H2 → tu { D with nx := Pv B (i + 1), ct := Pv B (i + 1), bk := tz D } ((σ'.set j1 (some x)).set j2 (some y)) H2) (hd : ∀ B σ' H', Ex H B → Pv B xs.length σ' H' → tz D σ' H') :
    tSeq (tFor (iZipM K (tCons ta (tCons tb tNil))) (gTup K n (gCons (gName j1) (gCons (gName j2) gNil))) tu) tz D σ H :=
  h1 H (Ex.refl H) _ fun p H1 hp e1 hpx => h2 H1 e1 _ fun H2 e2 => ⟨p, b, xs, ys, rfl, ⟨st_of (e2 _ _ hpx), ex_l (e1.trans e2) hy⟩, by
    have eB := e1.trans e2
    refine ⟨fun i m σ' H' => m = xs.length - i ∧ i ≤ xs.length ∧ Pv H2 i σ' H', ⟨xs.length, by simp, Nat.zero_le _, h0 H2 eB⟩, ?_⟩
    rintro i m σ' H' ⟨rfl, hi, pv⟩
    have ex := hex _ _ _ _ pv
    have sx : SqT K H' p xs := ex_t ex (st_of (e2 _ _ hpx))
    have sy : SqL K H' b ys := ex_l (eB.trans ex) hy
    by_cases hlt : i < xs.length
    · refine .inr ⟨⟨xs, ys, _, _, ⟨sx, List.getElem?_eq_getElem hlt⟩, sy, List.getElem?_eq_getElem (by omega)⟩, Pv H2 (i + 1), fun σ' H' q => ⟨xs.length - (i + 1), by omega, rfl, hlt, q⟩, fun v H3 y => ?_⟩
      obtain ⟨T, x, y, rfl, hT, rfl, g1, g2⟩ := y
      exact ⟨T, [x, y], rfl, st_of upd_same, hn.symm ▸ rfl, _, _, rfl, _, _, rfl, rfl, hs H2 i x y σ' H' _ eB (g1 xs sx) (g2 ys sy) pv (Ex.new hT)⟩
    · have : i = xs.length := by omega
      subst this
      exact .inl ⟨⟨xs, ys, ⟨sx, sy⟩, .inl rfl, Nat.le_refl _, by omega⟩, hd H2 σ' H' eB pv⟩⟩
end
end KW
end
section
set_option Elab.async false
set_option linter.all false
set_option autoImplicit false
set_option maxRecDepth 100000
set_option maxHeartbeats 400000
/-! plans.py: the looks -/
namespace KW
open PySem PySem.Spec PyProof.Rows L2 He KR Evl
local macro_rules
  | `(tactic| walk_at "ev") => `(tactic| repeat' (first
    | exact ev_c | exact ev_var rfl | exact ea_nil | exact rv_I0 | exact ru_neg | exact eo_none
    | exact rv_eq rfl | exact rv_ne rfl
    | exact rv_ixT (by assumption) (by rfl) | exact rv_ixL (by assumption) (by rfl)
    | exact sv_q (by assumption) (by assumption) | exact sv_within (by assumption)
    | exact Or.inr (by assumption) | exact Or.inl (by assumption) | (show (_ : String) ∈ _; decide)
    | with_reducible (first | apply ev_isi | apply ev_lenS | apply ev_if' | apply et_test | apply et_B | apply et_not | apply et_and | apply et_or | apply ev_andV | apply ev_orV | apply ev_notV | apply ea_cons | apply eo_some | apply ev_op | apply ev_un | apply ev_call)
    | assumption
    | (with_reducible intro hh; first | exact absurd (show true = false from hh) (by decide) | exact absurd (show false = true from hh) (by decide) | clear hh)))

section
variable {P : Program} {w : World} {K : PySem.W.Frag} {mg : Str → Option Value} {base : Heap}
theorem sc_is_guard : FnScope ["thing", "one"] ["thing"] (defScope s_is_guard) := ⟨rfl, rfl, rfl, by decide +kernel, rfl, by decide +kernel, by decide +kernel⟩
theorem sc_is_line : FnScope ["thing"] ["thing"] (defScope s_is_line) := ⟨rfl, rfl, rfl, by decide +kernel, rfl, by decide +kernel, by decide +kernel⟩
theorem sc_is_bottom : FnScope ["thing"] ["thing"] (defScope s_is_bottom) := ⟨rfl, rfl, rfl, by decide +kernel, rfl, by decide +kernel, by decide +kernel⟩
theorem sc_is_thread : FnScope ["thing"] ["thing"] (defScope s_is_thread) := ⟨rfl, rfl, rfl, by decide +kernel, rfl, by decide +kernel, by decide +kernel⟩
theorem ok_is_guard (T : Txt w K mg) : FnOk P w K mg base CX0 3 (f_is_guard K) (fdAt K (f_is_guard K)) ["thing"] (spQ K isGuardD) := by
  obtain ⟨_, h_MOST_LET⟩ := in_MOST_LET T
  obtain ⟨_, h_WIDEST⟩ := in_WIDEST T
  refine (df_is_guard T).ok sc_is_guard (fun vs H Q E h => ?_) (fun cdv A outer s H vs Q E hr h => ?_)
  · obtain ⟨v, d, rfl, _⟩ := h
    rfl
  · obtain ⟨v, d, rfl, hd, hf, q⟩ := h
    refine ⟨_, PSs.nox ((pss_cons (ps_if (PW.pt (pw_or (pt_not (pt_val (pe_callB (call_isiK1 (K := K) rfl) (by rfl) (fr_isinstance T) (by decide +kernel) (pa_cons (pv 0) (pa_cons (pe_bltn (v := .ty "tuple") (u := .type "tuple") (by rfl) (fr_tuple T) (by decide +kernel) rfl) pa_nil))))) (pw_or1 (pt_cmpR op_ne (pe_callB (call_lenK (K := K) rfl) (by rfl) (fr_len T) PySem.boot_len (pa_cons (pv 0) pa_nil)) pe_int (nomark _))))) (pss_one (ps_ret pe_bl)) pss_nil)
      (pss_one (ps_ret (pe_and (pe_call (ok_within T) (hr.mono (by decide)) rfl (gl_within T) (df_within T).kp (bi_within T) .nil pass0 (pa_cons (pe_ix (ix_tupK (K := K) rfl) (pv 0) pe_int (fun _ _ => rfl)) (pa_cons pe_int (pa_cons (pe_glob (v := .int 9) rfl h_MOST_LET ⟨_, rfl⟩) pa_nil)))) (pe_one (pe_callB (cr_allK rfl (K := K) rfl) (by rfl) (fr_all T) (by decide +kernel) (pa_cons (pe_lc (own := [("one", 1)]) (g := gName 1) (tt := tYes) rfl sc_is_guard.nd (pi_tupK (K := K) rfl (pe_slice (sl_tupK (K := K) rfl) (pv 0) (po_some pe_int) po_none)) (blkOk_by (N := ["thing", "one"]) (sc := defScope s_is_guard) (by decide +kernel)) (fun _ _ _ _ _ => pg_name (i := 1) sc_is_guard.nd rfl (Or.inl rfl)) (fun _ _ _ _ _ => pts_nil) (fun _ _ _ _ _ => (pe_call (ok_within T) (hr.mono (by decide)) rfl (gl_within T) (df_within T).kp (bi_within T) .nil pass0 (pa_cons (pv 1) (pa_cons pe_int (pa_cons (pe_glob (v := .int 60) rfl h_WIDEST ⟨_, rfl⟩) pa_nil)))))) pa_nil)))))))), ?_⟩
    by_cases hT : ∃ ds, d = .tuple ds
    · obtain ⟨ds, rfl⟩ := hT
      obtain ⟨a, xs, rfl, hx, ha⟩ := dpT hd
      obtain ⟨hl, hf⟩ := Sm_tup hf
      have hlen := dpLen ha
      by_cases h3 : ds.length = 3
      · match ds, h3 with
        | [d0, d1, d2], _ =>
          obtain ⟨v0, _, rfl, h0, ha⟩ := dpC ha
          have ha1 := ha
          obtain ⟨v1, _, rfl, h1, ha⟩ := dpC ha
          obtain ⟨v2, _, rfl, h2, ha⟩ := dpC ha
          obtain rfl := dpN ha
          refine q_when (b := false) (et_is (by walk_at "ev") (by rfl)) (fun h => by cases h) fun _ H1 e1 => ?_
          have h0 := dpM e1 h0
          have hx1 := ex_t e1 hx
          refine s_ret (ev_andV (a := withinD d0 1 9) (b := withinD d1 1 60 && withinD d2 1 60) (by walk_at "ev") fun _ => ev_is (ev_all (bs := [d1, d2].map fun d => withinD d 1 60) (by
            rw [← map_bl]
            exact el_lcUT (xs := [v1, v2]) (fun d => V.bl (withinD d 1 60)) (eu_slT (ev_var rfl) (eo_some ev_c) eo_none (ex_t e1 hx) (fun h => absurd h.1 (by show ¬ ((1 : Nat) = 0); decide))) (daM e1 ha1) (by show 2 ≤ 40000; decide) (fun _ => rfl) fun H1 e1 x d hm hd => by walk_at "ev")) (by simp)) fun H2 e2 => ?_
          exact q _ (e1.trans e2)
      · refine ret_no q ?_ (et_is (b := true) (et_or (a := false) (b := true) (et_is (by walk_at "ev") (by rfl)) fun _ => et_is (by walk_at "ev") (by have := int_ne (n := xs.length) (k := 3) (by omega); exact congrArg not this)) rfl)
        match ds, h3 with
        | [], _ => rfl
        | [_], _ => rfl
        | [_, _], _ => rfl
        | _ :: _ :: _ :: _ :: _, _ => rfl
    · have h0 := not_tup hT
      refine ret_no q ?_ (et_is (b := true) (et_or (b := true) (et_not (et_B (ev_is (ev_isi (ev_var rfl) hd) (by rw [h0])))) fun h => by cases h) rfl)
      cases d <;> first | rfl | exact absurd ⟨_, rfl⟩ hT
theorem ok_is_line (T : Txt w K mg) : FnOk P w K mg base CX0 5 (f_is_line K) (fdAt K (f_is_line K)) ["thing"] (spQ K isLineD) := by
  obtain ⟨_, h_MOST_RANK⟩ := in_MOST_RANK T
  refine (df_is_line T).ok sc_is_line (fun vs H Q E h => ?_) (fun cdv A outer s H vs Q E hr h => ?_)
  · obtain ⟨v, d, rfl, _⟩ := h
    rfl
  · obtain ⟨v, d, rfl, hd, hf, q⟩ := h
    refine ⟨_, PSs.nox ((pss_cons (ps_if (PW.pt (pw_or (pt_not (pt_val (pe_callB (call_isiK1 (K := K) rfl) (by rfl) (fr_isinstance T) (by decide +kernel) (pa_cons (pv 0) (pa_cons (pe_bltn (v := .ty "tuple") (u := .type "tuple") (by rfl) (fr_tuple T) (by decide +kernel) rfl) pa_nil))))) (pw_or (pt_cmpR op_ne (pe_callB (call_lenK (K := K) rfl) (by rfl) (fr_len T) PySem.boot_len (pa_cons (pv 0) pa_nil)) pe_int (nomark _)) (pw_or (pt_not (pt_val (pe_call (okq_is_name T) (hr.mono (by decide)) rfl (gl_is_name T) (df_is_name T).kp (bi_is_name T) .nil pass0 (pa_cons (pe_ix (ix_tupK (K := K) rfl) (pv 0) pe_int (fun _ _ => rfl)) pa_nil)))) (pw_or1 (pt_not (pt_val (pe_call (ok_within T) (hr.mono (by decide)) rfl (gl_within T) (df_within T).kp (bi_within T) .nil pass0 (pa_cons (pe_ix (ix_tupK (K := K) rfl) (pv 0) pe_int (fun _ _ => rfl)) (pa_cons pe_int (pa_cons (pe_glob (v := .int 99) rfl h_MOST_RANK ⟨_, rfl⟩) pa_nil))))))))))) (pss_one (ps_ret pe_bl)) pss_nil)
      (pss_one (ps_ret (pe_and (pe_callB (call_isiK1 (K := K) rfl) (by rfl) (fr_isinstance T) (by decide +kernel) (pa_cons (pe_ix (ix_tupK (K := K) rfl) (pv 0) pe_int (fun _ _ => rfl)) (pa_cons (pe_bltn (v := .ty "bool") (u := .type "bool") (by rfl) (fr_bool T) (by decide +kernel) rfl) pa_nil))) (pe_and (pe_call (ok_is_guard T) (hr.mono (by decide)) rfl (gl_is_guard T) (df_is_guard T).kp (bi_is_guard T) .nil pass0 (pa_cons (pe_ix (ix_tupK (K := K) rfl) (pv 0) pe_int (fun _ _ => rfl)) pa_nil)) (pe_one (pe_call (okq_are_steps T) (hr.mono (by decide)) rfl (gl_are_steps T) (df_are_steps T).kp (bi_are_steps T) .nil pass0 (pa_cons (pe_ix (ix_tupK (K := K) rfl) (pv 0) pe_int (fun _ _ => rfl)) pa_nil))))))))), ?_⟩
    by_cases hT : ∃ ds, d = .tuple ds
    · obtain ⟨ds, rfl⟩ := hT
      obtain ⟨a, xs, rfl, hx, ha⟩ := dpT hd
      obtain ⟨hl, hf⟩ := Sm_tup hf
      have hlen := dpLen ha
      by_cases h3 : ds.length = 5
      · match ds, h3 with
        | [d0, d1, d2, d3, d4], _ =>
          obtain ⟨v0, _, rfl, h0, ha⟩ := dpC ha
          obtain ⟨v1, _, rfl, h1, ha⟩ := dpC ha
          obtain ⟨v2, _, rfl, h2, ha⟩ := dpC ha
          obtain ⟨v3, _, rfl, h3, ha⟩ := dpC ha
          obtain ⟨v4, _, rfl, h4, ha⟩ := dpC ha
          obtain rfl := dpN ha
          have f0 := SmA_mem hf d0 (by simp)
          have f3 := SmA_mem hf d3 (by simp)
          have f4 := SmA_mem hf d4 (by simp)
          cases hb : isNameD d0 && withinD d1 1 99 with
          | false =>
            refine ret_no q (by show ((isNameD d0 && withinD d1 1 99) && _) = false; rw [hb]; rfl) (et_is (b := true) (a := !isNameD d0 || !withinD d1 1 99) (et_is (by walk_at "ev") (by rfl)) (by cases h1 : isNameD d0 <;> cases h2 : withinD d1 1 99 <;> simp_all))
          | true =>
            refine q_when (b := false) (et_is (et_is (b := !isNameD d0 || !withinD d1 1 99) (by walk_at "ev") (by rfl)) (by cases h1 : isNameD d0 <;> cases h2 : withinD d1 1 99 <;> simp_all)) (fun h => by cases h) fun _ H1 e1 => ?_
            have h2 := dpM e1 h2
            have h3 := dpM e1 h3
            have h4 := dpM e1 h4
            have hx1 := ex_t e1 hx
            refine s_ret (by walk_at "ev") fun H2 e2 => ?_
            have q' := q _ (e1.trans e2)
            have e : isLineD (.tuple [d0, d1, d2, d3, d4]) = (isBoolD d2 && (isGuardD d3 && areStepsD d4)) := by
              show ((isNameD d0 && withinD d1 1 99) && _) = _
              rw [hb, Bool.true_and]
            rw [e] at q'
            rw [isT_bool]
            exact q'
      · refine ret_no q ?_ (et_is (b := true) (et_or (a := false) (b := true) (et_is (by walk_at "ev") (by rfl)) fun _ => et_or (a := true) (b := true) (et_is (by walk_at "ev") (by have := int_ne (n := xs.length) (k := 5) (by omega); exact congrArg not this)) (fun h => by cases h)) rfl)
        match ds, h3 with
        | [], _ => rfl
        | [_], _ => rfl
        | [_, _], _ => rfl
        | [_, _, _], _ => rfl
        | [_, _, _, _], _ => rfl
        | _ :: _ :: _ :: _ :: _ :: _ :: _, _ => rfl
    · have h0 := not_tup hT
      refine ret_no q ?_ (et_is (b := true) (et_or (b := true) (et_not (et_B (ev_is (ev_isi (ev_var rfl) hd) (by rw [h0])))) fun h => by cases h) rfl)
      cases d <;> first | rfl | exact absurd ⟨_, rfl⟩ hT
theorem ok_is_bottom (T : Txt w K mg) : FnOk P w K mg base CX0 5 (f_is_bottom K) (fdAt K (f_is_bottom K)) ["thing"] (spQ K isBottomD) := by
  refine (df_is_bottom T).ok sc_is_bottom (fun vs H Q E h => ?_) (fun cdv A outer s H vs Q E hr h => ?_)
  · obtain ⟨v, d, rfl, _⟩ := h
    rfl
  · obtain ⟨v, d, rfl, hd, hf, q⟩ := h
    refine ⟨_, PSs.nox ((pss_one (ps_ret (pe_and (pe_callB (call_isiK1 (K := K) rfl) (by rfl) (fr_isinstance T) (by decide +kernel) (pa_cons (pv 0) (pa_cons (pe_bltn (v := .ty "tuple") (u := .type "tuple") (by rfl) (fr_tuple T) (by decide +kernel) rfl) pa_nil))) (pe_and (pe_cmpR op_eq (pe_callB (call_lenK (K := K) rfl) (by rfl) (fr_len T) PySem.boot_len (pa_cons (pv 0) pa_nil)) pe_int (nomark _)) (pe_and (pe_call (okq_is_name T) (hr.mono (by decide)) rfl (gl_is_name T) (df_is_name T).kp (bi_is_name T) .nil pass0 (pa_cons (pe_ix (ix_tupK (K := K) rfl) (pv 0) pe_int (fun _ _ => rfl)) pa_nil)) (pe_one (pe_call (okq_are_steps T) (hr.mono (by decide)) rfl (gl_are_steps T) (df_are_steps T).kp (bi_are_steps T) .nil pass0 (pa_cons (pe_ix (ix_tupK (K := K) rfl) (pv 0) pe_int (fun _ _ => rfl)) pa_nil))))))))), ?_⟩
    by_cases hT : ∃ ds, d = .tuple ds
    · obtain ⟨ds, rfl⟩ := hT
      obtain ⟨a, xs, rfl, hx, ha⟩ := dpT hd
      obtain ⟨hl, hf⟩ := Sm_tup hf
      have hlen := dpLen ha
      by_cases h3 : ds.length = 2
      · match ds, h3 with
        | [d0, d1], _ =>
          obtain ⟨v0, _, rfl, h0, ha⟩ := dpC ha
          obtain ⟨v1, _, rfl, h1, ha⟩ := dpC ha
          obtain rfl := dpN ha
          have f0 := SmA_mem hf d0 (by simp)
          have f1 := SmA_mem hf d1 (by simp)
          refine s_ret (by walk_at "ev") fun H2 e2 => ?_
          exact q _ e2
      · refine s_ret (v := .bl false) (ev_is (ev_andV (a := true) (b := false) (ev_is (by walk_at "ev") (by rfl)) fun _ => ev_is (ev_andV (a := false) (b := true) (ev_is (by walk_at "ev") (by have := int_ne (n := xs.length) (k := 2) (by omega); exact congrArg V.bl this)) (fun h => by cases h)) (by rfl)) (by rfl)) fun H2 e2 => ?_
        have q' := q _ e2
        have e : isBottomD (.tuple ds) = false := by
          match ds, h3 with
          | [], _ => rfl
          | [_], _ => rfl
          | _ :: _ :: _ :: _, _ => rfl
        rw [e] at q'
        exact q'
    · have h0 := not_tup hT
      refine s_ret (ev_andV (b := false) (by walk_at "ev") fun h => by rw [h0] at h; cases h) fun H2 e2 => ?_
      rw [Bool.and_false]
      have q' := q _ e2
      have e : isBottomD d = false := by cases d <;> first | rfl | exact absurd ⟨_, rfl⟩ hT
      rw [e] at q'
      exact q'
theorem ok_is_thread (T : Txt w K mg) : FnOk P w K mg base CX0 5 (f_is_thread K) (fdAt K (f_is_thread K)) ["thing"] (spQ K isThreadD) := by
  obtain ⟨_, h_MOST_RANK⟩ := in_MOST_RANK T
  refine (df_is_thread T).ok sc_is_thread (fun vs H Q E h => ?_) (fun cdv A outer s H vs Q E hr h => ?_)
  · obtain ⟨v, d, rfl, _⟩ := h
    rfl
  · obtain ⟨v, d, rfl, hd, hf, q⟩ := h
    refine ⟨_, PSs.nox ((pss_cons (ps_if (PW.pt (pw_or (pt_not (pt_val (pe_callB (call_isiK1 (K := K) rfl) (by rfl) (fr_isinstance T) (by decide +kernel) (pa_cons (pv 0) (pa_cons (pe_bltn (v := .ty "tuple") (u := .type "tuple") (by rfl) (fr_tuple T) (by decide +kernel) rfl) pa_nil))))) (pw_or (pt_cmpR op_ne (pe_callB (call_lenK (K := K) rfl) (by rfl) (fr_len T) PySem.boot_len (pa_cons (pv 0) pa_nil)) pe_int (nomark _)) (pw_or1 (pt_not (pt_val (pe_call (okq_is_name T) (hr.mono (by decide)) rfl (gl_is_name T) (df_is_name T).kp (bi_is_name T) .nil pass0 (pa_cons (pe_ix (ix_tupK (K := K) rfl) (pv 0) pe_int (fun _ _ => rfl)) pa_nil)))))))) (pss_one (ps_ret pe_bl)) pss_nil)
      (pss_one (ps_ret (pe_and (pe_call (ok_within T) (hr.mono (by decide)) rfl (gl_within T) (df_within T).kp (bi_within T) .nil pass0 (pa_cons (pe_ix (ix_tupK (K := K) rfl) (pv 0) pe_int (fun _ _ => rfl)) (pa_cons pe_int (pa_cons (pe_glob (v := .int 99) rfl h_MOST_RANK ⟨_, rfl⟩) pa_nil)))) (pe_one (pe_call (okq_are_steps T) (hr.mono (by decide)) rfl (gl_are_steps T) (df_are_steps T).kp (bi_are_steps T) .nil pass0 (pa_cons (pe_ix (ix_tupK (K := K) rfl) (pv 0) pe_int (fun _ _ => rfl)) pa_nil)))))))), ?_⟩
    by_cases hT : ∃ ds, d = .tuple ds
    · obtain ⟨ds, rfl⟩ := hT
      obtain ⟨a, xs, rfl, hx, ha⟩ := dpT hd
      obtain ⟨hl, hf⟩ := Sm_tup hf
      have hlen := dpLen ha
      by_cases h3 : ds.length = 3
      · match ds, h3 with
        | [d0, d1, d2], _ =>
          obtain ⟨v0, _, rfl, h0, ha⟩ := dpC ha
          obtain ⟨v1, _, rfl, h1, ha⟩ := dpC ha
          obtain ⟨v2, _, rfl, h2, ha⟩ := dpC ha
          obtain rfl := dpN ha
          have f0 := SmA_mem hf d0 (by simp)
          have f2 := SmA_mem hf d2 (by simp)
          cases hb : isNameD d0 with
          | false =>
            refine ret_no q (by show ((isNameD d0 && withinD d1 1 99) && _) = false; rw [hb]; rfl) (et_is (b := true) (a := !isNameD d0) (et_is (by walk_at "ev") (by rfl)) (by rw [hb]; rfl))
          | true =>
            refine q_when (b := false) (et_is (et_is (b := !isNameD d0) (by walk_at "ev") (by rfl)) (by rw [hb]; rfl)) (fun h => by cases h) fun _ H1 e1 => ?_
            have h1 := dpM e1 h1
            have h2 := dpM e1 h2
            have hx1 := ex_t e1 hx
            refine s_ret (by walk_at "ev") fun H2 e2 => ?_
            have q' := q _ (e1.trans e2)
            have e : isThreadD (.tuple [d0, d1, d2]) = (withinD d1 1 99 && areStepsD d2) := by
              show ((isNameD d0 && withinD d1 1 99) && _) = _
              rw [hb, Bool.true_and]
            rw [e] at q'
            exact q'
      · refine ret_no q ?_ (et_is (b := true) (et_or (a := false) (b := true) (et_is (by walk_at "ev") (by rfl)) fun _ => et_or (a := true) (b := true) (et_is (by walk_at "ev") (by have := int_ne (n := xs.length) (k := 3) (by omega); exact congrArg not this)) (fun h => by cases h)) rfl)
        match ds, h3 with
        | [], _ => rfl
        | [_], _ => rfl
        | [_, _], _ => rfl
        | _ :: _ :: _ :: _ :: _, _ => rfl
    · have h0 := not_tup hT
      refine ret_no q ?_ (et_is (b := true) (et_or (b := true) (et_not (et_B (ev_is (ev_isi (ev_var rfl) hd) (by rw [h0])))) fun h => by cases h) rfl)
      cases d <;> first | rfl | exact absurd ⟨_, rfl⟩ hT
end
end KW
end
section
set_option Elab.async false
set_option linter.all false
set_option autoImplicit false
set_option maxRecDepth 100000
set_option maxHeartbeats 400000
/-! plans.py: are_ones, are_unlike_ranks -/
namespace KW
open PySem PySem.Spec PyProof.Rows L2 He KR Evl
local macro_rules
  | `(tactic| walk_at "ev") => `(tactic| repeat' (first
    | exact ev_c | exact ev_var rfl | exact ea_nil | exact rv_I0 | exact ru_neg | exact eo_none
    | exact rv_eq rfl | exact rv_ne rfl
    | exact rv_ixT (by assumption) (by rfl) | exact rv_ixL (by assumption) (by rfl)
    | exact sv_q (by assumption) (by assumption) | exact sv_within (by assumption)
    | exact Or.inr (by assumption) | exact Or.inl (by assumption) | (show (_ : String) ∈ _; decide)
    | with_reducible (first | apply ev_isi | apply ev_lenS | apply ev_if' | apply et_test | apply et_B | apply et_not | apply et_and | apply et_or | apply ev_andV | apply ev_orV | apply ev_notV | apply ea_cons | apply eo_some | apply ev_op | apply ev_un | apply ev_call)
    | assumption
    | (with_reducible intro hh; first | exact absurd (show true = false from hh) (by decide) | exact absurd (show false = true from hh) (by decide) | clear hh)))

section
variable {P : Program} {w : World} {K : PySem.W.Frag} {mg : Str → Option Value} {base : Heap}
theorem sc_are_ones : FnScope ["thing", "low", "high", "look", "one"] ["thing", "low", "high", "look"] (defScope s_are_ones) := ⟨rfl, rfl, rfl, by decide +kernel, rfl, by decide +kernel, by decide +kernel⟩
theorem name_first {n : PyData} (h : isNameD n = true) : ∃ x, n = .str x := by cases n <;> first | exact ⟨_, rfl⟩ | (cases h)
theorem line_first {d : PyData} (h : isLineD d = true) : ∃ n r, d = .tuple (.str n :: r) := by
  unfold isLineD at h
  split at h
  · obtain ⟨x, rfl⟩ := name_first (ba (ba h).1).1
    exact ⟨_, _, rfl⟩
  · cases h
theorem bottom_first {d : PyData} (h : isBottomD d = true) : ∃ n r, d = .tuple (.str n :: r) := by
  unfold isBottomD at h
  split at h
  · obtain ⟨x, rfl⟩ := name_first (ba h).1
    exact ⟨_, _, rfl⟩
  · cases h
theorem thread_first {d : PyData} (h : isThreadD d = true) : ∃ n r, d = .tuple (.str n :: r) := by
  unfold isThreadD at h
  split at h
  · obtain ⟨x, rfl⟩ := name_first (ba (ba h).1).1
    exact ⟨_, _, rfl⟩
  · cases h
def spOnes (K : PySem.W.Frag) : Sp := fun vs H Q _ => ∃ v d lo hi q p, vs = [v, .int lo, .int hi, .ref q] ∧ ((q = f_is_line K ∧ p = isLineD) ∨ (q = f_is_bottom K ∧ p = isBottomD) ∨ (q = f_is_thread K ∧ p = isThreadD)) ∧ Dp K H v d ∧ Sm d ∧ hi ≤ 100 ∧ ∀ H', Same H H' → Q (.bl (areOnesD d lo hi p)) H'
theorem ok_are_ones (T : Txt w K mg) : FnOk P w K mg base CX0 6 (f_are_ones K) (fdAt K (f_are_ones K)) ["thing", "low", "high", "look"] (spOnes K) := by
  refine (df_are_ones T).ok sc_are_ones (fun vs H Q E h => ?_) (fun cdv A outer s H vs Q E hr h => ?_)
  · obtain ⟨v, d, _, _, _, _, rfl, _⟩ := h
    rfl
  · obtain ⟨v, d, lo, hi, q, p, rfl, hq, hd, hf, hhi, q0⟩ := h
    obtain ⟨fd, FL, kL, bL, hp⟩ : ∃ fd, FnOk P w K mg base CX0 5 q fd ["thing"] (spQ K p) ∧ PySem.W.keepIn K (.ref q) = true ∧ Binds K fd ["thing"] [] ∧ ∀ d, p d = true → ∃ n r, d = .tuple (.str n :: r) := by
      rcases hq with ⟨rfl, rfl⟩ | ⟨rfl, rfl⟩ | ⟨rfl, rfl⟩
      · exact ⟨_, ok_is_line T, (df_is_line T).kp, bi_is_line T, fun d => line_first⟩
      · exact ⟨_, ok_is_bottom T, (df_is_bottom T).kp, bi_is_bottom T, fun d => bottom_first⟩
      · exact ⟨_, ok_is_thread T, (df_is_thread T).kp, bi_is_thread T, fun d => thread_first⟩
    by_cases hT : ∃ ds, d = .tuple ds
    · refine ⟨_, PSs.nox ((pss_cons (ps_if (PW.pt (pw_or (pt_not (pt_val (pe_callB (call_isiTK (K := K) rfl) (by rfl) (fr_isinstance T) (by decide +kernel) (pa_cons (pv 0) (pa_cons (pe_tup (pa_cons (pe_bltn (v := .ty "list") (u := .type "list") (by rfl) (fr_list T) (by decide +kernel) rfl) (pa_cons (pe_bltn (v := .ty "tuple") (u := .type "tuple") (by rfl) (fr_tuple T) (by decide +kernel) rfl) pa_nil))) pa_nil))))) (pw_or (pt_not (pt_chain op_le op_le (pv 1) (pe_callB (call_lenK (K := K) rfl) (by rfl) (fr_len T) PySem.boot_len (pa_cons (pv 0) pa_nil)) (pv 2))) (pw_or1 (pt_not (pt_val (pe_callB (cr_allK rfl (K := K) rfl) (by rfl) (fr_all T) (by decide +kernel) (pa_cons (pe_lc (own := [("one", 4)]) (g := gName 4) (tt := tYes) rfl sc_are_ones.nd (pi_tupK (K := K) rfl (pv 0)) (blkOk_by (N := ["thing", "low", "high", "look", "one"]) (sc := defScope s_are_ones) (by decide +kernel)) (fun _ _ _ _ _ => pg_name (i := 4) sc_are_ones.nd rfl (Or.inl rfl)) (fun _ _ _ _ _ => pts_nil) (fun _ _ _ _ _ => (pe_callL (i := 3) FL (hr.mono (by decide)) rfl (by first | exact Or.inl rfl | exact Or.inr (Or.inl rfl) | exact Or.inr (Or.inr rfl)) kL bL .nil pass0 (pa_cons (pv 4) pa_nil)))) pa_nil)))))))) (pss_one (ps_ret pe_bl)) pss_nil)
      (pss_one (ps_ret (pe_cmpR op_eq (pe_callB call_len_setK (by rfl) (fr_len T) PySem.boot_len (pa_cons (pe_scK (own := [("one", 4)]) (g := gName 4) (tt := tYes) rfl sc_are_ones.nd (pi_tupK (K := K) rfl (pv 0)) (blkOk_by (N := ["thing", "low", "high", "look", "one"]) (sc := defScope s_are_ones) (by decide +kernel)) (fun _ _ _ _ _ => pg_name (i := 4) sc_are_ones.nd rfl (Or.inl rfl)) (fun _ _ _ _ _ => pts_nil) (fun _ _ _ _ _ => (pe_ix (ix_tupK (K := K) rfl) (pv 4) pe_int (fun _ _ => rfl)))) pa_nil)) (pe_callB (call_lenK (K := K) rfl) (by rfl) (fr_len T) PySem.boot_len (pa_cons (pv 0) pa_nil)) (nomark _)))))), ?_⟩
      obtain ⟨ds, rfl⟩ := hT
      obtain ⟨a, xs, rfl, hx, ha⟩ := dpT hd
      obtain ⟨hl, hf⟩ := Sm_tup hf
      have hlen := dpLen ha
      have e0 : areOnesD (.tuple ds) lo hi p = onesL ds lo hi p := rfl
      rw [e0] at q0
      cases hb : (decide (lo ≤ (ds.length : Int)) && decide ((ds.length : Int) ≤ hi)) && ds.all p with
      | false =>
        refine ret_no q0 (by unfold onesL; rw [hb]; rfl) (et_is (b := true) (et_or (a := false) (b := true) (et_not (a := true) (et_B (ev_is (ev_isiT (ev_var rfl) hd) (by rfl)))) fun _ => et_is (b := true) (et_or (a := !(decide (lo ≤ (xs.length : Int)) && decide ((xs.length : Int) ≤ hi))) (b := !(ds.all p)) (et_not (et_test (ev_chain (ev_var rfl) (ev_lenS (ev_var rfl) (Or.inr hx)) rv_I0 (fun _ => ev_var rfl) (fun _ => rv_I0)))) fun h => ?_) ?_) rfl)
        · have hh : xs.length ≤ 100 := by
            cases h1 : decide (lo ≤ (xs.length : Int)) <;> cases h2 : decide ((xs.length : Int) ≤ hi) <;> simp_all
            omega
          exact et_not (et_B (ev_is (ev_all (bs := ds.map p) (by
            rw [← map_bl]
            exact el_lcDT (fun d => V.bl (p d)) (ev_var rfl) hx ha (by omega) (fun _ => rfl) fun x d hm hd => ev_callL rfl (ea_cons (ev_var rfl) ea_nil) (sv_q hd (SmA_mem hf d hm)))) (by rw [all_map])))
        · rw [hlen]
          cases h1 : (decide (lo ≤ (ds.length : Int)) && decide ((ds.length : Int) ≤ hi)) <;> cases h2 : ds.all p <;> simp_all
      | true =>
        obtain ⟨hb1, hb2⟩ := ba hb
        have hh : xs.length ≤ 100 := by
          obtain ⟨_, h2⟩ := ba hb1
          have := of_decide_eq_true h2
          omega
        have hall : ∀ d ∈ ds, p d = true := List.all_eq_true.mp hb2
        refine q_when (b := false) (et_is (b := false) (et_or (a := false) (b := false) (et_not (a := true) (et_B (ev_is (ev_isiT (ev_var rfl) hd) (by rfl)))) fun _ => et_is (b := false) (et_or (a := false) (b := false) (et_is (et_not (et_test (ev_chain (ev_var rfl) (ev_lenS (ev_var rfl) (Or.inr hx)) rv_I0 (fun _ => ev_var rfl) (fun _ => rv_I0)))) (by rw [hlen, hb1]; rfl)) fun h => ?_) rfl) rfl) (fun h => by cases h) fun _ H1 e1 => ?_
        · exact et_is (et_not (et_B (ev_all (bs := ds.map p) (by
            rw [← map_bl]
            exact el_lcDT (fun d => V.bl (p d)) (ev_var rfl) hx ha (by omega) (fun _ => rfl) fun x d hm hd => ev_callL rfl (ea_cons (ev_var rfl) ea_nil) (sv_q hd (SmA_mem hf d hm)))))) (by rw [all_map, hb2]; rfl)
        · refine s_ret (ev_op (ev_lenScT (ks := (ds.map nameD).map Sum.inr) (ev_var rfl) (ex_t e1 hx) (by simp [hlen]) (by simp; omega) (fun _ => rfl) fun i x k hi hk => ?_) (ev_lenS (ev_var rfl) (Or.inr (ex_t e1 hx))) (rv_eq rfl)) fun H2 e2 => ?_
          · obtain ⟨d, hd1, hd2⟩ := daG ha hi
            have hm : d ∈ ds := List.mem_of_getElem? hd1
            obtain ⟨n, r, rfl⟩ := hp d (hall d hm)
            have ek : k = Sum.inr n := by
              rw [List.getElem?_map, List.getElem?_map, hd1] at hk
              exact (Option.some.inj hk).symm
            subst ek
            obtain ⟨b, ys, rfl, hy, hb⟩ := dpT (dpM e1 hd2)
            obtain ⟨v0, zs, rfl, h0, _⟩ := dpC hb
            rw [dpS h0] at hy
            exact ev_op (ev_var rfl) ev_c (rv_ixT hy at0)
          · have q' := q0 _ (e1.trans e2)
            have e : onesL ds lo hi p = decide (V.int (dc ((ds.map nameD).map Sum.inr) : Nat) = V.int (xs.length : Nat)) := by
              have := dc_nodup (f := (Sum.inr : Str → L2.Key)) (fun a b h => Sum.inr.inj h) (ds.map nameD)
              rw [List.length_map] at this
              unfold onesL
              rw [hb, hlen, this]
              rfl
            rw [e] at q'
            exact q'
    · refine ⟨_, PSs.nox ((pss_cons (ps_if (PW.pt (pw_or (pt_not (pt_val (pe_callB (call_isiTK (K := K) rfl) (by rfl) (fr_isinstance T) (by decide +kernel) (pa_cons (pv 0) (pa_cons (pe_tup (pa_cons (pe_bltn (v := .ty "list") (u := .type "list") (by rfl) (fr_list T) (by decide +kernel) rfl) (pa_cons (pe_bltn (v := .ty "tuple") (u := .type "tuple") (by rfl) (fr_tuple T) (by decide +kernel) rfl) pa_nil))) pa_nil))))) (pw_or (pt_not (pt_chain op_le op_le (pv 1) (pe_callB (call_lenK (K := K) rfl) (by rfl) (fr_len T) PySem.boot_len (pa_cons (pv 0) pa_nil)) (pv 2))) (pw_or1 (pt_not (pt_val (pe_callB (cr_allK rfl (K := K) rfl) (by rfl) (fr_all T) (by decide +kernel) (pa_cons (pe_lc (own := [("one", 4)]) (g := gName 4) (tt := tYes) rfl sc_are_ones.nd (pi_listK (K := K) rfl (pv 0)) (blkOk_by (N := ["thing", "low", "high", "look", "one"]) (sc := defScope s_are_ones) (by decide +kernel)) (fun _ _ _ _ _ => pg_name (i := 4) sc_are_ones.nd rfl (Or.inl rfl)) (fun _ _ _ _ _ => pts_nil) (fun _ _ _ _ _ => (pe_callL (i := 3) FL (hr.mono (by decide)) rfl (by first | exact Or.inl rfl | exact Or.inr (Or.inl rfl) | exact Or.inr (Or.inr rfl)) kL bL .nil pass0 (pa_cons (pv 4) pa_nil)))) pa_nil)))))))) (pss_one (ps_ret pe_bl)) pss_nil)
      (pss_one (ps_ret (pe_cmpR op_eq (pe_callB call_len_setK (by rfl) (fr_len T) PySem.boot_len (pa_cons (pe_scK (own := [("one", 4)]) (g := gName 4) (tt := tYes) rfl sc_are_ones.nd (pi_listK (K := K) rfl (pv 0)) (blkOk_by (N := ["thing", "low", "high", "look", "one"]) (sc := defScope s_are_ones) (by decide +kernel)) (fun _ _ _ _ _ => pg_name (i := 4) sc_are_ones.nd rfl (Or.inl rfl)) (fun _ _ _ _ _ => pts_nil) (fun _ _ _ _ _ => (pe_ix (ix_tupK (K := K) rfl) (pv 4) pe_int (fun _ _ => rfl)))) pa_nil)) (pe_callB (call_lenK (K := K) rfl) (by rfl) (fr_len T) PySem.boot_len (pa_cons (pv 0) pa_nil)) (nomark _)))))), ?_⟩
      by_cases hL : ∃ ds, d = .list ds
      · obtain ⟨ds, rfl⟩ := hL
        obtain ⟨a, xs, rfl, hx, ha⟩ := dpL hd
        obtain ⟨hl, hf⟩ := Sm_list hf
        have hlen := dpLen ha
        have e0 : areOnesD (.list ds) lo hi p = onesL ds lo hi p := rfl
        rw [e0] at q0
        cases hb : (decide (lo ≤ (ds.length : Int)) && decide ((ds.length : Int) ≤ hi)) && ds.all p with
        | false =>
          refine ret_no q0 (by unfold onesL; rw [hb]; rfl) (et_is (b := true) (et_or (a := false) (b := true) (et_not (a := true) (et_B (ev_is (ev_isiT (ev_var rfl) hd) (by rfl)))) fun _ => et_is (b := true) (et_or (a := !(decide (lo ≤ (xs.length : Int)) && decide ((xs.length : Int) ≤ hi))) (b := !(ds.all p)) (et_not (et_test (ev_chain (ev_var rfl) (ev_lenS (ev_var rfl) (Or.inl hx)) rv_I0 (fun _ => ev_var rfl) (fun _ => rv_I0)))) fun h => ?_) ?_) rfl)
          · have hh : xs.length ≤ 100 := by
              cases h1 : decide (lo ≤ (xs.length : Int)) <;> cases h2 : decide ((xs.length : Int) ≤ hi) <;> simp_all
              omega
            exact et_not (et_B (ev_is (ev_all (bs := ds.map p) (by
              rw [← map_bl]
              exact el_lcD (fun d => V.bl (p d)) (ev_var rfl) hx ha (by omega) (fun _ => rfl) fun x d hm hd => ev_callL rfl (ea_cons (ev_var rfl) ea_nil) (sv_q hd (SmA_mem hf d hm)))) (by rw [all_map])))
          · rw [hlen]
            cases h1 : (decide (lo ≤ (ds.length : Int)) && decide ((ds.length : Int) ≤ hi)) <;> cases h2 : ds.all p <;> simp_all
        | true =>
          obtain ⟨hb1, hb2⟩ := ba hb
          have hh : xs.length ≤ 100 := by
            obtain ⟨_, h2⟩ := ba hb1
            have := of_decide_eq_true h2
            omega
          have hall : ∀ d ∈ ds, p d = true := List.all_eq_true.mp hb2
          refine q_when (b := false) (et_is (b := false) (et_or (a := false) (b := false) (et_not (a := true) (et_B (ev_is (ev_isiT (ev_var rfl) hd) (by rfl)))) fun _ => et_is (b := false) (et_or (a := false) (b := false) (et_is (et_not (et_test (ev_chain (ev_var rfl) (ev_lenS (ev_var rfl) (Or.inl hx)) rv_I0 (fun _ => ev_var rfl) (fun _ => rv_I0)))) (by rw [hlen, hb1]; rfl)) fun h => ?_) rfl) rfl) (fun h => by cases h) fun _ H1 e1 => ?_
          · exact et_is (et_not (et_B (ev_all (bs := ds.map p) (by
              rw [← map_bl]
              exact el_lcD (fun d => V.bl (p d)) (ev_var rfl) hx ha (by omega) (fun _ => rfl) fun x d hm hd => ev_callL rfl (ea_cons (ev_var rfl) ea_nil) (sv_q hd (SmA_mem hf d hm)))))) (by rw [all_map, hb2]; rfl)
          · refine s_ret (ev_op (ev_lenScL (ks := (ds.map nameD).map Sum.inr) (ev_var rfl) (ex_l e1 hx) (by simp [hlen]) (by simp; omega) (fun _ => rfl) fun i x k hi hk => ?_) (ev_lenS (ev_var rfl) (Or.inl (ex_l e1 hx))) (rv_eq rfl)) fun H2 e2 => ?_
            · obtain ⟨d, hd1, hd2⟩ := daG ha hi
              have hm : d ∈ ds := List.mem_of_getElem? hd1
              obtain ⟨n, r, rfl⟩ := hp d (hall d hm)
              have ek : k = Sum.inr n := by
                rw [List.getElem?_map, List.getElem?_map, hd1] at hk
                exact (Option.some.inj hk).symm
              subst ek
              obtain ⟨b, ys, rfl, hy, hb⟩ := dpT (dpM e1 hd2)
              obtain ⟨v0, zs, rfl, h0, _⟩ := dpC hb
              rw [dpS h0] at hy
              exact ev_op (ev_var rfl) ev_c (rv_ixT hy at0)
            · have q' := q0 _ (e1.trans e2)
              have e : onesL ds lo hi p = decide (V.int (dc ((ds.map nameD).map Sum.inr) : Nat) = V.int (xs.length : Nat)) := by
                have := dc_nodup (f := (Sum.inr : Str → L2.Key)) (fun a b h => Sum.inr.inj h) (ds.map nameD)
                rw [List.length_map] at this
                unfold onesL
                rw [hb, hlen, this]
                rfl
              rw [e] at q'
              exact q'
      · have h0 : (isT (tyD d) "list" || isT (tyD d) "tuple") = false := by cases d <;> first | rfl | exact absurd ⟨_, rfl⟩ hT | exact absurd ⟨_, rfl⟩ hL
        refine ret_no q0 ?_ (et_is (b := true) (et_or (a := true) (b := true) (et_is (et_not (et_B (ev_isiT (ev_var rfl) hd))) (by rw [h0]; rfl)) fun h => by cases h) rfl)
        cases d <;> first | rfl | exact absurd ⟨_, rfl⟩ hT | exact absurd ⟨_, rfl⟩ hL
end
end KW
end
section
set_option Elab.async false
set_option linter.all false
set_option autoImplicit false
set_option maxRecDepth 100000
set_option maxHeartbeats 400000
/-! are_unlike_ranks, spoken, all_there -/
namespace KW
open PySem PySem.Spec PyProof.Rows L2 He KR Evl
local macro_rules
  | `(tactic| walk_at "ev") => `(tactic| repeat' (first
    | exact ev_c | exact ev_var rfl | exact ea_nil | exact rv_I0 | exact ru_neg | exact eo_none
    | exact rv_eq rfl | exact rv_ne rfl
    | exact rv_ixT (by assumption) (by rfl) | exact rv_ixL (by assumption) (by rfl)
    | exact sv_q (by assumption) (by assumption) | exact sv_within (by assumption)
    | exact Or.inr (by assumption) | exact Or.inl (by assumption) | (show (_ : String) ∈ _; decide)
    | with_reducible (first | apply ev_isi | apply ev_lenS | apply ev_if' | apply et_test | apply et_B | apply et_not | apply et_and | apply et_or | apply ev_andV | apply ev_orV | apply ev_notV | apply ea_cons | apply eo_some | apply ev_op | apply ev_un | apply ev_call)
    | assumption
    | (with_reducible intro hh; first | exact absurd (show true = false from hh) (by decide) | exact absurd (show false = true from hh) (by decide) | clear hh)))

section
variable {P : Program} {w : World} {K : PySem.W.Frag} {mg : Str → Option Value} {base : Heap}
theorem sc_are_unlike_ranks : FnScope ["things", "one"] ["things"] (defScope s_are_unlike_ranks) := ⟨rfl, rfl, rfl, by decide +kernel, rfl, by decide +kernel, by decide +kernel⟩
theorem sc_spoken : FnScope ["steps", "word", "step"] ["steps", "word"] (defScope s_spoken) := ⟨rfl, rfl, rfl, by decide +kernel, rfl, by decide +kernel, by decide +kernel⟩
theorem sc_all_there : FnScope ["names", "lines", "bottoms", "threads", "every", "one", "word", "there", "steps", "name"] ["names", "lines", "bottoms", "threads"] (defScope s_all_there) := ⟨rfl, rfl, rfl, by decide +kernel, rfl, by decide +kernel, by decide +kernel⟩
def spRanks (K : PySem.W.Frag) : Sp := fun vs H Q _ => ∃ v d ds, vs = [v] ∧ (d = .list ds ∨ d = .tuple ds) ∧ Dp K H v d ∧ ds.length ≤ 100 ∧ (∀ e ∈ ds, ∃ n r rest, e = .tuple (n :: .int r :: rest)) ∧ ∀ H', Same H H' → Q (.bl (unlikeD ds)) H'
theorem ranks_elt {H : Hp} {ds : List PyData} {xs : List V} (ha : DpAll K H xs ds) (hp : ∀ e ∈ ds, ∃ n r rest, e = .tuple (n :: .int r :: rest)) {i : Nat} {x : V} {k : L2.Key} {σ : L2.St} (hi : xs[i]? = some x) (hk : ((ds.map rankD).map Sum.inl : List L2.Key)[i]? = some k) (hσ : σ[1]? = some (some x)) :
    Ev (tOp (rIxT K) (tVar 1) (tC (.int 1))) σ H (kV k) := by
  obtain ⟨d, hd1, hd2⟩ := daG ha hi
  obtain ⟨n, r, rest, rfl⟩ := hp d (List.mem_of_getElem? hd1)
  have ek : k = Sum.inl r := by
    rw [List.getElem?_map, List.getElem?_map, hd1] at hk
    exact (Option.some.inj hk).symm
  subst ek
  obtain ⟨b, ys, rfl, hy, hb⟩ := dpT hd2
  obtain ⟨v0, zs, rfl, h0, hb⟩ := dpC hb
  obtain ⟨v1, zs, rfl, h1, _⟩ := dpC hb
  rw [dpI h1] at hy
  exact ev_op (ev_var hσ) ev_c (rv_ixT hy (atI_nat (j := 1) rfl))
theorem ok_are_unlike_ranks (T : Txt w K mg) : FnOk P w K mg base CX0 1 (f_are_unlike_ranks K) (fdAt K (f_are_unlike_ranks K)) ["things"] (spRanks K) := by
  refine (df_are_unlike_ranks T).ok sc_are_unlike_ranks (fun vs H Q E h => ?_) (fun cdv A outer s H vs Q E hr h => ?_)
  · obtain ⟨v, d, _, rfl, _⟩ := h
    rfl
  · obtain ⟨v, d, ds, rfl, hd, hx, hl, hp, q⟩ := h
    have dn := dc_nodup (f := (Sum.inl : Int → L2.Key)) (fun a b h => Sum.inl.inj h) (ds.map rankD)
    rw [List.length_map] at dn
    rcases hd with rfl | rfl
    · refine ⟨_, PSs.nox ((pss_one (ps_ret (pe_cmpR op_eq (pe_callB call_len_setK (by rfl) (fr_len T) PySem.boot_len (pa_cons (pe_scK (own := [("one", 1)]) (g := gName 1) (tt := tYes) rfl sc_are_unlike_ranks.nd (pi_listK (K := K) rfl (pv 0)) (blkOk_by (N := ["things", "one"]) (sc := defScope s_are_unlike_ranks) (by decide +kernel)) (fun _ _ _ _ _ => pg_name (i := 1) sc_are_unlike_ranks.nd rfl (Or.inl rfl)) (fun _ _ _ _ _ => pts_nil) (fun _ _ _ _ _ => (pe_ix (ix_tupK (K := K) rfl) (pv 1) pe_int (fun _ _ => rfl)))) pa_nil)) (pe_callB (call_lenK (K := K) rfl) (by rfl) (fr_len T) PySem.boot_len (pa_cons (pv 0) pa_nil)) (nomark _))))), ?_⟩
      obtain ⟨a, xs, rfl, hx, ha⟩ := dpL hx
      have hlen := dpLen ha
      refine s_ret (ev_op (ev_lenScL (ks := (ds.map rankD).map Sum.inl) (ev_var rfl) hx (by simp [hlen]) (by simp; omega) (fun _ => rfl) fun i x k hi hk => ranks_elt ha hp hi hk rfl) (ev_lenS (ev_var rfl) (.inl hx)) (rv_eq rfl)) fun H2 e2 => ?_
      rw [hlen, dn]
      exact q _ e2
    · refine ⟨_, PSs.nox ((pss_one (ps_ret (pe_cmpR op_eq (pe_callB call_len_setK (by rfl) (fr_len T) PySem.boot_len (pa_cons (pe_scK (own := [("one", 1)]) (g := gName 1) (tt := tYes) rfl sc_are_unlike_ranks.nd (pi_tupK (K := K) rfl (pv 0)) (blkOk_by (N := ["things", "one"]) (sc := defScope s_are_unlike_ranks) (by decide +kernel)) (fun _ _ _ _ _ => pg_name (i := 1) sc_are_unlike_ranks.nd rfl (Or.inl rfl)) (fun _ _ _ _ _ => pts_nil) (fun _ _ _ _ _ => (pe_ix (ix_tupK (K := K) rfl) (pv 1) pe_int (fun _ _ => rfl)))) pa_nil)) (pe_callB (call_lenK (K := K) rfl) (by rfl) (fr_len T) PySem.boot_len (pa_cons (pv 0) pa_nil)) (nomark _))))), ?_⟩
      obtain ⟨a, xs, rfl, hx, ha⟩ := dpT hx
      have hlen := dpLen ha
      refine s_ret (ev_op (ev_lenScT (ks := (ds.map rankD).map Sum.inl) (ev_var rfl) hx (by simp [hlen]) (by simp; omega) (fun _ => rfl) fun i x k hi hk => ranks_elt ha hp hi hk rfl) (ev_lenS (ev_var rfl) (.inr hx)) (rv_eq rfl)) fun H2 e2 => ?_
      rw [hlen, dn]
      exact q _ e2
def speaks (x : Str) : Prop := x = "answer" ∨ x = "later" ∨ x = "wake"
theorem step_speaks {s : PyData} (h : isStepD s = true) (hw : speaks (wordD s)) : ∃ n, s = .tuple [.str (wordD s), .str n] ∧ argD s = n ∧ isNameS n = true := by
  obtain ⟨r, e⟩ := wordD_get h
  generalize wordD s = y at e hw
  subst e
  have hm : ¬ (y = "mask" ∨ y = "open") := by rcases hw with rfl | rfl | rfl <;> decide
  have hrun : ¬ y = "run" := by rcases hw with rfl | rfl | rfl <;> decide
  have h : isStepW y r = true := h
  unfold isStepW at h
  rw [if_neg hm] at h
  match r, h with
  | [d], h =>
    simp only [if_neg hrun] at h
    obtain ⟨_, h⟩ := ba h
    cases d with
    | str n => exact ⟨n, rfl, rfl, h⟩
    | _ => cases h
def spSpoken (K : PySem.W.Frag) : Sp := fun vs H Q _ => ∃ v x ds, vs = [v, .str x] ∧ speaks x ∧ Dp K H v (.list ds) ∧ ds.length ≤ 40000 ∧ (∀ s ∈ ds, isStepD s = true) ∧ ∀ p H', H p = none → Ex H H' → H' p = some (.lst ((spokenD ds x).map V.str)) → Q (.ref p) H'
theorem ok_spoken (T : Txt w K mg) : FnOk P w K mg base CX0 1 (f_spoken K) (fdAt K (f_spoken K)) ["steps", "word"] (spSpoken K) := by
  refine (df_spoken T).ok sc_spoken (fun vs H Q E h => ?_) (fun cdv A outer s H vs Q E hr h => ?_)
  · obtain ⟨v, x, _, rfl, _⟩ := h
    rfl
  · obtain ⟨v, x, ds, rfl, hw, hx, hl, hp, q⟩ := h
    refine ⟨_, PSs.nox ((pss_one (ps_ret (pe_lc (own := [("step", 2)]) (g := gName 2) rfl sc_spoken.nd (pi_listK (K := K) rfl (pv 0)) (blkOk_by (N := ["steps", "word", "step"]) (sc := defScope s_spoken) (by decide +kernel)) (fun _ _ _ _ _ => pg_name (i := 2) sc_spoken.nd rfl (Or.inl rfl)) (fun _ _ _ _ _ => (pts_one (pt_cmpR op_eq (pe_ix (ix_tupK (K := K) rfl) (pv 2) pe_int (fun _ _ => rfl)) (pv 1) (nomark _)))) (fun _ _ _ _ _ => (pe_ix (ix_tupK (K := K) rfl) (pv 2) pe_int (fun _ _ => rfl))))))), ?_⟩
    obtain ⟨a, xs, rfl, hx, ha⟩ := dpL hx
    have hlen := dpLen ha
    refine s_retL (el_lcDf (fun s => decide (wordD s = x)) (fun s => V.str (argD s)) (ev_var rfl) hx ha (by omega) (fun _ => rfl) (fun y d hm hd => et_test (ev_is (ev_op (ev_word (ev_var rfl) hd (hp d hm)) (ev_var rfl) (rv_eq rfl)) ?_)) fun y d hm hd hpd => ?_) fun p H1 hn e1 h1 => q p H1 hn e1 ?_
    · by_cases e : wordD d = x
      · rw [e]; simp
      · have : ¬ V.str (wordD d) = V.str x := fun z => e (V.str.inj z)
        simp [e, this]
    · have e := of_decide_eq_true hpd
      obtain ⟨n, h1, h2, _⟩ := step_speaks (hp d hm) (by rw [e]; exact hw)
      rw [h1] at hd
      obtain ⟨b, ys, rfl, hy, hb⟩ := dpT hd
      obtain ⟨v0, zs, rfl, h0, hb⟩ := dpC hb
      obtain ⟨v1, zs, rfl, h3, _⟩ := dpC hb
      rw [dpS h3] at hy
      rw [h2]
      exact ev_op (ev_var rfl) ev_c (rv_ixT hy (atI_nat (j := 1) rfl))
    · rw [h1]
      unfold spokenD
      rw [List.map_map]
      rfl
/-- the forms of lines, bottoms, threads -/
def OneD (e : PyData) : Prop := ∃ hs ss, e = .tuple (hs ++ [.list ss]) ∧ (∀ s ∈ ss, isStepD s = true) ∧ ss.length ≤ 100
theorem one_steps {hs ss : List PyData} : stepsD (.tuple (hs ++ [.list ss])) = ss := by
  unfold stepsD
  simp
/-- what stands last in each -/
theorem lasts {H : Hp} : ∀ {xs : List V} {ds : List PyData}, DpAll K H xs ds → (∀ e ∈ ds, OneD e) → ∃ ws : List V, DpAll K H ws (ds.map fun e => .list (stepsD e)) ∧ ∀ (i : Nat) (x w : V), xs[i]? = some x → ws[i]? = some w → ∃ a ys, x = .ref a ∧ SqT K H a ys ∧ atI ys (-1) = some w
  | _, _, .nil, _ => ⟨[], .nil, fun i x w h => by simp at h⟩
  | _, _, .cons (d := d) h hr, hp => by
    obtain ⟨ws, h1, h2⟩ := lasts hr fun e he => hp e (List.mem_cons_of_mem _ he)
    obtain ⟨hs, ss, rfl, _⟩ := hp d (List.mem_cons_self ..)
    obtain ⟨a, ys, rfl, hy, hd⟩ := dpT h
    obtain ⟨us, v, rfl, hv⟩ : ∃ us v, ys = us ++ [v] ∧ Dp K H v (.list ss) := by
      have hl := dpLen hd
      rw [List.length_append] at hl
      have hne : ys ≠ [] := fun e => by rw [e] at hl; simp at hl
      refine ⟨ys.dropLast, ys.getLast hne, (List.dropLast_concat_getLast hne).symm, ?_⟩
      obtain ⟨d, hd1, hd2⟩ := daG hd (i := ys.length - 1) (v := ys.getLast hne) (by rw [List.getLast_eq_getElem, List.getElem?_eq_getElem])
      have : (hs ++ [PyData.list ss])[ys.length - 1]? = some (.list ss) := by
        have e : ys.length - 1 = hs.length := by rw [hl]; simp
        rw [e]
        simp
      rw [this] at hd1
      cases hd1
      exact hd2
    refine ⟨v :: ws, .cons (by show Dp K H v (.list (stepsD (.tuple (hs ++ [.list ss])))); rw [one_steps]; exact hv) h1, fun i x w hx hw => ?_⟩
    cases i with
    | zero =>
      simp at hx hw
      subst hx hw
      refine ⟨a, _, rfl, hy, ?_⟩
      have e : ixN (us ++ [v]).length (-1) = some us.length := by
        unfold ixN
        rw [if_neg (by decide), if_pos (by simp; omega)]
        simp
        omega
      unfold atI
      rw [e]
      simp
    | succ i => exact h2 i x w (by simpa using hx) (by simpa using hw)
def spThere (K : PySem.W.Frag) : Sp := fun vs H Q _ => ∃ pn n1 n2 n3 N1 N2 N3 l b t dl db dt D1 D2 D3, vs = [.ref pn, l, b, t] ∧ (SqL K H pn [.ref n1, .ref n2, .ref n3] ∧ SqL K H n1 ((N1 : List Str).map V.str) ∧ SqL K H n2 ((N2 : List Str).map V.str) ∧ SqL K H n3 ((N3 : List Str).map V.str)) ∧
  ((dl = .list D1 ∨ dl = .tuple D1) ∧ (db = .list D2 ∨ db = .tuple D2) ∧ (dt = .list D3 ∨ dt = .tuple D3)) ∧ (Dp K H l dl ∧ Dp K H b db ∧ Dp K H t dt) ∧ (D1.length ≤ 10 ∧ D2.length ≤ 10 ∧ D3.length ≤ 10) ∧
  (∀ e ∈ D1 ++ (D2 ++ D3), OneD e) ∧ ∀ H', Same H H' → Q (.bl (allThereD (N1, N2, N3) (D1 ++ (D2 ++ D3)))) H'
theorem sq_data {H : Hp} {v : V} {d : PyData} {L : List PyData} (h : d = .list L ∨ d = .tuple L) (hd : Dp K H v d) : ∃ a xs, v = .ref a ∧ (SqL K H a xs ∨ SqT K H a xs) ∧ DpAll K H xs L := by
  rcases h with rfl | rfl
  · obtain ⟨a, xs, e, h1, h2⟩ := dpL hd
    exact ⟨a, xs, e, .inl h1, h2⟩
  · obtain ⟨a, xs, e, h1, h2⟩ := dpT hd
    exact ⟨a, xs, e, .inr h1, h2⟩
theorem da_app {H : Hp} {vs ws : List V} {ds es : List PyData} (h1 : DpAll K H vs ds) (h2 : DpAll K H ws es) : DpAll K H (vs ++ ws) (ds ++ es) := DpAll.append h1 h2
theorem spoken_ok {ss : List PyData} (h : ss.length ≤ 100) (x : Str) : (spokenD ss x).length ≤ 100 := by
  unfold spokenD
  rw [List.length_map]
  exact Nat.le_trans (List.length_filter_le ..) h
theorem steps_len {e : PyData} (h : OneD e) : (stepsD e).length ≤ 100 ∧ ∀ s ∈ stepsD e, isStepD s = true := by
  obtain ⟨hs, ss, rfl, h1, h2⟩ := h
  rw [one_steps]
  exact ⟨h2, h1⟩
theorem all_flat {every : List PyData} {x : Str} {there : List Str} : (every.flatMap fun e => ((spokenD (stepsD e) x).map fun n => decide (n ∈ there))).all id = thereD x there every := by
  unfold thereD
  induction every with
  | nil => rfl
  | cons e r ih =>
    rw [List.flatMap_cons, List.all_append, ih, List.all_cons, List.all_map]
    rfl
/-- the test of a turn -/
theorem there_test {H : Hp} {σ : L2.St} {pe : Addr} {ws : List V} {every : List PyData} {x : Str} {pt : Addr} {there : List Str} {a b c d s5 s8 s9 : Option V} (hσ : σ = [a, b, c, d, some (.ref pe), s5, some (.str x), some (.ref pt), s8, s9]) (hw : speaks x) (he : SqL K H pe ws) (hd : DpAll K H ws (every.map fun e => .list (stepsD e))) (ho : ∀ e ∈ every, OneD e) (hz : every.length ≤ 100) (ht : SqL K H pt (there.map V.str)) :
    EvT (tNot (tB (tCB (rAll K) (tCons (tLc2 (iList K (tVar 4)) (gName 8) tYes (iList K (tCall (spSpoken K) [] E0 (tCons (tVar 8) (tCons (tVar 6) tNil)))) (gName 9) tYes (tOp (rIn K false) (tVar 9) (tVar 7)) [8, 9] [9]) tNil)))) σ H (!thereD x there every) := by
  subst hσ
  have hl := dpLen hd
  rw [List.length_map] at hl
  refine et_not (et_B (ev_is (ev_all (bs := every.flatMap fun e => ((spokenD (stepsD e) x).map fun n => decide (n ∈ there))) ?_) (by rw [all_flat])))
  have key : ∀ {i : Nat} {y : V}, ws[i]? = some y → ∃ e, every.getD i .none = e ∧ e ∈ every ∧ Dp K H y (.list (stepsD e)) := fun {i y} hi => by
    obtain ⟨d, h1, h2⟩ := daG hd hi
    rw [List.getElem?_map] at h1
    cases hq : every[i]? with
    | none => rw [hq] at h1; cases h1
    | some e =>
      rw [hq] at h1
      cases h1
      exact ⟨e, by rw [List.getD_eq_getElem?_getD, hq]; rfl, List.mem_of_getElem? hq, h2⟩
  have small : ∀ i, (spokenD (stepsD (every.getD i .none)) x).length ≤ 100 := fun i => by
    rw [List.getD_eq_getElem?_getD]
    cases hq : every[i]? with
    | none => exact spoken_ok (by show (stepsD .none).length ≤ 100; decide) x
    | some e => exact spoken_ok (steps_len (ho e (List.mem_of_getElem? hq))).1 x
  have z := el_lc2 (K := K) (H := H) (σ := [a, b, c, d, some (.ref pe), s5, some (.str x), some (.ref pt), s8, s9]) (te := tOp (rIn K false) (tVar 9) (tVar 7)) (tl := tVar 4) (tl1 := tCall (spSpoken K) [] E0 (tCons (tVar 8) (tCons (tVar 6) tNil))) (j := 8) (j1 := 9) (vs := [8, 9]) (vs1 := [9])
    (fun i => (spokenD (stepsD (every.getD i .none)) x).map V.str) (fun i => (spokenD (stepsD (every.getD i .none)) x).map fun n => V.bl (decide (n ∈ there))) (ev_var rfl) he (by omega) (fun i => by rw [List.length_map]; exact small i) (fun i => by rw [List.length_map, List.length_map]) (fun _ => rfl) (fun _ _ => rfl)
    (fun i y hi => by
      obtain ⟨e, e1, e2, e3⟩ := key hi
      rw [e1]
      have s1 := steps_len (ho e e2)
      exact el_call (ea_cons (ev_var rfl) (ea_cons (ev_var rfl) ea_nil)) fun H1 ex Q q E => ⟨y, x, stepsD e, rfl, hw, dpM ex e3, by omega, s1.2, fun p H' hp e4 h4 => q p H' hp e4 h4⟩)
    (fun i y k n z hi hn hz => by
      rw [List.getElem?_map] at hn hz
      cases hq : (spokenD (stepsD (every.getD i .none)) x)[k]? with
      | none => rw [hq] at hn; cases hn
      | some u =>
        rw [hq] at hn hz
        cases hn
        cases hz
        refine ev_is (ev_op (ev_var rfl) (ev_var rfl) (rv_isL ht rfl (by rw [List.all_map]; exact List.all_eq_true.mpr fun _ _ => rfl))) ?_
        rw [inV_strs])
  rw [hl, flat_data every PyData.none fun e => (spokenD (stepsD e) x).map fun n => V.bl (decide (n ∈ there))] at z
  have e : (every.flatMap fun e => (spokenD (stepsD e) x).map fun n => decide (n ∈ there)).map V.bl = every.flatMap fun e => (spokenD (stepsD e) x).map fun n => V.bl (decide (n ∈ there)) := by
    rw [List.map_flatMap]
    simp only [List.map_map]
    rfl
  rw [e]
  exact z
theorem ok_all_there (T : Txt w K mg) : FnOk P w K mg base CX0 3 (f_all_there K) (fdAt K (f_all_there K)) ["names", "lines", "bottoms", "threads"] (spThere K) := by
  refine (df_all_there T).ok sc_all_there (fun vs H Q E h => ?_) (fun cdv A outer s H vs Q E hr h => ?_)
  · obtain ⟨pn, n1, n2, n3, N1, N2, N3, l, b, t, dl, db, dt, D1, D2, D3, rfl, _⟩ := h
    rfl
  · obtain ⟨pn, n1, n2, n3, N1, N2, N3, l, b, t, dl, db, dt, D1, D2, D3, rfl, ⟨hn, h1, h2, h3⟩, ⟨fl, fb, ft⟩, ⟨hl, hb, ht⟩, ⟨z1, z2, z3⟩, ho, q⟩ := h
    refine ⟨_, PSs.nox ((pss_cons (ps_setLc (i := 4) (own := [("one", 5)]) (g := gName 5) (tt := tYes) rfl sc_all_there.nd rfl rfl (sw_true rfl rfl rfl (by decide +kernel)) (pi_listK (K := K) rfl ((pe_op op_cat ((pe_op op_cat (pe_callTy (call_listK (K := K) rfl) (by rfl) (fr_list T) (by decide +kernel) (pa_cons (pv 1) pa_nil)) (pe_callTy (call_listK (K := K) rfl) (by rfl) (fr_list T) (by decide +kernel) (pa_cons (pv 2) pa_nil)))) (pe_callTy (call_listK (K := K) rfl) (by rfl) (fr_list T) (by decide +kernel) (pa_cons (pv 3) pa_nil))))) (blkOk_by (N := ["names", "lines", "bottoms", "threads", "every", "one", "word", "there", "steps", "name"]) (sc := defScope s_all_there) (by decide +kernel)) (fun _ _ _ _ _ => pg_name (i := 5) sc_all_there.nd rfl (Or.inl rfl)) (fun _ _ _ _ _ => pts_nil) (fun _ _ _ _ _ => (pe_ix (ix_tupK (K := K) rfl) (pv 5) (pe_un un_neg pe_int) (fun _ _ => rfl))))
      (pss_cons (ps_for PassesOwn.never rfl (pi_zipM (K := K) rfl (by rfl) (fr_zip T) (pa_cons (pe_tup (pa_cons pe_str (pa_cons pe_str (pa_cons pe_str pa_nil)))) (pa_cons (pv 0) pa_nil))) (pg_tupK rfl (K := K) rfl (pgs_cons (pg_name (i := 6) sc_all_there.nd rfl (Or.inr rfl)) (pgs_cons (pg_name (i := 7) sc_all_there.nd rfl (Or.inr rfl)) pgs_nil))) (pss_one (ps_if (pt_not (pt_val (pe_callB (cr_allK rfl (K := K) rfl) (by rfl) (fr_all T) (by decide +kernel) (pa_cons (pe_lc2 (own := [("steps", 8), ("name", 9)]) (g := gName 8) (tt := tYes) (g1 := gName 9) (tt1 := tYes) (vs1 := [9]) rfl sc_all_there.nd (pi_listK (K := K) rfl (pv 4)) (blkOk_by (N := ["names", "lines", "bottoms", "threads", "every", "one", "word", "there", "steps", "name"]) (sc := defScope s_all_there) (by decide +kernel)) (by decide) (fun _ _ _ _ _ => (pg_name (i := 8) sc_all_there.nd rfl (Or.inl rfl))) (fun _ _ _ _ _ => pts_nil) (fun _ _ _ _ _ => (pi_listK (K := K) rfl (pe_call (ok_spoken T) (hr.mono (by decide)) rfl (gl_spoken T) (df_spoken T).kp (bi_spoken T) .nil pass0 (pa_cons (pv 8) (pa_cons (pv 6) pa_nil))))) (fun _ _ _ _ _ => (pg_name (i := 9) sc_all_there.nd rfl (Or.inl rfl))) (fun _ _ _ _ _ => pts_nil) (fun _ _ _ _ _ => (pe_cmpR (op_inK (K := K) rfl) (pv 9) (pv 7) (by rfl)))) pa_nil)))) (pss_one (ps_ret pe_bl)) pss_nil)))
      (pss_one (ps_ret pe_bl))))), ?_⟩
    obtain ⟨al, xl, rfl, sl, hl⟩ := sq_data fl hl
    obtain ⟨ab, xb, rfl, sb, hb⟩ := sq_data fb hb
    obtain ⟨at_, xt, rfl, st, ht⟩ := sq_data ft ht
    have y1 := dpLen hl
    have y2 := dpLen hb
    have y3 := dpLen ht
    have hall := da_app (da_app hl hb) ht
    have eL : D1 ++ D2 ++ D3 = D1 ++ (D2 ++ D3) := List.append_assoc ..
    rw [eL] at hall
    generalize hEv : D1 ++ (D2 ++ D3) = every at hall ho q
    have hzE : every.length ≤ 30 := by rw [← hEv, List.length_append, List.length_append]; omega
    obtain ⟨ws, hws, hat⟩ := lasts hall ho
    have y4 := dpLen hws
    have y5 := dpLen hall
    rw [List.length_map] at y4
    refine q_asgL (xs := ws) ?_ fun pe H1 hpe e1 he => ?_
    · have z := el_lcNL (K := K) (σ := L2.start ["names", "lines", "bottoms", "threads", "every", "one", "word", "there", "steps", "name"] [.ref pn, .ref al, .ref ab, .ref at_]) (H := H) (te := tOp (rIxT K) (tVar 5) (tUn (rU fun i => V.int (-i)) (tC (V.int 1)))) (t := tYes) (j := 5) (vs := [5]) (fun _ => true) (fun i => ws.getD i .non)
        (el_cat (el_cat (el_listS (ev_var (i := 1) rfl) sl) (el_listS (ev_var (i := 2) rfl) sb) (by omega)) (el_listS (ev_var (i := 3) rfl) st) (by simp; omega)) (by simp; omega) (fun _ => rfl) (fun i x H1 e1 hi H2 e2 Q q => q H2 (Ex.refl _)) (fun i x H1 e1 hi _ => by
          have hlt : i < ws.length := by
            have := (List.getElem?_eq_some_iff.mp hi).1
            omega
          have hw : ws[i]? = some ws[i] := List.getElem?_eq_getElem hlt
          obtain ⟨a, ys, rfl, hy, hlast⟩ := hat i x _ hi hw
          rw [List.getD_eq_getElem?_getD, hw]
          exact ev_op (ev_var rfl) (ev_un ev_c ru_neg) (rv_ixT (ex_t e1 hy) hlast))
      rw [given_all (fun _ _ => rfl)] at z
      have e : (List.range (xl ++ xb ++ xt).length).map (fun i => ws.getD i .non) = ws := by
        rw [y5, ← y4]
        exact list_range ws .non
      rw [e] at z
      exact z
    · have hws := daM e1 hws
      let wd : Nat → Str := fun i => if i = 0 then "answer" else if i = 1 then "later" else "wake"
      let th : Nat → List Str := fun i => if i = 0 then N1 else if i = 1 then N2 else N3
      let ad : Nat → Addr := fun i => if i = 0 then n1 else if i = 1 then n2 else n3
      have hth : ∀ i, i < 3 → SqL K H (ad i) ((th i).map V.str) := fun i hi => by
        match i, hi with
        | 0, _ => exact h1
        | 1, _ => exact h2
        | 2, _ => exact h3
      have hsp : ∀ i, i < 3 → speaks (wd i) := fun i hi => by
        match i, hi with
        | 0, _ => exact .inl rfl
        | 1, _ => exact .inr (.inl rfl)
        | 2, _ => exact .inr (.inr rfl)
      have e0 : allThereD (N1, N2, N3) every = (thereD (wd 0) (th 0) every && (thereD (wd 1) (th 1) every && thereD (wd 2) (th 2) every)) := rfl
      rw [e0] at q
      refine q_forM (n := 2) (xs := [.str "answer", .str "later", .str "wake"]) (ys := [.ref n1, .ref n2, .ref n3]) (eu_tup (ea_cons ev_c (ea_cons ev_c (ea_cons ev_c ea_nil))) (by show (3 : Nat) ≤ 100000; decide)) (ev_var rfl) (ex_l e1 hn) rfl rfl
        (fun B i σ' H' => Ex B H' ∧ (∀ k, k < i → thereD (wd k) (th k) every = true) ∧ ∃ s5 s6 s7 s8 s9, σ' = [some (.ref pn), some (.ref al), some (.ref ab), some (.ref at_), some (.ref pe), s5, s6, s7, s8, s9]) (fun H2 e2 => ⟨Ex.refl _, fun k hk => absurd hk (Nat.not_lt_zero k), _, _, _, _, _, rfl⟩) (fun B i σ' H' h => h.1) (fun B i x y σ' H' H2 eB hx hy pv e2 => ?_) (fun B σ' H' eB pv => ?_)
      · obtain ⟨eb, hk, s5, s6, s7, s8, s9, rfl⟩ := pv
        have hi : i < 3 := (List.getElem?_eq_some_iff.mp hx).1
        have ex : x = .str (wd i) := by
          match i, hi, hx with
          | 0, _, h => cases h; rfl
          | 1, _, h => cases h; rfl
          | 2, _, h => cases h; rfl
        have ey : y = .ref (ad i) := by
          match i, hi, hy with
          | 0, _, h => cases h; rfl
          | 1, _, h => cases h; rfl
          | 2, _, h => cases h; rfl
        subst ex ey
        have eA : Ex H H2 := (e1.trans eB).trans (eb.trans e2)
        have eA1 : Ex H1 H2 := eB.trans (eb.trans e2)
        refine s_when (b := !thereD (wd i) (th i) every) (there_test rfl (hsp i hi) (sq_of (eA1 _ _ he)) (daM eA1 hws) ho (by omega) (ex_l eA (hth i hi))) (fun hb H3 e3 => ?_) fun hb H3 e3 => ?_
        · refine s_ret ev_c fun H4 e4 => ?_
          have q' := q _ ((eA.trans e3).trans e4)
          have hb : thereD (wd i) (th i) every = false := by cases h : thereD (wd i) (th i) every <;> simp_all
          have e : (thereD (wd 0) (th 0) every && (thereD (wd 1) (th 1) every && thereD (wd 2) (th 2) every)) = false := by
            match i, hi, hb with
            | 0, _, h => rw [h]; rfl
            | 1, _, h => rw [h]; simp
            | 2, _, h => rw [h]; simp
          rw [e] at q'
          exact q'
        · refine ⟨eb.trans (e2.trans e3), fun k hk2 => ?_, _, _, _, _, _, rfl⟩
          by_cases h : k = i
          · subst h
            cases h : thereD (wd k) (th k) every <;> simp_all
          · exact hk k (by omega)
      · obtain ⟨eb, hk, s5, s6, s7, s8, s9, rfl⟩ := pv
        refine s_ret ev_c fun H4 e4 => ?_
        have q' := q _ ((e1.trans eB).trans (eb.trans e4))
        rw [hk 0 (by decide), hk 1 (by decide), hk 2 (by decide)] at q'
        exact q'
end
end KW
end
section
set_option Elab.async false
set_option linter.all false
set_option autoImplicit false
set_option maxRecDepth 100000
set_option maxHeartbeats 1000000
/-! lists of lines, bottoms, threads: told, and handed in -/
namespace KW
open PySem PySem.Spec PyProof.Rows L2 He KR Evl
/-- the steps' list of each is an object of its own (cs), all else is in G -/
inductive Tl (K : PySem.W.Frag) (G : Hp) : List V → List PyData → List (Addr × HO) → Prop
  | nil : Tl K G [] [] []
  | cons {a l : Addr} {hs ss : List V} {hds sds : List PyData} {xs : List V} {ds : List PyData} {cs : List (Addr × HO)} : SqT K G a (hs ++ [.ref l]) → DpAll K G hs hds → DpAll K G ss sds → Tl K G xs ds cs →
      Tl K G (.ref a :: xs) (.tuple (hds ++ [.list sds]) :: ds) ((l, .lst ss) :: cs)
/-- the same, the lists as they stand in H -/
inductive InA (K : PySem.W.Frag) (G H : Hp) : List V → List PyData → Prop
  | nil : InA K G H [] []
  | cons {a l : Addr} {hs ss : List V} {hds sds : List PyData} {xs : List V} {ds : List PyData} : SqT K G a (hs ++ [.ref l]) → DpAll K G hs hds → SqL K H l ss → DpAll K G ss sds → InA K G H xs ds →
      InA K G H (.ref a :: xs) (.tuple (hds ++ [.list sds]) :: ds)
section
variable {K : PySem.W.Frag} {G G' H H' : Hp} {xs ys : List V} {ds es : List PyData} {cs ct L : List (Addr × HO)}
theorem tl_mono (e : Same G G') (h : Tl K G xs ds cs) : Tl K G' xs ds cs := by
  induction h with
  | nil => exact .nil
  | cons a b c _ ih => exact .cons (sT e a) (daM e b) (daM e c) ih
theorem tl_app (h : Tl K G xs ds cs) (k : Tl K G ys es ct) : Tl K G (xs ++ ys) (ds ++ es) (cs ++ ct) := by
  induction h with
  | nil => exact k
  | cons a b c _ ih => exact .cons a b c ih
theorem in_mono (e : Same G G') (e2 : Same H H') (h : InA K G H xs ds) : InA K G' H' xs ds := by
  induction h with
  | nil => exact .nil
  | cons a b c d _ ih => exact .cons (sT e a) (daM e b) (sL e2 c) (daM e d) ih
theorem in_len (h : InA K G H xs ds) : xs.length = ds.length := by
  induction h with
  | nil => rfl
  | cons a b c d _ ih => exact congrArg Nat.succ ih
theorem in_tl (o : Own G H (cs ++ L)) (h : Tl K G xs ds cs) : InA K G H xs ds := by
  induction h with
  | nil => exact .nil
  | cons a b c _ ih => exact .cons a b (sq_of (o.at_ _ (List.mem_cons_self ..))) c (ih o.tail)
theorem in_da (s : Same G H) (h : InA K G H xs ds) : DpAll K H xs ds := by
  induction h with
  | nil => exact .nil
  | cons a b c d _ ih => exact .cons (.tup (sT s a) (da_app (daM s b) (.cons (.lst c (daM s d)) .nil))) ih
/-- all of it stands in G -/
theorem in_of (s : Same G H) : ∀ {xs : List V} {ds : List PyData}, DpAll K G xs ds → (∀ e ∈ ds, OneD e) → InA K G H xs ds
  | _, _, .nil, _ => .nil
  | _, _, .cons (d := d) h hr, hp => by
    obtain ⟨hs, ss, rfl, _⟩ := hp d (List.mem_cons_self ..)
    obtain ⟨a, ys, rfl, hy, hd⟩ := dpT h
    obtain ⟨us, v, rfl, hu, hv⟩ := da_snoc hd
    obtain ⟨l, zs, rfl, hz, hzs⟩ := dpL hv
    exact .cons hy hu (sL s hz) hzs (in_of s hr fun e he => hp e (List.mem_cons_of_mem _ he))
where
  da_snoc : ∀ {hs : List PyData} {d : PyData} {ys : List V}, DpAll K G ys (hs ++ [d]) → ∃ us v, ys = us ++ [v] ∧ DpAll K G us hs ∧ Dp K G v d
  | [], d, _, h => by
    obtain ⟨v, ws, rfl, hv, hn⟩ := dpC h
    obtain rfl := dpN hn
    exact ⟨[], v, rfl, .nil, hv⟩
  | h0 :: hs, d, _, h => by
    obtain ⟨v, ws, rfl, hv, hn⟩ := dpC h
    obtain ⟨us, u, rfl, hu, hd⟩ := da_snoc hn
    exact ⟨v :: us, u, rfl, .cons hv hu, hd⟩
theorem in_get {i : Nat} {x : V} {d : PyData} (h : InA K G H xs ds) (hx : xs[i]? = some x) (hd : ds[i]? = some d) : ∃ a l hs ss hds sds, x = .ref a ∧ d = .tuple (hds ++ [.list sds]) ∧ SqT K G a (hs ++ [.ref l]) ∧ DpAll K G hs hds ∧ SqL K H l ss ∧ DpAll K G ss sds := by
  induction h generalizing i with
  | nil => simp at hx
  | cons a b c e _ ih => cases i with
    | zero =>
      simp at hx hd
      subst hx hd
      exact ⟨_, _, _, _, _, _, rfl, rfl, a, b, c, e⟩
    | succ i => exact ih (by simpa using hx) (by simpa using hd)
theorem own_add {a : Addr} {o : HO} (h : Own G H L) (s : Same H H') (n : H a = none) (e : H' a = some o) : Own G H' ((a, o) :: L) := by
  refine ⟨fun q hq => ?_, ?_, fun q hq => ?_, h.sub.trans s⟩
  · rcases List.mem_cons.mp hq with rfl | hq
    · exact e
    · exact s _ _ (h.at_ q hq)
  · rw [List.map_cons, List.nodup_cons]
    refine ⟨fun m => ?_, h.nd⟩
    obtain ⟨q, hq, z⟩ := List.mem_map.mp m
    have k := h.at_ q hq
    rw [z, n] at k
    cases k
  · rcases List.mem_cons.mp hq with rfl | hq
    · exact h.sub.free n
    · exact h.out q hq
/-! ### owned things become things that nobody changes -/
theorem Own.hold {a : Addr} {o : HO} (h : Own G H ((a, o) :: L)) : Own (_root_.L2.upd G a o) H L := by
  have nd := h.nd
  rw [List.map_cons, List.nodup_cons] at nd
  have ha := h.at_ _ (List.mem_cons_self ..)
  refine ⟨fun q hq => h.at_ q (List.mem_cons_of_mem _ hq), nd.2, fun q hq => ?_, fun b u e => ?_⟩
  · have : q.1 ≠ a := fun z => nd.1 (List.mem_map.mpr ⟨q, hq, z⟩)
    rw [upd_ne this]
    exact h.out q (List.mem_cons_of_mem _ hq)
  · by_cases hb : b = a
    · subst hb
      rw [upd_same] at e
      cases e
      exact ha
    · rw [upd_ne hb] at e
      exact h.sub b u e
theorem Own.held {a : Addr} {o : HO} (h : Own G H ((a, o) :: L)) : Same G (_root_.L2.upd G a o) := same_new (h.out _ (List.mem_cons_self ..))
theorem own_keep {a : Addr} {o : HO} (h : Own G H L) (s : Same H H') (n : H a = none) (e : H' a = some o) : Own (_root_.L2.upd G a o) H' L ∧ Same G (_root_.L2.upd G a o) := ⟨Own.hold (own_add h s n e), Own.held (own_add h s n e)⟩
theorem own_holds : ∀ {cs : List (Addr × HO)} {G : Hp}, Own G H (cs ++ L) → ∃ G', Same G G' ∧ Own G' H L ∧ ∀ q ∈ cs, G' q.1 = some q.2
  | [], G, h => ⟨G, Same.refl _, h, fun _ z => nomatch z⟩
  | (a, o) :: cs, G, h => by
    obtain ⟨G', s, o', k⟩ := own_holds (cs := cs) (Own.hold (L := cs ++ L) h)
    refine ⟨G', (Own.held (L := cs ++ L) h).trans s, o', fun q hq => ?_⟩
    rcases List.mem_cons.mp hq with rfl | hq
    · exact s _ _ upd_same
    · exact k q hq
theorem tl_da (h : Tl K G xs ds cs) (k : ∀ q ∈ cs, G q.1 = some q.2) : DpAll K G xs ds := by
  induction h with
  | nil => exact .nil
  | cons a b c _ ih => exact .cons (.tup a (da_app b (.cons (.lst (sq_of (k _ (List.mem_cons_self ..))) c) .nil))) (ih fun q hq => k q (List.mem_cons_of_mem _ hq))
end
end KW
end
section
set_option Elab.async false
set_option linter.all false
set_option autoImplicit false
set_option maxRecDepth 100000
set_option maxHeartbeats 1000000
/-! walks over a list or a tuple -/
namespace KW
open PySem PySem.Spec PyProof.Rows L2 He KR Evl
def iSeq (K : PySem.W.Frag) (tl : TE) : TI := fun σ H R => tl σ H fun x H1 => ∃ a xs, x = .ref a ∧ ((SqL K H1 a xs ∧ R (Itl K a) H1) ∨ (SqT K H1 a xs ∧ R (Itt K a) H1))
theorem pi_seq {X : Cx} {K : PySem.W.Frag} {tg l : Expr} {tl : TE} (hK : X.K = K) (hl : PE X l tl) : PI X tg l (iSeq K tl) := by
  subst hK
  refine ⟨fun pins s σ H R I h => thn (hl.run pins s σ H _ I h) fun v s1 ⟨x, H1, I1, r1, q1⟩ => ?_⟩
  obtain ⟨a, xs, rfl, q1⟩ := q1
  obtain rfl : v = Value.ref a := r1
  have fp : ∀ b ∈ [s1.heap.objs.size], FpOk X pins H1 b := fun b hb => by
    rw [List.mem_singleton.mp hb]
    exact I1.fpOk (Nat.le_refl _) (I1.hok.fresh (Nat.le_refl _))
  have kept : ∀ (o : Obj), Inv X pins σ H1 { s1 with heap := s1.heap.push o } := fun o => I1.kept (t' := s1.toks) fun b o e => Heap.get?_push_of_some _ e
  rcases q1 with ⟨hq, q⟩ | ⟨hq, q⟩
  · obtain ⟨_, _, p, _⟩ := I1.list hq
    exact wpAny_pyIter_list p.isList ⟨s1.heap.objs.size, [s1.heap.objs.size], _, _, H1, rfl, kept _, turn_list a _, ⟨_, Heap.get?_push_size _ rfl, rfl, rfl⟩, fp, q⟩
  · obtain ⟨us, _, p, _⟩ := I1.tuple hq
    exact wpAny_pyIter_tuple (items := us.toArray) p ⟨s1.heap.objs.size, [s1.heap.objs.size], _, _, H1, rfl, kept _, turn_tuple a _, ⟨_, Heap.get?_push_size _ rfl, rfl, rfl⟩, fp, q⟩
section
variable {K : PySem.W.Frag} {σ : L2.St} {H H' : Hp} {te tl : TE} {a : Addr} {xs : List V} {ds : List PyData} {j : Nat} {vs : List Nat}
theorem el_lcS (f : PyData → V) (h : Ev tl σ H (.ref a)) (hx : SqL K H a xs ∨ SqT K H a xs) (hd : DpAll K H xs ds) (hz : xs.length ≤ 40000) (hw : ∀ x, wipe ((wipe σ vs).set j (some x)) vs = wipe σ vs)
    (he : ∀ H1, Ex H H1 → ∀ x d, d ∈ ds → Dp K H1 x d → Ev te ((wipe σ vs).set j (some x)) H1 (f d)) : EvL (tLc (iSeq K tl) (gName j) tYes te vs) σ H (ds.map f) := fun H0 e Q q => h H0 e _ fun H1 e1 => by
  have e2 := e.trans e1
  rcases hx with hx | hx
  · obtain ⟨b, hb, _, k⟩ := el_lcD (K := K) (te := te) (tl := fun _ H Q => Q (.ref a) H) f (fun H2 _ Q q => q H2 (Ex.refl _)) (ex_l e2 hx) (daM e2 hd) hz hw (fun x d hm hd => he H1 e2 x d hm hd) H1 (Ex.refl _) Q fun p H2 hp e3 h3 => q p H2 (fresh_back e1 hp) (e1.trans e3) h3
    cases hb
    exact ⟨a, xs, rfl, .inl ⟨ex_l e2 hx, k⟩⟩
  · obtain ⟨b, hb, _, k⟩ := el_lcDT (K := K) (te := te) (tl := fun _ H Q => Q (.ref a) H) f (fun H2 _ Q q => q H2 (Ex.refl _)) (ex_t e2 hx) (daM e2 hd) hz hw (fun x d hm hd => he H1 e2 x d hm hd) H1 (Ex.refl _) Q fun p H2 hp e3 h3 => q p H2 (fresh_back e1 hp) (e1.trans e3) h3
    cases hb
    exact ⟨a, xs, rfl, .inr ⟨ex_t e2 hx, k⟩⟩
end
end KW
end
section
set_option Elab.async false
set_option linter.all false
set_option autoImplicit false
set_option maxRecDepth 100000
set_option maxHeartbeats 400000
/-! plans.py: copied -/
namespace KW
open PySem PySem.Spec PyProof.Rows L2 He KR Evl
local macro_rules
  | `(tactic| walk_at "ev") => `(tactic| repeat' (first
    | exact ev_c | exact ev_var rfl | exact ea_nil | exact rv_I0 | exact ru_neg | exact eo_none
    | exact rv_eq rfl | exact rv_ne rfl
    | exact rv_ixT (by assumption) (by rfl) | exact rv_ixL (by assumption) (by rfl)
    | exact sv_q (by assumption) (by assumption) | exact sv_within (by assumption)
    | exact Or.inr (by assumption) | exact Or.inl (by assumption) | (show (_ : String) ∈ _; decide)
    | with_reducible (first | apply ev_isi | apply ev_lenS | apply ev_if' | apply et_test | apply et_B | apply et_not | apply et_and | apply et_or | apply ev_andV | apply ev_orV | apply ev_notV | apply ea_cons | apply eo_some | apply ev_op | apply ev_un | apply ev_call)
    | assumption
    | (with_reducible intro hh; first | exact absurd (show true = false from hh) (by decide) | exact absurd (show false = true from hh) (by decide) | clear hh)))

section
variable {P : Program} {w : World} {K : PySem.W.Frag} {mg : Str → Option Value} {base : Heap}
theorem sc_copied : FnScope ["things", "one"] ["things"] (defScope s_copied) := ⟨rfl, rfl, rfl, by decide +kernel, rfl, by decide +kernel, by decide +kernel⟩
/-- what may be copied -/
def CopyD (e : PyData) : Prop := ∃ hds sds, e = .tuple (hds ++ [.list sds]) ∧ hds ≠ [] ∧ hds.length ≤ 100 ∧ sds.length ≤ 1000
def spCopied (K : PySem.W.Frag) : Sp := fun vs H Q _ => ∃ v a xs ds G L, vs = [v] ∧ v = .ref a ∧ (SqL K H a xs ∨ SqT K H a xs) ∧ Own G H L ∧ InA K G H xs ds ∧ ds.length ≤ 100 ∧ (∀ e ∈ ds, CopyD e) ∧
  ∀ p G' H' ys cs, Same G G' → Same H H' → H p = none → Own G' H' ((p, .lst ys) :: (cs ++ L)) → Tl K G' ys ds cs → Q (.ref p) H'
theorem tup1 {te : TE} {σ : L2.St} {H : Hp} {xs : List V} {Q : VK} (h : EvL te σ H xs) (q : ∀ l H1, H l = none → Ex H H1 → H1 l = some (.lst xs) → ∀ p, H1 p = none → Q (.ref p) (upd H1 p (.tup [.ref l]))) : tTup (tCons te tNil) σ H Q :=
  h H (Ex.refl _) _ fun l H1 n e g => ⟨by show 1 ≤ sizeLine; rw [sizeLine_eq]; decide, fun p hp => q l H1 n e g p hp⟩
theorem copied_elt {te : TE} {σ : L2.St} {G H4 : Hp} {L : List (Addr × HO)} {a l : Addr} {hs ss : List V} {Qy : VK} (hte : te = tOp (rCatT K) (tSl (rSlT K) (tVar 1) tNoPart (tPart (tUn (rU fun i => V.int (-i)) (tC (V.int 1)))))
        (tTup (tCons (tCB (fun xs H Q => ∃ p ys, xs = [V.ref p] ∧ (SqL K H p ys ∨ SqT K H p ys) ∧ ∀ (l : Addr), H l = none → Q (V.ref l) (upd H l (HO.lst ys))) (tCons (tOp (rIxT K) (tVar 1) (tUn (rU fun i => V.int (-i)) (tC (V.int 1)))) tNil)) tNil)))
    (hσ : σ[1]? = some (some (.ref a))) (o : Own G H4 L) (h1 : SqT K G a (hs ++ [.ref l])) (h2 : SqL K H4 l ss) (hne : hs ≠ []) (hlen : hs.length ≤ 100)
    (q : ∀ p l' G' H', Same G G' → Same H4 H' → Own G' H' ((l', .lst ss) :: L) → SqT K G' p (hs ++ [.ref l']) → Qy (.ref p) H') : te σ H4 Qy := by
  subst hte
  have hx := sT o.sub h1
  have hcut : cutV (hs ++ [V.ref l]) none (some (-1)) = hs := by
    unfold cutV HT.sIx
    simp
    have : (-1 + ((hs.length : Int) + 1)).toNat = hs.length := by omega
    rw [this]
    simp
  refine (eu_slT (ev_var hσ) eo_none (eo_some (ev_un ev_c ru_neg)) hx ?_) H4 (Ex.refl _) _ fun p1 H5 n1 e1 g1 => ?_
  · intro z
    have z2 := z.2
    unfold HT.sIx at z2
    simp at z2
    omega
  · rw [hcut] at g1
    have e0 : ixN (hs ++ [V.ref l]).length (-1) = some hs.length := by
      unfold ixN
      rw [if_neg (by decide), if_pos (by simp; omega)]
      simp
      omega
    have e00 : atI (hs ++ [V.ref l]) (-1) = some (.ref l) := by
      unfold atI
      rw [e0]
      simp
    refine tup1 (el_listS (ev_op (ev_var hσ) (ev_un ev_c ru_neg) (rv_ixT (ex_t e1 hx) e00)) (.inl (ex_l e1 h2))) fun l' H6 n2 e2 g2 p2 n3 => ?_
    have e3 : Ex H6 (upd H6 p2 (.tup [.ref l'])) := Ex.new n3
    refine ⟨p1, p2, hs, [.ref l'], rfl, rfl, st_of (e3 _ _ (e2 _ _ g1)), st_of upd_same, hne, by rw [sizeLine_eq]; simp; omega, ⟨fun z => (nomatch z), fun _ p3 n4 => ?_⟩⟩
    have o5 := o.same e1
    have o6 := (own_add o5 e2 n2 g2).same e3
    have k := own_keep o6 (Ex.new n4) n4 (upd_same (o := .tup (hs ++ [.ref l'])))
    exact q p3 l' _ _ k.2 (((e1.trans e2).trans e3).trans (Ex.new n4)) k.1 (st_of upd_same)
theorem ok_copied (T : Txt w K mg) : FnOk P w K mg base CX0 1 (f_copied K) (fdAt K (f_copied K)) ["things"] (spCopied K) := by
  refine (df_copied T).ok sc_copied (fun vs H Q E h => ?_) (fun cdv A outer s H vs Q E hr h => ?_)
  · obtain ⟨v, a, xs, ds, G, L, rfl, _⟩ := h
    rfl
  · obtain ⟨v, a, xs, ds, G, L, rfl, rfl, hsq, o, hin, hlen, hcp, q⟩ := h
    have hl := in_len hin
    -- the state ahead of turn i
    let Pv : Addr → Nat → Hp → Prop := fun D i H1 => ∃ G' acc cs, Same G G' ∧ Same H H1 ∧ Own G' H1 ((D, .lst acc) :: (cs ++ L)) ∧ Tl K G' acc (ds.take i) cs ∧ acc.length ≤ i
    have p0 : ∀ D, H D = none → Pv D 0 (upd H D (.lst [])) := fun D n => ⟨G, [], [], Same.refl _, Ex.new n, Own.new o n, .nil, Nat.le_refl _⟩
    have turn : ∀ D, H D = none → ∀ (te : TE) (i : Nat) (x : V) (H1 : Hp) (σ : L2.St), te = tOp (rCatT K) (tSl (rSlT K) (tVar 1) tNoPart (tPart (tUn (rU fun i => V.int (-i)) (tC (V.int 1)))))
        (tTup (tCons (tCB (fun xs H Q => ∃ p ys, xs = [V.ref p] ∧ (SqL K H p ys ∨ SqT K H p ys) ∧ ∀ (l : Addr), H l = none → Q (V.ref l) (upd H l (HO.lst ys))) (tCons (tOp (rIxT K) (tVar 1) (tUn (rU fun i => V.int (-i)) (tC (V.int 1)))) tNil)) tNil)) → xs[i]? = some x → σ[1]? = some (some x) → Pv D i H1 →
        te σ H1 fun y H4 => ∃ acc, H4 D = some (.lst acc) ∧ acc.length < sizeLine ∧ Pv D (i + 1) (upd H4 D (.lst (acc ++ [y]))) := fun D hD te i x H1 σ hte hx hσ ⟨G', acc, cs, s1, s2, o1, t1, z1⟩ => by
      have hi : i < ds.length := by rw [← hl]; exact (List.getElem?_eq_some_iff.mp hx).1
      have hd : ds[i]? = some ds[i] := List.getElem?_eq_getElem hi
      obtain ⟨a0, l, hs, ss, hds, sds, rfl, ed, g1, g2, g3, g4⟩ := in_get hin hx hd
      have cp := hcp ds[i] (List.mem_of_getElem? hd)
      obtain ⟨hds', sds', ed', c1, c2, c3⟩ := cp
      have e1 : hds' = hds ∧ sds' = sds := by
        have z := ed'.symm.trans ed
        injection z with z
        have := List.append_inj' z rfl
        refine ⟨this.1, ?_⟩
        have z2 := this.2
        injection z2 with z2 _
        injection z2
      obtain ⟨rfl, rfl⟩ := e1
      have l1 := dpLen g2
      refine copied_elt hte hσ o1 (sT s1 g1) (sL s2 g3) (fun z => c1 (List.length_eq_zero_iff.mp (by rw [← l1, z]; rfl))) (by omega) fun p l' G2 H2 s3 s4 o2 g5 => ?_
      have o3 : Own G2 H2 ([(l', .lst ss)] ++ (D, .lst acc) :: (cs ++ L)) := o2
      refine ⟨acc, o3.mid, by rw [sizeLine_eq]; omega, G2, acc ++ [.ref p], cs ++ [(l', .lst ss)], s1.trans s3, Ex.mut (s2.trans s4) hD, ?_, ?_, by rw [List.length_append]; exact Nat.succ_le_succ z1⟩
      · have o4 := o3.upd (o' := .lst (acc ++ [.ref p]))
        refine o4.perm ?_
        show ((l', HO.lst ss) :: (D, HO.lst (acc ++ [V.ref p])) :: (cs ++ L)).Perm ((D, HO.lst (acc ++ [V.ref p])) :: ((cs ++ [(l', HO.lst ss)]) ++ L))
        refine (List.Perm.swap _ _ _).trans (List.Perm.cons _ ?_)
        rw [List.append_assoc]
        exact (List.perm_middle (l₁ := cs)).symm
      · rw [List.take_add_one, hd, ed]
        exact tl_app (tl_mono s3 t1) (.cons g5 (daM (s1.trans s3) g2) (daM (s1.trans s3) g4) .nil)
    have done : ∀ D H1, H D = none → Pv D xs.length H1 → Q (.ref D) H1 := fun D H1 n ⟨G', acc, cs, s1, s2, o1, t1, _⟩ => by
      rw [hl, List.take_length] at t1
      exact q D G' H1 acc cs s1 s2 n o1 t1
    rcases hsq with hx | hx
    · refine ⟨_, PSs.nox ((pss_one (ps_ret (pe_lc (own := [("one", 1)]) (g := gName 1) (tt := tYes) rfl sc_copied.nd (pi_listK (K := K) rfl (pv 0)) (blkOk_by (N := ["things", "one"]) (sc := defScope s_copied) (by decide +kernel)) (fun _ _ _ _ _ => pg_name (i := 1) sc_copied.nd rfl (Or.inl rfl)) (fun _ _ _ _ _ => pts_nil) (fun _ _ _ _ _ => ((pe_op (op_catTK (K := K) rfl) (pe_slice (sl_tupK (K := K) rfl) (pv 1) po_none (po_some (pe_un un_neg pe_int))) (pe_tup (pa_cons (pe_callTy (call_listK (K := K) rfl) (by rfl) (fr_list T) (by decide +kernel) (pa_cons (pe_ix (ix_tupK (K := K) rfl) (pv 1) (pe_un un_neg pe_int) (fun _ _ => rfl)) pa_nil)) pa_nil))))))))), ?_⟩
      exact ⟨.ref a, rfl, a, rfl, ⟨xs, hx⟩, fun D hD => lc_list (xs := xs) (Pv D) (p0 D hD) (fun i H1 _ p => by obtain ⟨_, _, _, _, s2, _⟩ := p; exact sL s2 hx) (fun i x H1 hi p => ⟨rfl, turn D hD _ i x H1 _ rfl hi rfl p⟩) (fun H1 p => done D H1 hD p)⟩
    · refine ⟨_, PSs.nox ((pss_one (ps_ret (pe_lc (own := [("one", 1)]) (g := gName 1) (tt := tYes) rfl sc_copied.nd (pi_tupK (K := K) rfl (pv 0)) (blkOk_by (N := ["things", "one"]) (sc := defScope s_copied) (by decide +kernel)) (fun _ _ _ _ _ => pg_name (i := 1) sc_copied.nd rfl (Or.inl rfl)) (fun _ _ _ _ _ => pts_nil) (fun _ _ _ _ _ => ((pe_op (op_catTK (K := K) rfl) (pe_slice (sl_tupK (K := K) rfl) (pv 1) po_none (po_some (pe_un un_neg pe_int))) (pe_tup (pa_cons (pe_callTy (call_listK (K := K) rfl) (by rfl) (fr_list T) (by decide +kernel) (pa_cons (pe_ix (ix_tupK (K := K) rfl) (pv 1) (pe_un un_neg pe_int) (fun _ _ => rfl)) pa_nil)) pa_nil))))))))), ?_⟩
      exact ⟨.ref a, rfl, a, rfl, ⟨xs, hx⟩, fun D hD => lc_tup (xs := xs) (Pv D) (p0 D hD) (fun i H1 _ p => by obtain ⟨_, _, _, _, s2, _⟩ := p; exact sT s2 hx) (fun i x H1 hi p => ⟨rfl, turn D hD _ i x H1 _ rfl hi rfl p⟩) (fun H1 p => done D H1 hD p)⟩
end
end KW
end
section
set_option Elab.async false
set_option linter.all false
set_option autoImplicit false
set_option maxRecDepth 100000
set_option maxHeartbeats 400000
/-! what the looks tell -/
namespace KW
open PySem
theorem band {a b : Bool} (h : (a && b) = true) : a = true ∧ b = true := by cases a <;> cases b <;> first | exact ⟨rfl, rfl⟩ | cases h
theorem name_inv {n : PyData} (h : isNameD n = true) : ∃ x, n = .str x ∧ isNameS x = true := by cases n <;> first | exact ⟨_, rfl, h⟩ | (cases h)
theorem bool_inv {n : PyData} (h : isBoolD n = true) : ∃ x, n = .bool x := by cases n <;> first | exact ⟨_, rfl⟩ | (cases h)
theorem within_inv {d : PyData} {lo hi : Int} (h : withinD d lo hi = true) : ∃ i, d = .int i ∧ lo ≤ i ∧ i ≤ hi := by
  cases d with
  | int i => obtain ⟨a, b⟩ := band (show (decide (lo ≤ i) && decide (i ≤ hi)) = true from h); exact ⟨i, rfl, of_decide_eq_true a, of_decide_eq_true b⟩
  | _ => cases h
theorem steps_inv {d : PyData} (h : areStepsD d = true) : ∃ ss, d = .list ss ∧ (∀ s ∈ ss, isStepD s = true) ∧ 1 ≤ ss.length ∧ ss.length ≤ 12 ∧ areStepsL ss = true := by
  cases d with
  | list ss =>
    have h : areStepsL ss = true := h
    have h0 := h
    unfold areStepsL at h
    obtain ⟨h1, h2⟩ := band h
    obtain ⟨h3, h4⟩ := band h1
    have := of_decide_eq_true h3
    have := of_decide_eq_true h4
    exact ⟨ss, rfl, List.all_eq_true.mp (band h2).1, by omega, by omega, h0⟩
  | _ => cases h
theorem guard_inv {d : PyData} (h : isGuardD d = true) : ∃ a b c : Int, d = .tuple [.int a, .int b, .int c] ∧ 1 ≤ a ∧ a ≤ 9 ∧ 1 ≤ b ∧ b ≤ 60 ∧ 1 ≤ c ∧ c ≤ 60 := by
  cases d with
  | tuple ds => match ds, h with
    | [x, y, z], h =>
      obtain ⟨h1, h2⟩ := band (show (withinD x 1 9 && (withinD y 1 60 && withinD z 1 60)) = true from h)
      obtain ⟨h2, h3⟩ := band h2
      obtain ⟨a, rfl, a1, a2⟩ := within_inv h1
      obtain ⟨b, rfl, b1, b2⟩ := within_inv h2
      obtain ⟨c, rfl, c1, c2⟩ := within_inv h3
      exact ⟨a, b, c, rfl, a1, a2, b1, b2, c1, c2⟩
    | [], h => cases h
    | [_], h => cases h
    | [_, _], h => cases h
    | _ :: _ :: _ :: _ :: _, h => cases h
  | _ => cases h
theorem line_inv {d : PyData} (h : isLineD d = true) : ∃ n r u a b c ss, d = .tuple [.str n, .int r, .bool u, .tuple [.int a, .int b, .int c], .list ss] ∧ isNameS n = true ∧ (1 ≤ r ∧ r ≤ 99) ∧ (1 ≤ a ∧ a ≤ 9 ∧ 1 ≤ b ∧ b ≤ 60 ∧ 1 ≤ c ∧ c ≤ 60) ∧ areStepsL ss = true := by
  cases d with
  | tuple ds => match ds, h with
    | [n, r, u, g, t], h =>
      obtain ⟨h1, h2⟩ := band (show ((isNameD n && withinD r 1 99) && (isBoolD u && (isGuardD g && areStepsD t))) = true from h)
      obtain ⟨h1, h3⟩ := band h1
      obtain ⟨h2, h4⟩ := band h2
      obtain ⟨h4, h5⟩ := band h4
      obtain ⟨n, rfl, hn⟩ := name_inv h1
      obtain ⟨r, rfl, r1, r2⟩ := within_inv h3
      obtain ⟨u, rfl⟩ := bool_inv h2
      obtain ⟨a, b, c, rfl, hg⟩ := guard_inv h4
      obtain ⟨ss, rfl, _, _, _, hs⟩ := steps_inv h5
      exact ⟨n, r, u, a, b, c, ss, rfl, hn, ⟨r1, r2⟩, hg, hs⟩
    | [], h => cases h
    | [_], h => cases h
    | [_, _], h => cases h
    | [_, _, _], h => cases h
    | [_, _, _, _], h => cases h
    | _ :: _ :: _ :: _ :: _ :: _ :: _, h => cases h
  | _ => cases h
theorem bottom_inv {d : PyData} (h : isBottomD d = true) : ∃ n ss, d = .tuple [.str n, .list ss] ∧ isNameS n = true ∧ areStepsL ss = true := by
  cases d with
  | tuple ds => match ds, h with
    | [n, t], h =>
      obtain ⟨h1, h5⟩ := band (show (isNameD n && areStepsD t) = true from h)
      obtain ⟨n, rfl, hn⟩ := name_inv h1
      obtain ⟨ss, rfl, _, _, _, hs⟩ := steps_inv h5
      exact ⟨n, ss, rfl, hn, hs⟩
    | [], h => cases h
    | [_], h => cases h
    | _ :: _ :: _ :: _, h => cases h
  | _ => cases h
theorem thread_inv {d : PyData} (h : isThreadD d = true) : ∃ n r ss, d = .tuple [.str n, .int r, .list ss] ∧ isNameS n = true ∧ (1 ≤ r ∧ r ≤ 99) ∧ areStepsL ss = true := by
  cases d with
  | tuple ds => match ds, h with
    | [n, r, t], h =>
      obtain ⟨h1, h5⟩ := band (show ((isNameD n && withinD r 1 99) && areStepsD t) = true from h)
      obtain ⟨h1, h3⟩ := band h1
      obtain ⟨n, rfl, hn⟩ := name_inv h1
      obtain ⟨r, rfl, r1, r2⟩ := within_inv h3
      obtain ⟨ss, rfl, _, _, _, hs⟩ := steps_inv h5
      exact ⟨n, r, ss, rfl, hn, ⟨r1, r2⟩, hs⟩
    | [], h => cases h
    | [_], h => cases h
    | [_, _], h => cases h
    | _ :: _ :: _ :: _ :: _, h => cases h
  | _ => cases h
theorem stepsL_inv {ss : List PyData} (h : areStepsL ss = true) : (∀ s ∈ ss, isStepD s = true) ∧ 1 ≤ ss.length ∧ ss.length ≤ 12 := by
  obtain ⟨_, e, a, b, c, _⟩ := steps_inv (d := .list ss) h
  cases e
  exact ⟨a, b, c⟩
theorem ones_inv {d : PyData} {lo hi : Int} {p : PyData → Bool} (h : areOnesD d lo hi p = true) : ∃ ds, (d = .list ds ∨ d = .tuple ds) ∧ seqD d = ds ∧ lo ≤ (ds.length : Int) ∧ (ds.length : Int) ≤ hi ∧ (∀ e ∈ ds, p e = true) ∧ (ds.map nameD).Nodup := by
  have key : ∀ ds, onesL ds lo hi p = true → lo ≤ (ds.length : Int) ∧ (ds.length : Int) ≤ hi ∧ (∀ e ∈ ds, p e = true) ∧ (ds.map nameD).Nodup := fun ds h => by
    obtain ⟨h1, h0⟩ := band h
    obtain ⟨h1, h2⟩ := band h1
    obtain ⟨h3, h4⟩ := band h1
    exact ⟨of_decide_eq_true h3, of_decide_eq_true h4, List.all_eq_true.mp h2, of_decide_eq_true h0⟩
  cases d with
  | list ds => exact ⟨ds, .inl rfl, rfl, key ds h⟩
  | tuple ds => exact ⟨ds, .inr rfl, rfl, key ds h⟩
  | _ => cases h
end KW
end
section
set_option Elab.async false
set_option linter.all false
set_option autoImplicit false
set_option maxRecDepth 100000
set_option maxHeartbeats 400000
/-! plans.py: Plan -/
namespace KW
open PySem PySem.Spec PyProof.Rows L2 He KR Evl
local macro_rules
  | `(tactic| walk_at "ev") => `(tactic| repeat' (first
    | exact ev_c | exact ev_var rfl | exact ea_nil | exact rv_I0 | exact ru_neg | exact eo_none
    | exact rv_eq rfl | exact rv_ne rfl
    | exact rv_ixT (by assumption) (by rfl) | exact rv_ixL (by assumption) (by rfl)
    | exact sv_q (by assumption) (by assumption) | exact sv_within (by assumption)
    | exact Or.inr (by assumption) | exact Or.inl (by assumption) | (show (_ : String) ∈ _; decide)
    | with_reducible (first | apply ev_isi | apply ev_lenS | apply ev_if' | apply et_test | apply et_B | apply et_not | apply et_and | apply et_or | apply ev_andV | apply ev_orV | apply ev_notV | apply ea_cons | apply eo_some | apply ev_op | apply ev_un | apply ev_call)
    | assumption
    | (with_reducible intro hh; first | exact absurd (show true = false from hh) (by decide) | exact absurd (show false = true from hh) (by decide) | clear hh)))

section
variable {P : Program} {w : World} {K : PySem.W.Frag} {mg : Str → Option Value} {base : Heap}
theorem sc_Plan_init : FnScope ["self", "lines", "bottoms", "threads", "names", "one", "some"] ["self", "lines", "bottoms", "threads"] (defScope s_Plan_init) := ⟨rfl, rfl, rfl, by decide +kernel, rfl, by decide +kernel, by decide +kernel⟩
/-- a plan that nobody changes -/
def PlanAt (K : PySem.W.Frag) (G : Hp) (p : Addr) (R B T : List PyData) : Prop := ∃ dx r1 r2 r3 x1 x2 x3, G p = some (.ins (g_Plan K) dx [("row", .ref r1), ("low", .ref r2), ("late", .ref r3)]) ∧
  (G r1 = some (.lst x1) ∧ DpAll K G x1 R) ∧ (G r2 = some (.lst x2) ∧ DpAll K G x2 B) ∧ G r3 = some (.lst x3) ∧ DpAll K G x3 T
def InS (K : PySem.W.Frag) (G H : Hp) (v : V) (ds : List PyData) : Prop := ∃ a xs, v = .ref a ∧ (SqL K H a xs ∨ SqT K H a xs) ∧ InA K G H xs ds
def spPlan (K : PySem.W.Frag) : Sp := fun vs H Q E => ∃ self dx l b t dl db dt, vs = [.ref self, l, b, t] ∧ H self = some (.ins (g_Plan K) dx []) ∧ (Dp K H l dl ∧ Dp K H b db ∧ Dp K H t dt) ∧ (Sm dl ∧ Sm db ∧ Sm dt) ∧
  (planOkD dl db dt = false → ∀ H', Ex H H' → E (.ref (g_BadPlan K)) none H') ∧
  (planOkD dl db dt = true → ∃ G L, Own G H ((self, .ins (g_Plan K) dx []) :: L) ∧ (InS K G H l (seqD dl) ∧ InS K G H b (seqD db) ∧ InS K G H t (seqD dt)) ∧
    ∀ G' H', Same G G' → Own G' H' L → (∀ c o, c ≠ self → H c = some o → H' c = some o) → PlanAt K G' self (seqD dl) (seqD db) (seqD dt) → Q .non H')
section
variable {H : Hp} {v : V} {d : PyData} {lo hi : Int}
theorem sv_lines (h : Dp K H v d) (f : Sm d) (hh : hi ≤ 100) : SpV (spOnes K) [v, .int lo, .int hi, .ref (g_is_line K)] H (.bl (areOnesD d lo hi isLineD)) := fun H1 e Q q E => ⟨v, d, lo, hi, _, _, rfl, .inl ⟨rfl, rfl⟩, dpM e h, f, hh, fun H' s => q H' s⟩
theorem sv_bottoms (h : Dp K H v d) (f : Sm d) (hh : hi ≤ 100) : SpV (spOnes K) [v, .int lo, .int hi, .ref (g_is_bottom K)] H (.bl (areOnesD d lo hi isBottomD)) := fun H1 e Q q E => ⟨v, d, lo, hi, _, _, rfl, .inr (.inl ⟨rfl, rfl⟩), dpM e h, f, hh, fun H' s => q H' s⟩
theorem sv_threads (h : Dp K H v d) (f : Sm d) (hh : hi ≤ 100) : SpV (spOnes K) [v, .int lo, .int hi, .ref (g_is_thread K)] H (.bl (areOnesD d lo hi isThreadD)) := fun H1 e Q q E => ⟨v, d, lo, hi, _, _, rfl, .inr (.inr ⟨rfl, rfl⟩), dpM e h, f, hh, fun H' s => q H' s⟩
theorem sv_ranks {ds : List PyData} (hd : d = .list ds ∨ d = .tuple ds) (h : Dp K H v d) (hl : ds.length ≤ 100) (hp : ∀ e ∈ ds, ∃ n r rest, e = .tuple (n :: .int r :: rest)) : SpV (spRanks K) [v] H (.bl (unlikeD ds)) := fun H1 e Q q E => ⟨v, d, ds, rfl, hd, dpM e h, hl, hp, fun H' s => q H' s⟩
end
theorem one_line {e : PyData} (h : isLineD e = true) : (∃ n r rest, e = .tuple (n :: .int r :: rest)) ∧ OneD e ∧ CopyD e ∧ ∃ n r, e = .tuple (.str n :: r) := by
  obtain ⟨n, r, u, a, b, c, ss, rfl, hn, hr, hg, hs⟩ := line_inv h
  obtain ⟨s1, s2, s3⟩ := stepsL_inv hs
  exact ⟨⟨_, _, _, rfl⟩, ⟨[.str n, .int r, .bool u, .tuple [.int a, .int b, .int c]], ss, rfl, s1, by omega⟩, ⟨[.str n, .int r, .bool u, .tuple [.int a, .int b, .int c]], ss, rfl, by simp, by simp, by omega⟩, _, _, rfl⟩
theorem one_bottom {e : PyData} (h : isBottomD e = true) : OneD e ∧ CopyD e ∧ ∃ n r, e = .tuple (.str n :: r) := by
  obtain ⟨n, ss, rfl, hn, hs⟩ := bottom_inv h
  obtain ⟨s1, s2, s3⟩ := stepsL_inv hs
  exact ⟨⟨[.str n], ss, rfl, s1, by omega⟩, ⟨[.str n], ss, rfl, by simp, by simp, by omega⟩, _, _, rfl⟩
theorem one_thread {e : PyData} (h : isThreadD e = true) : (∃ n r rest, e = .tuple (n :: .int r :: rest)) ∧ OneD e ∧ CopyD e ∧ ∃ n r, e = .tuple (.str n :: r) := by
  obtain ⟨n, r, ss, rfl, hn, hr, hs⟩ := thread_inv h
  obtain ⟨s1, s2, s3⟩ := stepsL_inv hs
  exact ⟨⟨_, _, _, rfl⟩, ⟨[.str n, .int r], ss, rfl, s1, by omega⟩, ⟨[.str n, .int r], ss, rfl, by simp, by simp, by omega⟩, _, _, rfl⟩
theorem sq_da {H : Hp} {v : V} {d : PyData} {L : List PyData} (h : d = .list L ∨ d = .tuple L) (hd : Dp K H v d) : ∃ a xs, v = .ref a ∧ (SqL K H a xs ∨ SqT K H a xs) ∧ DpAll K H xs L := by
  rcases h with rfl | rfl
  · obtain ⟨a, xs, e, h1, h2⟩ := dpL hd
    exact ⟨a, xs, e, .inl h1, h2⟩
  · obtain ⟨a, xs, e, h1, h2⟩ := dpT hd
    exact ⟨a, xs, e, .inr h1, h2⟩
theorem da_strs {H : Hp} : ∀ {xs : List V} {ns : List Str}, DpAll K H xs (ns.map PyData.str) → xs = ns.map V.str
  | _, [], h => dpN h
  | _, n :: ns, h => by
    obtain ⟨v, ws, rfl, hv, hw⟩ := dpC h
    rw [dpS hv, da_strs hw]
    rfl
theorem strs_da {H : Hp} : ∀ {ns : List Str}, DpAll K H (ns.map V.str) (ns.map PyData.str)
  | [] => .nil
  | n :: ns => .cons (.str n) strs_da
theorem tLc_U {tl te : TE} {tt : TT} {g : TG} {vs : List Nat} {xs : List V} {σ : L2.St} {H : Hp} {Q : VK} (h : EvU tl σ H xs) (k : ∀ p H1, H p = none → Ex H H1 → H1 p = some (.tup xs) → tLc (iTup K (fun _ H Q => Q (.ref p) H)) g tt te vs σ H1 Q) : tLc (iTup K tl) g tt te vs σ H Q := h H (Ex.refl _) _ fun p H1 n e hp => k p H1 n e hp
theorem q_asgR {te : TE} {i : Nat} {tz : TS} {D : Ends} {σ : L2.St} {H : Hp} (h : te σ H fun v H1 => tz D (σ.set i (some v)) H1) : tSeq (tAsg te (gName i)) tz D σ H := h
/-- the names of three lots: a list of three new lists -/
theorem names_ev {σ : L2.St} {H : Hp} {l b t : V} {dl db dt : PyData} {A B C : List PyData} (hσ : ∃ s a4 a5 a6, σ = [s, some l, some b, some t, a4, a5, a6]) (h1 : Dp K H l dl) (h2 : Dp K H b db) (h3 : Dp K H t dt) (g1 : dl = .list A ∨ dl = .tuple A) (g2 : db = .list B ∨ db = .tuple B) (g3 : dt = .list C ∨ dt = .tuple C)
    (hz : A.length ≤ 100 ∧ B.length ≤ 100 ∧ C.length ≤ 100) (hp : ∀ e ∈ A ++ (B ++ C), ∃ n r, e = .tuple (.str n :: r)) {Q : VK}
    (q : ∀ D H', Ex H H' → Dp K H' (.ref D) (.list [.list ((A.map nameD).map .str), .list ((B.map nameD).map .str), .list ((C.map nameD).map .str)]) → Q (.ref D) H') :
    tLc (iTup K (tTup (tCons (tVar 1) (tCons (tVar 2) (tCons (tVar 3) tNil))))) (gName 6) tYes (tLc (iSeq K (tVar 6)) (gName 5) tYes (tOp (rIxT K) (tVar 5) (tC (V.int 0))) [5]) [6] σ H Q := by
  obtain ⟨s, a4, a5, a6, rfl⟩ := hσ
  have hU : EvU (tTup (tCons (tVar 1) (tCons (tVar 2) (tCons (tVar 3) tNil)))) [s, some l, some b, some t, a4, a5, a6] H [l, b, t] := eu_tup (ea_cons (ev_var rfl) (ea_cons (ev_var rfl) (ea_cons (ev_var rfl) ea_nil))) (by show (3 : Nat) ≤ 100000; decide)
  refine tLc_U hU fun p H1 np e1 hp1 => ?_
  refine ⟨p, rfl, ⟨_, st_of hp1⟩, fun D hD => ?_⟩
  let dat : List PyData := [.list ((A.map nameD).map .str), .list ((B.map nameD).map .str), .list ((C.map nameD).map .str)]
  refine lc_ownT (K := K) (a := p) (xs := [l, b, t]) (g := gName 6) (tt := tYes) (te := tLc (iSeq K (tVar 6)) (gName 5) tYes (tOp (rIxT K) (tVar 5) (tC (V.int 0))) [5]) (vs := [6]) (σ := [s, some l, some b, some t, a4, a5, a6])
    (fun i acc G => DpAll K G acc (dat.take i)) hD (st_of hp1) (by show (3 : Nat) ≤ 100000; decide) .nil (fun i x G H2 acc hx hi s1 hl hacc o => ⟨rfl, ?_⟩) (fun G H2 acc s1 o hl hacc => ?_)
  · have key : ∀ {x : V} {d : PyData} {L : List PyData}, Dp K H x d → (d = .list L ∨ d = .tuple L) → L.length ≤ 100 → (∀ e ∈ L, ∃ n r, e = .tuple (.str n :: r)) → (dat[i]? = some (.list ((L.map nameD).map .str))) → i < 3 →
        tLc (iSeq K (tVar 6)) (gName 5) tYes (tOp (rIxT K) (tVar 5) (tC (V.int 0))) [5] [s, some l, some b, some t, a4, a5, some x] H2 fun y H4 => ∃ acc, H4 D = some (.lst acc) ∧ acc.length < sizeLine ∧ PvL D H1 (fun i acc G => DpAll K G acc (dat.take i)) (i + 1) (upd H4 D (.lst (acc ++ [y]))) := fun {x d L} hx g hz hp hd hi3 => by
      have eH : Ex H H2 := e1.trans (s1.trans o.sub)
      obtain ⟨a, xs, rfl, hs, ha⟩ := sq_da g hx
      have hlen := dpLen ha
      refine el_lcS (K := K) (fun d => V.str (nameD d)) (ev_var rfl) (hs.imp (ex_l eH) (ex_t eH)) (daM eH ha) (by omega) (fun _ => rfl) (fun H3 e3 y d hm hd => ?_) H2 (Ex.refl _) _ fun r H3 nr e3 hr => ?_
      · obtain ⟨n, rest, rfl⟩ := hp d hm
        obtain ⟨b, ys, rfl, hy, hb⟩ := dpT hd
        obtain ⟨v0, zs, rfl, h0, _⟩ := dpC hb
        rw [dpS h0] at hy
        exact ev_op (ev_var rfl) ev_c (rv_ixT hy at0)
      · have k := own_keep o e3 nr hr
        refine add_l (s1.trans k.2) k.1 hl hi ?_
        show DpAll K _ (acc ++ [.ref r]) (dat.take (i + 1))
        rw [List.take_add_one, hd]
        refine da_app (daM k.2 hacc) (.cons (.lst (sq_of upd_same) ?_) .nil)
        have e : L.map (fun d => V.str (nameD d)) = (L.map nameD).map V.str := by rw [List.map_map]; rfl
        rw [e]
        exact strs_da
    match i, hx with
    | 0, hx => cases hx; exact key h1 g1 hz.1 (fun e he => hp e (by simp [he])) rfl (by decide)
    | 1, hx => cases hx; exact key h2 g2 hz.2.1 (fun e he => hp e (by simp [he])) rfl (by decide)
    | 2, hx => cases hx; exact key h3 g3 hz.2.2 (fun e he => hp e (by simp [he])) rfl (by decide)
  · refine q D H2 (e1.trans (s1.trans o.sub)) (.lst (sq_of (o.at_ _ (List.mem_cons_self ..))) (daM o.sub hacc))
/-- a heap without one object -/
def Ho (H : Hp) (a : Addr) : Hp := fun b => if b = a then none else H b
theorem ho_of {H H1 : Hp} {a b : Addr} {o : HO} (w : Same (Ho H a) H1) (e : Ho H a b = some o) : Ho H1 a b = some o := by
  have z := w b o e
  unfold Ho at e ⊢
  by_cases h : b = a
  · rw [if_pos h] at e; cases e
  · rw [if_neg h]; exact z
theorem rd_ho {H : Hp} {a l : Addr} {C dx : Addr} {fs : List (Str × V)} {u : HO} (h : H a = some (.ins C dx fs)) (hu : ∀ C dx fs, u ≠ .ins C dx fs) (r : Rd H l u) : Rd (Ho H a) l u := by
  have ne : l ≠ a := fun e => by
    subst e
    rcases r with r | ⟨o, r⟩
    · rw [h] at r; exact hu _ _ _ (Option.some.inj r).symm
    · rw [h] at r; cases r
  have e : Ho H a l = H l := by unfold Ho; rw [if_neg ne]
  unfold Rd at r ⊢
  rw [e]
  exact r
theorem sql_ho {H : Hp} {a l : Addr} {C dx : Addr} {fs : List (Str × V)} {xs : List V} (h : H a = some (.ins C dx fs)) (r : SqL K H l xs) : SqL K (Ho H a) l xs := r.imp (rd_ho h fun _ _ _ z => nomatch z) id
theorem sqt_ho {H : Hp} {a l : Addr} {C dx : Addr} {fs : List (Str × V)} {xs : List V} (h : H a = some (.ins C dx fs)) (r : SqT K H l xs) : SqT K (Ho H a) l xs := r.imp (rd_ho h fun _ _ _ z => nomatch z) id
theorem in_ho {G H : Hp} {a : Addr} {C dx : Addr} {fs : List (Str × V)} {xs : List V} {ds : List PyData} (h : H a = some (.ins C dx fs)) (k : InA K G H xs ds) : InA K G (Ho H a) xs ds := by
  induction k with
  | nil => exact .nil
  | cons p q r s _ ih => exact .cons p q (sql_ho h r) s ih
theorem ins_ho {G H : Hp} {a : Addr} {C dx : Addr} {fs : List (Str × V)} {v : V} {ds : List PyData} (h : H a = some (.ins C dx fs)) (k : InS K G H v ds) : InS K G (Ho H a) v ds := by
  obtain ⟨b, xs, e, s, i⟩ := k
  exact ⟨b, xs, e, s.imp (sql_ho h) (sqt_ho h), in_ho h i⟩
theorem ins_mono {G G' H H' : Hp} {v : V} {ds : List PyData} (e : Same G G') (e2 : Same H H') (k : InS K G H v ds) : InS K G' H' v ds := by
  obtain ⟨b, xs, e3, s, i⟩ := k
  exact ⟨b, xs, e3, s.imp (sL e2) (sT e2), in_mono e e2 i⟩
/-- self.f = copied(x) -/
theorem copy_fld {σ : L2.St} {i : Nat} {v : V} {G H : Hp} {L : List (Addr × HO)} {self C dx : Addr} {f : Str} {fs : List (Str × V)} {ds : List PyData} {D : Ends} (na : NoAttr K C f) (h0 : σ[0]? = some (some (.ref self))) (hi : σ[i]? = some (some v)) (o : Own G H ((self, .ins C dx fs) :: L)) (hs : InS K G H v ds) (cl : Cls K C) (hf : fs.length < 1000)
    (hlen : ds.length ≤ 100) (hcp : ∀ e ∈ ds, CopyD e) (q : ∀ p ys G' H', Same G G' → Same (Ho H self) H' → Own G' H' ((self, .ins C dx (putF f (.ref p) fs)) :: L) → G' p = some (.lst ys) → DpAll K G' ys ds → D.nx σ H') :
    sFld K (tVar 0) (tCall (spCopied K) [] E0 (tCons (tVar i) tNil)) f D σ H := by
  obtain ⟨a, xs, rfl, s, k⟩ := hs
  refine ⟨.ref a, hi, .ref a, a, xs, ds, G, (self, .ins C dx fs) :: L, rfl, rfl, s, o, k, hlen, hcp, fun p G1 H1 ys cs s1 s2 np o1 t1 => ?_⟩
  obtain ⟨G2, s3, o2, hc⟩ := own_holds (cs := (p, .lst ys) :: cs) (L := (self, .ins C dx fs) :: L) o1
  have o3 : Own G2 H1 ([] ++ (self, .ins C dx fs) :: L) := o2
  refine ⟨.ref self, h0, self, C, dx, fs, rfl, o3.mid, cl, na, hf, ?_⟩
  refine q p ys G2 _ (s1.trans s3) (fun b u e => ?_) o3.upd (hc _ (List.mem_cons_self ..)) (tl_da (tl_mono s3 t1) fun q hq => hc q (List.mem_cons_of_mem _ hq))
  unfold Ho at e
  by_cases h : b = self
  · rw [if_pos h] at e; cases e
  · rw [if_neg h] at e
    rw [upd_ne h]
    exact s2 _ _ e
theorem ok_Plan_init (T : Txt w K mg) : FnOk P w K mg base (L2.CX P w) 8 (f_Plan_init K) (fdAt K (f_Plan_init K)) ["self", "lines", "bottoms", "threads"] (spPlan K) := by
  refine (df_Plan_init T).ok sc_Plan_init (fun vs H Q E h => ?_) (fun cdv A outer s H vs Q E hr h => ?_)
  · obtain ⟨self, dx, l, b, t, dl, db, dt, rfl, _⟩ := h
    rfl
  · obtain ⟨self, dx, l, b, t, dl, db, dt, rfl, hself, ⟨hl, hb, ht⟩, ⟨ml, mb, mt⟩, qE, qQ⟩ := h
    obtain ⟨_, h_MOST_LINES⟩ := in_MOST_LINES T
    obtain ⟨_, h_MOST_OTHERS⟩ := in_MOST_OTHERS T
    refine ⟨_, (pss_cons (ps_if (PW.pt (pw_or (pt_not (pt_val (pe_call (ok_are_ones T) (hr.mono (by decide)) rfl (gl_are_ones T) (df_are_ones T).kp (bi_are_ones T) .nil pass0 (pa_cons (pv 1) (pa_cons pe_int (pa_cons (pe_glob (v := .int 5) rfl h_MOST_LINES ⟨_, rfl⟩) (pa_cons (pe_glob (v := .ref (g_is_line K)) rfl (gl_is_line T) rfl) pa_nil))))))) (pw_or1 (pt_not (pt_val (pe_call (ok_are_unlike_ranks T) (hr.mono (by decide)) rfl (gl_are_unlike_ranks T) (df_are_unlike_ranks T).kp (bi_are_unlike_ranks T) .nil pass0 (pa_cons (pv 1) pa_nil))))))) (pss_one (ps_raise rfl (takes_of rfl rfl rfl rfl)  (pmk_own PySem.F.excBase_ValueError (ec_BadPlan T).1 (gl_BadPlan T) (ec_BadPlan T).2.1 (raises_own (ec_BadPlan T).2.2.1 (ec_BadPlan T).2.2.2) rfl))) pss_nil)
      (pss_cons (ps_if (PW.pt (pw_or (pt_not (pt_val (pe_call (ok_are_ones T) (hr.mono (by decide)) rfl (gl_are_ones T) (df_are_ones T).kp (bi_are_ones T) .nil pass0 (pa_cons (pv 2) (pa_cons pe_int (pa_cons (pe_glob (v := .int 4) rfl h_MOST_OTHERS ⟨_, rfl⟩) (pa_cons (pe_glob (v := .ref (g_is_bottom K)) rfl (gl_is_bottom T) rfl) pa_nil))))))) (pw_or1 (pt_not (pt_val (pe_call (ok_are_ones T) (hr.mono (by decide)) rfl (gl_are_ones T) (df_are_ones T).kp (bi_are_ones T) .nil pass0 (pa_cons (pv 3) (pa_cons pe_int (pa_cons (pe_glob (v := .int 4) rfl h_MOST_OTHERS ⟨_, rfl⟩) (pa_cons (pe_glob (v := .ref (g_is_thread K)) rfl (gl_is_thread T) rfl) pa_nil)))))))))) (pss_one (ps_raise rfl (takes_of rfl rfl rfl rfl)  (pmk_own PySem.F.excBase_ValueError (ec_BadPlan T).1 (gl_BadPlan T) (ec_BadPlan T).2.1 (raises_own (ec_BadPlan T).2.2.1 (ec_BadPlan T).2.2.2) rfl))) pss_nil)
      (pss_cons (ps_setLc (i := 4) (own := [("some", 6)]) (g := gName 6) (tt := tYes) rfl sc_Plan_init.nd rfl rfl (sw_true rfl rfl rfl (by decide +kernel)) (pi_tupK (K := K) rfl (pe_tup (pa_cons (pv 1) (pa_cons (pv 2) (pa_cons (pv 3) pa_nil))))) (blkOk_by (N := ["self", "lines", "bottoms", "threads", "names", "one", "some"]) (sc := defScope s_Plan_init) (by decide +kernel)) (fun _ _ _ _ _ => pg_name (i := 6) sc_Plan_init.nd rfl (Or.inl rfl)) (fun _ _ _ _ _ => pts_nil) (fun _ _ _ _ _ => (pe_lc (own := [("one", 5)]) (g := gName 5) (tt := tYes) rfl sc_Plan_init.nd (pi_seq (K := K) rfl (pv 6)) (blkOk_by (N := ["self", "lines", "bottoms", "threads", "names", "one", "some"]) (sc := { kind := .function, names := [(".0", .local), ("some", .local)], isGenerator := false, isCoroutine := false }) (by decide +kernel)) (fun _ _ _ _ _ => pg_name (i := 5) sc_Plan_init.nd rfl (Or.inl rfl)) (fun _ _ _ _ _ => pts_nil) (fun _ _ _ _ _ => (pe_ix (ix_tupK (K := K) rfl) (pv 5) pe_int (fun _ _ => rfl))))))
      (pss_cons (ps_if (PW.pt (pw_or (pt_not (pt_val (pe_call (ok_are_unlike_ranks T) (hr.mono (by decide)) rfl (gl_are_unlike_ranks T) (df_are_unlike_ranks T).kp (bi_are_unlike_ranks T) .nil pass0 (pa_cons (pv 3) pa_nil)))) (pw_or1 (pt_not (pt_val (pe_call (ok_all_there T) (hr.mono (by decide)) rfl (gl_all_there T) (df_all_there T).kp (bi_all_there T) .nil pass0 (pa_cons (pv 4) (pa_cons (pv 1) (pa_cons (pv 2) (pa_cons (pv 3) pa_nil)))))))))) (pss_one (ps_raise rfl (takes_of rfl rfl rfl rfl)  (pmk_own PySem.F.excBase_ValueError (ec_BadPlan T).1 (gl_BadPlan T) (ec_BadPlan T).2.1 (raises_own (ec_BadPlan T).2.2.1 (ec_BadPlan T).2.2.2) rfl))) pss_nil)
      (pss_cons (ps_fldK (K := K) rfl (pv 0) (pe_call (ok_copied T) (hr.mono (by decide)) rfl (gl_copied T) (df_copied T).kp (bi_copied T) .nil pass0 (pa_cons (pv 1) pa_nil)))
      (pss_cons (ps_fldK (K := K) rfl (pv 0) (pe_call (ok_copied T) (hr.mono (by decide)) rfl (gl_copied T) (df_copied T).kp (bi_copied T) .nil pass0 (pa_cons (pv 2) pa_nil)))
      (pss_one (ps_fldK (K := K) rfl (pv 0) (pe_call (ok_copied T) (hr.mono (by decide)) rfl (gl_copied T) (df_copied T).kp (bi_copied T) .nil pass0 (pa_cons (pv 3) pa_nil)))))))))), ?_⟩
    have rk : ∀ {H1 : Hp}, Ex H H1 → areOnesD dl 1 5 isLineD = true → SpV (spRanks K) [l] H1 (.bl (unlikeD (seqD dl))) := fun {H1} e h => by
      obtain ⟨ds, g, e1, z1, z2, hp, _⟩ := ones_inv h
      rw [e1]
      exact sv_ranks g (dpM e hl) (by omega) fun e he => (one_line (hp e he)).1
    refine q_when (b := !areOnesD dl 1 5 isLineD || !unlikeD (seqD dl)) (et_or (et_not (et_B (ev_call (ea_cons (ev_var rfl) (ea_cons ev_c (ea_cons ev_c (ea_cons ev_c ea_nil)))) (sv_lines hl ml (by decide))))) fun h1 => et_not (et_B (ev_call (ea_cons (ev_var rfl) ea_nil) (rk (Ex.refl _) (by cases h : areOnesD dl 1 5 isLineD <;> simp_all))))) (fun hc H1 e1 => ?_) fun hc H1 e1 => ?_
    · refine qE ?_ H1 e1
      unfold planOkD
      cases h1 : areOnesD dl 1 5 isLineD <;> cases h2 : unlikeD (seqD dl) <;> simp_all
    have c1 : areOnesD dl 1 5 isLineD = true := by cases h : areOnesD dl 1 5 isLineD <;> simp_all
    have c2 : unlikeD (seqD dl) = true := by cases h : unlikeD (seqD dl) <;> simp_all
    refine q_when (b := !areOnesD db 0 4 isBottomD || !areOnesD dt 0 4 isThreadD) (et_or (et_not (et_B (ev_call (ea_cons (ev_var rfl) (ea_cons ev_c (ea_cons ev_c (ea_cons ev_c ea_nil)))) (sv_bottoms (dpM e1 hb) mb (by decide))))) fun h1 => et_not (et_B (ev_call (ea_cons (ev_var rfl) (ea_cons ev_c (ea_cons ev_c (ea_cons ev_c ea_nil)))) (sv_threads (dpM e1 ht) mt (by decide))))) (fun hc H2 e2 => ?_) fun hc H2 e2 => ?_
    · refine qE ?_ H2 (e1.trans e2)
      unfold planOkD
      cases h1 : areOnesD db 0 4 isBottomD <;> cases h2 : areOnesD dt 0 4 isThreadD <;> simp_all
    have c3 : areOnesD db 0 4 isBottomD = true := by cases h : areOnesD db 0 4 isBottomD <;> simp_all
    have c4 : areOnesD dt 0 4 isThreadD = true := by cases h : areOnesD dt 0 4 isThreadD <;> simp_all
    obtain ⟨A, gA, eA, _, zA, pA, _⟩ := ones_inv c1
    obtain ⟨B, gB, eB, _, zB, pB, _⟩ := ones_inv c3
    obtain ⟨C, gC, eC, _, zC, pC, _⟩ := ones_inv c4
    rw [eA, eB, eC] at qQ
    have e12 := e1.trans e2
    have hone : ∀ e ∈ A ++ (B ++ C), OneD e ∧ CopyD e ∧ ∃ n r, e = .tuple (.str n :: r) := fun e he => by
      rcases List.mem_append.mp he with he | he
      · exact (one_line (pA e he)).2
      · rcases List.mem_append.mp he with he | he
        · exact one_bottom (pB e he)
        · exact (one_thread (pC e he)).2
    refine q_asgR (names_ev ⟨_, _, _, _, rfl⟩ (dpM e12 hl) (dpM e12 hb) (dpM e12 ht) gA gB gC ⟨by omega, by omega, by omega⟩ (fun e he => (hone e he).2.2) fun D H3 e3 hN => ?_)
    have e13 := e12.trans e3
    obtain ⟨pn, xs, hpn, hN, hN3⟩ := dpL hN
    cases hpn
    obtain ⟨v1, _, rfl, hv1, hN3⟩ := dpC hN3
    obtain ⟨v2, _, rfl, hv2, hN3⟩ := dpC hN3
    obtain ⟨v3, _, rfl, hv3, hN3⟩ := dpC hN3
    obtain rfl := dpN hN3
    obtain ⟨n1, y1, rfl, k1, j1⟩ := dpL hv1
    obtain ⟨n2, y2, rfl, k2, j2⟩ := dpL hv2
    obtain ⟨n3, y3, rfl, k3, j3⟩ := dpL hv3
    obtain rfl := da_strs j1
    obtain rfl := da_strs j2
    obtain rfl := da_strs j3
    refine q_when (b := !unlikeD C || !allThereD (A.map nameD, B.map nameD, C.map nameD) (A ++ (B ++ C))) (et_or (et_not (et_B (ev_call (ea_cons (ev_var rfl) ea_nil) (sv_ranks gC (dpM e13 ht) (by omega) fun e he => (one_thread (pC e he)).1)))) fun h1 => et_not (et_B (ev_call (ea_cons (ev_var rfl) (ea_cons (ev_var rfl) (ea_cons (ev_var rfl) (ea_cons (ev_var rfl) ea_nil)))) fun H4 e4 Q q E => ?_))) (fun hc H4 e4 => ?_) fun hc H4 e4 => ?_
    · have e14 := e13.trans e4
      exact ⟨D, n1, n2, n3, _, _, _, l, b, t, dl, db, dt, A, B, C, rfl, ⟨ex_l e4 hN, ex_l e4 k1, ex_l e4 k2, ex_l e4 k3⟩, ⟨gA, gB, gC⟩, ⟨dpM e14 hl, dpM e14 hb, dpM e14 ht⟩, ⟨by omega, by omega, by omega⟩, fun e he => (hone e he).1, fun H' s => q H' s⟩
    · refine qE ?_ H4 (e13.trans e4)
      unfold planOkD
      rw [eA, eB, eC]
      cases h1 : unlikeD C <;> cases h2 : allThereD (A.map nameD, B.map nameD, C.map nameD) (A ++ (B ++ C)) <;> simp_all
    have c5 : planOkD dl db dt = true := by
      unfold planOkD
      rw [eA] at c2
      rw [eA, eB, eC, c1, c2, c3, c4]
      cases h1 : unlikeD C <;> cases h2 : allThereD (A.map nameD, B.map nameD, C.map nameD) (A ++ (B ++ C)) <;> simp_all
    have e14 := e13.trans e4
    obtain ⟨G, L, o, ⟨⟨al, xl, rfl, sl, il⟩, ⟨ab, xb, rfl, sb, ib⟩, ⟨at_, xt, rfl, st, it⟩⟩, q⟩ := qQ c5
    have o4 := o.same e14
    have hs4 : H4 self = some (.ins (g_Plan K) dx []) := o4.get (List.mem_cons_self ..)
    have i1 := ins_ho hs4 ⟨al, xl, rfl, sl.imp (ex_l e14) (ex_t e14), in_mono (Same.refl _) e14 il⟩
    have i2 := ins_ho hs4 ⟨ab, xb, rfl, sb.imp (ex_l e14) (ex_t e14), in_mono (Same.refl _) e14 ib⟩
    have i3 := ins_ho hs4 ⟨at_, xt, rfl, st.imp (ex_l e14) (ex_t e14), in_mono (Same.refl _) e14 it⟩
    have w0 : Same (Ho H4 self) H4 := fun b o e => by
      unfold Ho at e
      split at e
      · cases e
      · exact e
    refine copy_fld (i := 1) (na := na_Plan_row T) rfl rfl o4 (ins_mono (Same.refl _) w0 i1) (cl_Plan T) (by show (0 : Nat) < 1000; decide) (by omega) (fun e he => (hone e (by simp [he])).2.1) fun r1 y1 G1 H5 s1 w1 o5 k1 d1 => ?_
    have w1 : Same (Ho H4 self) H5 := fun b o e => w1 b o (ho_of w0 e)
    refine copy_fld (i := 2) (na := na_Plan_low T) rfl rfl o5 (ins_mono s1 w1 i2) (cl_Plan T) (by show (1 : Nat) < 1000; decide) (by omega) (fun e he => (hone e (by simp [he])).2.1) fun r2 y2 G2 H6 s2 w2 o6 k2 d2 => ?_
    have w2 : Same (Ho H4 self) H6 := fun b o e => w2 b o (ho_of w1 e)
    refine copy_fld (i := 3) (na := na_Plan_late T) rfl rfl o6 (ins_mono (s1.trans s2) w2 i3) (cl_Plan T) (by show (2 : Nat) < 1000; decide) (by omega) (fun e he => (hone e (by simp [he])).2.1) fun r3 y3 G3 H7 s3 w3 o7 k3 d3 => ?_
    have w3 : Same (Ho H4 self) H7 := fun b o e => w3 b o (ho_of w2 e)
    have hold := Own.hold o7
    have held := Own.held o7
    refine q _ H7 ((s1.trans s2).trans (s3.trans held)) hold (fun c u hc e => w3 c u ?_) ⟨dx, r1, r2, r3, y1, y2, y3, upd_same, ⟨held _ _ (s3 _ _ (s2 _ _ k1)), daM (s2.trans (s3.trans held)) d1⟩, ⟨held _ _ (s3 _ _ k2), daM (s3.trans held) d2⟩, held _ _ k3, daM held d3⟩
    unfold Ho
    rw [if_neg hc]
    exact e14 _ _ e
end
end KW
end
section
set_option Elab.async false
set_option linter.all false
set_option autoImplicit false
set_option maxRecDepth 100000
set_option maxHeartbeats 400000
/-! the engine as such -/
namespace KW
open PySem
/-- a line as such -/
structure LineM where
  name : Str
  rank : Int
  up : Bool
  most : Int
  wide : Int
  rest : Int
  ss : List PyData
  let_by : List Int
  shut : Int
  since : Option Int
  fresh : Bool
  c0 : Int
  c1 : Int
  c2 : Int
  c3 : Int
  longest : Int
def LineM.knock (l : LineM) (t : Int) : LineM :=
  if t < l.shut then { l with c2 := l.c2 + 1 }
  else if l.most ≤ ((l.let_by.filter fun one => decide (t - l.wide < one)).length : Int) then { l with shut := t + l.rest, c2 := l.c2 + 1 }
  else if l.since.isSome then { l with let_by := l.let_by ++ [t], c1 := l.c1 + 1 }
  else { l with let_by := l.let_by ++ [t], c0 := l.c0 + 1, since := some t, fresh := true }
def LineM.begin (l : LineM) (t : Int) : LineM :=
  let l := { l with c3 := l.c3 + 1 }
  let l := if l.fresh then { l with longest := (if t - l.since.getD 0 > l.longest then t - l.since.getD 0 else l.longest), fresh := false } else l
  if l.up then l else { l with since := none }
def LineM.answer (l : LineM) : LineM := if l.up then { l with since := none, fresh := false } else l
structure JobM where
  word : Str
  name : Str
  rank : Int
  ss : List PyData
  masks : Int
  pos : Nat
  left : Nat
/-- changes the first that passes -/
def upFirst {α : Type} (p : α → Bool) (f : α → α) : List α → List α
  | [] => []
  | x :: r => if p x = true then f x :: r else x :: upFirst p f r
/-- the first of the greatest -/
def bestBy {α : Type} (k : α → Int) : List α → Option α
  | [] => none
  | x :: r => match bestBy k r with
    | none => some x
    | some y => if k x ≥ k y then some x else some y
def ticksD : PyData → Int
  | .tuple [_, .int n] => n
  | _ => 0
/-- a line's parts -/
def lineM : PyData → LineM
  | .tuple [.str n, .int r, .bool u, .tuple [.int a, .int b, .int c], .list ss] => { name := n, rank := r, up := u, most := a, wide := b, rest := c, ss := ss, let_by := [], shut := 0, since := none, fresh := false, c0 := 0, c1 := 0, c2 := 0, c3 := 0, longest := 0 }
  | _ => { name := "", rank := 0, up := false, most := 0, wide := 0, rest := 0, ss := [], let_by := [], shut := 0, since := none, fresh := false, c0 := 0, c1 := 0, c2 := 0, c3 := 0, longest := 0 }
structure EngM where
  R : List PyData
  B : List PyData
  T : List PyData
  ways : List LineM
  tops : List JobM
  bottom : Option JobM
  put : List Str
  woken : List (Str × Int)
  begun : List JobM
  depth : Int
  now : Int
  row : List (Option (Str × Str))
  depths : List Int
  last : List Str
inductive Cur
  | top
  | bottom
  | thread (n : Str)
  deriving DecidableEq
def newEng (R B T : List PyData) : EngM := { R := R, B := B, T := T, ways := R.map lineM, tops := [], bottom := none, put := [], woken := T.map fun t => (nameD t, 0), begun := [], depth := 0, now := 0, row := [], depths := [], last := [] }
def hasN (n : Str) (l : LineM) : Bool := decide (l.name = n)
def jobN (n : Str) (j : JobM) : Bool := decide (j.name = n)
namespace EngM
def low (e : EngM) : Int := match e.tops.getLast? with
  | some j => j.rank
  | none => 0
def ready (e : EngM) : List LineM := e.ways.filter fun l => l.since.isSome && (!decide (l.name ∈ e.tops.map (·.name)) && decide (e.low < l.rank))
def readyLine (e : EngM) : Option LineM := if 0 < e.depth then none else bestBy (·.rank) e.ready
def newJob (w n : Str) (r : Int) (ss : List PyData) (m : Int) : JobM := { word := w, name := n, rank := r, ss := ss, masks := m, pos := 0, left := 0 }
def wokenOf (e : EngM) (n : Str) : Int := ((e.woken.find? fun p => decide (p.1 = n)).map (·.2)).getD 0
def freshT (e : EngM) : List PyData := e.T.filter fun t => !decide (nameD t ∈ e.begun.map (·.name)) && decide (0 < e.wokenOf (nameD t))
def pickT : Option JobM → List PyData → Option JobM
  | b, [] => b
  | b, t :: r => pickT (if (match b with | none => true | some j => decide (j.rank < rankD t)) = true then some (newJob "thread" (nameD t) (rankD t) (stepsD t) 0) else b) r
def addW (e : EngM) (n : Str) (d : Int) : EngM := { e with woken := e.woken.map fun p => if p.1 = n then (p.1, e.wokenOf n + d) else p }
def readyThread (e : EngM) : EngM × Option Cur :=
  if 0 < e.depth then (e, (bestBy (·.rank) e.begun).map fun j => .thread j.name)
  else match pickT (bestBy (·.rank) e.begun) e.freshT with
    | none => (e, none)
    | some j => if j.name ∈ e.begun.map (·.name) then (e, some (.thread j.name)) else ({ e.addW j.name (-1) with begun := e.begun ++ [j] }, some (.thread j.name))
def startBottom (e : EngM) : EngM := if e.bottom.isNone && decide (e.depth = 0) then (match e.put with
    | [] => e
    | n :: r => { e with put := r, bottom := some (newJob "bottom" n 0 (((e.B.find? fun b => decide (nameD b = n)).map stepsD).getD []) 0) })
  else e
def chosen (e : EngM) : EngM × Option Cur := match e.readyLine with
  | some l => ({ e with ways := upFirst (hasN l.name) (fun m => m.begin e.now) e.ways, last := e.last ++ [l.name], tops := e.tops ++ [newJob "top" l.name l.rank l.ss e.depth] }, some .top)
  | none => if e.tops.isEmpty then (let e1 := e.startBottom; if e1.bottom.isSome then (e1, some .bottom) else e1.readyThread) else (e, some .top)
def jobAt (e : EngM) : Cur → Option JobM
  | .top => e.tops.getLast?
  | .bottom => e.bottom
  | .thread n => e.begun.find? (jobN n)
/-- the running job changed -/
def setJob (e : EngM) (c : Cur) (f : JobM → JobM) : EngM := match c with
  | .top => { e with tops := e.tops.dropLast ++ (e.tops.getLast?.map f).toList }
  | .bottom => { e with bottom := e.bottom.map f }
  | .thread n => { e with begun := upFirst (jobN n) f e.begun }
def over (e : EngM) (c : Cur) : EngM := match e.jobAt c with
  | none => e
  | some j => if j.pos < j.ss.length then e else match c with
    | .top => { e with depth := j.masks, tops := e.tops.dropLast }
    | .bottom => { e with depth := j.masks, bottom := none }
    | .thread n => { e with depth := j.masks, begun := e.begun.filter fun o => !jobN n o }
def stepNow (e : EngM) (c : Cur) : PyData := match e.jobAt c with
  | none => .none
  | some j => j.ss.getD j.pos .none
def doStep (e : EngM) (s : PyData) : EngM :=
  if wordD s = "mask" then { e with depth := e.depth + 1 }
  else if wordD s = "open" then { e with depth := e.depth + -1 }
  else if wordD s = "answer" then { e with ways := upFirst (hasN (argD s)) LineM.answer e.ways }
  else if wordD s = "wake" then e.addW (argD s) 1
  else if argD s ∈ e.put then e else { e with put := e.put ++ [argD s] }
def quick (e : EngM) (c : Cur) : EngM := (((e.setJob c fun j => { j with pos := j.pos + 1 }).doStep (e.stepNow c))).over c
def isQuick (e : EngM) (c : Cur) : Bool := !decide (wordD (e.stepNow c) = "run")
def settle : Nat → EngM × Option Cur → EngM × Option Cur
  | 0, p => p
  | n + 1, (e, none) => (e, none)
  | n + 1, (e, some c) => if e.isQuick c = true then settle n (e.quick c).chosen else (e, some c)
def knocked (e : EngM) (ns : List Str) : EngM := ns.foldl (fun e n => { e with ways := upFirst (hasN n) (fun l => l.knock e.now) e.ways }) e
def whose (e : EngM) : Option Cur → Option (Str × Str)
  | none => none
  | some c => (e.jobAt c).map fun j => (j.word, j.name)
def stepLeft (e : EngM) (c : Cur) : EngM :=
  let e1 := e.setJob c fun j => { j with left := (if 0 < j.left then j.left else (ticksD (e.stepNow c)).toNat) - 1 }
  match e1.jobAt c with
  | none => e1
  | some j => if j.left = 0 then (e1.setJob c fun j => { j with pos := j.pos + 1 }).over c else e1
def fuel : Nat := 1000
def finish (p : EngM × Option Cur) : EngM :=
  let e2 := { p.1 with row := p.1.row ++ [p.1.whose p.2], depths := p.1.depths ++ [p.1.depth], now := p.1.now + 1 }
  match p.2 with
  | none => e2
  | some c => e2.stepLeft c
def go (e : EngM) (ns : List Str) : EngM := finish (settle fuel ({ e with last := [] }.knocked ns).chosen)
end EngM
end KW
end
section
set_option Elab.async false
set_option linter.all false
set_option autoImplicit false
/-! lists: the first that passes -/
namespace KW
open PySem
theorem find_map {α β : Type} (f : α → β) (p : β → Bool) : ∀ as : List α, (as.map f).find? p = (as.find? fun a => p (f a)).map f
  | [] => rfl
  | a :: r => by
    by_cases h : p (f a) = true
    · rw [List.map_cons, List.find?_cons_of_pos h, List.find?_cons_of_pos (p := fun a => p (f a)) h]; rfl
    · rw [List.map_cons, List.find?_cons_of_neg h, List.find?_cons_of_neg (p := fun a => p (f a)) h]; exact find_map f p r
theorem last_map {α β : Type} (f : α → β) (as : List α) : (as.map f).getLast? = as.getLast?.map f := by
  induction as with
  | nil => rfl
  | cons a r ih => cases r with
    | nil => rfl
    | cons b s => simpa using ih
theorem find_split {α : Type} {p : α → Bool} : ∀ {as : List α} {x : α}, as.find? p = some x → ∃ l r, as = l ++ x :: r ∧ p x = true ∧ ∀ y ∈ l, p y = false
  | [], _, h => by cases h
  | a :: s, x, h => by
    by_cases hp : p a = true
    · rw [List.find?_cons_of_pos hp] at h
      cases h
      exact ⟨[], s, rfl, hp, fun _ z => nomatch z⟩
    · rw [List.find?_cons_of_neg hp] at h
      obtain ⟨l, r, e, h1, h2⟩ := find_split h
      refine ⟨a :: l, r, by rw [e]; rfl, h1, fun y hy => ?_⟩
      rcases List.mem_cons.mp hy with rfl | hy
      · exact Bool.eq_false_iff.mpr hp
      · exact h2 y hy
theorem upFirst_at {α : Type} {p : α → Bool} {f : α → α} : ∀ {l : List α} {x : α} {r : List α}, (∀ y ∈ l, p y = false) → p x = true → upFirst p f (l ++ x :: r) = l ++ f x :: r
  | [], x, r, _, h => by show (if p x = true then _ else _) = _; rw [if_pos h]; rfl
  | a :: l, x, r, hn, h => by
    show (if p a = true then _ else a :: upFirst p f (l ++ x :: r)) = a :: (l ++ f x :: r)
    rw [if_neg (by rw [hn a (List.mem_cons_self ..)]; decide), upFirst_at (fun y hy => hn y (List.mem_cons_of_mem _ hy)) h]
theorem find_at {α : Type} {p : α → Bool} : ∀ {l : List α} {x : α} {r : List α}, (∀ y ∈ l, p y = false) → p x = true → (l ++ x :: r).find? p = some x
  | [], x, r, _, h => List.find?_cons_of_pos h
  | a :: l, x, r, hn, h => by
    show (a :: (l ++ x :: r)).find? p = some x
    rw [List.find?_cons_of_neg (by rw [hn a (List.mem_cons_self ..)]; decide)]
    exact find_at (fun y hy => hn y (List.mem_cons_of_mem _ hy)) h
end KW
end
section

set_option Elab.async false
set_option linter.all false
set_option autoImplicit false
set_option maxRecDepth 100000
set_option maxHeartbeats 400000
/-! what holds of an engine between its steps -/
namespace KW
open PySem
def deepN (ss : List PyData) (n : Nat) : Int := ((ss.take n).map fun s => deepOf (wordD s)).sum
def JobM.deep (j : JobM) : Int := deepN j.ss j.pos
def SpkOk (n1 n2 n3 : List Str) (ss : List PyData) : Prop := ∀ s ∈ ss, (wordD s = "answer" → argD s ∈ n1) ∧ (wordD s = "later" → argD s ∈ n2) ∧ (wordD s = "wake" → argD s ∈ n3)
structure StOk (m : EngM) (ss : List PyData) : Prop where
  st : areStepsL ss = true
  sp : SpkOk (m.R.map nameD) (m.B.map nameD) (m.T.map nameD) ss
structure JobOk (m : EngM) (w : Str) (j : JobM) : Prop where
  word : j.word = w
  st : StOk m j.ss
  pos : j.pos < j.ss.length
  masks : j.masks = 0
structure Inv0 (m : EngM) : Prop where
  plan : planOkD (.list m.R) (.list m.B) (.list m.T) = true
  wn : m.ways.map (·.name) = m.R.map nameD
  ws : ∀ l ∈ m.ways, StOk m l.ss ∧ (l.fresh = true → l.since.isSome = true)
  tops : ∀ j ∈ m.tops, JobOk m "top" j
  tn : (m.tops.map (·.name)).Nodup ∧ ∀ j ∈ m.tops, j.name ∈ m.R.map nameD
  bottom : ∀ j, m.bottom = some j → JobOk m "bottom" j
  begun : ∀ j ∈ m.begun, JobOk m "thread" j
  bn : (m.begun.map (·.name)).Nodup ∧ ∀ j ∈ m.begun, j.name ∈ m.T.map nameD
  wk : m.woken.map (·.1) = m.T.map nameD
  put : m.put.Nodup ∧ ∀ n ∈ m.put, n ∈ m.B.map nameD
def Deep0 (l : List JobM) : Prop := ∀ j ∈ l, j.deep = 0
def bestJ (m : EngM) : Option JobM := bestBy (·.rank) m.begun
def DInv (m : EngM) : Prop := match m.tops.getLast? with
  | some j => m.depth = j.deep ∧ Deep0 m.tops.dropLast ∧ Deep0 m.bottom.toList ∧ Deep0 m.begun
  | none => match m.bottom with
    | some j => m.depth = j.deep ∧ Deep0 m.begun
    | none => (∀ j ∈ m.begun, j.deep ≠ 0 → bestJ m = some j) ∧ m.depth = match bestJ m with
      | some j => j.deep
      | none => 0
def curC (m : EngM) : Option Cur := if m.tops.isEmpty then (if m.bottom.isSome then some .bottom else (bestJ m).map fun j => .thread j.name) else some .top
structure Inv (m : EngM) : Prop where
  i : Inv0 m
  d : DInv m
theorem deepOk_nn : ∀ {ss : List PyData} {d : Int}, deepOk ss d = true → 0 ≤ d → ∀ n, 0 ≤ d + deepN ss n
  | [], d, _, hd, n => by simp [deepN]; exact hd
  | s :: r, d, h, hd, n => by
    unfold deepOk at h
    split at h
    · cases h
    · cases n with
      | zero => simp [deepN]; exact hd
      | succ n =>
        have z := deepOk_nn h (by omega) n
        unfold deepN at z ⊢
        simp only [List.take_succ_cons, List.map_cons, List.sum_cons]
        omega
theorem steps_parts {ss : List PyData} (h : areStepsL ss = true) : (1 ≤ ss.length ∧ ss.length ≤ 12) ∧ (∀ s ∈ ss, isStepD s = true) ∧ deepOk ss 0 = true ∧ (ss.any fun s => decide (wordD s = "run")) = true := by
  obtain ⟨h1, h2, h3⟩ := stepsL_inv h
  unfold areStepsL at h
  obtain ⟨_, h⟩ := band h
  obtain ⟨_, h⟩ := band h
  obtain ⟨h4, h5⟩ := band h
  exact ⟨⟨h2, h3⟩, h1, h4, h5⟩
theorem deepN_nn {ss : List PyData} (h : areStepsL ss = true) (n : Nat) : 0 ≤ deepN ss n := by
  have := deepOk_nn (steps_parts h).2.2.1 (Int.le_refl 0) n
  omega
theorem deepN_zero (ss : List PyData) : deepN ss 0 = 0 := by simp [deepN]
theorem deepN_succ {ss : List PyData} {n : Nat} {s : PyData} (h : ss[n]? = some s) : deepN ss (n + 1) = deepN ss n + deepOf (wordD s) := by
  unfold deepN
  rw [List.take_add_one, h]
  simp
/-! ### the best -/
theorem best_some {α : Type} {k : α → Int} {l : List α} (h : l ≠ []) : ∃ x, bestBy k l = some x := by
  cases l with
  | nil => exact absurd rfl h
  | cons a r =>
    unfold bestBy
    split
    · exact ⟨_, rfl⟩
    · split <;> exact ⟨_, rfl⟩
theorem best_none {α : Type} {k : α → Int} {l : List α} (h : bestBy k l = none) : l = [] := by
  cases l with
  | nil => rfl
  | cons a r =>
    obtain ⟨x, hx⟩ := best_some (k := k) (l := a :: r) (by simp)
    rw [hx] at h
    cases h
theorem best_max {α : Type} {k : α → Int} : ∀ {l : List α} {b : α}, bestBy k l = some b → b ∈ l ∧ ∀ x ∈ l, k x ≤ k b
  | [], b, h => by cases h
  | a :: r, b, h => by
    unfold bestBy at h
    cases hr : bestBy k r with
    | none =>
      rw [hr] at h
      obtain rfl := best_none hr
      cases h
      exact ⟨by simp, fun x hx => by rw [List.mem_singleton.mp hx]; exact Int.le_refl _⟩
    | some y =>
      rw [hr] at h
      obtain ⟨m, hm⟩ := best_max hr
      simp only at h
      split at h
      · cases h
        rename_i hc
        refine ⟨by simp, fun x hx => ?_⟩
        rcases List.mem_cons.mp hx with rfl | hx
        · exact Int.le_refl _
        · exact Int.le_trans (hm x hx) hc
      · cases h
        rename_i hc
        refine ⟨List.mem_cons_of_mem _ m, fun x hx => ?_⟩
        rcases List.mem_cons.mp hx with rfl | hx
        · omega
        · exact hm x hx
theorem best_snoc {α : Type} {k : α → Int} {j : α} : ∀ {l : List α}, (∀ x ∈ l, k x < k j) → bestBy k (l ++ [j]) = some j
  | [], _ => rfl
  | a :: r, h => by
    show (match bestBy k (r ++ [j]) with | none => some a | some y => if k a ≥ k y then some a else some y) = some j
    rw [best_snoc fun x hx => h x (List.mem_cons_of_mem _ hx)]
    simp only
    rw [if_neg (by have := h a (by simp); omega)]
theorem pickT_or : ∀ {l : List PyData} {b : Option JobM}, (EngM.pickT b l = b) ∨ ∃ t ∈ l, EngM.pickT b l = some (EngM.newJob "thread" (nameD t) (rankD t) (stepsD t) 0) ∧ ∀ j, b = some j → j.rank < rankD t
  | [], b => .inl rfl
  | t :: r, b => by
    have hit : EngM.pickT b (t :: r) = EngM.pickT (some (EngM.newJob "thread" (nameD t) (rankD t) (stepsD t) 0)) r → (∀ j, b = some j → j.rank < rankD t) → ((EngM.pickT b (t :: r) = b) ∨ ∃ t' ∈ t :: r, EngM.pickT b (t :: r) = some (EngM.newJob "thread" (nameD t') (rankD t') (stepsD t') 0) ∧ ∀ j, b = some j → j.rank < rankD t') := fun hu hb => by
      rw [hu]
      rcases pickT_or (l := r) (b := some (EngM.newJob "thread" (nameD t) (rankD t) (stepsD t) 0)) with h | ⟨t', ht', h1, h2⟩
      · exact .inr ⟨t, by simp, h, hb⟩
      · refine .inr ⟨t', List.mem_cons_of_mem _ ht', h1, fun j hj => ?_⟩
        have z : rankD t < rankD t' := h2 _ rfl
        have := hb j hj
        omega
    cases b with
    | none => exact hit rfl fun j h => by cases h
    | some j =>
      by_cases hc : j.rank < rankD t
      · refine hit ?_ fun j' h => by cases h; exact hc
        show EngM.pickT (if decide (j.rank < rankD t) = true then _ else _) r = _
        rw [if_pos (decide_eq_true hc)]
      · have hu : EngM.pickT (some j) (t :: r) = EngM.pickT (some j) r := by
          show EngM.pickT (if decide (j.rank < rankD t) = true then _ else _) r = _
          rw [if_neg (by simpa using hc)]
        rw [hu]
        rcases pickT_or (l := r) (b := some j) with h | ⟨t', ht', h1, h2⟩
        · exact .inl h
        · exact .inr ⟨t', List.mem_cons_of_mem _ ht', h1, h2⟩
theorem pickT_none {l : List PyData} {b : Option JobM} (h : EngM.pickT b l = none) : b = none := by
  rcases pickT_or (l := l) (b := b) with z | ⟨t, _, z, _⟩
  · rw [← z]; exact h
  · rw [h] at z; cases z
/-! ### changing the first -/
theorem upFirst_map {α β : Type} {p : α → Bool} {f : α → α} {g : α → β} (h : ∀ x, g (f x) = g x) : ∀ l : List α, (upFirst p f l).map g = l.map g
  | [] => rfl
  | a :: r => by
    unfold upFirst
    split
    · simp [h]
    · simp [upFirst_map h r]
theorem upFirst_all {α : Type} {p : α → Bool} {f : α → α} {P : α → Prop} (hf : ∀ x, P x → P (f x)) : ∀ {l : List α}, (∀ x ∈ l, P x) → ∀ x ∈ upFirst p f l, P x
  | [], _, x, h => by cases h
  | a :: r, h, x, hx => by
    unfold upFirst at hx
    split at hx
    · rcases List.mem_cons.mp hx with rfl | hx
      · exact hf _ (h a (by simp))
      · exact h x (List.mem_cons_of_mem _ hx)
    · rcases List.mem_cons.mp hx with rfl | hx
      · exact h _ (by simp)
      · exact upFirst_all hf (fun y hy => h y (List.mem_cons_of_mem _ hy)) x hx
theorem nodup_sub {α : Type} [DecidableEq α] : ∀ {l r : List α}, l.Nodup → (∀ x ∈ l, x ∈ r) → l.length ≤ r.length
  | [], r, _, _ => Nat.zero_le _
  | a :: l, r, hn, hs => by
    rw [List.nodup_cons] at hn
    have ha : a ∈ r := hs a (by simp)
    have z := nodup_sub (l := l) (r := r.erase a) hn.2 fun x hx => by
      have hne : x ≠ a := fun e => hn.1 (e ▸ hx)
      exact (List.mem_erase_of_ne hne).mpr (hs x (List.mem_cons_of_mem _ hx))
    rw [List.length_erase_of_mem ha] at z
    have : 0 < r.length := List.length_pos_iff.mpr fun e => by rw [e] at ha; cases ha
    simp
    omega
/-! ### the plan's parts -/
structure PlanP (R B T : List PyData) : Prop where
  oR : ∀ d ∈ R, isLineD d = true
  oB : ∀ d ∈ B, isBottomD d = true
  oT : ∀ d ∈ T, isThreadD d = true
  nR : (R.map nameD).Nodup
  nB : (B.map nameD).Nodup
  nT : (T.map nameD).Nodup
  lR : 1 ≤ R.length ∧ R.length ≤ 5
  lB : B.length ≤ 4
  lT : T.length ≤ 4
  rR : (R.map rankD).Nodup
  rT : (T.map rankD).Nodup
  sp : ∀ d ∈ R ++ (B ++ T), SpkOk (R.map nameD) (B.map nameD) (T.map nameD) (stepsD d)
theorem there_of {w : Str} {ns : List Str} {every : List PyData} (h : thereD w ns every = true) {d s : PyData} (hd : d ∈ every) (hs : s ∈ stepsD d) (hw : wordD s = w) : argD s ∈ ns := by
  unfold thereD at h
  have h1 := List.all_eq_true.mp h d hd
  have h2 := List.all_eq_true.mp h1 (argD s) (List.mem_map.mpr ⟨s, List.mem_filter.mpr ⟨hs, by simp [hw]⟩, rfl⟩)
  simpa using h2
theorem plan_parts {R B T : List PyData} (h : planOkD (.list R) (.list B) (.list T) = true) : PlanP R B T := by
  unfold planOkD at h
  obtain ⟨h1, h2⟩ := band h
  obtain ⟨h3, h4⟩ := band h1
  obtain ⟨h5, h6⟩ := band h2
  obtain ⟨h7, h8⟩ := band h5
  obtain ⟨h9, h0⟩ := band h6
  have key : ∀ {ds : List PyData} {lo hi : Int} {p : PyData → Bool}, areOnesD (.list ds) lo hi p = true → lo ≤ (ds.length : Int) ∧ (ds.length : Int) ≤ hi ∧ (∀ e ∈ ds, p e = true) ∧ (ds.map nameD).Nodup := fun h => by
    obtain ⟨ds', hd, _, a, b, c, d⟩ := ones_inv h
    rcases hd with hd | hd
    · cases hd; exact ⟨a, b, c, d⟩
    · cases hd
  obtain ⟨a1, a2, a3, a4⟩ := key h3
  obtain ⟨b1, b2, b3, b4⟩ := key h7
  obtain ⟨c1, c2, c3, c4⟩ := key h8
  have h0 : allThereD (R.map nameD, B.map nameD, T.map nameD) (R ++ (B ++ T)) = true := h0
  unfold allThereD at h0
  obtain ⟨t1, h0⟩ := band h0
  obtain ⟨t2, t3⟩ := band h0
  exact ⟨a3, b3, c3, a4, b4, c4, ⟨by omega, by omega⟩, by omega, by omega, of_decide_eq_true h4, of_decide_eq_true h9, fun d hd s hs => ⟨there_of t1 hd hs, there_of t2 hd hs, there_of t3 hd hs⟩⟩
theorem PlanP.stR {R B T : List PyData} (p : PlanP R B T) {d : PyData} (h : d ∈ R) : areStepsL (stepsD d) = true ∧ SpkOk (R.map nameD) (B.map nameD) (T.map nameD) (stepsD d) := by
  refine ⟨?_, p.sp d (by simp [h])⟩
  obtain ⟨n, r, u, a, b, c, ss, rfl, _, _, _, hs⟩ := line_inv (p.oR d h)
  exact hs
theorem PlanP.stB {R B T : List PyData} (p : PlanP R B T) {d : PyData} (h : d ∈ B) : areStepsL (stepsD d) = true ∧ SpkOk (R.map nameD) (B.map nameD) (T.map nameD) (stepsD d) := by
  refine ⟨?_, p.sp d (by simp [h])⟩
  obtain ⟨n, ss, rfl, _, hs⟩ := bottom_inv (p.oB d h)
  exact hs
theorem PlanP.stT {R B T : List PyData} (p : PlanP R B T) {d : PyData} (h : d ∈ T) : areStepsL (stepsD d) = true ∧ SpkOk (R.map nameD) (B.map nameD) (T.map nameD) (stepsD d) := by
  refine ⟨?_, p.sp d (by simp [h])⟩
  obtain ⟨n, r, ss, rfl, _, _, hs⟩ := thread_inv (p.oT d h)
  exact hs
end KW
end
section
set_option Elab.async false
set_option linter.all false
set_option autoImplicit false
set_option maxRecDepth 100000
set_option maxHeartbeats 400000
/-! what is chosen keeps what holds -/
namespace KW
open PySem
namespace EngM
def costJ (j : JobM) : Int := if ((j.ss.drop j.pos).any fun s => decide (wordD s = "run")) = true then ((j.ss.drop j.pos).takeWhile fun s => !decide (wordD s = "run")).length else 15 + ((j.ss.length : Int) - j.pos)
def jobs (m : EngM) : List JobM := m.tops ++ (m.bottom.toList ++ m.begun)
def mu (m : EngM) : Int := 14 * ((m.R.length : Int) + 1 + m.T.length) + ((m.jobs).map fun j => costJ j - 14).sum
end EngM
open EngM
theorem sum_app (a b : List Int) : (a ++ b).sum = a.sum + b.sum := by simp
theorem cost_nn (j : JobM) (h : j.pos ≤ j.ss.length) : 0 ≤ costJ j := by
  unfold costJ
  split
  · omega
  · omega
theorem cost_le {j : JobM} (h : j.pos < j.ss.length) (h2 : j.ss.length ≤ 12) : costJ j ≤ 27 := by
  unfold costJ
  split
  · have := (List.takeWhile_sublist (fun s => !decide (wordD s = "run")) (l := j.ss.drop j.pos)).length_le
    rw [List.length_drop] at this
    omega
  · omega
theorem tw_lt {α : Type} {p : α → Bool} : ∀ {l : List α}, (l.any fun x => !p x) = true → (l.takeWhile p).length < l.length
  | [], h => by cases h
  | a :: r, h => by
    by_cases hp : p a = true
    · rw [List.takeWhile_cons_of_pos hp]
      have : (r.any fun x => !p x) = true := by simpa [hp] using h
      have := tw_lt this
      simp
      exact this
    · rw [List.takeWhile_cons_of_neg hp]
      simp
theorem cost_new {w n : Str} {r m : Int} {ss : List PyData} (h : areStepsL ss = true) : costJ (newJob w n r ss m) ≤ 13 := by
  obtain ⟨⟨h1, h2⟩, _, _, h4⟩ := steps_parts h
  unfold costJ newJob
  simp only [List.drop_zero]
  rw [if_pos h4]
  have z := tw_lt (p := fun s => !decide (wordD s = "run")) (l := ss) (by simpa using h4)
  omega
theorem sum_lb {l : List JobM} (h : ∀ j ∈ l, j.pos ≤ j.ss.length) : -(14 * (l.length : Int)) ≤ (l.map fun j => costJ j - 14).sum := by
  induction l with
  | nil => simp
  | cons a r ih =>
    have z := ih fun j hj => h j (List.mem_cons_of_mem _ hj)
    have y := cost_nn a (h a (by simp))
    simp only [List.map_cons, List.sum_cons, List.length_cons]
    omega
theorem sum_ub {l : List JobM} (h : ∀ j ∈ l, costJ j ≤ 27) : (l.map fun j => costJ j - 14).sum ≤ 13 * (l.length : Int) := by
  induction l with
  | nil => simp
  | cons a r ih =>
    have z := ih fun j hj => h j (List.mem_cons_of_mem _ hj)
    have y := h a (by simp)
    simp only [List.map_cons, List.sum_cons, List.length_cons]
    omega
section
variable {m : EngM}
theorem inv_counts (i : Inv0 m) : m.tops.length ≤ 5 ∧ m.tops.length ≤ m.R.length ∧ m.begun.length ≤ 4 ∧ m.begun.length ≤ m.T.length ∧ m.put.length ≤ 4 ∧ m.ways.length = m.R.length ∧ m.R.length ≤ 5 ∧ m.woken.length = m.T.length ∧ m.T.length ≤ 4 ∧ m.B.length ≤ 4 := by
  have p := plan_parts i.plan
  have h1 := nodup_sub i.tn.1 (r := m.R.map nameD) fun x hx => by
    obtain ⟨j, hj, rfl⟩ := List.mem_map.mp hx
    exact i.tn.2 j hj
  have h2 := nodup_sub i.bn.1 (r := m.T.map nameD) fun x hx => by
    obtain ⟨j, hj, rfl⟩ := List.mem_map.mp hx
    exact i.bn.2 j hj
  have h3 := nodup_sub i.put.1 (r := m.B.map nameD) i.put.2
  have h4 := congrArg List.length i.wn
  have h5 := congrArg List.length i.wk
  have := p.lR
  have := p.lB
  have := p.lT
  simp only [List.length_map] at h1 h2 h3 h4 h5
  refine ⟨by omega, by omega, by omega, by omega, by omega, by omega, by omega, by omega, by omega, by omega⟩
theorem job_ok {m : EngM} (i : Inv0 m) {j : JobM} (h : j ∈ m.jobs) : ∃ w, JobOk m w j := by
  unfold jobs at h
  rcases List.mem_append.mp h with h | h
  · exact ⟨_, i.tops j h⟩
  · rcases List.mem_append.mp h with h | h
    · exact ⟨_, i.bottom j (by simpa using h)⟩
    · exact ⟨_, i.begun j h⟩
theorem mu_bounds (i : Inv0 m) : 0 ≤ m.mu ∧ m.mu ≤ 300 := by
  obtain ⟨_, h1, _, h2, _, _, h3, _, h4, _⟩ := inv_counts i
  have hb : m.bottom.toList.length ≤ 1 := by cases m.bottom <;> simp
  have hl : m.jobs.length = m.tops.length + (m.bottom.toList.length + m.begun.length) := by unfold jobs; simp
  have lb := sum_lb (l := m.jobs) fun j hj => by
    obtain ⟨w, k⟩ := job_ok i hj
    have := k.pos
    omega
  have ub := sum_ub (l := m.jobs) fun j hj => by
    obtain ⟨w, k⟩ := job_ok i hj
    exact cost_le k.pos (steps_parts k.st.st).1.2
  unfold mu
  omega
theorem JobOk.to {m m' : EngM} {w : Str} {j : JobM} (h : JobOk m w j) (hR : m'.R = m.R) (hB : m'.B = m.B) (hT : m'.T = m.T) : JobOk m' w j := ⟨h.word, ⟨h.st.st, by rw [hR, hB, hT]; exact h.st.sp⟩, h.pos, h.masks⟩
theorem StOk.to {m m' : EngM} {ss : List PyData} (h : StOk m ss) (hR : m'.R = m.R) (hB : m'.B = m.B) (hT : m'.T = m.T) : StOk m' ss := ⟨h.st, by rw [hR, hB, hT]; exact h.sp⟩
theorem jobok_new {w n : Str} {r : Int} {ss : List PyData} (h : StOk m ss) : JobOk m w (newJob w n r ss 0) := ⟨rfl, h, by have := (steps_parts h.st).1.1; exact this, rfl⟩
theorem deep_new {w n : Str} {r k : Int} {ss : List PyData} : (newJob w n r ss k).deep = 0 := deepN_zero ss
/-- nothing is masked -/
def All0 (m : EngM) : Prop := Deep0 m.tops ∧ Deep0 m.bottom.toList ∧ Deep0 m.begun
theorem d_of_all0 (h : m.depth = 0) (a : All0 m) : DInv m := by
  obtain ⟨a1, a2, a3⟩ := a
  unfold DInv
  cases ht : m.tops.getLast? with
  | some j => exact ⟨h.trans (a1 j (List.mem_of_getLast? ht)).symm, fun x hx => a1 x (List.dropLast_subset _ hx), a2, a3⟩
  | none =>
    simp only
    cases hb : m.bottom with
    | some j => exact ⟨h.trans (a2 j (by rw [hb]; simp)).symm, a3⟩
    | none =>
      refine ⟨fun j hj hne => absurd (a3 j hj) hne, ?_⟩
      unfold bestJ
      cases hx : bestBy (fun j : JobM => j.rank) m.begun with
      | none => exact h
      | some j => exact h.trans (a3 j (best_max hx).1).symm
theorem all0_of_d (h : m.depth = 0) (d : DInv m) : All0 m := by
  unfold DInv at d
  cases ht : m.tops.getLast? with
  | some j =>
    rw [ht] at d
    obtain ⟨d1, d2, d3, d4⟩ := d
    refine ⟨fun x hx => ?_, d3, d4⟩
    obtain ⟨l, hl⟩ := List.getLast?_eq_some_iff.mp ht
    rw [hl] at hx d2
    rcases List.mem_append.mp hx with hx | hx
    · exact d2 x (by rw [List.dropLast_concat]; exact hx)
    · rw [List.mem_singleton.mp hx, ← d1]
      exact h
  | none =>
    rw [ht] at d
    have hte : m.tops = [] := List.getLast?_eq_none_iff.mp ht
    simp only at d
    cases hb : m.bottom with
    | some j =>
      rw [hb] at d
      refine ⟨fun x hx => by rw [hte] at hx; exact (nomatch hx), fun x hx => ?_, d.2⟩
      rw [hb] at hx
      have : x = j := by simpa using hx
      rw [this, ← d.1]
      exact h
    | none =>
      rw [hb] at d
      refine ⟨fun x hx => by rw [hte] at hx; exact (nomatch hx), fun x hx => by rw [hb] at hx; exact (nomatch hx), fun x hx => ?_⟩
      by_cases hne : x.deep = 0
      · exact hne
      · have z := d.1 x hx hne
        have y := d.2
        rw [z] at y
        rw [← show m.depth = x.deep from y]
        exact h
theorem depth_nn (i : Inv m) : 0 ≤ m.depth := by
  have d := i.d
  unfold DInv at d
  cases ht : m.tops.getLast? with
  | some j =>
    rw [ht] at d
    rw [d.1]
    exact deepN_nn (i.i.tops j (List.mem_of_getLast? ht)).st.st _
  | none =>
    rw [ht] at d
    simp only at d
    cases hb : m.bottom with
    | some j =>
      rw [hb] at d
      rw [d.1]
      exact deepN_nn (i.i.bottom j hb).st.st _
    | none =>
      rw [hb] at d
      rw [d.2]
      cases hx : bestJ m with
      | none => exact Int.le_refl _
      | some j => exact deepN_nn (i.i.begun j (best_max hx).1).st.st _
theorem ready_mem {l : LineM} (h : m.readyLine = some l) : m.depth ≤ 0 ∧ l ∈ m.ways ∧ l.since.isSome = true ∧ l.name ∉ m.tops.map (·.name) ∧ m.low < l.rank := by
  unfold readyLine at h
  split at h
  · cases h
  · rename_i hd
    have z := (best_max h).1
    unfold ready at z
    obtain ⟨z1, z2⟩ := List.mem_filter.mp z
    obtain ⟨z2, z3⟩ := band z2
    obtain ⟨z3, z4⟩ := band z3
    exact ⟨by omega, z1, z2, by simpa using z3, of_decide_eq_true z4⟩
structure ChoR (m : EngM) (r : EngM × Option Cur) : Prop where
  inv : Inv r.1
  cur : r.2 = curC r.1
  mu : r.1.mu ≤ m.mu
  last : r.1.last.length ≤ m.last.length + 1
  same : r.1.R = m.R ∧ r.1.B = m.B ∧ r.1.T = m.T ∧ r.1.now = m.now ∧ r.1.row = m.row ∧ r.1.depths = m.depths
  lb : ∀ k, (∀ l ∈ m.ways, l.let_by.length ≤ k) → ∀ l ∈ r.1.ways, l.let_by.length ≤ k
theorem begin_name (l : LineM) (t : Int) : (l.begin t).name = l.name ∧ (l.begin t).ss = l.ss ∧ (l.begin t).let_by = l.let_by := by
  unfold LineM.begin
  dsimp only
  repeat' split
  all_goals exact ⟨rfl, rfl, rfl⟩
theorem begin_fresh (l : LineM) (t : Int) : ((l.begin t).fresh = true → (l.begin t).since.isSome = true) := by
  unfold LineM.begin
  dsimp only
  repeat' split
  all_goals simp_all
theorem ready_T_best {j : JobM} (h : bestJ m = some j) : j ∈ m.begun := (best_max h).1
theorem cho_thread (i : Inv m) (ht : m.tops = []) (hb : m.bottom = none) : ChoR m m.readyThread := by
  have p := plan_parts i.i.plan
  have cc : ∀ {m' : EngM}, m'.tops = [] → m'.bottom = none → curC m' = (bestJ m').map fun j => .thread j.name := fun h1 h2 => by
    unfold curC
    rw [h1, h2]
    rfl
  have base : ∀ {c : Option Cur}, c = curC m → ChoR m (m, c) := fun h => ⟨i, h, Int.le_refl _, Nat.le_succ _, ⟨rfl, rfl, rfl, rfl, rfl, rfl⟩, fun k h => h⟩
  unfold readyThread
  split
  · exact base (cc ht hb).symm
  · rename_i hd
    have h0 : m.depth = 0 := by have := depth_nn i; omega
    have a0 := all0_of_d h0 i.d
    rcases pickT_or (l := m.freshT) (b := bestBy (·.rank) m.begun) with hp | ⟨t, htm, hp, hlt⟩
    · rw [hp]
      cases hbj : bestBy (fun j : JobM => j.rank) m.begun with
      | none =>
        simp only
        refine base ?_
        rw [cc ht hb]
        show none = (bestBy _ m.begun).map _
        rw [hbj]
        rfl
      | some j =>
        simp only
        have hin : j.name ∈ m.begun.map (·.name) := List.mem_map.mpr ⟨j, (best_max hbj).1, rfl⟩
        rw [if_pos hin]
        refine base ?_
        rw [cc ht hb]
        show _ = (bestBy _ m.begun).map _
        rw [hbj]
        rfl
    · rw [hp]
      simp only
      have htm' := htm
      unfold freshT at htm'
      obtain ⟨t1, t2⟩ := List.mem_filter.mp htm'
      obtain ⟨t2, t3⟩ := band t2
      have hnn : nameD t ∉ m.begun.map (·.name) := by simpa using t2
      rw [if_neg (show ¬ (newJob "thread" (nameD t) (rankD t) (stepsD t) 0).name ∈ m.begun.map (·.name) from hnn)]
      have hall : ∀ x ∈ m.begun, x.rank < rankD t := fun x hx => by
        obtain ⟨b, hbb⟩ := best_some (k := fun j : JobM => j.rank) (l := m.begun) (fun e => by rw [e] at hx; cases hx)
        have := (best_max hbb).2 x hx
        have := hlt b hbb
        omega
      have hst : StOk m (stepsD t) := by
        obtain ⟨s1, s2⟩ := p.stT t1
        exact ⟨s1, s2⟩
      have hwk : ((m.addW (nameD t) (-1)).woken.map (·.1)) = m.woken.map (·.1) := by
        unfold addW
        dsimp only
        rw [List.map_map]
        apply List.map_congr_left
        intro x _
        show (if x.1 = nameD t then _ else x).1 = x.1
        split <;> rfl
      let J := newJob "thread" (nameD t) (rankD t) (stepsD t) 0
      have hJ : JobOk m "thread" J := jobok_new hst
      refine ⟨⟨⟨i.i.plan, i.i.wn, fun l hl => ⟨(i.i.ws l hl).1.to rfl rfl rfl, (i.i.ws l hl).2⟩, fun j hj => (i.i.tops j hj).to rfl rfl rfl, i.i.tn, fun j hj => (i.i.bottom j hj).to rfl rfl rfl, fun j hj => ?_, ⟨?_, fun j hj => ?_⟩, hwk.trans i.i.wk, i.i.put⟩, ?_⟩, ?_, ?_, Nat.le_succ _, ⟨rfl, rfl, rfl, rfl, rfl, rfl⟩, fun k h => h⟩
      · rcases List.mem_append.mp hj with hj | hj
        · exact (i.i.begun j hj).to rfl rfl rfl
        · rw [List.mem_singleton.mp hj]
          exact hJ.to rfl rfl rfl
      · show ((m.begun ++ [J]).map (·.name)).Nodup
        rw [List.map_append, List.nodup_append]
        refine ⟨i.i.bn.1, by simp, fun a ha b hb => ?_⟩
        rw [List.mem_singleton.mp hb]
        exact fun e => hnn (by have e : a = nameD t := e; rw [← e]; exact ha)
      · rcases List.mem_append.mp hj with hj | hj
        · exact i.i.bn.2 j hj
        · rw [List.mem_singleton.mp hj]
          exact List.mem_map.mpr ⟨t, t1, rfl⟩
      · refine d_of_all0 h0 ⟨a0.1, a0.2.1, fun j hj => ?_⟩
        rcases List.mem_append.mp hj with hj | hj
        · exact a0.2.2 j hj
        · rw [List.mem_singleton.mp hj]
          exact deep_new
      · refine Eq.trans ?_ (Eq.symm (cc ht hb))
        show some (Cur.thread (nameD t)) = (bestBy (fun j : JobM => j.rank) (m.begun ++ [J])).map _
        rw [best_snoc (k := fun j : JobM => j.rank) (j := J) hall]
        rfl
      · show 14 * _ + ((m.tops ++ (m.bottom.toList ++ (m.begun ++ [J]))).map fun j => costJ j - 14).sum ≤ 14 * _ + ((m.tops ++ (m.bottom.toList ++ m.begun)).map fun j => costJ j - 14).sum
        rw [← List.append_assoc m.bottom.toList, ← List.append_assoc m.tops, List.map_append, sum_app]
        have := cost_new (w := "thread") (n := nameD t) (r := rankD t) (m := 0) hst.st
        show 14 * ((m.R.length : Int) + 1 + m.T.length) + (_ + (costJ J - 14 + 0)) ≤ _
        show _ ≤ 14 * ((m.R.length : Int) + 1 + m.T.length) + _
        have : costJ J ≤ 13 := this
        omega
theorem sb_of (i : Inv m) (hte : m.tops = []) : ∀ e1, e1 = m.startBottom → Inv e1 ∧ e1.mu ≤ m.mu ∧ e1.tops = [] ∧ e1.last = m.last ∧ (e1.R = m.R ∧ e1.B = m.B ∧ e1.T = m.T ∧ e1.now = m.now ∧ e1.row = m.row ∧ e1.depths = m.depths) ∧ e1.ways = m.ways := fun e1 he => by
  have p := plan_parts i.i.plan
  unfold startBottom at he
  split at he
  · rename_i hc
    obtain ⟨c1, c2⟩ := band hc
    have h0 : m.depth = 0 := of_decide_eq_true c2
    have a0 := all0_of_d h0 i.d
    have hbn : m.bottom = none := by cases h : m.bottom with | none => rfl | some j => rw [h] at c1; cases c1
    cases hp : m.put with
    | nil =>
      rw [hp] at he
      subst he
      exact ⟨i, Int.le_refl _, hte, rfl, ⟨rfl, rfl, rfl, rfl, rfl, rfl⟩, rfl⟩
    | cons n r =>
      rw [hp] at he
      have hnB : n ∈ m.B.map nameD := i.i.put.2 n (by rw [hp]; simp)
      obtain ⟨b, hb, hbn'⟩ := List.mem_map.mp hnB
      obtain ⟨b', hf⟩ : ∃ b', m.B.find? (fun b => decide (nameD b = n)) = some b' := by
        cases h : m.B.find? (fun b => decide (nameD b = n)) with
        | some x => exact ⟨x, rfl⟩
        | none => exact absurd hbn' (by simpa using List.find?_eq_none.mp h b hb)
      have hbm : b' ∈ m.B := List.mem_of_find?_eq_some hf
      have he : e1 = { m with put := r, bottom := some (newJob "bottom" n 0 (((m.B.find? fun b => decide (nameD b = n)).map stepsD).getD []) 0) } := he
      rw [hf] at he
      have he : e1 = { m with put := r, bottom := some (newJob "bottom" n 0 (stepsD b') 0) } := he
      subst he
      have hst : StOk m (stepsD b') := by
        obtain ⟨s1, s2⟩ := p.stB hbm
        exact ⟨s1, s2⟩
      let J := newJob "bottom" n 0 (stepsD b') 0
      have hJ : JobOk m "bottom" J := jobok_new hst
      have hput := i.i.put
      rw [hp] at hput
      refine ⟨⟨⟨i.i.plan, i.i.wn, fun l hl => ⟨(i.i.ws l hl).1.to rfl rfl rfl, (i.i.ws l hl).2⟩, fun j hj => (i.i.tops j hj).to rfl rfl rfl, i.i.tn, fun j hj => ?_, fun j hj => (i.i.begun j hj).to rfl rfl rfl, i.i.bn, i.i.wk, ⟨(List.nodup_cons.mp hput.1).2, fun x hx => hput.2 x (List.mem_cons_of_mem _ hx)⟩⟩, d_of_all0 h0 ⟨a0.1, fun j hj => ?_, a0.2.2⟩⟩, ?_, hte, rfl, ⟨rfl, rfl, rfl, rfl, rfl, rfl⟩, rfl⟩
      · cases hj
        exact hJ.to rfl rfl rfl
      · have : j = J := by simpa using hj
        rw [this]
        exact deep_new
      · show 14 * ((m.R.length : Int) + 1 + m.T.length) + ((m.tops ++ ([J] ++ m.begun)).map fun j => costJ j - 14).sum ≤ 14 * ((m.R.length : Int) + 1 + m.T.length) + ((m.tops ++ (m.bottom.toList ++ m.begun)).map fun j => costJ j - 14).sum
        rw [hbn]
        simp only [List.map_append, sum_app]
        have : costJ J ≤ 13 := cost_new hst.st
        have e : ([J].map fun j => costJ j - 14).sum = costJ J - 14 := by simp
        rw [e]
        simp
        omega
  · subst he
    exact ⟨i, Int.le_refl _, hte, rfl, ⟨rfl, rfl, rfl, rfl, rfl, rfl⟩, rfl⟩

theorem cho (i : Inv m) : ChoR m m.chosen := by
  have p := plan_parts i.i.plan
  unfold chosen
  cases hr : m.readyLine with
  | some l =>
    obtain ⟨hd, hl, hs, hn, hlow⟩ := ready_mem hr
    have h0 : m.depth = 0 := by have := depth_nn i; omega
    have a0 := all0_of_d h0 i.d
    have hst := (i.i.ws l hl).1
    simp only
    rw [h0]
    let J := newJob "top" l.name l.rank l.ss 0
    have hJ : JobOk m "top" J := jobok_new hst
    have hw : ∀ x ∈ upFirst (hasN l.name) (fun y => y.begin m.now) m.ways, StOk m x.ss ∧ (x.fresh = true → x.since.isSome = true) := upFirst_all (P := fun x : LineM => StOk m x.ss ∧ (x.fresh = true → x.since.isSome = true)) (fun x hx => ⟨by rw [(begin_name x _).2.1]; exact hx.1, begin_fresh x _⟩) i.i.ws
    refine ⟨⟨⟨i.i.plan, (upFirst_map (fun x => (begin_name x _).1) _).trans i.i.wn, fun x hx => ⟨(hw x hx).1.to rfl rfl rfl, (hw x hx).2⟩, fun j hj => ?_, ⟨?_, fun j hj => ?_⟩, fun j hj => (i.i.bottom j hj).to rfl rfl rfl, fun j hj => (i.i.begun j hj).to rfl rfl rfl, i.i.bn, i.i.wk, i.i.put⟩, ?_⟩, ?_, ?_, by simp, ⟨rfl, rfl, rfl, rfl, rfl, rfl⟩, fun k h => upFirst_all (P := fun x : LineM => x.let_by.length ≤ k) (fun x hx => by rw [(begin_name x _).2.2]; exact hx) h⟩
    · rcases List.mem_append.mp hj with hj | hj
      · exact (i.i.tops j hj).to rfl rfl rfl
      · rw [List.mem_singleton.mp hj]
        exact hJ.to rfl rfl rfl
    · show ((m.tops ++ [J]).map (·.name)).Nodup
      rw [List.map_append, List.nodup_append]
      refine ⟨i.i.tn.1, by simp, fun a ha b hb => ?_⟩
      rw [List.mem_singleton.mp hb]
      exact fun e => hn (by have e : a = l.name := e; rw [← e]; exact ha)
    · rcases List.mem_append.mp hj with hj | hj
      · exact i.i.tn.2 j hj
      · rw [List.mem_singleton.mp hj]
        show l.name ∈ m.R.map nameD
        rw [← i.i.wn]
        exact List.mem_map.mpr ⟨l, hl, rfl⟩
    · refine d_of_all0 rfl ⟨fun j hj => ?_, a0.2.1, a0.2.2⟩
      rcases List.mem_append.mp hj with hj | hj
      · exact a0.1 j hj
      · rw [List.mem_singleton.mp hj]
        exact deep_new
    · show some Cur.top = if (m.tops ++ [J]).isEmpty then _ else some Cur.top
      rw [if_neg (by simp)]
    · show 14 * ((m.R.length : Int) + 1 + m.T.length) + (((m.tops ++ [J]) ++ (m.bottom.toList ++ m.begun)).map fun j => costJ j - 14).sum ≤ 14 * ((m.R.length : Int) + 1 + m.T.length) + ((m.tops ++ (m.bottom.toList ++ m.begun)).map fun j => costJ j - 14).sum
      simp only [List.map_append, sum_app]
      have : costJ J ≤ 13 := cost_new hst.st
      have e : ([J].map fun j => costJ j - 14).sum = costJ J - 14 := by simp
      rw [e]
      omega
  | none =>
    simp only
    by_cases ht : m.tops.isEmpty = true
    · rw [if_pos ht]
      have hte : m.tops = [] := List.isEmpty_iff.mp ht
      obtain ⟨k1, k2, k3, k4, k5, k6⟩ := sb_of i hte _ rfl
      generalize m.startBottom = e1 at k1 k2 k3 k4 k5 k6
      show ChoR m (if e1.bottom.isSome = true then (e1, some .bottom) else e1.readyThread)
      by_cases hb : e1.bottom.isSome = true
      · rw [if_pos hb]
        refine ⟨k1, ?_, k2, by rw [k4]; exact Nat.le_succ _, k5, fun k h => by rw [k6]; exact h⟩
        unfold curC
        rw [k3, if_pos (by rfl), if_pos hb]
      · rw [if_neg hb]
        have hbn : e1.bottom = none := by cases h : e1.bottom with | none => rfl | some j => rw [h] at hb; exact absurd rfl hb
        have z := cho_thread k1 k3 hbn
        refine ⟨z.inv, z.cur, Int.le_trans z.mu k2, by rw [← k4]; exact z.last, ?_, fun k h => z.lb k (by rw [k6]; exact h)⟩
        obtain ⟨y1, y2, y3, y4, y5, y6⟩ := z.same
        obtain ⟨x1, x2, x3, x4, x5, x6⟩ := k5
        exact ⟨y1.trans x1, y2.trans x2, y3.trans x3, y4.trans x4, y5.trans x5, y6.trans x6⟩
    · rw [if_neg ht]
      refine ⟨i, ?_, Int.le_refl _, Nat.le_succ _, ⟨rfl, rfl, rfl, rfl, rfl, rfl⟩, fun k h => h⟩
      unfold curC
      rw [if_neg ht]
end
end KW
end
section
set_option Elab.async false
set_option linter.all false
set_option autoImplicit false
set_option maxRecDepth 100000
set_option maxHeartbeats 400000
/-! the running job in the eye, in plain; a quick step, knocks, a tick -/
namespace KW
open PySem EngM
def roleC : Cur → Str
  | .top => "top"
  | .bottom => "bottom"
  | .thread _ => "thread"
def OthC (m : EngM) : Cur → Prop
  | .top => Deep0 m.tops.dropLast ∧ Deep0 m.bottom.toList ∧ Deep0 m.begun
  | .bottom => Deep0 m.begun
  | .thread n => ∀ j ∈ m.begun, j.name ≠ n → j.deep = 0
structure PF (m : EngM) (c : Cur) (j : JobM) (w : Option JobM → EngM) : Prop where
  self : w (some j) = m
  ok : JobOk m (roleC c) j
  at_ : ∀ x, x.name = j.name → (w (some x)).jobAt c = some x
  set : ∀ x f, x.name = j.name → (w (some x)).setJob c f = w (some (f x))
  ov : ∀ x, x.name = j.name → (w (some x)).over c = if x.pos < x.ss.length then w (some x) else { w none with depth := x.masks }
  inv : ∀ X, (∀ x, X = some x → JobOk m (roleC c) x ∧ x.name = j.name) → Inv0 (w X)
  d1 : ∀ x, x.name = j.name → x.rank = j.rank → x.deep = (w (some x)).depth → DInv (w (some x))
  d0 : DInv { w none with depth := 0 }
  sum : ∃ r : (JobM → Int) → Int, ∀ X g, ((w X).jobs.map g).sum = r g + (X.toList.map g).sum
  keep : ∀ X, (w X).R = m.R ∧ (w X).B = m.B ∧ (w X).T = m.T ∧ (w X).ways = m.ways ∧ (w X).now = m.now ∧ (w X).row = m.row ∧ (w X).depths = m.depths ∧ (w X).last = m.last ∧ (w X).depth = m.depth
theorem best_repl {α : Type} {k : α → Int} {x y : α} {r : List α} (hk : k y = k x) : ∀ {l : List α}, x ∉ l → bestBy k (l ++ x :: r) = some x → bestBy k (l ++ y :: r) = some y
  | [], _, h => by
    show (match bestBy k r with | none => some y | some z => if k y ≥ k z then some y else some z) = some y
    have h : (match bestBy k r with | none => some x | some z => if k x ≥ k z then some x else some z) = some x := h
    cases hr : bestBy k r with
    | none => rfl
    | some z =>
      rw [hr] at h
      simp only at h ⊢
      by_cases hc : k x ≥ k z
      · rw [if_pos (by omega)]
      · rw [if_neg hc] at h
        cases h
        exact absurd (Int.le_refl _) hc
  | a :: l, hn, h => by
    show (match bestBy k (l ++ y :: r) with | none => some a | some z => if k a ≥ k z then some a else some z) = some y
    have h : (match bestBy k (l ++ x :: r) with | none => some a | some z => if k a ≥ k z then some a else some z) = some x := h
    obtain ⟨b, hb⟩ := best_some (k := k) (l := l ++ x :: r) (by simp)
    rw [hb] at h
    simp only at h
    by_cases hc : k a ≥ k b
    · rw [if_pos hc] at h
      cases h
      exact absurd (List.mem_cons_self ..) hn
    · rw [if_neg hc] at h
      cases h
      rw [best_repl hk (fun h => hn (List.mem_cons_of_mem _ h)) hb]
      simp only
      rw [if_neg (by omega)]
theorem pf_of {m : EngM} {c : Cur} (i : Inv0 m) (h : curC m = some c) (o : OthC m c) : ∃ j w, PF m c j w := by
  unfold curC at h
  by_cases ht : m.tops.isEmpty = true
  · rw [if_pos ht] at h
    have hte : m.tops = [] := List.isEmpty_iff.mp ht
    by_cases hb : m.bottom.isSome = true
    · rw [if_pos hb] at h
      cases h
      obtain ⟨j, hj⟩ := Option.isSome_iff_exists.mp hb
      have ok := i.bottom j hj
      refine ⟨j, fun X => { m with bottom := X }, ⟨by rw [← hj], ok, fun x _ => rfl, fun x f _ => rfl, fun x _ => rfl, fun X hX => ⟨i.plan, i.wn, fun l hl => ⟨(i.ws l hl).1.to rfl rfl rfl, (i.ws l hl).2⟩, fun j hj => (i.tops j hj).to rfl rfl rfl, i.tn, fun x hx => (hX x hx).1.to rfl rfl rfl, fun j hj => (i.begun j hj).to rfl rfl rfl, i.bn, i.wk, i.put⟩, fun x _ _ hd => ?_, ?_, ⟨fun g => (m.begun.map g).sum, fun X g => ?_⟩, fun X => ⟨rfl, rfl, rfl, rfl, rfl, rfl, rfl, rfl, rfl⟩⟩⟩
      · unfold DInv
        dsimp only
        rw [hte]
        exact ⟨hd.symm, o⟩
      · exact d_of_all0 rfl ⟨fun x hx => by rw [show ({ m with bottom := none, depth := 0 } : EngM).tops = m.tops from rfl, hte] at hx; exact (nomatch hx), fun x hx => (nomatch hx), o⟩
      · unfold jobs
        dsimp only
        rw [hte, List.nil_append, List.map_append, sum_app, Int.add_comm]
    · rw [if_neg hb] at h
      have hbn : m.bottom = none := by cases h : m.bottom with | none => rfl | some j => rw [h] at hb; exact absurd rfl hb
      obtain ⟨j, hj, hc⟩ := Option.map_eq_some_iff.mp h
      subst hc
      have hjm := (best_max hj).1
      obtain ⟨l, r, e⟩ := List.append_of_mem hjm
      have ok := i.begun j hjm
      have nd := i.bn.1
      rw [e, List.map_append, List.map_cons, List.nodup_append] at nd
      obtain ⟨n1, n2, n3⟩ := nd
      have nl : ∀ y ∈ l, y.name ≠ j.name := fun y hy => n3 _ (List.mem_map_of_mem hy) _ (List.mem_cons_self ..)
      have nr : ∀ y ∈ r, y.name ≠ j.name := fun y hy e => (List.nodup_cons.mp n2).1 (e ▸ List.mem_map_of_mem hy)
      have o : ∀ y ∈ m.begun, y.name ≠ j.name → y.deep = 0 := o
      have ol : ∀ y ∈ l, y.deep = 0 := fun y hy => o y (by rw [e]; simp [hy]) (nl y hy)
      have or : ∀ y ∈ r, y.deep = 0 := fun y hy => o y (by rw [e]; simp [hy]) (nr y hy)
      have jl : ∀ y ∈ l, jobN j.name y = false := fun y hy => decide_eq_false (nl y hy)
      have jr : ∀ y ∈ r, jobN j.name y = false := fun y hy => decide_eq_false (nr y hy)
      have hbj : bestBy (fun j : JobM => j.rank) (l ++ j :: r) = some j := by rw [← e]; exact hj
      refine ⟨j, fun X => { m with begun := l ++ (X.toList ++ r) }, ⟨by show { m with begun := l ++ j :: r } = m; rw [← e], ok, fun x hx => ?_, fun x f hx => ?_, fun x hx => ?_, fun X hX => ⟨i.plan, i.wn, fun l hl => ⟨(i.ws l hl).1.to rfl rfl rfl, (i.ws l hl).2⟩, fun j hj => (i.tops j hj).to rfl rfl rfl, i.tn, fun x hx => (i.bottom x hx).to rfl rfl rfl, fun x hx => ?_, ?_, i.wk, i.put⟩, fun x hx hr hd => ?_, ?_, ⟨fun g => (l.map g).sum + (r.map g).sum, fun X g => ?_⟩, fun X => ⟨rfl, rfl, rfl, rfl, rfl, rfl, rfl, rfl, rfl⟩⟩⟩
      · show (l ++ x :: r).find? (jobN j.name) = some x
        exact find_at jl (decide_eq_true hx)
      · show { m with begun := upFirst (jobN j.name) f (l ++ x :: r) } = { m with begun := l ++ f x :: r }
        rw [upFirst_at jl (decide_eq_true hx)]
      · have hat : ({ m with begun := l ++ ((some x).toList ++ r) } : EngM).jobAt (.thread j.name) = some x := find_at jl (decide_eq_true hx)
        unfold over
        rw [hat]
        simp only
        split
        · rfl
        · show ({ m with begun := (l ++ x :: r).filter fun o => !jobN j.name o, depth := x.masks } : EngM) = { m with begun := l ++ ([] ++ r), depth := x.masks }
          rw [List.filter_append, List.filter_cons_of_neg (by rw [show jobN j.name x = true from decide_eq_true hx]; decide), List.filter_eq_self.mpr fun y hy => by rw [jl y hy]; rfl, List.filter_eq_self.mpr fun y hy => by rw [jr y hy]; rfl]
          rfl
      · rcases List.mem_append.mp hx with hx | hx
        · exact (i.begun x (by rw [e]; simp [hx])).to rfl rfl rfl
        · rcases List.mem_append.mp hx with hx | hx
          · exact (hX x (by simpa using hx)).1.to rfl rfl rfl
          · exact (i.begun x (by rw [e]; simp [hx])).to rfl rfl rfl
      · have n2' := List.nodup_cons.mp n2
        refine ⟨?_, fun x hx => ?_⟩
        · show ((l ++ (X.toList ++ r)).map (·.name)).Nodup
          cases X with
          | none =>
            rw [List.map_append, List.nodup_append]
            exact ⟨n1, n2'.2, fun a ha b hb => n3 a ha b (List.mem_cons_of_mem _ hb)⟩
          | some x =>
            have hn := (hX x rfl).2
            show ((l ++ x :: r).map (·.name)).Nodup
            rw [List.map_append, List.map_cons, hn, List.nodup_append]
            exact ⟨n1, n2, n3⟩
        · show x.name ∈ m.T.map nameD
          rcases List.mem_append.mp hx with hx | hx
          · exact i.bn.2 x (by rw [e]; simp [hx])
          · rcases List.mem_append.mp hx with hx | hx
            · rw [(hX x (by simpa using hx)).2]
              exact i.bn.2 j hjm
            · exact i.bn.2 x (by rw [e]; simp [hx])
      · unfold DInv
        dsimp only
        rw [hte, hbn]
        have hb' : bestBy (fun j : JobM => j.rank) (l ++ x :: r) = some x := best_repl (k := fun j : JobM => j.rank) hr (fun hm => nl j hm rfl) hbj
        refine ⟨fun y hy hne => ?_, ?_⟩
        · have hy : y ∈ l ++ x :: r := hy
          rcases List.mem_append.mp hy with hy | hy
          · exact absurd (ol y hy) hne
          · rcases List.mem_cons.mp hy with rfl | hy
            · exact hb'
            · exact absurd (or y hy) hne
        · show m.depth = match bestBy (fun j : JobM => j.rank) (l ++ x :: r) with | some j => j.deep | none => 0
          rw [hb']
          exact hd.symm
      · refine d_of_all0 rfl ⟨fun x hx => by rw [show ({ m with begun := l ++ ((none : Option JobM).toList ++ r), depth := 0 } : EngM).tops = m.tops from rfl, hte] at hx; exact (nomatch hx), fun x hx => by rw [show ({ m with begun := l ++ ((none : Option JobM).toList ++ r), depth := 0 } : EngM).bottom = m.bottom from rfl, hbn] at hx; exact (nomatch hx), fun x hx => ?_⟩
        rcases List.mem_append.mp hx with hx | hx
        · exact ol x hx
        · rcases List.mem_append.mp hx with hx | hx
          · cases hx
          · exact or x hx
      · unfold jobs
        dsimp only
        rw [hte, hbn]
        simp only [List.nil_append, Option.toList, List.map_append, sum_app]
        omega
  · rw [if_neg ht] at h
    cases h
    have hne : m.tops ≠ [] := fun e => ht (by rw [e]; rfl)
    obtain ⟨l, j, e⟩ : ∃ l j, m.tops = l ++ [j] := ⟨_, _, (List.dropLast_concat_getLast hne).symm⟩
    have ok := i.tops j (by rw [e]; simp)
    obtain ⟨o1, o2, o3⟩ := o
    rw [e, List.dropLast_concat] at o1
    have nd := i.tn.1
    rw [e, List.map_append, List.nodup_append] at nd
    refine ⟨j, fun X => { m with tops := l ++ X.toList }, ⟨by show { m with tops := l ++ [j] } = m; rw [← e], ok, fun x hx => ?_, fun x f hx => ?_, fun x hx => ?_, fun X hX => ⟨i.plan, i.wn, fun l hl => ⟨(i.ws l hl).1.to rfl rfl rfl, (i.ws l hl).2⟩, fun x hx => ?_, ?_, fun x hx => (i.bottom x hx).to rfl rfl rfl, fun x hx => (i.begun x hx).to rfl rfl rfl, i.bn, i.wk, i.put⟩, fun x hx hr hd => ?_, ?_, ⟨fun g => (l.map g).sum + ((m.bottom.toList ++ m.begun).map g).sum, fun X g => ?_⟩, fun X => ⟨rfl, rfl, rfl, rfl, rfl, rfl, rfl, rfl, rfl⟩⟩⟩
    · show (l ++ [x]).getLast? = some x
      simp
    · show { m with tops := (l ++ [x]).dropLast ++ ((l ++ [x]).getLast?.map f).toList } = { m with tops := l ++ [f x] }
      simp
    · have hat : ({ m with tops := l ++ (some x).toList } : EngM).jobAt .top = some x := by show (l ++ [x]).getLast? = some x; simp
      unfold over
      rw [hat]
      simp only
      split
      · rfl
      · show ({ m with tops := (l ++ [x]).dropLast, depth := x.masks } : EngM) = { m with tops := l ++ [], depth := x.masks }
        simp
    · rcases List.mem_append.mp hx with hx | hx
      · exact (i.tops x (by rw [e]; simp [hx])).to rfl rfl rfl
      · exact (hX x (by simpa using hx)).1.to rfl rfl rfl
    · refine ⟨?_, fun x hx => ?_⟩
      · show ((l ++ X.toList).map (·.name)).Nodup
        cases X with
        | none => simpa using nd.1
        | some x =>
          have hn := (hX x rfl).2
          show ((l ++ [x]).map (·.name)).Nodup
          rw [List.map_append, List.nodup_append]
          refine ⟨nd.1, by simp, fun a ha b hb => nd.2.2 a ha b ?_⟩
          simpa [hn] using hb
      · show x.name ∈ m.R.map nameD
        rcases List.mem_append.mp hx with hx | hx
        · exact i.tn.2 x (by rw [e]; simp [hx])
        · rw [(hX x (by simpa using hx)).2]
          exact i.tn.2 j (by rw [e]; simp)
    · unfold DInv
      have hg : ({ m with tops := l ++ (some x).toList } : EngM).tops.getLast? = some x := by show (l ++ [x]).getLast? = some x; simp
      rw [hg]
      exact ⟨hd.symm, by show Deep0 (l ++ [x]).dropLast; rw [List.dropLast_concat]; exact o1, o2, o3⟩
    · refine d_of_all0 rfl ⟨?_, o2, o3⟩
      show Deep0 (l ++ [])
      rw [List.append_nil]
      exact o1
    · unfold jobs
      dsimp only
      simp only [List.map_append, sum_app]
      omega
theorem oth_of {m : EngM} {c : Cur} (i : Inv m) (h : curC m = some c) : OthC m c ∧ ∀ j, m.jobAt c = some j → m.depth = j.deep := by
  have d := i.d
  unfold DInv at d
  unfold curC at h
  by_cases ht : m.tops.isEmpty = true
  · rw [if_pos ht] at h
    have hte : m.tops = [] := List.isEmpty_iff.mp ht
    rw [hte] at d
    simp only [List.getLast?_nil] at d
    by_cases hb : m.bottom.isSome = true
    · rw [if_pos hb] at h
      cases h
      obtain ⟨j, hj⟩ := Option.isSome_iff_exists.mp hb
      rw [hj] at d
      exact ⟨d.2, fun j' hj' => by have hj' : m.bottom = some j' := hj'; rw [hj] at hj'; cases hj'; exact d.1⟩
    · rw [if_neg hb] at h
      have hbn : m.bottom = none := by cases h : m.bottom with | none => rfl | some j => rw [h] at hb; exact absurd rfl hb
      rw [hbn] at d
      obtain ⟨j, hj, hc⟩ := Option.map_eq_some_iff.mp h
      subst hc
      simp only [hj] at d
      refine ⟨fun x hx hn => ?_, fun j' hj' => ?_⟩
      · by_cases hz : x.deep = 0
        · exact hz
        · have := Option.some.inj (d.1 x hx hz)
          rw [this] at hn
          exact absurd rfl hn
      · have hj' : m.begun.find? (jobN j.name) = some j' := hj'
        have h1 := List.mem_of_find?_eq_some hj'
        have h2 : j'.name = j.name := of_decide_eq_true (List.find?_some (p := jobN j.name) hj')
        have hjm := (best_max hj).1
        have : j' = j := by
          obtain ⟨l, r, e⟩ := List.append_of_mem hjm
          have nd := i.i.bn.1
          rw [e, List.map_append, List.map_cons, List.nodup_append] at nd
          obtain ⟨n1, n2, n3⟩ := nd
          rw [e] at h1
          rcases List.mem_append.mp h1 with h1 | h1
          · exact absurd h2 (n3 _ (List.mem_map_of_mem h1) _ (List.mem_cons_self ..))
          · rcases List.mem_cons.mp h1 with h1 | h1
            · exact h1
            · exact absurd (h2 ▸ List.mem_map_of_mem h1) (List.nodup_cons.mp n2).1
        rw [this]
        exact d.2
  · rw [if_neg ht] at h
    cases h
    have hne : m.tops ≠ [] := fun e => ht (by rw [e]; rfl)
    cases hl : m.tops.getLast? with
    | none => exact absurd (List.getLast?_eq_none_iff.mp hl) hne
    | some j =>
      rw [hl] at d
      refine ⟨d.2, fun j' hj' => ?_⟩
      have hj' : m.tops.getLast? = some j' := hj'
      rw [hl] at hj'
      cases hj'
      exact d.1
theorem OthC.to {m m' : EngM} {c : Cur} (o : OthC m c) (h1 : m'.tops = m.tops) (h2 : m'.bottom = m.bottom) (h3 : m'.begun = m.begun) : OthC m' c := by
  cases c with
  | top => exact ⟨by rw [h1]; exact o.1, by rw [h2]; exact o.2.1, by rw [h3]; exact o.2.2⟩
  | bottom => show Deep0 m'.begun; rw [h3]; exact o
  | thread n => intro j hj; rw [h3] at hj; exact o j hj
theorem curC_to {m m' : EngM} (h1 : m'.tops = m.tops) (h2 : m'.bottom = m.bottom) (h3 : m'.begun = m.begun) : curC m' = curC m := by
  unfold curC bestJ
  rw [h1, h2, h3]
/-! ### a job goes on -/
structure Goes (j x : JobM) : Prop where
  name : x.name = j.name
  word : x.word = j.word
  rank : x.rank = j.rank
  ss : x.ss = j.ss
  masks : x.masks = j.masks
theorem adv {m : EngM} {c : Cur} {j x : JobM} {w : Option JobM → EngM} (f : PF m c j w) (g : Goes j x) (hd : m.depth = x.deep) : Inv ((w (some x)).over c) ∧ (((w (some x)).over c).mu = m.mu - (costJ j - 14) + (if x.pos < x.ss.length then costJ x - 14 else 0)) ∧
    (((w (some x)).over c).R = m.R ∧ ((w (some x)).over c).B = m.B ∧ ((w (some x)).over c).T = m.T ∧ ((w (some x)).over c).ways = m.ways ∧ ((w (some x)).over c).now = m.now ∧ ((w (some x)).over c).row = m.row ∧ ((w (some x)).over c).depths = m.depths ∧ ((w (some x)).over c).last = m.last) := by
  rw [f.ov x g.name]
  obtain ⟨r, hs⟩ := f.sum
  have mum : m.mu = 14 * ((m.R.length : Int) + 1 + m.T.length) + (r (fun j => costJ j - 14) + (costJ j - 14)) := by
    unfold mu
    have z := hs (some j) (fun j => costJ j - 14)
    rw [f.self] at z
    rw [z]
    simp
  have muw : ∀ X, (w X).mu = 14 * ((m.R.length : Int) + 1 + m.T.length) + (r (fun j => costJ j - 14) + (X.toList.map fun j => costJ j - 14).sum) := fun X => by
    unfold mu
    rw [hs X, (f.keep X).1, (f.keep X).2.2.1]
  have ok := f.ok
  split
  · rename_i hp
    refine ⟨⟨f.inv (some x) fun y hy => ?_, f.d1 x g.name g.rank ?_⟩, ?_, ?_⟩
    · cases hy
      exact ⟨⟨g.word.trans ok.word, by rw [g.ss]; exact ok.st, hp, g.masks.trans ok.masks⟩, g.name⟩
    · rw [(f.keep _).2.2.2.2.2.2.2.2]
      exact hd.symm
    · rw [muw, mum]
      have z : ((some x : Option JobM).toList.map fun j => costJ j - 14).sum = costJ x - 14 := by simp
      rw [z]
      omega
    · obtain ⟨k1, k2, k3, k4, k5, k6, k7, k8, _⟩ := f.keep (some x)
      exact ⟨k1, k2, k3, k4, k5, k6, k7, k8⟩
  · rename_i hp
    have hm : x.masks = 0 := g.masks.trans ok.masks
    rw [hm]
    have iv := f.inv none fun y hy => by cases hy
    refine ⟨⟨⟨iv.plan, iv.wn, fun l hl => ⟨(iv.ws l hl).1.to rfl rfl rfl, (iv.ws l hl).2⟩, fun j hj => (iv.tops j hj).to rfl rfl rfl, iv.tn, fun j hj => (iv.bottom j hj).to rfl rfl rfl, fun j hj => (iv.begun j hj).to rfl rfl rfl, iv.bn, iv.wk, iv.put⟩, f.d0⟩, ?_, ?_⟩
    · show (w none).mu = _
      rw [muw, mum]
      have z : ((none : Option JobM).toList.map fun j => costJ j - 14).sum = 0 := rfl
      rw [z]
      omega
    · obtain ⟨k1, k2, k3, k4, k5, k6, k7, k8, _⟩ := f.keep none
      exact ⟨k1, k2, k3, k4, k5, k6, k7, k8⟩
theorem cost_step {j : JobM} {s : PyData} (h : j.ss[j.pos]? = some s) (hs : wordD s ≠ "run") : (j.pos + 1 < j.ss.length → costJ { j with pos := j.pos + 1 } = costJ j - 1) ∧ (¬ j.pos + 1 < j.ss.length → 16 ≤ costJ j) := by
  obtain ⟨hl, hg⟩ := List.getElem?_eq_some_iff.mp h
  have hd : j.ss.drop j.pos = s :: j.ss.drop (j.pos + 1) := by rw [← hg, List.getElem_cons_drop]
  unfold costJ
  dsimp only
  rw [hd]
  simp only [List.any_cons, decide_eq_false hs, Bool.false_or, List.takeWhile_cons, Bool.not_false, if_true]
  refine ⟨fun hp => ?_, fun hp => ?_⟩
  · split
    · simp only [List.length_cons]
      omega
    · omega
  · have : j.ss.drop (j.pos + 1) = [] := List.drop_eq_nil_of_le (by omega)
    rw [this]
    simp
    omega
/-! ### a step's deed -/
theorem do_keep (m : EngM) (s : PyData) : (m.doStep s).tops = m.tops ∧ (m.doStep s).bottom = m.bottom ∧ (m.doStep s).begun = m.begun ∧ (m.doStep s).R = m.R ∧ (m.doStep s).B = m.B ∧ (m.doStep s).T = m.T ∧ (m.doStep s).now = m.now ∧ (m.doStep s).row = m.row ∧ (m.doStep s).depths = m.depths ∧ (m.doStep s).last = m.last ∧ (m.doStep s).depth = m.depth + deepOf (wordD s) := by
  unfold doStep
  by_cases h1 : wordD s = "mask"
  · rw [if_pos h1, h1]
    exact ⟨rfl, rfl, rfl, rfl, rfl, rfl, rfl, rfl, rfl, rfl, rfl⟩
  · rw [if_neg h1]
    by_cases h2 : wordD s = "open"
    · rw [if_pos h2, h2]
      exact ⟨rfl, rfl, rfl, rfl, rfl, rfl, rfl, rfl, rfl, rfl, rfl⟩
    · rw [if_neg h2]
      have h0 : deepOf (wordD s) = 0 := by unfold deepOf; rw [if_neg h1, if_neg h2]
      rw [h0, Int.add_zero]
      split
      · exact ⟨rfl, rfl, rfl, rfl, rfl, rfl, rfl, rfl, rfl, rfl, rfl⟩
      · split
        · exact ⟨rfl, rfl, rfl, rfl, rfl, rfl, rfl, rfl, rfl, rfl, rfl⟩
        · split <;> exact ⟨rfl, rfl, rfl, rfl, rfl, rfl, rfl, rfl, rfl, rfl, rfl⟩
theorem do_set (m : EngM) (c : Cur) (f : JobM → JobM) (s : PyData) : (m.setJob c f).doStep s = (m.doStep s).setJob c f := by
  have hput : (m.setJob c f).put = m.put := by cases c <;> rfl
  unfold doStep
  rw [hput]
  by_cases h1 : wordD s = "mask"
  · rw [if_pos h1, if_pos h1]
    cases c <;> rfl
  · rw [if_neg h1, if_neg h1]
    by_cases h2 : wordD s = "open"
    · rw [if_pos h2, if_pos h2]
      cases c <;> rfl
    · rw [if_neg h2, if_neg h2]
      by_cases h3 : wordD s = "answer"
      · rw [if_pos h3, if_pos h3]
        cases c <;> rfl
      · rw [if_neg h3, if_neg h3]
        by_cases h4 : wordD s = "wake"
        · rw [if_pos h4, if_pos h4]
          cases c <;> rfl
        · rw [if_neg h4, if_neg h4]
          by_cases h5 : argD s ∈ m.put
          · rw [if_pos h5, if_pos h5]
          · rw [if_neg h5, if_neg h5]
            cases c <;> rfl
theorem step_word {s : PyData} (h : isStepD s = true) : wordD s = "mask" ∨ wordD s = "open" ∨ wordD s = "run" ∨ wordD s = "answer" ∨ wordD s = "later" ∨ wordD s = "wake" := by
  cases s with
  | tuple ds => match ds, h with
    | .str w :: rest, h =>
      have h : isStepW w rest = true := h
      show w = "mask" ∨ w = "open" ∨ w = "run" ∨ w = "answer" ∨ w = "later" ∨ w = "wake"
      unfold isStepW at h
      split at h
      · rename_i hc; rcases hc with hc | hc
        · exact .inl hc
        · exact .inr (.inl hc)
      · split at h
        · split at h
          · rename_i hc; exact .inr (.inr (.inl hc))
          · obtain ⟨h1, _⟩ := band h
            simp at h1
            rcases h1 with h1 | h1 | h1
            · exact .inr (.inr (.inr (.inl h1)))
            · exact .inr (.inr (.inr (.inr (.inl h1))))
            · exact .inr (.inr (.inr (.inr (.inr h1))))
        · cases h
  | _ => cases h
theorem answer_keep (l : LineM) : l.answer.name = l.name ∧ l.answer.ss = l.ss ∧ l.answer.let_by = l.let_by ∧ ((l.fresh = true → l.since.isSome = true) → l.answer.fresh = true → l.answer.since.isSome = true) := by
  unfold LineM.answer
  split
  · exact ⟨rfl, rfl, rfl, fun _ h => by cases h⟩
  · exact ⟨rfl, rfl, rfl, fun h => h⟩
theorem do_inv {m : EngM} (i : Inv0 m) {s : PyData} (hs : isStepD s = true) (hr : wordD s ≠ "run") (hsp : (wordD s = "answer" → argD s ∈ m.R.map nameD) ∧ (wordD s = "later" → argD s ∈ m.B.map nameD) ∧ (wordD s = "wake" → argD s ∈ m.T.map nameD)) : Inv0 (m.doStep s) ∧ ∀ k, (∀ l ∈ m.ways, l.let_by.length ≤ k) → ∀ l ∈ (m.doStep s).ways, l.let_by.length ≤ k := by
  have same : ∀ {m' : EngM}, m'.R = m.R → m'.B = m.B → m'.T = m.T → m'.tops = m.tops → m'.bottom = m.bottom → m'.begun = m.begun → m'.ways = m.ways → m'.woken.map (·.1) = m.woken.map (·.1) → (m'.put.Nodup ∧ ∀ n ∈ m'.put, n ∈ m.B.map nameD) → Inv0 m' := fun {m'} h1 h2 h3 h4 h5 h6 h7 h8 h9 =>
    ⟨by rw [h1, h2, h3]; exact i.plan, by rw [h7, h1]; exact i.wn, fun l hl => by rw [h7] at hl; exact ⟨(i.ws l hl).1.to h1 h2 h3, (i.ws l hl).2⟩, fun j hj => by rw [h4] at hj; exact (i.tops j hj).to h1 h2 h3, by rw [h4, h1]; exact i.tn, fun j hj => by rw [h5] at hj; exact (i.bottom j hj).to h1 h2 h3, fun j hj => by rw [h6] at hj; exact (i.begun j hj).to h1 h2 h3, by rw [h6, h3]; exact i.bn, by rw [h8, h3]; exact i.wk, by rw [h2]; exact h9⟩
  unfold doStep
  split
  · exact ⟨same rfl rfl rfl rfl rfl rfl rfl rfl i.put, fun k h => h⟩
  · rename_i h1
    split
    · exact ⟨same rfl rfl rfl rfl rfl rfl rfl rfl i.put, fun k h => h⟩
    · rename_i h2
      split
      · have hw : ∀ x ∈ upFirst (hasN (argD s)) LineM.answer m.ways, StOk m x.ss ∧ (x.fresh = true → x.since.isSome = true) := upFirst_all (P := fun x : LineM => StOk m x.ss ∧ (x.fresh = true → x.since.isSome = true)) (fun x hx => ⟨by rw [(answer_keep x).2.1]; exact hx.1, (answer_keep x).2.2.2 hx.2⟩) i.ws
        refine ⟨⟨i.plan, (upFirst_map (fun x => (answer_keep x).1) _).trans i.wn, fun x hx => ⟨(hw x hx).1.to rfl rfl rfl, (hw x hx).2⟩, fun j hj => (i.tops j hj).to rfl rfl rfl, i.tn, fun j hj => (i.bottom j hj).to rfl rfl rfl, fun j hj => (i.begun j hj).to rfl rfl rfl, i.bn, i.wk, i.put⟩, fun k h => upFirst_all (P := fun x : LineM => x.let_by.length ≤ k) (fun x hx => by rw [(answer_keep x).2.2.1]; exact hx) h⟩
      · rename_i h3
        split
        · refine ⟨same rfl rfl rfl rfl rfl rfl rfl ?_ i.put, fun k h => h⟩
          unfold addW
          dsimp only
          rw [List.map_map]
          apply List.map_congr_left
          intro x _
          show (if x.1 = argD s then _ else x).1 = x.1
          split <;> rfl
        · rename_i h4
          have hl : wordD s = "later" := by
            rcases step_word hs with h | h | h | h | h | h
            · exact absurd h h1
            · exact absurd h h2
            · exact absurd h hr
            · exact absurd h h3
            · exact h
            · exact absurd h h4
          split
          · exact ⟨i, fun k h => h⟩
          · rename_i h5
            refine ⟨same rfl rfl rfl rfl rfl rfl rfl rfl ⟨?_, fun n hn => ?_⟩, fun k h => h⟩
            · show (m.put ++ [argD s]).Nodup
              rw [List.nodup_append]
              refine ⟨i.put.1, by simp, fun a ha b hb => ?_⟩
              rw [List.mem_singleton.mp hb]
              exact fun e => h5 (e ▸ ha)
            · rcases List.mem_append.mp hn with hn | hn
              · exact i.put.2 n hn
              · rw [List.mem_singleton.mp hn]
                exact hsp.2.1 hl
structure QuR (m r : EngM) : Prop where
  inv : Inv r
  mu : r.mu + 1 ≤ m.mu
  same : r.R = m.R ∧ r.B = m.B ∧ r.T = m.T ∧ r.now = m.now ∧ r.row = m.row ∧ r.depths = m.depths ∧ r.last = m.last
  lb : ∀ k, (∀ l ∈ m.ways, l.let_by.length ≤ k) → ∀ l ∈ r.ways, l.let_by.length ≤ k
/-- what is known of the step that comes -/
structure Now (m : EngM) (c : Cur) (j : JobM) (s : PyData) : Prop where
  job : m.jobAt c = some j
  ok : JobOk m (roleC c) j
  step : j.ss[j.pos]? = some s
  now : m.stepNow c = s
  good : isStepD s = true
  sp : (wordD s = "answer" → argD s ∈ m.R.map nameD) ∧ (wordD s = "later" → argD s ∈ m.B.map nameD) ∧ (wordD s = "wake" → argD s ∈ m.T.map nameD)
theorem now_of {m : EngM} {c : Cur} (i : Inv m) (h : curC m = some c) : ∃ j s, Now m c j s := by
  obtain ⟨o, _⟩ := oth_of i h
  obtain ⟨j, w, f⟩ := pf_of i.i h o
  have hat := f.at_ j rfl
  rw [f.self] at hat
  have hpl := f.ok.pos
  have hs : j.ss[j.pos]? = some j.ss[j.pos] := List.getElem?_eq_getElem hpl
  refine ⟨j, _, hat, f.ok, hs, ?_, (steps_parts f.ok.st.st).2.1 _ (List.getElem_mem _), f.ok.st.sp _ (List.getElem_mem _)⟩
  unfold stepNow
  rw [hat]
  show j.ss.getD j.pos .none = _
  rw [List.getD_eq_getElem?_getD, hs]
  rfl
theorem qui {m : EngM} {c : Cur} (i : Inv m) (h : curC m = some c) (hq : m.isQuick c = true) : QuR m (m.quick c) := by
  obtain ⟨j, s, n⟩ := now_of i h
  obtain ⟨o, hd⟩ := oth_of i h
  have hr : wordD s ≠ "run" := by
    unfold isQuick at hq
    rw [n.now] at hq
    simpa using hq
  have hk := do_keep m s
  obtain ⟨k1, k2, k3, k4, k5, k6, k7, k8, k9, k10, k11⟩ := hk
  obtain ⟨iv, lb⟩ := do_inv i.i n.good hr n.sp
  have hc : curC (m.doStep s) = some c := (curC_to k1 k2 k3).trans h
  obtain ⟨j', w, f⟩ := pf_of iv hc (o.to k1 k2 k3)
  have hj : j' = j := by
    have a := f.at_ j' rfl
    rw [f.self] at a
    have b : (m.doStep s).jobAt c = m.jobAt c := by cases c <;> (unfold jobAt; simp only [k1, k2, k3])
    rw [b, n.job] at a
    exact (Option.some.inj a).symm
  subst hj
  have e : m.quick c = (w (some { j' with pos := j'.pos + 1 })).over c := by
    unfold quick
    rw [do_set, n.now]
    have z := f.set j' (fun j => { j with pos := j.pos + 1 }) rfl
    rw [f.self] at z
    rw [z]
  have dp : (m.doStep s).depth = ({ j' with pos := j'.pos + 1 } : JobM).deep := by
    rw [k11, hd j' n.job]
    exact (deepN_succ n.step).symm
  obtain ⟨a1, a2, b1, b2, b3, b4, b5, b6, b7, b8⟩ := adv f (x := { j' with pos := j'.pos + 1 }) ⟨rfl, rfl, rfl, rfl, rfl⟩ dp
  have mus : (m.doStep s).mu = m.mu := by
    unfold mu jobs
    rw [k1, k2, k3, k4, k6]
  obtain ⟨c1, c2⟩ := cost_step n.step hr
  rw [e]
  refine ⟨a1, ?_, ⟨b1.trans k4, b2.trans k5, b3.trans k6, b5.trans k7, b6.trans k8, b7.trans k9, b8.trans k10⟩, fun k hk => by rw [b4]; exact lb k hk⟩
  rw [a2, mus]
  by_cases hp : j'.pos + 1 < j'.ss.length
  · have := c1 hp
    rw [if_pos (show ({ j' with pos := j'.pos + 1 } : JobM).pos < ({ j' with pos := j'.pos + 1 } : JobM).ss.length from hp)]
    omega
  · have := c2 hp
    rw [if_neg (show ¬ ({ j' with pos := j'.pos + 1 } : JobM).pos < ({ j' with pos := j'.pos + 1 } : JobM).ss.length from hp)]
    omega
end KW
end
section
set_option Elab.async false
set_option linter.all false
set_option autoImplicit false
set_option maxRecDepth 100000
set_option maxHeartbeats 400000
/-! a tick keeps what holds; an engine made anew -/
namespace KW
open PySem EngM
theorem settle_quick {n : Nat} {m : EngM} {c : Cur} (h : m.isQuick c = true) : settle (n + 1) (m, some c) = settle n (m.quick c).chosen := by
  show (if m.isQuick c = true then EngM.settle n (m.quick c).chosen else (m, some c)) = _
  rw [if_pos h]
theorem settle_end {n : Nat} {m : EngM} {c : Option Cur} (h : ∀ x, c = some x → m.isQuick x = false) : settle n (m, c) = (m, c) := by
  cases n with
  | zero => rfl
  | succ n => cases c with
    | none => rfl
    | some x =>
      show (if m.isQuick x = true then EngM.settle n (m.quick x).chosen else (m, some x)) = _
      rw [if_neg (by rw [h x rfl]; decide)]
/-- the least of a settling: from chosen on -/
structure Set_ (m : EngM) (r : EngM × Option Cur) : Prop where
  inv : Inv r.1
  cur : r.2 = curC r.1
  stop : ∀ c, r.2 = some c → r.1.isQuick c = false
  last : (r.1.last.length : Int) + r.1.mu ≤ m.last.length + m.mu
  same : r.1.R = m.R ∧ r.1.B = m.B ∧ r.1.T = m.T ∧ r.1.now = m.now ∧ r.1.row = m.row ∧ r.1.depths = m.depths
  lb : ∀ k, (∀ l ∈ m.ways, l.let_by.length ≤ k) → ∀ l ∈ r.1.ways, l.let_by.length ≤ k
theorem set_of : ∀ (n : Nat) {m : EngM} {c : Option Cur}, Inv m → c = curC m → m.mu < n → Set_ m (settle n (m, c))
  | 0, m, c, i, _, h => by have := (mu_bounds i.i).1; omega
  | n + 1, m, none, i, hc, _ => ⟨i, hc, fun c h => (nomatch h), Int.le_refl _, ⟨rfl, rfl, rfl, rfl, rfl, rfl⟩, fun k h => h⟩
  | n + 1, m, some c, i, hc, h => by
    cases hq : m.isQuick c with
    | false =>
      rw [settle_end fun x hx => by cases hx; exact hq]
      exact ⟨i, hc, fun x hx => by cases hx; exact hq, Int.le_refl _, ⟨rfl, rfl, rfl, rfl, rfl, rfl⟩, fun k h => h⟩
    | true =>
      rw [settle_quick hq]
      have q := qui i hc.symm hq
      have k := cho q.inv
      have := q.mu
      have := k.mu
      have z := set_of n (m := (m.quick c).chosen.1) (c := (m.quick c).chosen.2) k.inv k.cur (by omega)
      obtain ⟨a1, a2, a3, a4, a5, a6, a7⟩ := q.same
      obtain ⟨b1, b2, b3, b4, b5, b6⟩ := k.same
      obtain ⟨c1, c2, c3, c4, c5, c6⟩ := z.same
      refine ⟨z.inv, z.cur, z.stop, ?_, ⟨c1.trans (b1.trans a1), c2.trans (b2.trans a2), c3.trans (b3.trans a3), c4.trans (b4.trans a4), c5.trans (b5.trans a5), c6.trans (b6.trans a6)⟩, fun k' h' => z.lb k' (k.lb k' (q.lb k' h'))⟩
      have h1 := z.last
      have h2 := k.last
      rw [a7] at h2
      have h3 := q.mu
      have h4 := k.mu
      show ((settle n ((m.quick c).chosen.1, (m.quick c).chosen.2)).1.last.length : Int) + (settle n ((m.quick c).chosen.1, (m.quick c).chosen.2)).1.mu ≤ _
      omega
theorem knock_keep (l : LineM) (t : Int) : (l.knock t).name = l.name ∧ (l.knock t).ss = l.ss ∧ (l.knock t).let_by.length ≤ l.let_by.length + 1 ∧ ((l.fresh = true → l.since.isSome = true) → (l.knock t).fresh = true → (l.knock t).since.isSome = true) := by
  unfold LineM.knock
  split
  · exact ⟨rfl, rfl, Nat.le_succ _, fun h => h⟩
  · split
    · exact ⟨rfl, rfl, Nat.le_succ _, fun h => h⟩
    · split
      · exact ⟨rfl, rfl, by simp, fun h => h⟩
      · exact ⟨rfl, rfl, by simp, fun _ _ => rfl⟩
def knock1 (m : EngM) (n : Str) : EngM := { m with ways := upFirst (hasN n) (fun l => l.knock m.now) m.ways }
theorem inv_ways {m : EngM} (i : Inv m) {w : List LineM} (h1 : w.map (·.name) = m.ways.map (·.name)) (h2 : ∀ l ∈ w, StOk m l.ss ∧ (l.fresh = true → l.since.isSome = true)) : Inv { m with ways := w } :=
  ⟨⟨i.i.plan, h1.trans i.i.wn, fun l hl => ⟨(h2 l hl).1.to rfl rfl rfl, (h2 l hl).2⟩, fun j hj => (i.i.tops j hj).to rfl rfl rfl, i.i.tn, fun j hj => (i.i.bottom j hj).to rfl rfl rfl, fun j hj => (i.i.begun j hj).to rfl rfl rfl, i.i.bn, i.i.wk, i.i.put⟩, i.d⟩
theorem inv_knock1 {m : EngM} (i : Inv m) (n : Str) : Inv (knock1 m n) :=
  inv_ways i (upFirst_map (fun x => (knock_keep x _).1) _) (upFirst_all (P := fun x : LineM => StOk m x.ss ∧ (x.fresh = true → x.since.isSome = true)) (fun x hx => ⟨by rw [(knock_keep x _).2.1]; exact hx.1, (knock_keep x _).2.2.2 hx.2⟩) i.i.ws)
theorem knocked_cons (m : EngM) (n : Str) (ns : List Str) : m.knocked (n :: ns) = (knock1 m n).knocked ns := rfl
theorem knocked_snoc (m : EngM) (n : Str) (ns : List Str) : m.knocked (ns ++ [n]) = knock1 (m.knocked ns) n := by
  unfold knocked
  rw [List.foldl_append]
  rfl
structure KnR (m r : EngM) (k : Nat) : Prop where
  inv : Inv r
  keep : ∃ w, r = { m with ways := w }
  mu : r.mu = m.mu
  lb : ∀ b, (∀ l ∈ m.ways, l.let_by.length ≤ b) → ∀ l ∈ r.ways, l.let_by.length ≤ b + k
theorem knr : ∀ (ns : List Str) {m : EngM}, Inv m → KnR m (m.knocked ns) ns.length
  | [], m, i => ⟨i, ⟨m.ways, rfl⟩, rfl, fun b h => h⟩
  | n :: ns, m, i => by
    rw [knocked_cons]
    have z := knr ns (inv_knock1 i n)
    obtain ⟨w, hw⟩ := z.keep
    refine ⟨z.inv, ⟨w, hw⟩, z.mu, fun b h l hl => ?_⟩
    have y := z.lb (b + 1) (fun l hl => ?_) l hl
    · simp only [List.length_cons]; omega
    · have y : ∀ l ∈ upFirst (hasN n) (fun l => l.knock m.now) m.ways, l.let_by.length ≤ b + 1 := by
        intro l hl
        have key : ∀ {ls : List LineM}, (∀ l ∈ ls, l.let_by.length ≤ b) → ∀ l ∈ upFirst (hasN n) (fun l => l.knock m.now) ls, l.let_by.length ≤ b + 1 := by
          intro ls
          induction ls with
          | nil => intro _ l hl; cases hl
          | cons a r ih =>
            intro h l hl
            unfold upFirst at hl
            split at hl
            · rcases List.mem_cons.mp hl with rfl | hl
              · have := (knock_keep a m.now).2.2.1
                have := h a (by simp)
                omega
              · have := h l (List.mem_cons_of_mem _ hl)
                omega
            · rcases List.mem_cons.mp hl with rfl | hl
              · have := h l (by simp)
                omega
              · exact ih (fun x hx => h x (List.mem_cons_of_mem _ hx)) l hl
        exact key h l hl
      exact y l hl
theorem inv_out {m : EngM} (i : Inv m) {m' : EngM} (h1 : m'.R = m.R) (h2 : m'.B = m.B) (h3 : m'.T = m.T) (h4 : m'.tops = m.tops) (h5 : m'.bottom = m.bottom) (h6 : m'.begun = m.begun) (h7 : m'.ways = m.ways) (h8 : m'.woken = m.woken) (h9 : m'.put = m.put) (h0 : m'.depth = m.depth) : Inv m' := by
  refine ⟨⟨by rw [h1, h2, h3]; exact i.i.plan, by rw [h7, h1]; exact i.i.wn, fun l hl => by rw [h7] at hl; exact ⟨(i.i.ws l hl).1.to h1 h2 h3, (i.i.ws l hl).2⟩, fun j hj => by rw [h4] at hj; exact (i.i.tops j hj).to h1 h2 h3, by rw [h4, h1]; exact i.i.tn, fun j hj => by rw [h5] at hj; exact (i.i.bottom j hj).to h1 h2 h3, fun j hj => by rw [h6] at hj; exact (i.i.begun j hj).to h1 h2 h3, by rw [h6, h3]; exact i.i.bn, by rw [h8, h3]; exact i.i.wk, by rw [h2, h9]; exact i.i.put⟩, ?_⟩
  have d := i.d
  unfold DInv bestJ at d ⊢
  rw [h4, h5, h6, h0]
  exact d
theorem run_ticks {s : PyData} (h : isStepD s = true) (hr : wordD s = "run") : ∃ n : Int, s = .tuple [.str "run", .int n] ∧ 1 ≤ n ∧ n ≤ 9 := by
  cases s with
  | tuple ds => match ds, h with
    | .str w :: rest, h =>
      have hr : w = "run" := hr
      subst hr
      have h : isStepW "run" rest = true := h
      unfold isStepW at h
      rw [if_neg (by decide)] at h
      match rest, h with
      | [r], h =>
        simp only [if_true] at h
        obtain ⟨i, rfl, h1, h2⟩ := within_inv h
        exact ⟨i, rfl, h1, h2⟩
  | _ => cases h
structure StepR (m r : EngM) : Prop where
  inv : Inv r
  same : r.R = m.R ∧ r.B = m.B ∧ r.T = m.T ∧ r.ways = m.ways ∧ r.now = m.now ∧ r.row = m.row ∧ r.depths = m.depths ∧ r.last = m.last
theorem stl {m : EngM} {c : Cur} (i : Inv m) (h : curC m = some c) (hq : m.isQuick c = false) : StepR m (m.stepLeft c) := by
  obtain ⟨j, s, n⟩ := now_of i h
  obtain ⟨o, hd⟩ := oth_of i h
  have hr : wordD s = "run" := by
    unfold isQuick at hq
    rw [n.now] at hq
    simpa using hq
  obtain ⟨j', w, f⟩ := pf_of i.i h o
  have hj : j' = j := by
    have a := f.at_ j' rfl
    rw [f.self, n.job] at a
    exact (Option.some.inj a).symm
  subst hj
  let k : Nat := (if 0 < j'.left then j'.left else (ticksD (m.stepNow c)).toNat) - 1
  let x : JobM := { j' with left := k }
  have e1 : (m.setJob c fun j => { j with left := (if 0 < j.left then j.left else (ticksD (m.stepNow c)).toNat) - 1 }) = w (some x) := by
    have z := f.set j' (fun j => { j with left := (if 0 < j.left then j.left else (ticksD (m.stepNow c)).toNat) - 1 }) rfl
    rw [f.self] at z
    exact z
  have hpos := f.ok.pos
  have dj := hd j' n.job
  unfold stepLeft
  dsimp only
  rw [e1, f.at_ x rfl]
  dsimp only
  split
  · rw [f.set x _ rfl]
    let y : JobM := { x with pos := x.pos + 1 }
    have dp : m.depth = y.deep := by
      rw [dj]
      have z := deepN_succ n.step
      rw [hr] at z
      show deepN j'.ss j'.pos = deepN j'.ss (j'.pos + 1)
      rw [z]
      show _ = deepN j'.ss j'.pos + 0
      omega
    obtain ⟨a1, _, b⟩ := adv f (x := y) ⟨rfl, rfl, rfl, rfl, rfl⟩ dp
    exact ⟨a1, b⟩
  · obtain ⟨a1, _, b⟩ := adv f (x := x) ⟨rfl, rfl, rfl, rfl, rfl⟩ dj
    have z := f.ov x rfl
    rw [if_pos (show x.pos < x.ss.length from hpos)] at z
    rw [z] at a1 b
    exact ⟨a1, b⟩
structure FinR (m r : EngM) (c : Option Cur) : Prop where
  inv : Inv r
  same : r.R = m.R ∧ r.B = m.B ∧ r.T = m.T ∧ r.ways = m.ways ∧ r.last = m.last
  out : r.now = m.now + 1 ∧ r.row = m.row ++ [m.whose c] ∧ r.depths = m.depths ++ [m.depth]
theorem fin_of {m : EngM} {c : Option Cur} (i : Inv m) (h : c = curC m) (hq : ∀ x, c = some x → m.isQuick x = false) : FinR m (finish (m, c)) c := by
  have i2 : Inv { m with row := m.row ++ [m.whose c], depths := m.depths ++ [m.depth], now := m.now + 1 } := inv_out i rfl rfl rfl rfl rfl rfl rfl rfl rfl rfl
  cases c with
  | none => exact ⟨i2, ⟨rfl, rfl, rfl, rfl, rfl⟩, rfl, rfl, rfl⟩
  | some x =>
    have hx := hq x rfl
    have z := stl (c := x) i2 ((curC_to rfl rfl rfl).trans h.symm) (by
      have e : ({ m with row := m.row ++ [m.whose (some x)], depths := m.depths ++ [m.depth], now := m.now + 1 } : EngM).isQuick x = m.isQuick x := by cases x <;> rfl
      rw [e]
      exact hx)
    obtain ⟨a1, a2, a3, a4, a5, a6, a7, a8⟩ := z.same
    exact ⟨z.inv, ⟨a1, a2, a3, a4, a8⟩, a5, a6, a7⟩
structure GoR (m r : EngM) (k : Nat) : Prop where
  inv : Inv r
  same : r.R = m.R ∧ r.B = m.B ∧ r.T = m.T
  now : r.now = m.now + 1
  row : r.row.length = m.row.length + 1
  depths : r.depths.length = m.depths.length + 1
  lb : ∀ b, (∀ l ∈ m.ways, l.let_by.length ≤ b) → ∀ l ∈ r.ways, l.let_by.length ≤ b + k
  last : r.last.length ≤ 1000
theorem go_gen {m : EngM} (i : Inv m) (hl : m.last = []) : GoR m (finish (settle fuel m.chosen)) 0 := by
  have k := cho i
  generalize m.chosen = p at k
  obtain ⟨m1, c1⟩ := p
  have mb := (mu_bounds k.inv.i).2
  have st := set_of fuel k.inv k.cur (by show m1.mu < (1000 : Int); have mb : m1.mu ≤ 300 := mb; omega)
  generalize settle fuel (m1, c1) = q at st
  obtain ⟨m2, c2⟩ := q
  have fi := fin_of st.inv st.cur st.stop
  have mu0 : 0 ≤ m2.mu := (mu_bounds st.inv.i).1
  have mb : m1.mu ≤ 300 := mb
  have sl : (m2.last.length : Int) + m2.mu ≤ m1.last.length + m1.mu := st.last
  have kl : m1.last.length ≤ m.last.length + 1 := k.last
  have ki := k.same
  have kb := k.lb
  have si := st.same
  have sb := st.lb
  obtain ⟨a1, a2, a3, a4, a5⟩ := fi.same
  obtain ⟨o1, o2, o3⟩ := fi.out
  obtain ⟨b1, b2, b3, b4, b5, b6⟩ := si
  obtain ⟨c1, c2, c3, c4, c5, c6⟩ := ki
  rw [hl] at kl
  have kl : m1.last.length ≤ 1 := kl
  refine ⟨fi.inv, ⟨a1.trans (b1.trans c1), a2.trans (b2.trans c2), a3.trans (b3.trans c3)⟩, ?_, ?_, ?_, fun b h l hl => ?_, ?_⟩
  · rw [o1]; show m2.now + 1 = m.now + 1; rw [show m2.now = m1.now from b4, show m1.now = m.now from c4]
  · rw [o2]; show (m2.row ++ [_]).length = _; rw [show m2.row = m1.row from b5, show m1.row = m.row from c5]; simp
  · rw [o3]; show (m2.depths ++ [_]).length = _; rw [show m2.depths = m1.depths from b6, show m1.depths = m.depths from c6]; simp
  · rw [a4] at hl
    exact sb _ (kb _ h) l hl
  · rw [a5]
    show m2.last.length ≤ 1000
    omega
theorem go_of {m : EngM} (i : Inv m) (ns : List Str) : GoR m (m.go ns) ns.length := by
  have i0 : Inv { m with last := [] } := inv_out i rfl rfl rfl rfl rfl rfl rfl rfl rfl rfl
  have kn := knr ns i0
  have e : m.go ns = finish (settle fuel ((({ m with last := [] } : EngM).knocked ns).chosen)) := rfl
  rw [e]
  generalize ({ m with last := [] } : EngM).knocked ns = m0 at kn
  obtain ⟨w, hw⟩ := kn.keep
  have ki := kn.inv
  have kb := kn.lb
  subst hw
  have z := go_gen ki rfl
  exact ⟨z.inv, z.same, z.now, z.row, z.depths, fun b h l hl => z.lb _ (kb b h) l hl, z.last⟩
/-- an engine made anew -/
theorem inv_new {R B T : List PyData} (h : planOkD (.list R) (.list B) (.list T) = true) : Inv (newEng R B T) := by
  have p := plan_parts h
  refine ⟨⟨h, ?_, fun l hl => ?_, fun j hj => (nomatch hj), ⟨List.nodup_nil, fun j hj => (nomatch hj)⟩, fun j hj => (nomatch hj), fun j hj => (nomatch hj), ⟨List.nodup_nil, fun j hj => (nomatch hj)⟩, ?_, ⟨List.nodup_nil, fun j hj => (nomatch hj)⟩⟩, ⟨fun j hj => (nomatch hj), rfl⟩⟩
  · show (R.map lineM).map (·.name) = R.map nameD
    rw [List.map_map]
    refine List.map_congr_left fun d hd => ?_
    obtain ⟨n, r, u, a, b, c, ss, rfl, _⟩ := line_inv (p.oR d hd)
    rfl
  · obtain ⟨d, hd, rfl⟩ := List.mem_map.mp (show l ∈ R.map lineM from hl)
    obtain ⟨s1, s2⟩ := p.stR hd
    obtain ⟨n, r, u, a, b, c, ss, rfl, _⟩ := line_inv (p.oR d hd)
    exact ⟨⟨s1, s2⟩, fun h => by cases h⟩
  · show (T.map fun t => (nameD t, (0 : Int))).map (·.1) = T.map nameD
    rw [List.map_map]
    rfl
end KW
end
section
set_option Elab.async false
set_option linter.all false
set_option autoImplicit false
set_option maxRecDepth 100000
set_option maxHeartbeats 400000
/-! plans as data: what == asks of them -/
namespace KW
open PySem
def LayD (d : PyData) (n : Nat) : Prop := d.canLay0 = true ∧ d.depth ≤ n
theorem lay_all {xs : List PyData} {n : Nat} (h : ∀ x ∈ xs, LayD x n) : PyData.canLayAll0 xs = true ∧ PyData.depthAll xs ≤ n := by
  induction xs with
  | nil => exact ⟨rfl, Nat.zero_le _⟩
  | cons a r ih =>
    obtain ⟨h1, h2⟩ := ih fun x hx => h x (List.mem_cons_of_mem _ hx)
    obtain ⟨h3, h4⟩ := h a (by simp)
    refine ⟨?_, ?_⟩
    · simp only [PyData.canLayAll0, h1, h3, Bool.and_self]
    · simp only [PyData.depthAll]
      omega
theorem lay_list {xs : List PyData} {n : Nat} (h : ∀ x ∈ xs, LayD x n) : LayD (.list xs) (n + 1) := by
  obtain ⟨h1, h2⟩ := lay_all h
  refine ⟨by simp only [PyData.canLay0]; exact h1, by simp only [PyData.depth]; omega⟩
theorem lay_tup {xs : List PyData} {n : Nat} (h : ∀ x ∈ xs, LayD x n) : LayD (.tuple xs) (n + 1) := by
  obtain ⟨h1, h2⟩ := lay_all h
  refine ⟨by simp only [PyData.canLay0]; exact h1, by simp only [PyData.depth]; omega⟩
theorem lay_mono {d : PyData} {n m : Nat} (h : LayD d n) (hm : n ≤ m) : LayD d m := ⟨h.1, Nat.le_trans h.2 hm⟩
theorem lay_int (i : Int) : LayD (.int i) 0 := ⟨by simp only [PyData.canLay0], by simp only [PyData.depth]; exact Nat.le_refl _⟩
theorem lay_bool (b : Bool) : LayD (.bool b) 0 := ⟨by simp only [PyData.canLay0], by simp only [PyData.depth]; exact Nat.le_refl _⟩
theorem lay_str {x : Str} (h : PyData.strOk x = true) : LayD (.str x) 0 := ⟨by simp only [PyData.canLay0]; exact h, by simp only [PyData.depth]; exact Nat.le_refl _⟩
theorem name_ok {x : Str} (h : isNameS x = true) : PyData.strOk x = true := by
  unfold isNameS at h
  obtain ⟨_, h⟩ := band h
  have key : ∀ c ∈ letters.cps.toList, c < 0x110000 := by decide +kernel
  unfold PyData.strOk
  rw [← Array.all_toList, List.all_eq_true]
  intro c hc
  exact decide_eq_true (key c (of_decide_eq_true (List.all_eq_true.mp h c hc)))
theorem word_lay {s : PyData} (h : isStepD s = true) : LayD s 1 := by
  cases s with
  | tuple ds => match ds, h with
    | .str w :: rest, h =>
      have hw := step_word (s := .tuple (.str w :: rest)) h
      have hw : w = "mask" ∨ w = "open" ∨ w = "run" ∨ w = "answer" ∨ w = "later" ∨ w = "wake" := hw
      have hs : PyData.strOk w = true := by
        rcases hw with rfl | rfl | rfl | rfl | rfl | rfl <;> decide +kernel
      have h : isStepW w rest = true := h
      refine lay_tup fun x hx => ?_
      rcases List.mem_cons.mp hx with rfl | hx
      · exact lay_str hs
      · unfold isStepW at h
        split at h
        · rw [List.isEmpty_iff.mp h] at hx
          cases hx
        · match rest, h with
          | [r], h =>
            rw [List.mem_singleton.mp hx]
            simp only at h
            split at h
            · obtain ⟨i, rfl, _⟩ := within_inv h
              exact lay_int i
            · obtain ⟨_, h2⟩ := band h
              obtain ⟨n, rfl, hn⟩ := name_inv h2
              exact lay_str (name_ok hn)
  | _ => cases h
theorem steps_lay {ss : List PyData} (h : areStepsL ss = true) : LayD (.list ss) 2 := lay_list fun s hs => word_lay ((steps_parts h).2.1 s hs)
theorem plan_shaped {R B T : List PyData} (p : PlanP R B T) : SeqAt.shaped (.tuple [.list R, .list B, .list T]) = true := by
  have hR : LayD (.list R) 4 := lay_list fun d hd => by
    obtain ⟨n, r, u, a, b, c, ss, rfl, hn, _, _, hs⟩ := line_inv (p.oR d hd)
    refine lay_tup (n := 2) fun x hx => ?_
    simp only [List.mem_cons, List.not_mem_nil, or_false] at hx
    rcases hx with rfl | rfl | rfl | rfl | rfl
    · exact lay_mono (lay_str (name_ok hn)) (by omega)
    · exact lay_mono (lay_int _) (by omega)
    · exact lay_mono (lay_bool _) (by omega)
    · refine lay_mono (lay_tup (n := 0) fun x hx => ?_) (by omega)
      simp only [List.mem_cons, List.not_mem_nil, or_false] at hx
      rcases hx with rfl | rfl | rfl <;> exact lay_int _
    · exact steps_lay hs
  have hB : LayD (.list B) 4 := lay_list fun d hd => by
    obtain ⟨n, ss, rfl, hn, hs⟩ := bottom_inv (p.oB d hd)
    refine lay_tup (n := 2) fun x hx => ?_
    simp only [List.mem_cons, List.not_mem_nil, or_false] at hx
    rcases hx with rfl | rfl
    · exact lay_mono (lay_str (name_ok hn)) (by omega)
    · exact steps_lay hs
  have hT : LayD (.list T) 4 := lay_list fun d hd => by
    obtain ⟨n, r, ss, rfl, hn, _, hs⟩ := thread_inv (p.oT d hd)
    refine lay_tup (n := 2) fun x hx => ?_
    simp only [List.mem_cons, List.not_mem_nil, or_false] at hx
    rcases hx with rfl | rfl | rfl
    · exact lay_mono (lay_str (name_ok hn)) (by omega)
    · exact lay_mono (lay_int _) (by omega)
    · exact steps_lay hs
  have h : LayD (.tuple [.list R, .list B, .list T]) 5 := lay_tup fun x hx => by
    simp only [List.mem_cons, List.not_mem_nil, or_false] at hx
    rcases hx with rfl | rfl | rfl
    · exact hR
    · exact hB
    · exact hT
  unfold SeqAt.shaped
  rw [h.1, decide_eq_true (Nat.le_trans h.2 (by decide))]
  rfl
end KW
end
section
set_option Elab.async false
set_option linter.all false
set_option autoImplicit false
set_option maxRecDepth 100000
set_option maxHeartbeats 1000000
/-! words of the engine's texts that know of no engine -/
namespace KW
open PySem PySem.Spec PyProof.Rows L2 He KR Evl
section
variable {K : PySem.W.Frag} {G G' H H' : Hp} {L : List (Addr × HO)} {σ : L2.St} {ta te ti : TE} {D : Ends} {tz : TS} {a C dx : Addr} {f : Str} {fs : List (Str × V)} {v : V} {n m : Nat}
theorem oi {q : Addr × HO} (n : Nat) (o : Own G H L) (h : L[n]? = some q) : H q.1 = some q.2 := o.at_ q (List.mem_of_getElem? h)
end
section
variable {K : PySem.W.Frag} {G G' H H' : Hp} {L : List (Addr × HO)} {σ : L2.St} {ta te ti : TE} {D : Ends} {tz : TS} {a C dx : Addr} {f : Str} {fs : List (Str × V)} {v : V} {n m : Nat}
theorem oi2 {ob : HO} (n : Nat) (o : Own G H L) (h : L[n]? = some (a, ob)) : H a = some ob := o.at_ (a, ob) (List.mem_of_getElem? h)
end
section
variable {K : PySem.W.Frag} {G G' H H' : Hp} {L : List (Addr × HO)} {σ : L2.St} {ta te ti : TE} {D : Ends} {tz : TS} {a C dx : Addr} {f : Str} {fs : List (Str × V)} {v : V} {n m : Nat}
theorem own_set {o' : HO} {ob : HO} (o : Own G H L) (h : L[n]? = some (a, ob)) : Own G (upd H a o') (L.set n (a, o')) := by
  have hn := (List.getElem?_eq_some_iff.mp h).1
  have e1 : L = L.take n ++ (a, ob) :: L.drop (n + 1) := by
    have z : L[n] = (a, ob) := (List.getElem?_eq_some_iff.mp h).2
    rw [← z, List.getElem_cons_drop_succ_eq_drop, List.take_append_drop]
  have e2 : L.set n (a, o') = L.take n ++ (a, o') :: L.drop (n + 1) := by
    rw [List.set_eq_take_append_cons_drop, if_pos hn]
  rw [e1] at o
  rw [e2]
  exact o.upd
end
section
variable {K : PySem.W.Frag} {G G' H H' : Hp} {L : List (Addr × HO)} {σ : L2.St} {ta te ti : TE} {D : Ends} {tz : TS} {a C dx : Addr} {f : Str} {fs : List (Str × V)} {v : V} {n m : Nat}
theorem own_ex (o : Own G H L) (e : Ex H H') : Own G H' L := o.same e
end
section
variable {K : PySem.W.Frag} {G G' H H' : Hp} {L : List (Addr × HO)} {σ : L2.St} {ta te ti : TE} {D : Ends} {tz : TS} {a C dx : Addr} {f : Str} {fs : List (Str × V)} {v : V} {n m : Nat}
theorem ev_fl (ha : Ev ta σ H (.ref a)) (ho : H a = some (.ins C dx fs)) (hC : Cls K C) (hn : NoAttr K C f) (hl : fs.lookup f = some v) : Ev (tFld K ta f) σ H v := fun H1 e Q q =>
  ha H1 e _ fun H2 e2 => ⟨a, C, dx, fs, v, rfl, e2 _ _ (e _ _ ho), hC, hn, hl, q H2 e2⟩
end
section
variable {K : PySem.W.Frag} {G G' H H' : Hp} {L : List (Addr × HO)} {σ : L2.St} {ta te ti : TE} {D : Ends} {tz : TS} {a C dx : Addr} {f : Str} {fs : List (Str × V)} {v : V} {n m : Nat}
theorem q_unp {g : Addr} {xs : List V} {k : Nat} {t : TGs} (h : Ev te σ H (.ref g)) (hx : SqT K H g xs) (hn : xs.length = k) (q : ∀ H1, Ex H H1 → t xs σ H1 fun σ' H' => tz D σ' H') : tSeq (tAsg te (gTup K k t)) tz D σ H := h H (Ex.refl _) _ fun H1 e1 => ⟨g, xs, rfl, ex_t e1 hx, hn, q H1 e1⟩
end
section
variable {K : PySem.W.Frag} {G G' H H' : Hp} {L : List (Addr × HO)} {σ : L2.St} {ta te ti : TE} {D : Ends} {tz : TS} {a C dx : Addr} {f : Str} {fs : List (Str × V)} {v : V} {n m : Nat}
theorem s_fld (o : Own G H L) (n : Nat) (h : L[n]? = some (a, .ins C dx fs)) (he : Ev te σ H v) (ha : Ev ta σ H (.ref a)) (hC : Cls K C) (hn : NoAttr K C f) (hl : fs.length < 1000) (k : ∀ H1, Own G H1 (L.set n (a, .ins C dx (putF f v fs))) → D.nx σ H1) : sFld K ta te f D σ H :=
  he H (Ex.refl _) _ fun H1 e1 => ha H1 e1 _ fun H2 e2 => ⟨a, C, dx, fs, rfl, (e1.trans e2) _ _ (oi n o h), hC, hn, hl, k _ (own_set (o.same (e1.trans e2)) h)⟩
end
section
variable {K : PySem.W.Frag} {G G' H H' : Hp} {L : List (Addr × HO)} {σ : L2.St} {ta te ti : TE} {D : Ends} {tz : TS} {a C dx : Addr} {f : Str} {fs : List (Str × V)} {v : V} {n m : Nat}
theorem q_fld (o : Own G H L) (n : Nat) (h : L[n]? = some (a, .ins C dx fs)) (he : Ev te σ H v) (ha : Ev ta σ H (.ref a)) (hC : Cls K C) (hn : NoAttr K C f) (hl : fs.length < 1000) (k : ∀ H1, Own G H1 (L.set n (a, .ins C dx (putF f v fs))) → tz D σ H1) : tSeq (sFld K ta te f) tz D σ H := s_fld (D := { D with nx := tz D }) o n h he ha hC hn hl k
end
section
variable {K : PySem.W.Frag} {G G' H H' : Hp} {L : List (Addr × HO)} {σ : L2.St} {ta te ti : TE} {D : Ends} {tz : TS} {a C dx : Addr} {f : Str} {fs : List (Str × V)} {v : V} {n m : Nat}
theorem q_fldL {xs : List V} (o : Own G H L) (n : Nat) (h : L[n]? = some (a, .ins C dx fs)) (he : EvL te σ H xs) (ha : Ev ta σ H (.ref a)) (hC : Cls K C) (hn : NoAttr K C f) (hl : fs.length < 1000) (k : ∀ p H1, Own G H1 ((p, .lst xs) :: L.set n (a, .ins C dx (putF f (.ref p) fs))) → tz D σ H1) : tSeq (sFld K ta te f) tz D σ H :=
  he H (Ex.refl _) _ fun p H1 np e1 hp => ha H1 e1 _ fun H2 e2 => ⟨a, C, dx, fs, rfl, (e1.trans e2) _ _ (oi n o h), hC, hn, hl, k p _ (own_set (n := n + 1) ((own_add o e1 np hp).same e2) h)⟩
end
section
variable {K : PySem.W.Frag} {G G' H H' : Hp} {L : List (Addr × HO)} {σ : L2.St} {ta te ti : TE} {D : Ends} {tz : TS} {a C dx : Addr} {f : Str} {fs : List (Str × V)} {v : V} {n m : Nat}
theorem s_faug {x y : Int} (o : Own G H L) (n : Nat) (h : L[n]? = some (a, .ins C dx fs)) (ha : Ev ta σ H (.ref a)) (hC : Cls K C) (hn : NoAttr K C f) (hf : fs.lookup f = some (.int x)) (he : Ev te σ H (.int y)) (hl : fs.length < 1000) (k : ∀ H1, Own G H1 (L.set n (a, .ins C dx (putF f (.int (x + y)) fs))) → D.nx σ H1) : sFldAug K ta te rAdd f D σ H :=
  ha H (Ex.refl _) _ fun H1 e1 => ⟨a, C, dx, fs, _, rfl, e1 _ _ (oi n o h), hC, hn, hf, he H1 e1 _ fun H2 e2 => ⟨x, y, rfl, rfl, dx, fs, (e1.trans e2) _ _ (oi n o h), hl, k _ (own_set (o.same (e1.trans e2)) h)⟩⟩
end
section
variable {K : PySem.W.Frag} {G G' H H' : Hp} {L : List (Addr × HO)} {σ : L2.St} {ta te ti : TE} {D : Ends} {tz : TS} {a C dx : Addr} {f : Str} {fs : List (Str × V)} {v : V} {n m : Nat}
theorem q_faug {x y : Int} (o : Own G H L) (n : Nat) (h : L[n]? = some (a, .ins C dx fs)) (ha : Ev ta σ H (.ref a)) (hC : Cls K C) (hn : NoAttr K C f) (hf : fs.lookup f = some (.int x)) (he : Ev te σ H (.int y)) (hl : fs.length < 1000) (k : ∀ H1, Own G H1 (L.set n (a, .ins C dx (putF f (.int (x + y)) fs))) → tz D σ H1) : tSeq (sFldAug K ta te rAdd f) tz D σ H := s_faug (D := { D with nx := tz D }) o n h ha hC hn hf he hl k
end
section
variable {K : PySem.W.Frag} {G G' H H' : Hp} {L : List (Addr × HO)} {σ : L2.St} {ta te ti : TE} {D : Ends} {tz : TS} {a C dx : Addr} {f : Str} {fs : List (Str × V)} {v : V} {n m : Nat}
theorem s_fldL {xs : List V} (o : Own G H L) (n : Nat) (h : L[n]? = some (a, .ins C dx fs)) (he : EvL te σ H xs) (ha : Ev ta σ H (.ref a)) (hC : Cls K C) (hn : NoAttr K C f) (hl : fs.length < 1000) (k : ∀ p H1, Own G H1 ((p, .lst xs) :: L.set n (a, .ins C dx (putF f (.ref p) fs))) → D.nx σ H1) : sFld K ta te f D σ H :=
  he H (Ex.refl _) _ fun p H1 np e1 hp => ha H1 e1 _ fun H2 e2 => ⟨a, C, dx, fs, rfl, (e1.trans e2) _ _ (oi n o h), hC, hn, hl, k p _ (own_set (n := n + 1) ((own_add o e1 np hp).same e2) h)⟩
end
section
variable {K : PySem.W.Frag} {G G' H H' : Hp} {L : List (Addr × HO)} {σ : L2.St} {ta te ti : TE} {D : Ends} {tz : TS} {a C dx : Addr} {f : Str} {fs : List (Str × V)} {v : V} {n m : Nat}
theorem s_appO {p : Addr} {xs : List V} (o : Own G H L) (m : Nat) (h : L[m]? = some (p, .lst xs)) (ha : Ev ta σ H (.ref p)) (he : Ev te σ H v) (hz : xs.length < 100000) (k : ∀ H1, Own G H1 (L.set m (p, .lst (xs ++ [v]))) → D.nx σ H1) :
    tDrop (tBM K "list" rAppend ta (tCons te tNil)) D σ H := s_app (oi2 m o h) ha he hz fun H1 e1 => k _ (own_set (o.same e1) h)
end
section
variable {K : PySem.W.Frag} {G G' H H' : Hp} {L : List (Addr × HO)} {σ : L2.St} {ta te ti : TE} {D : Ends} {tz : TS} {a C dx : Addr} {f : Str} {fs : List (Str × V)} {v : V} {n m : Nat}
theorem q_appO {p : Addr} {xs : List V} (o : Own G H L) (m : Nat) (h : L[m]? = some (p, .lst xs)) (ha : Ev ta σ H (.ref p)) (he : Ev te σ H v) (hz : xs.length < 100000) (k : ∀ H1, Own G H1 (L.set m (p, .lst (xs ++ [v]))) → tz D σ H1) :
    tSeq (tDrop (tBM K "list" rAppend ta (tCons te tNil))) tz D σ H := q_app (oi m o h) ha he hz fun H1 e1 => k _ (own_set (o.same e1) h)
end
section
variable {K : PySem.W.Frag} {G G' H H' : Hp} {F L : List (Addr × HO)} {σ : L2.St} {ta te tl : TE} {t : TT}
theorem plan_mono {p : Addr} {R B T : List PyData} (e : Same G G') (h : PlanAt K G p R B T) : PlanAt K G' p R B T := by
  obtain ⟨dx, r1, r2, r3, x1, x2, x3, h0, ⟨h1, d1⟩, ⟨h2, d2⟩, h3, d3⟩ := h
  exact ⟨dx, r1, r2, r3, x1, x2, x3, e _ _ h0, ⟨e _ _ h1, daM e d1⟩, ⟨e _ _ h2, daM e d2⟩, e _ _ h3, daM e d3⟩
end
section
variable {P : Program} {w : World} {K : PySem.W.Frag} {mg : Str → Option Value} {base : Heap}
theorem ev_dget {td ty : TE} {σ : L2.St} {H : Hp} {a : Addr} {kvs : List (L2.Key × V)} {kk : L2.Key} {v : V} (h1 : Ev td σ H (.ref a)) (h2 : Ev ty σ H (kV kk)) (hH : H a = some (.dK kvs)) (hv : valV kvs kk = some v) : Ev (tDGet td ty) σ H v := fun H1 e Q q =>
  h1 H1 e _ fun H2 e2 => h2 H2 (e.trans e2) _ fun H3 e3 => ⟨a, v, rfl, by rw [← hv]; exact DGet.k (((e.trans e2).trans e3) _ _ hH), q H3 (e2.trans e3)⟩
end
section
variable {P : Program} {w : World} {K : PySem.W.Frag} {mg : Str → Option Value} {base : Heap}
theorem s_make {C : Addr} {sp : Sp} {E : XK} {ta : TA} {i : Nat} {D : Ends} {σ : L2.St} {H : Hp} {vs : List V} (ha : EvA ta σ H vs) (kk : ∀ H1 x dx, Ex H H1 → H1 x = none → H1 dx = none → dx ≠ x → sp (.ref x :: (vs ++ [])) (upd (upd H1 dx (.own x)) x (.ins C dx [])) (fun v H2 => v = .non ∧ D.nx (σ.set i (some (.ref x))) H2) E) : tAsg (tMake C sp [] E ta) (gName i) D σ H :=
  ha H (Ex.refl _) _ fun H1 e1 => fun x dx n1 n2 n3 => kk H1 x dx e1 n1 n2 n3
end
section
variable {P : Program} {w : World} {K : PySem.W.Frag} {mg : Str → Option Value} {base : Heap}
theorem ev_isN {te : TE} {σ : L2.St} {H : Hp} {v : V} (h : Ev te σ H v) : Ev (tIsN te) σ H (.bl (decide (v = .non))) := fun H1 e Q q => h H1 e _ fun H2 e2 => q H2 e2
end
section
variable {P : Program} {w : World} {K : PySem.W.Frag} {mg : Str → Option Value} {base : Heap}
theorem q_make {C : Addr} {sp : Sp} {E : XK} {ta : TA} {i : Nat} {tz : TS} {D : Ends} {σ : L2.St} {H : Hp} {vs : List V} (ha : EvA ta σ H vs) (kk : ∀ H1 x dx, Ex H H1 → H1 x = none → H1 dx = none → dx ≠ x → sp (.ref x :: (vs ++ [])) (upd (upd H1 dx (.own x)) x (.ins C dx [])) (fun v H2 => v = .non ∧ tz D (σ.set i (some (.ref x))) H2) E) : tSeq (tAsg (tMake C sp [] E ta) (gName i)) tz D σ H := s_make (D := { D with nx := tz D }) ha kk
end
section
variable {P : Program} {w : World} {K : PySem.W.Frag} {mg : Str → Option Value} {base : Heap}
theorem ev_k {σ : L2.St} {H : Hp} {v : V} : Ev (fun _ H Q => Q v H) σ H v := fun H1 _ Q q => q H1 (Ex.refl _)
end
section

theorem pm_of {l1 l2 : List (Addr × HO)} (h : ∀ (b : BEq (Addr × HO)) (x : Addr × HO), @List.count _ b x l1 = @List.count _ b x l2) : l1.Perm l2 := by
  classical
  rw [List.perm_iff_count]
  exact fun x => h _ x
end
section
variable {P : Program} {w : World} {K : PySem.W.Frag} {mg : Str → Option Value} {base : Heap}
theorem ev_niN {te tl : TE} {σ : L2.St} {H : Hp} {v : V} {xs : List V} (h : Ev te σ H v) (hv : flatV v = true) (hx : xs.all flatV = true) (hl : EvL tl σ H xs) : Ev (tOp (rIn K true) te tl) σ H (.bl (!inV v xs)) := fun H1 e1 Q q =>
  h H1 e1 _ fun H2 e2 => hl H2 (e1.trans e2) _ fun p H3 np e3 hp => rv_niL (sq_of hp) hv hx H3 (Ex.refl _) _ fun H4 e4 => q H4 (e2.trans (e3.trans e4))
end
section
variable {w : World} {K : PySem.W.Frag} {mg : Str → Option Value}
theorem bd_Plan_init (T : Txt w K mg) : ∃ ds, Vals [V.ref (kwAt ("Plan", some "__init__") "bottoms" K), V.ref (kwAt ("Plan", some "__init__") "threads" K)] ds ∧ Binds K (fdAt K (f_Plan_init K)) ["self", "lines", "bottoms", "threads"] ds :=
  FunD.binds0 (df_Plan_init T) 2 (by simp) rfl fun D doc pm an cdv ct us ks hu hk => match us, ks, hu, hk with
    | [_, _], [_, _], _, _ => ⟨_, _, _, _, _, _, rfl, rfl, _, _, _, _, _, _, rfl, rfl, rfl⟩
end
section
variable {w : World} {K : PySem.W.Frag} {mg : Str → Option Value}
theorem kb_Plan (T : Txt w K mg) : ∃ _mv : List Value, KBn K (fdAt K (f_Plan_init K)) ["self", "lines", "bottoms", "threads"] 2 ["bottoms", "threads"] (fun us ws => us ++ ws) (fun vs zs => vs ++ zs) :=
  FunD.kbinds0 (df_Plan_init T) 2 ["bottoms", "threads"] [] (fun us _ ws => us ++ ws) (by simp) (by simp) (fun h1 _ h3 => h1.append h3) fun D doc pm an cdv ct us mv ws hu hm hw => match us, mv, ws, hu, hm, hw with
    | [_, _], [], [_, _], _, _, _ => rfl
end
end KW
end
section
set_option Elab.async false
set_option linter.all false
set_option autoImplicit false
set_option maxRecDepth 100000
set_option maxHeartbeats 1000000
/-! texts.py: steps_text -/
namespace KW
open PySem PySem.Spec PyProof.Rows L2 He KR Evl
local macro_rules
  | `(tactic| walk_at "na") => `(tactic| with_reducible (first | exact cl_Line (by assumption) | exact cl_Job (by assumption) | exact cl_Engine (by assumption) | exact cl_Plan (by assumption) | exact cl_Run (by assumption) | exact cl_Bench (by assumption) | exact na_Line_name (by assumption) | exact na_Line_rank (by assumption) | exact na_Line_is_up (by assumption) | exact na_Line_guard (by assumption) | exact na_Line_top (by assumption) | exact na_Line_let_by (by assumption) | exact na_Line_shut_till (by assumption) | exact na_Line_since (by assumption) | exact na_Line_fresh (by assumption) | exact na_Line_counts (by assumption) | exact na_Line_longest (by assumption) | exact na_Job_word (by assumption) | exact na_Job_name (by assumption) | exact na_Job_rank (by assumption) | exact na_Job_steps (by assumption) | exact na_Job_masks_then (by assumption) | exact na_Job_at (by assumption) | exact na_Job_left (by assumption) | exact na_Engine_plan (by assumption) | exact na_Engine_ways (by assumption) | exact na_Engine_tops (by assumption) | exact na_Engine_bottom (by assumption) | exact na_Engine_put_off (by assumption) | exact na_Engine_woken (by assumption) | exact na_Engine_begun (by assumption) | exact na_Engine_depth (by assumption) | exact na_Engine_now (by assumption) | exact na_Engine_row (by assumption) | exact na_Engine_depths (by assumption) | exact na_Engine_last_begun (by assumption) | exact na_Plan_row (by assumption) | exact na_Plan_low (by assumption) | exact na_Plan_late (by assumption) | exact na_Run_row (by assumption) | exact na_Run_depths (by assumption) | exact na_Run_table (by assumption) | exact na_Run_longest (by assumption) | exact na_Bench_engine (by assumption) | exact na_Bench_fresh (by assumption) | exact na_Bench_told_so_far (by assumption) | exact na_Bench_rows (by assumption)))
local macro_rules
  | `(tactic| walk_at "oi") => `(tactic| first | assumption | exact oi2 0 (by assumption) rfl | exact oi2 1 (by assumption) rfl | exact oi2 2 (by assumption) rfl | exact oi2 3 (by assumption) rfl | exact oi2 4 (by assumption) rfl | exact oi2 5 (by assumption) rfl | exact oi2 6 (by assumption) rfl | exact oi2 7 (by assumption) rfl | exact oi2 8 (by assumption) rfl)
local macro_rules
  | `(tactic| walk_at "ev") => `(tactic| repeat' (first
    | exact ev_c | exact ev_var rfl | exact ea_nil | exact rv_I0 | exact ru_neg | exact eo_none
    | exact rv_eq rfl | exact rv_ne rfl
    | exact rv_ixT (by assumption) (by rfl) | exact rv_ixL (by assumption) (by rfl)
    | exact sv_q (by assumption) (by assumption) | exact sv_within (by assumption)
    | exact Or.inr (by assumption) | exact Or.inl (by assumption) | (show (_ : String) ∈ _; decide)
    | with_reducible (first | apply ev_isi | apply ev_lenS | apply ev_if' | apply et_test | apply et_B | apply et_not | apply et_and | apply et_or | apply ev_andV | apply ev_orV | apply ev_notV | apply ea_cons | apply eo_some | apply ev_fl | apply ev_op | apply ev_un | apply ev_call)
    | walk_at "na" | walk_at "oi" | (show List.lookup _ _ = _; rfl)
    | assumption
    | (with_reducible intro hh; first | exact absurd (show true = false from hh) (by decide) | exact absurd (show false = true from hh) (by decide) | clear hh)))

section
variable {P : Program} {w : World} {K : PySem.W.Frag} {mg : Str → Option Value} {base : Heap}
theorem pe_joinK {X : Cx} {K : PySem.W.Frag} (hK : X.K = K) {o e : Expr} {to te : TE} {apos pos : Pos} (ho : PE X o to) (he : PE X e te) (hs : starEach [e] X.env = [(false, eval e X.env)] := by rfl) (hbase : attributeBase o "join" X.env (eval o X.env) = eval o X.env := by rfl) (hline : (apos.endLine == pos.line) = true := by rfl) :
    PE X (.Call (.Attribute o "join" apos) [e] [] pos) (tM1 (fun x xs H Q => ∃ a p, ∃ ys : List Str, x = .str a ∧ xs = [.ref p] ∧ (SqL K H p (ys.map V.str) ∨ SqT K H p (ys.map V.str)) ∧ (ys.map (·.length)).sum + ys.length * a.length ≤ 16777216 ∧ Q (.str (Txt.join a ys)) H) to te) := hK ▸ pe_join ho he hs hbase hline
def rStrV : List V → Hp → VK → Prop := fun xs H Q => (∃ a, xs = [.str a] ∧ Q (.str a) H) ∨ ∃ i : Int, xs = [.int i] ∧ i.natAbs.log2 < 1920 ∧ Q (.str (toString i)) H
theorem call_strV {X : Cx} : CallR X (.type "str") rStrV := fun pins s σ H xs us Q I r h => h.elim (fun h => SkE.call_str_str pins s σ H xs us Q I r h) fun h => call_str_int pins s σ H xs us Q I r h
/-- a word's text -/
def wordT : PyData → Str
  | .str x => x
  | .int i => toString i
  | _ => ""
def elemsD : PyData → List PyData
  | .tuple ds => ds
  | _ => []
def stepT (s : PyData) : Str := Txt.join " " ((elemsD s).map wordT)
def stepsT (ss : List PyData) : Str := Txt.join ", " (ss.map stepT)
theorem ev_join {to te : TE} {σ : L2.St} {H : Hp} {a : Str} {ys : List Str} (ha : Ev to σ H (.str a)) (hl : EvL te σ H (ys.map V.str)) (hz : (ys.map (·.length)).sum + ys.length * a.length ≤ 16777216) :
    Ev (tM1 (fun x xs H Q => ∃ a p, ∃ ys : List Str, x = .str a ∧ xs = [.ref p] ∧ (SqL K H p (ys.map V.str) ∨ SqT K H p (ys.map V.str)) ∧ (ys.map (·.length)).sum + ys.length * a.length ≤ 16777216 ∧ Q (.str (Txt.join a ys)) H) to te) σ H (.str (Txt.join a ys)) := fun H1 e Q q =>
  ha H1 e _ fun H2 e2 => ⟨⟨a, rfl⟩, hl H2 (e.trans e2) _ fun p H3 np e3 hp => ⟨a, p, ys, rfl, rfl, .inl (sq_of hp), hz, q H3 (e2.trans e3)⟩⟩
theorem ev_strV {te : TE} {σ : L2.St} {H : Hp} {x : V} {d : PyData} (h : Ev te σ H x) (hd : Dp K H x d) (hw : (∃ s, d = .str s) ∨ ∃ i : Int, d = .int i ∧ i.natAbs.log2 < 1920) : Ev (tCB rStrV (tCons te tNil)) σ H (.str (wordT d)) := fun H1 e Q q => by
  rcases hw with ⟨s, rfl⟩ | ⟨i, rfl, hi⟩
  · rw [dpS hd] at h
    exact h H1 e _ fun H2 e2 => .inl ⟨s, rfl, q H2 e2⟩
  · rw [dpI hd] at h
    exact h H1 e _ fun H2 e2 => .inr ⟨i, rfl, hi, q H2 e2⟩
/-- a step's words -/
theorem step_words {s : PyData} (h : isStepD s = true) : ∃ ds, s = .tuple ds ∧ 1 ≤ ds.length ∧ ds.length ≤ 2 ∧ ∀ d ∈ ds, ((∃ x, d = .str x) ∨ ∃ i : Int, d = .int i ∧ i.natAbs.log2 < 1920) ∧ (wordT d).length ≤ 8 := by
  have hw := step_word h
  obtain ⟨r, e⟩ := wordD_get h
  have h8 : (wordT (.str (wordD s))).length ≤ 8 := by
    show (wordD s).length ≤ 8
    rcases hw with h | h | h | h | h | h <;> rw [h] <;> decide
  have hr : isStepW (wordD s) r = true := by
    have := h
    rw [e] at this
    exact this
  refine ⟨_, e, by simp, ?_, fun d hd => ?_⟩
  · unfold isStepW at hr
    split at hr
    · rw [List.isEmpty_iff.mp hr]
      show (1 : Nat) ≤ 2
      decide
    · match r, hr with
      | [x], _ => exact Nat.le_refl _
  · rcases List.mem_cons.mp hd with rfl | hd
    · exact ⟨.inl ⟨_, rfl⟩, h8⟩
    · unfold isStepW at hr
      split at hr
      · rw [List.isEmpty_iff.mp hr] at hd
        cases hd
      · match r, hr, hd with
        | [x], hr, hd =>
          rw [List.mem_singleton.mp hd]
          dsimp only at hr
          split at hr
          · obtain ⟨n, rfl, a1, a2⟩ := within_inv hr
            have : ∀ k : Fin 10, ((k.val : Int).natAbs.log2 < 1920) ∧ ((toString (k.val : Int) : String) : Str).length ≤ 8 := by decide +kernel
            have z := this ⟨n.toNat, by omega⟩
            have e : ((n.toNat : Nat) : Int) = n := by omega
            rw [show (((⟨n.toNat, by omega⟩ : Fin 10).val : Nat) : Int) = n from e] at z
            exact ⟨.inr ⟨n, rfl, z.1⟩, z.2⟩
          · obtain ⟨_, hn⟩ := band hr
            cases x with
            | str x => exact ⟨.inl ⟨x, rfl⟩, by
                have hn : isNameS x = true := hn
                unfold isNameS at hn
                obtain ⟨hn, _⟩ := band hn
                obtain ⟨_, hn⟩ := band hn
                have hn := of_decide_eq_true hn
                show x.length ≤ 8
                omega⟩
            | _ => cases hn
theorem sum_le {c : Nat} : ∀ {ys : List Str}, (∀ y ∈ ys, y.length ≤ c) → (ys.map (·.length)).sum ≤ ys.length * c
  | [], _ => Nat.zero_le _
  | y :: ys, h => by
    have ih := sum_le fun z hz => h z (List.mem_cons_of_mem _ hz)
    have h1 := h y (List.mem_cons_self ..)
    simp only [List.map_cons, List.sum_cons, List.length_cons, Nat.succ_mul]
    omega
theorem stepT_len {s : PyData} (h : isStepD s = true) : (stepT s).length ≤ 17 := by
  obtain ⟨ds, rfl, l1, l2, hw⟩ := step_words h
  have hs : (TL.tl (Str.ofString " ")).length = 1 := by decide
  have hj : (stepT (.tuple ds)).length = (TL.joinL (TL.tl (Str.ofString " ")) ((ds.map wordT).map TL.tl)).length := by
    show (Txt.join _ _).length = _
    rw [TL.len_tl, TL.join_eq, TL.tl_join]
    rfl
  rw [hj]
  match ds, l1, l2, hw with
  | [a], _, _, hw =>
    have h1 := (hw a (by simp)).2
    rw [TL.len_tl] at h1
    show (TL.tl (wordT a)).length ≤ 17
    omega
  | [a, b], _, _, hw =>
    have h1 := (hw a (by simp)).2
    have h2 := (hw b (by simp)).2
    rw [TL.len_tl] at h1 h2
    show (TL.tl (wordT a) ++ (TL.tl (Str.ofString " ") ++ TL.tl (wordT b))).length ≤ 17
    rw [List.length_append, List.length_append, hs]
    omega
end
end KW
end
section
set_option Elab.async false
set_option linter.all false
set_option autoImplicit false
set_option maxRecDepth 100000
set_option maxHeartbeats 1000000
/-! f-strings by parts; lengths -/
namespace KW
open PySem PySem.Spec PyProof.Rows L2 He KR Evl
section
variable {σ : L2.St} {H : Hp} {t te : TE} {ts : List TE} {acc out y : Str}
theorem s_len (x y : Str) : (x ++ y).length = x.length + y.length := by
  rw [TL.len_tl, TL.tl_append, List.length_append, ← TL.len_tl, ← TL.len_tl]
def EvJs (ts : List TE) (acc : Str) (σ : L2.St) (H : Hp) (out : Str) : Prop := acc.length ≤ out.length ∧ (out.length ≤ 100000 → ∀ H1, Ex H H1 → ∀ Q : Str → Hp → Prop, (∀ H2, Ex H1 H2 → Q out H2) → tJs ts acc σ H1 Q)
theorem ej_nil : EvJs [] acc σ H acc := ⟨Nat.le_refl _, fun _ H1 e Q q => q H1 (Ex.refl _)⟩
theorem ej_cons (h : Ev t σ H (.str y)) (r : EvJs ts (acc ++ y) σ H out) : EvJs (t :: ts) acc σ H out := ⟨by have := r.1; rw [s_len] at this; omega, fun hz H1 e Q q => h H1 e _ fun H2 e2 => ⟨y, rfl, sz_of (Nat.le_trans r.1 hz), r.2 hz H2 (e.trans e2) _ fun H3 e3 => q H3 (e2.trans e3)⟩⟩
theorem ev_joined (r : EvJs ts Str.empty σ H out) (hz : out.length ≤ 100000) : Ev (fun σ H Q => tJs ts Str.empty σ H fun out H1 => Q (.str out) H1) σ H (.str out) := fun H1 e Q q => r.2 hz H1 e _ q
theorem ev_fmtS (h : Ev te σ H (.str y)) (hz : y.length ≤ 100000) : Ev (tFmt te) σ H (.str y) := fun H1 e Q q => h H1 e _ fun H2 e2 => .inl ⟨y, rfl, sz_of hz, q H2 e2⟩
theorem ev_fmtI {i : Int} (h : Ev te σ H (.int i)) (hi : i.natAbs.log2 < 1920) : Ev (tFmt te) σ H (.str (toString i)) := fun H1 e Q q => h H1 e _ fun H2 e2 => .inr ⟨i, rfl, hi, q H2 e2⟩
end
theorem int_small {n : Int} (h0 : 0 ≤ n) (h1 : n ≤ 99) : n.natAbs.log2 < 1920 ∧ ((toString n : String) : Str).length ≤ 3 := by
  have key : ∀ k : Fin 100, ((k.val : Int).natAbs.log2 < 1920) ∧ ((toString (k.val : Int) : String) : Str).length ≤ 3 := by decide +kernel
  have z := key ⟨n.toNat, by omega⟩
  have e : ((n.toNat : Nat) : Int) = n := by omega
  rw [show (((⟨n.toNat, by omega⟩ : Fin 100).val : Nat) : Int) = n from e] at z
  exact z
theorem joinL_len (S : List Nat) : ∀ ps : List (List Nat), (TL.joinL S ps).length ≤ (ps.map List.length).sum + ps.length * S.length
  | [] => Nat.zero_le _
  | [p] => by show p.length ≤ _; simp only [List.map_cons, List.map_nil, List.sum_cons, List.sum_nil]; omega
  | p :: q :: r => by
    have ih := joinL_len S (q :: r)
    show (p ++ (S ++ TL.joinL S (q :: r))).length ≤ _
    rw [List.length_append, List.length_append]
    simp only [List.map_cons, List.sum_cons, List.length_cons, Nat.succ_mul] at ih ⊢
    omega
theorem join_len (x : Str) (ys : List Str) : (Txt.join x ys).length ≤ (ys.map (·.length)).sum + ys.length * x.length := by
  have h := joinL_len (TL.tl x) (ys.map TL.tl)
  rw [← TL.tl_join, ← TL.join_eq, ← TL.len_tl, List.map_map, List.length_map, ← TL.len_tl] at h
  have e : ys.map (List.length ∘ TL.tl) = ys.map (·.length) := List.map_congr_left fun y _ => (TL.len_tl y).symm
  rw [e] at h
  exact h
theorem stepsT_len {ss : List PyData} (h : ∀ s ∈ ss, isStepD s = true) (hl : ss.length ≤ 12) : (stepsT ss).length ≤ 300 := by
  have b := sum_le (c := 17) (ys := ss.map stepT) fun y hy => by
    obtain ⟨s, hs2, rfl⟩ := List.mem_map.mp hy
    exact stepT_len (h s hs2)
  have j := join_len (Str.ofString ", ") (ss.map stepT)
  rw [List.length_map] at b j
  have e : (Str.ofString ", ").length = 2 := by decide
  rw [e] at j
  show (Txt.join _ _).length ≤ 300
  omega
theorem nameS_len {x : Str} (h : isNameS x = true) : x.length ≤ 8 := by
  unfold isNameS at h
  obtain ⟨hn, _⟩ := band h
  obtain ⟨_, hn⟩ := band hn
  have hn := of_decide_eq_true hn
  omega
end KW
end
section
set_option Elab.async false
set_option linter.all false
set_option autoImplicit false
set_option maxRecDepth 100000
set_option maxHeartbeats 1000000
/-! comprehensions with any target, values as such; extend -/
namespace KW
open PySem PySem.Spec PyProof.Rows L2 He KR Evl
section
variable {K : PySem.W.Frag}
theorem el_lcG {tl te : TE} {g : TG} {vs : List Nat} {σ : L2.St} {H : Hp} {a : Addr} {xs : List V} {ds : List PyData} (f : PyData → V) (h : Ev tl σ H (.ref a)) (hx : SqL K H a xs) (hd : DpAll K H xs ds) (hz : xs.length ≤ 1000)
    (hs : ∀ (x : V) (d : PyData) (H' : Hp) (R : L2.St → Hp → Prop), d ∈ ds → Dp K H' x d → (∀ σ2, wipe σ2 vs = wipe σ vs → Ev te σ2 H' (f d) → R σ2 H') → g x (wipe σ vs) H' R) : EvL (tLc (iList K tl) g tYes te vs) σ H (ds.map f) := fun H0 e Q q => by
  have hlen := dpLen hd
  refine h H0 e _ fun H1 e1 => ⟨a, rfl, ⟨xs, ex_l (e.trans e1) hx⟩, fun D hD => ?_⟩
  refine lc_own (fun i acc G => acc = (ds.take i).map f) hD (ex_l (e.trans e1) hx) (by omega) rfl (fun i x G H' acc hxi hi sG hacc hA oD => ?_) (fun G H' acc sG oD hacc hA => ?_)
  · obtain ⟨d, h1, h2⟩ := daG hd hxi
    refine hs x d H' _ (List.mem_of_getElem? h1) (dpM ((e.trans e1).trans (sG.trans oD.sub)) h2) fun σ2 hw hE => ⟨hw, ?_⟩
    refine hE H' (Ex.refl _) _ fun H3 e3 => ?_
    refine add_l sG (oD.same e3) hacc hi ?_
    rw [List.take_add_one, h1, hA]
    simp only [Option.toList_some, List.map_append, List.map_cons, List.map_nil]
  · have hT : (ds.take xs.length) = ds := List.take_of_length_le (by omega)
    rw [hT] at hA
    subst hA
    exact q D H' (fresh_back e1 hD) (e1.trans (sG.trans oD.sub)) (oD.at_ _ (List.mem_cons_self ..))
theorem q_extL {te : TE} {i : Nat} {tz : TS} {D : Ends} {σ : L2.St} {G H : Hp} {L : List (Addr × HO)} {p : Addr} {xs ys : List V} (h1 : σ[i]? = some (some (.ref p))) (o : Own G H ((p, .lst xs) :: L)) (he : EvL te σ H ys) (hz : xs.length + ys.length ≤ 100000)
    (k : ∀ H2, Own G H2 ((p, .lst (xs ++ ys)) :: L) → tz D σ H2) : tSeq (tDrop (tBM K "list" rExtend (tVar i) (tCons te tNil))) tz D σ H :=
  ⟨.ref p, h1, ⟨.inl ⟨rfl, xs, sq_of (oi2 0 o rfl)⟩, he H (Ex.refl _) _ fun b H2 nb e2 hb => ⟨p, b, xs, ys, rfl, rfl, e2 _ _ (oi2 0 o rfl), hb, sz_of hz, k _ (own_set (n := 0) (ob := .lst xs) (o.same e2) rfl)⟩⟩⟩
end
end KW
end
section
set_option Elab.async false
set_option linter.all false
set_option autoImplicit false
set_option maxRecDepth 100000
set_option maxHeartbeats 1000000
/-! numbers of words, plainly -/
namespace KW
open PySem PySem.Spec PyProof.Rows PySem.Builtin PySem.Builtin.Str
def digs : Str := "0123456789"
theorem strip_goes {g : Nat → Bool} {x : Str} (h : Txt.stripBy g true true x = Str.empty) : ∀ c ∈ x.cps.toList, g c = true := by
  rw [stripBy_eq] at h
  obtain ⟨a1, a2, a3⟩ := lo_facts g x
  obtain ⟨b1, b2, b3, b4⟩ := hi_facts g x (stripLo g true x) a1
  have hl : (strSub x (stripLo g true x) (stripHi g true x (stripLo g true x))).length = stripHi g true x (stripLo g true x) - stripLo g true x := by
    rw [strSub_mk]
    simp only [Str.length, List.size_toArray, List.length_take, List.length_drop, Array.length_toList]
    have : x.cps.size = x.length := rfl
    omega
  rw [h] at hl
  have he : Str.empty.length = 0 := rfl
  intro c hc
  obtain ⟨k, hk, rfl⟩ := List.mem_iff_getElem.mp hc
  have hk2 : k < x.length := by simpa [Str.length] using hk
  have e : x.cps.getD k 0 = x.cps.toList[k] := by rw [← getD_list, List.getD_eq_getElem?_getD, List.getElem?_eq_getElem hk]; rfl
  have z : g (x.cps.getD k 0) = true := by
    by_cases h1 : k < stripLo g true x
    · exact a2 k h1
    · exact b3 k (by omega) hk2
  rw [e] at z
  exact z
theorem strip_digits {x : Str} (h : Txt.stripChars x digs = Str.empty) : NumText.AllDigits x.cps.toList := fun c hc => by
  have z := strip_goes h c hc
  have z2 : c ∈ digs.cps.toList := by simpa using z
  have e : digs.cps.toList = [48, 49, 50, 51, 52, 53, 54, 55, 56, 57] := by decide +kernel
  rw [e] at z2
  simp only [List.mem_cons, List.not_mem_nil, or_false] at z2
  omega
/-- the number of a word -/
def numM (x : Str) : Option Int :=
  if x = Str.empty then none else
  if 4 < x.length then none else
  if Txt.stripChars x digs = Str.empty then
    if x.cps.getD 0 0 = 48 ∧ x ≠ "0" then none else some ((NumText.digitsVal x.cps.toList : Nat) : Int)
  else none
def numD : Option Int → PyData
  | some i => .int i
  | none => .none
end KW
end
section

set_option Elab.async false
set_option linter.all false
set_option autoImplicit false
set_option maxRecDepth 100000
set_option maxHeartbeats 1000000
/-! what is told anew: data of new objects alone -/
namespace KW
open PySem PySem.Spec PyProof.Rows L2 He KR Evl
/-- what stands in the later heap alone -/
def dif (H H' : Hp) : Hp := fun a => match H a with
  | none => H' a
  | some _ => none
theorem dif_at {H H' : Hp} {a : Addr} {o : HO} (h : H a = none) (h2 : H' a = some o) : dif H H' a = some o := by
  unfold dif
  rw [h]
  exact h2
theorem dif_out {H H' : Hp} {a : Addr} {o : HO} (h : dif H H' a = some o) : H a = none ∧ H' a = some o := by
  unfold dif at h
  split at h
  · exact ⟨by assumption, h⟩
  · cases h
theorem dif_same {H H' : Hp} : Same (dif H H') H' := fun a o h => (dif_out h).2
theorem dif_l {H H1 H2 : Hp} (e : Ex H1 H2) : Same (dif H H1) (dif H H2) := fun a o h => dif_at (dif_out h).1 (e _ _ (dif_out h).2)
theorem dif_r {H H1 H2 : Hp} (e : Ex H H1) : Same (dif H1 H2) (dif H H2) := fun a o h => by
  refine dif_at ?_ (dif_out h).2
  cases z : H a with
  | none => rfl
  | some o => exact absurd ((e _ _ z).symm.trans (dif_out h).1) (fun z => by cases z)
section
variable {K : PySem.W.Frag} {H0 H H' H1 : Hp} {σ : L2.St} {te tb : TE} {t : TT} {ta : TA} {d : PyData} {ds : List PyData} {D : Ends} {v : V}
/-- evaluates to d, of objects that are not in the first heap -/
def EvN (K : PySem.W.Frag) (H0 : Hp) (te : TE) (σ : L2.St) (H : Hp) (d : PyData) : Prop := ∀ H1, Ex H H1 → ∀ Q : VK, (∀ v H2, Ex H1 H2 → Dp K (dif H0 H2) v d → Q v H2) → te σ H1 Q
def EvNA (K : PySem.W.Frag) (H0 : Hp) (ta : TA) (σ : L2.St) (H : Hp) (ds : List PyData) : Prop := ∀ H1, Ex H H1 → ∀ Q : List V → Hp → Prop, (∀ vs H2, Ex H1 H2 → DpAll K (dif H0 H2) vs ds → Q vs H2) → ta σ H1 Q
theorem EvN.mono (e : Ex H H') (h : EvN K H0 te σ H d) : EvN K H0 te σ H' d := fun H1 a Q q => h H1 (e.trans a) Q q
theorem na_nil : EvNA K H0 tNil σ H [] := fun H1 _ Q q => q [] H1 (Ex.refl _) .nil
theorem na_cons (h : EvN K H0 te σ H d) (h2 : EvNA K H0 ta σ H ds) : EvNA K H0 (tCons te ta) σ H (d :: ds) := fun H1 e Q q =>
  h H1 e _ fun v H2 e2 hv => h2 H2 (e.trans e2) _ fun vs H3 e3 hvs => q _ H3 (e2.trans e3) (.cons (dpM (dif_l e3) hv) hvs)
theorem en_sc (h : Ev te σ H v) (hd : ∀ H : Hp, Dp K H v d) : EvN K H0 te σ H d := fun H1 e Q q => h H1 e _ fun H2 e2 => q v H2 e2 (hd _)
theorem en_ev (h : Ev te σ H v) (hd : Dp K (dif H0 H) v d) : EvN K H0 te σ H d := fun H1 e Q q => h H1 e _ fun H2 e2 => q v H2 e2 (dpM (dif_l (e.trans e2)) hd)
theorem en_tup (hb : Ex H0 H) (h : EvNA K H0 ta σ H ds) (hl : ds.length ≤ 100000) : EvN K H0 (tTup ta) σ H (.tuple ds) := fun H1 e Q q =>
  h H1 e _ fun vs H2 e2 hvs => ⟨sz_of (by rw [dpLen hvs]; exact hl), fun p hp => q (.ref p) _ (e2.trans (Ex.new hp)) (.tup (st_of (dif_at (fresh_back (hb.trans (e.trans e2)) hp) upd_same)) (daM (dif_l (Ex.new hp)) hvs))⟩
theorem en_lst (hb : Ex H0 H) (h : EvNA K H0 ta σ H ds) (hl : ds.length ≤ 100000) : EvN K H0 (tLst ta) σ H (.list ds) := fun H1 e Q q =>
  h H1 e _ fun vs H2 e2 hvs => ⟨sz_of (by rw [dpLen hvs]; exact hl), fun p hp => q (.ref p) _ (e2.trans (Ex.new hp)) (.lst (sq_of (dif_at (fresh_back (hb.trans (e.trans e2)) hp) upd_same)) (daM (dif_l (Ex.new hp)) hvs))⟩
theorem en_u {vs : List V} (hb : Ex H0 H) (h : EvU te σ H vs) (hd : ∀ H : Hp, DpAll K H vs ds) : EvN K H0 te σ H (.tuple ds) := fun H1 e Q q =>
  h H1 e _ fun p H2 np e2 hp => q (.ref p) H2 e2 (.tup (st_of (dif_at (fresh_back (hb.trans e) np) hp)) (hd _))
theorem en_l {vs : List V} (hb : Ex H0 H) (h : EvL te σ H vs) (hd : ∀ H : Hp, DpAll K H vs ds) : EvN K H0 te σ H (.list ds) := fun H1 e Q q =>
  h H1 e _ fun p H2 np e2 hp => q (.ref p) H2 e2 (.lst (sq_of (dif_at (fresh_back (hb.trans e) np) hp)) (hd _))
theorem en_if {b : Bool} (h : EvT t σ H b) (h1 : b = true → EvN K H0 te σ H d) (h2 : b = false → EvN K H0 tb σ H d) : EvN K H0 (tIf t te tb) σ H d := fun H1 e Q q => h H1 e _ fun H2 e2 => by
  cases b with
  | true => exact h1 rfl H2 (e.trans e2) _ fun v H3 e3 hv => q v H3 (e2.trans e3) hv
  | false => exact h2 rfl H2 (e.trans e2) _ fun v H3 e3 hv => q v H3 (e2.trans e3) hv
/-- a def that tells anew -/
def SpN (K : PySem.W.Frag) (sp : Sp) (vs : List V) (H : Hp) (d : PyData) : Prop := ∀ H1, Ex H H1 → ∀ Q : VK, (∀ v H2, Ex H1 H2 → Dp K (dif H1 H2) v d → Q v H2) → ∀ E : XK, sp vs H1 Q E
theorem en_call {sp : Sp} {dvs vs : List V} {E : XK} (hb : Ex H0 H) (h : EvA ta σ H vs) (hs : SpN K sp (vs ++ dvs) H d) : EvN K H0 (tCall sp dvs E ta) σ H d := fun H1 e Q q =>
  h H1 e _ fun H2 e2 => hs H2 (e.trans e2) _ (fun v H3 e3 hv => q v H3 (e2.trans e3) (dpM (dif_r (hb.trans (e.trans e2))) hv)) E
theorem sn_ret (h : EvN K H0 te σ H d) (k : ∀ v H1, Ex H H1 → Dp K (dif H0 H1) v d → D.rt v H1) : tRet te D σ H := h H (Ex.refl H) _ k
theorem qn_asg {i : Nat} {tz : TS} (h : EvN K H0 te σ H d) (k : ∀ v H1, Ex H H1 → Dp K (dif H0 H1) v d → tz D (σ.set i (some v)) H1) : tSeq (tAsg te (gName i)) tz D σ H := h H (Ex.refl _) _ k
/-- a comprehension over a new list, each item told anew -/
theorem en_lcNL {xs : List V} {tl : TE} {j : Nat} {vs : List Nat} (h : EvL tl σ H xs) (hb : Ex H0 H) (hz : xs.length ≤ 40000) (hl : ds.length = xs.length) (hw : ∀ x, wipe ((wipe σ vs).set j (some x)) vs = wipe σ vs)
    (he : ∀ (i : Nat) (x : V) (d : PyData) H', Ex H H' → xs[i]? = some x → ds[i]? = some d → EvN K H' te ((wipe σ vs).set j (some x)) H' d) :
    EvN K H0 (tLc (iList K tl) (gName j) tYes te vs) σ H (.list ds) := fun Ha e Q q => h Ha e _ fun a H1 ha e1 hx => ⟨a, rfl, ⟨xs, sq_of hx⟩, fun Dl hD => by
  refine lc_list (xs := xs) (fun i H' => Ex H1 H' ∧ ∃ acc, H' Dl = some (.lst acc) ∧ acc.length = i ∧ DpAll K (fun b => if b = Dl then none else dif H1 H' b) acc (ds.take i)) ⟨Ex.new hD, [], upd_same, rfl, .nil⟩ (fun i H' _ p => sq_of (p.1 a _ hx)) (fun i x H' hi p => ⟨hw x, ?_⟩) (fun H' p => ?_)
  · obtain ⟨p1, acc, p2, p3, p4⟩ := p
    have hlt := (List.getElem?_eq_some_iff.mp hi).1
    have hd : ds[i]? = some ds[i] := List.getElem?_eq_getElem (by omega)
    refine he i x _ H' (e.trans (e1.trans p1)) hi hd H' (Ex.refl _) _ fun v H2 e2 hv => ⟨acc, e2 _ _ p2, sz_lt (by omega), Ex.mut (p1.trans e2) hD, _, upd_same, by rw [List.length_append, p3]; rfl, ?_⟩
    have dne : ∀ b o, dif H' H2 b = some o → b ≠ Dl := fun b o z w => by
      have := (dif_out z).1
      rw [w, p2] at this
      cases this
    have s1 : Same (fun b => if b = Dl then none else dif H1 H' b) (fun b => if b = Dl then none else dif H1 (upd H2 Dl (.lst (acc ++ [v]))) b) := fun b o z => by
      dsimp only at z ⊢
      by_cases hb : b = Dl
      · rw [if_pos hb] at z
        cases z
      · rw [if_neg hb] at z ⊢
        obtain ⟨z1, z2⟩ := dif_out z
        exact dif_at z1 (by rw [upd_ne hb]; exact e2 _ _ z2)
    have s2 : Same (dif H' H2) (fun b => if b = Dl then none else dif H1 (upd H2 Dl (.lst (acc ++ [v]))) b) := fun b o z => by
      have hb := dne b o z
      dsimp only
      rw [if_neg hb]
      obtain ⟨z1, z2⟩ := dif_out z
      exact dif_at (fresh_back p1 z1) (by rw [upd_ne hb]; exact z2)
    rw [List.take_add_one, hd]
    exact DpAll.append (daM s1 p4) (.cons (dpM s2 hv) .nil)
  · obtain ⟨p1, acc, p2, p3, p4⟩ := p
    rw [List.take_of_length_le (by omega)] at p4
    have hD0 : H0 Dl = none := fresh_back (hb.trans (e.trans e1)) hD
    refine q (.ref Dl) H' (e1.trans p1) (.lst (sq_of (dif_at hD0 p2)) (daM (fun b o z => ?_) p4))
    by_cases hb2 : b = Dl
    · rw [if_pos hb2] at z
      cases z
    · rw [if_neg hb2] at z
      exact dif_r (hb.trans (e.trans e1)) b o z⟩
end
end KW
end
section
set_option Elab.async false
set_option linter.all false
set_option autoImplicit false
set_option maxRecDepth 100000
set_option maxHeartbeats 1000000
/-! texts.py: written -/
namespace KW
open PySem PySem.Spec PyProof.Rows L2 He KR Evl
local macro_rules
  | `(tactic| walk_at "na") => `(tactic| with_reducible (first | exact cl_Line (by assumption) | exact cl_Job (by assumption) | exact cl_Engine (by assumption) | exact cl_Plan (by assumption) | exact cl_Run (by assumption) | exact cl_Bench (by assumption) | exact na_Line_name (by assumption) | exact na_Line_rank (by assumption) | exact na_Line_is_up (by assumption) | exact na_Line_guard (by assumption) | exact na_Line_top (by assumption) | exact na_Line_let_by (by assumption) | exact na_Line_shut_till (by assumption) | exact na_Line_since (by assumption) | exact na_Line_fresh (by assumption) | exact na_Line_counts (by assumption) | exact na_Line_longest (by assumption) | exact na_Job_word (by assumption) | exact na_Job_name (by assumption) | exact na_Job_rank (by assumption) | exact na_Job_steps (by assumption) | exact na_Job_masks_then (by assumption) | exact na_Job_at (by assumption) | exact na_Job_left (by assumption) | exact na_Engine_plan (by assumption) | exact na_Engine_ways (by assumption) | exact na_Engine_tops (by assumption) | exact na_Engine_bottom (by assumption) | exact na_Engine_put_off (by assumption) | exact na_Engine_woken (by assumption) | exact na_Engine_begun (by assumption) | exact na_Engine_depth (by assumption) | exact na_Engine_now (by assumption) | exact na_Engine_row (by assumption) | exact na_Engine_depths (by assumption) | exact na_Engine_last_begun (by assumption) | exact na_Plan_row (by assumption) | exact na_Plan_low (by assumption) | exact na_Plan_late (by assumption) | exact na_Run_row (by assumption) | exact na_Run_depths (by assumption) | exact na_Run_table (by assumption) | exact na_Run_longest (by assumption) | exact na_Bench_engine (by assumption) | exact na_Bench_fresh (by assumption) | exact na_Bench_told_so_far (by assumption) | exact na_Bench_rows (by assumption)))
local macro_rules
  | `(tactic| walk_at "oi") => `(tactic| first | assumption | exact oi2 0 (by assumption) rfl | exact oi2 1 (by assumption) rfl | exact oi2 2 (by assumption) rfl | exact oi2 3 (by assumption) rfl | exact oi2 4 (by assumption) rfl | exact oi2 5 (by assumption) rfl | exact oi2 6 (by assumption) rfl | exact oi2 7 (by assumption) rfl | exact oi2 8 (by assumption) rfl)
local macro_rules
  | `(tactic| walk_at "ev") => `(tactic| repeat' (first
    | exact ev_c | exact ev_var rfl | exact ea_nil | exact rv_I0 | exact ru_neg | exact eo_none
    | exact rv_eq rfl | exact rv_ne rfl
    | exact rv_ixT (by assumption) (by rfl) | exact rv_ixL (by assumption) (by rfl)
    | exact sv_q (by assumption) (by assumption) | exact sv_within (by assumption)
    | exact Or.inr (by assumption) | exact Or.inl (by assumption) | (show (_ : String) ∈ _; decide)
    | with_reducible (first | apply ev_isi | apply ev_lenS | apply ev_if' | apply et_test | apply et_B | apply et_not | apply et_and | apply et_or | apply ev_andV | apply ev_orV | apply ev_notV | apply ea_cons | apply eo_some | apply ev_fl | apply ev_op | apply ev_un | apply ev_call)
    | walk_at "na" | walk_at "oi" | (show List.lookup _ _ = _; rfl)
    | assumption
    | (with_reducible intro hh; first | exact absurd (show true = false from hh) (by decide) | exact absurd (show false = true from hh) (by decide) | clear hh)))

section
variable {P : Program} {w : World} {K : PySem.W.Frag} {mg : Str → Option Value} {base : Heap}
def lineT : PyData → Str
  | .tuple [.str n, .int r, .bool u, .tuple [.int a, .int b, .int c], .list ss] => Str.empty ++ "line " ++ n ++ " " ++ toString r ++ " " ++ (if u = true then ("up" : Str) else "latched") ++ " " ++ toString a ++ " " ++ toString b ++ " " ++ toString c ++ ": " ++ stepsT ss
  | _ => ""
def bottomT : PyData → Str
  | .tuple [.str n, .list ss] => Str.empty ++ "bottom " ++ n ++ ": " ++ stepsT ss
  | _ => ""
def threadT : PyData → Str
  | .tuple [.str n, .int r, .list ss] => Str.empty ++ "thread " ++ n ++ " " ++ toString r ++ ": " ++ stepsT ss
  | _ => ""
def rowsT (R B T : List PyData) : List Str := R.map lineT ++ (B.map bottomT ++ T.map threadT)
/-- a plan's text -/
def writtenT (R B T : List PyData) : Str := Txt.join "\n" (rowsT R B T)
def spWritten (K : PySem.W.Frag) : Sp := fun vs H Q _ => ∃ (p : Addr) (R B T : List PyData), vs = [.ref p] ∧ PlanAt K H p R B T ∧ PlanP R B T ∧ ∀ H', Ex H H' → Q (.str (writtenT R B T)) H'
theorem ev_joinV {to te : TE} {σ : L2.St} {H : Hp} {a : Str} {p : Addr} {ys : List Str} (ha : Ev to σ H (.str a)) (hl : Ev te σ H (.ref p)) (hx : SqL K H p (ys.map V.str)) (hz : (ys.map (·.length)).sum + ys.length * a.length ≤ 16777216) :
    Ev (tM1 (fun x xs H Q => ∃ a p, ∃ ys : List Str, x = .str a ∧ xs = [.ref p] ∧ (SqL K H p (ys.map V.str) ∨ SqT K H p (ys.map V.str)) ∧ (ys.map (·.length)).sum + ys.length * a.length ≤ 16777216 ∧ Q (.str (Txt.join a ys)) H) to te) σ H (.str (Txt.join a ys)) := fun H1 e Q q =>
  ha H1 e _ fun H2 e2 => ⟨⟨a, rfl⟩, hl H2 (e.trans e2) _ fun H3 e3 => ⟨a, p, ys, rfl, rfl, .inl (ex_l ((e.trans e2).trans e3) hx), hz, q H3 (e2.trans e3)⟩⟩
theorem lineT_len {d : PyData} (h : isLineD d = true) : (lineT d).length ≤ 1000 := by
  obtain ⟨n, r, u, a, b, c, ss, rfl, hn, hr, hg, hst⟩ := line_inv h
  have hst2 := stepsL_inv hst
  have q0 := nameS_len hn
  have q1 := (int_small (n := r) (by omega) (by omega)).2
  have q2 := (int_small (n := a) (by omega) (by omega)).2
  have q3 := (int_small (n := b) (by omega) (by omega)).2
  have q4 := (int_small (n := c) (by omega) (by omega)).2
  have q5 := stepsT_len hst2.1 hst2.2.2
  have q6 : ((if u = true then ("up" : Str) else "latched") : Str).length ≤ 7 := by cases u <;> decide
  have c0 : Str.empty.length = 0 := rfl
  have c1 : (Str.ofString "line ").length = 5 := by decide
  have c2 : (Str.ofString " ").length = 1 := by decide
  have c3 : (Str.ofString ": ").length = 2 := by decide
  show (Str.empty ++ "line " ++ n ++ " " ++ toString r ++ " " ++ (if u = true then ("up" : Str) else "latched") ++ " " ++ toString a ++ " " ++ toString b ++ " " ++ toString c ++ ": " ++ stepsT ss : Str).length ≤ 1000
  simp only [s_len, c0, c1, c2, c3]
  omega
theorem bottomT_len {d : PyData} (h : isBottomD d = true) : (bottomT d).length ≤ 1000 := by
  obtain ⟨n, ss, rfl, hn, hst⟩ := bottom_inv h
  have hst2 := stepsL_inv hst
  have q0 := nameS_len hn
  have q5 := stepsT_len hst2.1 hst2.2.2
  have c0 : Str.empty.length = 0 := rfl
  have c1 : (Str.ofString "bottom ").length = 7 := by decide
  have c3 : (Str.ofString ": ").length = 2 := by decide
  show (Str.empty ++ "bottom " ++ n ++ ": " ++ stepsT ss : Str).length ≤ 1000
  simp only [s_len, c0, c1, c3]
  omega
theorem threadT_len {d : PyData} (h : isThreadD d = true) : (threadT d).length ≤ 1000 := by
  obtain ⟨n, r, ss, rfl, hn, hr, hst⟩ := thread_inv h
  have hst2 := stepsL_inv hst
  have q0 := nameS_len hn
  have q1 := (int_small (n := r) (by omega) (by omega)).2
  have q5 := stepsT_len hst2.1 hst2.2.2
  have c0 : Str.empty.length = 0 := rfl
  have c1 : (Str.ofString "thread ").length = 7 := by decide
  have c2 : (Str.ofString " ").length = 1 := by decide
  have c3 : (Str.ofString ": ").length = 2 := by decide
  show (Str.empty ++ "thread " ++ n ++ " " ++ toString r ++ ": " ++ stepsT ss : Str).length ≤ 1000
  simp only [s_len, c0, c1, c2, c3]
  omega
end
end KW
end
section
set_option Elab.async false
set_option linter.all false
set_option autoImplicit false
set_option maxRecDepth 100000
set_option maxHeartbeats 1000000
/-! texts.py: number_of, step_of -/
namespace KW
open PySem PySem.Spec PyProof.Rows L2 He KR Evl
local macro_rules
  | `(tactic| walk_at "na") => `(tactic| with_reducible (first | exact cl_Line (by assumption) | exact cl_Job (by assumption) | exact cl_Engine (by assumption) | exact cl_Plan (by assumption) | exact cl_Run (by assumption) | exact cl_Bench (by assumption) | exact na_Line_name (by assumption) | exact na_Line_rank (by assumption) | exact na_Line_is_up (by assumption) | exact na_Line_guard (by assumption) | exact na_Line_top (by assumption) | exact na_Line_let_by (by assumption) | exact na_Line_shut_till (by assumption) | exact na_Line_since (by assumption) | exact na_Line_fresh (by assumption) | exact na_Line_counts (by assumption) | exact na_Line_longest (by assumption) | exact na_Job_word (by assumption) | exact na_Job_name (by assumption) | exact na_Job_rank (by assumption) | exact na_Job_steps (by assumption) | exact na_Job_masks_then (by assumption) | exact na_Job_at (by assumption) | exact na_Job_left (by assumption) | exact na_Engine_plan (by assumption) | exact na_Engine_ways (by assumption) | exact na_Engine_tops (by assumption) | exact na_Engine_bottom (by assumption) | exact na_Engine_put_off (by assumption) | exact na_Engine_woken (by assumption) | exact na_Engine_begun (by assumption) | exact na_Engine_depth (by assumption) | exact na_Engine_now (by assumption) | exact na_Engine_row (by assumption) | exact na_Engine_depths (by assumption) | exact na_Engine_last_begun (by assumption) | exact na_Plan_row (by assumption) | exact na_Plan_low (by assumption) | exact na_Plan_late (by assumption) | exact na_Run_row (by assumption) | exact na_Run_depths (by assumption) | exact na_Run_table (by assumption) | exact na_Run_longest (by assumption) | exact na_Bench_engine (by assumption) | exact na_Bench_fresh (by assumption) | exact na_Bench_told_so_far (by assumption) | exact na_Bench_rows (by assumption)))
local macro_rules
  | `(tactic| walk_at "oi") => `(tactic| first | assumption | exact oi2 0 (by assumption) rfl | exact oi2 1 (by assumption) rfl | exact oi2 2 (by assumption) rfl | exact oi2 3 (by assumption) rfl | exact oi2 4 (by assumption) rfl | exact oi2 5 (by assumption) rfl | exact oi2 6 (by assumption) rfl | exact oi2 7 (by assumption) rfl | exact oi2 8 (by assumption) rfl)
local macro_rules
  | `(tactic| walk_at "ev") => `(tactic| repeat' (first
    | exact ev_c | exact ev_var rfl | exact ea_nil | exact rv_I0 | exact ru_neg | exact eo_none
    | exact rv_eq rfl | exact rv_ne rfl
    | exact rv_ixT (by assumption) (by rfl) | exact rv_ixL (by assumption) (by rfl)
    | exact sv_q (by assumption) (by assumption) | exact sv_within (by assumption)
    | exact Or.inr (by assumption) | exact Or.inl (by assumption) | (show (_ : String) ∈ _; decide)
    | with_reducible (first | apply ev_isi | apply ev_lenS | apply ev_if' | apply et_test | apply et_B | apply et_not | apply et_and | apply et_or | apply ev_andV | apply ev_orV | apply ev_notV | apply ea_cons | apply eo_some | apply ev_fl | apply ev_op | apply ev_un | apply ev_call)
    | walk_at "na" | walk_at "oi" | (show List.lookup _ _ = _; rfl)
    | assumption
    | (with_reducible intro hh; first | exact absurd (show true = false from hh) (by decide) | exact absurd (show false = true from hh) (by decide) | clear hh)))

section
variable {P : Program} {w : World} {K : PySem.W.Frag} {mg : Str → Option Value} {base : Heap}
theorem sc_number_of : FnScope ["word"] ["word"] (defScope s_number_of) := ⟨rfl, rfl, rfl, by decide +kernel, rfl, by decide +kernel, by decide +kernel⟩
def numV : Option Int → V
  | some i => .int i
  | none => .non
theorem numV_dp (o : Option Int) (H : Hp) : Dp K H (numV o) (numD o) := by cases o with
  | none => exact .non
  | some i => exact .int i
def spNum : Sp := fun vs H Q _ => ∃ x : Str, vs = [.str x] ∧ x.length ≤ 100000 ∧ ∀ H', Ex H H' → Q (numV (numM x)) H'
theorem sv_num {x : Str} {H : Hp} (h : x.length ≤ 100000) : SpV spNum [.str x] H (numV (numM x)) := fun H1 e Q q E => ⟨x, rfl, h, fun H' e' => q H' e'⟩
theorem ev_lenStr {te : TE} {σ : L2.St} {H : Hp} {x : Str} (h : Ev te σ H (.str x)) (hx : x.length ≤ 100000) : Ev (tCB (fun xs H Q => ∃ z : Str, xs = [V.str z] ∧ z.length ≤ sizeLine ∧ Q (V.int (z.length : Int)) H) (tCons te tNil)) σ H (.int (x.length : Int)) := fun H1 e Q q =>
  h H1 e _ fun H2 e2 => ⟨x, rfl, sz_of hx, q H2 e2⟩
theorem ev_strip {to te : TE} {σ : L2.St} {H : Hp} {x y : Str} (h : Ev to σ H (.str x)) (h2 : Ev te σ H (.str y)) (hx : x.length ≤ 100000) : Ev (tBM K "str" (fun x xs H Q => ∃ a b, x = V.str a ∧ xs = [V.str b] ∧ a.length ≤ sizeLine ∧ Q (V.str (Txt.stripChars a b)) H) to (tCons te tNil)) σ H (.str (Txt.stripChars x y)) := fun H1 e Q q =>
  h H1 e _ fun H2 e2 => ⟨rfl, h2 H2 (e.trans e2) _ fun H3 e3 => ⟨x, y, rfl, rfl, sz_of hx, q H3 (e2.trans e3)⟩⟩
theorem ev_intS {te : TE} {σ : L2.St} {H : Hp} {x : Str} {n : Int} (h : Ev te σ H (.str x)) (hn : PySem.intText? x = some n) (hl : x.length ≤ 640) : Ev (tCB (fun xs H Q => ∃ a n, xs = [V.str a] ∧ PySem.intText? a = some n ∧ a.length ≤ 640 ∧ Q (V.int n) H) (tCons te tNil)) σ H (.int n) := fun H1 e Q q =>
  h H1 e _ fun H2 e2 => ⟨x, n, rfl, hn, hl, q H2 e2⟩
theorem decS {x y : Str} : decide (V.str x = V.str y) = decide (x = y) := by
  by_cases h : x = y
  · rw [decide_eq_true h, h]
    exact decide_eq_true rfl
  · rw [decide_eq_false h]
    exact decide_eq_false fun e => h (V.str.inj e)
theorem emp_of {x : Str} (z : x.cps.toList = []) : x = Str.empty := by
  obtain ⟨c⟩ := x
  obtain ⟨l⟩ := c
  have z : l = [] := z
  subst z
  rfl
theorem numM_some {x : Str} {n : Int} (h : numM x = some n) : PySem.intText? x = some n ∧ x.length ≤ 4 := by
  unfold numM at h
  split at h
  · cases h
  · rename_i h0
    split at h
    · cases h
    · rename_i h4
      split at h
      · rename_i hs
        split at h
        · cases h
        · cases h
          refine ⟨?_, by omega⟩
          exact intText_digits (strip_digits hs) (fun z => h0 (emp_of z)) (by omega)
      · cases h
theorem one_sign {c : Nat} : decide (V.str ⟨#[c]⟩ = V.str "0") = decide (c = 48) := by
  rw [decS]
  have e : (Str.ofString "0") = ⟨#[48]⟩ := by decide +kernel
  rw [e]
  by_cases h : c = 48
  · subst h
    rfl
  · rw [decide_eq_false h]
    exact decide_eq_false fun z => h (by injection z with z; injection z with z; injection z)
theorem num_test (x : Str) : (decide (x = Str.empty) || (decide ((x.length : Int) > 4) || (!decide (Txt.stripChars x digs = Str.empty) || (decide (x.cps.getD 0 0 = 48) && !decide (x = "0"))))) = (numM x).isNone := by
  unfold numM
  by_cases h0 : x = Str.empty
  · rw [if_pos h0, decide_eq_true h0]
    rfl
  · rw [if_neg h0, decide_eq_false h0]
    by_cases h4 : 4 < x.length
    · rw [if_pos h4, decide_eq_true (show (x.length : Int) > 4 by omega)]
      rfl
    · rw [if_neg h4, decide_eq_false (show ¬ (x.length : Int) > 4 by omega)]
      by_cases hs : Txt.stripChars x digs = Str.empty
      · rw [if_pos hs, decide_eq_true hs]
        by_cases h8 : x.cps.getD 0 0 = 48
        · rw [decide_eq_true h8]
          by_cases hz : x = "0"
          · rw [if_neg (fun z => z.2 hz), decide_eq_true hz]
            rfl
          · rw [if_pos ⟨h8, hz⟩, decide_eq_false hz]
            rfl
        · rw [if_neg (fun z => h8 z.1), decide_eq_false h8]
          rfl
      · rw [if_neg hs, decide_eq_false hs]
        rfl
theorem at_first {x : Str} (h : x ≠ Str.empty) : atI x.cps.toList 0 = some (x.cps.getD 0 0) := by
  rw [← getD_list]
  have : x.cps.toList ≠ [] := fun z => h (emp_of z)
  cases hx : x.cps.toList with
  | nil => exact absurd hx this
  | cons a r => exact atI_nat (j := 0) rfl
theorem ok_number_of (T : Txt w K mg) : FnOk P w K mg base CX0 1 (f_number_of K) (fdAt K (f_number_of K)) ["word"] spNum := by
  obtain ⟨tL, h_LONGEST⟩ := in_LONGEST T
  refine (df_number_of T).ok sc_number_of (fun vs H Q E h => ?_) (fun cdv A outer s H vs Q E hr h => ?_)
  · obtain ⟨_, rfl, _⟩ := h
    rfl
  · obtain ⟨x, rfl, hx, q⟩ := h
    refine ⟨_, PSs.nox ((pss_cons (ps_if (PW.pt (pw_or (pt_cmpR op_eq (pv 0) pe_str (nomark _)) (pw_or (pt_cmpR op_gt ((pe_callB call_len_str (by rfl) (fr_len T) PySem.boot_len (pa_cons (pv 0) pa_nil))) (pe_glob (v := .int 4) rfl h_LONGEST ⟨_, rfl⟩) (nomark _)) (pw_or (pt_cmpR op_ne (pe_bm PySem.F.plainAttrs_str PySem.F.slot_str_strip PySem.F.type_str_strip mt_stripChars (pv 0) (pa_cons pe_str pa_nil)) pe_str (nomark _)) (pw_or1 (PW.pt (pw_and (pt_cmpR op_eq ((pe_ix ix_str (pv 0) pe_int (fun _ _ => rfl))) pe_str (nomark _)) (pw_and1 (pt_cmpR op_ne (pv 0) pe_str (nomark _)))))))))) (pss_one (ps_ret pe_non)) pss_nil)
      (pss_one (ps_ret ((pe_callTy call_int_str (by rfl) (fr_int T) (by decide +kernel) (pa_cons (pv 0) pa_nil))))))), ?_⟩
    refine q_when (b := (numM x).isNone) (et_is (et_or (et_test (ev_op (ev_var rfl) ev_c (rv_eq rfl))) fun h1 => et_or (et_test (ev_op (ev_lenStr (ev_var rfl) hx) ev_c rv_I0)) fun h2 => et_or (et_test (ev_op (ev_strip (ev_var rfl) ev_c hx) ev_c (rv_ne rfl))) fun h3 => et_and (et_test (ev_op (ev_op (ev_var rfl) ev_c (rv_ixS hx (at_first (x := x) ?_))) ev_c (rv_eq rfl))) fun h4 => et_test (ev_op (ev_var rfl) ev_c (rv_ne rfl))) ?_) (fun hb H1 e1 => ?_) (fun hb H1 e1 => ?_)
    · intro z
      rw [decS] at h1
      exact absurd z (of_decide_eq_false h1)
    · rw [one_sign, decS, decS, decS]
      exact num_test x
    · refine s_ret ev_c fun H2 e2 => ?_
      have z := q H2 (e1.trans e2)
      rw [Option.isNone_iff_eq_none.mp hb] at z
      exact z
    · cases hn : numM x with
      | none =>
        rw [hn] at hb
        cases hb
      | some n =>
        obtain ⟨hi, hl⟩ := numM_some hn
        refine s_ret (ev_intS (ev_var rfl) hi (by omega)) fun H2 e2 => ?_
        have z := q H2 (e1.trans e2)
        rw [hn] at z
        exact z
end
end KW
end
section
set_option Elab.async false
set_option linter.all false
set_option autoImplicit false
set_option maxRecDepth 100000
set_option maxHeartbeats 1000000
/-! texts.py: step_of, part_of -/
namespace KW
open PySem PySem.Spec PyProof.Rows L2 He KR Evl
local macro_rules
  | `(tactic| walk_at "na") => `(tactic| with_reducible (first | exact cl_Line (by assumption) | exact cl_Job (by assumption) | exact cl_Engine (by assumption) | exact cl_Plan (by assumption) | exact cl_Run (by assumption) | exact cl_Bench (by assumption) | exact na_Line_name (by assumption) | exact na_Line_rank (by assumption) | exact na_Line_is_up (by assumption) | exact na_Line_guard (by assumption) | exact na_Line_top (by assumption) | exact na_Line_let_by (by assumption) | exact na_Line_shut_till (by assumption) | exact na_Line_since (by assumption) | exact na_Line_fresh (by assumption) | exact na_Line_counts (by assumption) | exact na_Line_longest (by assumption) | exact na_Job_word (by assumption) | exact na_Job_name (by assumption) | exact na_Job_rank (by assumption) | exact na_Job_steps (by assumption) | exact na_Job_masks_then (by assumption) | exact na_Job_at (by assumption) | exact na_Job_left (by assumption) | exact na_Engine_plan (by assumption) | exact na_Engine_ways (by assumption) | exact na_Engine_tops (by assumption) | exact na_Engine_bottom (by assumption) | exact na_Engine_put_off (by assumption) | exact na_Engine_woken (by assumption) | exact na_Engine_begun (by assumption) | exact na_Engine_depth (by assumption) | exact na_Engine_now (by assumption) | exact na_Engine_row (by assumption) | exact na_Engine_depths (by assumption) | exact na_Engine_last_begun (by assumption) | exact na_Plan_row (by assumption) | exact na_Plan_low (by assumption) | exact na_Plan_late (by assumption) | exact na_Run_row (by assumption) | exact na_Run_depths (by assumption) | exact na_Run_table (by assumption) | exact na_Run_longest (by assumption) | exact na_Bench_engine (by assumption) | exact na_Bench_fresh (by assumption) | exact na_Bench_told_so_far (by assumption) | exact na_Bench_rows (by assumption)))
local macro_rules
  | `(tactic| walk_at "oi") => `(tactic| first | assumption | exact oi2 0 (by assumption) rfl | exact oi2 1 (by assumption) rfl | exact oi2 2 (by assumption) rfl | exact oi2 3 (by assumption) rfl | exact oi2 4 (by assumption) rfl | exact oi2 5 (by assumption) rfl | exact oi2 6 (by assumption) rfl | exact oi2 7 (by assumption) rfl | exact oi2 8 (by assumption) rfl)
local macro_rules
  | `(tactic| walk_at "ev") => `(tactic| repeat' (first
    | exact ev_c | exact ev_var rfl | exact ea_nil | exact rv_I0 | exact ru_neg | exact eo_none
    | exact rv_eq rfl | exact rv_ne rfl
    | exact rv_ixT (by assumption) (by rfl) | exact rv_ixL (by assumption) (by rfl)
    | exact sv_q (by assumption) (by assumption) | exact sv_within (by assumption)
    | exact Or.inr (by assumption) | exact Or.inl (by assumption) | (show (_ : String) ∈ _; decide)
    | with_reducible (first | apply ev_isi | apply ev_lenS | apply ev_if' | apply et_test | apply et_B | apply et_not | apply et_and | apply et_or | apply ev_andV | apply ev_orV | apply ev_notV | apply ea_cons | apply eo_some | apply ev_fl | apply ev_op | apply ev_un | apply ev_call)
    | walk_at "na" | walk_at "oi" | (show List.lookup _ _ = _; rfl)
    | assumption
    | (with_reducible intro hh; first | exact absurd (show true = false from hh) (by decide) | exact absurd (show false = true from hh) (by decide) | clear hh)))

section
variable {P : Program} {w : World} {K : PySem.W.Frag} {mg : Str → Option Value} {base : Heap}
theorem sc_step_of : FnScope ["text", "word", "rest"] ["text"] (defScope s_step_of) := ⟨rfl, rfl, rfl, by decide +kernel, rfl, by decide +kernel, by decide +kernel⟩
/-- the step of a text -/
def stepM (x : Str) : PyData := match Txt.split x " " with
  | u :: r => if u = "run" ∧ r.length = 1 then .tuple [.str "run", numD (numM (r.getD 0 ""))] else .tuple (.str u :: r.map .str)
  | [] => .none
theorem split_short {x y z : Str} (hy : 1 ≤ y.length) (h : z ∈ Txt.split x y) : z.length ≤ x.length := by
  have w := split_weight x y hy
  have h2 : z.length ≤ ((Txt.split x y).map (·.length)).sum := by
    have : ∀ l : List Str, z ∈ l → z.length ≤ (l.map (·.length)).sum := fun l => by
      induction l with
      | nil => intro h; cases h
      | cons a l ih =>
        intro h
        rw [List.map_cons, List.sum_cons]
        rcases List.mem_cons.mp h with rfl | h
        · omega
        · have := ih h
          omega
    exact this _ h
  have h3 : 1 ≤ (Txt.split x y).length := List.length_pos_iff.mpr fun e => by rw [e] at h; cases h
  omega
theorem split_cons (x y : Str) : ∃ u r, Txt.split x y = u :: r := by
  have := split_pos x y
  cases h : Txt.split x y with
  | nil => rw [h] at this; exact absurd this (by decide)
  | cons u r => exact ⟨u, r, rfl⟩
theorem el_split {to te : TE} {σ : L2.St} {H : Hp} {a b : Str} (ha : Ev to σ H (.str a)) (hb : Ev te σ H (.str b)) (h0 : (b.length == 0) = false) (hz : a.length ≤ 90000) :
    EvL (tM1 (fun x xs H Q => ∃ a b, x = V.str a ∧ xs = [V.str b] ∧ (b.length == 0) = false ∧ a.length + 2 ≤ sizeLine ∧ rNewStrs (Txt.split a b) H Q) to te) σ H ((Txt.split a b).map V.str) := fun H1 e Q q =>
  ha H1 e _ fun H2 e2 => ⟨⟨a, rfl⟩, hb H2 (e.trans e2) _ fun H3 e3 => ⟨a, b, rfl, rfl, h0, sz_of (by omega), fun p hp => q p _ (fresh_back (e2.trans e3) hp) ((e2.trans e3).trans (Ex.new hp)) upd_same⟩⟩
theorem q_starL {te : TE} {σ : L2.St} {H : Hp} {x : V} {xs : List V} {t : TGs} {tz : TS} {D : Ends} (h : EvL te σ H (x :: xs)) (hl : xs.length < 16384) (k : ∀ p H1, Ex H H1 → H1 p = some (.lst xs) → H p = none → t [x, .ref p] σ H1 fun σ' H' => tz D σ' H') : tSeq (tAsg te (gStar K t)) tz D σ H :=
  h H (Ex.refl _) _ fun a H1 na e1 ha => ⟨a, x, xs, rfl, .inr (sq_of ha), hl, fun p hp => k p _ (e1.trans (Ex.new hp)) upd_same (fresh_back e1 hp)⟩
theorem eu_tupleL {te : TE} {σ : L2.St} {H : Hp} {xs : List V} (h : EvL te σ H xs) :
    EvU (tCB (fun xs H Q => ∃ p ys, xs = [V.ref p] ∧ ((SqL K H p ys ∧ ∀ l, H l = none → Q (V.ref l) (upd H l (.tup ys))) ∨ (SqT K H p ys ∧ Q (V.ref p) H))) (tCons te tNil)) σ H xs := fun H1 e Q q =>
  h H1 e _ fun p H2 np e2 hp => ⟨p, xs, rfl, .inl ⟨sq_of hp, fun l hl => q l _ (fresh_back e2 hl) (e2.trans (Ex.new hl)) upd_same⟩⟩
theorem eu_tupleS {te : TE} {σ : L2.St} {H : Hp} {p : Addr} {xs : List V} (h : Ev te σ H (.ref p)) (hx : SqL K H p xs) :
    EvU (tCB (fun xs H Q => ∃ p ys, xs = [V.ref p] ∧ ((SqL K H p ys ∧ ∀ l, H l = none → Q (V.ref l) (upd H l (.tup ys))) ∨ (SqT K H p ys ∧ Q (V.ref p) H))) (tCons te tNil)) σ H xs := fun H1 e Q q =>
  h H1 e _ fun H2 e2 => ⟨p, xs, rfl, .inl ⟨ex_l (e.trans e2) hx, fun l hl => q l _ (fresh_back e2 hl) (e2.trans (Ex.new hl)) upd_same⟩⟩
theorem eu_catT {ta tb : TE} {σ : L2.St} {H : Hp} {xs ys : List V} (ha : EvU ta σ H xs) (hb : EvU tb σ H ys) (h0 : xs ≠ []) (hz : xs.length + ys.length ≤ 100000) : EvU (tOp (rCatT K) ta tb) σ H (xs ++ ys) := fun H1 e Q q =>
  ha H1 e _ fun p H2 np e2 hp => hb H2 (e.trans e2) _ fun r H3 nr e3 hr => ⟨p, r, xs, ys, rfl, rfl, st_of (e3 _ _ hp), st_of hr, h0, sz_of hz, fun hy => by
    subst hy
    rw [List.append_nil] at q
    exact q p H3 np (e2.trans e3) (e3 _ _ hp), fun _ l hl => q l _ (fresh_back (e2.trans e3) hl) ((e2.trans e3).trans (Ex.new hl)) upd_same⟩
theorem da_txts (H : Hp) : ∀ ys : List Str, DpAll K H (ys.map V.str) (ys.map PyData.str)
  | [] => .nil
  | y :: ys => .cons (.str y) (da_txts H ys)
def spStepOf (K : PySem.W.Frag) : Sp := fun vs H Q _ => ∃ x : Str, vs = [.str x] ∧ x.length ≤ 10000 ∧ ∀ v H', Ex H H' → Dp K (dif H H') v (stepM x) → Q v H'
theorem sn_step {x : Str} {H : Hp} (h : x.length ≤ 10000) : SpN K (spStepOf K) [.str x] H (stepM x) := fun H1 e Q q E => ⟨x, rfl, h, fun v H' e' hv => q v H' e' hv⟩
theorem ok_step_of (T : Txt w K mg) : FnOk P w K mg base CX0 2 (f_step_of K) (fdAt K (f_step_of K)) ["text"] (spStepOf K) := by
  refine (df_step_of T).ok sc_step_of (fun vs H Q E h => ?_) (fun cdv A outer s H vs Q E hr h => ?_)
  · obtain ⟨_, rfl, _⟩ := h
    rfl
  · obtain ⟨x, rfl, hx, q⟩ := h
    refine ⟨_, PSs.nox ((pss_cons (ps_asg (pe_split (pv 0) pe_str) (pg_starK rfl (K := K) rfl (pgs_cons (pg_name (i := 1) sc_step_of.nd rfl (Or.inl rfl)) (pgs_starred (pg_name (i := 2) sc_step_of.nd rfl (Or.inl rfl)) pgs_nil))))
      (pss_cons (ps_if (PW.pt (pw_and (pt_cmpR op_eq (pv 1) pe_str (nomark _)) (pw_and1 (pt_cmpR op_eq (pe_callB (call_lenK (K := K) rfl) (by rfl) (fr_len T) PySem.boot_len (pa_cons (pv 2) pa_nil)) pe_int (nomark _))))) (pss_one (ps_ret (pe_tup (pa_cons pe_str (pa_cons (pe_call (ok_number_of T) (hr.mono (by decide)) rfl (gl_number_of T) (df_number_of T).kp (bi_number_of T) .nil pass0 (pa_cons (pe_ix (ix_listK (K := K) rfl) (pv 2) pe_int (fun _ _ => rfl)) pa_nil)) pa_nil))))) pss_nil)
      (pss_one (ps_ret (pe_op (op_catTK (K := K) rfl) (pe_tup (pa_cons (pv 1) pa_nil)) (pe_callTy (call_tupleK (K := K) rfl) (by rfl) (fr_tuple T) (by decide +kernel) (pa_cons (pv 2) pa_nil)))))))), ?_⟩
    obtain ⟨u, r, hs⟩ := split_cons x " "
    have hlen : (u :: r).length ≤ x.length + 2 := by rw [← hs]; exact split_le x " "
    have hu : ∀ z ∈ u :: r, z.length ≤ x.length := fun z hz => split_short (y := " ") (by decide) (by rw [hs]; exact hz)
    have h0 := el_split (to := tVar 0) (te := tC (V.str (Str.ofString " "))) (σ := [some (.str x), none, none]) (H := H) (ev_var rfl) ev_c (by decide) (by omega)
    rw [hs, List.map_cons] at h0
    have hsm : stepM x = if u = "run" ∧ r.length = 1 then .tuple [.str "run", numD (numM (r.getD 0 ""))] else .tuple (.str u :: r.map .str) := by
      unfold stepM
      rw [hs]
    rw [List.length_cons] at hlen
    refine q_starL h0 (by rw [List.length_map]; omega) fun p H1 e1 hp np => ⟨_, _, rfl, _, _, rfl, rfl, ?_⟩
    dsimp only
    refine q_when (b := decide (u = "run") && decide (r.length = 1)) (et_is (et_and (et_test (ev_op (ev_var rfl) ev_c (rv_eq rfl))) fun _ => et_test (ev_op (ev_lenS (ev_var rfl) (.inl (sq_of hp))) ev_c (rv_eq rfl))) ?_) (fun hb H2 e2 => ?_) (fun hb H2 e2 => ?_)
    · rw [decS, List.length_map]
      congr 1
      by_cases h : r.length = 1
      · rw [h]; rfl
      · rw [decide_eq_false h]
        exact int_ne h
    · obtain ⟨b1, b2⟩ := band hb
      have b1 := of_decide_eq_true b1
      have b2 := of_decide_eq_true b2
      match r, b2, hsm, hp, hu with
      | [a], _, hsm, hp, hu =>
        rw [if_pos ⟨b1, rfl⟩] at hsm
        have e02 := e1.trans e2
        refine sn_ret (H0 := H) (en_tup e02 (na_cons (en_sc ev_c fun _ => .str _) (na_cons (en_sc (ev_call (ea_cons (ev_op (ev_var rfl) ev_c (rv_ixL (sq_of (e2 _ _ hp)) at0)) ea_nil) (sv_num (by have := hu a (by simp); omega))) (numV_dp _)) na_nil)) (by show (2 : Nat) ≤ 100000; decide)) fun v H3 e3 hv => q v H3 (e02.trans e3) (by rw [hsm]; exact hv)
    · have hn : ¬ (u = "run" ∧ r.length = 1) := fun z => by
        rw [decide_eq_true z.1, decide_eq_true z.2] at hb
        cases hb
      rw [if_neg hn] at hsm
      have e02 := e1.trans e2
      refine sn_ret (H0 := H) (en_u (vs := V.str u :: r.map V.str) e02 (eu_catT (xs := [V.str u]) (eu_tup (ea_cons (ev_var rfl) ea_nil) (by show (1 : Nat) ≤ 100000; decide)) (eu_tupleS (ev_var rfl) (sq_of (e2 _ _ hp))) (by simp) (by rw [List.length_map]; show 1 + r.length ≤ _; omega)) fun H => .cons (.str u) (da_txts H r)) fun v H3 e3 hv => q v H3 (e02.trans e3) (by rw [hsm]; exact hv)
end
end KW
end
section
set_option Elab.async false
set_option linter.all false
set_option autoImplicit false
set_option maxRecDepth 100000
set_option maxHeartbeats 1000000
/-! texts.py: part_of -/
namespace KW
open PySem PySem.Spec PyProof.Rows L2 He KR Evl
local macro_rules
  | `(tactic| walk_at "na") => `(tactic| with_reducible (first | exact cl_Line (by assumption) | exact cl_Job (by assumption) | exact cl_Engine (by assumption) | exact cl_Plan (by assumption) | exact cl_Run (by assumption) | exact cl_Bench (by assumption) | exact na_Line_name (by assumption) | exact na_Line_rank (by assumption) | exact na_Line_is_up (by assumption) | exact na_Line_guard (by assumption) | exact na_Line_top (by assumption) | exact na_Line_let_by (by assumption) | exact na_Line_shut_till (by assumption) | exact na_Line_since (by assumption) | exact na_Line_fresh (by assumption) | exact na_Line_counts (by assumption) | exact na_Line_longest (by assumption) | exact na_Job_word (by assumption) | exact na_Job_name (by assumption) | exact na_Job_rank (by assumption) | exact na_Job_steps (by assumption) | exact na_Job_masks_then (by assumption) | exact na_Job_at (by assumption) | exact na_Job_left (by assumption) | exact na_Engine_plan (by assumption) | exact na_Engine_ways (by assumption) | exact na_Engine_tops (by assumption) | exact na_Engine_bottom (by assumption) | exact na_Engine_put_off (by assumption) | exact na_Engine_woken (by assumption) | exact na_Engine_begun (by assumption) | exact na_Engine_depth (by assumption) | exact na_Engine_now (by assumption) | exact na_Engine_row (by assumption) | exact na_Engine_depths (by assumption) | exact na_Engine_last_begun (by assumption) | exact na_Plan_row (by assumption) | exact na_Plan_low (by assumption) | exact na_Plan_late (by assumption) | exact na_Run_row (by assumption) | exact na_Run_depths (by assumption) | exact na_Run_table (by assumption) | exact na_Run_longest (by assumption) | exact na_Bench_engine (by assumption) | exact na_Bench_fresh (by assumption) | exact na_Bench_told_so_far (by assumption) | exact na_Bench_rows (by assumption)))
local macro_rules
  | `(tactic| walk_at "oi") => `(tactic| first | assumption | exact oi2 0 (by assumption) rfl | exact oi2 1 (by assumption) rfl | exact oi2 2 (by assumption) rfl | exact oi2 3 (by assumption) rfl | exact oi2 4 (by assumption) rfl | exact oi2 5 (by assumption) rfl | exact oi2 6 (by assumption) rfl | exact oi2 7 (by assumption) rfl | exact oi2 8 (by assumption) rfl)
local macro_rules
  | `(tactic| walk_at "ev") => `(tactic| repeat' (first
    | exact ev_c | exact ev_var rfl | exact ea_nil | exact rv_I0 | exact ru_neg | exact eo_none
    | exact rv_eq rfl | exact rv_ne rfl
    | exact rv_ixT (by assumption) (by rfl) | exact rv_ixL (by assumption) (by rfl)
    | exact sv_q (by assumption) (by assumption) | exact sv_within (by assumption)
    | exact Or.inr (by assumption) | exact Or.inl (by assumption) | (show (_ : String) ∈ _; decide)
    | with_reducible (first | apply ev_isi | apply ev_lenS | apply ev_if' | apply et_test | apply et_B | apply et_not | apply et_and | apply et_or | apply ev_andV | apply ev_orV | apply ev_notV | apply ea_cons | apply eo_some | apply ev_fl | apply ev_op | apply ev_un | apply ev_call)
    | walk_at "na" | walk_at "oi" | (show List.lookup _ _ = _; rfl)
    | assumption
    | (with_reducible intro hh; first | exact absurd (show true = false from hh) (by decide) | exact absurd (show false = true from hh) (by decide) | clear hh)))

section
variable {P : Program} {w : World} {K : PySem.W.Frag} {mg : Str → Option Value} {base : Heap}
theorem sc_part_of : FnScope ["row", "head", "tail", "word", "rest", "steps", "text", "guard", "one", "found"] ["row"] (defScope s_part_of) := ⟨rfl, rfl, rfl, by decide +kernel, rfl, by decide +kernel, by decide +kernel⟩
def stepsM (x : Str) : PyData := .list ((Txt.split x ", ").map stepM)
def numOf (x : Str) : PyData := numD (numM x)
def lineOf (steps : PyData) : List Str → PyData
  | [a, b, c, d, e, f] => .tuple [.str a, numOf b, .bool (decide (c = "up")), .tuple [numOf d, numOf e, numOf f], steps]
  | _ => .none
/-- what is made of a row's words -/
def partW (word : Str) (rest tail : List Str) : Option (Str × PyData) :=
  if tail.length ≠ 1 then none else
  if word = "line" ∧ rest.length = 6 ∧ (rest.getD 2 "" = "up" ∨ rest.getD 2 "" = "latched") then
    if isLineD (lineOf (stepsM (tail.getD 0 "")) rest) then some (word, lineOf (stepsM (tail.getD 0 "")) rest) else none
  else if word = "bottom" ∧ rest.length = 1 then
    if isBottomD (.tuple [.str (rest.getD 0 ""), stepsM (tail.getD 0 "")]) then some (word, .tuple [.str (rest.getD 0 ""), stepsM (tail.getD 0 "")]) else none
  else if word = "thread" ∧ rest.length = 2 then
    if isThreadD (.tuple [.str (rest.getD 0 ""), numOf (rest.getD 1 ""), stepsM (tail.getD 0 "")]) then some (word, .tuple [.str (rest.getD 0 ""), numOf (rest.getD 1 ""), stepsM (tail.getD 0 "")]) else none
  else none
def partM (row : Str) : Option (Str × PyData) := match Txt.split row ": " with
  | head :: tail => (match Txt.split head " " with
    | word :: rest => partW word rest tail
    | [] => none)
  | [] => none
def partD : Option (Str × PyData) → PyData
  | none => .none
  | some (u, d) => .tuple [.str u, d]
theorem sm_num (x : Str) : Sm (numOf x) := by
  unfold numOf
  cases numM x with
  | none => unfold numD Sm; trivial
  | some i => unfold numD Sm; trivial
theorem SmA_of : ∀ {ds : List PyData}, (∀ d ∈ ds, Sm d) → SmA ds
  | [], _ => by unfold SmA; trivial
  | d :: ds, h => by
    unfold SmA
    exact ⟨h d (List.mem_cons_self ..), SmA_of fun e he => h e (List.mem_cons_of_mem _ he)⟩
theorem sm_tup {ds : List PyData} (hl : ds.length ≤ 10000) (h : ∀ d ∈ ds, Sm d) : Sm (.tuple ds) := by
  unfold Sm
  exact ⟨hl, SmA_of h⟩
theorem sm_lst {ds : List PyData} (hl : ds.length ≤ 10000) (h : ∀ d ∈ ds, Sm d) : Sm (.list ds) := by
  unfold Sm
  exact ⟨hl, SmA_of h⟩
theorem sm_str {x : Str} (h : x.length ≤ 10000) : Sm (.str x) := by
  unfold Sm
  exact h
theorem sm_stepM {x : Str} (h : x.length ≤ 9000) : Sm (stepM x) := by
  obtain ⟨u, r, hs⟩ := split_cons x " "
  have hl := split_le x " "
  have hu : ∀ z ∈ u :: r, z.length ≤ x.length := fun z hz => split_short (y := " ") (by decide) (by rw [hs]; exact hz)
  unfold stepM
  rw [hs] at hl ⊢
  dsimp only
  rw [List.length_cons] at hl
  split
  · refine sm_tup (by show (2 : Nat) ≤ 10000; decide) fun d hd => ?_
    rcases List.mem_cons.mp hd with rfl | hd
    · exact sm_str (by decide)
    · rw [List.mem_singleton.mp hd]
      exact sm_num _
  · refine sm_tup (by rw [List.length_cons, List.length_map]; omega) fun d hd => ?_
    rcases List.mem_cons.mp hd with rfl | hd
    · exact sm_str (by have := hu u (List.mem_cons_self ..); omega)
    · obtain ⟨z, hz, rfl⟩ := List.mem_map.mp hd
      exact sm_str (by have := hu z (List.mem_cons_of_mem _ hz); omega)
theorem sm_stepsM {x : Str} (h : x.length ≤ 9000) : Sm (stepsM x) := by
  have hl := split_le x ", "
  refine sm_lst (by rw [List.length_map]; omega) fun d hd => ?_
  obtain ⟨z, hz, rfl⟩ := List.mem_map.mp hd
  exact sm_stepM (by have := split_short (y := ", ") (by decide) hz; omega)
def spPart (K : PySem.W.Frag) : Sp := fun vs H Q _ => ∃ x : Str, vs = [.str x] ∧ x.length ≤ 9000 ∧ ∀ v H', Ex H H' → Dp K (dif H H') v (partD (partM x)) → Q v H'
theorem sn_part {x : Str} {H : Hp} (h : x.length ≤ 9000) : SpN K (spPart K) [.str x] H (partD (partM x)) := fun H1 e Q q E => ⟨x, rfl, h, fun v H' e' hv => q v H' e' hv⟩
theorem lenI {α : Type} (l : List α) (n : Nat) : decide (V.int (l.length : Int) = V.int (n : Int)) = decide (l.length = n) := by
  by_cases h : l.length = n
  · rw [h, decide_eq_true rfl, decide_eq_true rfl]
  · rw [decide_eq_false h]
    exact int_ne h
theorem at_strs {r : List Str} {i : Nat} (h : i < r.length) : atI (r.map V.str) (i : Int) = some (V.str (r.getD i "")) := atI_nat (by rw [List.getElem?_map, List.getElem?_eq_getElem h, List.getD_eq_getElem?_getD, List.getElem?_eq_getElem h]; rfl)
theorem dd_none {H : Hp} : Dp K H .non (partD none) := .non
theorem et_qN {H0 H : Hp} {σ : L2.St} {p : PyData → Bool} {te : TE} {d : PyData} {E : XK} (h : EvN K H0 te σ H d) (sm : Sm d) : EvT (L2.tB (tCall (spQ K p) [] E (tCons te tNil))) σ H (p d) := fun H1 e Q k =>
  h H1 e _ fun v H2 e2 hv => ⟨v, d, rfl, dpM dif_same hv, sm, fun H3 e3 => ⟨_, rfl, k H3 (e2.trans e3)⟩⟩
theorem ok_part_of (T : Txt w K mg) : FnOk P w K mg base CX0 6 (f_part_of K) (fdAt K (f_part_of K)) ["row"] (spPart K) := by
  obtain ⟨tB, h_BETWEEN⟩ := st_BETWEEN T
  refine (df_part_of T).ok sc_part_of (fun vs H Q E h => ?_) (fun cdv A outer s H vs Q E hr h => ?_)
  · obtain ⟨_, rfl, _⟩ := h
    rfl
  · obtain ⟨x, rfl, hx, q⟩ := h
    refine ⟨_, PSs.nox ((pss_cons (ps_asg (pe_split (pv 0) pe_str) (pg_starK rfl (K := K) rfl (pgs_cons (pg_name (i := 1) sc_part_of.nd rfl (Or.inl rfl)) (pgs_starred (pg_name (i := 2) sc_part_of.nd rfl (Or.inl rfl)) pgs_nil))))
      (pss_cons (ps_asg (pe_split (pv 1) pe_str) (pg_starK rfl (K := K) rfl (pgs_cons (pg_name (i := 3) sc_part_of.nd rfl (Or.inl rfl)) (pgs_starred (pg_name (i := 4) sc_part_of.nd rfl (Or.inl rfl)) pgs_nil))))
      (pss_cons (ps_if (pt_cmpR op_ne (pe_callB (call_lenK (K := K) rfl) (by rfl) (fr_len T) PySem.boot_len (pa_cons (pv 2) pa_nil)) pe_int (nomark _)) (pss_one (ps_ret pe_non)) pss_nil)
      (pss_cons (ps_setLc (i := 5) (own := [("text", 6)]) (g := gName 6) (tt := tYes) rfl sc_part_of.nd rfl rfl (sw_true rfl rfl rfl (by decide +kernel)) (pi_listK (K := K) rfl (pe_split (pe_ix (ix_listK (K := K) rfl) (pv 2) pe_int (fun _ _ => rfl)) (pe_glob (v := .str ", ") rfl h_BETWEEN ⟨_, rfl⟩))) (blkOk_by (N := ["row", "head", "tail", "word", "rest", "steps", "text", "guard", "one", "found"]) (sc := defScope s_part_of) (by decide +kernel)) (fun _ _ _ _ _ => pg_name (i := 6) sc_part_of.nd rfl (Or.inl rfl)) (fun _ _ _ _ _ => pts_nil) (fun _ _ _ _ _ => (pe_call (ok_step_of T) (hr.mono (by decide)) rfl (gl_step_of T) (df_step_of T).kp (bi_step_of T) .nil pass0 (pa_cons (pv 6) pa_nil))))
      (pss_cons (ps_if (PW.pt (pw_and (pt_cmpR op_eq (pv 3) pe_str (nomark _)) (pw_and (pt_cmpR op_eq (pe_callB (call_lenK (K := K) rfl) (by rfl) (fr_len T) PySem.boot_len (pa_cons (pv 4) pa_nil)) pe_int (nomark _)) (pw_and1 (pt_cmpR (op_inK (K := K) rfl) (pe_ix (ix_listK (K := K) rfl) (pv 4) pe_int (fun _ _ => rfl)) (pe_tup (pa_cons pe_str (pa_cons pe_str pa_nil))) (by rfl)))))) (pss_cons (ps_set (i := 7) sc_part_of.nd rfl (Or.inl rfl) (pe_callTy (call_tupleK (K := K) rfl) (by rfl) (fr_tuple T) (by decide +kernel) (pa_cons (pe_lc (own := [("one", 8)]) (g := gName 8) (tt := tYes) rfl sc_part_of.nd (pi_listK (K := K) rfl (pe_slice (sl_listK (K := K) rfl) (pv 4) (po_some pe_int) po_none)) (blkOk_by (N := ["row", "head", "tail", "word", "rest", "steps", "text", "guard", "one", "found"]) (sc := defScope s_part_of) (by decide +kernel)) (fun _ _ _ _ _ => pg_name (i := 8) sc_part_of.nd rfl (Or.inl rfl)) (fun _ _ _ _ _ => pts_nil) (fun _ _ _ _ _ => (pe_call (ok_number_of T) (hr.mono (by decide)) rfl (gl_number_of T) (df_number_of T).kp (bi_number_of T) .nil pass0 (pa_cons (pv 8) pa_nil)))) pa_nil)))
      (pss_cons (ps_set (i := 9) sc_part_of.nd rfl (Or.inl rfl) (pe_tup (pa_cons (pe_ix (ix_listK (K := K) rfl) (pv 4) pe_int (fun _ _ => rfl)) (pa_cons (pe_call (ok_number_of T) (hr.mono (by decide)) rfl (gl_number_of T) (df_number_of T).kp (bi_number_of T) .nil pass0 (pa_cons (pe_ix (ix_listK (K := K) rfl) (pv 4) pe_int (fun _ _ => rfl)) pa_nil)) (pa_cons (pe_cmpR op_eq (pe_ix (ix_listK (K := K) rfl) (pv 4) pe_int (fun _ _ => rfl)) pe_str (nomark _)) (pa_cons (pv 7) (pa_cons (pv 5) pa_nil)))))))
      (pss_one (ps_ret (pe_ifExp (pt_val (pe_call (ok_is_line T) (hr.mono (by decide)) rfl (gl_is_line T) (df_is_line T).kp (bi_is_line T) .nil pass0 (pa_cons (pv 9) pa_nil))) (pe_tup (pa_cons (pv 3) (pa_cons (pv 9) pa_nil))) pe_non))))) pss_nil)
      (pss_cons (ps_if (PW.pt (pw_and (pt_cmpR op_eq (pv 3) pe_str (nomark _)) (pw_and1 (pt_cmpR op_eq (pe_callB (call_lenK (K := K) rfl) (by rfl) (fr_len T) PySem.boot_len (pa_cons (pv 4) pa_nil)) pe_int (nomark _))))) (pss_one (ps_ret (pe_ifExp (pt_val (pe_call (ok_is_bottom T) (hr.mono (by decide)) rfl (gl_is_bottom T) (df_is_bottom T).kp (bi_is_bottom T) .nil pass0 (pa_cons (pe_tup (pa_cons (pe_ix (ix_listK (K := K) rfl) (pv 4) pe_int (fun _ _ => rfl)) (pa_cons (pv 5) pa_nil))) pa_nil))) (pe_tup (pa_cons (pv 3) (pa_cons (pe_tup (pa_cons (pe_ix (ix_listK (K := K) rfl) (pv 4) pe_int (fun _ _ => rfl)) (pa_cons (pv 5) pa_nil))) pa_nil))) pe_non))) pss_nil)
      (pss_cons (ps_if (PW.pt (pw_and (pt_cmpR op_eq (pv 3) pe_str (nomark _)) (pw_and1 (pt_cmpR op_eq (pe_callB (call_lenK (K := K) rfl) (by rfl) (fr_len T) PySem.boot_len (pa_cons (pv 4) pa_nil)) pe_int (nomark _))))) (pss_cons (ps_set (i := 9) sc_part_of.nd rfl (Or.inl rfl) (pe_tup (pa_cons (pe_ix (ix_listK (K := K) rfl) (pv 4) pe_int (fun _ _ => rfl)) (pa_cons (pe_call (ok_number_of T) (hr.mono (by decide)) rfl (gl_number_of T) (df_number_of T).kp (bi_number_of T) .nil pass0 (pa_cons (pe_ix (ix_listK (K := K) rfl) (pv 4) pe_int (fun _ _ => rfl)) pa_nil)) (pa_cons (pv 5) pa_nil)))))
      (pss_one (ps_ret (pe_ifExp (pt_val (pe_call (ok_is_thread T) (hr.mono (by decide)) rfl (gl_is_thread T) (df_is_thread T).kp (bi_is_thread T) .nil pass0 (pa_cons (pv 9) pa_nil))) (pe_tup (pa_cons (pv 3) (pa_cons (pv 9) pa_nil))) pe_non)))) pss_nil)
      (pss_one (ps_ret pe_non)))))))))), ?_⟩
    obtain ⟨hd, tl, hs⟩ := split_cons x ": "
    have hu : ∀ z ∈ hd :: tl, z.length ≤ x.length := fun z hz => split_short (y := ": ") (by decide) (by rw [hs]; exact hz)
    have hlen : (hd :: tl).length ≤ x.length + 2 := by rw [← hs]; exact split_le x ": "
    have hhd := hu hd (List.mem_cons_self ..)
    obtain ⟨u, r, hs2⟩ := split_cons hd " "
    have hu2 : ∀ z ∈ u :: r, z.length ≤ hd.length := fun z hz => split_short (y := " ") (by decide) (by rw [hs2]; exact hz)
    have hlen2 : (u :: r).length ≤ hd.length + 2 := by rw [← hs2]; exact split_le hd " "
    have hpm : partM x = partW u r tl := by
      unfold partM
      rw [hs]
      dsimp only
      rw [hs2]
    rw [List.length_cons] at hlen hlen2
    have h0 := el_split (to := tVar 0) (te := tC (V.str (Str.ofString ": "))) (σ := [some (.str x), none, none, none, none, none, none, none, none, none]) (H := H) (ev_var rfl) ev_c (by decide) (by omega)
    rw [hs, List.map_cons] at h0
    refine q_starL h0 (by rw [List.length_map]; omega) fun p H1 e1 hp np => ⟨_, _, rfl, _, _, rfl, rfl, ?_⟩
    dsimp only
    have h1 := el_split (to := tVar 1) (te := tC (V.str (Str.ofString " "))) (σ := [some (.str x), some (.str hd), some (.ref p), none, none, none, none, none, none, none]) (H := H1) (ev_var rfl) ev_c (by decide) (by omega)
    rw [hs2, List.map_cons] at h1
    refine q_starL h1 (by rw [List.length_map]; omega) fun p2 H2 e2 hp2 np2 => ⟨_, _, rfl, _, _, rfl, rfl, ?_⟩
    dsimp only
    have e02 := e1.trans e2
    have hp' := e2 _ _ hp
    clear h0 h1 e1 e2 np np2 hp
    refine q_when (b := !decide (tl.length = 1)) (et_is (et_test (ev_op (ev_lenS (ev_var rfl) (.inl (sq_of hp'))) ev_c (rv_ne rfl))) (by rw [List.length_map]; exact congrArg _ (lenI tl 1))) (fun hb H3 e3 => ?_) (fun hb H3 e3 => ?_)
    · refine sn_ret (H0 := H) (en_sc (d := partD (partM x)) ev_c fun H => ?_) fun v H4 e4 hv => q v H4 ((e02.trans e3).trans e4) hv
      have hn : tl.length ≠ 1 := by simpa using hb
      rw [hpm]
      unfold partW
      rw [if_pos hn]
      exact dd_none
    · have hn : tl.length = 1 := by simpa using hb
      obtain ⟨t0, rfl⟩ : ∃ t0, tl = [t0] := by
        match tl, hn with
        | [a], _ => exact ⟨a, rfl⟩
      have ht0 := hu t0 (by simp)
      have e03 := e02.trans e3
      have hpw : partW u r [t0] = if u = "line" ∧ r.length = 6 ∧ (r.getD 2 "" = "up" ∨ r.getD 2 "" = "latched") then
          if isLineD (lineOf (stepsM t0) r) then some (u, lineOf (stepsM t0) r) else none
        else if u = "bottom" ∧ r.length = 1 then
          if isBottomD (.tuple [.str (r.getD 0 ""), stepsM t0]) then some (u, .tuple [.str (r.getD 0 ""), stepsM t0]) else none
        else if u = "thread" ∧ r.length = 2 then
          if isThreadD (.tuple [.str (r.getD 0 ""), numOf (r.getD 1 ""), stepsM t0]) then some (u, .tuple [.str (r.getD 0 ""), numOf (r.getD 1 ""), stepsM t0]) else none
        else none := by
        unfold partW
        rw [if_neg (fun z => z rfl)]
        rfl
      have hls := split_le t0 ", "
      have sms := sm_stepsM (x := t0) (by omega)
      refine qn_asg (H0 := H) (d := stepsM t0) (en_lcNL (xs := (Txt.split t0 ", ").map V.str) (el_split (a := t0) (ev_op (ev_var rfl) ev_c (rv_ixL (sq_of (e3 _ _ hp')) at0)) ev_c (by decide) (by omega)) e03 (by rw [List.length_map]; omega) (by rw [List.length_map, List.length_map]) (fun _ => rfl) fun i y d H' e' hi hd2 => ?_) fun v5 H4 e4 hv5 => ?_
      · rw [List.getElem?_map] at hi hd2
        obtain ⟨z, hz, rfl⟩ := Option.map_eq_some_iff.mp hi
        rw [hz] at hd2
        cases hd2
        have := split_short (y := ", ") (by decide) (List.mem_of_getElem? hz)
        exact en_call (Ex.refl _) (ea_cons (ev_var rfl) ea_nil) (sn_step (by omega))
      · have e04 := e03.trans e4
        have hq2 := (e3.trans e4) _ _ hp2
        have hrl : ∀ i : Nat, (r.getD i "").length ≤ 9000 := fun i => by
          rw [List.getD_eq_getElem?_getD]
          cases hz : r[i]? with
          | none => decide
          | some z =>
            have := hu2 z (List.mem_cons_of_mem _ (List.mem_of_getElem? hz))
            show z.length ≤ 9000
            omega
        clear hp' hp2 e02 e03 e3
        refine q_when (b := decide (u = "line") && (decide (r.length = 6) && decide (r.getD 2 "" = "up" ∨ r.getD 2 "" = "latched"))) (et_and (et_is (et_test (ev_op (ev_var rfl) ev_c (rv_eq rfl))) decS) fun b1 => et_and (et_is (et_test (ev_op (ev_lenS (ev_var rfl) (.inl (sq_of hq2))) ev_c (rv_eq rfl))) (by rw [List.length_map]; exact lenI r 6)) fun b2 => et_is (et_test (ev_inU (ev_op (ev_var rfl) ev_c (rv_ixL (sq_of hq2) (at_strs (i := 2) (by have := of_decide_eq_true b2; omega)))) (eu_tup (ea_cons ev_c (ea_cons ev_c ea_nil)) (by show (2 : Nat) ≤ 100000; decide)) rfl rfl)) ?_) (fun hb H5 e5 => ?_) (fun hb H5 e5 => ?_)
        · have z := inV_strs (r.getD 2 "") ["up", "latched"]
          refine Eq.trans z ?_
          congr 1
          simp
        · obtain ⟨b1, b2⟩ := band hb
          obtain ⟨b2, b3⟩ := band b2
          have b1 := of_decide_eq_true b1
          have b2 := of_decide_eq_true b2
          have b3 := of_decide_eq_true b3
          rw [if_pos ⟨b1, b2, b3⟩] at hpw
          match r, b2, hpw, hq2, hrl with
          | [a, b, c, d, e, f], _, hpw, hq2, hrl =>
            have e05 := e04.trans e5
            have hq5 := e5 _ _ hq2
            have hv5' := dpM (dif_l (H := H) e5) hv5
            have la := hrl 0
            have lb := hrl 1
            have ld := hrl 3
            have le := hrl 4
            have lf := hrl 5
            refine qn_asg (K := K) (H0 := H) (d := .tuple [numOf d, numOf e, numOf f]) (en_u (vs := [numV (numM d), numV (numM e), numV (numM f)]) e05 (eu_tupleL (el_lcNL (xs := [V.str d, V.str e, V.str f]) (fun _ => true) (fun i => numV (numM (([d, e, f] : List Str).getD i ""))) (el_sl (lo := some 3) (hi := none) (ev_var rfl) (eo_some ev_c) eo_none (sq_of hq5)) (by show (3 : Nat) ≤ 40000; decide) (fun _ => rfl) (fun i y H' e' hi H'' e'' Q q => q H'' (Ex.refl _)) fun i y H' e' hi _ => ?_)) fun H => .cons (numV_dp _ H) (.cons (numV_dp _ H) (.cons (numV_dp _ H) .nil))) fun v7 H6 e6 hv7 => ?_
            · have hi3 : i < 3 := (List.getElem?_eq_some_iff.mp hi).1
              match i, hi3, hi with
              | 0, _, hi => cases hi; exact ev_call (ea_cons (ev_var rfl) ea_nil) (sv_num (by show d.length ≤ 100000; exact Nat.le_trans ld (by decide)))
              | 1, _, hi => cases hi; exact ev_call (ea_cons (ev_var rfl) ea_nil) (sv_num (by show e.length ≤ 100000; exact Nat.le_trans le (by decide)))
              | 2, _, hi => cases hi; exact ev_call (ea_cons (ev_var rfl) ea_nil) (sv_num (by show f.length ≤ 100000; exact Nat.le_trans lf (by decide)))
            · have e06 := e05.trans e6
              have hq6 := e6 _ _ hq5
              have hv5'' := dpM (dif_l (H := H) e6) hv5'
              refine qn_asg (H0 := H) (d := lineOf (stepsM t0) [a, b, c, d, e, f]) (en_tup e06 (na_cons (en_sc (ev_op (ev_var rfl) ev_c (rv_ixL (sq_of hq6) at0)) fun _ => .str a) (na_cons (en_sc (ev_call (ea_cons (ev_op (ev_var rfl) ev_c (rv_ixL (sq_of hq6) (at_strs (i := 1) (by show (1 : Nat) < 6; decide)))) ea_nil) (sv_num (by show b.length ≤ 100000; exact Nat.le_trans lb (by decide)))) fun H => numV_dp _ H) (na_cons (en_sc (ev_is (ev_op (ev_op (ev_var rfl) ev_c (rv_ixL (sq_of hq6) (at_strs (i := 2) (by show (2 : Nat) < 6; decide)))) ev_c (rv_eq rfl)) (congrArg V.bl decS)) fun _ => .bl _) (na_cons (en_ev (ev_var rfl) hv7) (na_cons (en_ev (ev_var rfl) hv5'') na_nil))))) (by show (5 : Nat) ≤ 100000; decide)) fun v9 H7 e7 hv9 => ?_
              have smf : Sm (lineOf (stepsM t0) [a, b, c, d, e, f]) := sm_tup (by show (5 : Nat) ≤ 10000; decide) fun z hz => by
                rcases List.mem_cons.mp hz with rfl | hz
                · exact sm_str (Nat.le_trans la (by decide))
                rcases List.mem_cons.mp hz with rfl | hz
                · exact sm_num _
                rcases List.mem_cons.mp hz with rfl | hz
                · unfold Sm; trivial
                rcases List.mem_cons.mp hz with rfl | hz
                · refine sm_tup (by show (3 : Nat) ≤ 10000; decide) fun z hz => ?_
                  rcases List.mem_cons.mp hz with rfl | hz
                  · exact sm_num _
                  rcases List.mem_cons.mp hz with rfl | hz
                  · exact sm_num _
                  rw [List.mem_singleton.mp hz]
                  exact sm_num _
                rw [List.mem_singleton.mp hz]
                exact sms
              have e07 := e06.trans e7
              refine sn_ret (H0 := H) (d := partD (partM x)) (en_if (et_test (ev_call (ea_cons (ev_var rfl) ea_nil) (sv_q (dpM dif_same hv9) smf))) (fun hk => ?_) (fun hk => ?_)) fun v H8 e8 hv => q v H8 (e07.trans e8) hv
              · rw [hpm, hpw, if_pos hk]
                exact en_tup e07 (na_cons (en_sc (ev_var rfl) fun _ => .str u) (na_cons (en_ev (ev_var rfl) hv9) na_nil)) (by show (2 : Nat) ≤ 100000; decide)
              · rw [hpm, hpw, if_neg (by rw [hk]; decide)]
                exact en_sc ev_c fun _ => dd_none
        · have hno : ¬ (u = "line" ∧ r.length = 6 ∧ (r.getD 2 "" = "up" ∨ r.getD 2 "" = "latched")) := fun z => by
            rw [decide_eq_true z.1, decide_eq_true z.2.1, decide_eq_true z.2.2] at hb
            cases hb
          rw [if_neg hno] at hpw
          have e05 := e04.trans e5
          have hq5 := e5 _ _ hq2
          have hv5' := dpM (dif_l (H := H) e5) hv5
          clear hb hno hq2 hv5 e04 e5
          refine q_when (b := decide (u = "bottom") && decide (r.length = 1)) (et_and (et_is (et_test (ev_op (ev_var rfl) ev_c (rv_eq rfl))) decS) fun b1 => et_is (et_test (ev_op (ev_lenS (ev_var rfl) (.inl (sq_of hq5))) ev_c (rv_eq rfl))) (by rw [List.length_map]; exact lenI r 1)) (fun hb H6 e6 => ?_) (fun hb H6 e6 => ?_)
          · obtain ⟨b1, b2⟩ := band hb
            have b1 := of_decide_eq_true b1
            have b2 := of_decide_eq_true b2
            rw [if_pos ⟨b1, b2⟩] at hpw
            have hq6 := e6 _ _ hq5
            have hv6 := dpM (dif_l (H := H) e6) hv5'
            have e06 := e05.trans e6
            have hev : ∀ H', Ex H6 H' → EvN K H (tTup (tCons (tOp (rIxL K) (tVar 4) (tC (.int 0))) (tCons (tVar 5) tNil))) [some (.str x), some (.str hd), some (.ref p), some (.str u), some (.ref p2), some v5, none, none, none, none] H' (.tuple [.str (r.getD 0 ""), stepsM t0]) := fun H' e' => en_tup (e06.trans e') (na_cons (en_sc (ev_op (ev_var rfl) ev_c (rv_ixL (sq_of (e' _ _ hq6)) (at_strs (i := 0) (by omega)))) fun _ => .str _) (na_cons (en_ev (ev_var rfl) (dpM (dif_l e') hv6)) na_nil)) (by show (2 : Nat) ≤ 100000; decide)
            have smf : Sm (.tuple [.str (r.getD 0 ""), stepsM t0]) := sm_tup (by show (2 : Nat) ≤ 10000; decide) fun z hz => by
              rcases List.mem_cons.mp hz with rfl | hz
              · exact sm_str (Nat.le_trans (hrl 0) (by decide))
              rw [List.mem_singleton.mp hz]
              exact sms
            refine sn_ret (H0 := H) (d := partD (partM x)) (en_if (et_qN (hev H6 (Ex.refl _)) smf) (fun hk => ?_) (fun hk => ?_)) fun v H8 e8 hv => q v H8 (e06.trans e8) hv
            · rw [hpm, hpw, if_pos hk]
              exact en_tup e06 (na_cons (en_sc (ev_var rfl) fun _ => .str u) (na_cons (hev H6 (Ex.refl _)) na_nil)) (by show (2 : Nat) ≤ 100000; decide)
            · rw [hpm, hpw, if_neg (by rw [hk]; decide)]
              exact en_sc ev_c fun _ => dd_none
          · have hno : ¬ (u = "bottom" ∧ r.length = 1) := fun z => by
              rw [decide_eq_true z.1, decide_eq_true z.2] at hb
              cases hb
            rw [if_neg hno] at hpw
            have e06 := e05.trans e6
            have hq6 := e6 _ _ hq5
            have hv6 := dpM (dif_l (H := H) e6) hv5'
            clear hb hno hq5 hv5' e05 e6
            refine q_when (b := decide (u = "thread") && decide (r.length = 2)) (et_and (et_is (et_test (ev_op (ev_var rfl) ev_c (rv_eq rfl))) decS) fun b1 => et_is (et_test (ev_op (ev_lenS (ev_var rfl) (.inl (sq_of hq6))) ev_c (rv_eq rfl))) (by rw [List.length_map]; exact lenI r 2)) (fun hb H7 e7 => ?_) (fun hb H7 e7 => ?_)
            · obtain ⟨b1, b2⟩ := band hb
              have b1 := of_decide_eq_true b1
              have b2 := of_decide_eq_true b2
              rw [if_pos ⟨b1, b2⟩] at hpw
              have hq7 := e7 _ _ hq6
              have hv7 := dpM (dif_l (H := H) e7) hv6
              have e07 := e06.trans e7
              refine qn_asg (H0 := H) (d := .tuple [.str (r.getD 0 ""), numOf (r.getD 1 ""), stepsM t0]) (en_tup e07 (na_cons (en_sc (ev_op (ev_var rfl) ev_c (rv_ixL (sq_of hq7) (at_strs (i := 0) (by omega)))) fun _ => .str _) (na_cons (en_sc (ev_call (ea_cons (ev_op (ev_var rfl) ev_c (rv_ixL (sq_of hq7) (at_strs (i := 1) (by omega)))) ea_nil) (sv_num (Nat.le_trans (hrl 1) (by decide)))) fun H => numV_dp _ H) (na_cons (en_ev (ev_var rfl) hv7) na_nil))) (by show (3 : Nat) ≤ 100000; decide)) fun v9 H8 e8 hv9 => ?_
              have smf : Sm (.tuple [.str (r.getD 0 ""), numOf (r.getD 1 ""), stepsM t0]) := sm_tup (by show (3 : Nat) ≤ 10000; decide) fun z hz => by
                rcases List.mem_cons.mp hz with rfl | hz
                · exact sm_str (Nat.le_trans (hrl 0) (by decide))
                rcases List.mem_cons.mp hz with rfl | hz
                · exact sm_num _
                rw [List.mem_singleton.mp hz]
                exact sms
              have e08 := e07.trans e8
              refine sn_ret (H0 := H) (d := partD (partM x)) (en_if (et_test (ev_call (ea_cons (ev_var rfl) ea_nil) (sv_q (dpM dif_same hv9) smf))) (fun hk => ?_) (fun hk => ?_)) fun v H9 e9 hv => q v H9 (e08.trans e9) hv
              · rw [hpm, hpw, if_pos hk]
                exact en_tup e08 (na_cons (en_sc (ev_var rfl) fun _ => .str u) (na_cons (en_ev (ev_var rfl) hv9) na_nil)) (by show (2 : Nat) ≤ 100000; decide)
              · rw [hpm, hpw, if_neg (by rw [hk]; decide)]
                exact en_sc ev_c fun _ => dd_none
            · have hno : ¬ (u = "thread" ∧ r.length = 2) := fun z => by
                rw [decide_eq_true z.1, decide_eq_true z.2] at hb
                cases hb
              rw [if_neg hno] at hpw
              have e07 := e06.trans e7
              refine sn_ret (H0 := H) (d := partD (partM x)) (by rw [hpm, hpw]; exact en_sc ev_c fun _ => dd_none) fun v H8 e8 hv => q v H8 (e07.trans e8) hv
end
end KW
end
section
set_option Elab.async false
set_option linter.all false
set_option autoImplicit false
set_option maxRecDepth 100000
set_option maxHeartbeats 1000000
/-! texts.py: Reader -/
namespace KW
open PySem PySem.Spec PyProof.Rows L2 He KR Evl
local macro_rules
  | `(tactic| walk_at "na") => `(tactic| with_reducible (first | exact cl_Line (by assumption) | exact cl_Job (by assumption) | exact cl_Engine (by assumption) | exact cl_Plan (by assumption) | exact cl_Run (by assumption) | exact cl_Bench (by assumption) | exact na_Line_name (by assumption) | exact na_Line_rank (by assumption) | exact na_Line_is_up (by assumption) | exact na_Line_guard (by assumption) | exact na_Line_top (by assumption) | exact na_Line_let_by (by assumption) | exact na_Line_shut_till (by assumption) | exact na_Line_since (by assumption) | exact na_Line_fresh (by assumption) | exact na_Line_counts (by assumption) | exact na_Line_longest (by assumption) | exact na_Job_word (by assumption) | exact na_Job_name (by assumption) | exact na_Job_rank (by assumption) | exact na_Job_steps (by assumption) | exact na_Job_masks_then (by assumption) | exact na_Job_at (by assumption) | exact na_Job_left (by assumption) | exact na_Engine_plan (by assumption) | exact na_Engine_ways (by assumption) | exact na_Engine_tops (by assumption) | exact na_Engine_bottom (by assumption) | exact na_Engine_put_off (by assumption) | exact na_Engine_woken (by assumption) | exact na_Engine_begun (by assumption) | exact na_Engine_depth (by assumption) | exact na_Engine_now (by assumption) | exact na_Engine_row (by assumption) | exact na_Engine_depths (by assumption) | exact na_Engine_last_begun (by assumption) | exact na_Plan_row (by assumption) | exact na_Plan_low (by assumption) | exact na_Plan_late (by assumption) | exact na_Run_row (by assumption) | exact na_Run_depths (by assumption) | exact na_Run_table (by assumption) | exact na_Run_longest (by assumption) | exact na_Bench_engine (by assumption) | exact na_Bench_fresh (by assumption) | exact na_Bench_told_so_far (by assumption) | exact na_Bench_rows (by assumption)))
local macro_rules
  | `(tactic| walk_at "oi") => `(tactic| first | assumption | exact oi2 0 (by assumption) rfl | exact oi2 1 (by assumption) rfl | exact oi2 2 (by assumption) rfl | exact oi2 3 (by assumption) rfl | exact oi2 4 (by assumption) rfl | exact oi2 5 (by assumption) rfl | exact oi2 6 (by assumption) rfl | exact oi2 7 (by assumption) rfl | exact oi2 8 (by assumption) rfl)
local macro_rules
  | `(tactic| walk_at "ev") => `(tactic| repeat' (first
    | exact ev_c | exact ev_var rfl | exact ea_nil | exact rv_I0 | exact ru_neg | exact eo_none
    | exact rv_eq rfl | exact rv_ne rfl
    | exact rv_ixT (by assumption) (by rfl) | exact rv_ixL (by assumption) (by rfl)
    | exact sv_q (by assumption) (by assumption) | exact sv_within (by assumption)
    | exact Or.inr (by assumption) | exact Or.inl (by assumption) | (show (_ : String) ∈ _; decide)
    | with_reducible (first | apply ev_isi | apply ev_lenS | apply ev_if' | apply et_test | apply et_B | apply et_not | apply et_and | apply et_or | apply ev_andV | apply ev_orV | apply ev_notV | apply ea_cons | apply eo_some | apply ev_fl | apply ev_op | apply ev_un | apply ev_call)
    | walk_at "na" | walk_at "oi" | (show List.lookup _ _ = _; rfl)
    | assumption
    | (with_reducible intro hh; first | exact absurd (show true = false from hh) (by decide) | exact absurd (show false = true from hh) (by decide) | clear hh)))

section
variable {P : Program} {w : World} {K : PySem.W.Frag} {mg : Str → Option Value} {base : Heap}
theorem sc_Reader_init : FnScope ["self"] ["self"] (defScope s_Reader_init) := ⟨rfl, rfl, rfl, by decide +kernel, rfl, by decide +kernel, by decide +kernel⟩
theorem sc_Reader_take : FnScope ["self", "part", "word", "found", "lot", "other", "behind"] ["self", "part"] (defScope s_Reader_take) := ⟨rfl, rfl, rfl, by decide +kernel, rfl, by decide +kernel, by decide +kernel⟩
def lotsK (l1 l2 l3 : Addr) : List (L2.Key × V) := [(Sum.inr "line", .ref l1), (Sum.inr "bottom", .ref l2), (Sum.inr "thread", .ref l3)]
/-- a reader -/
structure RdG where
  a : Addr
  dx : Addr
  d : Addr
  l1 : Addr
  l2 : Addr
  l3 : Addr
def RdG.obs (K : PySem.W.Frag) (r : RdG) (x1 x2 x3 : List V) : List (Addr × HO) := [(r.a, .ins (g_Reader K) r.dx [("lots", .ref r.d)]), (r.d, .dK (lotsK r.l1 r.l2 r.l3)), (r.l1, .lst x1), (r.l2, .lst x2), (r.l3, .lst x3)]
def spRdNew (K : PySem.W.Frag) : Sp := fun vs H Q _ => ∃ (G : Hp) (F : List (Addr × HO)) (a dx : Addr), vs = [.ref a] ∧ Own G H ((a, .ins (g_Reader K) dx []) :: F) ∧ ∀ (r : RdG) H', r.a = a → Own G H' (r.obs K [] [] [] ++ F) → Q .non H'
theorem prs_nil {σ : L2.St} {H : Hp} {Q : List (V × V) → Hp → Prop} (h : Q [] H) : tPairs [] σ H Q := h
theorem prs_consL {te : TE} {k : V} {r : List (TE × TE)} {σ : L2.St} {H : Hp} {xs : List V} {Q : List (V × V) → Hp → Prop} (h : EvL te σ H xs) (q : ∀ p H1, H p = none → Ex H H1 → H1 p = some (.lst xs) → tPairs r σ H1 fun ps H3 => Q ((k, .ref p) :: ps) H3) : tPairs ((tC k, te) :: r) σ H Q := by
  show te σ H fun y H2 => tPairs r σ H2 fun ps H3 => Q ((k, y) :: ps) H3
  exact h H (Ex.refl _) _ fun p H1 np e1 hp => q p H1 np e1 hp
theorem prs_consU {te : TE} {k : V} {r : List (TE × TE)} {σ : L2.St} {H : Hp} {xs : List V} {Q : List (V × V) → Hp → Prop} (h : EvU te σ H xs) (q : ∀ p H1, H p = none → Ex H H1 → H1 p = some (.tup xs) → tPairs r σ H1 fun ps H3 => Q ((k, .ref p) :: ps) H3) : tPairs ((tC k, te) :: r) σ H Q := by
  show te σ H fun y H2 => tPairs r σ H2 fun ps H3 => Q ((k, y) :: ps) H3
  exact h H (Ex.refl _) _ fun p H1 np e1 hp => q p H1 np e1 hp
theorem ok_Reader_init (T : Txt w K mg) : FnOk P w K mg base CX0 1 (f_Reader_init K) (fdAt K (f_Reader_init K)) ["self"] (spRdNew K) := by
  refine (df_Reader_init T).ok sc_Reader_init (fun vs H Q E h => ?_) (fun cdv A outer s H vs Q E hr h => ?_)
  · obtain ⟨_, _, _, _, rfl, _⟩ := h
    rfl
  · obtain ⟨G, F, a, dx, rfl, o, q⟩ := h
    refine ⟨_, PSs.nox ((pss_one (ps_fldK (K := K) rfl (pv 0) (pe_disp (pps_cons pe_str (pe_lst pa_nil) (pps_cons pe_str (pe_lst pa_nil) (pps_cons pe_str (pe_lst pa_nil) pps_nil))) (by rfl) (by rfl) (fun z => by cases z) (by decide))))), ?_⟩
    refine show tDisp _ _ _ _ from fun p hp => ?_
    have o1 : Own G (upd H p (.dK [])) ((p, .dK []) :: (a, .ins (g_Reader K) dx []) :: F) := Own.new o hp
    refine prs_consL (xs := []) (el_lst ea_nil (by decide)) fun l1 H1 n1 e1 h1 => ?_
    have o2 := own_add o1 e1 n1 h1
    refine prs_consL (xs := []) (el_lst ea_nil (by decide)) fun l2 H2 n2 e2 h2 => ?_
    have o3 := own_add o2 e2 n2 h2
    refine prs_consL (xs := []) (el_lst ea_nil (by decide)) fun l3 H3 n3 e3 h3 => ?_
    have o4 : Own G H3 ((l3, .lst []) :: (l2, .lst []) :: (l1, .lst []) :: (p, .dK []) :: (a, .ins (g_Reader K) dx []) :: F) := own_add o3 e3 n3 h3
    refine prs_nil ⟨oi2 3 o4 rfl, lotsK l1 l2 l3, rfl, by show (3 : Nat) ≤ 15; decide, ?_⟩
    have o5 : Own G (upd H3 p (.dK (lotsK l1 l2 l3))) ((l3, .lst []) :: (l2, .lst []) :: (l1, .lst []) :: (p, .dK (lotsK l1 l2 l3)) :: (a, .ins (g_Reader K) dx []) :: F) := own_set (n := 3) o4 rfl
    rw [show mergeK [] (lotsK l1 l2 l3) = lotsK l1 l2 l3 from rfl]
    refine ⟨_, rfl, a, g_Reader K, dx, [], rfl, oi2 4 o5 rfl, cl_Reader T, na_Reader_lots T, by show (0 : Nat) < 1000; decide, ?_⟩
    have o6 : Own G (upd (upd H3 p (.dK (lotsK l1 l2 l3))) a (.ins (g_Reader K) dx [("lots", .ref p)])) ((l3, .lst []) :: (l2, .lst []) :: (l1, .lst []) :: (p, .dK (lotsK l1 l2 l3)) :: (a, .ins (g_Reader K) dx [("lots", .ref p)]) :: F) := own_set (n := 4) o5 rfl
    refine q ⟨a, dx, p, l1, l2, l3⟩ _ rfl (o6.perm ?_)
    refine pm_of fun b x => ?_
    unfold RdG.obs
    simp only [List.count_append, List.count_cons, List.count_nil, List.cons_append, List.nil_append]
    omega
/-! what it takes -/
def lotOf (u : Str) (R B T : List PyData) : List PyData := if u = "line" then R else if u = "bottom" then B else T
def mostOf (u : Str) : Nat := if u = "line" then 5 else 4
def behindNs (u : Str) : List Str := if u = "line" then ["bottom", "thread"] else if u = "bottom" then ["thread"] else []
def t1B (u : Str) (d : PyData) (ds : List PyData) : Bool := decide (ds.length = mostOf u) || decide (nameD d ∈ ds.map nameD)
def t2B (u : Str) (d : PyData) (ds : List PyData) : Bool := !decide (u = "bottom") && !unlikeD (ds ++ [d])
def t3B (u : Str) (R B T : List PyData) : Bool := (behindNs u).any (fun m => !(lotOf m R B T).isEmpty) || (!decide (u = "line") && R.isEmpty)
def takeM (R B T : List PyData) : Option (Str × PyData) → Option (List PyData × List PyData × List PyData)
  | none => none
  | some (u, d) => if t1B u d (lotOf u R B T) then none else if t2B u d (lotOf u R B T) then none else if t3B u R B T then none else
    some (if u = "line" then (R ++ [d], B, T) else if u = "bottom" then (R, B ++ [d], T) else (R, B, T ++ [d]))
theorem take_1 {u : Str} {d : PyData} {R B T : List PyData} (h : t1B u d (lotOf u R B T) = true) : takeM R B T (some (u, d)) = none := by
  show (if t1B u d (lotOf u R B T) then _ else _) = _
  rw [if_pos h]
theorem take_2 {u : Str} {d : PyData} {R B T : List PyData} (h : t1B u d (lotOf u R B T) = false) (h2 : t2B u d (lotOf u R B T) = true) : takeM R B T (some (u, d)) = none := by
  show (if t1B u d (lotOf u R B T) then _ else if t2B u d (lotOf u R B T) then _ else _) = _
  rw [if_neg (by rw [h]; decide), if_pos h2]
theorem take_3 {u : Str} {d : PyData} {R B T : List PyData} (h : t1B u d (lotOf u R B T) = false) (h2 : t2B u d (lotOf u R B T) = false) (h3 : t3B u R B T = true) : takeM R B T (some (u, d)) = none := by
  show (if t1B u d (lotOf u R B T) then _ else if t2B u d (lotOf u R B T) then _ else if t3B u R B T then _ else _) = _
  rw [if_neg (by rw [h]; decide), if_neg (by rw [h2]; decide), if_pos h3]
theorem take_4 {u : Str} {d : PyData} {R B T : List PyData} (h : t1B u d (lotOf u R B T) = false) (h2 : t2B u d (lotOf u R B T) = false) (h3 : t3B u R B T = false) : takeM R B T (some (u, d)) = some (if u = "line" then (R ++ [d], B, T) else if u = "bottom" then (R, B ++ [d], T) else (R, B, T ++ [d])) := by
  show (if t1B u d (lotOf u R B T) then _ else if t2B u d (lotOf u R B T) then _ else if t3B u R B T then _ else _) = _
  rw [if_neg (by rw [h]; decide), if_neg (by rw [h2]; decide), if_neg (by rw [h3]; decide)]
def PartP : Option (Str × PyData) → Prop
  | none => True
  | some (u, d) => (u = "line" ∧ isLineD d = true) ∨ (u = "bottom" ∧ isBottomD d = true) ∨ (u = "thread" ∧ isThreadD d = true)
structure LotsP (R B T : List PyData) : Prop where
  lR : R.length ≤ 5
  lB : B.length ≤ 4
  lT : T.length ≤ 4
  oR : ∀ d ∈ R, isLineD d = true
  oB : ∀ d ∈ B, isBottomD d = true
  oT : ∀ d ∈ T, isThreadD d = true
def spTake (K : PySem.W.Frag) : Sp := fun vs H Q _ => ∃ (G : Hp) (F : List (Addr × HO)) (r : RdG) (x1 x2 x3 : List V) (R B T : List PyData) (v : V) (p : Option (Str × PyData)), vs = [.ref r.a, v] ∧ Own G H (r.obs K x1 x2 x3 ++ F) ∧
  DpAll K G x1 R ∧ DpAll K G x2 B ∧ DpAll K G x3 T ∧ Dp K G v (partD p) ∧ PartP p ∧ LotsP R B T ∧
  (takeM R B T p = none → ∀ H', Own G H' (r.obs K x1 x2 x3 ++ F) → Q (.bl false) H') ∧
  (∀ R' B' T', takeM R B T p = some (R', B', T') → ∀ y1 y2 y3 H', DpAll K G y1 R' → DpAll K G y2 B' → DpAll K G y3 T' → Own G H' (r.obs K y1 y2 y3 ++ F) → Q (.bl true) H')
theorem el_catS {ta tb : TE} {σ : L2.St} {H : Hp} {p : Addr} {xs ys : List V} (ha : Ev ta σ H (.ref p)) (hp : H p = some (.lst xs)) (hb : EvL tb σ H ys) (hz : xs.length + ys.length ≤ 100000) : EvL (tOp rCat ta tb) σ H (xs ++ ys) := fun H1 e Q q =>
  ha H1 e _ fun H2 e2 => hb H2 (e.trans e2) _ fun r H3 nr e3 hr => ⟨p, r, xs, ys, rfl, rfl, ((e.trans e2).trans e3) _ _ hp, hr, sz_of hz, fun l hl => q l _ (fresh_back (e2.trans e3) hl) ((e2.trans e3).trans (Ex.new hl)) upd_same⟩
theorem q_behind {i : Nat} {tz : TS} {D : Ends} {σ : L2.St} {H : Hp} (k : ∀ p t1 t2 t3 H1, Ex H H1 → H1 p = some (.dK [(Sum.inr "line", .ref t1), (Sum.inr "bottom", .ref t2), (Sum.inr "thread", .ref t3)]) → SqT K H1 t1 [.str "bottom", .str "thread"] → SqT K H1 t2 [.str "thread"] → SqT K H1 t3 [] → tz D (σ.set i (some (.ref p))) H1) :
    tSeq (tAsg (tDisp [(tC (V.str (Str.ofString "line")), tTup (tCons (tC (V.str (Str.ofString "bottom"))) (tCons (tC (V.str (Str.ofString "thread"))) tNil))), (tC (V.str (Str.ofString "bottom")), tTup (tCons (tC (V.str (Str.ofString "thread"))) tNil)), (tC (V.str (Str.ofString "thread")), tTup tNil)]) (gName i)) tz D σ H := fun p hp => by
  refine prs_consU (eu_tup (ea_cons ev_c (ea_cons ev_c ea_nil)) (by show (2 : Nat) ≤ 100000; decide)) fun t1 H1 n1 e1 h1 => ?_
  refine prs_consU (eu_tup (ea_cons ev_c ea_nil) (by show (1 : Nat) ≤ 100000; decide)) fun t2 H2 n2 e2 h2 => ?_
  refine prs_consU (eu_tup ea_nil (by show (0 : Nat) ≤ 100000; decide)) fun t3 H3 n3 e3 h3 => ?_
  have hp3 : H3 p = some (.dK []) := ((e1.trans e2).trans e3) _ _ upd_same
  refine prs_nil ⟨hp3, [(Sum.inr "line", .ref t1), (Sum.inr "bottom", .ref t2), (Sum.inr "thread", .ref t3)], rfl, by show (3 : Nat) ≤ 15; decide, ?_⟩
  have ne : ∀ (t : Addr) (xs : List V), H3 t = some (.tup xs) → t ≠ p := fun t xs h z => by
    rw [z, hp3] at h
    cases h
  have h1' := (e2.trans e3) _ _ h1
  have h2' := e3 _ _ h2
  exact k p t1 t2 t3 _ (Ex.mut ((Ex.new hp).trans ((e1.trans e2).trans e3)) hp) upd_same (st_of (by rw [upd_ne (ne _ _ h1')]; exact h1')) (st_of (by rw [upd_ne (ne _ _ h2')]; exact h2')) (st_of (by rw [upd_ne (ne _ _ h3)]; exact h3))
theorem behind_len (u : Str) : (behindNs u).length ≤ 40000 := by
  unfold behindNs
  split
  · decide
  · split <;> decide
theorem behind_mem {u m : Str} (hm : m ∈ behindNs u) : m ∈ (["line", "bottom", "thread"] : List Str) := by
  unfold behindNs at hm
  split at hm
  · exact List.mem_cons_of_mem _ hm
  · split at hm
    · exact List.mem_cons_of_mem _ (List.mem_cons_of_mem _ hm)
    · cases hm
theorem part_shape {u : Str} {d : PyData} (h : PartP (some (u, d))) : ∃ n rest, d = .tuple (.str n :: rest) ∧ (u ≠ "bottom" → ∃ r rest, d = .tuple (.str n :: .int r :: rest)) := by
  rcases h with ⟨hu, h⟩ | ⟨hu, h⟩ | ⟨hu, h⟩
  · obtain ⟨n, r, u', a, b, c, ss, rfl, _⟩ := line_inv h
    exact ⟨n, _, rfl, fun _ => ⟨r, _, rfl⟩⟩
  · obtain ⟨n, ss, rfl, _⟩ := bottom_inv h
    exact ⟨n, _, rfl, fun z => absurd hu z⟩
  · obtain ⟨n, r, ss, rfl, _⟩ := thread_inv h
    exact ⟨n, _, rfl, fun _ => ⟨r, _, rfl⟩⟩
theorem lot_part {u : Str} {d e : PyData} {R B T : List PyData} (h : PartP (some (u, d))) (l : LotsP R B T) (he : e ∈ lotOf u R B T) : PartP (some (u, e)) := by
  rcases h with ⟨rfl, h⟩ | ⟨rfl, h⟩ | ⟨rfl, h⟩
  · exact .inl ⟨rfl, l.oR e he⟩
  · exact .inr (.inl ⟨rfl, l.oB e he⟩)
  · exact .inr (.inr ⟨rfl, l.oT e he⟩)
theorem ok_Reader_take (T : Txt w K mg) : FnOk P w K mg base CX0 3 (f_Reader_take K) (fdAt K (f_Reader_take K)) ["self", "part"] (spTake K) := by
  obtain ⟨tL, h_MOST_LINES⟩ := in_MOST_LINES T
  obtain ⟨tO, h_MOST_OTHERS⟩ := in_MOST_OTHERS T
  refine (df_Reader_take T).ok sc_Reader_take (fun vs H Q E h => ?_) (fun cdv A outer s H vs Q E hr h => ?_)
  · obtain ⟨_, _, _, _, _, _, _, _, _, _, _, rfl, _⟩ := h
    rfl
  · obtain ⟨G, F, r, x1, x2, x3, R, B, Td, v, p, rfl, o, d1, d2, d3, hv, hp, hl, q1, q2⟩ := h
    have hu := hr.units
    have hu : _ + 1 < _ := Nat.lt_of_le_of_lt (Nat.add_le_add_left (by decide) _) hu
    refine ⟨_, PSs.nox ((pss_cons (ps_if (pt_cmp (pc_isN (pv 1)) rfl) (pss_one (ps_ret pe_bl)) pss_nil)
      (pss_cons (ps_asg (pv 1) (pg_tupK rfl (K := K) rfl (pgs_cons (pg_name (i := 2) sc_Reader_take.nd rfl (Or.inl rfl)) (pgs_cons (pg_name (i := 3) sc_Reader_take.nd rfl (Or.inl rfl)) pgs_nil))))
      (pss_cons (ps_set (i := 4) sc_Reader_take.nd rfl (Or.inl rfl) (pe_dget hu (pe_fldK (K := K) rfl (pv 0) rfl) (pv 2) (fun _ _ => rfl)))
      (pss_cons (ps_if (PW.pt (pw_or (pt_cmpR op_eq (pe_callB (call_lenK (K := K) rfl) (by rfl) (fr_len T) PySem.boot_len (pa_cons (pv 4) pa_nil)) (pe_ifExp (pt_cmpR op_eq (pv 2) pe_str (nomark _)) (pe_glob (v := .int 5) rfl h_MOST_LINES ⟨_, rfl⟩) (pe_glob (v := .int 4) rfl h_MOST_OTHERS ⟨_, rfl⟩)) (nomark _)) (pw_or1 (pt_cmpR (op_inK (K := K) rfl) (pe_ix (ix_tupK (K := K) rfl) (pv 3) pe_int (fun _ _ => rfl)) (pe_lc (own := [("other", 5)]) (g := gName 5) (tt := tYes) rfl sc_Reader_take.nd (pi_listK (K := K) rfl (pv 4)) (blkOk_by (N := ["self", "part", "word", "found", "lot", "other", "behind"]) (sc := defScope s_Reader_take) (by decide +kernel)) (fun _ _ _ _ _ => pg_name (i := 5) sc_Reader_take.nd rfl (Or.inl rfl)) (fun _ _ _ _ _ => pts_nil) (fun _ _ _ _ _ => (pe_ix (ix_tupK (K := K) rfl) (pv 5) pe_int (fun _ _ => rfl)))) (by rfl))))) (pss_one (ps_ret pe_bl)) pss_nil)
      (pss_cons (ps_if (PW.pt (pw_and (pt_cmpR op_ne (pv 2) pe_str (nomark _)) (pw_and1 (pt_not (pt_val (pe_call (ok_are_unlike_ranks T) (hr.mono (by decide)) rfl (gl_are_unlike_ranks T) (df_are_unlike_ranks T).kp (bi_are_unlike_ranks T) .nil pass0 (pa_cons (pe_op op_cat (pv 4) (pe_lst (pa_cons (pv 3) pa_nil))) pa_nil))))))) (pss_one (ps_ret pe_bl)) pss_nil)
      (pss_cons (ps_set (i := 6) sc_Reader_take.nd rfl (Or.inl rfl) (pe_disp (pps_cons pe_str (pe_tup (pa_cons pe_str (pa_cons pe_str pa_nil))) (pps_cons pe_str (pe_tup (pa_cons pe_str pa_nil)) (pps_cons pe_str (pe_tup pa_nil) pps_nil))) (by rfl) (by rfl) (fun z => by cases z) (by decide)))
      (pss_cons (ps_if (PW.pt (pw_or (pt_val (pe_callB (cr_anyK rfl (K := K) rfl) (by rfl) (fr_any T) (by decide +kernel) (pa_cons (pe_lc (own := [("other", 5)]) (g := gName 5) (tt := tYes) rfl sc_Reader_take.nd (pi_tupK (K := K) rfl (pe_dget hu (pv 6) (pv 2) (fun _ _ => rfl))) (blkOk_by (N := ["self", "part", "word", "found", "lot", "other", "behind"]) (sc := defScope s_Reader_take) (by decide +kernel)) (fun _ _ _ _ _ => pg_name (i := 5) sc_Reader_take.nd rfl (Or.inl rfl)) (fun _ _ _ _ _ => pts_nil) (fun _ _ _ _ _ => (pe_cmpR (op_neNilK (hu0 hr) (K := K) rfl) (pe_dget hu (pe_fldK (K := K) rfl (pv 0) rfl) (pv 5) (fun _ _ => rfl)) (pe_lst pa_nil) (nomark _)))) pa_nil))) (pw_or1 (PW.pt (pw_and (pt_cmpR op_ne (pv 2) pe_str (nomark _)) (pw_and1 (pt_cmpR (op_eqNilK (hu0 hr) (K := K) rfl) (pe_dget hu (pe_fldK (K := K) rfl (pv 0) rfl) pe_str (fun _ _ => rfl)) (pe_lst pa_nil) (nomark _)))))))) (pss_one (ps_ret pe_bl)) pss_nil)
      (pss_cons (ps_expr (pe_bm PySem.F.plainAttrs_list PySem.F.slot_list_append PySem.F.type_list_append mt_append (pv 4) (pa_cons (pv 3) pa_nil)))
      (pss_one (ps_ret pe_bl))))))))))), ?_⟩
    cases p with
    | none =>
      have : v = .non := by cases hv; rfl
      subst this
      refine q_when (b := true) (et_is (et_B (ev_isN (ev_var rfl))) rfl) (fun _ H1 e1 => ?_) (fun h => by cases h)
      exact s_ret ev_c fun H2 e2 => q1 rfl H2 (o.same (e1.trans e2))
    | some ud =>
      obtain ⟨u, d⟩ := ud
      obtain ⟨t, ws, rfl, ht, hv⟩ := dpT hv
      obtain ⟨v0, _, rfl, y0, hv⟩ := dpC hv
      obtain ⟨vd, _, rfl, y1, hv⟩ := dpC hv
      obtain rfl := dpN hv
      obtain rfl := dpS y0
      have hlt : ∃ n lk xs, (r.obs K x1 x2 x3 ++ F)[n]? = some (lk, .lst xs) ∧ DpAll K G xs (lotOf u R B Td) ∧ valV (lotsK r.l1 r.l2 r.l3) (Sum.inr u) = some (.ref lk) ∧ (lotOf u R B Td).length ≤ 5 ∧
          (∀ H', Own G H' ((r.obs K x1 x2 x3 ++ F).set n (lk, .lst (xs ++ [vd]))) → takeM R B Td (some (u, d)) = some (if u = "line" then (R ++ [d], B, Td) else if u = "bottom" then (R, B ++ [d], Td) else (R, B, Td ++ [d])) → Q (.bl true) H') ∧
          ∃ tk : Addr → Addr → Addr → Addr, ∀ t1 t2 t3 : Addr, valV [((Sum.inr "line" : L2.Key), V.ref t1), (Sum.inr "bottom", .ref t2), (Sum.inr "thread", .ref t3)] (Sum.inr u) = some (.ref (tk t1 t2 t3)) ∧ ∀ H' : Hp, SqT K H' t1 [.str "bottom", .str "thread"] → SqT K H' t2 [.str "thread"] → SqT K H' t3 [] → SqT K H' (tk t1 t2 t3) ((behindNs u).map V.str) := by
        rcases hp with ⟨rfl, hd⟩ | ⟨rfl, hd⟩ | ⟨rfl, hd⟩
        · exact ⟨2, r.l1, x1, rfl, d1, rfl, hl.lR, fun H' o' ht => q2 _ _ _ ht (x1 ++ [vd]) x2 x3 H' (DpAll.append d1 (.cons y1 .nil)) d2 d3 o', fun t1 _ _ => t1, fun t1 t2 t3 => ⟨rfl, fun H' a _ _ => a⟩⟩
        · exact ⟨3, r.l2, x2, rfl, d2, rfl, Nat.le_trans hl.lB (by decide), fun H' o' ht => q2 _ _ _ ht x1 (x2 ++ [vd]) x3 H' d1 (DpAll.append d2 (.cons y1 .nil)) d3 o', fun _ t2 _ => t2, fun t1 t2 t3 => ⟨rfl, fun H' _ a _ => a⟩⟩
        · exact ⟨4, r.l3, x3, rfl, d3, rfl, Nat.le_trans hl.lT (by decide), fun H' o' ht => q2 _ _ _ ht x1 x2 (x3 ++ [vd]) H' d1 d2 (DpAll.append d3 (.cons y1 .nil)) o', fun _ _ t3 => t3, fun t1 t2 t3 => ⟨rfl, fun H' _ _ a => a⟩⟩
      obtain ⟨n, lk, xs, hn, dx, hvk, hl5, hend, tk, htk⟩ := hlt
      have hxl := dpLen dx
      have hu3 : u ∈ (["line", "bottom", "thread"] : List Str) := by
        rcases hp with ⟨rfl, _⟩ | ⟨rfl, _⟩ | ⟨rfl, _⟩ <;> decide
      refine q_when (b := false) (et_is (et_B (ev_isN (ev_var rfl))) rfl) (fun h => by cases h) fun _ H1 e1 => ?_
      have o1 := o.same e1
      refine q_unp (ev_var rfl) (sT o1.sub ht) rfl fun H2 e2 => ⟨_, _, rfl, _, _, rfl, rfl, ?_⟩
      dsimp only
      have o2 := o1.same e2
      refine q_asg (v := .ref lk) (ev_dget (ev_fl (ev_var rfl) (oi2 0 o2 rfl) (cl_Reader T) (na_Reader_lots T) rfl) (ev_var rfl) (oi2 1 o2 rfl) hvk) fun H3 e3 => ?_
      have o3 := o2.same e3
      obtain ⟨nm, rest, hdn, hdr⟩ := part_shape hp
      have yd := dpM o3.sub y1
      have yd0 := yd
      rw [hdn] at yd0
      obtain ⟨td, zs, rfl, hsd, hzs⟩ := dpT yd0
      obtain ⟨z0, zr, rfl, hz0, _⟩ := dpC hzs
      obtain rfl := dpS hz0
      have hnames : (lotOf u R B Td).map (fun e => V.str (nameD e)) = ((lotOf u R B Td).map nameD).map V.str := by rw [List.map_map]; rfl
      have hnm : nameD d = nm := by rw [hdn]; rfl
      -- the first test
      refine q_when (b := t1B u d (lotOf u R B Td)) (et_or (et_is (et_test (ev_op (ev_lenS (ev_var rfl) (.inl (sq_of (oi2 n o3 hn)))) (ev_if' (et_test (ev_op (ev_var rfl) ev_c (rv_eq rfl))) (fun _ => ev_c) (fun _ => ev_c)) (rv_eq ?_))) ?_) fun _ => et_is (et_test (ev_opL (ev_op (ev_var rfl) ev_c (rv_ixT hsd at0)) (by
        have z := el_lcD (K := K) (te := tOp (rIxT K) (tVar 5) (tC (.int 0))) (tl := tVar 4) (j := 5) (vs := [5]) (σ := [some (.ref r.a), some (.ref t), some (.str u), some (.ref td), some (.ref lk), none, none]) (H := H3) (fun e => V.str (nameD e)) (ev_var rfl) (sq_of (oi2 n o3 hn)) (daM o3.sub dx) (by omega) (fun _ => rfl) fun x e hm hdx => by
          obtain ⟨ne, re, rfl, _⟩ := part_shape (lot_part hp hl hm)
          obtain ⟨te, ze, rfl, hse, hze⟩ := dpT hdx
          obtain ⟨z0, _, rfl, hz0, _⟩ := dpC hze
          rw [dpS hz0] at hse
          exact ev_op (ev_var rfl) ev_c (rv_ixT hse at0)
        rw [hnames] at z
        exact z) fun q H' hq e' => rv_isL (sq_of hq) rfl (by rw [List.all_map]; exact List.all_eq_true.mpr fun _ _ => rfl))) ?_) (fun hb H4 e4 => ?_) fun hb H4 e4 => ?_
      · split <;> rfl
      · rw [decS, hxl]
        show decide (V.int _ = if decide (u = "line") = true then V.int ((5 : Nat) : Int) else V.int ((4 : Nat) : Int)) = decide (_ = mostOf u)
        unfold mostOf
        by_cases h : u = "line"
        · rw [if_pos (decide_eq_true h), if_pos h]
          exact lenI _ 5
        · rw [if_neg (by rw [decide_eq_false h]; decide), if_neg h]
          exact lenI _ 4
      · rw [inV_strs, hnm]
      · exact s_ret ev_c fun H5 e5 => q1 (take_1 hb) H5 ((o3.same e4).same e5)
      · have o4 := o3.same e4
        have y4 := dpM e4 yd
        -- the second test
        refine q_when (b := t2B u d (lotOf u R B Td)) (et_and (et_is (et_test (ev_op (ev_var rfl) ev_c (rv_ne rfl))) (congrArg _ decS)) fun hne => et_not (a := unlikeD (lotOf u R B Td ++ [d])) fun H' e' Q k => el_catS (ev_var rfl) (oi2 n o4 hn) (el_lst (ea_cons (ev_var rfl) ea_nil) (by show (1 : Nat) ≤ 100000; decide)) (by show xs.length + 1 ≤ _; omega) H' e' _ fun pl H'' npl e'' hpl => ⟨.ref pl, .list (lotOf u R B Td ++ [d]), lotOf u R B Td ++ [d], rfl, .inl rfl, .lst (sq_of hpl) (DpAll.append (daM (o4.sub.trans (e'.trans e'')) dx) (.cons (dpM (e4.trans (e'.trans e'')) yd) .nil)), by rw [List.length_append]; show _ + 1 ≤ 100; omega, ?_, fun H3 e3 => ⟨_, rfl, k H3 (e''.trans e3)⟩⟩) (fun hb2 H5 e5 => ?_) fun hb2 H5 e5 => ?_
        · have hnb : u ≠ "bottom" := by simpa using hne
          intro e he
          rcases List.mem_append.mp he with he | he
          · obtain ⟨ne, _, _, hr⟩ := part_shape (lot_part hp hl he)
            obtain ⟨rk, rest, e⟩ := hr hnb
            exact ⟨_, rk, rest, e⟩
          · rw [List.mem_singleton.mp he]
            obtain ⟨rk, rest, e⟩ := hdr hnb
            exact ⟨_, rk, rest, e⟩
        · exact s_ret ev_c fun H6 e6 => q1 (take_2 hb hb2) H6 ((o4.same e5).same e6)
        · have o5 := o4.same e5
          refine q_behind (K := K) fun pb t1 t2 t3 H6 e6 hpb s1 s2 s3 => ?_
          have o6 := o5.same e6
          obtain ⟨hvb, hsb⟩ := htk t1 t2 t3
          have hsb := hsb H6 s1 s2 s3
          have hnel : ∀ {te : TE} {σ : L2.St} {neg : Bool} (m : Str), m ∈ (["line", "bottom", "thread"] : List Str) → σ[0]? = some (some (.ref r.a)) → Ev te σ H6 (.str m) → Ev (tOp (rNil K neg) (tDGet (tFld K (tVar 0) (Str.ofString "lots")) te) (tLst tNil)) σ H6 (.bl (if neg then !(lotOf m R B Td).isEmpty else (lotOf m R B Td).isEmpty)) := fun {te σ neg} m hm h0 ht => by
            have hm3 : ∃ l xs, valV (lotsK r.l1 r.l2 r.l3) (Sum.inr m) = some (.ref l) ∧ H6 l = some (.lst xs) ∧ xs.isEmpty = (lotOf m R B Td).isEmpty := by
              have em : ∀ {xs : List V} {ds : List PyData}, DpAll K G xs ds → xs.isEmpty = ds.isEmpty := fun {xs ds} h => by cases h <;> rfl
              simp only [List.mem_cons, List.not_mem_nil, or_false] at hm
              rcases hm with rfl | rfl | rfl
              · exact ⟨r.l1, x1, rfl, oi2 2 o6 rfl, em d1⟩
              · exact ⟨r.l2, x2, rfl, oi2 3 o6 rfl, em d2⟩
              · exact ⟨r.l3, x3, rfl, oi2 4 o6 rfl, em d3⟩
            obtain ⟨l, xs, hv, hl, hem⟩ := hm3
            refine ev_opL (xs := []) (ev_dget (kk := Sum.inr m) (ev_fl (ev_var h0) (oi2 0 o6 rfl) (cl_Reader T) (na_Reader_lots T) rfl) ht (oi2 1 o6 rfl) hv) (el_lst ea_nil (by decide)) fun q H' hq e' H1 e1 Q k => ⟨l, q, xs, rfl, rfl, sq_of ((e'.trans e1) _ _ hl), ex_l e1 (sq_of hq), ?_⟩
            rw [hem]
            exact k H1 (Ex.refl _)
          refine q_when (b := t3B u R B Td) (et_is (et_or (et_B (ev_any (bs := (behindNs u).map fun m => !(lotOf m R B Td).isEmpty) ?_)) fun _ => et_and (et_is (et_test (ev_op (ev_var rfl) ev_c (rv_ne rfl))) (congrArg _ decS)) fun _ => et_test (hnel "line" (by decide) rfl ev_c)) ?_) (fun hb3 H7 e7 => ?_) fun hb3 H7 e7 => ?_
          · have z := el_lcDT (K := K) (te := tOp (rNil K true) (tDGet (tFld K (tVar 0) (Str.ofString "lots")) (tVar 5)) (tLst tNil)) (tl := tDGet (tVar 6) (tVar 2)) (j := 5) (vs := [5]) (σ := [some (.ref r.a), some (.ref t), some (.str u), some (.ref td), some (.ref lk), none, some (.ref pb)]) (H := H6) (fun d => match d with
              | .str m => V.bl (!(lotOf m R B Td).isEmpty)
              | _ => V.non) (ev_dget (kk := Sum.inr u) (ev_var rfl) (ev_var rfl) hpb hvb) hsb (da_txts H6 _) (by rw [List.length_map]; exact behind_len u) (fun _ => rfl) fun x d hm hdx => by
              obtain ⟨m, hm2, rfl⟩ := List.mem_map.mp hm
              rw [dpS hdx]
              exact hnel (neg := true) m (behind_mem hm2) rfl (ev_var rfl)
            rw [List.map_map] at z
            rw [List.map_map]
            exact z
          · rw [List.any_map]
            rfl
          · exact s_ret ev_c fun H8 e8 => q1 (take_3 hb hb2 hb3) H8 ((o6.same e7).same e8)
          · exact q_appO (o6.same e7) n hn (ev_var rfl) (ev_var rfl) (by omega) fun H8 o8 => s_ret ev_c fun H9 e9 => hend H9 (o8.same e9) (take_4 hb hb2 hb3)
end
end KW
end
section
set_option Elab.async false
set_option linter.all false
set_option autoImplicit false
set_option maxRecDepth 100000
set_option maxHeartbeats 1000000
/-! a plan of told lists, the lists not computed -/
namespace KW
open PySem PySem.Spec PyProof.Rows L2 He KR Evl
theorem sm_stepD {s : PyData} (h : isStepD s = true) : Sm s := by
  obtain ⟨ds, rfl, l1, l2, hw⟩ := step_words h
  refine sm_tup (by omega) fun d hd => ?_
  obtain ⟨h1, h2⟩ := hw d hd
  rcases h1 with ⟨x, rfl⟩ | ⟨i, rfl, _⟩
  · exact sm_str (Nat.le_trans h2 (by decide))
  · unfold Sm
    trivial
theorem sm_steps {ss : List PyData} (h : areStepsL ss = true) : Sm (.list ss) := by
  obtain ⟨s1, s2, s3⟩ := stepsL_inv h
  exact sm_lst (by omega) fun d hd => sm_stepD (s1 d hd)
theorem sm_name {n : Str} (h : isNameS n = true) : Sm (.str n) := sm_str (Nat.le_trans (nameS_len h) (by decide))
theorem sm_line {d : PyData} (h : isLineD d = true) : Sm d := by
  obtain ⟨n, r, u, a, b, c, ss, rfl, hn, hr, hg, hs⟩ := line_inv h
  refine sm_tup (by show (5 : Nat) ≤ 10000; decide) fun z hz => ?_
  rcases List.mem_cons.mp hz with rfl | hz
  · exact sm_name hn
  rcases List.mem_cons.mp hz with rfl | hz
  · unfold Sm; trivial
  rcases List.mem_cons.mp hz with rfl | hz
  · unfold Sm; trivial
  rcases List.mem_cons.mp hz with rfl | hz
  · refine sm_tup (by show (3 : Nat) ≤ 10000; decide) fun z hz => ?_
    rcases List.mem_cons.mp hz with rfl | hz
    · unfold Sm; trivial
    rcases List.mem_cons.mp hz with rfl | hz
    · unfold Sm; trivial
    rw [List.mem_singleton.mp hz]
    unfold Sm; trivial
  rw [List.mem_singleton.mp hz]
  exact sm_steps hs
theorem sm_bottom {d : PyData} (h : isBottomD d = true) : Sm d := by
  obtain ⟨n, ss, rfl, hn, hs⟩ := bottom_inv h
  refine sm_tup (by show (2 : Nat) ≤ 10000; decide) fun z hz => ?_
  rcases List.mem_cons.mp hz with rfl | hz
  · exact sm_name hn
  rw [List.mem_singleton.mp hz]
  exact sm_steps hs
theorem sm_thread {d : PyData} (h : isThreadD d = true) : Sm d := by
  obtain ⟨n, r, ss, rfl, hn, hr, hs⟩ := thread_inv h
  refine sm_tup (by show (3 : Nat) ≤ 10000; decide) fun z hz => ?_
  rcases List.mem_cons.mp hz with rfl | hz
  · exact sm_name hn
  rcases List.mem_cons.mp hz with rfl | hz
  · unfold Sm; trivial
  rw [List.mem_singleton.mp hz]
  exact sm_steps hs
theorem LotsP.sm {R B T : List PyData} (l : LotsP R B T) : Sm (.list R) ∧ Sm (.list B) ∧ Sm (.list T) :=
  ⟨sm_lst (Nat.le_trans l.lR (by decide)) fun d hd => sm_line (l.oR d hd), sm_lst (Nat.le_trans l.lB (by decide)) fun d hd => sm_bottom (l.oB d hd), sm_lst (Nat.le_trans l.lT (by decide)) fun d hd => sm_thread (l.oT d hd)⟩
section
variable {K : PySem.W.Frag}
/-- Plan(lines, bottoms=.., threads=..), known to be one -/
theorem mk_planS {H1 : Hp} {x dx a : Addr} {b t : V} {db dt : PyData} {R B Td : List PyData} {W : VK} {E : XK} (nx : H1 x = none) (ndx : H1 dx = none) (hne : dx ≠ x) (hl : Dp K H1 (.ref a) (.list R)) (hb : Dp K H1 b db) (ht : Dp K H1 t dt) (eb : db = .list B ∨ db = .tuple B) (et : dt = .list Td ∨ dt = .tuple Td)
    (sm : Sm (.list R) ∧ Sm db ∧ Sm dt) (ok : planOkD (.list R) db dt = true) (ok2 : planOkD (.list R) (.list B) (.list Td) = true) (q : ∀ H3, Ex H1 H3 → PlanAt K H3 x R B Td → W .non H3) :
    spPlan K [.ref x, .ref a, b, t] (upd (upd H1 dx (.own x)) x (.ins (g_Plan K) dx [])) W E := by
  have pl := plan_parts ok2
  have e1 : Ex H1 (upd H1 dx (.own x)) := Ex.new ndx
  have nx' : upd H1 dx (.own x) x = none := by rw [upd_ne (Ne.symm hne)]; exact nx
  have e2 : Ex H1 (upd (upd H1 dx (.own x)) x (.ins (g_Plan K) dx [])) := e1.trans (Ex.new nx')
  have qb : seqD db = B := by rcases eb with rfl | rfl <;> rfl
  have qt : seqD dt = Td := by rcases et with rfl | rfl <;> rfl
  have fin : ∀ {v : V} {d : PyData} {ds : List PyData}, Dp K H1 v d → (d = .list ds ∨ d = .tuple ds) → (∀ e ∈ ds, OneD e) → InS K H1 (upd (upd H1 dx (.own x)) x (.ins (g_Plan K) dx [])) v ds := fun hd hs ho => by
    obtain ⟨a, xs, rfl, h1, h2⟩ := sq_da hs hd
    exact ⟨a, xs, rfl, h1.imp (sL e2) (sT e2), in_of e2 h2 ho⟩
  refine ⟨x, dx, .ref a, b, t, .list R, db, dt, rfl, upd_same, ⟨dpM e2 hl, dpM e2 hb, dpM e2 ht⟩, sm, (fun h => by rw [ok] at h; cases h), fun _ => ?_⟩
  have o : Own H1 (upd (upd H1 dx (.own x)) x (.ins (g_Plan K) dx [])) [(x, .ins (g_Plan K) dx [])] := Own.new (Own.nil e1) nx'
  refine ⟨H1, [], o, ⟨fin hl (.inl rfl) fun e he => (one_line (pl.oR e he)).2.1, by rw [qb]; exact fin hb eb fun e he => (one_bottom (pl.oB e he)).1, by rw [qt]; exact fin ht et fun e he => (one_thread (pl.oT e he)).2.1⟩, fun G' H' sg o' _ hp => q H' (sg.trans o'.sub) ?_⟩
  rw [qb, qt] at hp
  exact plan_mono o'.sub hp
end
/-- all but the owned stands still -/
theorem own_max {G H : Hp} {L : List (Addr × HO)} (o : Own G H L) : ∃ G2, Own G2 H L ∧ Same G G2 ∧ ∀ a ob, H a = some ob → (∀ q ∈ L, q.1 ≠ a) → G2 a = some ob := by
  classical
  refine ⟨fun a => if ∃ q ∈ L, q.1 = a then none else H a, ⟨o.at_, o.nd, fun q hq => if_pos ⟨q, hq, rfl⟩, fun a ob h => ?_⟩, fun a ob h => ?_, fun a ob h hn => ?_⟩
  · split at h
    · cases h
    · exact h
  · dsimp only
    rw [if_neg]
    · exact o.sub _ _ h
    · rintro ⟨q, hq, rfl⟩
      rw [o.out q hq] at h
      cases h
  · dsimp only
    rw [if_neg]
    · exact h
    · rintro ⟨q, hq, e⟩
      exact hn q hq e
/-- what came to be meanwhile stands still, too -/
theorem own_dif {G H H2 : Hp} {L : List (Addr × HO)} (o : Own G H L) (e : Ex H H2) : ∃ G2, Own G2 H2 L ∧ Same G G2 ∧ Same (dif H H2) G2 := by
  obtain ⟨G2, o2, s, k⟩ := own_max (o.same e)
  refine ⟨G2, o2, s, fun a ob h => k a ob (dif_out h).2 fun q hq z => ?_⟩
  have := o.at_ q hq
  rw [z, (dif_out h).1] at this
  cases this
end KW
end
section
set_option Elab.async false
set_option linter.all false
set_option autoImplicit false
set_option maxRecDepth 100000
set_option maxHeartbeats 1000000
/-! texts.py: read, of texts that are plans -/
namespace KW
open PySem PySem.Spec PyProof.Rows L2 He KR Evl
local macro_rules
  | `(tactic| walk_at "na") => `(tactic| with_reducible (first | exact cl_Line (by assumption) | exact cl_Job (by assumption) | exact cl_Engine (by assumption) | exact cl_Plan (by assumption) | exact cl_Run (by assumption) | exact cl_Bench (by assumption) | exact na_Line_name (by assumption) | exact na_Line_rank (by assumption) | exact na_Line_is_up (by assumption) | exact na_Line_guard (by assumption) | exact na_Line_top (by assumption) | exact na_Line_let_by (by assumption) | exact na_Line_shut_till (by assumption) | exact na_Line_since (by assumption) | exact na_Line_fresh (by assumption) | exact na_Line_counts (by assumption) | exact na_Line_longest (by assumption) | exact na_Job_word (by assumption) | exact na_Job_name (by assumption) | exact na_Job_rank (by assumption) | exact na_Job_steps (by assumption) | exact na_Job_masks_then (by assumption) | exact na_Job_at (by assumption) | exact na_Job_left (by assumption) | exact na_Engine_plan (by assumption) | exact na_Engine_ways (by assumption) | exact na_Engine_tops (by assumption) | exact na_Engine_bottom (by assumption) | exact na_Engine_put_off (by assumption) | exact na_Engine_woken (by assumption) | exact na_Engine_begun (by assumption) | exact na_Engine_depth (by assumption) | exact na_Engine_now (by assumption) | exact na_Engine_row (by assumption) | exact na_Engine_depths (by assumption) | exact na_Engine_last_begun (by assumption) | exact na_Plan_row (by assumption) | exact na_Plan_low (by assumption) | exact na_Plan_late (by assumption) | exact na_Run_row (by assumption) | exact na_Run_depths (by assumption) | exact na_Run_table (by assumption) | exact na_Run_longest (by assumption) | exact na_Bench_engine (by assumption) | exact na_Bench_fresh (by assumption) | exact na_Bench_told_so_far (by assumption) | exact na_Bench_rows (by assumption)))
local macro_rules
  | `(tactic| walk_at "oi") => `(tactic| first | assumption | exact oi2 0 (by assumption) rfl | exact oi2 1 (by assumption) rfl | exact oi2 2 (by assumption) rfl | exact oi2 3 (by assumption) rfl | exact oi2 4 (by assumption) rfl | exact oi2 5 (by assumption) rfl | exact oi2 6 (by assumption) rfl | exact oi2 7 (by assumption) rfl | exact oi2 8 (by assumption) rfl)
local macro_rules
  | `(tactic| walk_at "ev") => `(tactic| repeat' (first
    | exact ev_c | exact ev_var rfl | exact ea_nil | exact rv_I0 | exact ru_neg | exact eo_none
    | exact rv_eq rfl | exact rv_ne rfl
    | exact rv_ixT (by assumption) (by rfl) | exact rv_ixL (by assumption) (by rfl)
    | exact sv_q (by assumption) (by assumption) | exact sv_within (by assumption)
    | exact Or.inr (by assumption) | exact Or.inl (by assumption) | (show (_ : String) ∈ _; decide)
    | with_reducible (first | apply ev_isi | apply ev_lenS | apply ev_if' | apply et_test | apply et_B | apply et_not | apply et_and | apply et_or | apply ev_andV | apply ev_orV | apply ev_notV | apply ea_cons | apply eo_some | apply ev_fl | apply ev_op | apply ev_un | apply ev_call)
    | walk_at "na" | walk_at "oi" | (show List.lookup _ _ = _; rfl)
    | assumption
    | (with_reducible intro hh; first | exact absurd (show true = false from hh) (by decide) | exact absurd (show false = true from hh) (by decide) | clear hh)))

section
variable {P : Program} {w : World} {K : PySem.W.Frag} {mg : Str → Option Value} {base : Heap}
theorem sc_read : FnScope ["text", "reader", "rows", "at", "row", "found"] ["text"] (defScope s_read) := ⟨rfl, rfl, rfl, by decide +kernel, rfl, by decide +kernel, by decide +kernel⟩
/-- what rows give, or the place of the first that is none -/
def readRows : List Str → Nat → List PyData → List PyData → List PyData → Nat ⊕ (List PyData × List PyData × List PyData)
  | [], _, R, B, T => .inr (R, B, T)
  | r :: rs, n, R, B, T => match takeM R B T (partM r) with
    | some (R', B', T') => readRows rs (n + 1) R' B' T'
    | none => .inl n
def readM (x : Str) : Nat ⊕ (List PyData × List PyData × List PyData) := match readRows (Txt.split x "\n") 0 [] [] [] with
  | .inl n => .inl n
  | .inr (R, B, T) => if planOkD (.list R) (.list B) (.list T) then .inr (R, B, T) else .inl (Txt.split x "\n").length
theorem part_ok (x : Str) : PartP (partM x) := by
  unfold partM
  split
  · split
    · rename_i u r _
      unfold partW
      split
      · trivial
      · split
        · rename_i h
          split
          · rename_i h2
            exact .inl ⟨h.1, h2⟩
          · trivial
        · split
          · rename_i h
            split
            · rename_i h2
              exact .inr (.inl ⟨h.1, h2⟩)
            · trivial
          · split
            · rename_i h
              split
              · rename_i h2
                exact .inr (.inr ⟨h.1, h2⟩)
              · trivial
            · trivial
    · trivial
  · trivial
theorem mostB {u : Str} {d : PyData} {ds : List PyData} (h : t1B u d ds = false) (hl : ds.length ≤ mostOf u) : (ds ++ [d]).length ≤ mostOf u := by
  unfold t1B at h
  rw [Bool.or_eq_false_iff] at h
  have := of_decide_eq_false h.1
  rw [List.length_append, List.length_singleton]
  omega
theorem ap_mem {p : PyData → Bool} {ds : List PyData} {d : PyData} (h : ∀ e ∈ ds, p e = true) (hd : p d = true) : ∀ e ∈ ds ++ [d], p e = true := fun e he => by
  rcases List.mem_append.mp he with he | he
  · exact h e he
  · rw [List.mem_singleton.mp he]
    exact hd
theorem take_lots {R B T R' B' T' : List PyData} {p : Option (Str × PyData)} (l : LotsP R B T) (hp : PartP p) (h : takeM R B T p = some (R', B', T')) : LotsP R' B' T' := by
  match p, hp, h with
  | some (u, d), hp, h =>
    cases h1 : t1B u d (lotOf u R B T) with
    | true => rw [take_1 h1] at h; cases h
    | false =>
      cases h2 : t2B u d (lotOf u R B T) with
      | true => rw [take_2 h1 h2] at h; cases h
      | false =>
        cases h3 : t3B u R B T with
        | true => rw [take_3 h1 h2 h3] at h; cases h
        | false =>
          rw [take_4 h1 h2 h3] at h
          rcases hp with ⟨rfl, hd⟩ | ⟨rfl, hd⟩ | ⟨rfl, hd⟩
          · have h : (R ++ [d], B, T) = (R', B', T') := Option.some.inj h
            cases h
            exact ⟨mostB h1 l.lR, l.lB, l.lT, ap_mem l.oR hd, l.oB, l.oT⟩
          · have h : (R, B ++ [d], T) = (R', B', T') := Option.some.inj h
            cases h
            exact ⟨l.lR, mostB h1 l.lB, l.lT, l.oR, ap_mem l.oB hd, l.oT⟩
          · have h : (R, B, T ++ [d]) = (R', B', T') := Option.some.inj h
            cases h
            exact ⟨l.lR, l.lB, mostB h1 l.lT, l.oR, l.oB, ap_mem l.oT hd⟩
def spReadG (K : PySem.W.Frag) : Sp := fun vs H Q _ => ∃ (x : Str) (R B T : List PyData), vs = [.str x] ∧ x.length ≤ 9000 ∧ readM x = .inr (R, B, T) ∧ ∀ p H', Ex H H' → PlanAt K H' p R B T → Q (.ref p) H'
theorem ok_readG (T : Txt w K mg) : FnOk P w K mg base CX0 10 (f_read K) (fdAt K (f_read K)) ["text"] (spReadG K) := by
  obtain ⟨_, kb_read_Plan⟩ := kb_Plan T
  refine (df_read T).ok sc_read (fun vs H Q E h => ?_) (fun cdv A outer s H vs Q E hr h => ?_)
  · obtain ⟨_, _, _, _, rfl, _⟩ := h
    rfl
  · obtain ⟨x, R, B, Td, rfl, hx, hm, q⟩ := h
    have hu := hr.units
    have hu : _ + 1 < _ := Nat.lt_of_le_of_lt (Nat.add_le_add_left (by decide) _) hu
    refine ⟨_, PSs.nox ((pss_cons (ps_if (pt_not (pt_val (pe_callB (call_isiK1 (K := K) rfl) (by rfl) (fr_isinstance T) (by decide +kernel) (pa_cons (pv 0) (pa_cons (pe_bltn (v := .ty "str") (u := .type "str") (by rfl) (fr_str T) (by decide +kernel) rfl) pa_nil))))) (pss_one ps_never) pss_nil)
      (pss_cons (ps_par (i := 1) (j := 2) rfl sc_read.nd rfl rfl (by decide) rfl rfl (pa_cons (pe_make0 (mk_Reader T) (ok_Reader_init T) (hr.mono (by decide)) rfl (gl_Reader T) (bi_Reader_init T) .nil pass0) (pa_cons (pe_split (pv 0) pe_str) pa_nil)) (by rfl))
      (pss_cons (ps_for PassesOwn.never rfl (pi_enum (by rfl) (fr_enumerate T) (pa_cons (pv 2) pa_nil)) (pg_tupK rfl (K := K) rfl (pgs_cons (pg_name (i := 3) sc_read.nd rfl (Or.inl rfl)) (pgs_cons (pg_name (i := 4) sc_read.nd rfl (Or.inl rfl)) pgs_nil))) (pss_one (ps_if (pt_not (pt_val (pe_meth (pv 1) (cl_Reader T) (me_Reader_take T) (ok_Reader_take T) (hr.mono (by decide)) (bi_Reader_take T) .nil pass0 (pa_cons (pe_call (ok_part_of T) (hr.mono (by decide)) rfl (gl_part_of T) (df_part_of T).kp (bi_part_of T) .nil pass0 (pa_cons (pv 4) pa_nil)) pa_nil)))) (pss_one ps_never) pss_nil)))
      (pss_one (ps_try_onlyE (pss_one (ps_ret (pv 5))) rfl rfl ⟨rfl, by decide, .inl (gl_BadPlan T)⟩ takes0 (fun W pn xe tk po => (pss_one (ps_set (i := 5) sc_read.nd rfl (Or.inl rfl) (pe_makeN (mk_Plan T) (ok_Plan_init T) (hr.mono (by decide)) rfl (gl_Plan T) kb_read_Plan passL (pa_cons (pe_dget hu (pe_fldK (K := K) rfl (pv 1) rfl) pe_str (fun _ _ => rfl)) pa_nil) (pk_cons (pe_dget hu (pe_fldK (K := K) rfl (pv 1) rfl) pe_str (fun _ _ => rfl)) (pk_cons (pe_dget hu (pe_fldK (K := K) rfl (pv 1) rfl) pe_str (fun _ _ => rfl)) pk_nil)))))) (fun a oe cls d pn _ _ => (pss_one ps_never)))))))), ?_⟩
    obtain ⟨R0, hrr, hok⟩ : ∃ f, readRows (Txt.split x "\n") 0 [] [] [] = .inr f ∧ f = (R, B, Td) ∧ planOkD (.list R) (.list B) (.list Td) = true := by
      unfold readM at hm
      split at hm
      · cases hm
      · rename_i R' B' T' h
        split at hm
        · rename_i hk
          cases hm
          exact ⟨_, h, rfl, hk⟩
        · cases hm
    obtain ⟨rfl, hok⟩ := hok
    refine q_when (b := false) (et_is (et_not (et_B (ev_isi (b := "str") (ev_var rfl) (.str x)))) rfl) (fun h => by cases h) fun _ H1 e1 => ?_
    refine fun rx dx nx ndx hne => ?_
    have nx' : upd H1 dx (.own rx) rx = none := by rw [upd_ne (Ne.symm hne)]; exact nx
    have ok0 : Own H1 (upd (upd H1 dx (.own rx)) rx (.ins (g_Reader K) dx [])) [(rx, .ins (g_Reader K) dx [])] := Own.new (Own.nil (Ex.new ndx)) nx'
    refine ⟨H1, [], rx, dx, rfl, ok0, fun r H2 hra o2 => ⟨rfl, ?_⟩⟩
    subst hra
    rw [List.append_nil] at o2
    refine el_split (to := tVar 0) (te := tC (V.str (Str.ofString "\n"))) (σ := [some (.str x), none, none, none, none, none]) (H := H2) (ev_var rfl) ev_c (by decide) (by omega) H2 (Ex.refl _) _ fun pr H3 np e3 hpr => ⟨_, _, rfl, ?_⟩
    dsimp only
    have o3 := o2.same e3
    obtain ⟨G3, o3', s3, k3⟩ := own_max o3
    have hpr3 : G3 pr = some (.lst ((Txt.split x "\n").map V.str)) := k3 _ _ hpr fun q hq z => by
      have := o2.at_ q hq
      rw [z, np] at this
      cases this
    have s3 : Ex H G3 := e1.trans s3
    have hrl := split_le x "\n"
    clear o3 o2 ok0
    have hsh : ∀ y ∈ Txt.split x "\n", y.length ≤ 9000 := fun y hy => Nat.le_trans (split_short (y := "\n") (by decide) hy) hx
    clear hm
    generalize hrows : Txt.split x "\n" = rows at hrl hpr3 hpr hrr hsh
    have hsub : ∀ {G' H'}, Same G3 G' → Same G' H' → SqL K H' pr (rows.map V.str) := fun s s' => sq_of (s' _ _ (s _ _ hpr3))
    refine ⟨_, rfl, pr, rows.map V.str, rfl, hsub (Same.refl _) o3'.sub, fun i n σ' H' => n = rows.length - i ∧ i ≤ rows.length ∧ ∃ G' x1 x2 x3 R1 B1 T1 s3 s4, Same G3 G' ∧ Own G' H' (r.obs K x1 x2 x3) ∧ DpAll K G' x1 R1 ∧ DpAll K G' x2 B1 ∧ DpAll K G' x3 T1 ∧ LotsP R1 B1 T1 ∧ readRows (rows.drop i) i R1 B1 T1 = .inr (R, B, Td) ∧ σ' = [some (.str x), some (.ref r.a), some (.ref pr), s3, s4, none], ⟨rows.length, by simp, Nat.zero_le _, G3, [], [], [], [], [], [], none, none, Same.refl _, o3', .nil, .nil, .nil, ⟨by decide, by decide, by decide, fun _ h => (nomatch h), fun _ h => (nomatch h), fun _ h => (nomatch h)⟩, hrr, rfl⟩, ?_⟩
    rintro i n σ' H' ⟨rfl, hi, G', x1, x2, x3, R1, B1, T1, z3, z4, sg, o4, d1, d2, d3, lp, hrd, rfl⟩
    by_cases hlt : i < rows.length
    · obtain ⟨row, hrow⟩ : ∃ row, rows[i]? = some row := ⟨_, List.getElem?_eq_getElem hlt⟩
      have hdr : rows.drop i = row :: rows.drop (i + 1) := by
        obtain ⟨h1, h2⟩ := List.getElem?_eq_some_iff.mp hrow
        rw [← h2, List.getElem_cons_drop]
      rw [hdr] at hrd
      refine .inr ⟨⟨rows.map V.str, V.str row, hsub sg o4.sub, by rw [List.getElem?_map, hrow]; rfl⟩, fun σ' H' => (i + 1) ≤ rows.length ∧ ∃ G' x1 x2 x3 R1 B1 T1 s3 s4, Same G3 G' ∧ Own G' H' (r.obs K x1 x2 x3) ∧ DpAll K G' x1 R1 ∧ DpAll K G' x2 B1 ∧ DpAll K G' x3 T1 ∧ LotsP R1 B1 T1 ∧ readRows (rows.drop (i + 1)) (i + 1) R1 B1 T1 = .inr (R, B, Td) ∧ σ' = [some (.str x), some (.ref r.a), some (.ref pr), s3, s4, none], fun σ' H' ⟨h1, h2⟩ => ⟨rows.length - (i + 1), by omega, rfl, h1, h2⟩, fun y H5 hy => ?_⟩
      obtain ⟨tt, z, rfl, nt, rfl, hz'⟩ := hy
      have hzx := hz' _ (hsub sg o4.sub)
      rw [List.getElem?_map, hrow] at hzx
      cases hzx
      have e4 : Ex H' (upd H' tt (.tup [.int (i : Nat), V.str row])) := Ex.new nt
      generalize hH4 : upd H' tt (.tup [.int (i : Nat), V.str row]) = H6 at e4
      have htt : H6 tt = some (.tup [.int (i : Nat), V.str row]) := by rw [← hH4]; exact upd_same
      have o5 := o4.same e4
      refine ⟨tt, [.int (i : Nat), V.str row], rfl, st_of htt, rfl, _, _, rfl, _, _, rfl, rfl, ?_⟩
      dsimp only
      refine ⟨_, rfl, r.a, r.dx, [("lots", .ref r.d)], rfl, oi2 0 o5 rfl, rfl, _, rfl, row, rfl, hsh row (List.mem_of_getElem? hrow), fun v H7 e7 hv => ?_⟩
      obtain ⟨G7, o7, sg7, sd7⟩ := own_dif o5 e7
      refine ⟨G7, [], r, x1, x2, x3, R1, B1, T1, v, partM row, rfl, by rw [List.append_nil]; exact o7, daM sg7 d1, daM sg7 d2, daM sg7 d3, dpM sd7 hv, part_ok row, lp, fun hn => ?_, fun R2 B2 T2 hs y1 y2 y3 H8 b1 b2 b3 o8 => ?_⟩
      · exfalso
        unfold readRows at hrd
        rw [hn] at hrd
        cases hrd
      · unfold readRows at hrd
        rw [hs] at hrd
        rw [List.append_nil] at o8
        refine ⟨true, rfl, iteF ?_⟩
        exact ⟨hlt, G7, y1, y2, y3, R2, B2, T2, _, _, sg.trans sg7, o8, b1, b2, b3, take_lots lp (part_ok row) hs, hrd, rfl⟩
    · have : i = rows.length := by omega
      subst this
      rw [List.drop_length] at hrd
      cases hrd
      refine .inl ⟨⟨_, hsub sg o4.sub, by rw [List.length_map]; exact Nat.le_refl _⟩, ?_⟩
      have hd : ∀ (H5 : Hp), Ex H' H5 → ∀ (k : Str) (l : Addr), valV (lotsK r.l1 r.l2 r.l3) (Sum.inr k) = some (.ref l) → Ev (tDGet (tFld K (tVar 1) (Str.ofString "lots")) (tC (.str k))) [some (.str x), some (.ref r.a), some (.ref pr), z3, z4, none] H5 (.ref l) := fun H5 e5 k l hv => ev_dget (kk := Sum.inr k) (ev_fl (ev_var rfl) (oi2 0 (o4.same e5) rfl) (cl_Reader T) (na_Reader_lots T) rfl) ev_c (oi2 1 (o4.same e5) rfl) hv
      refine hd H' (Ex.refl _) "line" r.l1 rfl H' (Ex.refl _) _ fun H5 e5 => ?_
      refine hd H5 e5 "bottom" r.l2 rfl H5 (Ex.refl _) _ fun H6 e6 => ?_
      refine hd H6 (e5.trans e6) "thread" r.l3 rfl H6 (Ex.refl _) _ fun H7 e7 => ?_
      have o7 := ((o4.same e5).same e6).same e7
      refine ⟨rfl, rfl, fun xp pdx nx ndx hne => mk_planS nx ndx hne (.lst (sq_of (oi2 2 o7 rfl)) (daM o7.sub d1)) (.lst (sq_of (oi2 3 o7 rfl)) (daM o7.sub d2)) (.lst (sq_of (oi2 4 o7 rfl)) (daM o7.sub d3)) (.inl rfl) (.inl rfl) lp.sm hok hok fun H9 e9 hp => ⟨rfl, ?_⟩⟩
      exact s_ret (ev_var rfl) fun H10 e10 => q xp H10 ((((s3.trans sg).trans o7.sub).trans e9).trans e10) (plan_mono e10 hp)
end
end KW
end
section
set_option Elab.async false
set_option linter.all false
set_option autoImplicit false
set_option maxRecDepth 100000
set_option maxHeartbeats 2000000
/-! an error with a row: it is made, also where another one is handled -/
namespace KW
open PySem PySem.Spec PyProof.Rows L2 He KR Evl
section
variable {X : Cx} {x : Str} {C : Addr} {e : Expr} {es : List Expr} {ta : TA} {p1 p2 pos : Pos}
/-- C.__init__(self, ..), C an own class over ValueError without one of its own -/
theorem pe_clsinit {pl : Sem Bool} (T : ClI X.K C) (hg : Gl X x) (hm : X.mg x = some (.ref C)) (ha : PA X (e :: es) ta)
    (hdb : (x == ("__debug__" : Str)) = false := by decide)
    (hc : eval (.Call (.Attribute (.Name x p1) "__init__" p2) (e :: es) [] pos) X.env = (do
      let ov ← eval (.Name x p1) X.env
      standAt p2.atName
      let (f, first) ← holding [ov] (getMethod ov "__init__" pl)
      callWith pos f first (backTo pos (starEach (e :: es) X.env)) (backToKw pos (keywordEach [] X.env))) := by rfl)
    (he : starEach (e :: es) X.env = (false, eval e X.env) :: starEach es X.env := by rfl) (hpl : (backTo pos (starEach es X.env)).any (·.1) = false := by rfl) :
    PE X (.Call (.Attribute (.Name x p1) "__init__" p2) (e :: es) [] pos) (tVeI X.K ta) := by
  refine ⟨fun pins s σ H Q I h => ?_⟩
  refine PySem.W.methodCall_KW (ld_glob I hg hm ?_ hdb) hc
  refine PySem.W.method_cls I.kIn T.sp ?_
  refine PySem.W.cls_value I.kIn T.rd T.at_ (by decide +kernel) ?_
  refine PyProof.Rows.callWith_method1 (thn (ha.run pos pins _ σ H _ (I.tok _) h) fun us s1 ⟨vs, H1, I1, r1, a, C, ws, ev, hl, T, ea, q⟩ => ?_) he hpl
  subst ev
  cases r1 with
  | @cons _ u0 _ ur ra rw' =>
    obtain rfl : u0 = Value.ref a := ra
    have hlen : ur.length ≤ sizeLine := by
      rw [← Paired.length rw', sizeLine_eq]
      omega
    exact oinit_ok T I1 ea hlen fun s' J => ⟨.non, H1, J, rfl, q⟩
end
section
variable {P : Program} {w : World} {K : PySem.W.Frag} {mg : Str → Option Value} {base : Heap}
theorem sc_BadRows_init : FnScope ["self", "row"] ["self", "row"] (defScope s_BadRows_init) := ⟨rfl, rfl, rfl, by decide +kernel, rfl, by decide +kernel, by decide +kernel⟩
def spBR (K : PySem.W.Frag) : Sp := fun vs H Q _ => ∃ (a : Addr) (v : V), vs = [.ref a, v] ∧ H a = some (exo a (g_BadRows K) none) ∧ ∀ dx, H dx = none → dx ≠ a → Q .non (upd (upd H dx (exd dx [("row", v)])) a (exo a (g_BadRows K) (some dx)))
theorem br_t (T : Txt w K mg) {H : Hp} {a : Addr} {v : V} {D : Ends} (ha : H a = some (exo a (g_BadRows K) none)) (q : ∀ dx, H dx = none → dx ≠ a → D.nx [some (.ref a), some v] (upd (upd H dx (exd dx [("row", v)])) a (exo a (g_BadRows K) (some dx)))) :
    tSeq (tDrop (tVeI K (tCons (tVar 0) (tCons (tC (.str "a plan's text is due")) tNil)))) (tOst K "row" (tVar 0) (tVar 1)) D [some (.ref a), some v] H := by
  refine ⟨.ref a, rfl, a, g_BadRows K, [.str "a plan's text is due"], rfl, by decide, oex_BadRows T, ha, ?_⟩
  exact ⟨v, rfl, .ref a, rfl, a, g_BadRows K, rfl, oex_BadRows T, nof_BadRows_row T, .inl ⟨ha, q⟩⟩
theorem ok_BadRows_init (T : Txt w K mg) : FnOk P w K mg base CX0 1 (f_BadRows_init K) (fdAt K (f_BadRows_init K)) ["self", "row"] (spBR K) := by
  refine (df_BadRows_init T).ok sc_BadRows_init (fun vs H Q E h => ?_) (fun cdv A outer s H vs Q E hr h => ?_)
  · obtain ⟨_, _, rfl, _⟩ := h
    rfl
  · obtain ⟨a, v, rfl, ha, q⟩ := h
    exact ⟨_, PSs.nox (pss_cons (ps_expr (pe_clsinit (cli_KnockError T) rfl (gl_KnockError T) (pa_cons (pv 0) (pa_cons pe_str pa_nil)))) (pss_one (ps_ost (pv 0) (pv 1)))), br_t T ha q⟩
end
end KW
end
section
set_option Elab.async false
set_option linter.all false
set_option autoImplicit false
set_option maxRecDepth 100000
set_option maxHeartbeats 2000000
/-! the same where an error is handled; try .. except .. else, the suite raising -/
namespace KW
open PySem PySem.Spec PyProof.Rows L2 He KR Evl
section
variable {P : Program} {w : World} {K : PySem.W.Frag} {mg : Str → Option Value} {base : Heap}
theorem ok_BadRows_initH (T : Txt w K mg) : L2H.FnH P w K mg base CX0 1 (f_BadRows_init K) (fdAt K (f_BadRows_init K)) ["self", "row"] (spBR K) := by
  obtain ⟨oc, od, dV, kV, doc, pm, an, cdv, ct, osl, e, lk, hcd, _, _⟩ := (df_BadRows_init T).ex
  rw [e] at lk ⊢
  refine L2H.fn_ofH (k := 0) lk hcd sc_BadRows_init (fun vs H Q E h => ?_) (fun A outer s H vs Q E p hot hr h => ?_)
  · obtain ⟨_, _, rfl, _⟩ := h
    rfl
  · obtain ⟨a, v, rfl, ha, q⟩ := h
    exact ⟨_, pss_cons (ps_expr (pe_clsinit (cli_KnockError T) rfl (gl_KnockError T) (pa_cons (pv 0) (pa_cons pe_str pa_nil)))) (pss_one (ps_ost (pv 0) (pv 1))), br_t T ha q⟩
end
end KW
namespace L2H
open PySem PySem.Spec PyProof.Rows L2 HotX
section
variable {X : Cx} {x : Str} {c : Value} {body suite : List Stmt} {b₀ : Stmt} {np pos pos' : Pos} {tb : WX → TS} {ts : Addr → Value → Option Addr → TS} {Wout : WX} {orelse : List Stmt} {u : TS}
theorem ps_try_onlyXE (ho : PSs X orelse u) (hs : X.stack = X.env :: X.outer) (hf : X.env.frame = some X.env.locals) (hc : Names X x c) (hpa : ∀ hd : Option Value, PassesOwnAt (model X.prog X.w) (X.A.mark hd) X.A X.env X.xe) (tk : L2.Takes X Wout)
    (hb : ∀ (W : WX) (pn : List (Addr × Obj)) (xe : Value → Shared → Prop), L2N.Takes (X.tr pn xe) W → L2.Takes (X.tr pn xe) (wPass X.K c Wout) → PassesOwn (model X.prog X.w) X.A X.env xe → PSs (X.tr pn xe) body (tb W))
    (hsu : ∀ (a : Addr) (oe : Obj) (cls : Value) (d : Option Addr) (pn : List (Addr × Obj)), L2N.Zn cls d oe → (∃ vs, oe.data = .fields vs) → L2.Takes (suiteX X a ((a, oe) :: pn)) Wout → HotC (suiteX X a ((a, oe) :: pn)) →
      PSs (suiteX X a ((a, oe) :: pn)) (b₀ :: suite) (ts a cls d)) :
    PS X (.Try body [.ExceptHandler (some (.Name x np)) none (b₀ :: suite) pos'] orelse [] pos) (fun D σ H => tb (wOnly X.K c ts Wout D) { D with nx := u D } σ H) := by
  refine ⟨fun pins s σ H D I h => ?_⟩
  have ok := I.ok
  have hfr : X.A.frames = some (X.env :: X.outer) := by rw [ok.frames, hs]
  have notFr : ∀ {B h : Heap} {a : Addr} {o : Obj} {vs : Array Value}, h.FunFrames B (X.env :: X.outer) → h.get? a = some o → o.data = .fields vs → a ∉ frs (X.env :: X.outer) := fun {B h a o vs} ff e dd hm => by
    obtain ⟨_, o', e', hnf⟩ := ff.mem hm
    rw [e] at e'; cases e'
    exact hnf _ dd
  have flyOn : ∀ {a : Addr} {B : Heap} {sI s' : Shared} {σ' : L2.St} {H' : Hp} {cls : Value} {d : Option Addr} {h3 : Heap}, Inv X pins σ' H' sI → (∀ b o, sI.heap.get? b = some o → b ∉ frs X.stack → B.get? b = some o) → sI.heap.UpToSlots h3 →
      HandSPX.FlyingZ B (X.env :: X.outer) a (Zc cls d) h3 → H' a = none → s'.os = sI.os → AllBare s'.gens → Wout cls d σ' H' → wpAny (model X.prog X.w) X.A (handleBy (.ref a) X.env []) (SP X pins D) X.xe { s' with heap := h3 } := by
    intro a B sI s' σ' H' cls d h3 J nb up fl3 na os ag w
    refine wpAny_handleBy_nil ?_
    obtain ⟨k1, k2, k3, oe, vs, T, oT, ts', he, hz, hd, h1, hr⟩ := id fl3
    unfold PySem.passOn
    refine wpAny_bind (wpAny_field he hd h1 ?_)
    rw [if_neg (show ¬ ((Value.ref T == Value.none) = true) from by simp)]
    have fin : wpAny (model X.prog X.w) X.A (setFlight (.ref a) X.env.frame) (fun _ s4 => wpAny (model X.prog X.w) X.A (throw (.ref a) : Sem Flow) (SP X pins D) X.xe s4) X.xe { s' with heap := h3 } := by
      rw [hf]
      refine HandSPX.setFlight_upZ fl3 fun h4 hh4 up4 => wpAny_throw (tk _ _ ?_)
      exact ⟨a, B, sI, pins, σ', H', cls, d, rfl, J, nb, up.trans up4, .inr (.inr (by rw [hs]; exact hh4)), na, os, ag, w⟩
    first
      | exact wpAny_bind (wpAny_pure (wpAny_bind fin))
      | exact wpAny_bind fin
  refine wpAny_Try_except ?_
  refine wpAny_mono ((hb (wOnly X.K c ts Wout D) (X.pn ++ pins) (fun e s₁ => wpAny (model X.prog X.w) X.A (noteFrame e X.env) (fun _ s₂ => wpAny (model X.prog X.w) X.A (setFlight e none) (fun _ s₃ =>
    wpAny (model X.prog X.w) X.A (handleBy e X.env [.ExceptHandler (some (.Name x np)) none (b₀ :: suite) pos']) (SP X pins D) X.xe s₃) X.xe s₂) X.xe s₁) (fun u s' xx => ?_) (fun u s' xx => ?_) PassesOwn.looking).run [] s σ H { D with nx := u D } (I.toTry _) h) (fun f s1 hsp => ?_) (fun e s1 he => he)
  · -- an exception whose context is None
    obtain ⟨a, B, sI, pins', σ', H', cls, d, rfl, J', nb, up, sky, na, os, ag, b, hb1, hyes, hno⟩ := xx
    have J : Inv X pins σ' H' sI := J'.ofTry ok
    have sky' : Sky B (X.env :: X.outer) a (L2N.Zn cls d) X.env.locals s'.heap := by rw [← hs]; exact sky
    show wpAny (model X.prog X.w) X.A (noteFrame (.ref a) X.env) _ _ _
    refine L2N.Sky.land L2N.Zn.steady hfr hf sky' fun h3 fl3 up3 => ?_
    have J3 : Inv X pins σ' H' { s' with heap := h3 } := J.landed nb fl3.1 (up.trans up3) os ag
    obtain ⟨oe3, vs3, he3, hz3, hd3⟩ := fl3.there
    have nfr : a ∉ frs (X.env :: X.outer) := notFr fl3.2.2.1 he3 hd3
    have nL : a ≠ X.env.locals := fun z => nfr (List.mem_filterMap.mpr ⟨X.env, List.mem_cons_self, by rw [hf, z]⟩)
    have nF : a ∉ X.fs := fun hm => by
      obtain ⟨e, he, q⟩ := List.mem_filterMap.mp hm
      exact nfr (List.mem_filterMap.mpr ⟨e, List.mem_cons_of_mem _ he, q⟩)
    have S3 := J3.suite he3 hd3 na nL nF
    refine wpAny_handleBy_cons (codeAny_handlers_test ?_) (by intro q; cases q)
    have LT : PySem.W.Looks (model X.prog X.w) h3 (typeOf (.ref a)) cls := fun A Q E s k q => wpAny_typeOf_ref (k _ _ he3) (by rw [hz3.1]; exact q)
    have LM := PySem.W.exm_one (M := model X.prog X.w) (J3.kIn) LT hb1
    have test : ∀ {Q : Value → Shared → Prop} {E : Value → Shared → Prop}, Q c { s' with heap := h3 } → wpAny (model X.prog X.w) (X.A.mark (some (.ref a))) (eval (.Name x np) X.env) Q E { s' with heap := h3 } := fun {Q E} q => by
      obtain ⟨hg, hdbg, hm | ⟨hm, hv, hnn⟩⟩ := hc
      · exact ld_glob (X := X.suite a ((a, oe3) :: (X.pn ++ pins))) S3 hg hm q hdbg
      · exact ld_blt (X := X.suite a ((a, oe3) :: (X.pn ++ pins))) S3 hg hm hv q hnn hdbg
    refine test (LM.here ?_)
    cases b with
    | true =>
      refine codeAny_handlers_suite ?_
      refine HandSPX.lands_againZ fl3 fun h4 fl4 up4 => ?_
      have J4 : Inv X pins σ' H' { s' with heap := h4 } := J.landed nb fl4.1 ((up.trans up3).trans up4) os ag
      obtain ⟨oe4, vs4, he4, hz4, hd4⟩ := fl4.there
      have S4 := J4.suite he4 hd4 na nL nF
      have tkS : L2.Takes (suiteX X a ((a, oe4) :: (X.pn ++ pins))) Wout := fun u2 s2 x2 => by
        obtain ⟨a2, B2, sI2, pn2, σ2, H2, cls2, d2, e2, I2, nb2, up2, sky2, na2, os2, ag2, w2⟩ := x2
        exact tk u2 s2 ⟨a2, B2, sI2, pins, σ2, H2, cls2, d2, e2, unsuiteX I2 ok, nb2, up2, sky2, na2, os2, ag2, w2⟩
      have hot : HotC (suiteX X a ((a, oe4) :: (X.pn ++ pins))) := ⟨(a, oe4), ⟨rfl, vs4, hd4, hz4.2.2 vs4 hd4⟩, List.mem_cons_self⟩
      refine wpAny_mono ((hsu a oe4 cls d (X.pn ++ pins) hz4 ⟨_, hd4⟩ tkS hot).run [] _ _ H' _ (suiteX_of S4) (hyes rfl a na)) (fun f s6 hsp => ?_) (fun e6 s6 z => hpa (some (.ref a)) e6 s6 z)
      cases f with
      | next =>
        obtain ⟨σ6, H6, S6, q6⟩ := hsp
        exact ⟨_, _, unsuiteX S6 ok, q6⟩
      | brk =>
        obtain ⟨σ6, H6, S6, q6⟩ := hsp
        exact ⟨_, _, unsuiteX S6 ok, q6⟩
      | cont =>
        obtain ⟨σ6, H6, S6, q6⟩ := hsp
        exact ⟨_, _, unsuiteX S6 ok, q6⟩
      | ret u =>
        obtain ⟨v6, σ6, H6, S6, r6, q6⟩ := hsp
        exact ⟨_, _, _, unsuiteX S6 ok, r6, q6⟩
    | false =>
      show wpAny _ X.A (handleBy (.ref a) X.env []) _ _ _
      exact flyOn J nb (up.trans up3) (flyingZ_imp (fun o z => z.zc) fl3) na os ag (hno rfl)
  · -- any other: the clause doesn't name it
    obtain ⟨a, B, sI, pins', σ', H', cls, d, rfl, J', nb, up, sky, na, os, ag, hb1, hno⟩ := xx
    have J : Inv X pins σ' H' sI := J'.ofTry ok
    have sky' : Sky B (X.env :: X.outer) a (Zc cls d) X.env.locals s'.heap := by rw [← hs]; exact sky
    show wpAny (model X.prog X.w) X.A (noteFrame (.ref a) X.env) _ _ _
    refine L2.Sky.land Zc.steady hfr hf sky' fun h3 fl3 up3 => ?_
    have J3 : Inv X pins σ' H' { s' with heap := h3 } := J.landed nb fl3.1 (up.trans up3) os ag
    obtain ⟨oe3, vs3, he3, hz3, hd3⟩ := fl3.there
    have nfr : a ∉ frs (X.env :: X.outer) := notFr fl3.2.2.1 he3 hd3
    have nL : a ≠ X.env.locals := fun z => nfr (List.mem_filterMap.mpr ⟨X.env, List.mem_cons_self, by rw [hf, z]⟩)
    have nF : a ∉ X.fs := fun hm => by
      obtain ⟨e, he, q⟩ := List.mem_filterMap.mp hm
      exact nfr (List.mem_filterMap.mpr ⟨e, List.mem_cons_of_mem _ he, q⟩)
    have S3 := J3.suite he3 hd3 na nL nF
    refine wpAny_handleBy_cons (codeAny_handlers_test ?_) (by intro q; cases q)
    have LT : PySem.W.Looks (model X.prog X.w) h3 (typeOf (.ref a)) cls := fun A Q E s k q => wpAny_typeOf_ref (k _ _ he3) (by rw [hz3.1]; exact q)
    have LM := PySem.W.exm_one (M := model X.prog X.w) (J3.kIn) LT hb1
    have test : ∀ {Q : Value → Shared → Prop} {E : Value → Shared → Prop}, Q c { s' with heap := h3 } → wpAny (model X.prog X.w) (X.A.mark (some (.ref a))) (eval (.Name x np) X.env) Q E { s' with heap := h3 } := fun {Q E} q => by
      obtain ⟨hg, hdbg, hm | ⟨hm, hv, hnn⟩⟩ := hc
      · exact ld_glob (X := X.suite a ((a, oe3) :: (X.pn ++ pins))) S3 hg hm q hdbg
      · exact ld_blt (X := X.suite a ((a, oe3) :: (X.pn ++ pins))) S3 hg hm hv q hnn hdbg
    refine test (LM.here ?_)
    show wpAny _ X.A (handleBy (.ref a) X.env []) _ _ _
    exact flyOn J nb (up.trans up3) fl3 na os ag hno
  · cases f with
    | next =>
      obtain ⟨σ', H', J', q⟩ := hsp
      exact ho.run pins s1 σ' H' D (J'.ofTry ok) q
    | brk =>
      obtain ⟨σ', H', J', q⟩ := hsp
      exact ⟨σ', H', J'.ofTry ok, q⟩
    | cont =>
      obtain ⟨σ', H', J', q⟩ := hsp
      exact ⟨σ', H', J'.ofTry ok, q⟩
    | ret u =>
      obtain ⟨v, σ', H', J', r, q⟩ := hsp
      exact ⟨v, σ', H', J'.ofTry ok, r, q⟩
end
end L2H
namespace L2
open PySem PySem.Spec PyProof.Rows
section
variable {ES : St → XK} {X : Cx} {CX : CXT} {k n : Nat} {f C : Addr} {fd : FuncData} {ps ks : List Str} {sp : Sp} {E : XK} {x : Str} {p pos : Pos} {e : Expr} {es : List Expr} {kws : List Keyword} {t tk : TA} {g : List Value → List Value → List Value} {gV : List V → List V → List V}
theorem run_makeNS {pins : List (Addr × Obj)} {σ : St} {H : Hp} {s : Shared} {Q : VK} {us ws : List Value} {vs zs : List V} (M : Mk X.K C f) (F : FnOk X.prog X.w X.K X.mg X.base CX k f fd ps sp) (hr : Room (k + 1) X.A) (hb : KBn X.K fd ps (n + 1) ks g gV)
    (hx : PassesAt CX X σ E) (I : Inv X pins σ H s) (r : Vals vs us) (rz : Vals zs ws) (l1 : vs.length = n) (l2 : zs.length = ks.length)
    (h : ∀ x dx, H x = none → H dx = none → dx ≠ x → sp (gV (.ref x :: vs) zs) (upd (upd H dx (.own x)) x (.ins C dx [])) (fun v H2 => v = .non ∧ Q (.ref x) H2) E) :
    wpAny (model X.prog X.w) X.A (call (.ref C) us (ks.zip ws)) (EP X pins σ Q) X.xe s := by
  have hq := h (s.heap.objs.size + 1) s.heap.objs.size (I.hok.fresh (Nat.le_succ _)) (I.hok.fresh (Nat.le_refl _)) (Nat.ne_of_lt (Nat.lt_succ_self _))
  have I2 := Inv.made (C := C) I
  have r1 : Vals (V.ref (s.heap.objs.size + 1) :: vs) (Value.ref (s.heap.objs.size + 1) :: us) := .cons rfl r
  have r2 := hb.rel r1 rz
  have e1 : (Value.ref (s.heap.objs.size + 1) :: us).length = n + 1 := r1.length.symm.trans (congrArg Nat.succ l1)
  have e2 : ws.length = ks.length := rz.length.symm.trans l2
  refine wpAny_call (make_map (f := f) I.kIn M.makes M.init (beq_iff_eq.mp M.fn) (codeAny_mono (F.run _ X.stack _ _ ⟨Value.ref (s.heap.objs.size + 1) :: us, ks.zip ws⟩ (g (Value.ref (s.heap.objs.size + 1) :: us) ws) _ _ E (hr.make C us (ks.zip ws))
    (I2.env0.make C us (ks.zip ws)) (hb.to _ (Value.ref (s.heap.objs.size + 1) :: us) ws I2.kIn e1 e2) r2 hq) fun r s' hq' => ?_))
  cases r with
  | error e => exact hx pins _ _ e s' I2 hq'
  | ok fl =>
    cases fl with
    | ret u =>
      obtain ⟨v, H', I3, rv, ev, q3⟩ := I2.after hq'
      subst ev
      exact ⟨rv, ⟨V.ref (s.heap.objs.size + 1), H', I3, rfl, q3⟩⟩
    | next => exact False.elim hq'
    | brk => exact False.elim hq'
    | cont => exact False.elim hq'
theorem pe_makeNS (M : Mk X.K C f) (F : FnOk X.prog X.w X.K X.mg X.base CX k f fd ps sp) (hr : Room (k + 1) X.A) (hg : Gl X x) (hm : X.mg x = some (.ref C)) (hb : KBn X.K fd ps (n + 1) ks g gV) (hx : ∀ σ, PassesAt CX X σ (ES σ))
    (ha : PA X (e :: es) t) (hkw : PK X kws tk) (hall : (backToKw pos (keywordEach kws X.env)).all (·.1.isSome) = true := by rfl) (hks : (backToKw pos (keywordEach kws X.env)).filterMap (·.1) = ks := by rfl)
    (hdb : (x == ("__debug__" : Str)) = false := by decide) (he : starEach (e :: es) X.env = (false, eval e X.env) :: starEach es X.env := by rfl)
    (hpl : ((backTo pos (starEach (e :: es) X.env)).any (·.1) || (backToKw pos (keywordEach kws X.env)).any (·.1.isNone)) = false := by rfl) :
    PE X (.Call (.Name x p) (e :: es) kws pos) (fun σ H Q => tMakeN C n ks.length sp gV (ES σ) t tk σ H Q) := by
  refine ⟨fun pins s σ H Q I h => ?_⟩
  refine wpAny_Call_Name_kw (ld_glob I hg hm ?_ hdb)
  refine PySem.W.callWith_KW (h₀ := X.base) I.ok.mod.kin M.kp hall (thn (ha.run pos pins s σ H _ I h) fun us s1 ⟨vs, H1, I1, r, q⟩ => ?_) hpl he
  refine thn (hkw.run pos pins s1 σ H1 _ I1 q) fun ws s2 ⟨zs, H2, I2, rz, l1, l2, q2⟩ => ⟨I2.kIn, ?_⟩
  rw [hks]
  exact run_makeNS M F hr hb (hx σ) I2 r rz l1 l2 q2
end
end L2
end
section
set_option Elab.async false
set_option linter.all false
set_option autoImplicit false
set_option maxRecDepth 100000
set_option maxHeartbeats 400000
/-! Plan refused, to callers that raise then -/
namespace KW
open PySem PySem.Spec PyProof.Rows L2 He KR Evl
local macro_rules
  | `(tactic| walk_at "ev") => `(tactic| repeat' (first
    | exact ev_c | exact ev_var rfl | exact ea_nil | exact rv_I0 | exact ru_neg | exact eo_none
    | exact rv_eq rfl | exact rv_ne rfl
    | exact rv_ixT (by assumption) (by rfl) | exact rv_ixL (by assumption) (by rfl)
    | exact sv_q (by assumption) (by assumption) | exact sv_within (by assumption)
    | exact Or.inr (by assumption) | exact Or.inl (by assumption) | (show (_ : String) ∈ _; decide)
    | with_reducible (first | apply ev_isi | apply ev_lenS | apply ev_if' | apply et_test | apply et_B | apply et_not | apply et_and | apply et_or | apply ev_andV | apply ev_orV | apply ev_notV | apply ea_cons | apply eo_some | apply ev_op | apply ev_un | apply ev_call)
    | assumption
    | (with_reducible intro hh; first | exact absurd (show true = false from hh) (by decide) | exact absurd (show false = true from hh) (by decide) | clear hh)))

section
variable {P : Program} {w : World} {K : PySem.W.Frag} {mg : Str → Option Value} {base : Heap}
theorem ok_Plan_initN (T : Txt w K mg) : FnOk P w K mg base (L2N.CX P w) 8 (f_Plan_init K) (fdAt K (f_Plan_init K)) ["self", "lines", "bottoms", "threads"] (spPlan K) := by
  refine (df_Plan_init T).ok sc_Plan_init (fun vs H Q E h => ?_) (fun cdv A outer s H vs Q E hr h => ?_)
  · obtain ⟨self, dx, l, b, t, dl, db, dt, rfl, _⟩ := h
    rfl
  · obtain ⟨self, dx, l, b, t, dl, db, dt, rfl, hself, ⟨hl, hb, ht⟩, ⟨ml, mb, mt⟩, qE, qQ⟩ := h
    obtain ⟨_, h_MOST_LINES⟩ := in_MOST_LINES T
    obtain ⟨_, h_MOST_OTHERS⟩ := in_MOST_OTHERS T
    refine ⟨_, (pss_cons (ps_if (PW.pt (pw_or (pt_not (pt_val (pe_call (ok_are_ones T) (hr.mono (by decide)) rfl (gl_are_ones T) (df_are_ones T).kp (bi_are_ones T) .nil pass0 (pa_cons (pv 1) (pa_cons pe_int (pa_cons (pe_glob (v := .int 5) rfl h_MOST_LINES ⟨_, rfl⟩) (pa_cons (pe_glob (v := .ref (g_is_line K)) rfl (gl_is_line T) rfl) pa_nil))))))) (pw_or1 (pt_not (pt_val (pe_call (ok_are_unlike_ranks T) (hr.mono (by decide)) rfl (gl_are_unlike_ranks T) (df_are_unlike_ranks T).kp (bi_are_unlike_ranks T) .nil pass0 (pa_cons (pv 1) pa_nil))))))) (pss_one (L2N.ps_raise rfl (L2N.takes_of rfl rfl rfl rfl)  (L2N.pmk_own PySem.F.excBase_ValueError (ec_BadPlan T).1 (gl_BadPlan T) (ec_BadPlan T).2.1 (raises_own (ec_BadPlan T).2.2.1 (ec_BadPlan T).2.2.2) rfl))) pss_nil)
      (pss_cons (ps_if (PW.pt (pw_or (pt_not (pt_val (pe_call (ok_are_ones T) (hr.mono (by decide)) rfl (gl_are_ones T) (df_are_ones T).kp (bi_are_ones T) .nil pass0 (pa_cons (pv 2) (pa_cons pe_int (pa_cons (pe_glob (v := .int 4) rfl h_MOST_OTHERS ⟨_, rfl⟩) (pa_cons (pe_glob (v := .ref (g_is_bottom K)) rfl (gl_is_bottom T) rfl) pa_nil))))))) (pw_or1 (pt_not (pt_val (pe_call (ok_are_ones T) (hr.mono (by decide)) rfl (gl_are_ones T) (df_are_ones T).kp (bi_are_ones T) .nil pass0 (pa_cons (pv 3) (pa_cons pe_int (pa_cons (pe_glob (v := .int 4) rfl h_MOST_OTHERS ⟨_, rfl⟩) (pa_cons (pe_glob (v := .ref (g_is_thread K)) rfl (gl_is_thread T) rfl) pa_nil)))))))))) (pss_one (L2N.ps_raise rfl (L2N.takes_of rfl rfl rfl rfl)  (L2N.pmk_own PySem.F.excBase_ValueError (ec_BadPlan T).1 (gl_BadPlan T) (ec_BadPlan T).2.1 (raises_own (ec_BadPlan T).2.2.1 (ec_BadPlan T).2.2.2) rfl))) pss_nil)
      (pss_cons (ps_setLc (i := 4) (own := [("some", 6)]) (g := gName 6) (tt := tYes) rfl sc_Plan_init.nd rfl rfl (sw_true rfl rfl rfl (by decide +kernel)) (pi_tupK (K := K) rfl (pe_tup (pa_cons (pv 1) (pa_cons (pv 2) (pa_cons (pv 3) pa_nil))))) (blkOk_by (N := ["self", "lines", "bottoms", "threads", "names", "one", "some"]) (sc := defScope s_Plan_init) (by decide +kernel)) (fun _ _ _ _ _ => pg_name (i := 6) sc_Plan_init.nd rfl (Or.inl rfl)) (fun _ _ _ _ _ => pts_nil) (fun _ _ _ _ _ => (pe_lc (own := [("one", 5)]) (g := gName 5) (tt := tYes) rfl sc_Plan_init.nd (pi_seq (K := K) rfl (pv 6)) (blkOk_by (N := ["self", "lines", "bottoms", "threads", "names", "one", "some"]) (sc := { kind := .function, names := [(".0", .local), ("some", .local)], isGenerator := false, isCoroutine := false }) (by decide +kernel)) (fun _ _ _ _ _ => pg_name (i := 5) sc_Plan_init.nd rfl (Or.inl rfl)) (fun _ _ _ _ _ => pts_nil) (fun _ _ _ _ _ => (pe_ix (ix_tupK (K := K) rfl) (pv 5) pe_int (fun _ _ => rfl))))))
      (pss_cons (ps_if (PW.pt (pw_or (pt_not (pt_val (pe_call (ok_are_unlike_ranks T) (hr.mono (by decide)) rfl (gl_are_unlike_ranks T) (df_are_unlike_ranks T).kp (bi_are_unlike_ranks T) .nil pass0 (pa_cons (pv 3) pa_nil)))) (pw_or1 (pt_not (pt_val (pe_call (ok_all_there T) (hr.mono (by decide)) rfl (gl_all_there T) (df_all_there T).kp (bi_all_there T) .nil pass0 (pa_cons (pv 4) (pa_cons (pv 1) (pa_cons (pv 2) (pa_cons (pv 3) pa_nil)))))))))) (pss_one (L2N.ps_raise rfl (L2N.takes_of rfl rfl rfl rfl)  (L2N.pmk_own PySem.F.excBase_ValueError (ec_BadPlan T).1 (gl_BadPlan T) (ec_BadPlan T).2.1 (raises_own (ec_BadPlan T).2.2.1 (ec_BadPlan T).2.2.2) rfl))) pss_nil)
      (pss_cons (ps_fldK (K := K) rfl (pv 0) (pe_call (ok_copied T) (hr.mono (by decide)) rfl (gl_copied T) (df_copied T).kp (bi_copied T) .nil pass0 (pa_cons (pv 1) pa_nil)))
      (pss_cons (ps_fldK (K := K) rfl (pv 0) (pe_call (ok_copied T) (hr.mono (by decide)) rfl (gl_copied T) (df_copied T).kp (bi_copied T) .nil pass0 (pa_cons (pv 2) pa_nil)))
      (pss_one (ps_fldK (K := K) rfl (pv 0) (pe_call (ok_copied T) (hr.mono (by decide)) rfl (gl_copied T) (df_copied T).kp (bi_copied T) .nil pass0 (pa_cons (pv 3) pa_nil)))))))))), ?_⟩
    have rk : ∀ {H1 : Hp}, Ex H H1 → areOnesD dl 1 5 isLineD = true → SpV (spRanks K) [l] H1 (.bl (unlikeD (seqD dl))) := fun {H1} e h => by
      obtain ⟨ds, g, e1, z1, z2, hp, _⟩ := ones_inv h
      rw [e1]
      exact sv_ranks g (dpM e hl) (by omega) fun e he => (one_line (hp e he)).1
    refine q_when (b := !areOnesD dl 1 5 isLineD || !unlikeD (seqD dl)) (et_or (et_not (et_B (ev_call (ea_cons (ev_var rfl) (ea_cons ev_c (ea_cons ev_c (ea_cons ev_c ea_nil)))) (sv_lines hl ml (by decide))))) fun h1 => et_not (et_B (ev_call (ea_cons (ev_var rfl) ea_nil) (rk (Ex.refl _) (by cases h : areOnesD dl 1 5 isLineD <;> simp_all))))) (fun hc H1 e1 => ?_) fun hc H1 e1 => ?_
    · refine qE ?_ H1 e1
      unfold planOkD
      cases h1 : areOnesD dl 1 5 isLineD <;> cases h2 : unlikeD (seqD dl) <;> simp_all
    have c1 : areOnesD dl 1 5 isLineD = true := by cases h : areOnesD dl 1 5 isLineD <;> simp_all
    have c2 : unlikeD (seqD dl) = true := by cases h : unlikeD (seqD dl) <;> simp_all
    refine q_when (b := !areOnesD db 0 4 isBottomD || !areOnesD dt 0 4 isThreadD) (et_or (et_not (et_B (ev_call (ea_cons (ev_var rfl) (ea_cons ev_c (ea_cons ev_c (ea_cons ev_c ea_nil)))) (sv_bottoms (dpM e1 hb) mb (by decide))))) fun h1 => et_not (et_B (ev_call (ea_cons (ev_var rfl) (ea_cons ev_c (ea_cons ev_c (ea_cons ev_c ea_nil)))) (sv_threads (dpM e1 ht) mt (by decide))))) (fun hc H2 e2 => ?_) fun hc H2 e2 => ?_
    · refine qE ?_ H2 (e1.trans e2)
      unfold planOkD
      cases h1 : areOnesD db 0 4 isBottomD <;> cases h2 : areOnesD dt 0 4 isThreadD <;> simp_all
    have c3 : areOnesD db 0 4 isBottomD = true := by cases h : areOnesD db 0 4 isBottomD <;> simp_all
    have c4 : areOnesD dt 0 4 isThreadD = true := by cases h : areOnesD dt 0 4 isThreadD <;> simp_all
    obtain ⟨A, gA, eA, _, zA, pA, _⟩ := ones_inv c1
    obtain ⟨B, gB, eB, _, zB, pB, _⟩ := ones_inv c3
    obtain ⟨C, gC, eC, _, zC, pC, _⟩ := ones_inv c4
    rw [eA, eB, eC] at qQ
    have e12 := e1.trans e2
    have hone : ∀ e ∈ A ++ (B ++ C), OneD e ∧ CopyD e ∧ ∃ n r, e = .tuple (.str n :: r) := fun e he => by
      rcases List.mem_append.mp he with he | he
      · exact (one_line (pA e he)).2
      · rcases List.mem_append.mp he with he | he
        · exact one_bottom (pB e he)
        · exact (one_thread (pC e he)).2
    refine q_asgR (names_ev ⟨_, _, _, _, rfl⟩ (dpM e12 hl) (dpM e12 hb) (dpM e12 ht) gA gB gC ⟨by omega, by omega, by omega⟩ (fun e he => (hone e he).2.2) fun D H3 e3 hN => ?_)
    have e13 := e12.trans e3
    obtain ⟨pn, xs, hpn, hN, hN3⟩ := dpL hN
    cases hpn
    obtain ⟨v1, _, rfl, hv1, hN3⟩ := dpC hN3
    obtain ⟨v2, _, rfl, hv2, hN3⟩ := dpC hN3
    obtain ⟨v3, _, rfl, hv3, hN3⟩ := dpC hN3
    obtain rfl := dpN hN3
    obtain ⟨n1, y1, rfl, k1, j1⟩ := dpL hv1
    obtain ⟨n2, y2, rfl, k2, j2⟩ := dpL hv2
    obtain ⟨n3, y3, rfl, k3, j3⟩ := dpL hv3
    obtain rfl := da_strs j1
    obtain rfl := da_strs j2
    obtain rfl := da_strs j3
    refine q_when (b := !unlikeD C || !allThereD (A.map nameD, B.map nameD, C.map nameD) (A ++ (B ++ C))) (et_or (et_not (et_B (ev_call (ea_cons (ev_var rfl) ea_nil) (sv_ranks gC (dpM e13 ht) (by omega) fun e he => (one_thread (pC e he)).1)))) fun h1 => et_not (et_B (ev_call (ea_cons (ev_var rfl) (ea_cons (ev_var rfl) (ea_cons (ev_var rfl) (ea_cons (ev_var rfl) ea_nil)))) fun H4 e4 Q q E => ?_))) (fun hc H4 e4 => ?_) fun hc H4 e4 => ?_
    · have e14 := e13.trans e4
      exact ⟨D, n1, n2, n3, _, _, _, l, b, t, dl, db, dt, A, B, C, rfl, ⟨ex_l e4 hN, ex_l e4 k1, ex_l e4 k2, ex_l e4 k3⟩, ⟨gA, gB, gC⟩, ⟨dpM e14 hl, dpM e14 hb, dpM e14 ht⟩, ⟨by omega, by omega, by omega⟩, fun e he => (hone e he).1, fun H' s => q H' s⟩
    · refine qE ?_ H4 (e13.trans e4)
      unfold planOkD
      rw [eA, eB, eC]
      cases h1 : unlikeD C <;> cases h2 : allThereD (A.map nameD, B.map nameD, C.map nameD) (A ++ (B ++ C)) <;> simp_all
    have c5 : planOkD dl db dt = true := by
      unfold planOkD
      rw [eA] at c2
      rw [eA, eB, eC, c1, c2, c3, c4]
      cases h1 : unlikeD C <;> cases h2 : allThereD (A.map nameD, B.map nameD, C.map nameD) (A ++ (B ++ C)) <;> simp_all
    have e14 := e13.trans e4
    obtain ⟨G, L, o, ⟨⟨al, xl, rfl, sl, il⟩, ⟨ab, xb, rfl, sb, ib⟩, ⟨at_, xt, rfl, st, it⟩⟩, q⟩ := qQ c5
    have o4 := o.same e14
    have hs4 : H4 self = some (.ins (g_Plan K) dx []) := o4.get (List.mem_cons_self ..)
    have i1 := ins_ho hs4 ⟨al, xl, rfl, sl.imp (ex_l e14) (ex_t e14), in_mono (Same.refl _) e14 il⟩
    have i2 := ins_ho hs4 ⟨ab, xb, rfl, sb.imp (ex_l e14) (ex_t e14), in_mono (Same.refl _) e14 ib⟩
    have i3 := ins_ho hs4 ⟨at_, xt, rfl, st.imp (ex_l e14) (ex_t e14), in_mono (Same.refl _) e14 it⟩
    have w0 : Same (Ho H4 self) H4 := fun b o e => by
      unfold Ho at e
      split at e
      · cases e
      · exact e
    refine copy_fld (i := 1) (na := na_Plan_row T) rfl rfl o4 (ins_mono (Same.refl _) w0 i1) (cl_Plan T) (by show (0 : Nat) < 1000; decide) (by omega) (fun e he => (hone e (by simp [he])).2.1) fun r1 y1 G1 H5 s1 w1 o5 k1 d1 => ?_
    have w1 : Same (Ho H4 self) H5 := fun b o e => w1 b o (ho_of w0 e)
    refine copy_fld (i := 2) (na := na_Plan_low T) rfl rfl o5 (ins_mono s1 w1 i2) (cl_Plan T) (by show (1 : Nat) < 1000; decide) (by omega) (fun e he => (hone e (by simp [he])).2.1) fun r2 y2 G2 H6 s2 w2 o6 k2 d2 => ?_
    have w2 : Same (Ho H4 self) H6 := fun b o e => w2 b o (ho_of w1 e)
    refine copy_fld (i := 3) (na := na_Plan_late T) rfl rfl o6 (ins_mono (s1.trans s2) w2 i3) (cl_Plan T) (by show (2 : Nat) < 1000; decide) (by omega) (fun e he => (hone e (by simp [he])).2.1) fun r3 y3 G3 H7 s3 w3 o7 k3 d3 => ?_
    have w3 : Same (Ho H4 self) H7 := fun b o e => w3 b o (ho_of w2 e)
    have hold := Own.hold o7
    have held := Own.held o7
    refine q _ H7 ((s1.trans s2).trans (s3.trans held)) hold (fun c u hc e => w3 c u ?_) ⟨dx, r1, r2, r3, y1, y2, y3, upd_same, ⟨held _ _ (s3 _ _ (s2 _ _ k1)), daM (s2.trans (s3.trans held)) d1⟩, ⟨held _ _ (s3 _ _ k2), daM (s3.trans held) d2⟩, held _ _ k3, daM held d3⟩
    unfold Ho
    rw [if_neg hc]
    exact e14 _ _ e
end
end KW
end
section
set_option Elab.async false
set_option linter.all false
set_option autoImplicit false
set_option maxRecDepth 100000
set_option maxHeartbeats 1000000
/-! texts.py: read, of any text, of what is none -/
namespace KW
open PySem PySem.Spec PyProof.Rows L2 He KR Evl
local macro_rules
  | `(tactic| walk_at "na") => `(tactic| with_reducible (first | exact cl_Line (by assumption) | exact cl_Job (by assumption) | exact cl_Engine (by assumption) | exact cl_Plan (by assumption) | exact cl_Run (by assumption) | exact cl_Bench (by assumption) | exact na_Line_name (by assumption) | exact na_Line_rank (by assumption) | exact na_Line_is_up (by assumption) | exact na_Line_guard (by assumption) | exact na_Line_top (by assumption) | exact na_Line_let_by (by assumption) | exact na_Line_shut_till (by assumption) | exact na_Line_since (by assumption) | exact na_Line_fresh (by assumption) | exact na_Line_counts (by assumption) | exact na_Line_longest (by assumption) | exact na_Job_word (by assumption) | exact na_Job_name (by assumption) | exact na_Job_rank (by assumption) | exact na_Job_steps (by assumption) | exact na_Job_masks_then (by assumption) | exact na_Job_at (by assumption) | exact na_Job_left (by assumption) | exact na_Engine_plan (by assumption) | exact na_Engine_ways (by assumption) | exact na_Engine_tops (by assumption) | exact na_Engine_bottom (by assumption) | exact na_Engine_put_off (by assumption) | exact na_Engine_woken (by assumption) | exact na_Engine_begun (by assumption) | exact na_Engine_depth (by assumption) | exact na_Engine_now (by assumption) | exact na_Engine_row (by assumption) | exact na_Engine_depths (by assumption) | exact na_Engine_last_begun (by assumption) | exact na_Plan_row (by assumption) | exact na_Plan_low (by assumption) | exact na_Plan_late (by assumption) | exact na_Run_row (by assumption) | exact na_Run_depths (by assumption) | exact na_Run_table (by assumption) | exact na_Run_longest (by assumption) | exact na_Bench_engine (by assumption) | exact na_Bench_fresh (by assumption) | exact na_Bench_told_so_far (by assumption) | exact na_Bench_rows (by assumption)))
local macro_rules
  | `(tactic| walk_at "oi") => `(tactic| first | assumption | exact oi2 0 (by assumption) rfl | exact oi2 1 (by assumption) rfl | exact oi2 2 (by assumption) rfl | exact oi2 3 (by assumption) rfl | exact oi2 4 (by assumption) rfl | exact oi2 5 (by assumption) rfl | exact oi2 6 (by assumption) rfl | exact oi2 7 (by assumption) rfl | exact oi2 8 (by assumption) rfl)
local macro_rules
  | `(tactic| walk_at "ev") => `(tactic| repeat' (first
    | exact ev_c | exact ev_var rfl | exact ea_nil | exact rv_I0 | exact ru_neg | exact eo_none
    | exact rv_eq rfl | exact rv_ne rfl
    | exact rv_ixT (by assumption) (by rfl) | exact rv_ixL (by assumption) (by rfl)
    | exact sv_q (by assumption) (by assumption) | exact sv_within (by assumption)
    | exact Or.inr (by assumption) | exact Or.inl (by assumption) | (show (_ : String) ∈ _; decide)
    | with_reducible (first | apply ev_isi | apply ev_lenS | apply ev_if' | apply et_test | apply et_B | apply et_not | apply et_and | apply et_or | apply ev_andV | apply ev_orV | apply ev_notV | apply ea_cons | apply eo_some | apply ev_fl | apply ev_op | apply ev_un | apply ev_call)
    | walk_at "na" | walk_at "oi" | (show List.lookup _ _ = _; rfl)
    | assumption
    | (with_reducible intro hh; first | exact absurd (show true = false from hh) (by decide) | exact absurd (show false = true from hh) (by decide) | clear hh)))

theorem if_pos_of {c : Bool} {A B : Prop} (hc : c = true) (h : A) : if c = true then A else B := by
  rw [if_pos hc]
  exact h
section
variable {P : Program} {w : World} {K : PySem.W.Frag} {mg : Str → Option Value} {base : Heap}
def spRead (K : PySem.W.Frag) : Sp := fun vs H Q E => ∃ (v : V) (d : PyData), vs = [v] ∧ Dp K H v d ∧ ((∃ x : Str, d = .str x ∧ x.length ≤ 9000 ∧ (∀ n : Nat, readM x = .inl n → ∀ H' dx, Ex H H' → H' dx = some (.xd [("row", .int (n : Int))]) → E (.ref (g_BadRows K)) (some dx) H') ∧ (∀ R B T p H', readM x = .inr (R, B, T) → Ex H H' → PlanAt K H' p R B T → Q (.ref p) H')) ∨
  ((∀ x, d ≠ .str x) ∧ ∀ H' dx, Ex H H' → H' dx = some (.xd [("row", .int 0)]) → E (.ref (g_BadRows K)) (some dx) H'))
theorem ok_read (T : Txt w K mg) : FnOk P w K mg base (L2.CX P w) 10 (f_read K) (fdAt K (f_read K)) ["text"] (spRead K) := by
  obtain ⟨_, kb_read_Plan⟩ := kb_Plan T
  refine (df_read T).ok sc_read (fun vs H Q E h => ?_) (fun cdv A outer s H vs Q E hr h => ?_)
  · obtain ⟨_, _, rfl, _⟩ := h
    rfl
  · obtain ⟨v, d, rfl, hv, h⟩ := h
    have hu := hr.units
    have hu : _ + 1 < _ := Nat.lt_of_le_of_lt (Nat.add_le_add_left (by decide) _) hu
    refine ⟨_, ((pss_cons (ps_if (pt_not (pt_val (pe_callB (call_isiK1 (K := K) rfl) (by rfl) (fr_isinstance T) (by decide +kernel) (pa_cons (pv 0) (pa_cons (pe_bltn (v := .ty "str") (u := .type "str") (by rfl) (fr_str T) (by decide +kernel) rfl) pa_nil))))) (pss_one (ps_raise rfl (takes_of rfl rfl rfl rfl)  (pmk_oex (oex_BadRows T) (ini_BadRows T) (tyi_BadRows T) (ok_BadRows_init T) (hr.mono (by decide)) (bi_BadRows_init T) .nil pass0 rfl (gl_BadRows T) (pa_cons pe_int pa_nil)))) pss_nil)
      (pss_cons (ps_par (i := 1) (j := 2) rfl sc_read.nd rfl rfl (by decide) rfl rfl (pa_cons (pe_make0 (mk_Reader T) (ok_Reader_init T) (hr.mono (by decide)) rfl (gl_Reader T) (bi_Reader_init T) .nil pass0) (pa_cons (pe_split (pv 0) pe_str) pa_nil)) (by rfl))
      (pss_cons (ps_for (passes_of rfl) rfl (pi_enum (by rfl) (fr_enumerate T) (pa_cons (pv 2) pa_nil)) (pg_tupK rfl (K := K) rfl (pgs_cons (pg_name (i := 3) sc_read.nd rfl (Or.inl rfl)) (pgs_cons (pg_name (i := 4) sc_read.nd rfl (Or.inl rfl)) pgs_nil))) (pss_one (ps_if (pt_not (pt_val (pe_meth (pv 1) (cl_Reader T) (me_Reader_take T) (ok_Reader_take T) (hr.mono (by decide)) (bi_Reader_take T) .nil pass0 (pa_cons (pe_call (ok_part_of T) (hr.mono (by decide)) rfl (gl_part_of T) (df_part_of T).kp (bi_part_of T) .nil pass0 (pa_cons (pv 4) pa_nil)) pa_nil)))) (pss_one (ps_raise rfl (takes_of rfl rfl rfl rfl)  (pmk_oex (oex_BadRows T) (ini_BadRows T) (tyi_BadRows T) (ok_BadRows_init T) (hr.mono (by decide)) (bi_BadRows_init T) .nil pass0 rfl (gl_BadRows T) (pa_cons (pv 3) pa_nil)))) pss_nil)))
      (pss_one (L2H.ps_try_onlyXE (pss_one (ps_ret (pv 5))) rfl rfl ⟨rfl, by decide, .inl (gl_BadPlan T)⟩ (L2H.passesAt_of rfl) (takes_of rfl rfl rfl rfl) (fun W pn xe tkN tk po => (pss_one (ps_set (i := 5) sc_read.nd rfl (Or.inl rfl) (pe_makeNS (mk_Plan T) (ok_Plan_initN T) (hr.mono (by decide)) rfl (gl_Plan T) kb_read_Plan (fun σ => L2N.passAt tkN σ) (pa_cons (pe_dget hu (pe_fldK (K := K) rfl (pv 1) rfl) pe_str (fun _ _ => rfl)) pa_nil) (pk_cons (pe_dget hu (pe_fldK (K := K) rfl (pv 1) rfl) pe_str (fun _ _ => rfl)) (pk_cons (pe_dget hu (pe_fldK (K := K) rfl (pv 1) rfl) pe_str (fun _ _ => rfl)) pk_nil)))))) (fun a oe cls d pn hz hf tk hot => (pss_one (L2H.ps_raiseHN hot tk (L2H.pmk5_oexH (oex_BadRows T) (ini_BadRows T) (tyi_BadRows T) (ok_BadRows_initH T) (L2H.roomH_mark (hr.mono (by decide)) _) hot (bi_BadRows_init T) pass0 rfl (gl_BadRows T) (pa_cons (pe_callB (call_lenK (K := K) rfl) (by rfl) (fr_len T) PySem.boot_len (pa_cons (pv 2) pa_nil)) pa_nil))))))))))), ?_⟩
    have rz : ∀ {ta : TA} {σ : L2.St} {H1 : Hp} {i : Int} {Q1 : XK}, EvA ta σ H1 [.int i] → (∀ H' dx, Ex H1 H' → H' dx = some (.xd [("row", .int i)]) → Q1 (.ref (g_BadRows K)) (some dx) H') → tMkO (g_BadRows K) (spBR K) [] ta σ H1 Q1 := fun {ta σ H1 i Q1} ha q => by
      refine ha H1 (Ex.refl _) _ fun H2 e2 => ⟨(by show (1 : Nat) ≤ 1000; decide), fun a na => ⟨a, .int i, rfl, upd_same, fun dx ndx hne => ⟨rfl, dx, [("row", .int i)], upd_same, ?_, ?_, ?_⟩⟩⟩
      · rw [upd_ne hne]
        exact upd_same
      · rw [upd_ne hne] at ndx
        exact ndx
      · rw [upd_ne hne] at ndx
        refine q _ dx (e2.trans fun b o hb => ?_) upd_same
        have hbd : b ≠ dx := fun z => by
          rw [z, ndx] at hb
          cases hb
        have hba : b ≠ a := fun z => by
          rw [z, na] at hb
          cases hb
        rw [upd_ne hbd, del_ne hba, upd_ne hba, upd_ne hbd, upd_ne hba]
        exact hb
    rcases h with ⟨x, rfl, hx, qb, q⟩ | ⟨hd, qb⟩
    case inr =>
      refine q_when (b := true) (et_is (et_not (et_B (ev_isi (b := "str") (ev_var rfl) hv))) ?_) (fun _ H1 e1 => rz (ea_cons ev_c ea_nil) fun H' dx e h => qb H' dx (e1.trans e) h) (fun h => nomatch h)
      cases d <;> first | rfl | exact absurd rfl (hd _)
    obtain rfl := dpS hv
    refine q_when (b := false) (et_is (et_not (et_B (ev_isi (b := "str") (ev_var rfl) (.str x)))) rfl) (fun h => by cases h) fun _ H1 e1 => ?_
    refine fun rx dx nx ndx hne => ?_
    have nx' : upd H1 dx (.own rx) rx = none := by rw [upd_ne (Ne.symm hne)]; exact nx
    have ok0 : Own H1 (upd (upd H1 dx (.own rx)) rx (.ins (g_Reader K) dx [])) [(rx, .ins (g_Reader K) dx [])] := Own.new (Own.nil (Ex.new ndx)) nx'
    refine ⟨H1, [], rx, dx, rfl, ok0, fun r H2 hra o2 => ⟨rfl, ?_⟩⟩
    subst hra
    rw [List.append_nil] at o2
    refine el_split (to := tVar 0) (te := tC (V.str (Str.ofString "\n"))) (σ := [some (.str x), none, none, none, none, none]) (H := H2) (ev_var rfl) ev_c (by decide) (by omega) H2 (Ex.refl _) _ fun pr H3 np e3 hpr => ⟨_, _, rfl, ?_⟩
    dsimp only
    have o3 := o2.same e3
    obtain ⟨G3, o3', s3, k3⟩ := own_max o3
    have hpr3 : G3 pr = some (.lst ((Txt.split x "\n").map V.str)) := k3 _ _ hpr fun q hq z => by
      have := o2.at_ q hq
      rw [z, np] at this
      cases this
    have s3 : Ex H G3 := e1.trans s3
    have hrl := split_le x "\n"
    clear o3 o2 ok0
    have hsh : ∀ y ∈ Txt.split x "\n", y.length ≤ 9000 := fun y hy => Nat.le_trans (split_short (y := "\n") (by decide) hy) hx
    obtain ⟨Z, hZ⟩ : ∃ Z, readRows (Txt.split x "\n") 0 [] [] [] = Z := ⟨_, rfl⟩
    have hmI : ∀ n, Z = .inl n → readM x = .inl n := fun n h => by
      unfold readM
      rw [hZ, h]
    have hmR : ∀ R B T, Z = .inr (R, B, T) → readM x = if planOkD (.list R) (.list B) (.list T) then .inr (R, B, T) else .inl (Txt.split x "\n").length := fun R B T h => by
      unfold readM
      rw [hZ, h]
    generalize hrows : Txt.split x "\n" = rows at hrl hpr3 hpr hZ hsh hmR
    have hsub : ∀ {G' H'}, Same G3 G' → Same G' H' → SqL K H' pr (rows.map V.str) := fun s s' => sq_of (s' _ _ (s _ _ hpr3))
    refine ⟨_, rfl, pr, rows.map V.str, rfl, hsub (Same.refl _) o3'.sub, fun i n σ' H' => n = rows.length - i ∧ i ≤ rows.length ∧ ∃ G' x1 x2 x3 R1 B1 T1 s3 s4, Same G3 G' ∧ Own G' H' (r.obs K x1 x2 x3) ∧ DpAll K G' x1 R1 ∧ DpAll K G' x2 B1 ∧ DpAll K G' x3 T1 ∧ LotsP R1 B1 T1 ∧ readRows (rows.drop i) i R1 B1 T1 = Z ∧ σ' = [some (.str x), some (.ref r.a), some (.ref pr), s3, s4, none], ⟨rows.length, by simp, Nat.zero_le _, G3, [], [], [], [], [], [], none, none, Same.refl _, o3', .nil, .nil, .nil, ⟨by decide, by decide, by decide, fun _ h => (nomatch h), fun _ h => (nomatch h), fun _ h => (nomatch h)⟩, hZ, rfl⟩, ?_⟩
    rintro i n σ' H' ⟨rfl, hi, G', x1, x2, x3, R1, B1, T1, z3, z4, sg, o4, d1, d2, d3, lp, hrd, rfl⟩
    by_cases hlt : i < rows.length
    · obtain ⟨row, hrow⟩ : ∃ row, rows[i]? = some row := ⟨_, List.getElem?_eq_getElem hlt⟩
      have hdr : rows.drop i = row :: rows.drop (i + 1) := by
        obtain ⟨h1, h2⟩ := List.getElem?_eq_some_iff.mp hrow
        rw [← h2, List.getElem_cons_drop]
      rw [hdr] at hrd
      refine .inr ⟨⟨rows.map V.str, V.str row, hsub sg o4.sub, by rw [List.getElem?_map, hrow]; rfl⟩, fun σ' H' => (i + 1) ≤ rows.length ∧ ∃ G' x1 x2 x3 R1 B1 T1 s3 s4, Same G3 G' ∧ Own G' H' (r.obs K x1 x2 x3) ∧ DpAll K G' x1 R1 ∧ DpAll K G' x2 B1 ∧ DpAll K G' x3 T1 ∧ LotsP R1 B1 T1 ∧ readRows (rows.drop (i + 1)) (i + 1) R1 B1 T1 = Z ∧ σ' = [some (.str x), some (.ref r.a), some (.ref pr), s3, s4, none], fun σ' H' ⟨h1, h2⟩ => ⟨rows.length - (i + 1), by omega, rfl, h1, h2⟩, fun y H5 hy => ?_⟩
      obtain ⟨tt, z, rfl, nt, rfl, hz'⟩ := hy
      have hzx := hz' _ (hsub sg o4.sub)
      rw [List.getElem?_map, hrow] at hzx
      cases hzx
      have e4 : Ex H' (upd H' tt (.tup [.int (i : Nat), V.str row])) := Ex.new nt
      generalize hH4 : upd H' tt (.tup [.int (i : Nat), V.str row]) = H6 at e4
      have htt : H6 tt = some (.tup [.int (i : Nat), V.str row]) := by rw [← hH4]; exact upd_same
      have o5 := o4.same e4
      refine ⟨tt, [.int (i : Nat), V.str row], rfl, st_of htt, rfl, _, _, rfl, _, _, rfl, rfl, ?_⟩
      dsimp only
      refine ⟨_, rfl, r.a, r.dx, [("lots", .ref r.d)], rfl, oi2 0 o5 rfl, rfl, _, rfl, row, rfl, hsh row (List.mem_of_getElem? hrow), fun v H7 e7 hv => ?_⟩
      obtain ⟨G7, o7, sg7, sd7⟩ := own_dif o5 e7
      refine ⟨G7, [], r, x1, x2, x3, R1, B1, T1, v, partM row, rfl, by rw [List.append_nil]; exact o7, daM sg7 d1, daM sg7 d2, daM sg7 d3, dpM sd7 hv, part_ok row, lp, fun hn => ?_, fun R2 B2 T2 hs y1 y2 y3 H8 b1 b2 b3 o8 => ?_⟩
      · unfold readRows at hrd
        rw [hn] at hrd
        intro H8 o8
        rw [List.append_nil] at o8
        refine ⟨false, rfl, ?_⟩
        refine if_pos_of (show (!false) = true from rfl) (rz (ea_cons (ev_var rfl) ea_nil) fun H9 dx e9 h9 => qb i (hmI i hrd.symm) H9 dx (((s3.trans (sg.trans sg7)).trans o8.sub).trans e9) h9)
      · unfold readRows at hrd
        rw [hs] at hrd
        rw [List.append_nil] at o8
        refine ⟨true, rfl, iteF ?_⟩
        exact ⟨hlt, G7, y1, y2, y3, R2, B2, T2, _, _, sg.trans sg7, o8, b1, b2, b3, take_lots lp (part_ok row) hs, hrd, rfl⟩
    · have : i = rows.length := by omega
      subst this
      rw [List.drop_length] at hrd
      have hZ2 : Z = .inr (R1, B1, T1) := hrd.symm
      refine .inl ⟨⟨_, hsub sg o4.sub, by rw [List.length_map]; exact Nat.le_refl _⟩, ?_⟩
      have hd : ∀ (H5 : Hp), Ex H' H5 → ∀ (k : Str) (l : Addr), valV (lotsK r.l1 r.l2 r.l3) (Sum.inr k) = some (.ref l) → Ev (tDGet (tFld K (tVar 1) (Str.ofString "lots")) (tC (.str k))) [some (.str x), some (.ref r.a), some (.ref pr), z3, z4, none] H5 (.ref l) := fun H5 e5 k l hv => ev_dget (kk := Sum.inr k) (ev_fl (ev_var rfl) (oi2 0 (o4.same e5) rfl) (cl_Reader T) (na_Reader_lots T) rfl) ev_c (oi2 1 (o4.same e5) rfl) hv
      refine hd H' (Ex.refl _) "line" r.l1 rfl H' (Ex.refl _) _ fun H5 e5 => ?_
      refine hd H5 e5 "bottom" r.l2 rfl H5 (Ex.refl _) _ fun H6 e6 => ?_
      refine hd H6 (e5.trans e6) "thread" r.l3 rfl H6 (Ex.refl _) _ fun H7 e7 => ?_
      have o7 := ((o4.same e5).same e6).same e7
      cases hok : planOkD (.list R1) (.list B1) (.list T1) with
      | true =>
        have hq := hmR _ _ _ hZ2
        rw [hok, if_pos rfl] at hq
        refine ⟨rfl, rfl, fun xp pdx nx ndx hne => mk_planS nx ndx hne (.lst (sq_of (oi2 2 o7 rfl)) (daM o7.sub d1)) (.lst (sq_of (oi2 3 o7 rfl)) (daM o7.sub d2)) (.lst (sq_of (oi2 4 o7 rfl)) (daM o7.sub d3)) (.inl rfl) (.inl rfl) lp.sm hok hok fun H9 e9 hp => ⟨rfl, ?_⟩⟩
        exact s_ret (ev_var rfl) fun H10 e10 => q R1 B1 T1 xp H10 hq ((((s3.trans sg).trans o7.sub).trans e9).trans e10) (plan_mono e10 hp)
      | false =>
        have hq := hmR _ _ _ hZ2
        rw [hok, if_neg (by decide)] at hq
        refine ⟨rfl, rfl, fun xp pdx nx ndx hne => ?_⟩
        have eM : Ex H7 (upd (upd H7 pdx (.own xp)) xp (.ins (g_Plan K) pdx [])) := (Ex.new ndx).trans (Ex.new (by rw [upd_ne (Ne.symm hne)]; exact nx))
        refine ⟨xp, pdx, _, _, _, .list R1, .list B1, .list T1, rfl, upd_same, ⟨dpM eM (.lst (sq_of (oi2 2 o7 rfl)) (daM o7.sub d1)), dpM eM (.lst (sq_of (oi2 3 o7 rfl)) (daM o7.sub d2)), dpM eM (.lst (sq_of (oi2 4 o7 rfl)) (daM o7.sub d3))⟩, lp.sm, fun _ H9 e9 => ?_, fun h => by rw [hok] at h; cases h⟩
        refine ⟨true, em_BadPlan_BadPlan T, fun _ a na => ?_, fun h => nomatch h⟩
        have eA : Ex G3 H9 := ((sg.trans o7.sub).trans eM).trans e9
        have hlr : (rows.map V.str).length = rows.length := List.length_map ..
        refine rz (ea_cons (ev_is (ev_lenS (ev_var rfl) (.inl (sq_of (eA _ _ hpr3)))) (by rw [hlr])) ea_nil) fun H' dx e h => qb rows.length hq H' dx ((s3.trans eA).trans e) h
end
end KW
end
section
set_option Elab.async false
set_option linter.all false
set_option autoImplicit false
set_option maxRecDepth 100000
set_option maxHeartbeats 2000000
/-! isinstance of an error that has a dict -/
namespace PySem.W
open PySem PySem.Spec PySem.Calls PyProof.Rows
section
variable {prog : Program} {w : World} {A : Around} {E : Value → Shared → Prop} {s : Shared} {K : Frag} {x D : Addr} {ox : Obj} {od : Option Obj}
theorem findObj_dataD {C : Addr} {name : Str} {a g : Value} (hc : (clsIn K C).isSome = true) (ha : findIn K (.ref C) name = some (some a)) (hg : specialIn K a "__get__" = some (some g)) (ht : takesIn K a = some true) : findObj K C od name = some (.bind g a) := by
  obtain ⟨cd, hc⟩ := Option.isSome_iff_exists.mp hc
  unfold findObj
  rw [hc, Option.bind_some, ha, Option.bind_some]
  simp [hg, ht]
theorem kin_classD {Q : Option Value → Shared → Prop} (hga : findIn K (.ref D) "__getattribute__" = some (some (.builtin "BaseException.__getattribute__"))) (hgt : findIn K (.ref D) "__getattr__" = some none) (hsub : subIn K (.ref D) (.type "BaseException") = some true)
    (hdct : hasDictIn K D = true) (ha : findIn K (.ref D) "__class__" = some (some (.builtin "object.__class__")))
    (hn : specialIn K (.builtin "object.__class__") "__get__" = some (some (.builtin "getset_descriptor.__get__"))) (htk : takesIn K (.builtin "object.__class__") = some true) (hm : mroIn K D (.type "object") = some true)
    (X : K.In s.heap) (I : InstAt s.heap x ox D od) (h : Q (some (.ref D)) { s with toks := s.toks + 1 }) : wpAny (model prog w) A (getAttr? (.ref x) "__class__") Q E s := by
  have hf : findObj K D od "__class__" = some (.bind (.builtin "getset_descriptor.__get__") (.builtin "object.__class__")) := findObj_dataD (by obtain ⟨cd, hc, _⟩ := any_some hdct; rw [hc]; rfl) ha hn htk
  obtain ⟨hp, g, d, t, os⟩ := s
  have L0 := I.type (M := model prog w)
  have L1 := looks_findIn (M := model prog w) X hga
  have L2 := looks_findIn (M := model prog w) X hgt
  have L3 := looks_find (M := model prog w) X I hf
  have sub : Looks (model prog w) hp (isInstance (.ref x) (.type "BaseException")) true := L0.andThen (looks_subIn X hsub)
  have hx0 : (false && onTheHeap (Value.builtin "BaseException.__getattribute__")) = false := rfl
  have hx2 : (Value.builtin "BaseException.__getattribute__" == Value.builtin "object.__getattribute__") = false := by decide +kernel
  have hx1 : (onTheHeap (Value.ref D) && Value.builtin "BaseException.__getattribute__" == Value.builtin "object.__getattribute__") = false := by rw [hx2]; rfl
  unfold getAttr? getAttrBy? getAttrBy
  refine wpAny_bind (wpAny_mkText (wpAny_bind (wpAny_attempt (wpAny_holding (wpAny_bind (L0.at (wpAny_bind (L1.at ?_))))))))
  show wpAny _ _ (if (onTheHeap (Value.ref D) && Value.builtin "BaseException.__getattribute__" == Value.builtin "object.__getattribute__") = true then _ else _) _ _ _
  rw [hx1, if_neg Bool.false_ne_true]
  unfold getAttrByItsOwn hookBefore
  refine wpAny_bind ?_
  rw [if_pos (show onTheHeap (Value.ref D) = true from rfl)]
  refine L2.at ?_
  refine wpAny_bind (wpAny_attempt (wpAny_holding ?_))
  unfold callGetattribute
  rw [hx0, if_neg Bool.false_ne_true]
  unfold boundAndCalled
  rw [PySem.F.excAttr_ValueError.ga.bind (.ref x)]
  refine wpAny_bind (wpAny_pure ?_)
  show wpAny _ _ (call (.builtin "BaseException.__getattribute__") [.ref x, .str "__class__" t]) _ _ _
  refine wpAny_call (codeAny_call_builtin PySem.F.excAttr_ValueError.ga.plain PySem.F.entry_bexc_ga ?_)
  refine @check_slot (model prog w) _ _ ⟨hp, g, d, t + 1, os⟩ "BaseException.__getattribute__" "BaseException" "__getattribute__" (.ref x) [.str "__class__" t] [] _ (by decide +kernel) (by decide +kernel) sub (PySem.F.args_bexc_ga (.ref x) (.str "__class__" t)) ?_
  unfold Builtin.«object.__getattribute__»
  refine wpAny_bind (wpAny_of_eq (a := ((Value.ref x : Value), [Value.str "__class__" t])) (by first | rfl | (simp only [slotArgs]; rfl)) ?_)
  refine wpAny_bind (wpAny_pure (wpAny_bind (L0.at (wpAny_bind (L3.at ?_)))))
  show wpAny _ _ (holding [Value.builtin "object.__class__"] (call (.builtin "getset_descriptor.__get__") [.builtin "object.__class__", .ref x, .ref D]) >>= ret) _ _ _
  refine wpAny_bind (wpAny_holding (wpAny_call (class_get (s := ⟨hp, g, d, t + 1, os⟩) (ox := ox) (od := od) X I hm ?_)))
  refine wpAny_pure ?_
  show wpAny _ _ (handedOut (.ref D)) _ _ _
  rw [handedOut_of (v := .ref D) rfl]
  first
    | exact wpAny_pure (wpAny_pure h)
    | exact wpAny_pure h
    | exact wpAny_pure (wpAny_bind (wpAny_pure (wpAny_pure h)))
end
end PySem.W
namespace KW
open PySem PySem.Spec PyProof.Rows L2 He KR Evl
theorem kitx_excD {K : PySem.W.Frag} {x D : Addr} {ox : Obj} (C : ExcC K D) : PySem.W.KitX K (.ref x) (.ref D) (fun h => ∃ od, PySem.W.InstAt h x ox D od) where
  ty := fun _ _ _ ⟨_, I⟩ => I.type
  it := fun M h X _ => by
    obtain ⟨cdD, hcD, _⟩ := PySem.W.any_some C.hd
    unfold PySem.W.clsIn at hcD
    split at hcD
    · rename_i c' d' cd' sl' ho
      intro A' Q' E' s' k q
      unfold isType loadHead
      exact wpAny_bind (wpAny_loadPart (k _ _ (X _ _ ho)) (wpAny_pure q))
    · cases hcD
  ne := fun h tp dd its n sl X htp => (PySem.W.handS_kitx_exc (x := x) (ox := ox) C.hg C.hk C.hs C.hd C.ha C.hn C.ht C.hm).ne h tp dd its n sl X htp
  ca := fun X ⟨_, I⟩ k => PySem.W.kin_classD C.hg C.hk C.hs C.hd C.ha C.hn C.ht C.hm X I k
/-- isinstance(e, c), e the error that the suite holds -/
def rIsX (K : PySem.W.Frag) (a : Addr) (cls : Value) (d : Option Addr) : List V → Hp → VK → Prop := fun xs H Q => ∃ (D : Addr) (c : V) (cv : Value) (b : Bool), cls = .ref D ∧ ExcC K D ∧ (d = none ∨ ∃ dd fs, d = some dd ∧ H dd = some (.xd fs)) ∧ xs = [.ref a, c] ∧ (∀ u, RelV c u → u = cv) ∧ PySem.W.kitOne K (.ref D) cv = some b ∧ Q (.bl b) H
theorem call_isX {X : Cx} {K : PySem.W.Frag} {a : Addr} {oe : Obj} {cls : Value} {d : Option Addr} {pn : List (Addr × Obj)} (hK : X.K = K) (hz : Zc cls d oe) (hf : ∃ vs, oe.data = .fields vs) : CallR (X.suite a ((a, oe) :: pn)) (.builtin "isinstance") (rIsX K a cls d) := by
  subst hK
  intro pins s σ H xs us Q I r h
  obtain ⟨D, c, cv, b, rfl, C, hd, rfl, hcv, e, q⟩ := h
  cases r with
  | cons rx rr =>
    cases rr with
    | cons rt rr =>
      cases rr
      cases rx
      have ec := hcv _ rt
      subst ec
      obtain ⟨hget, _⟩ := I.pin (a, oe) (List.mem_append.mpr (.inl List.mem_cons_self))
      obtain ⟨vs, hv⟩ := hf
      obtain ⟨od, J⟩ : ∃ od, PySem.W.InstAt s.heap a oe D od := by
        obtain ⟨oc, od0, oda, osl⟩ := oe
        obtain ⟨h1, h2⟩ := hz
        dsimp only at h1 h2 hv
        subst h1 h2 hv
        rcases hd with rfl | ⟨dd, fs, rfl, hx⟩
        · exact ⟨none, hget, rfl, rfl, trivial⟩
        · have hx2 : ObjOk X.prog X.w H s.heap dd (.xd fs) := I.hok dd _ hx
          obtain ⟨mA, hns, hr⟩ := hx2
          obtain ⟨od, ho, hl⟩ := lookIn_ns hns
          exact ⟨some od, hget, rfl, rfl, ho⟩
      exact PySem.W.kia_one (kitx_excD C) I.kIn ⟨od, J⟩ e (fun z => nomatch z) fun tk => ⟨.bl b, H, I.kept (t' := tk) fun _ _ z => z, rfl, q⟩
end KW
end
section
set_option Elab.async false
set_option linter.all false
set_option autoImplicit false
set_option maxRecDepth 100000
set_option maxHeartbeats 1000000
/-! readings, opened -/
namespace KW
open PySem PySem.Spec PyProof.Rows L2 He KR Evl
section
variable {K : PySem.W.Frag} {G H : Hp} {L : List (Addr × HO)} {σ : L2.St} {te tf : TE} {ta tA : TA} {tz tu tw : TS} {t u : TT} {D : Ends} {E : XK}
theorem t_cons {Q : List V → Hp → Prop} (h : te σ H fun x H1 => ta σ H1 fun xs H2 => Q (x :: xs) H2) : tCons te ta σ H Q := h
theorem t_nil {Q : List V → Hp → Prop} (h : Q [] H) : tNil σ H Q := h
theorem t_call {sp : Sp} {dvs vs : List V} {E : XK} {Q : VK} (h : EvA ta σ H vs) (k : ∀ H1, Ex H H1 → sp (vs ++ dvs) H1 Q E) : tCall sp dvs E ta σ H Q := h H (Ex.refl _) _ fun H1 e1 => k H1 e1
theorem t_callT {sp : Sp} {dvs : List V} {E : XK} {Q : VK} (h : ta σ H fun vs H1 => sp (vs ++ dvs) H1 Q E) : tCall sp dvs E ta σ H Q := h
theorem t_lst {Q : VK} (h : ta σ H fun xs H1 => xs.length ≤ sizeLine ∧ ∀ p, H1 p = none → Q (.ref p) (upd H1 p (.lst xs))) : tLst ta σ H Q := h
theorem t_tup {Q : VK} (h : ta σ H fun xs H1 => xs.length ≤ sizeLine ∧ ∀ p, H1 p = none → Q (.ref p) (upd H1 p (.tup xs))) : tTup ta σ H Q := h
theorem q_asgT {i : Nat} (h : te σ H fun v H1 => tz D (σ.set i (some v)) H1) : tSeq (tAsg te (gName i)) tz D σ H := h
theorem t_ev {v : V} {Q : VK} (h : Ev te σ H v) (k : ∀ H1, Ex H H1 → Q v H1) : te σ H Q := h H (Ex.refl _) _ k
theorem t_opT {r : R2} {Q : VK} (h : te σ H fun x H1 => tf σ H1 fun y H2 => r x y H2 Q) : tOp r te tf σ H Q := h
theorem t_orR {R : Bool → Hp → Prop} (h : t σ H fun c H1 => if c = true then R true H1 else u σ H1 R) : tOr t u σ H R := h
theorem t_testT {R : Bool → Hp → Prop} (h : te σ H fun x H1 => ∃ c, x = .bl c ∧ R c H1) : tTest te σ H R := h
theorem t_cbO {r : List V → Hp → VK → Prop} {Q : VK} (h : ta σ H fun vs H1 => r vs H1 Q) : tCB r ta σ H Q := h
theorem q_ifT (h : t σ H fun b H1 => if b = true then tu { D with nx := tz D } σ H1 else tw { D with nx := tz D } σ H1) : tSeq (tIfS t tu tw) tz D σ H := h
theorem s_ifT (h : t σ H fun b H1 => if b = true then tu D σ H1 else tw D σ H1) : tIfS t tu tw D σ H := h
theorem t_notB {R : Bool → Hp → Prop} (h : te σ H fun x H1 => ∃ c, x = .bl c ∧ R (!c) H1) : tNot (tB te) σ H R := h
theorem s_retT (h : te σ H D.rt) : tRet te D σ H := h
theorem q_parT {i j : Nat} (h : ta σ H fun vs H1 => ∃ v w, vs = [v, w] ∧ tz D ((σ.set i (some v)).set j (some w)) H1) : tSeq (tPar i j ta) tz D σ H := h
theorem own_keepE {H' : Hp} {a : Addr} {ob : HO} (o : Own G H L) (s : Same H H') (n : H a = none) (e : H' a = some ob) : ∃ G', Own G' H' L ∧ Same G G' ∧ G' a = some ob := ⟨_, (own_keep o s n e).1, (own_keep o s n e).2, upd_same⟩
end
end KW
end
section
set_option Elab.async false
set_option linter.all false
set_option autoImplicit false
set_option maxRecDepth 100000
set_option maxHeartbeats 1000000
/-! the row of which a text is refused -/
namespace KW
open PySem PySem.Spec PyProof.Rows L2 He KR Evl
local macro_rules
  | `(tactic| walk_at "na") => `(tactic| with_reducible (first | exact cl_Line (by assumption) | exact cl_Job (by assumption) | exact cl_Engine (by assumption) | exact cl_Plan (by assumption) | exact cl_Run (by assumption) | exact cl_Bench (by assumption) | exact na_Line_name (by assumption) | exact na_Line_rank (by assumption) | exact na_Line_is_up (by assumption) | exact na_Line_guard (by assumption) | exact na_Line_top (by assumption) | exact na_Line_let_by (by assumption) | exact na_Line_shut_till (by assumption) | exact na_Line_since (by assumption) | exact na_Line_fresh (by assumption) | exact na_Line_counts (by assumption) | exact na_Line_longest (by assumption) | exact na_Job_word (by assumption) | exact na_Job_name (by assumption) | exact na_Job_rank (by assumption) | exact na_Job_steps (by assumption) | exact na_Job_masks_then (by assumption) | exact na_Job_at (by assumption) | exact na_Job_left (by assumption) | exact na_Engine_plan (by assumption) | exact na_Engine_ways (by assumption) | exact na_Engine_tops (by assumption) | exact na_Engine_bottom (by assumption) | exact na_Engine_put_off (by assumption) | exact na_Engine_woken (by assumption) | exact na_Engine_begun (by assumption) | exact na_Engine_depth (by assumption) | exact na_Engine_now (by assumption) | exact na_Engine_row (by assumption) | exact na_Engine_depths (by assumption) | exact na_Engine_last_begun (by assumption) | exact na_Plan_row (by assumption) | exact na_Plan_low (by assumption) | exact na_Plan_late (by assumption) | exact na_Run_row (by assumption) | exact na_Run_depths (by assumption) | exact na_Run_table (by assumption) | exact na_Run_longest (by assumption) | exact na_Bench_engine (by assumption) | exact na_Bench_fresh (by assumption) | exact na_Bench_told_so_far (by assumption) | exact na_Bench_rows (by assumption)))
local macro_rules
  | `(tactic| walk_at "oi") => `(tactic| first | assumption | exact oi2 0 (by assumption) rfl | exact oi2 1 (by assumption) rfl | exact oi2 2 (by assumption) rfl | exact oi2 3 (by assumption) rfl | exact oi2 4 (by assumption) rfl | exact oi2 5 (by assumption) rfl | exact oi2 6 (by assumption) rfl | exact oi2 7 (by assumption) rfl | exact oi2 8 (by assumption) rfl)
local macro_rules
  | `(tactic| walk_at "ev") => `(tactic| repeat' (first
    | exact ev_c | exact ev_var rfl | exact ea_nil | exact rv_I0 | exact ru_neg | exact eo_none
    | exact rv_eq rfl | exact rv_ne rfl
    | exact rv_ixT (by assumption) (by rfl) | exact rv_ixL (by assumption) (by rfl)
    | exact sv_q (by assumption) (by assumption) | exact sv_within (by assumption)
    | exact Or.inr (by assumption) | exact Or.inl (by assumption) | (show (_ : String) ∈ _; decide)
    | with_reducible (first | apply ev_isi | apply ev_lenS | apply ev_if' | apply et_test | apply et_B | apply et_not | apply et_and | apply et_or | apply ev_andV | apply ev_orV | apply ev_notV | apply ea_cons | apply eo_some | apply ev_fl | apply ev_op | apply ev_un | apply ev_call)
    | walk_at "na" | walk_at "oi" | (show List.lookup _ _ = _; rfl)
    | assumption
    | (with_reducible intro hh; first | exact absurd (show true = false from hh) (by decide) | exact absurd (show false = true from hh) (by decide) | clear hh)))

section
variable {P : Program} {w : World} {K : PySem.W.Frag} {mg : Str → Option Value} {base : Heap}
theorem sc_law_row : FnScope ["_law_text", "error"] ["_law_text"] (defScope s_law_row) := ⟨rfl, rfl, rfl, by decide +kernel, rfl, by decide +kernel, by decide +kernel⟩
def EW (n : Nat) (W : WX) : XK := fun cls d H => ∀ σ : L2.St, σ.length = n → W cls d σ H
theorem passW {X : Cx} {W : WX} {n : Nat} (tk : Takes X W) (hn : X.N.length = n) : Passes (L2.CX X.prog X.w) X (EW n W) := fun pins σ H s e s' I c => tk e s' (XE.of_call I (fun _ _ _ h => h σ (I.len.trans hn)) c)
def rowI : PyData → Int
  | .str x => match readM x with
    | .inl n => n
    | .inr _ => -1
  | _ => 0
theorem ev_isX {K : PySem.W.Frag} {a D dd : Addr} {c : V} {cv : Value} {b : Bool} {fs : List (Str × V)} {σ : L2.St} {H : Hp} (C : ExcC K D) (hd : H dd = some (.xd fs)) (h1 : σ[1]? = some (some (.ref a))) (hc : ∀ u, RelV c u → u = cv) (hk : PySem.W.kitOne K (.ref D) cv = some b) : Ev (tCB (rIsX K a (.ref D) (some dd)) (tCons (tVar 1) (tCons (tC c) tNil))) σ H (.bl b) := fun H1 e Q q =>
  ⟨_, h1, D, c, cv, b, rfl, C, .inr ⟨dd, fs, rfl, e _ _ hd⟩, rfl, hc, hk, q H1 (Ex.refl _)⟩
def spRow (K : PySem.W.Frag) : Sp := fun vs H Q _ => ∃ (v : V) (d : PyData), vs = [v] ∧ Dp K H v d ∧ (∀ x, d = .str x → x.length ≤ 9000) ∧ ∀ H', Ex H H' → Q (.int (rowI d)) H'
theorem ok_law_row (T : Txt w K mg) : FnOk P w K mg base CX0 12 (f_law_row K) (fdAt K (f_law_row K)) ["_law_text"] (spRow K) := by
  refine (df_law_row T).ok sc_law_row (fun vs H Q E h => ?_) (fun cdv A outer s H vs Q E hr h => ?_)
  · obtain ⟨_, _, rfl, _⟩ := h
    rfl
  · obtain ⟨v, d, rfl, hv, hx, q⟩ := h
    refine ⟨_, PSs.nox ((pss_cons (ps_try_as (i := 1) rfl rfl sc_law_row.nd rfl rfl ⟨rfl, by decide, .inl (gl_KnockError T)⟩ takes0 (fun W pn xe tk po => (pss_one (ps_expr (pe_call (ok_read T) (hr.mono (by decide)) rfl (gl_read T) (df_read T).kp (bi_read T) .nil (passW tk rfl) (pa_cons (pv 0) pa_nil))))) (fun a oe cls d pn hz hf => (pss_one (ps_ret (pe_ifExp (PW.pt (pw_and (pt_val (pe_callB (call_isX (K := K) rfl hz hf) (by rfl) (fr_isinstance T) (by decide +kernel) (pa_cons (pv 1) (pa_cons (pe_glob (v := .ref (g_BadRows K)) rfl (gl_BadRows T) rfl) pa_nil)))) (pw_and1 (pt_val (pe_callB (call_isX (K := K) rfl hz hf) (by rfl) (fr_isinstance T) (by decide +kernel) (pa_cons (pv 1) (pa_cons (pe_bltn (v := .ty "ValueError") (u := .type "ValueError") (by rfl) (fr_ValueError T) (by decide +kernel) rfl) pa_nil))))))) (pe_xf (xf_BadRows T) (nof_BadRows_row T) hz hf (pv 1)) (pe_un un_neg pe_int))))))
      (pss_one (ps_ret (pe_un un_neg pe_int))))), ?_⟩
    have bad : ∀ {H1 : Hp} {dx : Addr} {n : Int} {D : Ends}, Ex H H1 → H1 dx = some (.xd [("row", .int n)]) → rowI d = n → D.rt = Q → EW 2 (wAs K (.ref (g_KnockError K)) 1 (fun a cls d => tRet (tIf (tAnd (tB (tCB (rIsX K a cls d) (tCons (tVar 1) (tCons (tC (V.ref (g_BadRows K))) tNil)))) (tB (tCB (rIsX K a cls d) (tCons (tVar 1) (tCons (tC (V.ty "ValueError")) tNil))))) (tXf a cls d (g_BadRows K) "row" (tVar 1)) (tUn (rU fun i => V.int (-i)) (tC (V.int 2))))) (fun _ _ _ _ => False) D) (.ref (g_BadRows K)) (some dx) H1 := fun {H1 dx n D} e1 hx1 hn hrt σ hσ => by
      refine ⟨true, em_BadRows_KnockError T, fun _ a na => ?_, fun h => nomatch h⟩
      have h1 : (σ.set 1 (some (V.ref a)))[1]? = some (some (.ref a)) := List.getElem?_set_self (by omega)
      refine (et_and (et_B (ev_isX (c := .ref (g_BadRows K)) (cv := .ref (g_BadRows K)) (xc_BadRows T) hx1 h1 (fun u r => r) (ki_BadRows_BadRows T))) fun _ => et_B (ev_isX (c := .ty "ValueError") (cv := .type "ValueError") (xc_BadRows T) hx1 h1 (fun u r => r) (kv_BadRows T)) : EvT _ _ H1 (true && true)) H1 (Ex.refl _) _ fun H2 e2 => ?_
      refine if_pos_of (show (true && true) = true from rfl) ?_
      refine ⟨_, h1, rfl, rfl, dx, _, .int n, rfl, e2 _ _ hx1, rfl, ?_⟩
      show D.rt _ _
      rw [hrt, ← hn]
      exact q H2 (e1.trans e2)
    show tCall (spRead K) [] _ (tCons (tVar 0) tNil) [some v, none] H _
    refine t_call (ea_cons (ev_var rfl) ea_nil) fun H1 e1 => ⟨v, d, rfl, dpM e1 hv, ?_⟩
    by_cases hs : ∃ x, d = .str x
    · obtain ⟨x, rfl⟩ := hs
      refine .inl ⟨x, rfl, hx x rfl, fun n hn H2 dx e2 h2 => bad (e1.trans e2) h2 (by show (match readM x with | .inl n => (n : Int) | .inr _ => -1) = _; rw [hn]) rfl, fun R B Td p H2 hm e2 _ => ?_⟩
      show tRet (tUn (rU fun i => V.int (-i)) (tC (V.int 1))) { nx := fun _ H' => Q .non H', rt := Q } [some v, none] H2
      refine s_ret (v := .int (-1)) (show Ev (tUn (rU fun i => V.int (-i)) (tC (V.int 1))) _ _ (.int (-1)) from fun H3 e3 Q3 q3 => ⟨1, rfl, q3 _ (Ex.refl _)⟩) fun H3 e3 => ?_
      have z : rowI (.str x) = -1 := by show (match readM x with | .inl n => (n : Int) | .inr _ => -1) = _; rw [hm]
      rw [← z]
      exact q H3 ((e1.trans e2).trans e3)
    · refine .inr ⟨fun x h => hs ⟨x, h⟩, fun H2 dx e2 h2 => bad (e1.trans e2) h2 ?_ rfl⟩
      cases d <;> first | rfl | exact absurd ⟨_, rfl⟩ hs
end
end KW
end
section
set_option Elab.async false
set_option linter.all false
set_option autoImplicit false
set_option maxRecDepth 100000
set_option maxHeartbeats 1000000
/-! a written plan read is the plan, plainly -/
namespace KW
open PySem PySem.Spec PyProof.Rows PySem.Builtin PySem.Builtin.Str
open L2
/-- a clean word -/
def clnB (x : Str) : Bool := x.cps.toList.all fun c => c != 10 && (c != 32 && (c != 44 && c != 58))
def Cl (x : Str) : Prop := ∀ c ∈ TL.tl x, c ≠ 10 ∧ c ≠ 32 ∧ c ≠ 44 ∧ c ≠ 58
theorem cl_of {x : Str} (h : clnB x = true) : Cl x := fun c hc => by
  have z := List.all_eq_true.mp h c hc
  obtain ⟨z1, z2⟩ := band z
  obtain ⟨z2, z3⟩ := band z2
  obtain ⟨z3, z4⟩ := band z3
  exact ⟨by simpa using z1, by simpa using z2, by simpa using z3, by simpa using z4⟩
theorem cl_name {n : Str} (h : isNameS n = true) : Cl n := fun c hc => by
  obtain ⟨_, h⟩ := band h
  have z := of_decide_eq_true (List.all_eq_true.mp h c hc)
  exact cl_of (x := letters) (by decide +kernel) c z
theorem num_all : ∀ k : Fin 100, clnB ((toString (k.val : Int) : String) : Str) = true ∧ numM ((toString (k.val : Int) : String) : Str) = some (k.val : Int) := by decide +kernel
theorem num_ok {n : Int} (h0 : 0 ≤ n) (h1 : n ≤ 99) : Cl ((toString n : String) : Str) ∧ numOf ((toString n : String) : Str) = .int n := by
  have z := num_all ⟨n.toNat, by omega⟩
  have e : ((n.toNat : Nat) : Int) = n := by omega
  rw [show (((⟨n.toNat, by omega⟩ : Fin 100).val : Nat) : Int) = n from e] at z
  exact ⟨cl_of z.1, by unfold numOf; rw [z.2]; rfl⟩
theorem mem_joinL {S : List Nat} {c : Nat} : ∀ {ps : List (List Nat)}, c ∈ TL.joinL S ps → c ∈ S ∨ ∃ p ∈ ps, c ∈ p
  | [], h => by cases h
  | [p], h => .inr ⟨p, List.mem_singleton.mpr rfl, h⟩
  | p :: q :: r, h => by
    have h : c ∈ p ++ (S ++ TL.joinL S (q :: r)) := h
    rcases List.mem_append.mp h with h | h
    · exact .inr ⟨p, List.mem_cons_self .., h⟩
    · rcases List.mem_append.mp h with h | h
      · exact .inl h
      · rcases mem_joinL (ps := q :: r) h with h | ⟨p', hp, h⟩
        · exact .inl h
        · exact .inr ⟨p', List.mem_cons_of_mem _ hp, h⟩
theorem mem_join {y : Str} {ps : List Str} {c : Nat} (h : c ∈ TL.tl (Txt.join y ps)) : c ∈ TL.tl y ∨ ∃ p ∈ ps, c ∈ TL.tl p := by
  rw [TL.join_eq, TL.tl_join] at h
  rcases mem_joinL h with h | ⟨p, hp, h⟩
  · exact .inl h
  · obtain ⟨q, hq, rfl⟩ := List.mem_map.mp hp
    exact .inr ⟨q, hq, h⟩
theorem tl_sp : TL.tl (" " : Str) = [32] := by decide +kernel
theorem tl_co : TL.tl (", " : Str) = [44, 32] := by decide +kernel
theorem tl_cl : TL.tl (": " : Str) = [58, 32] := by decide +kernel
theorem tl_nl : TL.tl ("\n" : Str) = [10] := by decide +kernel
theorem split_sp {ps : List Str} (hne : ps ≠ []) (h : ∀ p ∈ ps, Cl p) : Txt.split (Txt.join " " ps) " " = ps := TL.split_join tl_sp (by decide +kernel) hne fun p hp z => (h p hp 32 z).2.1 rfl
theorem step_cases {s : PyData} (h : isStepD s = true) : s = .tuple [.str "mask"] ∨ s = .tuple [.str "open"] ∨ (∃ k : Int, s = .tuple [.str "run", .int k] ∧ 1 ≤ k ∧ k ≤ 9) ∨ ∃ w n : Str, s = .tuple [.str w, .str n] ∧ (w = "answer" ∨ w = "later" ∨ w = "wake") ∧ isNameS n = true := by
  obtain ⟨r, e⟩ := wordD_get h
  rw [e] at h
  have h : isStepW (wordD s) r = true := h
  rw [e]
  generalize wordD s = w at h
  unfold isStepW at h
  by_cases hw : w = "mask" ∨ w = "open"
  · rw [if_pos hw] at h
    have : r = [] := by cases r with | nil => rfl | cons a b => cases h
    subst this
    rcases hw with rfl | rfl
    · exact .inl rfl
    · exact .inr (.inl rfl)
  · rw [if_neg hw] at h
    match r, h with
    | [x], h =>
      have h : (if w = "run" then withinD x 1 9 else (decide (w = "answer") || (decide (w = "later") || decide (w = "wake"))) && isNameD x) = true := h
      by_cases hr : w = "run"
      · rw [if_pos hr] at h
        subst hr
        cases x with
        | int i =>
          obtain ⟨h1, h2⟩ := band (show (decide (1 ≤ i) && decide (i ≤ 9)) = true from h)
          exact .inr (.inr (.inl ⟨i, rfl, of_decide_eq_true h1, of_decide_eq_true h2⟩))
        | _ => cases h
      · rw [if_neg hr] at h
        obtain ⟨h1, h2⟩ := band h
        cases x with
        | str n =>
          refine .inr (.inr (.inr ⟨w, n, rfl, ?_, h2⟩))
          simpa using h1
        | _ => cases h2
    | [], h => cases h
    | _ :: _ :: _, h => cases h
theorem stepT_ok {s : PyData} (h : isStepD s = true) : stepM (stepT s) = s ∧ ∀ c ∈ TL.tl (stepT s), c ≠ 10 ∧ c ≠ 44 ∧ c ≠ 58 := by
  have key : ∀ ps : List Str, (∀ p ∈ ps, Cl p) → ∀ c ∈ TL.tl (Txt.join " " ps), c ≠ 10 ∧ c ≠ 44 ∧ c ≠ 58 := fun ps hp c hc => by
    rcases mem_join hc with z | ⟨p, hq, z⟩
    · rw [tl_sp] at z
      rw [List.mem_singleton.mp z]
      decide
    · obtain ⟨a, b, d, e⟩ := hp p hq c z
      exact ⟨a, d, e⟩
  rcases step_cases h with rfl | rfl | ⟨k, rfl, h1, h2⟩ | ⟨w, n, rfl, hw, hn⟩
  · have hp : ∀ p ∈ (["mask"] : List Str), Cl p := fun p hp => by
      rw [List.mem_singleton.mp hp]
      exact cl_of (by decide +kernel)
    refine ⟨?_, key _ hp⟩
    show stepM (Txt.join " " ["mask"]) = _
    unfold stepM
    rw [split_sp (by simp) hp]
    show (if ("mask" : Str) = "run" ∧ 0 = 1 then _ else PyData.tuple [.str "mask"]) = _
    rw [if_neg fun z => absurd z.1 (by decide)]
  · have hp : ∀ p ∈ (["open"] : List Str), Cl p := fun p hp => by
      rw [List.mem_singleton.mp hp]
      exact cl_of (by decide +kernel)
    refine ⟨?_, key _ hp⟩
    show stepM (Txt.join " " ["open"]) = _
    unfold stepM
    rw [split_sp (by simp) hp]
    show (if ("open" : Str) = "run" ∧ 0 = 1 then _ else PyData.tuple [.str "open"]) = _
    rw [if_neg fun z => absurd z.1 (by decide)]
  · obtain ⟨a, b⟩ := num_ok (n := k) (by omega) (by omega)
    have hp : ∀ p ∈ ([("run" : Str), (toString k : String)] : List Str), Cl p := fun p hp => by
      simp only [List.mem_cons, List.not_mem_nil, or_false] at hp
      rcases hp with rfl | rfl
      · exact cl_of (by decide +kernel)
      · exact a
    refine ⟨?_, key _ hp⟩
    show stepM (Txt.join " " [("run" : Str), (toString k : String)]) = _
    unfold stepM
    rw [split_sp (by simp) hp]
    show (if ("run" : Str) = "run" ∧ 1 = 1 then PyData.tuple [.str "run", numOf ((toString k : String) : Str)] else _) = _
    rw [if_pos ⟨rfl, rfl⟩, b]
  · have hp : ∀ p ∈ ([w, n] : List Str), Cl p := fun p hp => by
      simp only [List.mem_cons, List.not_mem_nil, or_false] at hp
      rcases hp with rfl | rfl
      · rcases hw with rfl | rfl | rfl <;> exact cl_of (by decide +kernel)
      · exact cl_name hn
    refine ⟨?_, key _ hp⟩
    show stepM (Txt.join " " [w, n]) = _
    unfold stepM
    rw [split_sp (by simp) hp]
    show (if w = "run" ∧ 1 = 1 then _ else PyData.tuple [.str w, .str n]) = _
    rw [if_neg fun z => by rcases hw with rfl | rfl | rfl <;> exact absurd z.1 (by decide)]
theorem stepsT_ok {ss : List PyData} (h : areStepsL ss = true) : stepsM (stepsT ss) = .list ss ∧ ∀ c ∈ TL.tl (stepsT ss), c ≠ 10 ∧ c ≠ 58 := by
  obtain ⟨hs, h1, _⟩ := stepsL_inv h
  constructor
  · unfold stepsM stepsT
    rw [TL.split_join tl_co (by decide +kernel) (fun e => by rw [List.map_eq_nil_iff] at e; rw [e] at h1; exact absurd h1 (by decide)) fun p hp z => by
      obtain ⟨s, h2, rfl⟩ := List.mem_map.mp hp
      exact ((stepT_ok (hs s h2)).2 44 z).2.1 rfl]
    rw [List.map_map]
    congr 1
    have : ∀ l : List PyData, (∀ s ∈ l, isStepD s = true) → l.map (stepM ∘ stepT) = l := fun l => by
      induction l with
      | nil => intro _; rfl
      | cons a l ih =>
        intro hl
        rw [List.map_cons, ih fun s h => hl s (List.mem_cons_of_mem _ h)]
        show stepM (stepT a) :: l = a :: l
        rw [(stepT_ok (hl a (List.mem_cons_self ..))).1]
    exact this ss hs
  · intro c hc
    rcases mem_join hc with z | ⟨p, hp, z⟩
    · rw [tl_co] at z
      simp only [List.mem_cons, List.not_mem_nil, or_false] at z
      omega
    · obtain ⟨s, h2, rfl⟩ := List.mem_map.mp hp
      obtain ⟨a, b, d⟩ := (stepT_ok (hs s h2)).2 c z
      exact ⟨a, d⟩
/-- a row of clean words and steps, cut -/
theorem row_cut {ps : List Str} {ss : List PyData} (hne : ps ≠ []) (hp : ∀ p ∈ ps, Cl p) (hs : areStepsL ss = true) :
    Txt.split (Txt.join ": " [Txt.join " " ps, stepsT ss]) ": " = [Txt.join " " ps, stepsT ss] ∧ ∀ c ∈ TL.tl (Txt.join ": " [Txt.join " " ps, stepsT ss]), c ≠ 10 := by
  have hd : ∀ c ∈ TL.tl (Txt.join " " ps), c ≠ 10 ∧ c ≠ 58 := fun c hc => by
    rcases mem_join hc with z | ⟨p, hq, z⟩
    · rw [tl_sp] at z
      rw [List.mem_singleton.mp z]
      decide
    · obtain ⟨a, b, d, e⟩ := hp p hq c z
      exact ⟨a, e⟩
  have hst := (stepsT_ok hs).2
  constructor
  · refine TL.split_join tl_cl (by decide +kernel) (by simp) fun p hp z => ?_
    simp only [List.mem_cons, List.not_mem_nil, or_false] at hp
    rcases hp with rfl | rfl
    · exact (hd 58 z).2 rfl
    · exact (hst 58 z).2 rfl
  · intro c hc
    rcases mem_join hc with z | ⟨p, hp, z⟩
    · rw [tl_cl] at z
      simp only [List.mem_cons, List.not_mem_nil, or_false] at z
      omega
    · simp only [List.mem_cons, List.not_mem_nil, or_false] at hp
      rcases hp with rfl | rfl
      · exact (hd c z).1
      · exact (hst c z).1
theorem part_row {w : Str} {ps : List Str} {ss : List PyData} (hp : ∀ p ∈ w :: ps, Cl p) (hs : areStepsL ss = true) : partM (Txt.join ": " [Txt.join " " (w :: ps), stepsT ss]) = partW w ps [stepsT ss] := by
  unfold partM
  rw [(row_cut (by simp) hp hs).1]
  show (match Txt.split (Txt.join " " (w :: ps)) " " with | word :: rest => partW word rest [stepsT ss] | [] => none) = _
  rw [split_sp (by simp) hp]
def lineW (n : Str) (r : Int) (u : Bool) (a b c : Int) : List Str := ["line", n, (toString r : String), (if u = true then ("up" : Str) else "latched"), (toString a : String), (toString b : String), (toString c : String)]
theorem lineT_join (n : Str) (r : Int) (u : Bool) (a b c : Int) (ss : List PyData) : lineT (.tuple [.str n, .int r, .bool u, .tuple [.int a, .int b, .int c], .list ss]) = Txt.join ": " [Txt.join " " (lineW n r u a b c), stepsT ss] := by
  have e1 : TL.tl (Str.ofString "line ") = TL.tl (Str.ofString "line") ++ [32] := by decide +kernel
  have e0 : TL.tl Str.empty = [] := rfl
  apply TL.ext_tl
  rw [TL.join_eq, TL.join_eq]
  show TL.tl (Str.empty ++ "line " ++ n ++ " " ++ toString r ++ " " ++ (if u = true then ("up" : Str) else "latched") ++ " " ++ toString a ++ " " ++ toString b ++ " " ++ toString c ++ ": " ++ stepsT ss : Str) = _
  rw [TL.tl_join]
  simp only [TL.tl_append, e0, e1, lineW, List.map_cons, List.map_nil, TL.joinL, TL.tl_join, tl_sp, tl_cl, List.append_assoc, List.nil_append, List.cons_append]
theorem bottomT_join (n : Str) (ss : List PyData) : bottomT (.tuple [.str n, .list ss]) = Txt.join ": " [Txt.join " " ["bottom", n], stepsT ss] := by
  have e1 : TL.tl (Str.ofString "bottom ") = TL.tl (Str.ofString "bottom") ++ [32] := by decide +kernel
  have e0 : TL.tl Str.empty = [] := rfl
  apply TL.ext_tl
  rw [TL.join_eq, TL.join_eq]
  show TL.tl (Str.empty ++ "bottom " ++ n ++ ": " ++ stepsT ss : Str) = _
  rw [TL.tl_join]
  simp only [TL.tl_append, e0, e1, List.map_cons, List.map_nil, TL.joinL, TL.tl_join, tl_sp, tl_cl, List.append_assoc, List.nil_append, List.cons_append]
theorem threadT_join (n : Str) (r : Int) (ss : List PyData) : threadT (.tuple [.str n, .int r, .list ss]) = Txt.join ": " [Txt.join " " ["thread", n, (toString r : String)], stepsT ss] := by
  have e1 : TL.tl (Str.ofString "thread ") = TL.tl (Str.ofString "thread") ++ [32] := by decide +kernel
  have e0 : TL.tl Str.empty = [] := rfl
  apply TL.ext_tl
  rw [TL.join_eq, TL.join_eq]
  show TL.tl (Str.empty ++ "thread " ++ n ++ " " ++ toString r ++ ": " ++ stepsT ss : Str) = _
  rw [TL.tl_join]
  simp only [TL.tl_append, e0, e1, List.map_cons, List.map_nil, TL.joinL, TL.tl_join, tl_sp, tl_cl, List.append_assoc, List.nil_append, List.cons_append]
theorem part_line {d : PyData} (h : isLineD d = true) : partM (lineT d) = some (("line" : Str), d) ∧ ∀ c ∈ TL.tl (lineT d), c ≠ 10 := by
  obtain ⟨n, r, u, a, b, c, ss, rfl, hn, hr, hg, hst⟩ := line_inv h
  obtain ⟨r1, r2⟩ := num_ok (n := r) (by omega) (by omega)
  obtain ⟨a1, a2⟩ := num_ok (n := a) (by omega) (by omega)
  obtain ⟨b1, b2⟩ := num_ok (n := b) (by omega) (by omega)
  obtain ⟨c1, c2⟩ := num_ok (n := c) (by omega) (by omega)
  have hu : Cl (if u = true then ("up" : Str) else "latched") := by cases u <;> exact cl_of (by decide +kernel)
  have hu2 : (if u = true then ("up" : Str) else "latched") = "up" ∨ (if u = true then ("up" : Str) else "latched") = "latched" := by cases u <;> decide
  have hu3 : decide ((if u = true then ("up" : Str) else "latched") = "up") = u := by cases u <;> decide
  have hp : ∀ p ∈ lineW n r u a b c, Cl p := fun p hp => by
    simp only [lineW, List.mem_cons, List.not_mem_nil, or_false] at hp
    rcases hp with rfl | rfl | rfl | rfl | rfl | rfl | rfl
    · exact cl_of (by decide +kernel)
    · exact cl_name hn
    · exact r1
    · exact hu
    · exact a1
    · exact b1
    · exact c1
  rw [lineT_join]
  refine ⟨?_, (row_cut (by simp [lineW]) hp hst).2⟩
  rw [show lineW n r u a b c = ("line" : Str) :: [n, (toString r : String), (if u = true then ("up" : Str) else "latched"), (toString a : String), (toString b : String), (toString c : String)] from rfl, part_row hp hst]
  have e : lineOf (stepsM (stepsT ss)) [n, (toString r : String), (if u = true then ("up" : Str) else "latched"), (toString a : String), (toString b : String), (toString c : String)] = .tuple [.str n, .int r, .bool u, .tuple [.int a, .int b, .int c], .list ss] := by
    show PyData.tuple [.str n, numOf _, .bool (decide (_ = _)), .tuple [numOf _, numOf _, numOf _], stepsM (stepsT ss)] = _
    rw [r2, a2, b2, c2, hu3, (stepsT_ok hst).1]
  unfold partW
  rw [if_neg (by show ¬ (1 ≠ 1); decide), if_pos ⟨rfl, rfl, hu2⟩]
  show (if isLineD (lineOf (stepsM (stepsT ss)) _) then some (("line" : Str), lineOf (stepsM (stepsT ss)) _) else none) = _
  rw [e, if_pos h]
theorem part_bottom {d : PyData} (h : isBottomD d = true) : partM (bottomT d) = some (("bottom" : Str), d) ∧ ∀ c ∈ TL.tl (bottomT d), c ≠ 10 := by
  obtain ⟨n, ss, rfl, hn, hst⟩ := bottom_inv h
  have hp : ∀ p ∈ ([("bottom" : Str), n] : List Str), Cl p := fun p hp => by
    simp only [List.mem_cons, List.not_mem_nil, or_false] at hp
    rcases hp with rfl | rfl
    · exact cl_of (by decide +kernel)
    · exact cl_name hn
  rw [bottomT_join]
  refine ⟨?_, (row_cut (by simp) hp hst).2⟩
  rw [part_row hp hst]
  unfold partW
  rw [if_neg (by show ¬ (1 ≠ 1); decide), if_neg (fun z => absurd z.1 (by decide)), if_pos ⟨rfl, rfl⟩]
  show (if isBottomD (.tuple [.str n, stepsM (stepsT ss)]) then some (("bottom" : Str), PyData.tuple [.str n, stepsM (stepsT ss)]) else none) = _
  rw [(stepsT_ok hst).1, if_pos h]
theorem part_thread {d : PyData} (h : isThreadD d = true) : partM (threadT d) = some (("thread" : Str), d) ∧ ∀ c ∈ TL.tl (threadT d), c ≠ 10 := by
  obtain ⟨n, r, ss, rfl, hn, hr, hst⟩ := thread_inv h
  obtain ⟨r1, r2⟩ := num_ok (n := r) (by omega) (by omega)
  have hp : ∀ p ∈ ([("thread" : Str), n, (toString r : String)] : List Str), Cl p := fun p hp => by
    simp only [List.mem_cons, List.not_mem_nil, or_false] at hp
    rcases hp with rfl | rfl | rfl
    · exact cl_of (by decide +kernel)
    · exact cl_name hn
    · exact r1
  rw [threadT_join]
  refine ⟨?_, (row_cut (by simp) hp hst).2⟩
  rw [part_row hp hst]
  unfold partW
  rw [if_neg (by show ¬ (1 ≠ 1); decide), if_neg (fun z => absurd z.1 (by decide)), if_neg (fun z => absurd z.1 (by decide)), if_pos ⟨rfl, rfl⟩]
  show (if isThreadD (.tuple [.str n, numOf ((toString r : String) : Str), stepsM (stepsT ss)]) then some (("thread" : Str), PyData.tuple [.str n, numOf ((toString r : String) : Str), stepsM (stepsT ss)]) else none) = _
  rw [(stepsT_ok hst).1, r2, if_pos h]
theorem unlike_nodup {l : List PyData} (h : (l.map rankD).Nodup) : unlikeD l = true := decide_eq_true h
theorem read_lines {rest : List Str} : ∀ {R2 R1 : List PyData} {n : Nat}, (∀ d ∈ R2, isLineD d = true) → ((R1 ++ R2).map nameD).Nodup → ((R1 ++ R2).map rankD).Nodup → (R1 ++ R2).length ≤ 5 → readRows (R2.map lineT ++ rest) n R1 [] [] = readRows rest (n + R2.length) (R1 ++ R2) [] []
  | [], R1, n, _, _, _, _ => by rw [List.append_nil]; rfl
  | d :: R2, R1, n, ho, hn, hr, hl => by
    have e : R1 ++ d :: R2 = (R1 ++ [d]) ++ R2 := by rw [List.append_assoc]; rfl
    rw [e] at hn hr hl ⊢
    have hl2 : R1.length < 5 := by rw [List.length_append, List.length_append] at hl; have : [d].length = 1 := rfl; omega
    have hn2 : nameD d ∉ R1.map nameD := fun z => by
      rw [List.map_append] at hn
      have hn := hn.sublist (List.sublist_append_left _ _)
      rw [List.map_append] at hn
      exact (List.nodup_append.mp hn).2.2 _ z _ (List.mem_singleton.mpr rfl) rfl
    have hr2 : ((R1 ++ [d]).map rankD).Nodup := by
      rw [List.map_append] at hr
      exact hr.sublist (List.sublist_append_left _ _)
    have t : takeM R1 [] [] (some (("line" : Str), d)) = some (R1 ++ [d], [], []) := by
      rw [take_4]
      · rfl
      · show (decide (R1.length = 5) || decide (nameD d ∈ R1.map nameD)) = false
        rw [decide_eq_false (by omega), decide_eq_false hn2]
        rfl
      · show (!decide (("line" : Str) = "bottom") && !unlikeD (R1 ++ [d])) = false
        rw [unlike_nodup hr2]
        decide
      · rfl
    show (match takeM R1 [] [] (partM (lineT d)) with | some (R', B', T') => readRows (R2.map lineT ++ rest) (n + 1) R' B' T' | none => .inl n) = _
    rw [(part_line (ho d (List.mem_cons_self ..))).1, t]
    show readRows (R2.map lineT ++ rest) (n + 1) (R1 ++ [d]) [] [] = _
    rw [read_lines (fun x hx => ho x (List.mem_cons_of_mem _ hx)) hn hr hl, show n + 1 + R2.length = n + (d :: R2).length from by rw [List.length_cons]; omega]
theorem read_bottoms {R : List PyData} {rest : List Str} (hR : R ≠ []) : ∀ {B2 B1 : List PyData} {n : Nat}, (∀ d ∈ B2, isBottomD d = true) → ((B1 ++ B2).map nameD).Nodup → (B1 ++ B2).length ≤ 4 → readRows (B2.map bottomT ++ rest) n R B1 [] = readRows rest (n + B2.length) R (B1 ++ B2) []
  | [], B1, n, _, _, _ => by rw [List.append_nil]; rfl
  | d :: B2, B1, n, ho, hn, hl => by
    have e : B1 ++ d :: B2 = (B1 ++ [d]) ++ B2 := by rw [List.append_assoc]; rfl
    rw [e] at hn hl ⊢
    have hl2 : B1.length < 4 := by rw [List.length_append, List.length_append] at hl; have : [d].length = 1 := rfl; omega
    have hn2 : nameD d ∉ B1.map nameD := fun z => by
      rw [List.map_append] at hn
      have hn := hn.sublist (List.sublist_append_left _ _)
      rw [List.map_append] at hn
      exact (List.nodup_append.mp hn).2.2 _ z _ (List.mem_singleton.mpr rfl) rfl
    have t : takeM R B1 [] (some (("bottom" : Str), d)) = some (R, B1 ++ [d], []) := by
      rw [take_4]
      · rfl
      · show (decide (B1.length = 4) || decide (nameD d ∈ B1.map nameD)) = false
        rw [decide_eq_false (by omega), decide_eq_false hn2]
        rfl
      · rfl
      · cases R with
        | nil => exact absurd rfl hR
        | cons a b => rfl
    show (match takeM R B1 [] (partM (bottomT d)) with | some (R', B', T') => readRows (B2.map bottomT ++ rest) (n + 1) R' B' T' | none => .inl n) = _
    rw [(part_bottom (ho d (List.mem_cons_self ..))).1, t]
    show readRows (B2.map bottomT ++ rest) (n + 1) R (B1 ++ [d]) [] = _
    rw [read_bottoms hR (fun x hx => ho x (List.mem_cons_of_mem _ hx)) hn hl, show n + 1 + B2.length = n + (d :: B2).length from by rw [List.length_cons]; omega]
theorem read_threads {R B : List PyData} (hR : R ≠ []) : ∀ {T2 T1 : List PyData} {n : Nat}, (∀ d ∈ T2, isThreadD d = true) → ((T1 ++ T2).map nameD).Nodup → ((T1 ++ T2).map rankD).Nodup → (T1 ++ T2).length ≤ 4 → readRows (T2.map threadT) n R B T1 = .inr (R, B, T1 ++ T2)
  | [], T1, n, _, _, _, _ => by rw [List.append_nil]; rfl
  | d :: T2, T1, n, ho, hn, hr, hl => by
    have e : T1 ++ d :: T2 = (T1 ++ [d]) ++ T2 := by rw [List.append_assoc]; rfl
    rw [e] at hn hr hl ⊢
    have hl2 : T1.length < 4 := by rw [List.length_append, List.length_append] at hl; have : [d].length = 1 := rfl; omega
    have hn2 : nameD d ∉ T1.map nameD := fun z => by
      rw [List.map_append] at hn
      have hn := hn.sublist (List.sublist_append_left _ _)
      rw [List.map_append] at hn
      exact (List.nodup_append.mp hn).2.2 _ z _ (List.mem_singleton.mpr rfl) rfl
    have hr2 : ((T1 ++ [d]).map rankD).Nodup := by
      rw [List.map_append] at hr
      exact hr.sublist (List.sublist_append_left _ _)
    have t : takeM R B T1 (some (("thread" : Str), d)) = some (R, B, T1 ++ [d]) := by
      rw [take_4]
      · rfl
      · show (decide (T1.length = 4) || decide (nameD d ∈ T1.map nameD)) = false
        rw [decide_eq_false (by omega), decide_eq_false hn2]
        rfl
      · show (!decide (("thread" : Str) = "bottom") && !unlikeD (T1 ++ [d])) = false
        rw [unlike_nodup hr2]
        decide
      · cases R with
        | nil => exact absurd rfl hR
        | cons a b => rfl
    show (match takeM R B T1 (partM (threadT d)) with | some (R', B', T') => readRows (T2.map threadT) (n + 1) R' B' T' | none => .inl n) = _
    rw [(part_thread (ho d (List.mem_cons_self ..))).1, t]
    show readRows (T2.map threadT) (n + 1) R B (T1 ++ [d]) = _
    exact read_threads hR (fun x hx => ho x (List.mem_cons_of_mem _ hx)) hn hr hl
/-- THE READ-BACK -/
theorem read_written {R B T : List PyData} (ok : planOkD (.list R) (.list B) (.list T) = true) : readM (writtenT R B T) = .inr (R, B, T) := by
  have pl := plan_parts ok
  have hR : R ≠ [] := fun e => by
    have := pl.lR.1
    rw [e] at this
    exact absurd this (by decide)
  have hrows : rowsT R B T ≠ [] := fun e => by
    have := (List.append_eq_nil_iff.mp e).1
    exact hR (List.map_eq_nil_iff.mp this)
  have hsp : Txt.split (writtenT R B T) "\n" = rowsT R B T := TL.split_join tl_nl (by decide +kernel) hrows fun p hp z => by
    rcases List.mem_append.mp hp with hp | hp
    · obtain ⟨d, hd, rfl⟩ := List.mem_map.mp hp
      exact (part_line (pl.oR d hd)).2 10 z rfl
    · rcases List.mem_append.mp hp with hp | hp
      · obtain ⟨d, hd, rfl⟩ := List.mem_map.mp hp
        exact (part_bottom (pl.oB d hd)).2 10 z rfl
      · obtain ⟨d, hd, rfl⟩ := List.mem_map.mp hp
        exact (part_thread (pl.oT d hd)).2 10 z rfl
  have hrd : readRows (rowsT R B T) 0 [] [] [] = .inr (R, B, T) := by
    unfold rowsT
    rw [read_lines (R1 := []) pl.oR pl.nR pl.rR pl.lR.2, List.nil_append, read_bottoms hR (B1 := []) pl.oB pl.nB pl.lB, List.nil_append, read_threads hR (T1 := []) pl.oT pl.nT pl.rT pl.lT, List.nil_append]
  unfold readM
  rw [hsp, hrd]
  show (if planOkD (.list R) (.list B) (.list T) then Sum.inr (R, B, T) else _) = _
  rw [if_pos ok]
/-- a written plan is short -/
theorem lineT_len4 {d : PyData} (h : isLineD d = true) : (lineT d).length ≤ 400 := by
  obtain ⟨n, r, u, a, b, c, ss, rfl, hn, hr, hg, hst⟩ := line_inv h
  have hst2 := stepsL_inv hst
  have q0 := nameS_len hn
  have q1 := (int_small (n := r) (by omega) (by omega)).2
  have q2 := (int_small (n := a) (by omega) (by omega)).2
  have q3 := (int_small (n := b) (by omega) (by omega)).2
  have q4 := (int_small (n := c) (by omega) (by omega)).2
  have q5 := stepsT_len hst2.1 hst2.2.2
  have q6 : ((if u = true then ("up" : Str) else "latched") : Str).length ≤ 7 := by cases u <;> decide
  have c0 : Str.empty.length = 0 := rfl
  have c1 : (Str.ofString "line ").length = 5 := by decide
  have c2 : (Str.ofString " ").length = 1 := by decide
  have c3 : (Str.ofString ": ").length = 2 := by decide
  show (Str.empty ++ "line " ++ n ++ " " ++ toString r ++ " " ++ (if u = true then ("up" : Str) else "latched") ++ " " ++ toString a ++ " " ++ toString b ++ " " ++ toString c ++ ": " ++ stepsT ss : Str).length ≤ 400
  simp only [s_len, c0, c1, c2, c3]
  omega
theorem bottomT_len4 {d : PyData} (h : isBottomD d = true) : (bottomT d).length ≤ 400 := by
  obtain ⟨n, ss, rfl, hn, hst⟩ := bottom_inv h
  have hst2 := stepsL_inv hst
  have q0 := nameS_len hn
  have q5 := stepsT_len hst2.1 hst2.2.2
  have c0 : Str.empty.length = 0 := rfl
  have c1 : (Str.ofString "bottom ").length = 7 := by decide
  have c3 : (Str.ofString ": ").length = 2 := by decide
  show (Str.empty ++ "bottom " ++ n ++ ": " ++ stepsT ss : Str).length ≤ 400
  simp only [s_len, c0, c1, c3]
  omega
theorem threadT_len4 {d : PyData} (h : isThreadD d = true) : (threadT d).length ≤ 400 := by
  obtain ⟨n, r, ss, rfl, hn, hr, hst⟩ := thread_inv h
  have hst2 := stepsL_inv hst
  have q0 := nameS_len hn
  have q1 := (int_small (n := r) (by omega) (by omega)).2
  have q5 := stepsT_len hst2.1 hst2.2.2
  have c0 : Str.empty.length = 0 := rfl
  have c1 : (Str.ofString "thread ").length = 7 := by decide
  have c2 : (Str.ofString " ").length = 1 := by decide
  have c3 : (Str.ofString ": ").length = 2 := by decide
  show (Str.empty ++ "thread " ++ n ++ " " ++ toString r ++ ": " ++ stepsT ss : Str).length ≤ 400
  simp only [s_len, c0, c1, c2, c3]
  omega
theorem written_len {R B T : List PyData} (pl : PlanP R B T) : (writtenT R B T).length ≤ 9000 := by
  have b := sum_le (c := 400) (ys := rowsT R B T) fun y hy => by
    rcases List.mem_append.mp hy with hp | hp
    · obtain ⟨d, hd, rfl⟩ := List.mem_map.mp hp
      exact lineT_len4 (pl.oR d hd)
    · rcases List.mem_append.mp hp with hp | hp
      · obtain ⟨d, hd, rfl⟩ := List.mem_map.mp hp
        exact bottomT_len4 (pl.oB d hd)
      · obtain ⟨d, hd, rfl⟩ := List.mem_map.mp hp
        exact threadT_len4 (pl.oT d hd)
  have j := join_len (Str.ofString "\n") (rowsT R B T)
  have e : (Str.ofString "\n").length = 1 := by decide
  have l : (rowsT R B T).length = R.length + (B.length + T.length) := by
    unfold rowsT
    rw [List.length_append, List.length_append, List.length_map, List.length_map, List.length_map]
  have l1 := pl.lR.2
  have l2 := pl.lB
  have l3 := pl.lT
  rw [e] at j
  show (Txt.join "\n" (rowsT R B T)).length ≤ 9000
  omega
end KW
end
section
set_option Elab.async false
set_option linter.all false
set_option autoImplicit false
set_option maxRecDepth 100000
set_option maxHeartbeats 2000000
/-! rows that are none, plainly -/
namespace KW
open PySem PySem.Spec PyProof.Rows PySem.Builtin PySem.Builtin.Str
open L2
def longS : Str := "line e 1 up 1 1 1: run 1, run 1, run 1, run 1, run 1, run 1, run 1, run 1, run 1, run 1, run 1, run 1, run 1"
def bl0 : List Str := (["", " ", "line", "line e", "line e 1 up 1 1 1", "line e 1 up 1 1 1:"] : List Str)
def bl1 : List Str := bl0 ++ (["line e 1 up 1 1 1: ", "line e 1 up 1 1 1 run 1"] : List Str)
def bl2 : List Str := bl1 ++ (["Line e 1 up 1 1 1: run 1", "line e 1 up 1 1 1:run 1"] : List Str)
def bl3 : List Str := bl2 ++ (["line  e 1 up 1 1 1: run 1", " line e 1 up 1 1 1: run 1"] : List Str)
def bl4 : List Str := bl3 ++ (["line e 1 up 1 1: run 1", "line e 1 up 1 1 1 1: run 1"] : List Str)
def bl5 : List Str := bl4 ++ (["line e 1 down 1 1 1: run 1", "line e 1 True 1 1 1: run 1"] : List Str)
def bl6 : List Str := bl5 ++ (["line e 0 up 1 1 1: run 1", "line e 100 up 1 1 1: run 1"] : List Str)
def bl7 : List Str := bl6 ++ (["line e 01 up 1 1 1: run 1", "line e -1 up 1 1 1: run 1"] : List Str)
def bl8 : List Str := bl7 ++ (["line e 1 up 0 1 1: run 1", "line e 1 up 10 1 1: run 1"] : List Str)
def bl9 : List Str := bl8 ++ (["line e 1 up 1 0 1: run 1", "line e 1 up 1 61 1: run 1"] : List Str)
def bl10 : List Str := bl9 ++ (["line e 1 up 1 1 0: run 1", "line e 1 up 1 1 61: run 1"] : List Str)
def bl11 : List Str := bl10 ++ (["line E 1 up 1 1 1: run 1", "line abcdefghi 1 up 1 1 1: run 1"] : List Str)
def bl12 : List Str := bl11 ++ (["line e 1 up 1 1 1: run 0", "line e 1 up 1 1 1: run 10"] : List Str)
def bl13 : List Str := bl12 ++ (["line e 1 up 1 1 1: run 01", "line e 1 up 1 1 1: run"] : List Str)
def bl14 : List Str := bl13 ++ (["line e 1 up 1 1 1: run 1 1", "line e 1 up 1 1 1: run  1"] : List Str)
def bl15 : List Str := bl14 ++ (["line e 1 up 1 1 1: run 1,", "line e 1 up 1 1 1: run 1 "] : List Str)
def bl16 : List Str := bl15 ++ (["line e 1 up 1 1 1: run 1,run 1", "line e 1 up 1 1 1: run 1,  run 1"] : List Str)
def bl17 : List Str := bl16 ++ (["line e 1 up 1 1 1: mask", "line e 1 up 1 1 1: open"] : List Str)
def bl18 : List Str := bl17 ++ (["line e 1 up 1 1 1: open, run 1", "line e 1 up 1 1 1: mask 1, run 1"] : List Str)
def bl19 : List Str := bl18 ++ (["line e 1 up 1 1 1: mask, open, open, run 1"] : List Str)
def bl20 : List Str := bl19 ++ (["line e 1 up 1 1 1: run 1, open"] : List Str)
def bl21 : List Str := bl20 ++ (["line e 1 up 1 1 1: answer, run 1", "line e 1 up 1 1 1: answer E, run 1"] : List Str)
def bl22 : List Str := bl21 ++ (["line e 1 up 1 1 1: jump a, run 1"] : List Str)
def bl23 : List Str := bl22 ++ (["line a 1 up 1 1 1: run 1", "line e 5 up 1 1 1: run 1"] : List Str)
def bl24 : List Str := bl23 ++ (["line e 1 up 1 1 1: run 1: run 1", "line e 1 up 1 1 1: run one"] : List Str)
def bl25 : List Str := bl24 ++ ([longS, "run 1", "bottom b", "plan e 1 up 1 1 1: run 1"] : List Str)
abbrev blAll : List Str := bl25
theorem bl_len : blAll.length = 55 := by decide +kernel
def bo0 : List Str := (["bottom", "bottom b: run 1", "bottom e 1: run 1", "bottom e:"] : List Str)
def bo1 : List Str := bo0 ++ (["bottom e: mask", "bottom E: run 1", "bottom e e: run 1"] : List Str)
def bo2 : List Str := bo1 ++ (["bottom e: run 1, later", "thread", "thread e: run 1", "thread e 0: run 1"] : List Str)
def bo3 : List Str := bo2 ++ (["thread e 100: run 1", "thread t 9: run 1"] : List Str)
def bo4 : List Str := bo3 ++ (["thread e 3: run 1", "thread e 01: run 1", "thread e 1 1: run 1"] : List Str)
def bo5 : List Str := bo4 ++ (["thread e 1: open, run 1", "thread e 1: run 1, "] : List Str)
abbrev boAll : List Str := bo5
theorem bo_len : boAll.length = 18 := by decide +kernel
def l0 : Str := "line a 5 up 3 10 20: run 1, answer a"
def l1 : Str := "line b 6 latched 9 60 60: mask, run 9, open, later b, wake t"
def o0 : Str := "bottom b: run 2, answer b"
def o1 : Str := "thread t 3: run 1, later b"
def jn (rs : List Str) : Str := Txt.join "\n" rs
/-- no line's end in it -/
def nlB (x : Str) : Bool := x.cps.toList.all fun c => c != 10
theorem split_jn {rs : List Str} (hne : rs ≠ []) (h : rs.all nlB = true) : Txt.split (jn rs) "\n" = rs := TL.split_join tl_nl (by decide +kernel) hne fun p hp z => by
  have h1 := List.all_eq_true.mp h p hp
  have h2 := List.all_eq_true.mp h1 10 z
  exact absurd h2 (by decide)
theorem rows_stop : ∀ (xs ys : List Str) (n m : Nat) (R B T : List PyData), readRows xs n R B T = .inl m → readRows (xs ++ ys) n R B T = .inl m
  | [], _, _, _, _, _, _, h => by cases h
  | x :: xs, ys, n, m, R, B, T, h => by
    show readRows (x :: (xs ++ ys)) n R B T = .inl m
    unfold readRows at h ⊢
    split at h
    · rename_i R' B' T' hp
      exact rows_stop xs ys (n + 1) m R' B' T' h
    · rename_i hp
      exact h
theorem read_stop {xs ys : List Str} {m : Nat} (hne : xs ≠ []) (hn : (xs ++ ys).all nlB = true) (h : readRows xs 0 [] [] [] = .inl m) : readM (jn (xs ++ ys)) = .inl m := by
  unfold readM
  rw [split_jn (by simp [hne]) hn, rows_stop xs ys 0 m [] [] [] h]
theorem read_end {xs : List Str} {R B T : List PyData} (hne : xs ≠ []) (hn : xs.all nlB = true) (h : readRows xs 0 [] [] [] = .inr (R, B, T)) : readM (jn xs) = if planOkD (.list R) (.list B) (.list T) then .inr (R, B, T) else .inl xs.length := by
  unfold readM
  rw [split_jn hne hn, h]
def rowOf (z : Nat ⊕ (List PyData × List PyData × List PyData)) : Int := match z with
  | .inl n => n
  | .inr _ => -1
def stops (m : Nat) (xs : List Str) : Bool := match readRows xs 0 [] [] [] with
  | .inl n => n == m
  | .inr _ => false
theorem stops_eq {m : Nat} {xs : List Str} (h : stops m xs = true) : readRows xs 0 [] [] [] = .inl m := by
  unfold stops at h
  split at h
  · rename_i n e
    rw [e, beq_iff_eq.mp h]
  · cases h
/-- what all rows end as -/
def ends (m : Int) (xs : List Str) : Bool := match readRows xs 0 [] [] [] with
  | .inl n => (n : Int) == m
  | .inr (R, B, T) => if planOkD (.list R) (.list B) (.list T) then m == -1 else m == (xs.length : Int)
theorem ends_eq {m : Int} {xs : List Str} (hne : xs ≠ []) (hn : xs.all nlB = true) (h : ends m xs = true) : rowOf (readM (jn xs)) = m := by
  unfold ends at h
  split at h
  · rename_i n e
    have z := read_stop (ys := []) hne (by rw [List.append_nil]; exact hn) e
    rw [List.append_nil] at z
    rw [z]
    exact beq_iff_eq.mp h
  · rename_i R B T e
    rw [read_end hne hn e]
    split at h
    · rename_i hk
      rw [if_pos hk]
      exact (beq_iff_eq.mp h).symm
    · rename_i hk
      rw [if_neg hk]
      exact (beq_iff_eq.mp h).symm
theorem good_rows : ends (-1) [l0, l1, o0, o1] = true ∧ ends (-1) [l0] = true := by decide +kernel
theorem bad_1 : blAll.all (fun b => stops 1 [l0, b]) = true := by decide +kernel
theorem bad_2 : blAll.all (fun b => stops 2 [l0, l1, b]) = true := by decide +kernel
theorem bad_nl : blAll.all nlB = true ∧ boAll.all nlB = true ∧ [l0, l1, o0, o1].all nlB = true := by decide +kernel
theorem bad_4 : boAll.all (fun b => stops 4 [l0, l1, o0, o1, b]) = true := by decide +kernel
def five : List Str := ["line a 1 up 1 1 1: run 1", "line c 2 up 1 1 1: run 1", "line d 3 up 1 1 1: run 1", "line e 4 up 1 1 1: run 1", "line f 5 up 1 1 1: run 1"]
def lows : List Str := ["bottom a: run 1", "bottom b: run 1", "bottom c: run 1", "bottom d: run 1", "bottom e: run 1"]
theorem turns : ends 0 [o0, o1] = true ∧ ends 3 [l0, l1, o1, o0] = true ∧ ends 0 [o0, l0, l1] = true ∧ ends 2 [l0, o0, l1] = true ∧ ends 2 [l0, l1, ""] = true := by decide +kernel
theorem fives : ends (-1) (five ++ lows.take 4) = true ∧ ends 5 (five ++ (["line g 9 up 1 1 1: run 1"] : List Str)) = true ∧ ends 9 (five ++ lows) = true ∧ ends 2 [l0, l1] = true ∧ ends 3 [l0, l1, o0] = true := by decide +kernel
theorem lasts5 : ends 1 [l0, ""] = true ∧ ends 0 [""] = true ∧ ends 1 ["line a 1 up 1 1 1: run 1, answer b"] = true := by decide +kernel
end KW
end
section
set_option Elab.async false
set_option linter.all false
set_option autoImplicit false
set_option maxRecDepth 100000
set_option maxHeartbeats 1000000
/-! the laws' drawn numbers -/
namespace KW
open PySem PySem.Spec PyProof.Rows L2 He KR Evl
local macro_rules
  | `(tactic| walk_at "na") => `(tactic| with_reducible (first | exact cl_Line (by assumption) | exact cl_Job (by assumption) | exact cl_Engine (by assumption) | exact cl_Plan (by assumption) | exact cl_Run (by assumption) | exact cl_Bench (by assumption) | exact na_Line_name (by assumption) | exact na_Line_rank (by assumption) | exact na_Line_is_up (by assumption) | exact na_Line_guard (by assumption) | exact na_Line_top (by assumption) | exact na_Line_let_by (by assumption) | exact na_Line_shut_till (by assumption) | exact na_Line_since (by assumption) | exact na_Line_fresh (by assumption) | exact na_Line_counts (by assumption) | exact na_Line_longest (by assumption) | exact na_Job_word (by assumption) | exact na_Job_name (by assumption) | exact na_Job_rank (by assumption) | exact na_Job_steps (by assumption) | exact na_Job_masks_then (by assumption) | exact na_Job_at (by assumption) | exact na_Job_left (by assumption) | exact na_Engine_plan (by assumption) | exact na_Engine_ways (by assumption) | exact na_Engine_tops (by assumption) | exact na_Engine_bottom (by assumption) | exact na_Engine_put_off (by assumption) | exact na_Engine_woken (by assumption) | exact na_Engine_begun (by assumption) | exact na_Engine_depth (by assumption) | exact na_Engine_now (by assumption) | exact na_Engine_row (by assumption) | exact na_Engine_depths (by assumption) | exact na_Engine_last_begun (by assumption) | exact na_Plan_row (by assumption) | exact na_Plan_low (by assumption) | exact na_Plan_late (by assumption) | exact na_Run_row (by assumption) | exact na_Run_depths (by assumption) | exact na_Run_table (by assumption) | exact na_Run_longest (by assumption) | exact na_Bench_engine (by assumption) | exact na_Bench_fresh (by assumption) | exact na_Bench_told_so_far (by assumption) | exact na_Bench_rows (by assumption)))
local macro_rules
  | `(tactic| walk_at "oi") => `(tactic| first | assumption | exact oi2 0 (by assumption) rfl | exact oi2 1 (by assumption) rfl | exact oi2 2 (by assumption) rfl | exact oi2 3 (by assumption) rfl | exact oi2 4 (by assumption) rfl | exact oi2 5 (by assumption) rfl | exact oi2 6 (by assumption) rfl | exact oi2 7 (by assumption) rfl | exact oi2 8 (by assumption) rfl)
local macro_rules
  | `(tactic| walk_at "ev") => `(tactic| repeat' (first
    | exact ev_c | exact ev_var rfl | exact ea_nil | exact rv_I0 | exact ru_neg | exact eo_none
    | exact rv_eq rfl | exact rv_ne rfl
    | exact rv_ixT (by assumption) (by rfl) | exact rv_ixL (by assumption) (by rfl)
    | exact sv_q (by assumption) (by assumption) | exact sv_within (by assumption)
    | exact Or.inr (by assumption) | exact Or.inl (by assumption) | (show (_ : String) ∈ _; decide)
    | with_reducible (first | apply ev_isi | apply ev_lenS | apply ev_if' | apply et_test | apply et_B | apply et_not | apply et_and | apply et_or | apply ev_andV | apply ev_orV | apply ev_notV | apply ea_cons | apply eo_some | apply ev_fl | apply ev_op | apply ev_un | apply ev_call)
    | walk_at "na" | walk_at "oi" | (show List.lookup _ _ = _; rfl)
    | assumption
    | (with_reducible intro hh; first | exact absurd (show true = false from hh) (by decide) | exact absurd (show false = true from hh) (by decide) | clear hh)))

section
variable {P : Program} {w : World} {K : PySem.W.Frag} {mg : Str → Option Value} {base : Heap}
theorem sc_law_draw : FnScope ["_law_cell", "_law_k", "_law_most", "_law_primes"] ["_law_cell", "_law_k", "_law_most"] (defScope s_law_draw) := ⟨rfl, rfl, rfl, by decide +kernel, rfl, by decide +kernel, by decide +kernel⟩
theorem sc_law_number : FnScope ["_law_cell", "_law_k", "_law_limit", "_law_rest", "_law_turn", "_law_small"] ["_law_cell", "_law_k", "_law_limit"] (defScope s_law_number) := ⟨rfl, rfl, rfl, by decide +kernel, rfl, by decide +kernel, by decide +kernel⟩
/-- some number below the limit -/
def spDraw : Sp := fun vs H Q _ => ∃ c k l : Int, vs = [.int c, .int k, .int l] ∧ (-(2 ^ 64) < c ∧ c < 2 ^ 64) ∧ (0 ≤ k ∧ k ≤ 1000) ∧ 0 < l ∧ ∀ n H', 0 ≤ n → n < l → Ex H H' → Q (.int n) H'
def primes : List Int := [1000003, 1000033, 1000037, 1000039, 1000081, 1000099, 1000117, 1000121, 1000133, 1000151, 1000159, 1000171, 1000183, 1000187, 1000193, 1000199]
theorem primes_pos : ∀ m ∈ primes, 0 < m := by decide
theorem ok_law_draw (T : Txt w K mg) : FnOk P w K mg base CX0 1 (f_law_draw K) (fdAt K (f_law_draw K)) ["_law_cell", "_law_k", "_law_most"] spDraw := by
  refine (df_law_draw T).ok sc_law_draw (fun vs H Q E h => ?_) (fun cdv A outer s H vs Q E hr h => ?_)
  · obtain ⟨_, _, _, rfl, _⟩ := h
    rfl
  · obtain ⟨c, k, l, rfl, hc, hk, hl, q⟩ := h
    refine ⟨_, PSs.nox ((pss_cons (ps_set (i := 3) sc_law_draw.nd rfl (Or.inl rfl) (pe_tup (pa_cons pe_int (pa_cons pe_int (pa_cons pe_int (pa_cons pe_int (pa_cons pe_int (pa_cons pe_int (pa_cons pe_int (pa_cons pe_int (pa_cons pe_int (pa_cons pe_int (pa_cons pe_int (pa_cons pe_int (pa_cons pe_int (pa_cons pe_int (pa_cons pe_int (pa_cons pe_int pa_nil))))))))))))))))))
      (pss_one (ps_ret (pe_op op_mod (pe_op op_mod (pe_op op_add (pe_op op_mul (pv 0) pe_int) (pe_op op_mul (pv 1) pe_int)) (pe_ix (ix_tupK (K := K) rfl) (pv 3) (pe_op op_mod (pv 1) pe_int) (fun _ _ => rfl))) (pv 2)))))), ?_⟩
    refine q_asgU (xs := primes.map V.int) (eu_tup (ea_cons ev_c (ea_cons ev_c (ea_cons ev_c (ea_cons ev_c (ea_cons ev_c (ea_cons ev_c (ea_cons ev_c (ea_cons ev_c (ea_cons ev_c (ea_cons ev_c (ea_cons ev_c (ea_cons ev_c (ea_cons ev_c (ea_cons ev_c (ea_cons ev_c (ea_cons ev_c ea_nil)))))))))))))))) (by show (16 : Nat) ≤ 100000; decide)) fun p H1 np e1 hp => ?_
    obtain ⟨j, hj, hj2⟩ : ∃ j : Nat, k % 16 = (j : Int) ∧ j < 16 := ⟨(k % 16).toNat, by omega, by omega⟩
    obtain ⟨m, hm, hm0⟩ : ∃ m, primes[j]? = some m ∧ 0 < m := by
      have hl : j < primes.length := hj2
      exact ⟨primes[j], List.getElem?_eq_getElem hl, primes_pos _ (List.getElem_mem hl)⟩
    refine s_ret (v := .int ((c * 48271 + k * 69621) % m % l)) (ev_op (ev_op (ev_op (ev_op (ev_var rfl) ev_c (rv_I (.inl ⟨hc.1, hc.2⟩))) (ev_op (ev_var rfl) ev_c (rv_I (.inl ⟨by omega, by omega⟩))) rv_I0) (ev_op (ev_var rfl) (ev_op (ev_var rfl) ev_c (rv_I (by decide))) (rv_ixT (st_of hp) (by rw [hj]; exact atI_nat (by rw [List.getElem?_map, hm]; rfl)))) (rv_I hm0)) (ev_var rfl) (rv_I hl)) fun H2 e2 => q _ H2 (Int.emod_nonneg _ (by omega)) (Int.emod_lt_of_pos _ hl) (e1.trans e2)
def spNumber : Sp := fun vs H Q _ => ∃ c k l : Int, vs = [.int c, .int k, .int l] ∧ (0 ≤ k ∧ k ≤ 1000) ∧ 0 < l ∧ ∀ n H', 0 ≤ n → n < l → Ex H H' → Q (.int n) H'
theorem s_retOp2 {ta : TA} {tb : TE} {sp : Sp} {dvs vs : List V} {E : XK} {r : R2} {σ : L2.St} {H : Hp} {D : Ends} (hA : EvA ta σ H vs) (k : ∀ H1, Ex H H1 → sp (vs ++ dvs) H1 (fun x H2 => tb σ H2 fun y H3 => r x y H3 D.rt) E) : tRet (tOp r (tCall sp dvs E ta) tb) D σ H := hA H (Ex.refl _) _ fun H1 e1 => k H1 e1
theorem ok_law_number (T : Txt w K mg) : FnOk P w K mg base CX0 2 (f_law_number K) (fdAt K (f_law_number K)) ["_law_cell", "_law_k", "_law_limit"] spNumber := by
  refine (df_law_number T).ok sc_law_number (fun vs H Q E h => ?_) (fun cdv A outer s H vs Q E hr h => ?_)
  · obtain ⟨_, _, _, rfl, _⟩ := h
    rfl
  · obtain ⟨c, k, l, rfl, hk, hl, q⟩ := h
    refine ⟨_, PSs.nox ((pss_cons (ps_set (i := 3) sc_law_number.nd rfl (Or.inl rfl) (pe_op op_sub (pv 0) (pe_op op_pow pe_int pe_int)))
      (pss_cons (ps_for PassesOwn.never rfl (pi_range1 (by rfl) (fr_range T) (pa_cons (pe_op op_mod (pv 1) pe_int) pa_nil)) (pg_name (i := 4) sc_law_number.nd rfl (Or.inl rfl)) (pss_one (ps_set (i := 3) sc_law_number.nd rfl (Or.inl rfl) (pe_op op_fdiv (pv 3) pe_int))))
      (pss_cons (ps_if (pt_cmpR op_gt (pv 3) pe_int (nomark _)) (pss_one (ps_ret (pe_op op_mod (pe_op op_mod (pv 3) pe_int) (pv 2)))) pss_nil)
      (pss_cons (ps_set (i := 5) sc_law_number.nd rfl (Or.inl rfl) (pe_op op_mod (pv 0) pe_int))
      (pss_one (ps_ret (pe_op op_mod (pe_call (ok_law_draw T) (hr.mono (by decide)) rfl (gl_law_draw T) (df_law_draw T).kp (bi_law_draw T) .nil pass0 (pa_cons (pe_op op_mul (pe_op op_add (pv 5) (pe_op op_mul pe_int (pv 1))) (pe_op op_add (pe_op op_add (pv 5) (pe_op op_mul pe_int (pv 1))) pe_int)) (pa_cons (pe_op op_add (pe_op op_mod (pv 1) pe_int) pe_int) (pa_cons pe_int pa_nil)))) (pv 2))))))))), ?_⟩
    refine q_asg (v := .int (c - (10 : Int) ^ (18 : Int).toNat)) (ev_op (ev_var rfl) (ev_op ev_c ev_c (rv_I ⟨by decide, by decide, by decide⟩)) rv_I0) fun H1 e1 => ?_
    refine q_forR1 (n := k % 24) (ea_cons (ev_op (ev_var rfl) ev_c (rv_I (by decide))) ea_nil) (by omega) (fun i σ' H' => ∃ (r : Int) (s4 : Option V), σ' = [some (.int c), some (.int k), some (.int l), some (.int r), s4, none] ∧ Ex H H') (fun H2 e2 => ⟨_, none, rfl, e1.trans e2⟩) (fun i σ' H' hi hW => ?_) (fun σ' H' hW => ?_)
    · obtain ⟨r, s4, rfl, e3⟩ := hW
      exact s_asg (v := .int (r / 1009)) (ev_op (ev_var rfl) ev_c (rv_I ⟨by decide, by decide⟩)) fun H4 e4 => ⟨_, _, rfl, e3.trans e4⟩
    · obtain ⟨r, s4, rfl, e3⟩ := hW
      refine q_when (b := decide (r > 0)) (et_test (ev_op (ev_var rfl) ev_c rv_I0)) (fun hb H4 e4 => ?_) (fun hb H4 e4 => ?_)
      · exact s_ret (v := .int (r % 1009 % l)) (ev_op (ev_op (ev_var rfl) ev_c (rv_I (by decide))) (ev_var rfl) (rv_I hl)) fun H5 e5 => q _ H5 (Int.emod_nonneg _ (by omega)) (Int.emod_lt_of_pos _ hl) ((e3.trans e4).trans e5)
      · refine q_asg (v := .int (c % 1000003)) (ev_op (ev_var rfl) ev_c (rv_I (by decide))) fun H5 e5 => ?_
        have b1 := Int.emod_nonneg c (show (1000003 : Int) ≠ 0 by decide)
        have b2 := Int.emod_lt_of_pos c (show (0 : Int) < 1000003 by decide)
        generalize c % 1000003 = z at b1 b2 ⊢
        have b3 : 0 ≤ (z + 977 * k) * (z + 31 * k + 5) := Int.mul_nonneg (by omega) (by omega)
        have b4 : (z + 977 * k) * (z + 31 * k + 5) ≤ 2000000 * 2000000 := Int.mul_le_mul (by omega) (by omega) (by omega) (by omega)
        have hA : EvA (tCons (tOp (rI CMul fun i j => V.int (i * j)) (tOp (rI0 fun i j => V.int (i + j)) (tVar 5) (tOp (rI CMul fun i j => V.int (i * j)) (tC (V.int 977)) (tVar 1))) (tOp (rI0 fun i j => V.int (i + j)) (tOp (rI0 fun i j => V.int (i + j)) (tVar 5) (tOp (rI CMul fun i j => V.int (i * j)) (tC (V.int 31)) (tVar 1))) (tC (V.int 5)))) (tCons (tOp (rI0 fun i j => V.int (i + j)) (tOp (rI (fun _ j => 0 < j) fun i j => V.int (i % j)) (tVar 1) (tC (V.int 9))) (tC (V.int 1))) (tCons (tC (V.int 999983)) tNil))) [some (.int c), some (.int k), some (.int l), some (.int r), s4, some (.int z)] H5 [.int ((z + 977 * k) * (z + 31 * k + 5)), .int (k % 9 + 1), .int 999983] := ea_cons (ev_op (ev_op (ev_var rfl) (ev_op ev_c (ev_var rfl) (rv_I (.inl ⟨by decide, by decide⟩))) rv_I0) (ev_op (ev_op (ev_var rfl) (ev_op ev_c (ev_var rfl) (rv_I (.inl ⟨by decide, by decide⟩))) rv_I0) ev_c rv_I0) (rv_I (.inl ⟨by omega, by omega⟩))) (ea_cons (ev_op (ev_op (ev_var rfl) ev_c (rv_I (by decide))) ev_c rv_I0) (ea_cons ev_c ea_nil))
        refine s_retOp2 hA fun H6 e6 => ⟨_, _, _, rfl, ⟨by omega, by omega⟩, ⟨by omega, by omega⟩, by decide, fun n H7 n0 n1 e7 => ?_⟩
        exact ⟨_, rfl, _, _, rfl, rfl, hl, q _ H7 (Int.emod_nonneg _ (by omega)) (Int.emod_lt_of_pos _ hl) ((((e3.trans e4).trans e5).trans e6).trans e7)⟩
end
end KW
end
section
set_option Elab.async false
set_option linter.all false
set_option autoImplicit false
set_option maxRecDepth 100000
set_option maxHeartbeats 1000000
/-! enumerate of a text -/
namespace KW
open PySem PySem.Spec PyProof.Rows L2 He KR Evl
/-- the signs of x with their places, each in a new pair -/
def Itx (x : Str) : It := ⟨fun i _ => i < x.cps.size, fun i H v H' => ∃ T c, v = .ref T ∧ H T = none ∧ x.cps[i]? = some c ∧ H' = upd H T (.tup [.int (i : Nat), .str ⟨#[c]⟩]), fun i _ => x.cps.size = i⟩
theorem turn_enumX {P : Program} {w : World} {K : PySem.W.Frag} {elts : List Expr} {kk : Nat} {tpos : Pos} (x : Str) (t : Tok) (e it : Addr) :
    Turn P w K (.Tuple elts kk tpos) (Itx x) [e, it] e (fun i h => (∃ old, IsEnum h e it ((i : Nat) : Int) old) ∧ h.IsStrIter it (strIterType x) x t i ∧ e ≠ it) where
  mem := by simp
  obj := fun i h st b hb => by
    obtain ⟨⟨old, he⟩, ⟨o, ho, hc, hd⟩, _⟩ := st
    have e' : b = e ∨ b = it := by simpa using hb
    rcases e' with z | z
    · rw [z]; exact ⟨_, he, fun v q => nomatch q⟩
    · rw [z]; exact ⟨o, ho, fun v q => by rw [hd] at q; cases q⟩
  keep := fun i h h' st k => by
    obtain ⟨⟨old, he⟩, ⟨o, ho, hc⟩, hne⟩ := st
    exact ⟨⟨old, k e (by simp) _ he⟩, ⟨o, k it (by simp) _ ho, hc⟩, hne⟩
  item := by
    intro X hP hw hK hc i pins s σ H E I hf st hg
    subst hP hw hK
    obtain ⟨⟨old, he⟩, hit, hne⟩ := st
    have hel : e < s.heap.objs.size := Heap.lt_size he
    have hil : it < s.heap.objs.size := by obtain ⟨_, q, _⟩ := hit; exact Heap.lt_size q
    have hh : X.A.in1.handled = none := I.ok.hd hc
    refine wpAny_pyNext_enum_itemD (Draws.text hh it x t) he hit hg hne (by simpa using hne) fun y h' tk hy ho hit' hT hsz hk => ?_
    obtain ⟨c, u, hcx, rfl⟩ := hy
    refine ⟨_, rfl, wpAny_letOwnedTupleGo_enum (s := { s with heap := h', toks := tk + 1 }) ho fun h'' he' sb => ?_⟩
    have hT2 : h''.get? s.heap.objs.size = some { cls := .type "tuple", data := .seq #[.int i tk, .str ⟨#[c]⟩ u] } := (sb.2 _ (Nat.ne_of_gt hel)).trans hT
    have new : ObjOk X.prog X.w (upd H s.heap.objs.size (.tup [.int (i : Nat), .str ⟨#[c]⟩])) h'' s.heap.objs.size (.tup [.int (i : Nat), .str ⟨#[c]⟩]) :=
      ⟨by show 2 ≤ sizeLine; decide, [.int i tk, .str ⟨#[c]⟩ u], .cons ⟨tk, rfl⟩ (.cons ⟨u, rfl⟩ .nil), ⟨_, hT2, rfl, _, rfl⟩⟩
    have I1 : L2.Inv X pins σ (upd H s.heap.objs.size (.tup [.int (i : Nat), .str ⟨#[c]⟩])) { s with heap := h'', toks := tk + 1 } :=
      I.turnedNew (t' := tk + 1) (ch := [e, it]) (fun b ob hb q => (sb.2 b (fun z => hb (by simp [z]))).trans (hk b ob (fun z => hb (by simp [z])) (fun z => hb (by simp [z])) q)) hf (Nat.le_refl _) new
    refine ⟨.ref s.heap.objs.size, _, I1, rfl, ⟨_, c, rfl, I.hok.fresh (Nat.le_refl _), hcx, rfl⟩, ⟨⟨Value.str ⟨#[c]⟩ u, ?_⟩, ?_, hne⟩, fun b hb => ?_⟩
    · have e1 : ((i + 1 : Nat) : Int) = (i : Int) + 1 := by omega
      rw [e1]; exact he'
    · obtain ⟨o, q, z⟩ := hit'
      exact ⟨o, (sb.2 it (Ne.symm hne)).trans q, z⟩
    · have hb' : b < s.heap.objs.size := by
        have e' : b = e ∨ b = it := by simpa using hb
        rcases e' with z | z
        · rw [z]; exact hel
        · rw [z]; exact hil
      rw [upd_ne (Nat.ne_of_lt hb')]
      exact (hf b hb).1
  done := by
    intro X hP hw hK hc i pins s σ H E I hf st hg
    subst hP hw hK
    obtain ⟨⟨old, he⟩, hit, hne⟩ := st
    have hg : x.cps.size = i := hg
    obtain ⟨f0, f1, f2, f3, f4, f5⟩ := hf it (by simp)
    have hh : X.A.in1.handled = none := I.ok.hd hc
    rw [← hg] at hit
    exact wpAny_pyNext_enum_endD (Draws.text hh it x t) he hit fun h' eb => ⟨rfl, I.turned (t' := s.toks) (fun b o hb q => eb b o hb q) f0 f1 f3 f4 f5⟩
  self := fun A i s Q E st h => let ⟨⟨_, he⟩, _⟩ := st; wpAny_pyIter_enum he h
def iEnumX (ta : TA) : TI := fun σ H R => ta σ H fun vs H1 => ∃ x, vs = [.str x] ∧ R (Itx x) H1
theorem pi_enumX {X : Cx} {e : Expr} {ta : TA} {p pos tpos : Pos} {elts : List Expr} {kk : Nat} (hg : Gl X "enumerate") (hm : X.mg "enumerate" = none) (ha : PA X [e] ta) (hs : starEach [e] X.env = [(false, eval e X.env)] := by rfl) :
    PI X (.Tuple elts kk tpos) (.Call (.Name "enumerate" p) [e] [] pos) (iEnumX ta) := by
  refine ⟨fun pins s σ H R I h => ?_⟩
  refine Call_ (ld_blt I hg hm boot_enumerate (PyProof.Rows.callWith_type1 (thn (ha.run pos pins s σ H _ I h) fun us s1 ⟨vs, H1, I1, r1, q1⟩ => ?_) hs rfl))
  obtain ⟨x, ex, q⟩ := q1
  subst ex
  cases r1 with
  | cons r rr =>
    cases rr
    obtain ⟨t, rfl⟩ := r
    refine call_enumerate_str fun h' he hit hsz hk => wpAny_pyIter_enum he ?_
    have I2 : L2.Inv X pins σ H1 { s1 with heap := h' } := I1.kept (t' := s1.toks) hk
    refine ⟨s1.heap.objs.size + 1, [s1.heap.objs.size + 1, s1.heap.objs.size], _, _, H1, rfl, I2, turn_enumX x t (s1.heap.objs.size + 1) s1.heap.objs.size, ⟨⟨.none, he⟩, hit, Nat.succ_ne_self _⟩, fun b hb => ?_, q⟩
    have e' : b = s1.heap.objs.size + 1 ∨ b = s1.heap.objs.size := by simpa using hb
    have hle : s1.heap.objs.size ≤ b := by
      rcases e' with z | z
      · rw [z]; exact Nat.le_add_right _ _
      · rw [z]; exact Nat.le_refl _
    exact I1.fpOk hle (I1.hok.fresh hle)
end KW
end
section
set_option Elab.async false
set_option linter.all false
set_option autoImplicit false
set_option maxRecDepth 100000
set_option maxHeartbeats 1000000
/-! plans.py: what a plan tells -/
namespace KW
open PySem PySem.Spec PyProof.Rows L2 He KR Evl
local macro_rules
  | `(tactic| walk_at "na") => `(tactic| with_reducible (first | exact cl_Line (by assumption) | exact cl_Job (by assumption) | exact cl_Engine (by assumption) | exact cl_Plan (by assumption) | exact cl_Run (by assumption) | exact cl_Bench (by assumption) | exact na_Line_name (by assumption) | exact na_Line_rank (by assumption) | exact na_Line_is_up (by assumption) | exact na_Line_guard (by assumption) | exact na_Line_top (by assumption) | exact na_Line_let_by (by assumption) | exact na_Line_shut_till (by assumption) | exact na_Line_since (by assumption) | exact na_Line_fresh (by assumption) | exact na_Line_counts (by assumption) | exact na_Line_longest (by assumption) | exact na_Job_word (by assumption) | exact na_Job_name (by assumption) | exact na_Job_rank (by assumption) | exact na_Job_steps (by assumption) | exact na_Job_masks_then (by assumption) | exact na_Job_at (by assumption) | exact na_Job_left (by assumption) | exact na_Engine_plan (by assumption) | exact na_Engine_ways (by assumption) | exact na_Engine_tops (by assumption) | exact na_Engine_bottom (by assumption) | exact na_Engine_put_off (by assumption) | exact na_Engine_woken (by assumption) | exact na_Engine_begun (by assumption) | exact na_Engine_depth (by assumption) | exact na_Engine_now (by assumption) | exact na_Engine_row (by assumption) | exact na_Engine_depths (by assumption) | exact na_Engine_last_begun (by assumption) | exact na_Plan_row (by assumption) | exact na_Plan_low (by assumption) | exact na_Plan_late (by assumption) | exact na_Run_row (by assumption) | exact na_Run_depths (by assumption) | exact na_Run_table (by assumption) | exact na_Run_longest (by assumption) | exact na_Bench_engine (by assumption) | exact na_Bench_fresh (by assumption) | exact na_Bench_told_so_far (by assumption) | exact na_Bench_rows (by assumption)))
local macro_rules
  | `(tactic| walk_at "oi") => `(tactic| first | assumption | exact oi2 0 (by assumption) rfl | exact oi2 1 (by assumption) rfl | exact oi2 2 (by assumption) rfl | exact oi2 3 (by assumption) rfl | exact oi2 4 (by assumption) rfl | exact oi2 5 (by assumption) rfl | exact oi2 6 (by assumption) rfl | exact oi2 7 (by assumption) rfl | exact oi2 8 (by assumption) rfl)
local macro_rules
  | `(tactic| walk_at "ev") => `(tactic| repeat' (first
    | exact ev_c | exact ev_var rfl | exact ea_nil | exact rv_I0 | exact ru_neg | exact eo_none
    | exact rv_eq rfl | exact rv_ne rfl
    | exact rv_ixT (by assumption) (by rfl) | exact rv_ixL (by assumption) (by rfl)
    | exact sv_q (by assumption) (by assumption) | exact sv_within (by assumption)
    | exact Or.inr (by assumption) | exact Or.inl (by assumption) | (show (_ : String) ∈ _; decide)
    | with_reducible (first | apply ev_isi | apply ev_lenS | apply ev_if' | apply et_test | apply et_B | apply et_not | apply et_and | apply et_or | apply ev_andV | apply ev_orV | apply ev_notV | apply ea_cons | apply eo_some | apply ev_fl | apply ev_op | apply ev_un | apply ev_call)
    | walk_at "na" | walk_at "oi" | (show List.lookup _ _ = _; rfl)
    | assumption
    | (with_reducible intro hh; first | exact absurd (show true = false from hh) (by decide) | exact absurd (show false = true from hh) (by decide) | clear hh)))

section
variable {P : Program} {w : World} {K : PySem.W.Frag} {mg : Str → Option Value} {base : Heap}
theorem sc_Plan_names : FnScope ["self", "one"] ["self"] (defScope s_Plan_names) := ⟨rfl, rfl, rfl, by decide +kernel, rfl, by decide +kernel, by decide +kernel⟩
theorem sc_Plan_lines : FnScope ["self"] ["self"] (defScope s_Plan_lines) := ⟨rfl, rfl, rfl, by decide +kernel, rfl, by decide +kernel, by decide +kernel⟩
theorem sc_Plan_bottoms : FnScope ["self"] ["self"] (defScope s_Plan_bottoms) := ⟨rfl, rfl, rfl, by decide +kernel, rfl, by decide +kernel, by decide +kernel⟩
theorem sc_Plan_threads : FnScope ["self"] ["self"] (defScope s_Plan_threads) := ⟨rfl, rfl, rfl, by decide +kernel, rfl, by decide +kernel, by decide +kernel⟩
def spNames (K : PySem.W.Frag) : Sp := fun vs H Q _ => ∃ (p : Addr) (R B T : List PyData), vs = [.ref p] ∧ PlanAt K H p R B T ∧ PlanP R B T ∧ ∀ q H', H q = none → Ex H H' → H' q = some (.lst ((R.map nameD).map V.str)) → Q (.ref q) H'
theorem ok_Plan_names (T : Txt w K mg) : FnOk P w K mg base CX0 1 (f_Plan_names K) (fdAt K (f_Plan_names K)) ["self"] (spNames K) := by
  refine (df_Plan_names T).ok sc_Plan_names (fun vs H Q E h => ?_) (fun cdv A outer s H vs Q E hr h => ?_)
  · obtain ⟨_, _, _, _, rfl, _⟩ := h
    rfl
  · obtain ⟨p, R, B, Td, rfl, hp, pl, q⟩ := h
    refine ⟨_, PSs.nox ((pss_one (ps_ret (pe_lc (own := [("one", 1)]) (g := gName 1) (tt := tYes) rfl sc_Plan_names.nd (pi_listK (K := K) rfl (pe_fldK (K := K) rfl (pv 0) rfl)) (blkOk_by (N := ["self", "one"]) (sc := defScope s_Plan_names) (by decide +kernel)) (fun _ _ _ _ _ => pg_name (i := 1) sc_Plan_names.nd rfl (Or.inl rfl)) (fun _ _ _ _ _ => pts_nil) (fun _ _ _ _ _ => (pe_ix (ix_tupK (K := K) rfl) (pv 1) pe_int (fun _ _ => rfl))))))), ?_⟩
    obtain ⟨dx, r1, r2, r3, x1, x2, x3, h0, ⟨h1, d1⟩, _, _, _⟩ := hp
    refine s_retL (el_lcD (K := K) (fun d => V.str (nameD d)) (ev_fl (ev_var rfl) h0 (cl_Plan T) (na_Plan_row T) rfl) (sq_of h1) d1 (by have := dpLen d1; have := pl.lR; omega) (fun _ => rfl) fun x d hm hd => ?_) fun q' H1 hn e1 hq => q q' H1 hn e1 (by rw [hq, List.map_map]; rfl)
    obtain ⟨n, r, u, a, b, c, ss, rfl, _⟩ := line_inv (pl.oR d hm)
    obtain ⟨t, ys, rfl, hy, hdd⟩ := dpT hd
    obtain ⟨v0, _, rfl, h0', _⟩ := dpC hdd
    rw [dpS h0'] at hy
    exact ev_op (ev_var rfl) ev_c (rv_ixT hy at0)
/-- told lists, all anew -/
def spTold (K : PySem.W.Frag) (f : List PyData → List PyData → List PyData → List PyData) : Sp := fun vs H Q _ => ∃ (p : Addr) (R B T : List PyData) (G : Hp) (L : List (Addr × HO)), vs = [.ref p] ∧ PlanAt K G p R B T ∧ PlanP R B T ∧ Own G H L ∧
  ∀ q G' H' ys cs, Same G G' → Own G' H' ((q, .lst ys) :: (cs ++ L)) → Tl K G' ys (f R B T) cs → Q (.ref q) H'
theorem told_copy {G H : Hp} {L : List (Addr × HO)} {te : TE} {σ : L2.St} {ds : List PyData} {r : Addr} {xs : List V} {E : XK} {Q : VK} (h : Ev te σ H (.ref r)) (o : Own G H L) (hr : G r = some (.lst xs)) (hd : DpAll K G xs ds) (hl : ds.length ≤ 100) (h1 : ∀ e ∈ ds, OneD e) (h2 : ∀ e ∈ ds, CopyD e)
    (q : ∀ q G' H' ys cs, Same G G' → Own G' H' ((q, .lst ys) :: (cs ++ L)) → Tl K G' ys ds cs → Q (.ref q) H') : tCall (spCopied K) [] E (tCons te tNil) σ H Q := h H (Ex.refl _) _ fun H1 e1 => by
  have o1 := o.same e1
  exact ⟨.ref r, r, xs, ds, G, L, rfl, rfl, .inl (sq_of (o1.sub _ _ hr)), o1, in_mono (Same.refl _) o1.sub (in_of (Same.refl _) hd h1), hl, h2, fun p G' H' ys cs s1 _ _ o2 t => q p G' H' ys cs s1 o2 t⟩
theorem ok_Plan_lines (T : Txt w K mg) : FnOk P w K mg base CX0 2 (f_Plan_lines K) (fdAt K (f_Plan_lines K)) ["self"] (spTold K fun R _ _ => R) := by
  refine (df_Plan_lines T).ok sc_Plan_lines (fun vs H Q E h => ?_) (fun cdv A outer s H vs Q E hr h => ?_)
  · obtain ⟨_, _, _, _, _, _, rfl, _⟩ := h
    rfl
  · obtain ⟨p, R, B, Td, G, L, rfl, hp, pl, o, q⟩ := h
    refine ⟨_, PSs.nox ((pss_one (ps_ret (pe_call (ok_copied T) (hr.mono (by decide)) rfl (gl_copied T) (df_copied T).kp (bi_copied T) .nil pass0 (pa_cons (pe_fldK (K := K) rfl (pv 0) rfl) pa_nil))))), ?_⟩
    obtain ⟨dx, r1, r2, r3, x1, x2, x3, h0, ⟨h1, d1⟩, _, _, _⟩ := hp
    exact told_copy (ev_fl (ev_var rfl) (o.sub _ _ h0) (cl_Plan T) (na_Plan_row T) rfl) o h1 d1 (by have := pl.lR; omega) (fun e he => (one_line (pl.oR e he)).2.1) (fun e he => (one_line (pl.oR e he)).2.2.1) q
theorem ok_Plan_bottoms (T : Txt w K mg) : FnOk P w K mg base CX0 2 (f_Plan_bottoms K) (fdAt K (f_Plan_bottoms K)) ["self"] (spTold K fun _ B _ => B) := by
  refine (df_Plan_bottoms T).ok sc_Plan_bottoms (fun vs H Q E h => ?_) (fun cdv A outer s H vs Q E hr h => ?_)
  · obtain ⟨_, _, _, _, _, _, rfl, _⟩ := h
    rfl
  · obtain ⟨p, R, B, Td, G, L, rfl, hp, pl, o, q⟩ := h
    refine ⟨_, PSs.nox ((pss_one (ps_ret (pe_call (ok_copied T) (hr.mono (by decide)) rfl (gl_copied T) (df_copied T).kp (bi_copied T) .nil pass0 (pa_cons (pe_fldK (K := K) rfl (pv 0) rfl) pa_nil))))), ?_⟩
    obtain ⟨dx, r1, r2, r3, x1, x2, x3, h0, _, ⟨h1, d1⟩, _, _⟩ := hp
    exact told_copy (ev_fl (ev_var rfl) (o.sub _ _ h0) (cl_Plan T) (na_Plan_low T) rfl) o h1 d1 (by have := pl.lB; omega) (fun e he => (one_bottom (pl.oB e he)).1) (fun e he => (one_bottom (pl.oB e he)).2.1) q
theorem ok_Plan_threads (T : Txt w K mg) : FnOk P w K mg base CX0 2 (f_Plan_threads K) (fdAt K (f_Plan_threads K)) ["self"] (spTold K fun _ _ T => T) := by
  refine (df_Plan_threads T).ok sc_Plan_threads (fun vs H Q E h => ?_) (fun cdv A outer s H vs Q E hr h => ?_)
  · obtain ⟨_, _, _, _, _, _, rfl, _⟩ := h
    rfl
  · obtain ⟨p, R, B, Td, G, L, rfl, hp, pl, o, q⟩ := h
    refine ⟨_, PSs.nox ((pss_one (ps_ret (pe_call (ok_copied T) (hr.mono (by decide)) rfl (gl_copied T) (df_copied T).kp (bi_copied T) .nil pass0 (pa_cons (pe_fldK (K := K) rfl (pv 0) rfl) pa_nil))))), ?_⟩
    obtain ⟨dx, r1, r2, r3, x1, x2, x3, h0, _, _, h1, d1⟩ := hp
    exact told_copy (ev_fl (ev_var rfl) (o.sub _ _ h0) (cl_Plan T) (na_Plan_late T) rfl) o h1 d1 (by have := pl.lT; omega) (fun e he => (one_thread (pl.oT e he)).2.1) (fun e he => (one_thread (pl.oT e he)).2.2.1) q
theorem sc_Plan_parts : FnScope ["self"] ["self"] (defScope s_Plan_parts) := ⟨rfl, rfl, rfl, by decide +kernel, rfl, by decide +kernel, by decide +kernel⟩
theorem sc_Plan_eq : FnScope ["self", "other"] ["self", "other"] (defScope s_Plan_eq) := ⟨rfl, rfl, rfl, by decide +kernel, rfl, by decide +kernel, by decide +kernel⟩
/-- the parts of a plan, a new tuple -/
def spParts (K : PySem.W.Frag) : Sp := fun vs H Q _ => ∃ (p : Addr) (R B T : List PyData), vs = [.ref p] ∧ PlanAt K H p R B T ∧ PlanP R B T ∧ ∀ q H', Ex H H' → Dp K H' (.ref q) (.tuple [.list R, .list B, .list T]) → Q (.ref q) H'
theorem told_dp {G' H' : Hp} {q : Addr} {ys : List V} {ds : List PyData} {cs : List (Addr × HO)} (o : Own G' H' ((q, .lst ys) :: (cs ++ []))) (t : Tl K G' ys ds cs) : Dp K H' (.ref q) (.list ds) := by
  have o2 : Own G' H' (cs ++ []) := o.tail
  exact .lst (sq_of (o.get (List.mem_cons_self ..))) (in_da o.sub (in_tl o2 t))
theorem ok_Plan_parts (T : Txt w K mg) : FnOk P w K mg base CX0 3 (f_Plan_parts K) (fdAt K (f_Plan_parts K)) ["self"] (spParts K) := by
  refine (df_Plan_parts T).ok sc_Plan_parts (fun vs H Q E h => ?_) (fun cdv A outer s H vs Q E hr h => ?_)
  · obtain ⟨_, _, _, _, rfl, _⟩ := h
    rfl
  · obtain ⟨p, R, B, Td, rfl, hp, pl, q⟩ := h
    refine ⟨_, PSs.nox ((pss_one (ps_ret (pe_tup (pa_cons (pe_meth0 (pv 0) (cl_Plan T) (me_Plan_lines T) (ok_Plan_lines T) (hr.mono (by decide)) (bi_Plan_lines T) .nil pass0) (pa_cons (pe_meth0 (pv 0) (cl_Plan T) (me_Plan_bottoms T) (ok_Plan_bottoms T) (hr.mono (by decide)) (bi_Plan_bottoms T) .nil pass0) (pa_cons (pe_meth0 (pv 0) (cl_Plan T) (me_Plan_threads T) (ok_Plan_threads T) (hr.mono (by decide)) (bi_Plan_threads T) .nil pass0) pa_nil))))))), ?_⟩
    have hp' := hp
    obtain ⟨dx, r1, r2, r3, x1, x2, x3, h0, _⟩ := hp'
    refine ⟨.ref p, rfl, p, dx, _, rfl, h0, rfl, p, R, B, Td, H, [], rfl, hp, pl, Own.nil (Same.refl _), fun q1 G1 H1 ys1 cs1 s1 o1 t1 => ?_⟩
    have d1 := told_dp o1 t1
    have e1 : Ex H H1 := s1.trans o1.sub
    have hp1 := plan_mono e1 hp
    refine ⟨.ref p, rfl, p, dx, _, rfl, e1 _ _ h0, rfl, p, R, B, Td, H1, [], rfl, hp1, pl, Own.nil (Same.refl _), fun q2 G2 H2 ys2 cs2 s2 o2 t2 => ?_⟩
    have d2 := told_dp o2 t2
    have e2 : Ex H1 H2 := s2.trans o2.sub
    have hp2 := plan_mono e2 hp1
    refine ⟨.ref p, rfl, p, dx, _, rfl, e2 _ _ (e1 _ _ h0), rfl, p, R, B, Td, H2, [], rfl, hp2, pl, Own.nil (Same.refl _), fun q3 G3 H3 ys3 cs3 s3 o3 t3 => ?_⟩
    have d3 := told_dp o3 t3
    have e3 : Ex H2 H3 := s3.trans o3.sub
    refine ⟨by show 3 ≤ sizeLine; rw [sizeLine_eq]; decide, fun q4 n4 => ?_⟩
    have e4 : Ex H3 (upd H3 q4 (.tup [.ref q1, .ref q2, .ref q3])) := Ex.new n4
    exact q q4 _ (e1.trans (e2.trans (e3.trans e4))) (.tup (st_of upd_same) (.cons (dpM (e2.trans (e3.trans e4)) d1) (.cons (dpM (e3.trans e4) d2) (.cons (dpM e4 d3) .nil))))
def planD (R B T : List PyData) : PyData := .tuple [.list R, .list B, .list T]
/-- two plans compared -/
def spPlanEq (K : PySem.W.Frag) : Sp := fun vs H Q _ => ∃ (p p' : Addr) (R B T R' B' T' : List PyData), vs = [.ref p, .ref p'] ∧ (PlanAt K H p R B T ∧ PlanP R B T) ∧ (PlanAt K H p' R' B' T' ∧ PlanP R' B' T') ∧ ∀ H', Ex H H' → Q (.bl (PyData.eqv (planD R B T) (planD R' B' T'))) H'
theorem ok_Plan_eq (T : Txt w K mg) : FnOk P w K mg base CX0 4 (f_Plan_eq K) (fdAt K (f_Plan_eq K)) ["self", "other"] (spPlanEq K) := by
  refine (df_Plan_eq T).ok sc_Plan_eq (fun vs H Q E h => ?_) (fun cdv A outer s H vs Q E hr h => ?_)
  · obtain ⟨_, _, _, _, _, _, _, _, rfl, _⟩ := h
    rfl
  · obtain ⟨p, p', R, B, Td, R', B', T', rfl, ⟨hp, pl⟩, ⟨hp', pl'⟩, q⟩ := h
    refine ⟨_, PSs.nox ((pss_one (ps_ret (pe_and ((pe_callB (C8.call_isC (isa_Plan T)) (by rfl) (fr_isinstance T) (by decide +kernel) (pa_cons (pv 1) (pa_cons (pe_glob (v := .ref (g_Plan K)) rfl (gl_Plan T) rfl) pa_nil)))) (pe_one ((pe_cmpR (op_eqDK hr.units (K := K) rfl) (pe_meth0 (pv 0) (cl_Plan T) (me_Plan_parts T) (ok_Plan_parts T) (hr.mono (by decide)) (bi_Plan_parts T) .nil pass0) (pe_meth0 (pv 1) (cl_Plan T) (me_Plan_parts T) (ok_Plan_parts T) (hr.mono (by decide)) (bi_Plan_parts T) .nil pass0) (nomark _)))))))), ?_⟩
    obtain ⟨dx, r1, r2, r3, x1, x2, x3, h0, _⟩ := id hp
    obtain ⟨dy, _, _, _, _, _, _, h0', _⟩ := id hp'
    refine ⟨.ref p', rfl, p', dy, _, rfl, h0', true, rfl, ?_⟩
    rw [if_pos rfl]
    refine ⟨.ref p, rfl, p, dx, _, rfl, h0, rfl, p, R, B, Td, rfl, hp, pl, fun q1 H1 e1 d1 => ?_⟩
    refine ⟨.ref p', rfl, p', dy, _, rfl, e1 _ _ h0', rfl, p', R', B', T', rfl, plan_mono e1 hp', pl', fun q2 H2 e2 d2 => ?_⟩
    exact ⟨planD R B Td, planD R' B' T', dpM e2 d1, d2, plan_shaped pl, plan_shaped pl', q H2 (e1.trans e2)⟩
end
end KW
end
section
set_option Elab.async false
set_option linter.all false
set_option autoImplicit false
set_option maxRecDepth 100000
set_option maxHeartbeats 1000000
/-! data, plans, as words -/
namespace KW
open PySem PySem.Spec PyProof.Rows L2 He KR Evl
section
variable {K : PySem.W.Frag}
def EvDp (K : PySem.W.Frag) (te : TE) (σ : L2.St) (H : Hp) (d : PyData) : Prop := ∀ H1, Ex H H1 → ∀ Q : VK, (∀ v H2, Ex H1 H2 → Dp K H2 v d → Q v H2) → te σ H1 Q
end
section
variable {K : PySem.W.Frag}
def EvDA (K : PySem.W.Frag) (ta : TA) (σ : L2.St) (H : Hp) (ds : List PyData) : Prop := ∀ H1, Ex H H1 → ∀ Q : List V → Hp → Prop, (∀ vs H2, Ex H1 H2 → DpAll K H2 vs ds → Q vs H2) → ta σ H1 Q
end
section
variable {K : PySem.W.Frag}
variable {σ : L2.St} {H H' : Hp} {te : TE} {ta tk : TA} {d : PyData} {ds : List PyData}
theorem EvDp.mono (e : Ex H H') (h : EvDp K te σ H d) : EvDp K te σ H' d := fun H1 a Q q => h H1 (e.trans a) Q q
end
section
variable {K : PySem.W.Frag}
variable {σ : L2.St} {H H' : Hp} {te : TE} {ta tk : TA} {d : PyData} {ds : List PyData}
theorem eda_nil : EvDA K tNil σ H [] := fun H1 _ Q q => q [] H1 (Ex.refl _) .nil
end
section
variable {K : PySem.W.Frag}
variable {σ : L2.St} {H H' : Hp} {te : TE} {ta tk : TA} {d : PyData} {ds : List PyData}
theorem eda_cons (h : EvDp K te σ H d) (h2 : EvDA K ta σ H ds) : EvDA K (tCons te ta) σ H (d :: ds) := fun H1 e Q q =>
  h H1 e _ fun v H2 e2 hv => h2 H2 (e.trans e2) _ fun vs H3 e3 hvs => q (v :: vs) H3 (e2.trans e3) (.cons (dpM e3 hv) hvs)
end
section
variable {K : PySem.W.Frag}
variable {σ : L2.St} {H H' : Hp} {te : TE} {ta tk : TA} {d : PyData} {ds : List PyData}
theorem edp_lst (h : EvDA K ta σ H ds) (hl : ds.length ≤ 100000) : EvDp K (tLst ta) σ H (.list ds) := fun H1 e Q q =>
  h H1 e _ fun vs H2 e2 hvs => ⟨sz_of (by rw [dpLen hvs]; exact hl), fun p hp => q (.ref p) _ (e2.trans (Ex.new hp)) (.lst (sq_of upd_same) (daM (Ex.new hp) hvs))⟩
end
section
variable {K : PySem.W.Frag}
variable {σ : L2.St} {H H' : Hp} {te : TE} {ta tk : TA} {d : PyData} {ds : List PyData}
theorem edp_tup (h : EvDA K ta σ H ds) (hl : ds.length ≤ 100000) : EvDp K (tTup ta) σ H (.tuple ds) := fun H1 e Q q =>
  h H1 e _ fun vs H2 e2 hvs => ⟨sz_of (by rw [dpLen hvs]; exact hl), fun p hp => q (.ref p) _ (e2.trans (Ex.new hp)) (.tup (st_of upd_same) (daM (Ex.new hp) hvs))⟩
end
section
variable {K : PySem.W.Frag}
variable {σ : L2.St} {H H' : Hp} {te : TE} {ta tk : TA} {d : PyData} {ds : List PyData}
theorem edp_ev {v : V} (h : Ev te σ H v) (hd : Dp K H v d) : EvDp K te σ H d := fun H1 e Q q => h H1 e _ fun H2 e2 => q v H2 e2 (dpM (e.trans e2) hd)
end
section
variable {K : PySem.W.Frag}
variable {σ : L2.St} {H H' : Hp} {te : TE} {ta tk : TA} {d : PyData} {ds : List PyData}
theorem edp_str {x : Str} : EvDp K (tC (.str x)) σ H (.str x) := edp_ev ev_c (.str x)
end
section
variable {K : PySem.W.Frag}
variable {σ : L2.St} {H H' : Hp} {te : TE} {ta tk : TA} {d : PyData} {ds : List PyData}
theorem edp_int {x : Int} : EvDp K (tC (.int x)) σ H (.int x) := edp_ev ev_c (.int x)
end
section
variable {K : PySem.W.Frag}
variable {σ : L2.St} {H H' : Hp} {te : TE} {ta tk : TA} {d : PyData} {ds : List PyData}
theorem edp_bl {x : Bool} : EvDp K (tC (.bl x)) σ H (.bool x) := edp_ev ev_c (.bl x)
end
section
variable {K : PySem.W.Frag}
variable {σ : L2.St} {H H' : Hp} {te : TE} {ta tk : TA} {d : PyData} {ds : List PyData}
theorem da5 {vs : List V} {a b c d e : PyData} (h : DpAll K H vs [a, b, c, d, e]) : ∃ n t r u g, vs = [n, t, r, u, g] ∧ DpAll K H [n, r, u, g, t] [a, c, d, e, b] := by
  obtain ⟨v0, _, rfl, h0, h⟩ := dpC h
  obtain ⟨v1, _, rfl, h1, h⟩ := dpC h
  obtain ⟨v2, _, rfl, h2, h⟩ := dpC h
  obtain ⟨v3, _, rfl, h3, h⟩ := dpC h
  obtain ⟨v4, _, rfl, h4, h⟩ := dpC h
  obtain rfl := dpN h
  exact ⟨v0, v1, v2, v3, v4, rfl, .cons h0 (.cons h2 (.cons h3 (.cons h4 (.cons h1 .nil))))⟩
end
section
variable {K : PySem.W.Frag}
variable {σ : L2.St} {H H' : Hp} {te : TE} {ta tk : TA} {d : PyData} {ds : List PyData}
def EvP (K : PySem.W.Frag) (te : TE) (σ : L2.St) (H : Hp) (R B T : List PyData) : Prop := ∀ H1, Ex H H1 → ∀ Q : VK, (∀ x H2, Ex H1 H2 → PlanAt K H2 x R B T → Q (.ref x) H2) → te σ H1 Q
end
section
variable {K : PySem.W.Frag} {σ : L2.St} {H H' : Hp} {te tf tr : TE} {ta tk : TA} {d e : PyData} {ds : List PyData}
theorem eqv_self {d : PyData} (h : SeqAt.shaped d = true) : PyData.eqv d d = true := SeqAt.eqv_refl d (SeqAt.canLay_of_shaped h)
end
section
variable {K : PySem.W.Frag} {σ : L2.St} {H H' : Hp} {te tf tr : TE} {ta tk : TA} {d e : PyData} {ds : List PyData}
theorem edp_eqD (h1 : EvDp K te σ H d) (h2 : EvDp K tf σ H e) (s1 : SeqAt.shaped d = true) (s2 : SeqAt.shaped e = true) : Ev (tOp (rEqD K) te tf) σ H (.bl (PyData.eqv d e)) := fun H1 a Q q =>
  h1 H1 a _ fun v H2 e2 hv => h2 H2 (a.trans e2) _ fun u H3 e3 hu => ⟨d, e, dpM e3 hv, hu, s1, s2, q H3 (e2.trans e3)⟩
end
section
variable {K : PySem.W.Frag} {σ : L2.St} {H H' : Hp} {te tf tr : TE} {ta tk : TA} {d e : PyData} {ds : List PyData}
theorem edp_neD (h1 : EvDp K te σ H d) (h2 : EvDp K tf σ H e) (s1 : SeqAt.shaped d = true) (s2 : SeqAt.shaped e = true) : Ev (tOp (rNeD K) te tf) σ H (.bl (!PyData.eqv d e)) := fun H1 a Q q =>
  h1 H1 a _ fun v H2 e2 hv => h2 H2 (a.trans e2) _ fun u H3 e3 hu => ⟨d, e, dpM e3 hv, hu, s1, s2, q H3 (e2.trans e3)⟩
end
section
variable {K : PySem.W.Frag} {σ : L2.St} {H H' : Hp} {te tf tr : TE} {ta tk : TA} {d e : PyData} {ds : List PyData}
theorem edp_len (h : EvDp K te σ H (.list ds)) : Ev (tCB (fun xs H Q => ∃ p ys, xs = [.ref p] ∧ (SqL K H p ys ∨ SqT K H p ys) ∧ Q (.int ys.length) H) (tCons te tNil)) σ H (.int (ds.length : Int)) := fun H1 a Q q =>
  h H1 a _ fun v H2 e2 hv => by
    obtain ⟨p, xs, rfl, hx, hd⟩ := dpL hv
    exact ⟨p, xs, rfl, .inl hx, by rw [dpLen hd]; exact q H2 e2⟩
end
section
variable {K : PySem.W.Frag} {σ : L2.St} {H H' : Hp} {te tf tr : TE} {ta tk : TA} {d e : PyData} {ds : List PyData}
theorem evp_eq {neg : Bool} {R B T : List PyData} (h1 : EvP K te σ H R B T) (h2 : EvP K tf σ H R B T) (pl : PlanP R B T) : Ev (tOp (rOwn (g_Plan K) (spPlanEq K) neg) te tf) σ H (.bl (!neg)) := fun H1 a Q q =>
  h1 H1 a _ fun x H2 e2 hx => h2 H2 (a.trans e2) _ fun y H3 e3 hy => by
    have hx3 := plan_mono e3 hx
    obtain ⟨dx, _, _, _, _, _, _, h0, _⟩ := id hx3
    obtain ⟨dy, _, _, _, _, _, _, h0', _⟩ := id hy
    refine ⟨x, y, dx, dy, _, _, rfl, rfl, h0, h0', x, y, R, B, T, R, B, T, rfl, ⟨hx3, pl⟩, ⟨hy, pl⟩, fun H4 e4 => ⟨_, rfl, ?_⟩⟩
    rw [show PyData.eqv (planD R B T) (planD R B T) = true from eqv_self (plan_shaped pl)]
    cases neg <;> exact q H4 ((e2.trans e3).trans e4)
end
end KW
end
section
set_option Elab.async false
set_option linter.all false
set_option autoImplicit false
set_option maxRecDepth 100000
set_option maxHeartbeats 2000000
/-! the law's rows that are none, walked -/
namespace KW
open PySem PySem.Spec PyProof.Rows L2 He KR Evl
local macro_rules
  | `(tactic| walk_at "na") => `(tactic| with_reducible (first | exact cl_Line (by assumption) | exact cl_Job (by assumption) | exact cl_Engine (by assumption) | exact cl_Plan (by assumption) | exact cl_Run (by assumption) | exact cl_Bench (by assumption) | exact na_Line_name (by assumption) | exact na_Line_rank (by assumption) | exact na_Line_is_up (by assumption) | exact na_Line_guard (by assumption) | exact na_Line_top (by assumption) | exact na_Line_let_by (by assumption) | exact na_Line_shut_till (by assumption) | exact na_Line_since (by assumption) | exact na_Line_fresh (by assumption) | exact na_Line_counts (by assumption) | exact na_Line_longest (by assumption) | exact na_Job_word (by assumption) | exact na_Job_name (by assumption) | exact na_Job_rank (by assumption) | exact na_Job_steps (by assumption) | exact na_Job_masks_then (by assumption) | exact na_Job_at (by assumption) | exact na_Job_left (by assumption) | exact na_Engine_plan (by assumption) | exact na_Engine_ways (by assumption) | exact na_Engine_tops (by assumption) | exact na_Engine_bottom (by assumption) | exact na_Engine_put_off (by assumption) | exact na_Engine_woken (by assumption) | exact na_Engine_begun (by assumption) | exact na_Engine_depth (by assumption) | exact na_Engine_now (by assumption) | exact na_Engine_row (by assumption) | exact na_Engine_depths (by assumption) | exact na_Engine_last_begun (by assumption) | exact na_Plan_row (by assumption) | exact na_Plan_low (by assumption) | exact na_Plan_late (by assumption) | exact na_Run_row (by assumption) | exact na_Run_depths (by assumption) | exact na_Run_table (by assumption) | exact na_Run_longest (by assumption) | exact na_Bench_engine (by assumption) | exact na_Bench_fresh (by assumption) | exact na_Bench_told_so_far (by assumption) | exact na_Bench_rows (by assumption)))
local macro_rules
  | `(tactic| walk_at "oi") => `(tactic| first | assumption | exact oi2 0 (by assumption) rfl | exact oi2 1 (by assumption) rfl | exact oi2 2 (by assumption) rfl | exact oi2 3 (by assumption) rfl | exact oi2 4 (by assumption) rfl | exact oi2 5 (by assumption) rfl | exact oi2 6 (by assumption) rfl | exact oi2 7 (by assumption) rfl | exact oi2 8 (by assumption) rfl)
local macro_rules
  | `(tactic| walk_at "ev") => `(tactic| repeat' (first
    | exact ev_c | exact ev_var rfl | exact ea_nil | exact rv_I0 | exact ru_neg | exact eo_none
    | exact rv_eq rfl | exact rv_ne rfl
    | exact rv_ixT (by assumption) (by rfl) | exact rv_ixL (by assumption) (by rfl)
    | exact sv_q (by assumption) (by assumption) | exact sv_within (by assumption)
    | exact Or.inr (by assumption) | exact Or.inl (by assumption) | (show (_ : String) ∈ _; decide)
    | with_reducible (first | apply ev_isi | apply ev_lenS | apply ev_if' | apply et_test | apply et_B | apply et_not | apply et_and | apply et_or | apply ev_andV | apply ev_orV | apply ev_notV | apply ea_cons | apply eo_some | apply ev_fl | apply ev_op | apply ev_un | apply ev_call)
    | walk_at "na" | walk_at "oi" | (show List.lookup _ _ = _; rfl)
    | assumption
    | (with_reducible intro hh; first | exact absurd (show true = false from hh) (by decide) | exact absurd (show false = true from hh) (by decide) | clear hh)))

section
variable {P : Program} {w : World} {K : PySem.W.Frag} {mg : Str → Option Value} {base : Heap}
theorem sc_law_bad_lines : FnScope ["_law_found"] [] (defScope s_law_bad_lines) := ⟨rfl, rfl, rfl, by decide +kernel, rfl, by decide +kernel, by decide +kernel⟩
theorem sc_law_bad_others : FnScope ["_law_found"] [] (defScope s_law_bad_others) := ⟨rfl, rfl, rfl, by decide +kernel, rfl, by decide +kernel, by decide +kernel⟩
theorem el_txt {te : TE} {tb : TA} {σ : L2.St} {H : Hp} {p : Addr} {ys zs : List Str} (ha : Ev te σ H (.ref p)) (hp : H p = some (.lst (ys.map V.str))) (hb : EvA tb σ H (zs.map V.str)) (hz : ys.length + zs.length ≤ 1000) : EvL (tOp rCat te (tLst tb)) σ H ((ys ++ zs).map V.str) := by
  rw [List.map_append]
  exact el_catS ha hp (el_lst hb (by rw [List.length_map]; omega)) (by rw [List.length_map, List.length_map]; omega)
theorem flat_rep {α : Type} (x : α) : ∀ n : Nat, (List.replicate n [x]).flatten = List.replicate n x
  | 0 => rfl
  | n + 1 => by rw [List.replicate_succ, List.flatten_cons, flat_rep x n, List.replicate_succ]; rfl
theorem el_repV {te tf : TE} {σ : L2.St} {H : Hp} {v : V} {k : Nat} (h : Ev te σ H v) (h2 : Ev tf σ H (.int (k : Int))) (hk : k ≤ 100000) : EvL (tOp rRep (tLst (tCons te tNil)) tf) σ H (List.replicate k v) := fun H1 e Q q =>
  h H1 e _ fun H2 e2 => ⟨by show 1 ≤ sizeLine; rw [sizeLine_eq]; decide, fun p np => (h2.mono (e.trans e2)) _ (Ex.new (o := .lst [v]) np) _ fun H3 e3 => by
    refine ⟨p, (k : Int), [v], rfl, rfl, e3 _ _ upd_same, by omega, by omega, ?_, fun r nr => ?_⟩
    · rw [Int.toNat_natCast, sizeLine_eq]
      show 1 * k ≤ _
      omega
    · rw [Int.toNat_natCast, flat_rep]
      have e4 : Ex H2 H3 := (Ex.new (o := .lst [v]) np).trans e3
      exact q r _ (fresh_back (e2.trans e4) nr) ((e2.trans e4).trans (Ex.new nr)) upd_same⟩
def rCatSt : R2 := fun x y H Q => ∃ i j, x = .str i ∧ y = .str j ∧ i.length + j.length ≤ sizeLine ∧ Q (.str (i ++ j)) H
theorem ev_addS {te tf : TE} {σ : L2.St} {H : Hp} {x y : Str} (h1 : Ev te σ H (.str x)) (h2 : Ev tf σ H (.str y)) (hz : x.length + y.length ≤ 100000) : Ev (tOp rCatSt te tf) σ H (.str (x ++ y)) :=
  ev_op h1 h2 fun H1 _ Q q => ⟨x, y, rfl, rfl, sz_of hz, q H1 (Ex.refl _)⟩
theorem long_eq : Str.ofString "line e 1 up 1 1 1: " ++ Txt.join (Str.ofString ", ") (List.replicate 13 (Str.ofString "run 1")) = longS := by decide +kernel
theorem long_sz : (Str.ofString "line e 1 up 1 1 1: ").length + (Txt.join (Str.ofString ", ") (List.replicate 13 (Str.ofString "run 1"))).length ≤ 100000 ∧ ((List.replicate 13 (Str.ofString "run 1")).map (·.length)).sum + (List.replicate 13 (Str.ofString "run 1")).length * (Str.ofString ", ").length ≤ 16777216 := by decide +kernel
theorem q_set1 {tb : TA} {tz : TS} {D : Ends} {H : Hp} {zs : List Str} (hb : EvA tb [none] H (zs.map V.str)) (hz : zs.length ≤ 1000) (k : ∀ r H1, H r = none → Ex H H1 → H1 r = some (.lst (zs.map V.str)) → tz D [some (.ref r)] H1) : tSeq (tAsg (tLst tb) (gName 0)) tz D [none] H :=
  q_asgL (el_lst hb (by rw [List.length_map]; omega)) k
theorem q_cat1 {tb : TA} {tz : TS} {D : Ends} {H : Hp} {p : Addr} {ys zs : List Str} (hp : H p = some (.lst (ys.map V.str))) (hb : EvA tb [some (.ref p)] H (zs.map V.str)) (hz : ys.length + zs.length ≤ 1000) (k : ∀ r H1, H r = none → Ex H H1 → H1 r = some (.lst ((ys ++ zs).map V.str)) → tz D [some (.ref r)] H1) : tSeq (tAsg (tOp rCat (tVar 0) (tLst tb)) (gName 0)) tz D [some (.ref p)] H :=
  q_asgL (el_txt (ev_var rfl) hp hb hz) k
theorem q_app1 {tz : TS} {D : Ends} {H0 H : Hp} {p : Addr} {ys : List Str} {x : Str} (np : H0 p = none) (e : Ex H0 H) (hp : H p = some (.lst (ys.map V.str))) (hz : ys.length ≤ 1000) (k : ∀ H1, Ex H0 H1 → H1 p = some (.lst ((ys ++ [x]).map V.str)) → tz D [some (.ref p)] H1) : tSeq (tDrop (tBM K "list" rAppend (tVar 0) (tCons (tC (V.str x)) tNil))) tz D [some (.ref p)] H :=
  q_appO (own_add (Own.nil (Same.refl _)) e np hp) 0 rfl (ev_var rfl) ev_c (by rw [List.length_map]; omega) fun H1 o => k H1 o.sub (by rw [List.map_append]; exact oi2 0 o rfl)
theorem r_cat1 {tb : TA} {D : Ends} {H : Hp} {p : Addr} {ys zs : List Str} (hp : H p = some (.lst (ys.map V.str))) (hb : EvA tb [some (.ref p)] H (zs.map V.str)) (hz : ys.length + zs.length ≤ 1000) (k : ∀ r H1, H r = none → Ex H H1 → H1 r = some (.lst ((ys ++ zs).map V.str)) → D.rt (.ref r) H1) : tRet (tOp rCat (tVar 0) (tLst tb)) D [some (.ref p)] H :=
  s_retL (el_txt (ev_var rfl) hp hb hz) k
def spRowsBad (zs : List Str) : Sp := fun vs H Q _ => vs = [] ∧ ∀ p H', H p = none → Ex H H' → H' p = some (.lst (zs.map V.str)) → Q (.ref p) H'

theorem ok_law_bad_lines (T : Txt w K mg) : FnOk P w K mg base CX0 1 (f_law_bad_lines K) (fdAt K (f_law_bad_lines K)) [] (spRowsBad blAll) := by
  refine (df_law_bad_lines T).ok sc_law_bad_lines (fun vs H Q E h => ?_) (fun cdv A outer s H vs Q E hr h => ?_)
  · obtain ⟨rfl, _⟩ := h
    rfl
  · obtain ⟨rfl, q⟩ := h
    refine ⟨_, PSs.nox ((pss_cons (ps_set (i := 0) sc_law_bad_lines.nd rfl (Or.inl rfl) (pe_lst (pa_cons pe_str (pa_cons pe_str (pa_cons pe_str (pa_cons pe_str (pa_cons pe_str (pa_cons pe_str pa_nil))))))))
      (pss_cons (ps_set (i := 0) sc_law_bad_lines.nd rfl (Or.inl rfl) ((pe_op op_cat (pv 0) (pe_lst (pa_cons pe_str (pa_cons pe_str pa_nil))))))
      (pss_cons (ps_set (i := 0) sc_law_bad_lines.nd rfl (Or.inl rfl) ((pe_op op_cat (pv 0) (pe_lst (pa_cons pe_str (pa_cons pe_str pa_nil))))))
      (pss_cons (ps_set (i := 0) sc_law_bad_lines.nd rfl (Or.inl rfl) ((pe_op op_cat (pv 0) (pe_lst (pa_cons pe_str (pa_cons pe_str pa_nil))))))
      (pss_cons (ps_set (i := 0) sc_law_bad_lines.nd rfl (Or.inl rfl) ((pe_op op_cat (pv 0) (pe_lst (pa_cons pe_str (pa_cons pe_str pa_nil))))))
      (pss_cons (ps_set (i := 0) sc_law_bad_lines.nd rfl (Or.inl rfl) ((pe_op op_cat (pv 0) (pe_lst (pa_cons pe_str (pa_cons pe_str pa_nil))))))
      (pss_cons (ps_set (i := 0) sc_law_bad_lines.nd rfl (Or.inl rfl) ((pe_op op_cat (pv 0) (pe_lst (pa_cons pe_str (pa_cons pe_str pa_nil))))))
      (pss_cons (ps_set (i := 0) sc_law_bad_lines.nd rfl (Or.inl rfl) ((pe_op op_cat (pv 0) (pe_lst (pa_cons pe_str (pa_cons pe_str pa_nil))))))
      (pss_cons (ps_set (i := 0) sc_law_bad_lines.nd rfl (Or.inl rfl) ((pe_op op_cat (pv 0) (pe_lst (pa_cons pe_str (pa_cons pe_str pa_nil))))))
      (pss_cons (ps_set (i := 0) sc_law_bad_lines.nd rfl (Or.inl rfl) ((pe_op op_cat (pv 0) (pe_lst (pa_cons pe_str (pa_cons pe_str pa_nil))))))
      (pss_cons (ps_set (i := 0) sc_law_bad_lines.nd rfl (Or.inl rfl) ((pe_op op_cat (pv 0) (pe_lst (pa_cons pe_str (pa_cons pe_str pa_nil))))))
      (pss_cons (ps_set (i := 0) sc_law_bad_lines.nd rfl (Or.inl rfl) ((pe_op op_cat (pv 0) (pe_lst (pa_cons pe_str (pa_cons pe_str pa_nil))))))
      (pss_cons (ps_set (i := 0) sc_law_bad_lines.nd rfl (Or.inl rfl) ((pe_op op_cat (pv 0) (pe_lst (pa_cons pe_str (pa_cons pe_str pa_nil))))))
      (pss_cons (ps_set (i := 0) sc_law_bad_lines.nd rfl (Or.inl rfl) ((pe_op op_cat (pv 0) (pe_lst (pa_cons pe_str (pa_cons pe_str pa_nil))))))
      (pss_cons (ps_set (i := 0) sc_law_bad_lines.nd rfl (Or.inl rfl) ((pe_op op_cat (pv 0) (pe_lst (pa_cons pe_str (pa_cons pe_str pa_nil))))))
      (pss_cons (ps_set (i := 0) sc_law_bad_lines.nd rfl (Or.inl rfl) ((pe_op op_cat (pv 0) (pe_lst (pa_cons pe_str (pa_cons pe_str pa_nil))))))
      (pss_cons (ps_set (i := 0) sc_law_bad_lines.nd rfl (Or.inl rfl) ((pe_op op_cat (pv 0) (pe_lst (pa_cons pe_str (pa_cons pe_str pa_nil))))))
      (pss_cons (ps_set (i := 0) sc_law_bad_lines.nd rfl (Or.inl rfl) ((pe_op op_cat (pv 0) (pe_lst (pa_cons pe_str (pa_cons pe_str pa_nil))))))
      (pss_cons (ps_set (i := 0) sc_law_bad_lines.nd rfl (Or.inl rfl) ((pe_op op_cat (pv 0) (pe_lst (pa_cons pe_str (pa_cons pe_str pa_nil))))))
      (pss_cons (ps_set (i := 0) sc_law_bad_lines.nd rfl (Or.inl rfl) ((pe_op op_cat (pv 0) (pe_lst (pa_cons pe_str pa_nil)))))
      (pss_cons (ps_expr (pe_bm PySem.F.plainAttrs_list PySem.F.slot_list_append PySem.F.type_list_append mt_append (pv 0) (pa_cons pe_str pa_nil)))
      (pss_cons (ps_set (i := 0) sc_law_bad_lines.nd rfl (Or.inl rfl) ((pe_op op_cat (pv 0) (pe_lst (pa_cons pe_str (pa_cons pe_str pa_nil))))))
      (pss_cons (ps_set (i := 0) sc_law_bad_lines.nd rfl (Or.inl rfl) ((pe_op op_cat (pv 0) (pe_lst (pa_cons pe_str pa_nil)))))
      (pss_cons (ps_set (i := 0) sc_law_bad_lines.nd rfl (Or.inl rfl) ((pe_op op_cat (pv 0) (pe_lst (pa_cons pe_str (pa_cons pe_str pa_nil))))))
      (pss_cons (ps_set (i := 0) sc_law_bad_lines.nd rfl (Or.inl rfl) ((pe_op op_cat (pv 0) (pe_lst (pa_cons pe_str (pa_cons pe_str pa_nil))))))
      (pss_one (ps_ret ((pe_op op_cat (pv 0) (pe_lst (pa_cons ((pe_op op_add_str pe_str (pe_joinK (K := K) rfl pe_str ((pe_op op_rep (pe_lst (pa_cons pe_str pa_nil)) pe_int))))) (pa_cons pe_str (pa_cons pe_str (pa_cons pe_str pa_nil))))))))))))))))))))))))))))))))))), ?_⟩
    have long : ∀ {σ : L2.St} {H1 : Hp}, Ev (tOp rCatSt (tC (V.str (Str.ofString "line e 1 up 1 1 1: "))) (tM1 (fun x xs H Q => ∃ a p, ∃ ys : List Str, x = .str a ∧ xs = [.ref p] ∧ (SqL K H p (ys.map V.str) ∨ SqT K H p (ys.map V.str)) ∧ (ys.map (·.length)).sum + ys.length * a.length ≤ 16777216 ∧ Q (.str (Txt.join a ys)) H) (tC (V.str (Str.ofString ", "))) (tOp rRep (tLst (tCons (tC (V.str (Str.ofString "run 1"))) tNil)) (tC (V.int 13))))) σ H1 (.str longS) := fun {σ H1} => by
      have z : EvL (tOp rRep (tLst (tCons (tC (V.str (Str.ofString "run 1"))) tNil)) (tC (V.int 13))) σ H1 ((List.replicate 13 (Str.ofString "run 1")).map V.str) := by
        rw [List.map_replicate]
        exact el_repV ev_c ev_c (by decide)
      have z2 := ev_addS (σ := σ) (H := H1) (te := tC (V.str (Str.ofString "line e 1 up 1 1 1: "))) ev_c (ev_join (K := K) (to := tC (V.str (Str.ofString ", "))) ev_c z long_sz.2) long_sz.1
      rw [long_eq] at z2
      exact z2
    refine q_set1 (zs := bl0) (ea_cons ev_c (ea_cons ev_c (ea_cons ev_c (ea_cons ev_c (ea_cons ev_c (ea_cons ev_c ea_nil)))))) (by decide +kernel) fun p0 H0 np0 y0 h0 => ?_
    refine q_cat1 (ys := bl0) (zs := (["line e 1 up 1 1 1: ", "line e 1 up 1 1 1 run 1"] : List Str)) h0 (ea_cons ev_c (ea_cons ev_c ea_nil)) (by decide +kernel) fun p1 H1 np1 x1 h1 => ?_
    have h1 : H1 p1 = some (.lst (bl1.map V.str)) := h1
    have y1 := y0.trans x1
    have np1 := fresh_back y0 np1
    refine q_cat1 (ys := bl1) (zs := (["Line e 1 up 1 1 1: run 1", "line e 1 up 1 1 1:run 1"] : List Str)) h1 (ea_cons ev_c (ea_cons ev_c ea_nil)) (by decide +kernel) fun p2 H2 np2 x2 h2 => ?_
    have h2 : H2 p2 = some (.lst (bl2.map V.str)) := h2
    have y2 := y1.trans x2
    have np2 := fresh_back y1 np2
    refine q_cat1 (ys := bl2) (zs := (["line  e 1 up 1 1 1: run 1", " line e 1 up 1 1 1: run 1"] : List Str)) h2 (ea_cons ev_c (ea_cons ev_c ea_nil)) (by decide +kernel) fun p3 H3 np3 x3 h3 => ?_
    have h3 : H3 p3 = some (.lst (bl3.map V.str)) := h3
    have y3 := y2.trans x3
    have np3 := fresh_back y2 np3
    refine q_cat1 (ys := bl3) (zs := (["line e 1 up 1 1: run 1", "line e 1 up 1 1 1 1: run 1"] : List Str)) h3 (ea_cons ev_c (ea_cons ev_c ea_nil)) (by decide +kernel) fun p4 H4 np4 x4 h4 => ?_
    have h4 : H4 p4 = some (.lst (bl4.map V.str)) := h4
    have y4 := y3.trans x4
    have np4 := fresh_back y3 np4
    refine q_cat1 (ys := bl4) (zs := (["line e 1 down 1 1 1: run 1", "line e 1 True 1 1 1: run 1"] : List Str)) h4 (ea_cons ev_c (ea_cons ev_c ea_nil)) (by decide +kernel) fun p5 H5 np5 x5 h5 => ?_
    have h5 : H5 p5 = some (.lst (bl5.map V.str)) := h5
    have y5 := y4.trans x5
    have np5 := fresh_back y4 np5
    refine q_cat1 (ys := bl5) (zs := (["line e 0 up 1 1 1: run 1", "line e 100 up 1 1 1: run 1"] : List Str)) h5 (ea_cons ev_c (ea_cons ev_c ea_nil)) (by decide +kernel) fun p6 H6 np6 x6 h6 => ?_
    have h6 : H6 p6 = some (.lst (bl6.map V.str)) := h6
    have y6 := y5.trans x6
    have np6 := fresh_back y5 np6
    refine q_cat1 (ys := bl6) (zs := (["line e 01 up 1 1 1: run 1", "line e -1 up 1 1 1: run 1"] : List Str)) h6 (ea_cons ev_c (ea_cons ev_c ea_nil)) (by decide +kernel) fun p7 H7 np7 x7 h7 => ?_
    have h7 : H7 p7 = some (.lst (bl7.map V.str)) := h7
    have y7 := y6.trans x7
    have np7 := fresh_back y6 np7
    refine q_cat1 (ys := bl7) (zs := (["line e 1 up 0 1 1: run 1", "line e 1 up 10 1 1: run 1"] : List Str)) h7 (ea_cons ev_c (ea_cons ev_c ea_nil)) (by decide +kernel) fun p8 H8 np8 x8 h8 => ?_
    have h8 : H8 p8 = some (.lst (bl8.map V.str)) := h8
    have y8 := y7.trans x8
    have np8 := fresh_back y7 np8
    refine q_cat1 (ys := bl8) (zs := (["line e 1 up 1 0 1: run 1", "line e 1 up 1 61 1: run 1"] : List Str)) h8 (ea_cons ev_c (ea_cons ev_c ea_nil)) (by decide +kernel) fun p9 H9 np9 x9 h9 => ?_
    have h9 : H9 p9 = some (.lst (bl9.map V.str)) := h9
    have y9 := y8.trans x9
    have np9 := fresh_back y8 np9
    refine q_cat1 (ys := bl9) (zs := (["line e 1 up 1 1 0: run 1", "line e 1 up 1 1 61: run 1"] : List Str)) h9 (ea_cons ev_c (ea_cons ev_c ea_nil)) (by decide +kernel) fun p10 H10 np10 x10 h10 => ?_
    have h10 : H10 p10 = some (.lst (bl10.map V.str)) := h10
    have y10 := y9.trans x10
    have np10 := fresh_back y9 np10
    refine q_cat1 (ys := bl10) (zs := (["line E 1 up 1 1 1: run 1", "line abcdefghi 1 up 1 1 1: run 1"] : List Str)) h10 (ea_cons ev_c (ea_cons ev_c ea_nil)) (by decide +kernel) fun p11 H11 np11 x11 h11 => ?_
    have h11 : H11 p11 = some (.lst (bl11.map V.str)) := h11
    have y11 := y10.trans x11
    have np11 := fresh_back y10 np11
    refine q_cat1 (ys := bl11) (zs := (["line e 1 up 1 1 1: run 0", "line e 1 up 1 1 1: run 10"] : List Str)) h11 (ea_cons ev_c (ea_cons ev_c ea_nil)) (by decide +kernel) fun p12 H12 np12 x12 h12 => ?_
    have h12 : H12 p12 = some (.lst (bl12.map V.str)) := h12
    have y12 := y11.trans x12
    have np12 := fresh_back y11 np12
    refine q_cat1 (ys := bl12) (zs := (["line e 1 up 1 1 1: run 01", "line e 1 up 1 1 1: run"] : List Str)) h12 (ea_cons ev_c (ea_cons ev_c ea_nil)) (by decide +kernel) fun p13 H13 np13 x13 h13 => ?_
    have h13 : H13 p13 = some (.lst (bl13.map V.str)) := h13
    have y13 := y12.trans x13
    have np13 := fresh_back y12 np13
    refine q_cat1 (ys := bl13) (zs := (["line e 1 up 1 1 1: run 1 1", "line e 1 up 1 1 1: run  1"] : List Str)) h13 (ea_cons ev_c (ea_cons ev_c ea_nil)) (by decide +kernel) fun p14 H14 np14 x14 h14 => ?_
    have h14 : H14 p14 = some (.lst (bl14.map V.str)) := h14
    have y14 := y13.trans x14
    have np14 := fresh_back y13 np14
    refine q_cat1 (ys := bl14) (zs := (["line e 1 up 1 1 1: run 1,", "line e 1 up 1 1 1: run 1 "] : List Str)) h14 (ea_cons ev_c (ea_cons ev_c ea_nil)) (by decide +kernel) fun p15 H15 np15 x15 h15 => ?_
    have h15 : H15 p15 = some (.lst (bl15.map V.str)) := h15
    have y15 := y14.trans x15
    have np15 := fresh_back y14 np15
    refine q_cat1 (ys := bl15) (zs := (["line e 1 up 1 1 1: run 1,run 1", "line e 1 up 1 1 1: run 1,  run 1"] : List Str)) h15 (ea_cons ev_c (ea_cons ev_c ea_nil)) (by decide +kernel) fun p16 H16 np16 x16 h16 => ?_
    have h16 : H16 p16 = some (.lst (bl16.map V.str)) := h16
    have y16 := y15.trans x16
    have np16 := fresh_back y15 np16
    refine q_cat1 (ys := bl16) (zs := (["line e 1 up 1 1 1: mask", "line e 1 up 1 1 1: open"] : List Str)) h16 (ea_cons ev_c (ea_cons ev_c ea_nil)) (by decide +kernel) fun p17 H17 np17 x17 h17 => ?_
    have h17 : H17 p17 = some (.lst (bl17.map V.str)) := h17
    have y17 := y16.trans x17
    have np17 := fresh_back y16 np17
    refine q_cat1 (ys := bl17) (zs := (["line e 1 up 1 1 1: open, run 1", "line e 1 up 1 1 1: mask 1, run 1"] : List Str)) h17 (ea_cons ev_c (ea_cons ev_c ea_nil)) (by decide +kernel) fun p18 H18 np18 x18 h18 => ?_
    have h18 : H18 p18 = some (.lst (bl18.map V.str)) := h18
    have y18 := y17.trans x18
    have np18 := fresh_back y17 np18
    refine q_cat1 (ys := bl18) (zs := (["line e 1 up 1 1 1: mask, open, open, run 1"] : List Str)) h18 (ea_cons ev_c ea_nil) (by decide +kernel) fun p19 H19 np19 x19 h19 => ?_
    have h19 : H19 p19 = some (.lst (bl19.map V.str)) := h19
    have y19 := y18.trans x19
    have np19 := fresh_back y18 np19
    refine q_app1 (ys := bl19) np19 y19 h19 (by decide +kernel) fun H20 y20 h20 => ?_
    have h20 : H20 p19 = some (.lst (bl20.map V.str)) := h20
    have p20 := p19
    have np20 := np19
    refine q_cat1 (ys := bl20) (zs := (["line e 1 up 1 1 1: answer, run 1", "line e 1 up 1 1 1: answer E, run 1"] : List Str)) h20 (ea_cons ev_c (ea_cons ev_c ea_nil)) (by decide +kernel) fun p21 H21 np21 x21 h21 => ?_
    have h21 : H21 p21 = some (.lst (bl21.map V.str)) := h21
    have y21 := y20.trans x21
    have np21 := fresh_back y20 np21
    refine q_cat1 (ys := bl21) (zs := (["line e 1 up 1 1 1: jump a, run 1"] : List Str)) h21 (ea_cons ev_c ea_nil) (by decide +kernel) fun p22 H22 np22 x22 h22 => ?_
    have h22 : H22 p22 = some (.lst (bl22.map V.str)) := h22
    have y22 := y21.trans x22
    have np22 := fresh_back y21 np22
    refine q_cat1 (ys := bl22) (zs := (["line a 1 up 1 1 1: run 1", "line e 5 up 1 1 1: run 1"] : List Str)) h22 (ea_cons ev_c (ea_cons ev_c ea_nil)) (by decide +kernel) fun p23 H23 np23 x23 h23 => ?_
    have h23 : H23 p23 = some (.lst (bl23.map V.str)) := h23
    have y23 := y22.trans x23
    have np23 := fresh_back y22 np23
    refine q_cat1 (ys := bl23) (zs := (["line e 1 up 1 1 1: run 1: run 1", "line e 1 up 1 1 1: run one"] : List Str)) h23 (ea_cons ev_c (ea_cons ev_c ea_nil)) (by decide +kernel) fun p24 H24 np24 x24 h24 => ?_
    have h24 : H24 p24 = some (.lst (bl24.map V.str)) := h24
    have y24 := y23.trans x24
    have np24 := fresh_back y23 np24
    exact r_cat1 (ys := bl24) (zs := ([longS, "run 1", "bottom b", "plan e 1 up 1 1 1: run 1"] : List Str)) h24 (ea_cons long (ea_cons ev_c (ea_cons ev_c (ea_cons ev_c ea_nil)))) (by decide +kernel) fun p H' np e hp => q p H' (fresh_back y24 np) (y24.trans e) hp
theorem ok_law_bad_others (T : Txt w K mg) : FnOk P w K mg base CX0 1 (f_law_bad_others K) (fdAt K (f_law_bad_others K)) [] (spRowsBad boAll) := by
  refine (df_law_bad_others T).ok sc_law_bad_others (fun vs H Q E h => ?_) (fun cdv A outer s H vs Q E hr h => ?_)
  · obtain ⟨rfl, _⟩ := h
    rfl
  · obtain ⟨rfl, q⟩ := h
    refine ⟨_, PSs.nox ((pss_cons (ps_set (i := 0) sc_law_bad_others.nd rfl (Or.inl rfl) (pe_lst (pa_cons pe_str (pa_cons pe_str (pa_cons pe_str (pa_cons pe_str pa_nil))))))
      (pss_cons (ps_set (i := 0) sc_law_bad_others.nd rfl (Or.inl rfl) ((pe_op op_cat (pv 0) (pe_lst (pa_cons pe_str (pa_cons pe_str (pa_cons pe_str pa_nil)))))))
      (pss_cons (ps_set (i := 0) sc_law_bad_others.nd rfl (Or.inl rfl) ((pe_op op_cat (pv 0) (pe_lst (pa_cons pe_str (pa_cons pe_str (pa_cons pe_str (pa_cons pe_str pa_nil))))))))
      (pss_cons (ps_set (i := 0) sc_law_bad_others.nd rfl (Or.inl rfl) ((pe_op op_cat (pv 0) (pe_lst (pa_cons pe_str (pa_cons pe_str pa_nil))))))
      (pss_cons (ps_set (i := 0) sc_law_bad_others.nd rfl (Or.inl rfl) ((pe_op op_cat (pv 0) (pe_lst (pa_cons pe_str (pa_cons pe_str (pa_cons pe_str pa_nil)))))))
      (pss_one (ps_ret ((pe_op op_cat (pv 0) (pe_lst (pa_cons pe_str (pa_cons pe_str pa_nil))))))))))))), ?_⟩
    refine q_set1 (zs := bo0) (ea_cons ev_c (ea_cons ev_c (ea_cons ev_c (ea_cons ev_c ea_nil)))) (by decide +kernel) fun p0 H0 np0 y0 h0 => ?_
    refine q_cat1 (ys := bo0) (zs := (["bottom e: mask", "bottom E: run 1", "bottom e e: run 1"] : List Str)) h0 (ea_cons ev_c (ea_cons ev_c (ea_cons ev_c ea_nil))) (by decide +kernel) fun p1 H1 np1 x1 h1 => ?_
    have h1 : H1 p1 = some (.lst (bo1.map V.str)) := h1
    have y1 := y0.trans x1
    have np1 := fresh_back y0 np1
    refine q_cat1 (ys := bo1) (zs := (["bottom e: run 1, later", "thread", "thread e: run 1", "thread e 0: run 1"] : List Str)) h1 (ea_cons ev_c (ea_cons ev_c (ea_cons ev_c (ea_cons ev_c ea_nil)))) (by decide +kernel) fun p2 H2 np2 x2 h2 => ?_
    have h2 : H2 p2 = some (.lst (bo2.map V.str)) := h2
    have y2 := y1.trans x2
    have np2 := fresh_back y1 np2
    refine q_cat1 (ys := bo2) (zs := (["thread e 100: run 1", "thread t 9: run 1"] : List Str)) h2 (ea_cons ev_c (ea_cons ev_c ea_nil)) (by decide +kernel) fun p3 H3 np3 x3 h3 => ?_
    have h3 : H3 p3 = some (.lst (bo3.map V.str)) := h3
    have y3 := y2.trans x3
    have np3 := fresh_back y2 np3
    refine q_cat1 (ys := bo3) (zs := (["thread e 3: run 1", "thread e 01: run 1", "thread e 1 1: run 1"] : List Str)) h3 (ea_cons ev_c (ea_cons ev_c (ea_cons ev_c ea_nil))) (by decide +kernel) fun p4 H4 np4 x4 h4 => ?_
    have h4 : H4 p4 = some (.lst (bo4.map V.str)) := h4
    have y4 := y3.trans x4
    have np4 := fresh_back y3 np4
    exact r_cat1 (ys := bo4) (zs := (["thread e 1: open, run 1", "thread e 1: run 1, "] : List Str)) h4 (ea_cons ev_c (ea_cons ev_c ea_nil)) (by decide +kernel) fun p H' np e hp => q p H' (fresh_back y4 np) (y4.trans e) hp
end
end KW
end
section
set_option Elab.async false
set_option linter.all false
set_option autoImplicit false
set_option maxRecDepth 100000
set_option maxHeartbeats 2000000
/-! what the law's own text needs: lists, rows, loops -/
namespace KW
open PySem PySem.Spec PyProof.Rows L2 He KR Evl
local macro_rules
  | `(tactic| walk_at "na") => `(tactic| with_reducible (first | exact cl_Line (by assumption) | exact cl_Job (by assumption) | exact cl_Engine (by assumption) | exact cl_Plan (by assumption) | exact cl_Run (by assumption) | exact cl_Bench (by assumption) | exact na_Line_name (by assumption) | exact na_Line_rank (by assumption) | exact na_Line_is_up (by assumption) | exact na_Line_guard (by assumption) | exact na_Line_top (by assumption) | exact na_Line_let_by (by assumption) | exact na_Line_shut_till (by assumption) | exact na_Line_since (by assumption) | exact na_Line_fresh (by assumption) | exact na_Line_counts (by assumption) | exact na_Line_longest (by assumption) | exact na_Job_word (by assumption) | exact na_Job_name (by assumption) | exact na_Job_rank (by assumption) | exact na_Job_steps (by assumption) | exact na_Job_masks_then (by assumption) | exact na_Job_at (by assumption) | exact na_Job_left (by assumption) | exact na_Engine_plan (by assumption) | exact na_Engine_ways (by assumption) | exact na_Engine_tops (by assumption) | exact na_Engine_bottom (by assumption) | exact na_Engine_put_off (by assumption) | exact na_Engine_woken (by assumption) | exact na_Engine_begun (by assumption) | exact na_Engine_depth (by assumption) | exact na_Engine_now (by assumption) | exact na_Engine_row (by assumption) | exact na_Engine_depths (by assumption) | exact na_Engine_last_begun (by assumption) | exact na_Plan_row (by assumption) | exact na_Plan_low (by assumption) | exact na_Plan_late (by assumption) | exact na_Run_row (by assumption) | exact na_Run_depths (by assumption) | exact na_Run_table (by assumption) | exact na_Run_longest (by assumption) | exact na_Bench_engine (by assumption) | exact na_Bench_fresh (by assumption) | exact na_Bench_told_so_far (by assumption) | exact na_Bench_rows (by assumption)))
local macro_rules
  | `(tactic| walk_at "oi") => `(tactic| first | assumption | exact oi2 0 (by assumption) rfl | exact oi2 1 (by assumption) rfl | exact oi2 2 (by assumption) rfl | exact oi2 3 (by assumption) rfl | exact oi2 4 (by assumption) rfl | exact oi2 5 (by assumption) rfl | exact oi2 6 (by assumption) rfl | exact oi2 7 (by assumption) rfl | exact oi2 8 (by assumption) rfl)
local macro_rules
  | `(tactic| walk_at "ev") => `(tactic| repeat' (first
    | exact ev_c | exact ev_var rfl | exact ea_nil | exact rv_I0 | exact ru_neg | exact eo_none
    | exact rv_eq rfl | exact rv_ne rfl
    | exact rv_ixT (by assumption) (by rfl) | exact rv_ixL (by assumption) (by rfl)
    | exact sv_q (by assumption) (by assumption) | exact sv_within (by assumption)
    | exact Or.inr (by assumption) | exact Or.inl (by assumption) | (show (_ : String) ∈ _; decide)
    | with_reducible (first | apply ev_isi | apply ev_lenS | apply ev_if' | apply et_test | apply et_B | apply et_not | apply et_and | apply et_or | apply ev_andV | apply ev_orV | apply ev_notV | apply ea_cons | apply eo_some | apply ev_fl | apply ev_op | apply ev_un | apply ev_call)
    | walk_at "na" | walk_at "oi" | (show List.lookup _ _ = _; rfl)
    | assumption
    | (with_reducible intro hh; first | exact absurd (show true = false from hh) (by decide) | exact absurd (show false = true from hh) (by decide) | clear hh)))

section
variable {P : Program} {w : World} {K : PySem.W.Frag} {mg : Str → Option Value} {base : Heap}
theorem sc_law_cell_at : FnScope ["_law_script", "_law_k"] ["_law_script", "_law_k"] (defScope s_law_cell_at) := ⟨rfl, rfl, rfl, by decide +kernel, rfl, by decide +kernel, by decide +kernel⟩
def spCellAt (K : PySem.W.Frag) : Sp := fun vs H Q _ => ∃ (a : Addr) (ns : List Int) (k : Int), vs = [.ref a, .int k] ∧ SqL K H a (ns.map V.int) ∧ 0 ≤ k ∧ ∀ i H', Ex H H' → Q (.int i) H'
theorem ok_law_cell_at (T : Txt w K mg) : FnOk P w K mg base CX0 1 (f_law_cell_at K) (fdAt K (f_law_cell_at K)) ["_law_script", "_law_k"] (spCellAt K) := by
  refine (df_law_cell_at T).ok sc_law_cell_at (fun vs H Q E h => ?_) (fun cdv A outer s H vs Q E hr h => ?_)
  · obtain ⟨_, _, _, rfl, _⟩ := h
    rfl
  · obtain ⟨a, ns, k, rfl, ha, hk, q⟩ := h
    refine ⟨_, PSs.nox ((pss_cons (ps_if (pt_cmpR op_lt (pv 1) (pe_callB (call_lenK (K := K) rfl) (by rfl) (fr_len T) PySem.boot_len (pa_cons (pv 0) pa_nil)) (nomark _)) (pss_one (ps_ret (pe_ix (ix_listK (K := K) rfl) (pv 0) (pv 1) (fun _ _ => rfl)))) pss_nil)
      (pss_one (ps_ret pe_int)))), ?_⟩
    refine q_when (b := decide (k < ((ns.map V.int).length : Int))) (et_test (ev_op (ev_var rfl) (ev_lenS (ev_var rfl) (.inl ha)) rv_I0)) (fun hb H1 e1 => ?_) (fun hb H1 e1 => ?_)
    · have hb := of_decide_eq_true hb
      rw [List.length_map] at hb
      obtain ⟨j, rfl⟩ : ∃ j : Nat, k = (j : Int) := ⟨k.toNat, by omega⟩
      have hj : j < ns.length := by omega
      exact s_ret (ev_op (ev_var rfl) (ev_var rfl) (rv_ixL (ex_l e1 ha) (atI_nat (by rw [List.getElem?_map, List.getElem?_eq_getElem hj]; rfl)))) fun H2 e2 => q _ H2 (e1.trans e2)
    · exact s_ret ev_c fun H2 e2 => q _ H2 (e1.trans e2)
section
variable {G H H' : Hp} {L : List (Addr × HO)} {σ : L2.St} {te ta tb tl : TE} {tx : TA} {tu tz : TS} {D : Ends} {a p r : Addr} {xs ys : List V} {Q : VK} {n j1 j2 j : Nat} {vs : List Nat}
theorem s_forE (hn : n = 2) (h : EvA tx σ H [.ref a]) (hx : SqL K H a xs) (Pv : Nat → L2.St → Hp → Prop) (h0 : ∀ H1, Ex H H1 → Pv 0 σ H1) (hl : ∀ i σ' H', i ≤ xs.length → Pv i σ' H' → SqL K H' a xs)
    (hs : ∀ i x σ' H' t, xs[i]? = some x → Pv i σ' H' → H' t = none → tu { D with nx := Pv (i + 1), ct := Pv (i + 1), bk := D.nx } ((σ'.set j1 (some (.int (i : Nat)))).set j2 (some x)) (upd H' t (.tup [.int (i : Nat), x]))) (hd : ∀ σ' H', Pv xs.length σ' H' → D.nx σ' H') :
    tFor (iEnum K tx) (gTup K n (gCons (gName j1) (gCons (gName j2) gNil))) tu D σ H := by
  subst hn
  refine h H (Ex.refl _) _ fun H1 e1 => ⟨a, xs, rfl, ex_l e1 hx, fun i m σ' H' => m = xs.length - i ∧ i ≤ xs.length ∧ Pv i σ' H', ⟨xs.length, by simp, Nat.zero_le _, h0 H1 e1⟩, ?_⟩
  rintro i m σ' H' ⟨rfl, hi, p⟩
  have q := hl i σ' H' hi p
  by_cases hlt : i < xs.length
  · refine .inr ⟨⟨xs, xs[i], q, by simp [hlt]⟩, Pv (i + 1), fun σ2 H2 p' => ⟨xs.length - (i + 1), by omega, rfl, hlt, p'⟩, fun y H5 hy => ?_⟩
    obtain ⟨t, z, rfl, nt, rfl, hz⟩ := hy
    exact ⟨t, [.int (i : Nat), z], rfl, st_of upd_same, rfl, _, _, rfl, _, _, rfl, rfl, hs i z σ' H' t (hz xs q) p nt⟩
  · have e : i = xs.length := by omega
    subst e
    exact .inl ⟨⟨xs, q, Nat.le_refl _⟩, hd σ' H' p⟩
theorem q_forTw {g : TG} (h : te σ H fun v H1 => tSeq (tFor (iTup K fun _ H Q => Q v H) g tu) tz D σ H1) : tSeq (tFor (iTup K te) g tu) tz D σ H := h
/-- a comprehension over enumerate of a text -/
theorem el_lcX (hn : n = 2) {x : Str} (f : Nat → Nat → V) (h : EvA tx σ H [.str x]) (hz : x.cps.size ≤ 1000) (hw : ∀ y z, wipe (((wipe σ vs).set j1 (some y)).set j2 (some z)) vs = wipe σ vs)
    (he : ∀ i c H', x.cps[i]? = some c → Ev te (((wipe σ vs).set j1 (some (.int (i : Nat)))).set j2 (some (.str ⟨#[c]⟩))) H' (f i c)) :
    EvL (tLc (iEnumX tx) (gTup K n (gCons (gName j1) (gCons (gName j2) gNil))) tYes te vs) σ H ((List.range x.cps.size).map fun i => f i (x.cps.getD i 0)) := fun H0 e Q q => by
  subst hn
  refine h H0 e _ fun H1 e1 => ⟨x, rfl, fun Dl nD => ⟨fun i m H' => m = x.cps.size - i ∧ i ≤ x.cps.size ∧ Ex H1 H' ∧ H' Dl = some (.lst ((List.range i).map fun i => f i (x.cps.getD i 0))), ⟨x.cps.size, by simp, Nat.zero_le _, Ex.new nD, upd_same⟩, ?_⟩⟩
  rintro i m H' ⟨rfl, hi, eH, hD⟩
  by_cases hlt : i < x.cps.size
  · refine .inr ⟨hlt, fun H2 => i + 1 ≤ x.cps.size ∧ Ex H1 H2 ∧ H2 Dl = some (.lst ((List.range (i + 1)).map fun i => f i (x.cps.getD i 0))), fun H2 p' => ⟨x.cps.size - (i + 1), by omega, rfl, p'⟩, fun y H5 hy => ?_⟩
    obtain ⟨t, c, rfl, nt, hc, rfl⟩ := hy
    refine ⟨t, [.int (i : Nat), .str ⟨#[c]⟩], rfl, st_of upd_same, rfl, _, _, rfl, _, _, rfl, rfl, hw _ _, ?_⟩
    have e2 : Ex H' (upd H' t (.tup [.int (i : Nat), .str ⟨#[c]⟩])) := Ex.new nt
    have hcd : x.cps.getD i 0 = c := by
      rw [Array.getD_eq_getD_getElem?, hc]
      rfl
    refine he i c _ hc _ (Ex.refl _) _ fun H3 e3 => ⟨_, e3 _ _ (e2 _ _ hD), sz_lt (by rw [List.length_map, List.length_range]; omega), hlt, Ex.mut (eH.trans (e2.trans e3)) nD, ?_⟩
    rw [upd_same, List.range_succ, List.map_append, List.map_singleton, hcd]
  · have e : i = x.cps.size := by omega
    subst e
    refine .inl ⟨rfl, q Dl H' (fresh_back e1 nD) (e1.trans eH) hD⟩
/-- a comprehension over a told text -/
theorem el_lcY {x : Str} (f : Nat → V) (h : Ev tl σ H (.str x)) (hz : x.cps.size ≤ 1000) (hw : ∀ y, wipe ((wipe σ vs).set j (some y)) vs = wipe σ vs)
    (he : ∀ c H', Ev te ((wipe σ vs).set j (some (.str ⟨#[c]⟩))) H' (f c)) :
    EvL (tLc (iStr tl) (gName j) tYes te vs) σ H ((List.range x.cps.size).map fun i => f (x.cps.getD i 0)) := fun H0 e Q q => by
  refine h H0 e _ fun H1 e1 => ⟨x, rfl, fun Dl nD => ⟨fun i m H' => m = x.cps.size - i ∧ i ≤ x.cps.size ∧ Ex H1 H' ∧ H' Dl = some (.lst ((List.range i).map fun i => f (x.cps.getD i 0))), ⟨x.cps.size, by simp, Nat.zero_le _, Ex.new nD, upd_same⟩, ?_⟩⟩
  rintro i m H' ⟨rfl, hi, eH, hD⟩
  by_cases hlt : i < x.cps.size
  · refine .inr ⟨hlt, fun H2 => i + 1 ≤ x.cps.size ∧ Ex H1 H2 ∧ H2 Dl = some (.lst ((List.range (i + 1)).map fun i => f (x.cps.getD i 0))), fun H2 p' => ⟨x.cps.size - (i + 1), by omega, rfl, p'⟩, fun y H5 hy => ?_⟩
    obtain ⟨rfl, c, hc, rfl⟩ := hy
    refine ⟨hw _, ?_⟩
    have hcd : x.cps.getD i 0 = c := by
      rw [Array.getD_eq_getD_getElem?, hc]
      rfl
    refine he c _ _ (Ex.refl _) _ fun H3 e3 => ⟨_, e3 _ _ hD, sz_lt (by rw [List.length_map, List.length_range]; omega), hlt, Ex.mut (eH.trans e3) nD, ?_⟩
    rw [upd_same, List.range_succ, List.map_append, List.map_singleton, hcd]
  · have e : i = x.cps.size := by omega
    subst e
    refine .inl ⟨Nat.le_refl _, q Dl H' (fresh_back e1 nD) (e1.trans eH) hD⟩
theorem el_lcTp {ds : List PyData} (f : PyData → V) (h : EvDp K tl σ H (.tuple ds)) (hz : ds.length ≤ 40000) (hw : ∀ x, wipe ((wipe σ vs).set j (some x)) vs = wipe σ vs)
    (he : ∀ H' x d, d ∈ ds → Dp K H' x d → Ev te ((wipe σ vs).set j (some x)) H' (f d)) : EvL (tLc (iTup K tl) (gName j) tYes te vs) σ H (ds.map f) := fun H1 e Q q => h H1 e _ fun v H2 e2 hv => by
  obtain ⟨p, xs, rfl, hx, hd⟩ := dpT hv
  have hl := dpLen hd
  exact el_lcDT (K := K) (σ := σ) (H := H2) (te := te) (tl := fun _ H Q => Q (.ref p) H) (a := p) (xs := xs) (ds := ds) f (fun H3 _ Q q => q H3 (Ex.refl _)) hx hd (by omega) hw (fun x d hm hxd => he H2 x d hm hxd) H2 (Ex.refl _) Q fun p' H3 np e3 hp => q p' H3 (fresh_back e2 np) (e2.trans e3) hp
theorem el_catSS (ha : Ev ta σ H (.ref p)) (hp : H p = some (.lst xs)) (hb : Ev tb σ H (.ref r)) (hr : H r = some (.lst ys)) (hz : xs.length + ys.length ≤ 100000) : EvL (tOp rCat ta tb) σ H (xs ++ ys) := fun H1 e Q q =>
  ha H1 e _ fun H2 e2 => hb H2 (e.trans e2) _ fun H3 e3 => ⟨p, r, xs, ys, rfl, rfl, ((e.trans e2).trans e3) _ _ hp, ((e.trans e2).trans e3) _ _ hr, sz_of hz, fun l hl => q l _ (fresh_back (e2.trans e3) hl) ((e2.trans e3).trans (Ex.new hl)) upd_same⟩
theorem el_catNS (ha : EvL ta σ H xs) (hb : Ev tb σ H (.ref r)) (hr : H r = some (.lst ys)) (hz : xs.length + ys.length ≤ 100000) : EvL (tOp rCat ta tb) σ H (xs ++ ys) := fun H1 e Q q =>
  ha H1 e _ fun p H2 np e2 hp => hb H2 (e.trans e2) _ fun H3 e3 => ⟨p, r, xs, ys, rfl, rfl, e3 _ _ hp, ((e.trans e2).trans e3) _ _ hr, sz_of hz, fun l hl => q l _ (fresh_back (e2.trans e3) hl) ((e2.trans e3).trans (Ex.new hl)) upd_same⟩
theorem el_eq {xs ys : List V} (h : EvL te σ H xs) (e : xs = ys) : EvL te σ H ys := e ▸ h
theorem t_op1 {r : R2} {v : V} (ha : Ev ta σ H v) (k : ∀ H1, Ex H H1 → tb σ H1 fun y H2 => r v y H2 Q) : tOp r ta tb σ H Q := ha H (Ex.refl _) _ k
end
section
variable {G H H' : Hp} {L : List (Addr × HO)} {σ : L2.St} {te ta tb tl : TE} {tx : TA} {tu tz : TS} {D : Ends} {a p r : Addr} {xs ys : List V} {Q : VK} {n j1 j2 j : Nat} {vs : List Nat}
def shB (x : Str) : Bool := decide (x.length ≤ 150)
theorem jn_sum {rs : List Str} (h : rs.all shB = true) : (rs.map (·.length)).sum ≤ rs.length * 150 := sum_le fun y hy => of_decide_eq_true (List.all_eq_true.mp h y hy)
theorem jn_len {rs : List Str} (h : rs.all shB = true) (hl : rs.length ≤ 40) : (jn rs).length ≤ 9000 := by
  have b := jn_sum h
  have j := join_len (Str.ofString "\n") rs
  have e : (Str.ofString "\n").length = 1 := by decide
  rw [e] at j
  show (Txt.join (Str.ofString "\n") rs).length ≤ 9000
  omega
theorem jn1 (x : Str) : jn [x] = x := by
  show Txt.join _ [x] = x
  rw [TL.join_eq]
  rfl
theorem sv_row {v : V} {d : PyData} {H : Hp} (h : Dp K H v d) (hx : ∀ x, d = .str x → x.length ≤ 9000) : SpV (spRow K) [v] H (.int (rowI d)) := fun H1 e Q q E => ⟨v, d, rfl, dpM e h, hx, fun H' e' => q H' e'⟩
theorem ev_row {te : TE} {σ : L2.St} {H : Hp} {E : XK} {x : Str} {m : Int} (h : Ev te σ H (.str x)) (hx : x.length ≤ 9000) (hm : rowOf (readM x) = m) : Ev (tCall (spRow K) [] E (tCons te tNil)) σ H (.int m) := by
  rw [← hm]
  exact ev_call (ea_cons h ea_nil) (sv_row (.str x) fun y e => by cases e; exact hx)
theorem ev_rowJ {rs : List Str} {m : Int} {E : XK} (hl : EvL te σ H (rs.map V.str)) (hs : rs.all shB = true) (hz : rs.length ≤ 40) (hm : rowOf (readM (jn rs)) = m) :
    Ev (tCall (spRow K) [] E (tCons (tM1 (fun x xs H Q => ∃ a p, ∃ ys : List Str, x = .str a ∧ xs = [.ref p] ∧ (SqL K H p (ys.map V.str) ∨ SqT K H p (ys.map V.str)) ∧ (ys.map (·.length)).sum + ys.length * a.length ≤ 16777216 ∧ Q (.str (Txt.join a ys)) H) (tC (V.str (Str.ofString "\n"))) te) tNil)) σ H (.int m) :=
  ev_row (ev_join ev_c hl (by have b := jn_sum hs; have e : (Str.ofString "\n").length = 1 := by decide
                              rw [e]; omega)) (jn_len hs hz) hm
theorem ev_rowS {rs : List Str} {m : Int} {E : XK} (h : Ev te σ H (.ref p)) (hp : SqL K H p (rs.map V.str)) (hs : rs.all shB = true) (hz : rs.length ≤ 40) (hm : rowOf (readM (jn rs)) = m) :
    Ev (tCall (spRow K) [] E (tCons (tM1 (fun x xs H Q => ∃ a p, ∃ ys : List Str, x = .str a ∧ xs = [.ref p] ∧ (SqL K H p (ys.map V.str) ∨ SqT K H p (ys.map V.str)) ∧ (ys.map (·.length)).sum + ys.length * a.length ≤ 16777216 ∧ Q (.str (Txt.join a ys)) H) (tC (V.str (Str.ofString "\n"))) te) tNil)) σ H (.int m) :=
  ev_row (ev_joinV ev_c h hp (by have b := jn_sum hs; have e : (Str.ofString "\n").length = 1 := by decide
                                 rw [e]; omega)) (jn_len hs hz) hm
theorem et_same {m : Int} (h1 : Ev ta σ H (.int m)) (h2 : Ev tb σ H (.int m)) : EvT (tTest (tOp rNe ta tb)) σ H false := et_is (et_test (ev_op h1 h2 (rv_ne rfl))) (by rw [decide_eq_true rfl]; rfl)
theorem sl_bad {zs : List Str} {H : Hp} : SpL (spRowsBad zs) [] H (zs.map V.str) := fun H1 e Q q E => ⟨rfl, fun p H' np e' hp => q p H' np e' hp⟩
theorem da_of {H : Hp} : ∀ {xs : List V} {ys : List Str}, DpAll K H xs (ys.map PyData.str) → xs = ys.map V.str
  | _, [], h => dpN h
  | _, y :: ys, h => by
    obtain ⟨v, ws, rfl, h1, h2⟩ := dpC h
    rw [dpS h1, da_of h2]
    rfl
theorem edp_l {ds : List PyData} {vs : List V} (h : EvL te σ H vs) (hd : DpAll K H vs ds) : EvDp K te σ H (.list ds) := fun H1 e Q q => h H1 e _ fun p H2 np e2 hp => q (.ref p) H2 e2 (.lst (sq_of hp) (daM (e.trans e2) hd))
theorem edp_txts {rs : List Str} (h : EvL te σ H (rs.map V.str)) : EvDp K te σ H (.list (rs.map PyData.str)) := edp_l h (da_txts H rs)
theorem da_ints (H : Hp) : ∀ ns : List Int, DpAll K H (ns.map V.int) (ns.map PyData.int)
  | [] => .nil
  | n :: ns => .cons (.int n) (da_ints H ns)
theorem edp_ints {ns : List Int} (h : EvL te σ H (ns.map V.int)) : EvDp K te σ H (.list (ns.map PyData.int)) := edp_l h (da_ints H ns)
theorem el_rev {xs : List V} (h : Ev te σ H (.ref p)) (hx : H p = some (.lst xs)) : EvL (tRevL K te) σ H xs.reverse := fun H1 e Q q => h H1 e _ fun H2 e2 => ⟨p, xs, rfl, sq_of ((e.trans e2) _ _ hx), fun l hl => q l _ (fresh_back e2 hl) (e2.trans (Ex.new hl)) upd_same⟩
def rMax2 : List V → Hp → VK → Prop := fun xs H Q => ∃ i j, xs = [.int i, .int j] ∧ Q (.int (if j > i then j else i)) H
def rMin2 : List V → Hp → VK → Prop := fun xs H Q => ∃ i j, xs = [.int i, .int j] ∧ Q (.int (if j < i then j else i)) H
theorem ev_max2 {ta : TA} {σ : L2.St} {H : Hp} {i j : Int} (h : EvA ta σ H [.int i, .int j]) : Ev (tCB rMax2 ta) σ H (.int (if j > i then j else i)) := fun H1 e Q q => h H1 e _ fun H2 e2 => ⟨i, j, rfl, q H2 e2⟩
theorem ev_min2 {ta : TA} {σ : L2.St} {H : Hp} {i j : Int} (h : EvA ta σ H [.int i, .int j]) : Ev (tCB rMin2 ta) σ H (.int (if j < i then j else i)) := fun H1 e Q q => h H1 e _ fun H2 e2 => ⟨i, j, rfl, q H2 e2⟩
def rStrI : List V → Hp → VK → Prop := fun xs H Q => ∃ i, xs = [.int i] ∧ i.natAbs.log2 < 1920 ∧ Q (.str (toString i)) H
theorem ev_strI {te : TE} {σ : L2.St} {H : Hp} {i : Int} (h : Ev te σ H (.int i)) (hi : i.natAbs.log2 < 1920) : Ev (tCB rStrI (tCons te tNil)) σ H (.str (toString i)) := fun H1 e Q q => h H1 e _ fun H2 e2 => ⟨i, rfl, hi, q H2 e2⟩
end
/-! rows, plainly -/
theorem ends_1 {m : Int} {x : Str} (hn : nlB x = true) (h : ends m [x] = true) : rowOf (readM x) = m := by
  have z := ends_eq (xs := [x]) (by simp) (by simp [hn]) h
  rw [jn1] at z
  exact z
theorem lo_ok : ([l0, l1, o0, o1].all fun x => nlB x && shB x) = true ∧ (blAll.all fun x => nlB x && shB x) = true ∧ (boAll.all fun x => nlB x && shB x) = true := by decide +kernel
theorem nl_all {rs : List Str} (h : rs.all (fun x => nlB x && shB x) = true) : rs.all nlB = true ∧ rs.all shB = true := ⟨List.all_eq_true.mpr fun x hx => (band (List.all_eq_true.mp h x hx)).1, List.all_eq_true.mpr fun x hx => (band (List.all_eq_true.mp h x hx)).2⟩
theorem c_of {x : Str} {l : List Str} (h : l.all (fun x => nlB x && shB x) = true) (hx : x ∈ l) : (nlB x && shB x) = true := List.all_eq_true.mp h x hx
theorem c4 : (nlB l0 && shB l0) = true ∧ (nlB l1 && shB l1) = true ∧ (nlB o0 && shB o0) = true ∧ (nlB o1 && shB o1) = true := by decide +kernel
theorem row_1 {b : Str} (hb : b ∈ blAll) : [l0, b, l1, o0, o1].all (fun x => nlB x && shB x) = true ∧ rowOf (readM (jn [l0, b, l1, o0, o1])) = 1 := by
  have hc := c_of lo_ok.2.1 hb
  have h1 : [l0, b, l1, o0, o1].all (fun x => nlB x && shB x) = true := by simp only [List.all_cons, List.all_nil, hc, c4.1, c4.2.1, c4.2.2.1, c4.2.2.2, Bool.and_true]
  refine ⟨h1, ?_⟩
  rw [show [l0, b, l1, o0, o1] = [l0, b] ++ [l1, o0, o1] from rfl, read_stop (m := 1) (by simp) (nl_all h1).1 (stops_eq (List.all_eq_true.mp bad_1 b hb))]
  rfl
theorem row_2 {b : Str} (hb : b ∈ blAll) : [l0, l1, b, o0, o1].all (fun x => nlB x && shB x) = true ∧ rowOf (readM (jn [l0, l1, b, o0, o1])) = 2 := by
  have hc := c_of lo_ok.2.1 hb
  have h1 : [l0, l1, b, o0, o1].all (fun x => nlB x && shB x) = true := by simp only [List.all_cons, List.all_nil, hc, c4.1, c4.2.1, c4.2.2.1, c4.2.2.2, Bool.and_true]
  refine ⟨h1, ?_⟩
  rw [show [l0, l1, b, o0, o1] = [l0, l1, b] ++ [o0, o1] from rfl, read_stop (m := 2) (by simp) (nl_all h1).1 (stops_eq (List.all_eq_true.mp bad_2 b hb))]
  rfl
theorem row_3 {b b' : Str} (hb : b ∈ blAll) (hb' : b' ∈ blAll) : [l0, l1, b, b', o0, o1].all (fun x => nlB x && shB x) = true ∧ rowOf (readM (jn [l0, l1, b, b', o0, o1])) = 2 := by
  have hc := c_of lo_ok.2.1 hb
  have hc' := c_of lo_ok.2.1 hb'
  have h1 : [l0, l1, b, b', o0, o1].all (fun x => nlB x && shB x) = true := by simp only [List.all_cons, List.all_nil, hc, hc', c4.1, c4.2.1, c4.2.2.1, c4.2.2.2, Bool.and_true]
  refine ⟨h1, ?_⟩
  rw [show [l0, l1, b, b', o0, o1] = [l0, l1, b] ++ [b', o0, o1] from rfl, read_stop (m := 2) (by simp) (nl_all h1).1 (stops_eq (List.all_eq_true.mp bad_2 b hb))]
  rfl
theorem row_4 {b : Str} (hb : b ∈ boAll) : [l0, l1, o0, o1, b].all (fun x => nlB x && shB x) = true ∧ rowOf (readM (jn [l0, l1, o0, o1, b])) = 4 := by
  have hc := c_of lo_ok.2.2 hb
  have h1 : [l0, l1, o0, o1, b].all (fun x => nlB x && shB x) = true := by simp only [List.all_cons, List.all_nil, hc, c4.1, c4.2.1, c4.2.2.1, c4.2.2.2, Bool.and_true]
  refine ⟨h1, ?_⟩
  rw [show [l0, l1, o0, o1, b] = [l0, l1, o0, o1, b] ++ [] from rfl, read_stop (m := 4) (by simp) (by rw [List.append_nil]; exact (nl_all h1).1) (stops_eq (List.all_eq_true.mp bad_4 b hb))]
  rfl
theorem cx : (nlB "x" && shB "x") = true := by decide +kernel
theorem row_5 {b : Str} (hb : b ∈ boAll) : [l0, l1, o0, o1, b, "x"].all (fun x => nlB x && shB x) = true ∧ rowOf (readM (jn [l0, l1, o0, o1, b, "x"])) = 4 := by
  have hc := c_of lo_ok.2.2 hb
  have h1 : [l0, l1, o0, o1, b, "x"].all (fun x => nlB x && shB x) = true := by simp only [List.all_cons, List.all_nil, hc, c4.1, c4.2.1, c4.2.2.1, c4.2.2.2, cx, Bool.and_true]
  refine ⟨h1, ?_⟩
  rw [show [l0, l1, o0, o1, b, ("x" : Str)] = [l0, l1, o0, o1, b] ++ ([("x" : Str)] : List Str) from rfl, read_stop (m := 4) (by simp) (nl_all h1).1 (stops_eq (List.all_eq_true.mp bad_4 b hb))]
  rfl
end
end KW
end
section
set_option Elab.async false
set_option linter.all false
set_option autoImplicit false
set_option maxRecDepth 100000
set_option maxHeartbeats 2000000
/-! the law -/
namespace KW
open PySem PySem.Spec PyProof.Rows L2 He KR Evl
local macro_rules
  | `(tactic| walk_at "na") => `(tactic| with_reducible (first | exact cl_Line (by assumption) | exact cl_Job (by assumption) | exact cl_Engine (by assumption) | exact cl_Plan (by assumption) | exact cl_Run (by assumption) | exact cl_Bench (by assumption) | exact na_Line_name (by assumption) | exact na_Line_rank (by assumption) | exact na_Line_is_up (by assumption) | exact na_Line_guard (by assumption) | exact na_Line_top (by assumption) | exact na_Line_let_by (by assumption) | exact na_Line_shut_till (by assumption) | exact na_Line_since (by assumption) | exact na_Line_fresh (by assumption) | exact na_Line_counts (by assumption) | exact na_Line_longest (by assumption) | exact na_Job_word (by assumption) | exact na_Job_name (by assumption) | exact na_Job_rank (by assumption) | exact na_Job_steps (by assumption) | exact na_Job_masks_then (by assumption) | exact na_Job_at (by assumption) | exact na_Job_left (by assumption) | exact na_Engine_plan (by assumption) | exact na_Engine_ways (by assumption) | exact na_Engine_tops (by assumption) | exact na_Engine_bottom (by assumption) | exact na_Engine_put_off (by assumption) | exact na_Engine_woken (by assumption) | exact na_Engine_begun (by assumption) | exact na_Engine_depth (by assumption) | exact na_Engine_now (by assumption) | exact na_Engine_row (by assumption) | exact na_Engine_depths (by assumption) | exact na_Engine_last_begun (by assumption) | exact na_Plan_row (by assumption) | exact na_Plan_low (by assumption) | exact na_Plan_late (by assumption) | exact na_Run_row (by assumption) | exact na_Run_depths (by assumption) | exact na_Run_table (by assumption) | exact na_Run_longest (by assumption) | exact na_Bench_engine (by assumption) | exact na_Bench_fresh (by assumption) | exact na_Bench_told_so_far (by assumption) | exact na_Bench_rows (by assumption)))
local macro_rules
  | `(tactic| walk_at "oi") => `(tactic| first | assumption | exact oi2 0 (by assumption) rfl | exact oi2 1 (by assumption) rfl | exact oi2 2 (by assumption) rfl | exact oi2 3 (by assumption) rfl | exact oi2 4 (by assumption) rfl | exact oi2 5 (by assumption) rfl | exact oi2 6 (by assumption) rfl | exact oi2 7 (by assumption) rfl | exact oi2 8 (by assumption) rfl)
local macro_rules
  | `(tactic| walk_at "ev") => `(tactic| repeat' (first
    | exact ev_c | exact ev_var rfl | exact ea_nil | exact rv_I0 | exact ru_neg | exact eo_none
    | exact rv_eq rfl | exact rv_ne rfl
    | exact rv_ixT (by assumption) (by rfl) | exact rv_ixL (by assumption) (by rfl)
    | exact sv_q (by assumption) (by assumption) | exact sv_within (by assumption)
    | exact Or.inr (by assumption) | exact Or.inl (by assumption) | (show (_ : String) ∈ _; decide)
    | with_reducible (first | apply ev_isi | apply ev_lenS | apply ev_if' | apply et_test | apply et_B | apply et_not | apply et_and | apply et_or | apply ev_andV | apply ev_orV | apply ev_notV | apply ea_cons | apply eo_some | apply ev_fl | apply ev_op | apply ev_un | apply ev_call)
    | walk_at "na" | walk_at "oi" | (show List.lookup _ _ = _; rfl)
    | assumption
    | (with_reducible intro hh; first | exact absurd (show true = false from hh) (by decide) | exact absurd (show false = true from hh) (by decide) | clear hh)))

section
variable {P : Program} {w : World} {K : PySem.W.Frag} {mg : Str → Option Value} {base : Heap}
theorem sc_law : FnScope ["_law_script", "_law_lines", "_law_others", "_law_by", "_law_cell", "_law_bad", "_law_k", "_law_row_here", "_law_at", "_law_late", "_law_rows", "_law_thing", "_law_turned", "_law_five", "_law_name", "_law_lows"] ["_law_script"] (defScope s_law) := ⟨rfl, rfl, rfl, by decide +kernel, rfl, by decide +kernel, by decide +kernel⟩
def spLaw (K : PySem.W.Frag) : Sp := fun vs H Q _ => ∃ (a : Addr) (ns : List Int), vs = [.ref a] ∧ SqL K H a (ns.map V.int) ∧ ns.length ≤ 63 ∧ ∀ H', Q (.bl true) H'
theorem l3_sz : ([l0, l1, o0, o1] : List Str).all shB = true := (nl_all lo_ok.1).2
theorem e_of {m : Int} {rs : List Str} (h0 : rs ≠ []) (hc : rs.all (fun x => nlB x && shB x) = true) (h : ends m rs = true) : rowOf (readM (jn rs)) = m := ends_eq h0 (nl_all hc).1 h
def fiveF (k c : Nat) : V := V.str (Str.ofString "line " ++ ⟨#[c]⟩ ++ Str.ofString " " ++ Str.ofString (toString ((1 : Int) + (k : Int))) ++ Str.ofString " up 1 1 1: run 1")
def lowsF (c : Nat) : V := V.str (Str.ofString "bottom " ++ ⟨#[c]⟩ ++ Str.ofString ": run 1")
theorem five_eq : ((List.range (Str.ofString "acdef").cps.size).map fun i => fiveF i ((Str.ofString "acdef").cps.getD i 0)) = five.map V.str := by decide +kernel
theorem lows_eq : ((List.range (Str.ofString "abcde").cps.size).map fun i => lowsF ((Str.ofString "abcde").cps.getD i 0)) = lows.map V.str := by decide +kernel
theorem ac_sz : (Str.ofString "acdef").cps.size = 5 ∧ (Str.ofString "acdef").cps.size ≤ 1000 ∧ (Str.ofString "abcde").cps.size ≤ 1000 := by decide +kernel
theorem s_1 (c : Nat) : (⟨#[c]⟩ : Str).length = 1 := rfl
theorem s_5 : (Str.ofString "line ").length = 5 ∧ (Str.ofString " ").length = 1 ∧ (Str.ofString " up 1 1 1: run 1").length = 16 ∧ (Str.ofString "bottom ").length = 7 ∧ (Str.ofString ": run 1").length = 7 := by decide +kernel
theorem ev_five {σ : L2.St} {H : Hp} {k c : Nat} {i j : Nat} (h1 : σ[i]? = some (some (.int (k : Nat)))) (h2 : σ[j]? = some (some (.str ⟨#[c]⟩))) (hk : k < 5) :
    Ev (tOp rCatSt (tOp rCatSt (tOp rCatSt (tOp rCatSt (tC (V.str (Str.ofString "line "))) (tVar j)) (tC (V.str (Str.ofString " ")))) (tCB rStrI (tCons (tOp (rI0 fun i j => V.int (i + j)) (tC (V.int 1)) (tVar i)) tNil))) (tC (V.str (Str.ofString " up 1 1 1: run 1")))) σ H (fiveF k c) := by
  have sm := int_small (n := (1 : Int) + (k : Int)) (by omega) (by omega)
  have z := s_5
  refine ev_addS (ev_addS (ev_addS (ev_addS ev_c (ev_var h2) ?_) ev_c ?_) (ev_strI (ev_op ev_c (ev_var h1) rv_I0) sm.1) ?_) ev_c ?_
  · rw [z.1, s_1]
    decide
  · rw [s_len, z.1, z.2.1, s_1]
    decide
  · rw [s_len, s_len, z.1, z.2.1, s_1]
    have := sm.2
    omega
  · rw [s_len, s_len, s_len, z.1, z.2.1, z.2.2.1, s_1]
    have := sm.2
    omega
theorem ev_lows {σ : L2.St} {H : Hp} {c j : Nat} (h2 : σ[j]? = some (some (.str ⟨#[c]⟩))) :
    Ev (tOp rCatSt (tOp rCatSt (tC (V.str (Str.ofString "bottom "))) (tVar j)) (tC (V.str (Str.ofString ": run 1")))) σ H (lowsF c) := by
  have z := s_5
  refine ev_addS (ev_addS ev_c (ev_var h2) ?_) ev_c ?_
  · rw [z.2.2.2.1, s_1]
    decide
  · rw [s_len, z.2.2.2.1, z.2.2.2.2, s_1]
    decide
theorem lows4 : cutV (lows.map V.str) none (some 4) = (lows.take 4).map V.str := by decide +kernel
theorem row_l : rowOf (readM (l0 ++ Str.ofString "\n")) = 1 := by
  have z : l0 ++ Str.ofString "\n" = jn [l0, ""] := by decide +kernel
  rw [z]
  exact e_of (by decide) (by decide +kernel) lasts5.1
theorem da_at {H : Hp} : ∀ {xs : List V} {ds : List PyData} {i : Nat} {x : V}, DpAll K H xs ds → xs[i]? = some x → ∃ d, d ∈ ds ∧ Dp K H x d
  | _, [], _, _, h, hx => by
    rw [dpN h] at hx
    cases hx
  | _, d :: ds, i, x, h, hx => by
    obtain ⟨v, ws, rfl, h1, h2⟩ := dpC h
    cases i with
    | zero => cases hx; exact ⟨d, List.mem_cons_self .., h1⟩
    | succ i =>
      obtain ⟨d', hm, hd⟩ := da_at (i := i) h2 hx
      exact ⟨d', List.mem_cons_of_mem _ hm, hd⟩
structure GoodR (rs : List Str) (m : Int) : Prop where
  sh : rs.all shB = true
  le : rs.length ≤ 40
  ro : rowOf (readM (jn rs)) = m
theorem g_1 : GoodR (five ++ lows.take 4) (-1) := ⟨by decide +kernel, by decide +kernel, e_of (by decide +kernel) (by decide +kernel) fives.1⟩
theorem g_2 : GoodR (five ++ ([Str.ofString "line g 9 up 1 1 1: run 1"] : List Str)) 5 := ⟨by decide +kernel, by decide +kernel, e_of (by decide +kernel) (by decide +kernel) fives.2.1⟩
theorem g_3 : GoodR (five ++ lows) 9 := ⟨by decide +kernel, by decide +kernel, e_of (by decide +kernel) (by decide +kernel) fives.2.2.1⟩
theorem g_4 : GoodR [l0, l1] 2 := ⟨by decide +kernel, by decide +kernel, e_of (by decide +kernel) (by decide +kernel) fives.2.2.2.1⟩
theorem g_5 : GoodR [l0, l1, o0] 3 := ⟨by decide +kernel, by decide +kernel, e_of (by decide +kernel) (by decide +kernel) fives.2.2.2.2⟩
theorem lz1 : l0.length + (Str.ofString "\n").length ≤ 100000 ∧ (l0 ++ Str.ofString "\n").length ≤ 9000 := by decide +kernel
theorem lz2 : (Str.ofString "").length ≤ 9000 ∧ (Str.ofString "line a 1 up 1 1 1: run 1, answer b").length ≤ 9000 := by decide +kernel
theorem rl_2 : rowOf (readM (Str.ofString "")) = 0 := ends_1 (by decide +kernel) lasts5.2.1
theorem rl_3 : rowOf (readM (Str.ofString "line a 1 up 1 1 1: run 1, answer b")) = 1 := ends_1 (by decide +kernel) lasts5.2.2
theorem sh3 : SeqAt.shaped (.list ([1, 0, 1].map PyData.int)) = true := by decide +kernel
theorem cut_o : cutV ([o0, o1].map V.str) none (some 1) = [o0].map V.str := rfl
theorem n5 : (five.map V.str).length = 5 ∧ (lows.map V.str).length = 5 := ⟨rfl, rfl⟩
theorem ok_law (T : Txt w K mg) : FnOk P w K mg base CX0 14 (f_law K) (fdAt K (f_law K)) ["_law_script"] (spLaw K) := by
  refine (df_law T).ok sc_law (fun vs H Q E h => ?_) (fun cdv A outer s H vs Q E hr h => ?_)
  · obtain ⟨_, _, rfl, _⟩ := h
    rfl
  · obtain ⟨a, ns, rfl, ha, hl, q⟩ := h
    refine ⟨_, PSs.nox ((pss_cons (ps_set (i := 1) sc_law.nd rfl (Or.inl rfl) (pe_lst (pa_cons pe_str pa_nil)))
      (pss_cons (ps_set (i := 1) sc_law.nd rfl (Or.inl rfl) ((pe_op op_cat (pv 1) (pe_lst (pa_cons pe_str pa_nil)))))
      (pss_cons (ps_set (i := 2) sc_law.nd rfl (Or.inl rfl) (pe_lst (pa_cons pe_str (pa_cons pe_str pa_nil))))
      (pss_cons (ps_if (PW.pt (pw_or (pt_cmpR op_ne (pe_call (ok_law_row T) (hr.mono (by decide)) rfl (gl_law_row T) (df_law_row T).kp (bi_law_row T) .nil pass0 (pa_cons (pe_joinK (K := K) rfl pe_str ((pe_op op_cat (pv 1) (pv 2)))) pa_nil)) (pe_un un_neg pe_int) (nomark _)) (pw_or1 (pt_cmpR op_ne (pe_call (ok_law_row T) (hr.mono (by decide)) rfl (gl_law_row T) (df_law_row T).kp (bi_law_row T) .nil pass0 (pa_cons (pe_ix (ix_listK (K := K) rfl) (pv 1) pe_int (fun _ _ => rfl)) pa_nil)) (pe_un un_neg pe_int) (nomark _))))) (pss_one (ps_ret pe_bl)) pss_nil)
      (pss_cons (ps_for PassesOwn.never rfl (pi_range1 (by rfl) (fr_range T) (pa_cons (pe_callB (call_max2 rfl) (by rfl) (fr_max T) (by decide +kernel) (pa_cons pe_int (pa_cons (pe_callB (call_min2 rfl) (by rfl) (fr_min T) (by decide +kernel) (pa_cons pe_int (pa_cons (pe_callB (call_lenK (K := K) rfl) (by rfl) (fr_len T) PySem.boot_len (pa_cons (pv 0) pa_nil)) pa_nil))) pa_nil))) pa_nil)) (pg_name (i := 3) sc_law.nd rfl (Or.inl rfl)) (pss_cons (ps_par (i := 4) (j := 5) rfl sc_law.nd rfl rfl (by decide) rfl rfl (pa_cons (pe_call (ok_law_cell_at T) (hr.mono (by decide)) rfl (gl_law_cell_at T) (df_law_cell_at T).kp (bi_law_cell_at T) .nil pass0 (pa_cons (pv 0) (pa_cons (pv 3) pa_nil))) (pa_cons (pe_call0 (ok_law_bad_lines T) (hr.mono (by decide)) rfl (gl_law_bad_lines T) (df_law_bad_lines T).kp (bi_law_bad_lines T) .nil pass0) pa_nil)) (by rfl))
      (pss_one (ps_for PassesOwn.never rfl (pi_enum (by rfl) (fr_enumerate T) (pa_cons (pv 5) pa_nil)) (pg_tupK rfl (K := K) rfl (pgs_cons (pg_name (i := 6) sc_law.nd rfl (Or.inl rfl)) (pgs_cons (pg_name (i := 7) sc_law.nd rfl (Or.inl rfl)) pgs_nil))) (pss_cons (ps_set (i := 8) sc_law.nd rfl (Or.inl rfl) (pe_op op_add pe_int (pe_call (ok_law_number T) (hr.mono (by decide)) rfl (gl_law_number T) (df_law_number T).kp (bi_law_number T) .nil pass0 (pa_cons (pv 4) (pa_cons (pe_op op_add (pe_op op_mod (pv 6) pe_int) pe_int) (pa_cons pe_int pa_nil))))))
      (pss_cons (ps_set (i := 9) sc_law.nd rfl (Or.inl rfl) (pe_ix (ix_listK (K := K) rfl) (pv 5) (pe_call (ok_law_number T) (hr.mono (by decide)) rfl (gl_law_number T) (df_law_number T).kp (bi_law_number T) .nil pass0 (pa_cons (pv 4) (pa_cons (pe_op op_add (pe_op op_mod (pv 6) pe_int) pe_int) (pa_cons (pe_callB (call_lenK (K := K) rfl) (by rfl) (fr_len T) PySem.boot_len (pa_cons (pv 5) pa_nil)) pa_nil)))) (fun _ _ => rfl)))
      (pss_cons (ps_set (i := 10) sc_law.nd rfl (Or.inl rfl) ((pe_op op_cat ((pe_op op_cat ((pe_op op_cat (pe_slice (sl_listK (K := K) rfl) (pv 1) po_none (po_some (pv 8))) (pe_lst (pa_cons (pv 7) pa_nil)))) (pe_slice (sl_listK (K := K) rfl) (pv 1) (po_some (pv 8)) po_none))) (pv 2))))
      (pss_cons (ps_if (pt_cmpR op_ne (pe_call (ok_law_row T) (hr.mono (by decide)) rfl (gl_law_row T) (df_law_row T).kp (bi_law_row T) .nil pass0 (pa_cons (pe_joinK (K := K) rfl pe_str (pv 10)) pa_nil)) (pv 8) (nomark _)) (pss_one (ps_ret pe_bl)) pss_nil)
      (pss_one (ps_if (pt_cmpR op_ne (pe_call (ok_law_row T) (hr.mono (by decide)) rfl (gl_law_row T) (df_law_row T).kp (bi_law_row T) .nil pass0 (pa_cons (pe_joinK (K := K) rfl pe_str ((pe_op op_cat ((pe_op op_cat (pv 1) (pe_lst (pa_cons (pv 7) (pa_cons (pv 9) pa_nil))))) (pv 2)))) pa_nil)) pe_int (nomark _)) (pss_one (ps_ret pe_bl)) pss_nil))))))))))
      (pss_cons (ps_for PassesOwn.never rfl (pi_listK (K := K) rfl (pe_call0 (ok_law_bad_others T) (hr.mono (by decide)) rfl (gl_law_bad_others T) (df_law_bad_others T).kp (bi_law_bad_others T) .nil pass0)) (pg_name (i := 7) sc_law.nd rfl (Or.inl rfl)) (pss_one (ps_if (PW.pt (pw_or (pt_cmpR op_ne (pe_call (ok_law_row T) (hr.mono (by decide)) rfl (gl_law_row T) (df_law_row T).kp (bi_law_row T) .nil pass0 (pa_cons (pe_joinK (K := K) rfl pe_str ((pe_op op_cat ((pe_op op_cat (pv 1) (pv 2))) (pe_lst (pa_cons (pv 7) pa_nil))))) pa_nil)) pe_int (nomark _)) (pw_or1 (pt_cmpR op_ne (pe_call (ok_law_row T) (hr.mono (by decide)) rfl (gl_law_row T) (df_law_row T).kp (bi_law_row T) .nil pass0 (pa_cons (pe_joinK (K := K) rfl pe_str ((pe_op op_cat ((pe_op op_cat (pv 1) (pv 2))) (pe_lst (pa_cons (pv 7) (pa_cons pe_str pa_nil)))))) pa_nil)) pe_int (nomark _))))) (pss_one (ps_ret pe_bl)) pss_nil)))
      (pss_cons (ps_if (PW.pt (pw_or (pt_cmpR (op_neDK hr.units (K := K) rfl) (pe_lc (own := [("_law_thing", 11)]) (g := gName 11) (tt := tYes) rfl sc_law.nd (pi_tupK (K := K) rfl (pe_tup (pa_cons pe_non (pa_cons pe_int (pa_cons (pv 1) (pa_cons pe_bl (pa_cons (pe_tup (pa_cons pe_str pa_nil)) pa_nil))))))) (blkOk_by (N := ["_law_script", "_law_lines", "_law_others", "_law_by", "_law_cell", "_law_bad", "_law_k", "_law_row_here", "_law_at", "_law_late", "_law_rows", "_law_thing", "_law_turned", "_law_five", "_law_name", "_law_lows"]) (sc := defScope s_law) (by decide +kernel)) (fun _ _ _ _ _ => pg_name (i := 11) sc_law.nd rfl (Or.inl rfl)) (fun _ _ _ _ _ => pts_nil) (fun _ _ _ _ _ => (pe_call (ok_law_row T) (hr.mono (by decide)) rfl (gl_law_row T) (df_law_row T).kp (bi_law_row T) .nil pass0 (pa_cons (pv 11) pa_nil)))) ((pe_op op_rep (pe_lst (pa_cons pe_int pa_nil)) pe_int)) (nomark _)) (pw_or1 (pt_cmpR op_ne (pe_call (ok_law_row T) (hr.mono (by decide)) rfl (gl_law_row T) (df_law_row T).kp (bi_law_row T) .nil pass0 (pa_cons (pe_joinK (K := K) rfl pe_str (pv 2)) pa_nil)) pe_int (nomark _))))) (pss_one (ps_ret pe_bl)) pss_nil)
      (pss_cons (ps_set (i := 12) sc_law.nd rfl (Or.inl rfl) ((pe_op op_cat ((pe_op op_cat (pe_slice (sl_listK (K := K) rfl) (pv 1) po_none (po_some pe_int)) (pe_slice (sl_listK (K := K) rfl) (pv 2) po_none (po_some pe_int)))) (pe_slice (sl_listK (K := K) rfl) (pv 1) (po_some pe_int) po_none))))
      (pss_cons (ps_for PassesOwn.never rfl (pi_tupK (K := K) rfl (pe_tup (pa_cons (pe_tup (pa_cons ((pe_op op_cat (pv 1) ((pe_revL (pv 2))))) (pa_cons pe_int pa_nil))) (pa_cons (pe_tup (pa_cons ((pe_op op_cat (pe_slice (sl_listK (K := K) rfl) (pv 2) po_none (po_some pe_int)) (pv 1))) (pa_cons pe_int pa_nil))) (pa_cons (pe_tup (pa_cons (pv 12) (pa_cons pe_int pa_nil))) (pa_cons (pe_tup (pa_cons ((pe_op op_cat (pv 1) (pe_lst (pa_cons pe_str pa_nil)))) (pa_cons pe_int pa_nil))) pa_nil)))))) (pg_tupK rfl (K := K) rfl (pgs_cons (pg_name (i := 10) sc_law.nd rfl (Or.inl rfl)) (pgs_cons (pg_name (i := 8) sc_law.nd rfl (Or.inl rfl)) pgs_nil))) (pss_one (ps_if (pt_cmpR op_ne (pe_call (ok_law_row T) (hr.mono (by decide)) rfl (gl_law_row T) (df_law_row T).kp (bi_law_row T) .nil pass0 (pa_cons (pe_joinK (K := K) rfl pe_str (pv 10)) pa_nil)) (pv 8) (nomark _)) (pss_one (ps_ret pe_bl)) pss_nil)))
      (pss_cons (ps_setLc (i := 13) (own := [("_law_k", 6), ("_law_name", 14)]) (g := gTup K 2 (gCons (gName 6) (gCons (gName 14) (gNil)))) (tt := tYes) rfl sc_law.nd rfl rfl (sw_true rfl rfl rfl (by decide +kernel)) (pi_enumX (by rfl) (fr_enumerate T) (pa_cons pe_str pa_nil)) (blkOk_by (N := ["_law_script", "_law_lines", "_law_others", "_law_by", "_law_cell", "_law_bad", "_law_k", "_law_row_here", "_law_at", "_law_late", "_law_rows", "_law_thing", "_law_turned", "_law_five", "_law_name", "_law_lows"]) (sc := defScope s_law) (by decide +kernel)) (fun _ _ _ _ _ => pg_tupK rfl (K := K) rfl (pgs_cons (pg_name (i := 6) sc_law.nd rfl (Or.inl rfl)) (pgs_cons (pg_name (i := 14) sc_law.nd rfl (Or.inl rfl)) pgs_nil))) (fun _ _ _ _ _ => pts_nil) (fun _ _ _ _ _ => ((pe_op op_add_str ((pe_op op_add_str ((pe_op op_add_str ((pe_op op_add_str pe_str (pv 14))) pe_str)) (pe_callTy call_str_int (by rfl) (fr_str T) (by decide +kernel) (pa_cons (pe_op op_add pe_int (pv 6)) pa_nil)))) pe_str))))
      (pss_cons (ps_setLc (i := 15) (own := [("_law_name", 14)]) (g := gName 14) (tt := tYes) rfl sc_law.nd rfl rfl (sw_true rfl rfl rfl (by decide +kernel)) (pi_str pe_str) (blkOk_by (N := ["_law_script", "_law_lines", "_law_others", "_law_by", "_law_cell", "_law_bad", "_law_k", "_law_row_here", "_law_at", "_law_late", "_law_rows", "_law_thing", "_law_turned", "_law_five", "_law_name", "_law_lows"]) (sc := defScope s_law) (by decide +kernel)) (fun _ _ _ _ _ => pg_name (i := 14) sc_law.nd rfl (Or.inl rfl)) (fun _ _ _ _ _ => pts_nil) (fun _ _ _ _ _ => ((pe_op op_add_str ((pe_op op_add_str pe_str (pv 14))) pe_str))))
      (pss_cons (ps_if (PW.pt (pw_or (pt_cmpR op_ne (pe_call (ok_law_row T) (hr.mono (by decide)) rfl (gl_law_row T) (df_law_row T).kp (bi_law_row T) .nil pass0 (pa_cons (pe_joinK (K := K) rfl pe_str ((pe_op op_cat (pv 13) (pe_slice (sl_listK (K := K) rfl) (pv 15) po_none (po_some pe_int))))) pa_nil)) (pe_un un_neg pe_int) (nomark _)) (pw_or1 (pt_cmpR op_ne (pe_call (ok_law_row T) (hr.mono (by decide)) rfl (gl_law_row T) (df_law_row T).kp (bi_law_row T) .nil pass0 (pa_cons (pe_joinK (K := K) rfl pe_str ((pe_op op_cat (pv 13) (pe_lst (pa_cons pe_str pa_nil))))) pa_nil)) pe_int (nomark _))))) (pss_one (ps_ret pe_bl)) pss_nil)
      (pss_cons (ps_if (PW.pt (pw_or (pt_cmpR op_ne (pe_call (ok_law_row T) (hr.mono (by decide)) rfl (gl_law_row T) (df_law_row T).kp (bi_law_row T) .nil pass0 (pa_cons (pe_joinK (K := K) rfl pe_str ((pe_op op_cat (pv 13) (pv 15)))) pa_nil)) pe_int (nomark _)) (pw_or1 (pt_cmpR op_ne (pe_call (ok_law_row T) (hr.mono (by decide)) rfl (gl_law_row T) (df_law_row T).kp (bi_law_row T) .nil pass0 (pa_cons (pe_joinK (K := K) rfl pe_str (pv 1)) pa_nil)) pe_int (nomark _))))) (pss_one (ps_ret pe_bl)) pss_nil)
      (pss_cons (ps_if (pt_cmpR op_ne (pe_call (ok_law_row T) (hr.mono (by decide)) rfl (gl_law_row T) (df_law_row T).kp (bi_law_row T) .nil pass0 (pa_cons (pe_joinK (K := K) rfl pe_str ((pe_op op_cat (pv 1) (pe_slice (sl_listK (K := K) rfl) (pv 2) po_none (po_some pe_int))))) pa_nil)) pe_int (nomark _)) (pss_one (ps_ret pe_bl)) pss_nil)
      (pss_one (ps_ret (pe_cmpR (op_eqDK hr.units (K := K) rfl) (pe_lst (pa_cons (pe_call (ok_law_row T) (hr.mono (by decide)) rfl (gl_law_row T) (df_law_row T).kp (bi_law_row T) .nil pass0 (pa_cons ((pe_op op_add_str (pe_ix (ix_listK (K := K) rfl) (pv 1) pe_int (fun _ _ => rfl)) pe_str)) pa_nil)) (pa_cons (pe_call (ok_law_row T) (hr.mono (by decide)) rfl (gl_law_row T) (df_law_row T).kp (bi_law_row T) .nil pass0 (pa_cons pe_str pa_nil)) (pa_cons (pe_call (ok_law_row T) (hr.mono (by decide)) rfl (gl_law_row T) (df_law_row T).kp (bi_law_row T) .nil pass0 (pa_cons pe_str pa_nil)) pa_nil)))) (pe_lst (pa_cons pe_int (pa_cons pe_int (pa_cons pe_int pa_nil)))) (nomark _))))))))))))))))))), ?_⟩
    refine q_asgL (xs := [l0].map V.str) (el_lst (ea_cons ev_c ea_nil) (by decide)) fun q1 H1 n1 e1 h1 => ?_
    refine q_asgL (xs := [l0, l1].map V.str) (el_txt (ys := [l0]) (zs := [l1]) (ev_var rfl) h1 (ea_cons ev_c ea_nil) (by decide)) fun pl H2 n2 e2 h2 => ?_
    refine q_asgL (xs := [o0, o1].map V.str) (el_lst (ea_cons ev_c (ea_cons ev_c ea_nil)) (by decide)) fun po H3 n3 e3 h3 => ?_
    have a3 := ex_l (e1.trans (e2.trans e3)) ha
    have l3 := e3 _ _ h2
    show tSeq _ _ _ [some (.ref a), some (.ref pl), some (.ref po), none, none, none, none, none, none, none, none, none, none, none, none, none] H3
    clear e1 e2 e3 h1 h2 n1 n2 n3
    have catLO : ∀ {σ : L2.St} {H' : Hp}, σ[1]? = some (some (.ref pl)) → σ[2]? = some (some (.ref po)) → Ex H3 H' → EvL (tOp rCat (tVar 1) (tVar 2)) σ H' ([l0, l1, o0, o1].map V.str) := fun s1 s2 e => el_catSS (xs := [l0, l1].map V.str) (ys := [o0, o1].map V.str) (ev_var s1) (e _ _ l3) (ev_var s2) (e _ _ h3) (by decide)
    refine q_when (b := false || false) (et_or (et_same (m := -1) (ev_rowJ (rs := [l0, l1, o0, o1]) (catLO rfl rfl (Ex.refl _)) l3_sz (by decide) (e_of (by decide) lo_ok.1 good_rows.1)) (ev_un ev_c ru_neg)) fun _ => et_same (m := -1) (ev_row (x := l0) (ev_op (ev_var rfl) ev_c (rv_ixL (sq_of l3) at0)) (by decide +kernel) (ends_1 (band c4.1).1 good_rows.2)) (ev_un ev_c ru_neg)) (fun h => by cases h) fun _ H4 e4 => ?_
    have a4 := ex_l e4 a3
    have l4 := e4 _ _ l3
    have o4 := e4 _ _ h3
    obtain ⟨m, hm, hm0⟩ : ∃ m : Int, (if (if ((ns.map V.int).length : Int) < 8 then ((ns.map V.int).length : Int) else 8) > 1 then (if ((ns.map V.int).length : Int) < 8 then ((ns.map V.int).length : Int) else 8) else 1) = m ∧ (0 ≤ m ∧ m ≤ 100000) := by
      refine ⟨_, rfl, ?_⟩
      split
      · split <;> omega
      · omega
    refine q_forR1 (n := m) (ea_cons (ev_is (ev_max2 (ea_cons ev_c (ea_cons (ev_min2 (ea_cons ev_c (ea_cons (ev_lenS (ev_var rfl) (.inl a4)) ea_nil))) ea_nil))) (congrArg V.int hm)) ea_nil) hm0 (fun i σ' H' => Ex H4 H' ∧ ∃ s3 s4 s5 s6 s7 s8 s9 s10, σ' = [some (.ref a), some (.ref pl), some (.ref po), s3, s4, s5, s6, s7, s8, s9, s10, none, none, none, none, none]) (fun H5 e5 => ⟨e5, _, _, _, _, _, _, _, _, rfl⟩) (fun i σ' H5 hi hW => ?_) (fun σ' H5 hW => ?_)
    · obtain ⟨e5, s3, s4, s5, s6, s7, s8, s9, s10, rfl⟩ := hW
      refine q_parT (t_cons (t_call (ea_cons (ev_var rfl) (ea_cons (ev_var rfl) ea_nil)) fun H6 e6 => ⟨a, ns, (i : Int), rfl, ex_l (e5.trans e6) a4, by omega, fun c H7 e7 => t_cons (t_call ea_nil fun H8 e8 => ⟨rfl, fun pb H9 np9 e9 h9 => t_nil ⟨_, _, rfl, ?_⟩⟩)⟩))
      have l9 := (((e5.trans e6).trans e7).trans (e8.trans e9)) _ _ l4
      have o9 := (((e5.trans e6).trans e7).trans (e8.trans e9)) _ _ o4
      have x9 := ((e5.trans e6).trans e7).trans (e8.trans e9)
      clear e5 e6 e7 e8 e9
      show tFor _ _ _ _ [some (.ref a), some (.ref pl), some (.ref po), some (.int (i : Int)), some (.int c), some (.ref pb), s6, s7, s8, s9, s10, none, none, none, none, none] H9
      refine s_forE rfl (ea_cons (ev_var rfl) ea_nil) (sq_of h9) (fun k σ' H' => Ex H9 H' ∧ ∃ s6 s7 s8 s9 s10, σ' = [some (.ref a), some (.ref pl), some (.ref po), some (.int (i : Int)), some (.int c), some (.ref pb), s6, s7, s8, s9, s10, none, none, none, none, none]) (fun H1 e1 => ⟨e1, _, _, _, _, _, rfl⟩) (fun k σ' H' _ hW => sq_of (hW.1 _ _ h9)) (fun k x σ' H1 t hx hW ht => ?_) (fun σ' H1 hW => ?_)
      · obtain ⟨e1, z6, z7, z8, z9, z10, rfl⟩ := hW
        obtain ⟨b, hb, rfl⟩ : ∃ b, b ∈ blAll ∧ x = V.str b := by
          rw [List.getElem?_map] at hx
          cases hb : blAll[k]? with
          | none => rw [hb] at hx; cases hx
          | some b => rw [hb] at hx; cases hx; exact ⟨b, List.mem_of_getElem? hb, rfl⟩
        have hk : k < 55 := by
          have := (List.getElem?_eq_some_iff.mp hx).1
          rw [List.length_map, bl_len] at this
          exact this
        have e2 : Ex H1 (upd H1 t (.tup [.int (k : Nat), V.str b])) := Ex.new ht
        generalize upd H1 t (.tup [.int (k : Nat), V.str b]) = H2 at e2 ⊢
        have x2 := e1.trans e2
        clear e1 e2 ht
        show tSeq _ _ _ [some (.ref a), some (.ref pl), some (.ref po), some (.int (i : Int)), some (.int c), some (.ref pb), some (.int (k : Nat)), some (.str b), z8, z9, z10, none, none, none, none, none] H2
        refine q_asgT (t_op1 ev_c fun H3 e3 => t_call (ea_cons (ev_var rfl) (ea_cons (ev_op (ev_op (ev_var rfl) ev_c (rv_I (by decide))) ev_c rv_I0) (ea_cons ev_c ea_nil))) fun H4 e4 => ⟨c, (k : Int) % 12 + 1, 2, rfl, ⟨by omega, by omega⟩, by decide, fun n H5 n0 n1 e5 => ⟨_, _, rfl, rfl, ?_⟩⟩)
        have x5 := x2.trans (e3.trans (e4.trans e5))
        clear x2 e3 e4 e5
        show tSeq _ _ _ [some (.ref a), some (.ref pl), some (.ref po), some (.int (i : Int)), some (.int c), some (.ref pb), some (.int (k : Nat)), some (.str b), some (.int (1 + n)), z9, z10, none, none, none, none, none] H5
        refine q_asgT (t_op1 (ev_var rfl) fun H3 e3 => t_call (ea_cons (ev_var rfl) (ea_cons (ev_op (ev_op (ev_var rfl) ev_c (rv_I (by decide))) ev_c rv_I0) (ea_cons (ev_lenS (ev_var rfl) (.inl (sq_of ((x5.trans e3) _ _ h9)))) ea_nil))) fun H4 e4 => ⟨c, (k : Int) % 12 + 1, _, rfl, ⟨by omega, by omega⟩, by rw [List.length_map, bl_len]; decide, fun z H6 z0 z1 e6 => ?_⟩)
        have x6 := x5.trans (e3.trans (e4.trans e6))
        clear x5 e3 e4 e6
        rw [List.length_map, bl_len] at z1
        obtain ⟨j, rfl⟩ : ∃ j : Nat, z = (j : Int) := ⟨z.toNat, by omega⟩
        have hj : j < blAll.length := by rw [bl_len]; omega
        refine ⟨pb, blAll.map V.str, (j : Int), V.str blAll[j], rfl, rfl, sq_of (x6 _ _ h9), atI_nat (by rw [List.getElem?_map, List.getElem?_eq_getElem hj]; rfl), ?_⟩
        obtain ⟨b', hb', eb'⟩ : ∃ b', b' ∈ blAll ∧ blAll[j] = b' := ⟨_, List.getElem_mem hj, rfl⟩
        rw [eb']
        clear eb' hj
        have l6 := x6 _ _ l9
        have o6 := x6 _ _ o9
        obtain rfl | rfl : n = 0 ∨ n = 1 := by omega
        · show tSeq _ _ _ [some (.ref a), some (.ref pl), some (.ref po), some (.int (i : Int)), some (.int c), some (.ref pb), some (.int (k : Nat)), some (.str b), some (.int 1), some (.str b'), z10, none, none, none, none, none] H6
          refine q_asgL (xs := [l0, b, l1, o0, o1].map V.str) (el_catNS (xs := [l0, b, l1].map V.str) (ys := [o0, o1].map V.str) (el_cat (xs := [l0, b].map V.str) (ys := [l1].map V.str) (el_cat (xs := [l0].map V.str) (ys := [b].map V.str) (el_eq (el_sl (ev_var rfl) eo_none (eo_some (i := 1) (ev_var rfl)) (sq_of l6)) (by rfl)) (el_lst (ea_cons (ev_var rfl) ea_nil) (Nat.le_of_ble_eq_true rfl)) (Nat.le_of_ble_eq_true rfl)) (el_eq (el_sl (ev_var rfl) (eo_some (i := 1) (ev_var rfl)) eo_none (sq_of l6)) (by rfl)) (Nat.le_of_ble_eq_true rfl)) (ev_var rfl) o6 (Nat.le_of_ble_eq_true rfl)) fun pr H7 n7 e7 h7 => ?_
          refine q_when (b := false) (et_same (m := 1) (ev_rowS (rs := [l0, b, l1, o0, o1]) (ev_var rfl) (sq_of h7) (nl_all (row_1 hb).1).2 (Nat.le_of_ble_eq_true rfl) (row_1 hb).2) (ev_var rfl)) (fun h => by cases h) fun _ H8 e8 => ?_
          refine s_when (b := false) (et_same (m := 2) (ev_rowJ (rs := [l0, l1, b, b', o0, o1]) (el_catNS (xs := [l0, l1, b, b'].map V.str) (ys := [o0, o1].map V.str) (el_catS (xs := [l0, l1].map V.str) (ys := [b, b'].map V.str) (ev_var rfl) ((e7.trans e8) _ _ l6) (el_lst (ea_cons (ev_var rfl) (ea_cons (ev_var rfl) ea_nil)) (Nat.le_of_ble_eq_true rfl)) (Nat.le_of_ble_eq_true rfl)) (ev_var rfl) ((e7.trans e8) _ _ o6) (Nat.le_of_ble_eq_true rfl)) (nl_all (row_3 hb hb').1).2 (Nat.le_of_ble_eq_true rfl) (row_3 hb hb').2) ev_c) (fun h => by cases h) fun _ H9 e9 => ⟨x6.trans ((e7.trans e8).trans e9), _, _, _, _, _, rfl⟩
        · show tSeq _ _ _ [some (.ref a), some (.ref pl), some (.ref po), some (.int (i : Int)), some (.int c), some (.ref pb), some (.int (k : Nat)), some (.str b), some (.int 2), some (.str b'), z10, none, none, none, none, none] H6
          refine q_asgL (xs := [l0, l1, b, o0, o1].map V.str) (el_catNS (xs := [l0, l1, b].map V.str) (ys := [o0, o1].map V.str) (el_cat (xs := [l0, l1, b].map V.str) (ys := ([] : List Str).map V.str) (el_cat (xs := [l0, l1].map V.str) (ys := [b].map V.str) (el_eq (el_sl (ev_var rfl) eo_none (eo_some (i := 2) (ev_var rfl)) (sq_of l6)) (by rfl)) (el_lst (ea_cons (ev_var rfl) ea_nil) (Nat.le_of_ble_eq_true rfl)) (Nat.le_of_ble_eq_true rfl)) (el_eq (el_sl (ev_var rfl) (eo_some (i := 2) (ev_var rfl)) eo_none (sq_of l6)) (by rfl)) (Nat.le_of_ble_eq_true rfl)) (ev_var rfl) o6 (Nat.le_of_ble_eq_true rfl)) fun pr H7 n7 e7 h7 => ?_
          refine q_when (b := false) (et_same (m := 2) (ev_rowS (rs := [l0, l1, b, o0, o1]) (ev_var rfl) (sq_of h7) (nl_all (row_2 hb).1).2 (Nat.le_of_ble_eq_true rfl) (row_2 hb).2) (ev_var rfl)) (fun h => by cases h) fun _ H8 e8 => ?_
          refine s_when (b := false) (et_same (m := 2) (ev_rowJ (rs := [l0, l1, b, b', o0, o1]) (el_catNS (xs := [l0, l1, b, b'].map V.str) (ys := [o0, o1].map V.str) (el_catS (xs := [l0, l1].map V.str) (ys := [b, b'].map V.str) (ev_var rfl) ((e7.trans e8) _ _ l6) (el_lst (ea_cons (ev_var rfl) (ea_cons (ev_var rfl) ea_nil)) (Nat.le_of_ble_eq_true rfl)) (Nat.le_of_ble_eq_true rfl)) (ev_var rfl) ((e7.trans e8) _ _ o6) (Nat.le_of_ble_eq_true rfl)) (nl_all (row_3 hb hb').1).2 (Nat.le_of_ble_eq_true rfl) (row_3 hb hb').2) ev_c) (fun h => by cases h) fun _ H9 e9 => ⟨x6.trans ((e7.trans e8).trans e9), _, _, _, _, _, rfl⟩
      · obtain ⟨e1, z6, z7, z8, z9, z10, rfl⟩ := hW
        exact ⟨x9.trans e1, _, _, _, _, _, _, _, _, rfl⟩
    · obtain ⟨e5, s3, s4, s5, s6, s7, s8, s9, s10, rfl⟩ := hW
      have l5 := e5 _ _ l4
      have o5 := e5 _ _ o4
      clear e5 l4 o4 a4 l3 h3 a3 e4 ha
      have catLO2 : ∀ {σ : L2.St} {H' : Hp}, σ[1]? = some (some (.ref pl)) → σ[2]? = some (some (.ref po)) → Ex H5 H' → EvL (tOp rCat (tVar 1) (tVar 2)) σ H' ([l0, l1, o0, o1].map V.str) := fun s1 s2 e => el_catSS (xs := [l0, l1].map V.str) (ys := [o0, o1].map V.str) (ev_var s1) (e _ _ l5) (ev_var s2) (e _ _ o5) (by decide)
      refine q_forNLn (xs := boAll.map V.str) (el_call ea_nil sl_bad) (fun p k σ' H' => Ex H5 H' ∧ H' p = some (.lst (boAll.map V.str)) ∧ ∃ s7, σ' = [some (.ref a), some (.ref pl), some (.ref po), s3, s4, s5, s6, s7, s8, s9, s10, none, none, none, none, none]) (fun p H6 np e6 h6 => ⟨e6, h6, _, rfl⟩) (fun p k σ' H' _ hW => sq_of hW.2.1) (fun p k x σ' H6 hx hW => ?_) (fun p σ' H6 hW => ?_)
      · obtain ⟨e6, h6, z7, rfl⟩ := hW
        obtain ⟨b, hb, rfl⟩ : ∃ b, b ∈ boAll ∧ x = V.str b := by
          rw [List.getElem?_map] at hx
          cases hb : boAll[k]? with
          | none => rw [hb] at hx; cases hx
          | some b => rw [hb] at hx; cases hx; exact ⟨b, List.mem_of_getElem? hb, rfl⟩
        clear hx
        show tIfS _ _ _ _ [some (.ref a), some (.ref pl), some (.ref po), s3, s4, s5, s6, some (.str b), s8, s9, s10, none, none, none, none, none] H6
        refine s_when (b := false || false) (et_or (et_same (m := 4) (ev_rowJ (rs := [l0, l1, o0, o1, b]) (el_cat (xs := [l0, l1, o0, o1].map V.str) (ys := [b].map V.str) (catLO2 rfl rfl e6) (el_lst (ea_cons (ev_var rfl) ea_nil) (Nat.le_of_ble_eq_true rfl)) (Nat.le_of_ble_eq_true rfl)) (nl_all (row_4 hb).1).2 (Nat.le_of_ble_eq_true rfl) (row_4 hb).2) ev_c) fun _ => et_same (m := 4) (ev_rowJ (rs := [l0, l1, o0, o1, b, "x"]) (el_cat (xs := [l0, l1, o0, o1].map V.str) (ys := [b, "x"].map V.str) (catLO2 rfl rfl e6) (el_lst (ea_cons (ev_var rfl) (ea_cons ev_c ea_nil)) (Nat.le_of_ble_eq_true rfl)) (Nat.le_of_ble_eq_true rfl)) (nl_all (row_5 hb).1).2 (Nat.le_of_ble_eq_true rfl) (row_5 hb).2) ev_c) (fun h => by cases h) fun _ H7 e7 => ⟨e6.trans e7, e7 _ _ h6, _, rfl⟩
      · obtain ⟨e6, h6, z7, rfl⟩ := hW
        have l6 := e6 _ _ l5
        have o6 := e6 _ _ o5
        clear l5 o5 e6 h6 catLO2
        have five0 : SeqAt.shaped (.list ([0, 0, 0, 0, 0].map PyData.int)) = true := by decide +kernel
        refine q_when (b := false) (et_is (et_or (et_test (edp_neD (edp_ints (ns := [0, 0, 0, 0, 0]) (el_eq (el_lcTp (ds := [.none, .int 5, .list ([l0, l1].map PyData.str), .bool true, .tuple [.str "a"]]) (fun d => V.int (rowI d)) (edp_tup (eda_cons (edp_ev ev_c .non) (eda_cons edp_int (eda_cons (edp_ev (ev_var rfl) (.lst (sq_of l6) (da_txts H6 [l0, l1]))) (eda_cons edp_bl (eda_cons (edp_tup (eda_cons edp_str eda_nil) (Nat.le_of_ble_eq_true rfl)) eda_nil))))) (Nat.le_of_ble_eq_true rfl)) (Nat.le_of_ble_eq_true rfl) (fun _ => rfl) fun H' x d hm hx => ev_call (ea_cons (ev_var rfl) ea_nil) (sv_row hx fun y e => by
          subst e
          simp at hm)) (by rfl))) (edp_ints (ns := [0, 0, 0, 0, 0]) (el_eq (el_repV (k := 5) ev_c ev_c (by decide)) (by rfl))) five0 five0)) fun _ => et_same (m := 0) (ev_rowS (rs := [o0, o1]) (ev_var rfl) (sq_of o6) (by decide +kernel) (by decide) (e_of (by decide) (by decide +kernel) turns.1)) ev_c) (by rw [eqv_self five0]; rfl)) (fun h => by cases h) fun _ H7 e7 => ?_
        have l7 := e7 _ _ l6
        have o7 := e7 _ _ o6
        clear l6 o6 e7 five0
        refine q_asgL (xs := [l0, o0, l1].map V.str) (el_cat (xs := [l0, o0].map V.str) (ys := [l1].map V.str) (el_cat (xs := [l0].map V.str) (ys := [o0].map V.str) (el_eq (el_sl (ev_var rfl) eo_none (eo_some ev_c) (sq_of l7)) (by rfl)) (el_eq (el_sl (ev_var rfl) eo_none (eo_some ev_c) (sq_of o7)) (by rfl)) (by decide)) (el_eq (el_sl (ev_var rfl) (eo_some ev_c) eo_none (sq_of l7)) (by rfl)) (by decide)) fun pt H8 n8 e8 h8 => ?_
        have l8 := e8 _ _ l7
        have o8 := e8 _ _ o7
        clear l7 o7 e8 n8
        show tSeq _ _ _ [some (.ref a), some (.ref pl), some (.ref po), s3, s4, s5, s6, z7, s8, s9, s10, none, some (.ref pt), none, none, none] H8
        have D4 : EvDp K (tTup (tCons (tTup (tCons (tOp rCat (tVar 1) (tRevL K (tVar 2))) (tCons (tC (.int 3)) tNil))) (tCons (tTup (tCons (tOp rCat (tSl (rSlL K) (tVar 2) tNoPart (tPart (tC (.int 1)))) (tVar 1)) (tCons (tC (.int 0)) tNil))) (tCons (tTup (tCons (tVar 12) (tCons (tC (.int 2)) tNil))) (tCons (tTup (tCons (tOp rCat (tVar 1) (tLst (tCons (tC (.str "")) tNil))) (tCons (tC (.int 2)) tNil))) tNil)))))
            [some (.ref a), some (.ref pl), some (.ref po), s3, s4, s5, s6, z7, s8, s9, s10, none, some (.ref pt), none, none, none] H8 (.tuple [.tuple [.list ([l0, l1, o1, o0].map PyData.str), .int 3], .tuple [.list ([o0, l0, l1].map PyData.str), .int 0], .tuple [.list ([l0, o0, l1].map PyData.str), .int 2], .tuple [.list ([l0, l1, ""].map PyData.str), .int 2]]) :=
          edp_tup (eda_cons (edp_tup (eda_cons (edp_txts (rs := [l0, l1, o1, o0]) (el_catS (xs := [l0, l1].map V.str) (ys := [o1, o0].map V.str) (ev_var rfl) l8 (el_eq (el_rev (ev_var rfl) o8) (by rfl)) (by decide))) (eda_cons edp_int eda_nil)) (Nat.le_of_ble_eq_true rfl))
            (eda_cons (edp_tup (eda_cons (edp_txts (rs := [o0, l0, l1]) (el_catNS (xs := [o0].map V.str) (ys := [l0, l1].map V.str) (el_eq (el_sl (ev_var rfl) eo_none (eo_some ev_c) (sq_of o8)) (by rfl)) (ev_var rfl) l8 (by decide))) (eda_cons edp_int eda_nil)) (Nat.le_of_ble_eq_true rfl))
            (eda_cons (edp_tup (eda_cons (edp_ev (ev_var rfl) (.lst (sq_of h8) (da_txts H8 [l0, o0, l1]))) (eda_cons edp_int eda_nil)) (Nat.le_of_ble_eq_true rfl))
            (eda_cons (edp_tup (eda_cons (edp_txts (rs := [l0, l1, ""]) (el_catS (xs := [l0, l1].map V.str) (ys := ([""] : List Str).map V.str) (ev_var rfl) l8 (el_lst (ea_cons ev_c ea_nil) (by decide)) (by decide))) (eda_cons edp_int eda_nil)) (Nat.le_of_ble_eq_true rfl)) eda_nil)))) (Nat.le_of_ble_eq_true rfl)
        have okD : ∀ d ∈ ([.tuple [.list ([l0, l1, o1, o0].map PyData.str), .int 3], .tuple [.list ([o0, l0, l1].map PyData.str), .int 0], .tuple [.list ([l0, o0, l1].map PyData.str), .int 2], .tuple [.list ([l0, l1, ""].map PyData.str), .int 2]] : List PyData), ∃ (rs : List Str) (m : Int), d = .tuple [.list (rs.map PyData.str), .int m] ∧ rs.all shB = true ∧ rs.length ≤ 40 ∧ rowOf (readM (jn rs)) = m := fun d hd => by
          simp only [List.mem_cons, List.not_mem_nil, or_false] at hd
          rcases hd with rfl | rfl | rfl | rfl
          · exact ⟨[l0, l1, o1, o0], 3, rfl, by decide +kernel, by decide, e_of (by decide) (by decide +kernel) turns.2.1⟩
          · exact ⟨[o0, l0, l1], 0, rfl, by decide +kernel, by decide, e_of (by decide) (by decide +kernel) turns.2.2.1⟩
          · exact ⟨[l0, o0, l1], 2, rfl, by decide +kernel, by decide, e_of (by decide) (by decide +kernel) turns.2.2.2.1⟩
          · exact ⟨[l0, l1, ""], 2, rfl, by decide +kernel, by decide, e_of (by decide) (by decide +kernel) turns.2.2.2.2⟩
        refine q_forTw (D4 H8 (Ex.refl _) _ fun v H9 e9 hv => ?_)
        obtain ⟨p9, xs9, rfl, hx9, hd9⟩ := dpT hv
        have hl9 := dpLen hd9
        clear D4
        refine q_forT (a := p9) (fun H2 _ Q q => q H2 (Ex.refl _)) hx9 (fun k σ' H' => Ex H9 H' ∧ ∃ s8 s10, σ' = [some (.ref a), some (.ref pl), some (.ref po), s3, s4, s5, s6, z7, s8, s9, s10, none, some (.ref pt), none, none, none]) (fun H1 e1 => ⟨e1, _, _, rfl⟩) (fun k σ' H' _ hW => ex_t hW.1 hx9) (fun k x σ' H' hx hW => ?_) (fun σ' H' hW => ?_)
        · obtain ⟨e1, z8, z10, rfl⟩ := hW
          obtain ⟨d, hdm, hdd⟩ := da_at (daM e1 hd9) hx
          obtain ⟨rs, m, rfl, hsh, hle, hro⟩ := okD d hdm
          obtain ⟨t, ys, rfl, hy, hyd⟩ := dpT hdd
          obtain ⟨y1, _, rfl, h1, hyd⟩ := dpC hyd
          obtain ⟨y2, _, rfl, h2, hyd⟩ := dpC hyd
          cases dpN hyd
          rw [dpI h2] at hy
          obtain ⟨r, zs, rfl, hr, hz⟩ := dpL h1
          rw [da_of hz] at hr
          refine ⟨t, [.ref r, .int m], rfl, hy, rfl, _, _, rfl, _, _, rfl, rfl, ?_⟩
          refine s_when (b := false) (et_same (m := m) (ev_rowS (rs := rs) (ev_var rfl) hr hsh hle hro) (ev_var rfl)) (fun h => by cases h) fun _ H7 e7 => ⟨e1.trans e7, _, _, rfl⟩
        · obtain ⟨e1, z8, z10, rfl⟩ := hW
          have lA := (e9.trans e1) _ _ l8
          have oA := (e9.trans e1) _ _ o8
          clear l8 o8 h8 e9 e1 hv hx9 hd9 hl9 okD
          refine q_asgL (xs := five.map V.str) (el_eq (el_lcX (x := Str.ofString "acdef") rfl fiveF (ea_cons ev_c ea_nil) ac_sz.2.1 (fun _ _ => rfl) fun k c H' hk => ev_five rfl rfl (by have z := (Array.getElem?_eq_some_iff.mp hk).1; rw [ac_sz.1] at z; exact z)) five_eq) fun p5 H5' n5 e5 h5 => ?_
          have lB := e5 _ _ lA
          have oB := e5 _ _ oA
          clear lA oA e5 n5
          refine q_asgL (xs := lows.map V.str) (el_eq (el_lcY (x := Str.ofString "abcde") lowsF ev_c ac_sz.2.2 (fun _ => rfl) fun c H' => ev_lows rfl) lows_eq) fun pw Hw nw ew hw => ?_
          have f5 := ew _ _ h5
          have lC := ew _ _ lB
          have oC := ew _ _ oB
          clear lB oB ew nw h5
          show tSeq _ _ _ [some (.ref a), some (.ref pl), some (.ref po), s3, s4, s5, s6, z7, z8, s9, z10, none, some (.ref pt), some (.ref p5), none, some (.ref pw)] Hw
          have cat5 : ∀ {σ : L2.St} {H' : Hp} {tb : TE} (zs : List Str), σ[13]? = some (some (.ref p5)) → Ex Hw H' → EvL tb σ H' (zs.map V.str) → zs.length ≤ 10 → EvL (tOp rCat (tVar 13) tb) σ H' ((five ++ zs).map V.str) := fun {σ H' tb} zs s e h hz => by
            rw [List.map_append]
            exact el_catS (ev_var s) (e _ _ f5) h (by rw [n5.1, List.length_map]; omega)
          refine q_when (b := false || false) (et_or (et_same (m := -1) (ev_rowJ (cat5 (lows.take 4) rfl (Ex.refl _) (el_eq (el_sl (ev_var rfl) eo_none (eo_some ev_c) (sq_of hw)) lows4) (by decide)) g_1.sh g_1.le g_1.ro) (ev_un ev_c ru_neg)) fun _ => et_same (m := 5) (ev_rowJ (cat5 [Str.ofString "line g 9 up 1 1 1: run 1"] rfl (Ex.refl _) (el_lst (ea_cons ev_c ea_nil) (by decide)) (by decide)) g_2.sh g_2.le g_2.ro) ev_c) (fun h => by cases h) fun _ HB eB => ?_
          have g5 : EvL (tOp rCat (tVar 13) (tVar 15)) [some (.ref a), some (.ref pl), some (.ref po), s3, s4, s5, s6, z7, z8, s9, z10, none, some (.ref pt), some (.ref p5), none, some (.ref pw)] HB ((five ++ lows).map V.str) := by
            rw [List.map_append]
            exact el_catSS (ev_var rfl) (eB _ _ f5) (ev_var rfl) (eB _ _ hw) (by rw [n5.1, n5.2]; decide)
          have lD := eB _ _ lC
          have oD := eB _ _ oC
          refine q_when (b := false || false) (et_or (et_same (m := 9) (ev_rowJ g5 g_3.sh g_3.le g_3.ro) ev_c) fun _ => et_same (m := 2) (ev_rowS (rs := [l0, l1]) (ev_var rfl) (sq_of lD) g_4.sh g_4.le g_4.ro) ev_c) (fun h => by cases h) fun _ HC eC => ?_
          have lE := eC _ _ lD
          have oE := eC _ _ oD
          clear g5 cat5 lC oC lD oD f5 hw
          refine q_when (b := false) (et_same (m := 3) (ev_rowJ (rs := [l0, l1, o0]) (el_catS (xs := [l0, l1].map V.str) (ys := [o0].map V.str) (ev_var rfl) lE (el_eq (el_sl (ev_var rfl) eo_none (eo_some ev_c) (sq_of oE)) cut_o) (by decide)) g_5.sh g_5.le g_5.ro) ev_c) (fun h => by cases h) fun _ HD eD => ?_
          have lF := eD _ _ lE
          refine s_ret (v := .bl true) (ev_is (edp_eqD (edp_ints (ns := [1, 0, 1]) (el_lst (ea_cons (ev_row (ev_addS (ev_op (ev_var rfl) ev_c (rv_ixL (sq_of lF) at0)) ev_c lz1.1) lz1.2 row_l) (ea_cons (ev_row ev_c lz2.1 rl_2) (ea_cons (ev_row ev_c lz2.2 rl_3) ea_nil))) (by decide))) (edp_ints (ns := [1, 0, 1]) (el_lst (ea_cons ev_c (ea_cons ev_c (ea_cons ev_c ea_nil))) (by decide))) sh3 sh3) (by rw [eqv_self sh3])) fun H6 e6 => q H6
end
end KW
end
section
set_option Elab.async false
set_option linter.all false
set_option maxRecDepth 100000
set_option maxHeartbeats 0
/-! the end -/
namespace KW
open PySem PySem.Spec PyProof.Rows L2 He
theorem facts {P : Program} {w : World} {K : PySem.W.Frag} {h : Heap} {mg : Str → Option Value} {f : Addr} (X : K.In h) (G : h.Ns mainGlobals mg) (hfa : mg ("law" : Str) = some (.ref f)) (c : SaysX fa fn [] tf ex w h K) :
    ∃ fd : FuncData, (∀ (s : Shared) (v : Value), BindsTo s fd ⟨[v], []⟩ [("_law_script", v)]) ∧ ∀ base : Heap, K.In base → base.Ns mainGlobals mg → FnOk P w K mg base CX0 14 f fd ["_law_script"] (spLaw K) := by
  have T : Txt w K mg := ⟨h, X, G, c⟩
  have e := hfa.symm.trans (gl_law T)
  cases e
  have b := FunD.bindsA (ps := ["_law_script"]) (df_law T) fun _ _ _ _ _ _ us hl => match us, hl with | [_], _ => rfl
  exact ⟨_, fun s v => b s [v] rfl, fun base _ _ => ok_law T⟩
end KW
open PySem PySem.W PySem.Calls PyProof.Rows
theorem PySem.Challenge.cw_knockwell_k05_rows_refused_holds : PySem.Challenge.rw_knockwell_k05_rows_refused.Holds := by
  w_on; o_law
  refine HandSHeadRun.head_any (r := OpenLaw.row PySem.Challenge.rw_knockwell_k05_rows_refused) (q := view (OpenLaw.row PySem.Challenge.rw_knockwell_k05_rows_refused).prog [45]) (H := KW.hk) (ob := KW.ob) (M := 6000) (loose := KW.loose) (d := HandSHeadRun.topDef (OpenLaw.row PySem.Challenge.rw_knockwell_k05_rows_refused).prog 45) (kwd := []) KW.ob_eq
    (by kernel_rfl) (fun s => by kernel_rfl) KW.run (by kernel_rfl) (by kernel_rfl) (by kernel_rfl) (by rfl) (by first | assumption | decide +kernel) (by decide +kernel) ⟨rfl, rfl, rfl, rfl, rfl, by decide +kernel⟩ ?hw ?hc
  case hw => w_witness2
  case hc =>
    refine L2.walk_ofE (l := PySem.Challenge.rw_knockwell_k05_rows_refused) (n := 63) (k := 14) (x := "_law_script") (CX := L2.CX0) rfl (by decide) (by kernel_rfl) ⟨rfl, by decide, by decide⟩ ?F (fun _ _ _ _ z => z)
    intro w mg fa h Y G hmg0
    obtain ⟨K, KX, c⟩ := Y
    have hmg : mg ("law" : PySem.Str) = some (.ref fa) := by
      have e : (HandSHeadRun.topDef (OpenLaw.row PySem.Challenge.rw_knockwell_k05_rows_refused).prog 45).name = ("law" : PySem.Str) := by kernel_rfl
      rw [← e]
      exact hmg0
    obtain ⟨fd, hb, hF⟩ := KW.facts (P := (PySem.Challenge.rw_knockwell_k05_rows_refused).prog) (w := w) KX G hmg c
    exact ⟨K, fd, KW.spLaw K, KX, hb, fun H a ns hl _ hS => ⟨a, ns, rfl, hS, hl, fun _ => rfl⟩, hF⟩
end
